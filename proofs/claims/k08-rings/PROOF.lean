import PyProof.Rows.All
import Wide.All
import OpenK.AllK
import Wide.FinOn
import HandS.ForMost
import HandS.ForExc
import HandS.Lambda
import HandS.EndTab
import HandS.Defaults
import HandS.HeadHook4
import HandS.HeadEnd
import HandS.Head2
import HandS.Zip
import HandS.Conv
import HandS.IsInst
import HandS.RaiseMore
import HandS.More
import HandS.TryMany
import HandS.ExcInit
import HandS.IntHex
import KE.KIntText
import KE.GoesZip
import KE.GoesMore
import KE.GoesEnumKw
import HandS.HeadWalk
import HandS.SortInts
import HandS.Style
import KE.KLam
import KE.DataMinKey
import KE.DataCmp
import HandS.SetKeys
import HandS.TupSets
import KE.SortData
import KE.DataEq
import PyProof.Conv_int_bool
import PyProof.Rows.BitMore
import PySem.Challenge.RW_scribelists_k08_rings
set_option Elab.async false
set_option linter.all false
set_option maxRecDepth 100000
namespace De
open PySem PySem.Spec PyProof.Rows L2

/-! ### values as data: o tells whether a list (a dict) is held by its one owner -/
inductive D where
  | non | bl (b : Bool) | int (i : Int) | str (s : Str)
  | lst (o : Bool) (xs : List D)
  | tup (xs : List D)
  | dic (o : Bool) (ks : List Key) (xs : List D)
  | ty (n : String)
  | rol (xs : List D)

/-- a list of the written part -/
def KL (K : PySem.W.Frag) (a : Addr) (xs : List V) : Prop := SqL K (fun _ => none) a xs
theorem KL.sq {K : PySem.W.Frag} {H : Hp} {a : Addr} {xs : List V} (h : KL K a xs) : SqL K H a xs := by
  rcases h with (h | ⟨_, h⟩) | h
  · cases h
  · cases h
  · exact .inr h

abbrev Wd := Addr → Prop
abbrev Wd.plus (W : Wd) (A : List Addr) : Wd := fun a => W a ∨ a ∈ A

mutual
/-- the value v stands for d; A: the addresses of its own lists; W: what a shared list is not -/
def Own (K : PySem.W.Frag) (W : Wd) (H : Hp) : V → D → List Addr → Prop
  | v, .non, A => v = .non ∧ A = []
  | v, .bl b, A => v = .bl b ∧ A = []
  | v, .int i, A => v = .int i ∧ A = []
  | v, .str s, A => v = .str s ∧ A = []
  | v, .ty s, A => v = .ty s ∧ A = []
  | v, .lst o ds, A => ∃ a vs B, v = .ref a ∧ Owns K W H vs ds B ∧ (match o with
    | true => A = a :: B ∧ H a = some (.lst vs)
    | false => A = [] ∧ B = [] ∧ H a = some (.lst vs) ∧ ¬ W a)
  | v, .rol ds, A => ∃ a vs, v = .ref a ∧ Owns K W H vs ds [] ∧ A = [] ∧ ((Rd H a (.lst vs) ∧ ¬ W a) ∨ KL K a vs)
  | v, .tup ds, A => ∃ a vs, v = .ref a ∧ Owns K W H vs ds A ∧ SqT K H a vs
  | v, .dic o ks ds, A => ∃ a vs B, v = .ref a ∧ ks.length = vs.length ∧ Owns K W H vs ds B ∧ (match o with
    | true => A = a :: B ∧ H a = some (.dK (ks.zip vs))
    | false => A = [] ∧ B = [] ∧ Rd H a (.dK (ks.zip vs)) ∧ ¬ W a)
def Owns (K : PySem.W.Frag) (W : Wd) (H : Hp) : List V → List D → List Addr → Prop
  | vs, [], A => vs = [] ∧ A = []
  | vs, d :: ds, A => ∃ v ws A1 A2, vs = v :: ws ∧ A = A1 ++ A2 ∧ Own K W H v d A1 ∧ Owns K W H ws ds A2
end

mutual
def frz : D → D
  | .non => .non
  | .bl b => .bl b
  | .int i => .int i
  | .str s => .str s
  | .ty s => .ty s
  | .lst _ ds => .lst false (frzs ds)
  | .tup ds => .tup (frzs ds)
  | .rol ds => .rol (frzs ds)
  | .dic _ ks ds => .dic false ks (frzs ds)
def frzs : List D → List D
  | [] => []
  | d :: ds => frz d :: frzs ds
end
theorem frzs_eq (ds : List D) : frzs ds = ds.map frz := by
  induction ds with
  | nil => rfl
  | cons d ds ih => show frz d :: frzs ds = _; rw [ih]; rfl

/-- nothing shared that may change is in it -/
def af : D → Bool
  | .lst o ds => o && afs ds
  | .tup ds => afs ds
  | .dic o _ ds => o && afs ds
  | .rol _ => false
  | _ => true
where afs : List D → Bool
  | [] => true
  | d :: ds => af d && afs ds

/-! ### what stays -/
/-- all but the tables stay; the tables stay tables -/
structure Ext (T : List (Addr × Str)) (H H' : Hp) : Prop where
  e : LamX.ExtN H H'
  t : LamX.Tabs T H → LamX.Tabs T H'
theorem Ext.refl {T : List (Addr × Str)} (H : Hp) : Ext T H H := ⟨LamX.ExtN.refl H, id⟩
theorem Ext.trans {T : List (Addr × Str)} {H H1 H2 : Hp} (a : Ext T H H1) (b : Ext T H1 H2) : Ext T H H2 := ⟨a.e.trans b.e, fun x => b.t (a.t x)⟩
theorem Ext.of {T : List (Addr × Str)} {H H' : Hp} (e : ∀ b o, H b = some o → H' b = some o) : Ext T H H' := ⟨LamX.ExtN.of e, fun x => x.ext e⟩
theorem Ext.new {T : List (Addr × Str)} {H : Hp} {p : Addr} {o : HO} (h : H p = none) : Ext T H (upd H p o) := .of fun b u e => by rw [upd_ne (ne_of_none e h)]; exact e
/-- an object that is no table stands at a -/
def Al (H : Hp) (a : Addr) : Prop := ∃ u, H a = some u ∧ ∀ ps, u ≠ .tbl ps
theorem Al.ext {T : List (Addr × Str)} {H H' : Hp} {a : Addr} (h : Al H a) (x : Ext T H H') : Al H' a := by
  obtain ⟨u, e, n⟩ := h
  exact ⟨u, x.e a u e n, n⟩
theorem Al.no {H : Hp} {a : Addr} (h : H a = none) : ¬ Al H a := fun ⟨u, e, _⟩ => by rw [h] at e; cases e
theorem Al.lst {H : Hp} {a : Addr} {xs : List V} (h : H a = some (.lst xs)) : Al H a := ⟨_, h, fun _ z => by cases z⟩
theorem Al.dK {H : Hp} {a : Addr} {xs : List (Key × V)} (h : H a = some (.dK xs)) : Al H a := ⟨_, h, fun _ z => by cases z⟩
theorem Rd.alL {H : Hp} {a : Addr} {xs : List V} (h : Rd H a (.lst xs)) : Al H a := by
  rcases h with h | ⟨o, h⟩
  · exact .lst h
  · exact ⟨_, h, fun _ z => by cases z⟩
theorem Rd.alD {H : Hp} {a : Addr} {xs : List (Key × V)} (h : Rd H a (.dK xs)) : Al H a := by
  rcases h with h | ⟨o, h⟩
  · exact .dK h
  · exact ⟨_, h, fun _ z => by cases z⟩
theorem rdExt {T : List (Addr × Str)} {H H' : Hp} {a : Addr} {u : HO} (h : Rd H a u) (n : ∀ ps, u ≠ .tbl ps) (x : Ext T H H') : Rd H' a u := by
  rcases h with h | ⟨o, h⟩
  · exact .inl (x.e _ _ h n)
  · exact .inr ⟨o, x.e _ _ h fun _ z => by cases z⟩
theorem SqT.ext {K : PySem.W.Frag} {T : List (Addr × Str)} {H H' : Hp} {a : Addr} {vs : List V} (h : SqT K H a vs) (x : Ext T H H') : SqT K H' a vs :=
  h.imp (fun r => rdExt r (fun _ z => by cases z) x) id

section
variable {K : PySem.W.Frag} {T : List (Addr × Str)} {W W' : Wd} {H H' : Hp}
mutual
theorem Own.ext (x : Ext T H H') (w : ∀ a, W' a → W a ∨ ¬ Al H a) : ∀ (d : D) {v : V} {A : List Addr}, Own K W H v d A → Own K W' H' v d A
  | .non, _, _, h => h
  | .bl _, _, _, h => h
  | .int _, _, _, h => h
  | .str _, _, _, h => h
  | .ty _, _, _, h => h
  | .lst true ds, _, _, h => by
    obtain ⟨a, vs, B, e, h1, e2, h2⟩ := h
    exact ⟨a, vs, B, e, Owns.ext x w ds h1, e2, x.e _ _ h2 fun _ z => by cases z⟩
  | .lst false ds, _, _, h => by
    obtain ⟨a, vs, B, e, h1, e2, e3, h2⟩ := h
    obtain ⟨h2, n⟩ := h2
    refine ⟨a, vs, B, e, Owns.ext x w ds h1, e2, e3, x.e _ _ h2 (fun _ z => by cases z), fun z => ?_⟩
    rcases w a z with z | z
    · exact n z
    · exact z (.lst h2)
  | .rol ds, _, _, h => by
    obtain ⟨a, vs, e, h1, e2, h2⟩ := h
    refine ⟨a, vs, e, Owns.ext x w ds h1, e2, ?_⟩
    rcases h2 with ⟨h2, n⟩ | h2
    · refine .inl ⟨rdExt h2 (fun _ z => by cases z) x, fun z => ?_⟩
      rcases w a z with z | z
      · exact n z
      · exact z (Rd.alL h2)
    · exact .inr h2
  | .tup ds, _, _, h => by
    obtain ⟨a, vs, e, h1, h2⟩ := h
    exact ⟨a, vs, e, Owns.ext x w ds h1, SqT.ext h2 x⟩
  | .dic true ks ds, _, _, h => by
    obtain ⟨a, vs, B, e, l, h1, e2, h2⟩ := h
    exact ⟨a, vs, B, e, l, Owns.ext x w ds h1, e2, x.e _ _ h2 fun _ z => by cases z⟩
  | .dic false ks ds, _, _, h => by
    obtain ⟨a, vs, B, e, l, h1, e2, e3, h2, n⟩ := h
    refine ⟨a, vs, B, e, l, Owns.ext x w ds h1, e2, e3, rdExt h2 (fun _ z => by cases z) x, fun z => ?_⟩
    rcases w a z with z | z
    · exact n z
    · exact z (Rd.alD h2)
theorem Owns.ext (x : Ext T H H') (w : ∀ a, W' a → W a ∨ ¬ Al H a) : ∀ (ds : List D) {vs : List V} {A : List Addr}, Owns K W H vs ds A → Owns K W' H' vs ds A
  | [], _, _, h => h
  | d :: ds, _, _, h => by
    obtain ⟨v, ws, A1, A2, e1, e2, h1, h2⟩ := h
    exact ⟨v, ws, A1, A2, e1, e2, Own.ext x w d h1, Owns.ext x w ds h2⟩
end
mutual
theorem Own.frz (w : ∀ a, W' a → W a) : ∀ (d : D) {v : V} {A : List Addr}, Own K W H v d A → (∀ a ∈ A, ¬ W' a) → Own K W' H v (De.frz d) []
  | .non, _, _, h, _ => ⟨h.1, rfl⟩
  | .bl _, _, _, h, _ => ⟨h.1, rfl⟩
  | .int _, _, _, h, _ => ⟨h.1, rfl⟩
  | .str _, _, _, h, _ => ⟨h.1, rfl⟩
  | .ty _, _, _, h, _ => ⟨h.1, rfl⟩
  | .lst true ds, _, _, h, n => by
    obtain ⟨a, vs, B, e, h1, e2, h2⟩ := h
    subst e2
    exact ⟨a, vs, [], e, Owns.frz w ds h1 fun b hb => n b (List.mem_cons_of_mem _ hb), rfl, rfl, h2, n a (List.mem_cons_self ..)⟩
  | .lst false ds, _, _, h, n => by
    obtain ⟨a, vs, B, e, h1, e2, e3, h2⟩ := h
    subst e2 e3
    exact ⟨a, vs, [], e, Owns.frz w ds h1 (fun b hb => by cases hb), rfl, rfl, h2.1, fun z => h2.2 (w _ z)⟩
  | .rol ds, _, _, h, n => by
    obtain ⟨a, vs, e, h1, e2, h2⟩ := h
    exact ⟨a, vs, e, Owns.frz w ds h1 (fun b hb => by cases hb), rfl, h2.imp (fun h => ⟨h.1, fun z => h.2 (w _ z)⟩) id⟩
  | .tup ds, _, _, h, n => by
    obtain ⟨a, vs, e, h1, h2⟩ := h
    exact ⟨a, vs, e, Owns.frz w ds h1 n, h2⟩
  | .dic true ks ds, _, _, h, n => by
    obtain ⟨a, vs, B, e, l, h1, e2, h2⟩ := h
    subst e2
    exact ⟨a, vs, [], e, l, Owns.frz w ds h1 fun b hb => n b (List.mem_cons_of_mem _ hb), rfl, rfl, .inl h2, n a (List.mem_cons_self ..)⟩
  | .dic false ks ds, _, _, h, n => by
    obtain ⟨a, vs, B, e, l, h1, e2, e3, h2, n2⟩ := h
    subst e2 e3
    exact ⟨a, vs, [], e, l, Owns.frz w ds h1 fun b hb => (by cases hb), rfl, rfl, h2, fun z => n2 (w _ z)⟩
theorem Owns.frz (w : ∀ a, W' a → W a) : ∀ (ds : List D) {vs : List V} {A : List Addr}, Owns K W H vs ds A → (∀ a ∈ A, ¬ W' a) → Owns K W' H vs (De.frzs ds) []
  | [], _, _, h, _ => ⟨h.1, rfl⟩
  | d :: ds, _, _, h, n => by
    obtain ⟨v, ws, A1, A2, e1, e2, h1, h2⟩ := h
    subst e2
    exact ⟨v, ws, [], [], e1, rfl, Own.frz w d h1 fun a ha => n a (List.mem_append_left _ ha), Owns.frz w ds h2 fun a ha => n a (List.mem_append_right _ ha)⟩
end
mutual
theorem Own.al : ∀ (d : D) {v : V} {A : List Addr}, Own K W H v d A → ∀ a ∈ A, Al H a
  | .non, _, _, h => by rw [h.2]; intro a ha; cases ha
  | .bl _, _, _, h => by rw [h.2]; intro a ha; cases ha
  | .int _, _, _, h => by rw [h.2]; intro a ha; cases ha
  | .str _, _, _, h => by rw [h.2]; intro a ha; cases ha
  | .ty _, _, _, h => by rw [h.2]; intro a ha; cases ha
  | .lst true ds, _, _, h => by
    obtain ⟨a, vs, B, e, h1, e2, h2⟩ := h
    subst e2
    intro b hb
    rcases List.mem_cons.mp hb with hb | hb
    · rw [hb]; exact .lst h2
    · exact Owns.al ds h1 b hb
  | .lst false ds, _, _, h => by
    obtain ⟨a, vs, B, e, h1, e2, _⟩ := h
    subst e2
    intro b hb; cases hb
  | .rol ds, _, _, h => by
    obtain ⟨a, vs, e, h1, e2, _⟩ := h
    subst e2
    intro b hb; cases hb
  | .tup ds, _, _, h => by
    obtain ⟨a, vs, e, h1, h2⟩ := h
    exact Owns.al ds h1
  | .dic true ks ds, _, _, h => by
    obtain ⟨a, vs, B, e, l, h1, e2, h2⟩ := h
    subst e2
    intro b hb
    rcases List.mem_cons.mp hb with hb | hb
    · rw [hb]; exact .dK h2
    · exact Owns.al ds h1 b hb
  | .dic false ks ds, _, _, h => by
    obtain ⟨a, vs, B, e, l, h1, e2, _⟩ := h
    subst e2
    intro b hb; cases hb
theorem Owns.al : ∀ (ds : List D) {vs : List V} {A : List Addr}, Owns K W H vs ds A → ∀ a ∈ A, Al H a
  | [], _, _, h => by rw [h.2]; intro a ha; cases ha
  | d :: ds, _, _, h => by
    obtain ⟨v, ws, A1, A2, e1, e2, h1, h2⟩ := h
    subst e2
    intro a ha
    rcases List.mem_append.mp ha with ha | ha
    · exact Own.al d h1 a ha
    · exact Owns.al ds h2 a ha
end
mutual
/-- nothing shared: W does not matter -/
theorem Own.afw : ∀ (d : D) {v : V} {A : List Addr}, af d = true → Own K W H v d A → Own K W' H v d A
  | .non, _, _, _, h => h
  | .bl _, _, _, _, h => h
  | .int _, _, _, _, h => h
  | .str _, _, _, _, h => h
  | .ty _, _, _, _, h => h
  | .lst true ds, _, _, q, h => by
    obtain ⟨a, vs, B, e, h1, e2, h2⟩ := h
    exact ⟨a, vs, B, e, Owns.afw ds (by simpa [af] using q) h1, e2, h2⟩
  | .lst false ds, _, _, q, h => by simp [af] at q
  | .rol ds, _, _, q, h => by simp [af] at q
  | .tup ds, _, _, q, h => by
    obtain ⟨a, vs, e, h1, h2⟩ := h
    exact ⟨a, vs, e, Owns.afw ds (by simpa [af] using q) h1, h2⟩
  | .dic true ks ds, _, _, q, h => by
    obtain ⟨a, vs, B, e, l, h1, e2, h2⟩ := h
    exact ⟨a, vs, B, e, l, Owns.afw ds (by simpa [af] using q) h1, e2, h2⟩
  | .dic false ks ds, _, _, q, h => by simp [af] at q
theorem Owns.afw : ∀ (ds : List D) {vs : List V} {A : List Addr}, af.afs ds = true → Owns K W H vs ds A → Owns K W' H vs ds A
  | [], _, _, _, h => h
  | d :: ds, _, _, q, h => by
    obtain ⟨v, ws, A1, A2, e1, e2, h1, h2⟩ := h
    have q2 : af d = true ∧ af.afs ds = true := by simpa [af.afs] using q
    exact ⟨v, ws, A1, A2, e1, e2, Own.afw d q2.1 h1, Owns.afw ds q2.2 h2⟩
end
theorem Owns.length : ∀ {ds : List D} {vs : List V} {A : List Addr}, Owns K W H vs ds A → vs.length = ds.length
  | [], _, _, h => by rw [h.1]; rfl
  | d :: ds, _, _, h => by
    obtain ⟨v, ws, A1, A2, e1, e2, h1, h2⟩ := h
    rw [e1, List.length_cons, List.length_cons, Owns.length h2]
/-- shared items by place -/
theorem Owns.get : ∀ {ds : List D} {vs : List V} {i : Nat} {d : D}, Owns K W H vs ds [] → ds[i]? = some d → ∃ v, vs[i]? = some v ∧ Own K W H v d []
  | [], _, _, _, _, e => by simp at e
  | d :: ds, _, i, _, h, e => by
    obtain ⟨v, ws, A1, A2, e1, e2, h1, h2⟩ := h
    obtain ⟨z1, z2⟩ := List.append_eq_nil_iff.mp e2.symm
    subst z1 z2 e1
    cases i with
    | zero => simp at e; subst e; exact ⟨v, rfl, h1⟩
    | succ i =>
      obtain ⟨v', a, b⟩ := Owns.get (i := i) h2 (by simpa using e)
      exact ⟨v', by simpa using a, b⟩
theorem Owns.getV : ∀ {ds : List D} {vs : List V} {i : Nat} {v : V}, Owns K W H vs ds [] → vs[i]? = some v → ∃ d, ds[i]? = some d ∧ Own K W H v d [] := fun {ds vs i v} h e => by
  have hl := h.length
  have hi : i < ds.length := by rw [← hl]; exact (List.getElem?_eq_some_iff.mp e).1
  obtain ⟨w, a, b⟩ := Owns.get h (List.getElem?_eq_getElem hi)
  rw [a] at e; cases e
  exact ⟨_, List.getElem?_eq_getElem hi, b⟩
/-- from items to the list, all shared -/
theorem Owns.of : ∀ {ds : List D} {vs : List V}, vs.length = ds.length → (∀ (i : Nat) (d : D) (v : V), ds[i]? = some d → vs[i]? = some v → Own K W H v d []) → Owns K W H vs ds []
  | [], vs, l, _ => ⟨List.length_eq_zero_iff.mp l, rfl⟩
  | d :: ds, [], l, _ => by simp at l
  | d :: ds, v :: vs, l, h => ⟨v, vs, [], [], rfl, rfl, h 0 d v rfl rfl, Owns.of (by simpa using l) fun i d v a b => h (i + 1) d v (by simpa using a) (by simpa using b)⟩
theorem Owns.one {v : V} {d : D} {A : List Addr} (h : Own K W H v d A) : Owns K W H [v] [d] A := ⟨v, [], A, [], rfl, by simp, h, rfl, rfl⟩
theorem Owns.app : ∀ {ds es : List D} {vs ws : List V} {A B : List Addr}, Owns K W H vs ds A → Owns K W H ws es B → Owns K W H (vs ++ ws) (ds ++ es) (A ++ B)
  | [], es, vs, ws, A, B, h, g => by obtain ⟨e1, e2⟩ := h; subst e1 e2; exact g
  | d :: ds, es, vs, ws, A, B, h, g => by
    obtain ⟨v, us, A1, A2, e1, e2, h1, h2⟩ := h
    subst e1 e2
    exact ⟨v, us ++ ws, A1, A2 ++ B, rfl, by rw [List.append_assoc], h1, Owns.app h2 g⟩
end
end De
set_option Elab.async false
set_option linter.all false
set_option maxRecDepth 100000
namespace De
open PySem PySem.Spec PyProof.Rows L2

/-! ### results -/
structure Ex where
  c : Str
  fs : List (Str × Int)
inductive Res (α : Type) where
  | ok (a : α) | ex (e : Ex) | bad
def Res.bind {α β : Type} : Res α → (α → Res β) → Res β
  | .ok a, f => f a
  | .ex e, _ => .ex e
  | .bad, _ => .bad
def lift {α : Type} : Option α → Res α
  | some a => .ok a
  | none => .bad
abbrev Env := List (Option D)
structure Cn where
  K : PySem.W.Frag
  T : List (Addr × Str)
  mg : Str → Option Value
def ExcIs (mg : Str → Option Value) (H : Hp) (e : Ex) (c : Value) (o : Option Addr) : Prop :=
  mg e.c = some c ∧ match e.fs with
    | [] => True
    | fs => ∃ d vs, o = some d ∧ H d = some (.xd vs) ∧ ∀ f x, (f, x) ∈ fs → vs.lookup f = some (.int x)

/-- what an expression may read: the slots M, shared; W: what is not shared -/
structure Rel (C : Cn) (M : List Nat) (W : Wd) (σ : L2.St) (H : Hp) (ρ : Env) : Prop where
  v : ∀ i ∈ M, ∀ d, ρ[i]? = some (some d) → ∃ v, σ[i]? = some (some v) ∧ Own C.K W H v (frz d) []
  al : ∀ a, W a → Al H a
  tb : LamX.Tabs C.T H
  len : σ.length = ρ.length
theorem Rel.ext {C : Cn} {M : List Nat} {W W' : Wd} {σ : L2.St} {H H' : Hp} {ρ : Env} (r : Rel C M W σ H ρ) (x : Ext C.T H H') (w : ∀ a, W' a → W a ∨ (¬ Al H a ∧ Al H' a)) : Rel C M W' σ H' ρ where
  v := fun i hi d e => by
    obtain ⟨v, e1, o⟩ := r.v i hi d e
    exact ⟨v, e1, o.ext x (fun a h => (w a h).imp id (fun z => z.1)) _⟩
  al := fun a h => by
    rcases w a h with h | h
    · exact (r.al a h).ext x
    · exact h.2
  tb := x.t r.tb
  len := r.len
theorem Rel.ext1 {C : Cn} {M : List Nat} {W : Wd} {σ : L2.St} {H H' : Hp} {ρ : Env} (r : Rel C M W σ H ρ) (x : Ext C.T H H') : Rel C M W σ H' ρ := r.ext x fun _ h => .inl h

/-- a value is wanted -/
def RD (C : Cn) (W : Wd) (H : Hp) (o : Option D) (Q : VK) : Prop := match o with
  | some d => ∀ v H' A, Ext C.T H H' → (∀ a ∈ A, ¬ Al H a) → A.Nodup → Own C.K (W.plus A) H' v d A → Q v H'
  | none => False
def Post (C : Cn) (W : Wd) (H : Hp) (r : Res D) (Q : VK) (Wx : XK) : Prop := match r with
  | .ok d => ∀ v H' A, Ext C.T H H' → (∀ a ∈ A, ¬ Al H a) → A.Nodup → Own C.K (W.plus A) H' v d A → Q v H'
  | .ex e => ∀ c o H', Ext C.T H H' → ExcIs C.mg H' e c o → Wx c o H'
  | .bad => False
def PostL (C : Cn) (W : Wd) (H : Hp) (r : Res (List D)) (Q : List V → Hp → Prop) (Wx : XK) : Prop := match r with
  | .ok ds => ∀ vs H' A, Ext C.T H H' → (∀ a ∈ A, ¬ Al H a) → A.Nodup → Owns C.K (W.plus A) H' vs ds A → Q vs H'
  | .ex e => ∀ c o H', Ext C.T H H' → ExcIs C.mg H' e c o → Wx c o H'
  | .bad => False
/-- a test: True or False, nothing kept -/
def PostB (C : Cn) (H : Hp) (r : Res Bool) (Q : Bool → Hp → Prop) (Wx : XK) : Prop := match r with
  | .ok b => ∀ H', Ext C.T H H' → Q b H'
  | .ex e => ∀ c o H', Ext C.T H H' → ExcIs C.mg H' e c o → Wx c o H'
  | .bad => False
def tD (C : Cn) (M : List Nat) (Wx : WX) (f : Env → Res D) : TE := fun σ H Q => ∃ ρ W, Rel C M W σ H ρ ∧ Post C W H (f ρ) Q fun c o H' => Wx c o σ H'
def tDL (C : Cn) (M : List Nat) (Wx : WX) (f : Env → Res (List D)) : TA := fun σ H Q => ∃ ρ W, Rel C M W σ H ρ ∧ PostL C W H (f ρ) Q fun c o H' => Wx c o σ H'
def tDB (C : Cn) (M : List Nat) (Wx : WX) (f : Env → Res Bool) : TT := fun σ H Q => ∃ ρ W, Rel C M W σ H ρ ∧ PostB C H (f ρ) Q fun c o H' => Wx c o σ H'

section
variable {C : Cn} {W : Wd} {H H' : Hp} {Q : VK} {Wx : XK} {r : Res D}
theorem notAl {T : List (Addr × Str)} {H H' : Hp} (x : Ext T H H') {A : List Addr} (n : ∀ a ∈ A, ¬ Al H' a) : ∀ a ∈ A, ¬ Al H a := fun a ha z => n a ha (z.ext x)
theorem Post.ext (p : Post C W H r Q Wx) (x : Ext C.T H H') : Post C W H' r Q Wx := by
  cases r with
  | ok d => exact fun v H2 A x2 n nd o => p v H2 A (x.trans x2) (notAl x n) nd o
  | ex e => exact fun c o H2 x2 q => p c o H2 (x.trans x2) q
  | bad => exact p
theorem PostL.ext {r : Res (List D)} {Q : List V → Hp → Prop} (p : PostL C W H r Q Wx) (x : Ext C.T H H') : PostL C W H' r Q Wx := by
  cases r with
  | ok d => exact fun v H2 A x2 n nd o => p v H2 A (x.trans x2) (notAl x n) nd o
  | ex e => exact fun c o H2 x2 q => p c o H2 (x.trans x2) q
  | bad => exact p
theorem PostB.ext {r : Res Bool} {Q : Bool → Hp → Prop} (p : PostB C H r Q Wx) (x : Ext C.T H H') : PostB C H' r Q Wx := by
  cases r with
  | ok d => exact fun H2 x2 => p H2 (x.trans x2)
  | ex e => exact fun c o H2 x2 q => p c o H2 (x.trans x2) q
  | bad => exact p
theorem RD.post {o : Option D} (p : Post C W H (lift o) Q Wx) : RD C W H o Q := by
  cases o with
  | some d => exact p
  | none => exact p
theorem RD.to {o : Option D} (p : RD C W H o Q) : Post C W H (lift o) Q Wx := by
  cases o with
  | some d => exact p
  | none => exact p
/-- a value that stands already -/
theorem Post.same {v : V} {d : D} (p : Post C W H (.ok d) Q Wx) (o : Own C.K W H v d []) : Q v H :=
  p v H [] (.refl H) (fun a h => by cases h) .nil (o.ext (.refl (T := C.T) H) (fun a h => h.imp id (fun z => by cases z)) _)
theorem RD.same {v : V} {d : D} (p : RD C W H (some d) Q) (o : Own C.K W H v d []) : Q v H := Post.same (Wx := fun _ _ _ => False) (C := C) p o
theorem RD.int {i : Int} (p : RD C W H (some (.int i)) Q) : Q (.int i) H := p.same ⟨rfl, rfl⟩
theorem RD.bl {i : Bool} (p : RD C W H (some (.bl i)) Q) : Q (.bl i) H := p.same ⟨rfl, rfl⟩
theorem RD.str {i : Str} (p : RD C W H (some (.str i)) Q) : Q (.str i) H := p.same ⟨rfl, rfl⟩
theorem RD.non (p : RD C W H (some .non) Q) : Q .non H := p.same ⟨rfl, rfl⟩
/-- a new list of shared things -/
theorem RD.lst {ds : List D} {vs : List V} (p : RD C W H (some (.lst true ds)) Q) (o : Owns C.K W H vs ds []) {a : Addr} (h : H a = none) : Q (.ref a) (upd H a (.lst vs)) :=
  p _ _ [a] (.new h) (fun b hb => by rw [List.mem_singleton.mp hb]; exact Al.no h) (by simp)
    ⟨a, vs, [], rfl, o.ext (.new (T := C.T) h) (fun b hb => by
      rcases hb with hb | hb
      · exact .inl hb
      · rw [List.mem_singleton.mp hb]; exact .inr (Al.no h)) _, rfl, upd_same⟩
theorem RD.tup {ds : List D} {vs : List V} (p : RD C W H (some (.tup ds)) Q) (o : Owns C.K W H vs ds []) {a : Addr} (h : H a = none) : Q (.ref a) (upd H a (.tup vs)) :=
  p _ _ [] (.new h) (fun b hb => by cases hb) .nil
    ⟨a, vs, rfl, o.ext (.new (T := C.T) h) (fun b hb => by
      rcases hb with hb | hb
      · exact .inl hb
      · cases hb) _, SqT.of upd_same⟩
end

section
variable {C : Cn} {W : Wd} {H : Hp} {Wx : XK}
theorem Post.mono {r : Res D} {Q Q' : VK} (p : Post C W H r Q Wx) (q : ∀ v H', Q v H' → Q' v H') : Post C W H r Q' Wx := by
  cases r with
  | ok d => exact fun v H2 A x n nd o => q _ _ (p v H2 A x n nd o)
  | ex e => exact p
  | bad => exact p
theorem PostB.mono {r : Res Bool} {Q Q' : Bool → Hp → Prop} (p : PostB C H r Q Wx) (q : ∀ v H', Q v H' → Q' v H') : PostB C H r Q' Wx := by
  cases r with
  | ok d => exact fun H2 x => q _ _ (p H2 x)
  | ex e => exact p
  | bad => exact p
/-- a part's value, shared from then on -/
theorem Post.bind {r : Res D} {g : D → Res D} {Q : VK} (al : ∀ a, W a → Al H a) (p : Post C W H (r.bind g) Q Wx) :
    Post C W H r (fun y H2 => ∃ d, Ext C.T H H2 ∧ Own C.K W H2 y (frz d) [] ∧ Post C W H2 (g d) Q Wx) Wx := by
  cases r with
  | ok d => exact fun v H2 A x n nd o => ⟨d, x, o.frz (fun a h => .inl h) _ (fun a ha z => n a ha (al a z)), Post.ext (r := g d) p x⟩
  | ex e => exact p
  | bad => exact p
theorem Post.bindT {r : Res D} {g : D → Res Bool} {Q : Bool → Hp → Prop} (al : ∀ a, W a → Al H a) (p : PostB C H (r.bind g) Q Wx) :
    Post C W H r (fun y H2 => ∃ d, Ext C.T H H2 ∧ Own C.K W H2 y (frz d) [] ∧ PostB C H2 (g d) Q Wx) Wx := by
  cases r with
  | ok d => exact fun v H2 A x n nd o => ⟨d, x, o.frz (fun a h => .inl h) _ (fun a ha z => n a ha (al a z)), PostB.ext (r := g d) p x⟩
  | ex e => exact p
  | bad => exact p
theorem PostB.bind {r : Res Bool} {g : Bool → Res D} {Q : VK} (p : Post C W H (r.bind g) Q Wx) :
    PostB C H r (fun b H2 => Ext C.T H H2 ∧ Post C W H2 (g b) Q Wx) Wx := by
  cases r with
  | ok d => exact fun H2 x => ⟨x, Post.ext (r := g d) p x⟩
  | ex e => exact p
  | bad => exact p
theorem PostB.bindT {r : Res Bool} {g : Bool → Res Bool} {Q : Bool → Hp → Prop} (p : PostB C H (r.bind g) Q Wx) :
    PostB C H r (fun b H2 => Ext C.T H H2 ∧ PostB C H2 (g b) Q Wx) Wx := by
  cases r with
  | ok d => exact fun H2 x => ⟨x, PostB.ext (r := g d) p x⟩
  | ex e => exact p
  | bad => exact p
theorem PostL.bind {r : Res (List D)} {g : List D → Res D} {Q : VK} (al : ∀ a, W a → Al H a) (p : Post C W H (r.bind g) Q Wx) :
    PostL C W H r (fun ys H2 => ∃ ds, Ext C.T H H2 ∧ Owns C.K W H2 ys (frzs ds) [] ∧ Post C W H2 (g ds) Q Wx) Wx := by
  cases r with
  | ok d => exact fun v H2 A x n nd o => ⟨d, x, o.frz (fun a h => .inl h) _ (fun a ha z => n a ha (al a z)), Post.ext (r := g d) p x⟩
  | ex e => exact p
  | bad => exact p
end

section
variable {X : Cx} {e : Expr}
theorem pe_weak {t t' : TE} (h : PE X e t) (w : ∀ σ H Q, t' σ H Q → t σ H Q) : PE X e t' := ⟨fun pins s σ H Q I q => h.run pins s σ H Q I (w σ H Q q)⟩
theorem pt_weak {t t' : TT} (h : PT X e t) (w : ∀ σ H Q, t' σ H Q → t σ H Q) : PT X e t' := ⟨fun pins s σ H Q I q => h.run pins s σ H Q I (w σ H Q q)⟩
theorem pa_weak {es : List Expr} {t t' : TA} (h : PA X es t) (w : ∀ σ H Q, t' σ H Q → t σ H Q) : PA X es t' := ⟨fun pos pins s σ H Q I q => h.run pos pins s σ H Q I (w σ H Q q)⟩
theorem ps_weak {st : Stmt} {t t' : TS} (h : PS X st t) (w : ∀ D σ H, t' D σ H → t D σ H) : PS X st t' := ⟨fun pins s σ H D I q => h.run pins s σ H D I (w D σ H q)⟩
theorem pss_weak {st : List Stmt} {t t' : TS} (h : PSs X st t) (w : ∀ D σ H, t' D σ H → t D σ H) : PSs X st t' := ⟨fun pins s σ H D I q => h.run pins s σ H D I (w D σ H q)⟩
end

/-! ### the judgements: expressions -/
section
variable (X : Cx) (T : List (Addr × Str)) (M : List Nat) (Wx : WX)
abbrev DE (e : Expr) (f : Env → Res D) : Prop := PE X e (tD ⟨X.K, T, X.mg⟩ M Wx f)
abbrev DT (e : Expr) (f : Env → Res Bool) : Prop := PT X e (tDB ⟨X.K, T, X.mg⟩ M Wx f)
def DA (es : List Expr) (f : Env → Res (List D)) : Prop := PA X es (tDL ⟨X.K, T, X.mg⟩ M Wx f) ∧ ∀ ρ ds, f ρ = .ok ds → ds.length = es.length
end
def get (ρ : Env) (i : Nat) : Res D := match ρ[i]? with
  | some (some d) => .ok (frz d)
  | _ => .bad
mutual
theorem frz_frz : ∀ d : D, frz (frz d) = frz d
  | .non => rfl
  | .bl _ => rfl
  | .int _ => rfl
  | .str _ => rfl
  | .ty _ => rfl
  | .lst _ ds => by show D.lst false (frzs (frzs ds)) = _; rw [frzs_frzs ds]; rfl
  | .tup ds => by show D.tup (frzs (frzs ds)) = _; rw [frzs_frzs ds]; rfl
  | .rol ds => by show D.rol (frzs (frzs ds)) = _; rw [frzs_frzs ds]; rfl
  | .dic _ ks ds => by show D.dic false ks (frzs (frzs ds)) = _; rw [frzs_frzs ds]; rfl
theorem frzs_frzs : ∀ ds : List D, frzs (frzs ds) = frzs ds
  | [] => rfl
  | d :: ds => by show frz (frz d) :: frzs (frzs ds) = _; rw [frz_frz d, frzs_frzs ds]; rfl
end
section
variable {X : Cx} {T : List (Addr × Str)} {M : List Nat} {Wx : WX} {pos : Pos}
theorem de_var (i : Nat) {x : Str} (hi : i ∈ M := by decide) (hN : X.N[i]? = some x := by rfl) (hv : Vis X.env.scope x := by first | exact Or.inl rfl | exact Or.inr (Or.inl rfl) | exact Or.inr (Or.inr rfl)) (hd : (x == ("__debug__" : Str)) = false := by decide)
    (hcd : (x == ("__classdict__" : Str)) = false := by decide) : DE X T M Wx (.Name x pos) (fun ρ => get ρ i) := by
  refine pe_weak (pe_var hN hv hd hcd) fun σ H Q h => ?_
  obtain ⟨ρ, W, r, p⟩ := h
  dsimp only at p
  unfold get at p
  split at p
  · rename_i d e
    obtain ⟨v, e1, o⟩ := r.v i hi d e
    exact ⟨v, e1, p.same o⟩
  · exact p.elim
theorem de_const {e : Expr} {v : V} (d : D) (h : PE X e (tC v)) (o : ∀ K W H, Own K W H v d []) : DE X T M Wx e (fun _ => .ok d) :=
  pe_weak h fun σ H Q ⟨ρ, W, r, p⟩ => p.same (o _ _ _)
theorem de_int {i j} : DE X T M Wx (.Constant (.int i) j pos) (fun _ => .ok (.int i)) := de_const (.int i) pe_int fun _ _ _ => ⟨rfl, rfl⟩
theorem de_bl {i j} : DE X T M Wx (.Constant (.bool i) j pos) (fun _ => .ok (.bl i)) := de_const (.bl i) pe_bl fun _ _ _ => ⟨rfl, rfl⟩
theorem de_non {j} : DE X T M Wx (.Constant .none j pos) (fun _ => .ok .non) := de_const .non pe_non fun _ _ _ => ⟨rfl, rfl⟩
theorem de_str {i j} : DE X T M Wx (.Constant (.str i) j pos) (fun _ => .ok (.str i)) := de_const (.str i) pe_str fun _ _ _ => ⟨rfl, rfl⟩
theorem de_gint {x : Str} {i : Int} (hg : Gl X x) (hm : ∃ t, X.mg x = some (.int i t)) (hd : (x == ("__debug__" : Str)) = false := by decide) : DE X T M Wx (.Name x pos) (fun _ => .ok (.int i)) := by
  obtain ⟨t, hm⟩ := hm
  exact de_const (v := .int i) (.int i) (pe_glob hg hm ⟨t, rfl⟩ hd) fun _ _ _ => ⟨rfl, rfl⟩
theorem de_gstr {x : Str} {i : Str} (hg : Gl X x) (hm : ∃ t, X.mg x = some (.str i t)) (hd : (x == ("__debug__" : Str)) = false := by decide) : DE X T M Wx (.Name x pos) (fun _ => .ok (.str i)) := by
  obtain ⟨t, hm⟩ := hm
  exact de_const (v := .str i) (.str i) (pe_glob hg hm ⟨t, rfl⟩ hd) fun _ _ _ => ⟨rfl, rfl⟩

/-! ### operators by values -/
def r1D (C : Cn) (g : D → Option D) : V → Hp → VK → Prop := fun x H Q => ∃ W d, (∀ a, W a → Al H a) ∧ LamX.Tabs C.T H ∧ Own C.K W H x d [] ∧ RD C W H (g d) Q
def r2D (C : Cn) (g : D → D → Option D) : R2 := fun x y H Q => ∃ W d e, (∀ a, W a → Al H a) ∧ LamX.Tabs C.T H ∧ Own C.K W H x d [] ∧ Own C.K W H y e [] ∧ RD C W H (g d e) Q
def rsD (C : Cn) (g : List D → Option D) : List V → Hp → VK → Prop := fun xs H Q => ∃ W ds, (∀ a, W a → Al H a) ∧ LamX.Tabs C.T H ∧ Owns C.K W H xs ds [] ∧ RD C W H (g ds) Q
abbrev Cn.of (X : Cx) (T : List (Addr × Str)) : Cn := ⟨X.K, T, X.mg⟩
def op2 (g : D → D → Option D) (fa fb : Env → Res D) : Env → Res D := fun ρ => (fa ρ).bind fun x => (fb ρ).bind fun y => lift (g (frz x) (frz y))
def op1 (g : D → Option D) (fa : Env → Res D) : Env → Res D := fun ρ => (fa ρ).bind fun x => lift (g (frz x))
theorem op2_read {C : Cn} {g : D → D → Option D} {fa fb : Env → Res D} {σ : L2.St} {H : Hp} {Q : VK} (h : tD C M Wx (op2 g fa fb) σ H Q) : tOp (r2D C g) (tD C M Wx fa) (tD C M Wx fb) σ H Q := by
  obtain ⟨ρ, W, r, p⟩ := h
  refine ⟨ρ, W, r, (Post.bind r.al p).mono fun x H1 ⟨d, x1, o1, p1⟩ => ?_⟩
  have r1 := r.ext1 x1
  refine ⟨ρ, W, r1, (Post.bind r1.al p1).mono fun y H2 ⟨e, x2, o2, p2⟩ => ?_⟩
  exact ⟨W, _, _, (r1.ext1 x2).al, (r1.ext1 x2).tb, o1.ext x2 (fun a h => .inl h) _, o2, RD.post p2⟩
theorem de_op {op : Operator} {g : D → D → Option D} {a b : Expr} {fa fb : Env → Res D} (ho : OpR X (binaryOp op) (r2D (Cn.of X T) g)) (ha : DE X T M Wx a fa) (hb : DE X T M Wx b fb) : DE X T M Wx (.BinOp a op b pos) (op2 g fa fb) :=
  pe_weak (pe_op ho ha hb) fun _ _ _ h => op2_read h
theorem de_cmp {op : CmpOp} {g : D → D → Option D} {a b : Expr} {fa fb : Env → Res D} (ho : OpR X (compareOp op) (r2D (Cn.of X T) g)) (ha : DE X T M Wx a fa) (hb : DE X T M Wx b fb) (hm : behindInMarks op b = false := by first | exact nomark _ | rfl) :
    DE X T M Wx (.Compare a [op] [b] pos) (op2 g fa fb) :=
  pe_weak (pe_cmpR ho ha hb hm) fun _ _ _ h => op2_read h
theorem de_un {op : UnaryOp} {g : D → Option D} {a : Expr} {fa : Env → Res D} (ho : UnR X (unaryOp op) (r1D (Cn.of X T) g)) (ha : DE X T M Wx a fa) : DE X T M Wx (.UnaryOp op a pos) (op1 g fa) := by
  refine pe_weak (pe_un ho ha) fun σ H Q h => ?_
  obtain ⟨ρ, W, r, p⟩ := h
  refine ⟨ρ, W, r, (Post.bind r.al p).mono fun x H1 ⟨d, x1, o1, p1⟩ => ?_⟩
  exact ⟨W, _, (r.ext1 x1).al, (r.ext1 x1).tb, o1, RD.post p1⟩
theorem de_ix {g : D → D → Option D} {a b : Expr} {fa fb : Env → Res D} (ho : IxR X (r2D (Cn.of X T) g)) (ha : DE X T M Wx a fa) (hb : DE X T M Wx b fb) (hs : PlainIx b := by exact fun _ _ => rfl) : DE X T M Wx (.Subscript a b pos) (op2 g fa fb) :=
  pe_weak (pe_ix ho ha hb hs) fun _ _ _ h => op2_read h
end
end De
set_option Elab.async false
set_option linter.all false
set_option maxRecDepth 100000
namespace De
open PySem PySem.Spec PyProof.Rows L2

/-! ### tests -/
def toB : D → Res Bool
  | .bl b => .ok b
  | _ => .bad
def tst (f : Env → Res D) : Env → Res Bool := fun ρ => (f ρ).bind toB
def andB (f g : Env → Res Bool) : Env → Res Bool := fun ρ => (f ρ).bind fun b => if b = true then g ρ else .ok false
def orB (f g : Env → Res Bool) : Env → Res Bool := fun ρ => (f ρ).bind fun b => if b = true then .ok true else g ρ
def notB (f : Env → Res Bool) : Env → Res Bool := fun ρ => (f ρ).bind fun b => .ok (!b)
def andV (f g : Env → Res D) : Env → Res D := fun ρ => (tst f ρ).bind fun b => if b = true then g ρ else .ok (.bl false)
def orV (f g : Env → Res D) : Env → Res D := fun ρ => (tst f ρ).bind fun b => if b = true then .ok (.bl true) else g ρ
def notV (f : Env → Res D) : Env → Res D := fun ρ => (tst f ρ).bind fun b => .ok (.bl (!b))
def ifV (t : Env → Res Bool) (f g : Env → Res D) : Env → Res D := fun ρ => (t ρ).bind fun b => if b = true then f ρ else g ρ
section
variable {C : Cn} {M : List Nat} {Wx : WX} {σ : L2.St} {H : Hp}
theorem Post.toB {W : Wd} {Wx : XK} {r : Res D} {Q : Bool → Hp → Prop} (p : PostB C H (r.bind toB) Q Wx) : Post C W H r (fun x H1 => ∃ k, x = .bl k ∧ Q k H1) Wx := by
  cases r with
  | ok d =>
    intro v H2 A x n nd o
    cases d with
    | bl b => obtain ⟨e, _⟩ := o; exact ⟨b, e, p H2 x⟩
    | _ => exact p.elim
  | ex e => exact p
  | bad => exact p
theorem Res.bind_bind {α β γ : Type} (r : Res α) (f : α → Res β) (g : β → Res γ) : (r.bind f).bind g = r.bind fun a => (f a).bind g := by cases r <;> rfl
end
section
variable {X : Cx} {T : List (Addr × Str)} {M : List Nat} {Wx : WX} {pos : Pos} {a b : Expr} {rest : List Expr}
theorem dt_val {f : Env → Res D} (h : DE X T M Wx a f) (he : ∀ whole, isTrue a X.env whole = (do let v ← whole; standAt a.pos; holding [v] (truthy v)) := by intro _; rfl) : DT X T M Wx a (tst f) :=
  pt_weak (pt_val h he) fun σ H Q ⟨ρ, W, r, p⟩ => ⟨ρ, W, r, (Post.toB p)⟩
theorem dt_cmp {op : CmpOp} {g : D → D → Option D} {fa fb : Env → Res D} (ho : OpR X (compareOp op) (r2D (Cn.of X T) g)) (ha : DE X T M Wx a fa) (hb : DE X T M Wx b fb) (hm : behindInMarks op b = false := by first | exact nomark _ | rfl) :
    DT X T M Wx (.Compare a [op] [b] pos) (tst (op2 g fa fb)) :=
  pt_weak (pt_cmpR ho ha hb hm) fun σ H Q ⟨ρ, W, r, p⟩ => op2_read ⟨ρ, W, r, (Post.toB p)⟩
theorem dt_and1 {f : Env → Res Bool} (ha : DT X T M Wx a f) : PW X (.BoolOp .And [a] pos) (tDB (Cn.of X T) M Wx f) := pw_and1 ha
theorem dt_or1 {f : Env → Res Bool} (ha : DT X T M Wx a f) : PW X (.BoolOp .Or [a] pos) (tDB (Cn.of X T) M Wx f) := pw_or1 ha
theorem pw_weak {e : Expr} {t t' : TT} (h : PW X e t) (w : ∀ σ H Q, t' σ H Q → t σ H Q) : PW X e t' := ⟨fun wh pins s σ H Q I q => h.run wh pins s σ H Q I (w σ H Q q)⟩
theorem dt_and {f g : Env → Res Bool} (ha : DT X T M Wx a f) (hb : PW X (.BoolOp .And (b :: rest) pos) (tDB (Cn.of X T) M Wx g)) : PW X (.BoolOp .And (a :: b :: rest) pos) (tDB (Cn.of X T) M Wx (andB f g)) :=
  pw_weak (pw_and ha hb) fun σ H Q ⟨ρ, W, r, p⟩ => ⟨ρ, W, r, (PostB.bindT p).mono fun c H1 ⟨x, q⟩ => by
    cases c with
    | true => rw [if_pos rfl] at q ⊢; exact ⟨ρ, W, r.ext1 x, q⟩
    | false => rw [if_neg (by decide)] at q ⊢; exact q H1 (.refl _)⟩
theorem dt_or {f g : Env → Res Bool} (ha : DT X T M Wx a f) (hb : PW X (.BoolOp .Or (b :: rest) pos) (tDB (Cn.of X T) M Wx g)) : PW X (.BoolOp .Or (a :: b :: rest) pos) (tDB (Cn.of X T) M Wx (orB f g)) :=
  pw_weak (pw_or ha hb) fun σ H Q ⟨ρ, W, r, p⟩ => ⟨ρ, W, r, (PostB.bindT p).mono fun c H1 ⟨x, q⟩ => by
    cases c with
    | false => rw [if_neg (by decide)] at q ⊢; exact ⟨ρ, W, r.ext1 x, q⟩
    | true => rw [if_pos rfl] at q ⊢; exact q H1 (.refl _)⟩
theorem dt_not {f : Env → Res Bool} (ha : DT X T M Wx a f) : DT X T M Wx (.UnaryOp .Not a pos) (notB f) :=
  pt_weak (pt_not ha) fun σ H Q ⟨ρ, W, r, p⟩ => ⟨ρ, W, r, (PostB.bindT p).mono fun c H1 ⟨x, q⟩ => q H1 (.refl _)⟩
theorem de_one {op} {f : Env → Res D} (h : DE X T M Wx a f) : DE X T M Wx (.BoolOp op [a] pos) f := pe_one h
theorem de_and {f g : Env → Res D} (ha : DE X T M Wx a f) (hb : DE X T M Wx (.BoolOp .And (b :: rest) pos) g) : DE X T M Wx (.BoolOp .And (a :: b :: rest) pos) (andV f g) :=
  pe_weak (pe_and ha hb) fun σ H Q ⟨ρ, W, r, p⟩ => ⟨ρ, W, r, (Post.toB (W := W) (PostB.bind p)).mono fun v H1 ⟨c, e, x, q⟩ => ⟨c, e, by
    cases c with
    | true => rw [if_pos rfl] at q ⊢; exact ⟨ρ, W, r.ext1 x, q⟩
    | false => rw [if_neg (by decide)] at q ⊢; exact Post.same q ⟨rfl, rfl⟩⟩⟩
theorem de_or {f g : Env → Res D} (ha : DE X T M Wx a f) (hb : DE X T M Wx (.BoolOp .Or (b :: rest) pos) g) : DE X T M Wx (.BoolOp .Or (a :: b :: rest) pos) (orV f g) :=
  pe_weak (pe_or ha hb) fun σ H Q ⟨ρ, W, r, p⟩ => ⟨ρ, W, r, (Post.toB (W := W) (PostB.bind p)).mono fun v H1 ⟨c, e, x, q⟩ => ⟨c, e, by
    cases c with
    | false => rw [if_neg (by decide)] at q ⊢; exact ⟨ρ, W, r.ext1 x, q⟩
    | true => rw [if_pos rfl] at q ⊢; exact Post.same q ⟨rfl, rfl⟩⟩⟩
theorem de_not {f : Env → Res D} (ha : DE X T M Wx a f) : DE X T M Wx (.UnaryOp .Not a pos) (notV f) :=
  pe_weak (pe_not ha) fun σ H Q ⟨ρ, W, r, p⟩ => ⟨ρ, W, r, (Post.toB (W := W) (PostB.bind p)).mono fun v H1 ⟨c, e, x, q⟩ => ⟨c, e, Post.same q ⟨rfl, rfl⟩⟩⟩
theorem de_if {c : Expr} {t : Env → Res Bool} {f g : Env → Res D} (hc : DT X T M Wx c t) (ha : DE X T M Wx a f) (hb : DE X T M Wx b g) : DE X T M Wx (.IfExp c a b pos) (ifV t f g) :=
  pe_weak (pe_ifExp hc ha hb) fun σ H Q ⟨ρ, W, r, p⟩ => ⟨ρ, W, r, (PostB.bind p).mono fun c H1 ⟨x, q⟩ => by
    cases c with
    | true => rw [if_pos rfl] at q ⊢; exact ⟨ρ, W, r.ext1 x, q⟩
    | false => rw [if_neg (by decide)] at q ⊢; exact ⟨ρ, W, r.ext1 x, q⟩⟩
/-- a < b < c -/
def chn (g g' : D → D → Option D) (fa fb fc : Env → Res D) : Env → Res D := fun ρ => (fa ρ).bind fun x => (fb ρ).bind fun y => (lift (g (frz x) (frz y))).bind fun z => (toB z).bind fun k => if k = true then (fc ρ).bind fun w => lift (g' (frz y) (frz w)) else .ok (.bl false)
theorem chn_read {C : Cn} {g g' : D → D → Option D} {fa fb fc : Env → Res D} {σ : L2.St} {H : Hp} {Q : VK} (h : tD C M Wx (chn g g' fa fb fc) σ H Q) :
    tChain (r2D C g) (r2D C g') (tD C M Wx fa) (tD C M Wx fb) (tD C M Wx fc) σ H Q := by
  obtain ⟨ρ, W, r, p⟩ := h
  refine ⟨ρ, W, r, (Post.bind r.al p).mono fun x H1 ⟨d, x1, o1, p1⟩ => ?_⟩
  have r1 := r.ext1 x1
  refine ⟨ρ, W, r1, (Post.bind r1.al p1).mono fun y H2 ⟨e, x2, o2, p2⟩ => ?_⟩
  have r2 := r1.ext1 x2
  refine ⟨W, _, _, r2.al, r2.tb, o1.ext x2 (fun a h => .inl h) _, o2, ?_⟩
  cases hg : g (frz d) (frz e) with
  | none => rw [hg] at p2; exact p2
  | some z =>
    rw [hg] at p2
    intro v H3 A x3 n nd o3
    have p2 : Post C W H2 ((toB z).bind fun k => if k = true then (fc ρ).bind fun w => lift (g' (frz e) (frz w)) else .ok (.bl false)) Q _ := p2
    cases z with
    | bl k =>
      obtain ⟨ev, _⟩ := o3
      refine ⟨k, ev, ?_⟩
      have p3 : Post C W H3 (if k = true then (fc ρ).bind fun w => lift (g' (frz e) (frz w)) else .ok (.bl false)) Q _ := Post.ext p2 x3
      cases k with
      | true =>
        rw [if_pos rfl] at p3 ⊢
        have r3 := r2.ext1 x3
        refine ⟨ρ, W, r3, (Post.bind r3.al p3).mono fun w H4 ⟨e4, x4, o4, p4⟩ => ?_⟩
        exact ⟨W, _, _, (r3.ext1 x4).al, (r3.ext1 x4).tb, (o2.ext x3 (fun a h => .inl h) _).ext x4 (fun a h => .inl h) _, o4, RD.post p4⟩
      | false =>
        rw [if_neg (by decide)] at p3 ⊢
        exact Post.same p3 ⟨rfl, rfl⟩
    | _ => exact p2.elim
theorem de_chain {op op' : CmpOp} {g g' : D → D → Option D} {c : Expr} {fa fb fc : Env → Res D} (ho : OpR X (compareOp op) (r2D (Cn.of X T) g)) (ho' : OpR X (compareOp op') (r2D (Cn.of X T) g')) (ha : DE X T M Wx a fa) (hb : DE X T M Wx b fb) (hc : DE X T M Wx c fc)
    (hm : lastMarks [op, op'] [b, c] = false := by with_unfolding_all rfl) : DE X T M Wx (.Compare a [op, op'] [b, c] pos) (chn g g' fa fb fc) :=
  pe_weak (pe_chain ho ho' ha hb hc hm) fun _ _ _ h => chn_read h
theorem dt_chain {op op' : CmpOp} {g g' : D → D → Option D} {c : Expr} {fa fb fc : Env → Res D} (ho : OpR X (compareOp op) (r2D (Cn.of X T) g)) (ho' : OpR X (compareOp op') (r2D (Cn.of X T) g')) (ha : DE X T M Wx a fa) (hb : DE X T M Wx b fb) (hc : DE X T M Wx c fc)
    (hm : lastMarks [op, op'] [b, c] = false := by with_unfolding_all rfl) : DT X T M Wx (.Compare a [op, op'] [b, c] pos) (tst (chn g g' fa fb fc)) :=
  pt_weak (pt_chain ho ho' ha hb hc hm) fun σ H Q ⟨ρ, W, r, p⟩ => chn_read ⟨ρ, W, r, (Post.toB p)⟩

/-! ### lists of arguments, displays -/
def nilA : Env → Res (List D) := fun _ => .ok []
def consA (f : Env → Res D) (fs : Env → Res (List D)) : Env → Res (List D) := fun ρ => (f ρ).bind fun d => (fs ρ).bind fun ds => .ok (d :: ds)
theorem da_nil : DA X T M Wx [] nilA := ⟨pa_weak pa_nil fun σ H Q ⟨ρ, W, r, p⟩ => p [] H [] (.refl _) (fun a h => by cases h) .nil ⟨rfl, rfl⟩, fun ρ ds h => by cases h; rfl⟩
theorem da_cons {es : List Expr} {f : Env → Res D} {fs : Env → Res (List D)} (ha : DE X T M Wx a f) (hr : DA X T M Wx es fs) (hs : starEach (a :: es) X.env = (false, eval a X.env) :: starEach es X.env := by rfl) : DA X T M Wx (a :: es) (consA f fs) := by
  refine ⟨pa_weak (pa_cons ha hr.1 hs) fun σ H Q ⟨ρ, W, r, p⟩ => ⟨ρ, W, r, ?_⟩, fun ρ ds h => ?_⟩
  rotate_left
  · unfold consA at h
    cases e : f ρ with
    | ex e' => rw [e] at h; cases h
    | bad => rw [e] at h; cases h
    | ok d =>
      rw [e] at h
      cases e2 : fs ρ with
      | ex e' =>
        have h : (fs ρ).bind (fun ds => .ok (d :: ds)) = .ok ds := h
        rw [e2] at h; cases h
      | bad =>
        have h : (fs ρ).bind (fun ds => .ok (d :: ds)) = .ok ds := h
        rw [e2] at h; cases h
      | ok es' =>
        have h : (fs ρ).bind (fun ds => .ok (d :: ds)) = .ok ds := h
        rw [e2] at h
        cases h
        exact congrArg Nat.succ (hr.2 ρ es' e2)
  unfold consA at p
  cases e : f ρ with
  | ex e' => rw [e] at p; exact p
  | bad => rw [e] at p; exact p
  | ok d =>
    rw [e] at p
    intro v H1 A1 x1 n1 nd1 o1
    have r1 : Rel (Cn.of X T) M (W.plus A1) σ H1 ρ := r.ext x1 fun a h => h.imp id fun h => ⟨n1 a h, Own.al d o1 a h⟩
    refine ⟨ρ, W.plus A1, r1, ?_⟩
    have p : PostL (Cn.of X T) W H ((fs ρ).bind fun ds => .ok (d :: ds)) Q _ := p
    cases e2 : fs ρ with
    | ex e' => rw [e2] at p; exact PostL.ext (r := .ex e') p x1
    | bad => rw [e2] at p; exact p
    | ok ds =>
      rw [e2] at p
      intro vs H2 A2 x2 n2 nd2 o2
      refine p (v :: vs) H2 (A1 ++ A2) (x1.trans x2) (fun a ha => ?_) ?_ ⟨v, vs, A1, A2, rfl, rfl, o1.ext x2 (fun a h => ?_) _, o2.ext (.refl (T := T) H2) (fun a h => .inl ?_) _⟩
      · rcases List.mem_append.mp ha with h | h
        · exact n1 a h
        · exact fun z => n2 a h (z.ext x1)
      · refine List.nodup_append.mpr ⟨nd1, nd2, fun a h b h' q => ?_⟩
        subst q
        exact n2 a h' (Own.al d o1 a h)
      · rcases h with h | h
        · exact .inl (.inl h)
        · rcases List.mem_append.mp h with h | h
          · exact .inl (.inr h)
          · exact .inr (n2 a h)
      · rcases h with h | h
        · exact .inl (.inl h)
        · rcases List.mem_append.mp h with h | h
          · exact .inl (.inr h)
          · exact .inr h
def lstA (fs : Env → Res (List D)) : Env → Res D := fun ρ => (fs ρ).bind fun ds => if ds.length ≤ 16777216 then .ok (.lst true ds) else .bad
def tupA (fs : Env → Res (List D)) : Env → Res D := fun ρ => (fs ρ).bind fun ds => if ds.length ≤ 16777216 then .ok (.tup ds) else .bad
theorem sl_line : (16777216 : Nat) = sizeLine := by rw [sizeLine_eq]
theorem de_lst {es : List Expr} {fs : Env → Res (List D)} (h : DA X T M Wx es fs) : DE X T M Wx (.List es pos) (lstA fs) := by
  refine pe_weak (pe_lst h.1) fun σ H Q ⟨ρ, W, r, p⟩ => ⟨ρ, W, r, ?_⟩
  unfold lstA at p
  cases e : fs ρ with
  | ex e' => rw [e] at p; exact p
  | bad => rw [e] at p; exact p
  | ok ds =>
    rw [e] at p
    have p : Post (Cn.of X T) W H (if ds.length ≤ 16777216 then .ok (.lst true ds) else .bad) Q _ := p
    intro vs H1 A x n nd o
    split at p
    · rename_i hl
      refine ⟨by rw [o.length, ← sl_line]; exact hl, fun q hq => p _ _ (q :: A) (x.trans (.new hq)) (fun a ha => ?_) ?_ ⟨q, vs, A, rfl, o.ext (.new (T := T) hq) (fun a h => ?_) _, rfl, upd_same⟩⟩
      · rcases List.mem_cons.mp ha with h | h
        · rw [h]; exact fun z => Al.no hq (z.ext x)
        · exact n a h
      · exact List.nodup_cons.mpr ⟨fun z => Al.no hq (Owns.al ds o q z), nd⟩
      · rcases h with h | h
        · exact .inl (.inl h)
        · rcases List.mem_cons.mp h with h | h
          · rw [h]; exact .inr (Al.no hq)
          · exact .inl (.inr h)
    · exact p.elim
theorem de_tup {es : List Expr} {k} {fs : Env → Res (List D)} (h : DA X T M Wx es fs) : DE X T M Wx (.Tuple es k pos) (tupA fs) := by
  refine pe_weak (pe_tup h.1) fun σ H Q ⟨ρ, W, r, p⟩ => ⟨ρ, W, r, ?_⟩
  unfold tupA at p
  cases e : fs ρ with
  | ex e' => rw [e] at p; exact p
  | bad => rw [e] at p; exact p
  | ok ds =>
    rw [e] at p
    have p : Post (Cn.of X T) W H (if ds.length ≤ 16777216 then .ok (.tup ds) else .bad) Q _ := p
    intro vs H1 A x n nd o
    split at p
    · rename_i hl
      exact ⟨by rw [o.length, ← sl_line]; exact hl, fun q hq => p _ _ A (x.trans (.new hq)) n nd ⟨q, vs, rfl, o.ext (.new (T := T) hq) (fun a h => .inl h) _, SqT.of upd_same⟩⟩
    · exact p.elim

/-! ### calls -/
def calA (g : List D → Option D) (fs : Env → Res (List D)) : Env → Res D := fun ρ => (fs ρ).bind fun ds => lift (g (frzs ds))
theorem calA_read {C : Cn} {g : List D → Option D} {fs : Env → Res (List D)} {σ : L2.St} {H : Hp} {Q : VK} (h : tD C M Wx (calA g fs) σ H Q) : tCB (rsD C g) (tDL C M Wx fs) σ H Q := by
  obtain ⟨ρ, W, r, p⟩ := h
  refine ⟨ρ, W, r, ?_⟩
  have q := PostL.bind r.al p
  cases e : fs ρ with
  | ok ds =>
    rw [e] at q
    intro vs H2 A x n nd o
    obtain ⟨es, x2, o2, p2⟩ := q vs H2 A x n nd o
    exact ⟨W, _, (r.ext1 x2).al, (r.ext1 x2).tb, o2, RD.post p2⟩
  | ex e' => rw [e] at q; exact q
  | bad => rw [e] at q; exact q
theorem de_callB {id : String} {x : Str} {p : Pos} {es : List Expr} {g : List D → Option D} {fs : Env → Res (List D)} (hc : CallR X (.builtin id) (rsD (Cn.of X T) g)) (hg : Gl X x) (hm : X.mg x = none) (hv : bootBuiltins x = some (.builtin id)) (ha : DA X T M Wx (a :: es) fs)
    (hn : x ≠ "__name__" := by decide) (hdb : (x == ("__debug__" : Str)) = false := by decide) (he : starEach (a :: es) X.env = (false, eval a X.env) :: starEach es X.env := by rfl) (hpl : (backTo pos (starEach es X.env)).any (·.1) = false := by rfl) :
    DE X T M Wx (.Call (.Name x p) (a :: es) [] pos) (calA g fs) :=
  pe_weak (pe_callB hc hg hm hv ha.1 hn hdb he hpl) fun _ _ _ h => calA_read h
theorem de_callTy {id : String} {x : Str} {p : Pos} {es : List Expr} {g : List D → Option D} {fs : Env → Res (List D)} (hc : CallR X (.type id) (rsD (Cn.of X T) g)) (hg : Gl X x) (hm : X.mg x = none) (hv : bootBuiltins x = some (.type id)) (ha : DA X T M Wx (a :: es) fs)
    (hn : x ≠ "__name__" := by decide) (hdb : (x == ("__debug__" : Str)) = false := by decide) (he : starEach (a :: es) X.env = (false, eval a X.env) :: starEach es X.env := by rfl) (hpl : (backTo pos (starEach es X.env)).any (·.1) = false := by rfl) :
    DE X T M Wx (.Call (.Name x p) (a :: es) [] pos) (calA g fs) :=
  pe_weak (pe_callTy hc hg hm hv ha.1 hn hdb he hpl) fun _ _ _ h => calA_read h
/-- what a def promises -/
def spD (C : Cn) (n : Nat) (F : List D → Res D) : Sp := fun vs H Q E => ∃ ds W, (∀ a, W a → Al H a) ∧ LamX.Tabs C.T H ∧ Owns C.K W H vs ds [] ∧ ds.length = n ∧ Post C W H (F ds) Q E
theorem run_callW {k : Nat} {f : Addr} {fd : FuncData} {ps : List Str} {sp : Sp} {dvs : List V} {ds : List Value} {pins : List (Addr × Obj)} {σ : L2.St} {H : Hp} {s : Shared} {Q : VK} {us : List Value} {vs : List V} (F : FnOk X.prog X.w X.K X.mg X.base (L2.CX X.prog X.w) k f fd ps sp)
    (hr : Room k X.A) (hb : Binds X.K fd ps ds) (hd : Vals dvs ds) (tk : Takes X Wx) (I : Inv X pins σ H s) (r : Vals vs us) (h : sp (vs ++ dvs) H Q fun c o H' => Wx c o σ H') : wpAny (model X.prog X.w) X.A (call (.ref f) us) (EP X pins σ Q) X.xe s := by
  have both : Vals (vs ++ dvs) (us ++ ds) := r.append hd
  have hl : (us ++ ds).length = ps.length := both.length.symm.trans (F.len _ _ _ _ h)
  refine wpAny_call (codeAny_mono (F.run X.A X.stack s H ⟨us, []⟩ (us ++ ds) (vs ++ dvs) Q _ hr I.env0 (hb s us I.kIn hl) both h) fun r s' hq => ?_)
  cases r with
  | error e => exact tk _ _ (XE.of_call I (fun _ _ _ z => z) hq)
  | ok fl =>
    cases fl with
    | ret u => exact I.after hq
    | next => exact False.elim hq
    | brk => exact False.elim hq
    | cont => exact False.elim hq
def fnA (F : List D → Res D) (dv : List D) (fs : Env → Res (List D)) : Env → Res D := fun ρ => (fs ρ).bind fun ds => F (frzs ds ++ dv)
theorem de_call {x : Str} {p : Pos} {es : List Expr} {k n : Nat} {f : Addr} {fd : FuncData} {ps : List Str} {dvs : List V} {ds : List Value} {dv : List D} {F : List D → Res D} {fs : Env → Res (List D)}
    (G : FnOk X.prog X.w X.K X.mg X.base (L2.CX X.prog X.w) k f fd ps (spD (Cn.of X T) n F)) (hr : Room k X.A) (hg : Gl X x) (hm : X.mg x = some (.ref f)) (hk : PySem.W.keepIn X.K (.ref f) = true) (hb : Binds X.K fd ps ds) (hd : Vals dvs ds) (tk : Takes X Wx)
    (hdv : ∀ W H, Owns X.K W H dvs dv []) (ha : DA X T M Wx (a :: es) fs) (hn : es.length + 1 + dv.length = n := by rfl)
    (hdb : (x == ("__debug__" : Str)) = false := by decide) (he : starEach (a :: es) X.env = (false, eval a X.env) :: starEach es X.env := by rfl) (hpl : (backTo pos (starEach es X.env)).any (·.1) = false := by rfl) :
    DE X T M Wx (.Call (.Name x p) (a :: es) [] pos) (fnA F dv fs) := by
  refine ⟨fun pins s σ H Q I ⟨ρ, W, r, q⟩ => ?_⟩
  refine wpAny_Call_Name_kw (ld_glob I hg hm ?_ hdb)
  have q2 : tDL (Cn.of X T) M Wx fs σ H fun vs H1 => spD (Cn.of X T) n F (vs ++ dvs) H1 Q fun c o H' => Wx c o σ H' := by
    refine ⟨ρ, W, r, ?_⟩
    cases e : fs ρ with
    | ex e' => unfold fnA at q; rw [e] at q; exact q
    | bad => unfold fnA at q; rw [e] at q; exact q
    | ok es' =>
      unfold fnA at q
      rw [e] at q
      intro vs H2 A x n2 nd o
      have r2 := r.ext1 x
      refine ⟨frzs es' ++ dv, W, r2.al, r2.tb, ?_, ?_, Post.ext (r := F _) q x⟩
      · have := Owns.app (o.frz (fun a h => .inl h) _ (fun a ha z => n2 a ha (r.al a z))) (hdv W H2)
        simpa using this
      · rw [List.length_append, frzs_eq, List.length_map, ha.2 ρ es' e, List.length_cons]; exact hn
  refine PySem.W.callWith_K (h₀ := X.base) I.ok.mod.kin hk (thn (ha.1.run pos pins s σ H _ I q2) fun us s1 ⟨vs, H1, I1, r, q⟩ => ⟨I1.kIn, ?_⟩) he hpl
  exact run_callW G hr hb hd tk I1 r q
end
end De
set_option Elab.async false
set_option linter.all false
set_option maxRecDepth 100000
namespace De
open PySem PySem.Spec PyProof.Rows L2

/-! ### a store to one object -/
/-- objects of one kind that may be written -/
def likeO : HO → HO → Bool
  | .lst _, .lst _ => true
  | .dK _, .dK _ => true
  | _, _ => false
section
variable {K : PySem.W.Frag} {W : Wd} {H : Hp} {p : Addr} {o o' : HO}
theorem like_tup (h : likeO o o' = true) {xs : List V} : o ≠ .tup xs := fun z => by subst z; cases h
theorem like_frz (h : likeO o o' = true) {q u} : o ≠ .frz q u := fun z => by subst z; cases h
theorem like_tbl (h : likeO o o' = true) {q} : o ≠ .tbl q := fun z => by subst z; cases h
theorem like_tbl' (h : likeO o o' = true) {q} : o' ≠ .tbl q := fun z => by subst z; cases o <;> cases h
theorem like_ext (h : likeO o o' = true) {q} : o ≠ .ext q := fun z => by subst z; cases h
theorem SqT.upd (hp : H p = some o) (l : likeO o o' = true) {a : Addr} {vs : List V} (h : SqT K H a vs) : SqT K (upd H p o') a vs := by
  rcases h with (h | ⟨q, h⟩) | h
  · exact .inl (.inl (by rw [upd_ne (fun z => by rw [z, hp] at h; exact like_tup l (Option.some.inj h))]; exact h))
  · exact .inl (.inr ⟨q, by rw [upd_ne (fun z => by rw [z, hp] at h; exact like_frz l (Option.some.inj h))]; exact h⟩)
  · exact .inr h
theorem rdUpd {a : Addr} {u : HO} (h : Rd H a u) (n : a ≠ p) : Rd (upd H p o') a u := by
  rcases h with h | ⟨q, h⟩
  · exact .inl (by rw [upd_ne n]; exact h)
  · exact .inr ⟨q, by rw [upd_ne n]; exact h⟩
mutual
theorem Own.upd (hp : H p = some o) (l : likeO o o' = true) (w : W p) : ∀ (d : D) {v : V} {A : List Addr}, Own K W H v d A → p ∉ A → Own K W (L2.upd H p o') v d A
  | .non, _, _, h, _ => h
  | .bl _, _, _, h, _ => h
  | .int _, _, _, h, _ => h
  | .str _, _, _, h, _ => h
  | .ty _, _, _, h, _ => h
  | .lst true ds, _, _, h, n => by
    obtain ⟨a, vs, B, e, h1, e2, h2⟩ := h
    subst e2
    have na : a ≠ p := fun z => n (by rw [z]; exact List.mem_cons_self ..)
    exact ⟨a, vs, B, e, Owns.upd hp l w ds h1 fun z => n (List.mem_cons_of_mem _ z), rfl, by rw [upd_ne na]; exact h2⟩
  | .lst false ds, _, _, h, n => by
    obtain ⟨a, vs, B, e, h1, e2, e3, h2⟩ := h
    subst e2 e3
    exact ⟨a, vs, [], e, Owns.upd hp l w ds h1 n, rfl, rfl, by rw [upd_ne (fun z => h2.2 (by rw [z]; exact w))]; exact h2.1, h2.2⟩
  | .rol ds, _, _, h, n => by
    obtain ⟨a, vs, e, h1, e2, h2⟩ := h
    exact ⟨a, vs, e, Owns.upd hp l w ds h1 (fun z => by cases z), e2, h2.imp (fun h => ⟨rdUpd h.1 fun z => h.2 (by rw [z]; exact w), h.2⟩) id⟩
  | .tup ds, _, _, h, n => by
    obtain ⟨a, vs, e, h1, h2⟩ := h
    exact ⟨a, vs, e, Owns.upd hp l w ds h1 n, SqT.upd hp l h2⟩
  | .dic true ks ds, _, _, h, n => by
    obtain ⟨a, vs, B, e, q, h1, e2, h2⟩ := h
    subst e2
    have na : a ≠ p := fun z => n (by rw [z]; exact List.mem_cons_self ..)
    exact ⟨a, vs, B, e, q, Owns.upd hp l w ds h1 fun z => n (List.mem_cons_of_mem _ z), rfl, by rw [upd_ne na]; exact h2⟩
  | .dic false ks ds, _, _, h, n => by
    obtain ⟨a, vs, B, e, q, h1, e2, e3, h2, h3⟩ := h
    subst e2 e3
    exact ⟨a, vs, [], e, q, Owns.upd hp l w ds h1 n, rfl, rfl, rdUpd h2 fun z => h3 (by rw [z]; exact w), h3⟩
theorem Owns.upd (hp : H p = some o) (l : likeO o o' = true) (w : W p) : ∀ (ds : List D) {vs : List V} {A : List Addr}, Owns K W H vs ds A → p ∉ A → Owns K W (L2.upd H p o') vs ds A
  | [], _, _, h, _ => h
  | d :: ds, _, _, h, n => by
    obtain ⟨v, ws, A1, A2, e1, e2, h1, h2⟩ := h
    subst e2
    exact ⟨v, ws, A1, A2, e1, rfl, Own.upd hp l w d h1 fun z => n (List.mem_append_left _ z), Owns.upd hp l w ds h2 fun z => n (List.mem_append_right _ z)⟩
end
theorem tabsUpd {T : List (Addr × Str)} (hp : H p = some o) (l : likeO o o' = true) (t : LamX.Tabs T H) : LamX.Tabs T (upd H p o') := fun q hq => by
  obtain ⟨ps, h1, h2, h3⟩ := t q hq
  refine ⟨ps, by rw [upd_ne (fun z => by rw [z, hp] at h1; exact like_tbl l (Option.some.inj h1))]; exact h1, h2, fun pos cv hc => ?_⟩
  obtain ⟨c, e1, e2⟩ := h3 pos cv hc
  exact ⟨c, e1, by rw [upd_ne (fun z => by rw [z, hp] at e2; unfold LamX.CodeO at e2; exact like_ext l (Option.some.inj e2))]; exact e2⟩
theorem extUpd {T : List (Addr × Str)} {H0 : Hp} (hp : H p = some o) (l : likeO o o' = true) (x : Ext T H0 H) (n : ¬ Al H0 p) : Ext T H0 (upd H p o') :=
  ⟨fun b u e nt => by rw [upd_ne (fun z => n ⟨u, by rw [← z]; exact e, nt⟩)]; exact x.e b u e nt, fun t => tabsUpd hp l (x.t t)⟩
theorem alUpd (l : likeO o o' = true) {a : Addr} (h : Al H a) : Al (upd H p o') a := by
  by_cases z : a = p
  · exact ⟨o', by rw [z]; exact upd_same, fun ps q => like_tbl' l q⟩
  · obtain ⟨u, e, n⟩ := h
    exact ⟨u, by rw [upd_ne z]; exact e, n⟩
end

/-! ### targets -/
inductive Tg where
  | one (i : Nat) | tup (is : List Nat)
def setN (ρ : Env) : List Nat → List D → Env
  | i :: is, d :: ds => setN (ρ.set i (some d)) is ds
  | _, _ => ρ
def Tg.bind : Tg → D → Env → Option Env
  | .one i, d, ρ => some (ρ.set i (some d))
  | .tup is, .tup ds, ρ => if ds.length = is.length then some (setN ρ is ds) else none
  | _, _, _ => none
def Tg.slots : Tg → List Nat
  | .one i => [i]
  | .tup is => is
def gsN : List Nat → TGs
  | [] => gNil
  | i :: is => gCons (gName i) (gsN is)
def gD (K : PySem.W.Frag) : Tg → TG
  | .one i => gName i
  | .tup is => gTup K is.length (gsN is)
/-- what a target's stores do to slots -/
structure Sets (C : Cn) (W : Wd) (H : Hp) (is : List Nat) (σ σ' : L2.St) (ρ ρ' : Env) : Prop where
  ls : σ'.length = σ.length
  lr : ρ'.length = ρ.length
  out : ∀ i, i ∉ is → σ'[i]? = σ[i]? ∧ ρ'[i]? = ρ[i]?
  at_ : ∀ i d, i ∈ is → ρ'[i]? = some (some d) → ∃ v, σ'[i]? = some (some v) ∧ Own C.K W H v d []
section
variable {C : Cn} {W : Wd} {H : Hp}
theorem sets_one {i : Nat} {σ : L2.St} {ρ : Env} {v : V} {d : D} (hl : σ.length = ρ.length) (o : Own C.K W H v d []) : Sets C W H [i] σ (σ.set i (some v)) ρ (ρ.set i (some d)) where
  ls := List.length_set ..
  lr := List.length_set ..
  out := fun j hj => by
    have n : i ≠ j := fun z => hj (by rw [z]; exact List.mem_singleton.mpr rfl)
    exact ⟨List.getElem?_set_ne n, List.getElem?_set_ne n⟩
  at_ := fun j e hj he => by
    have z := List.mem_singleton.mp hj
    subst z
    by_cases hi : j < ρ.length
    · rw [List.getElem?_set_self hi] at he
      cases he
      exact ⟨v, by rw [List.getElem?_set_self (by omega)], o⟩
    · rw [List.getElem?_eq_none (by simpa using hi)] at he
      cases he
theorem Sets.trans {is js : List Nat} {σ σ1 σ2 : L2.St} {ρ ρ1 ρ2 : Env} (a : Sets C W H is σ σ1 ρ ρ1) (b : Sets C W H js σ1 σ2 ρ1 ρ2) : Sets C W H (is ++ js) σ σ2 ρ ρ2 where
  ls := b.ls.trans a.ls
  lr := b.lr.trans a.lr
  out := fun i hi => by
    have h1 := a.out i fun z => hi (List.mem_append_left _ z)
    have h2 := b.out i fun z => hi (List.mem_append_right _ z)
    exact ⟨h2.1.trans h1.1, h2.2.trans h1.2⟩
  at_ := fun i d hi he => by
    by_cases hj : i ∈ js
    · exact b.at_ i d hj he
    · have h := b.out i hj
      rcases List.mem_append.mp hi with hk | hk
      · obtain ⟨v, h3, h4⟩ := a.at_ i d hk (by rw [← h.2]; exact he)
        exact ⟨v, h.1.trans h3, h4⟩
      · exact absurd hk hj
theorem Sets.nil {σ : L2.St} {ρ : Env} : Sets C W H [] σ σ ρ ρ := ⟨rfl, rfl, fun _ _ => ⟨rfl, rfl⟩, fun _ _ h => by cases h⟩
theorem gsN_read : ∀ (is : List Nat) (ds : List D) (vs : List V) (σ : L2.St) (ρ : Env) (Q : L2.St → Hp → Prop), σ.length = ρ.length → Owns C.K W H vs ds [] → ds.length = is.length →
    (∀ σ', Sets C W H is σ σ' ρ (setN ρ is ds) → Q σ' H) → gsN is vs σ H Q
  | [], [], vs, σ, ρ, Q, hl, o, _, h => ⟨o.1, h σ .nil⟩
  | [], d :: ds, _, _, _, _, _, _, l, _ => by simp at l
  | i :: is, [], _, _, _, _, _, _, l, _ => by simp at l
  | i :: is, d :: ds, vs, σ, ρ, Q, hl, o, l, h => by
    obtain ⟨v, ws, A1, A2, e1, e2, h1, h2⟩ := o
    obtain ⟨z1, z2⟩ := List.append_eq_nil_iff.mp e2.symm
    subst z1 z2
    have s1 := sets_one (i := i) hl h1
    exact ⟨v, ws, e1, gsN_read is ds ws (σ.set i (some v)) (ρ.set i (some d)) Q (by rw [List.length_set, List.length_set]; exact hl) h2 (by simpa using l) fun σ' s2 => h σ' (s1.trans s2)⟩
theorem gD_read {tg : Tg} {v : V} {d : D} {σ : L2.St} {ρ ρ' : Env} {Q : L2.St → Hp → Prop} (hl : σ.length = ρ.length) (o : Own C.K W H v d []) (e : tg.bind d ρ = some ρ') (h : ∀ σ', Sets C W H tg.slots σ σ' ρ ρ' → Q σ' H) : gD C.K tg v σ H Q := by
  cases tg with
  | one i => cases e; exact h _ (sets_one hl o)
  | tup is =>
    cases d with
    | tup ds =>
      have e : (if ds.length = is.length then some (setN ρ is ds) else none) = some ρ' := e
      split at e
      · rename_i hn
        cases e
        obtain ⟨a, vs, ea, h1, h2⟩ := o
        exact ⟨a, vs, ea, h2, by rw [h1.length]; exact hn, gsN_read is ds vs σ ρ Q hl h1 hn h⟩
      · cases e
    | _ => cases e
theorem Rel.sets {M M' : List Nat} {σ σ' : L2.St} {ρ ρ' : Env} {is : List Nat} (r : Rel C M W σ H ρ) (s : Sets C W H is σ σ' ρ ρ') (hM : ∀ i ∈ M', i ∈ M ∨ i ∈ is) : Rel C M' W σ' H ρ' where
  v := fun i hi d e => by
    by_cases hk : i ∈ is
    · obtain ⟨v, e1, o⟩ := s.at_ i d hk e
      exact ⟨v, e1, o.frz (fun _ h => h) _ fun a ha => by cases ha⟩
    · have h := s.out i hk
      rcases hM i hi with h' | h'
      · obtain ⟨v, e1, o⟩ := r.v i h' d (by rw [← h.2]; exact e)
        exact ⟨v, h.1.trans e1, o⟩
      · exact absurd h' hk
  al := r.al
  tb := r.tb
  len := by rw [s.ls, s.lr]; exact r.len
end

/-! ### sources of loops and comprehensions -/
def Pins (C : Cn) (W : Wd) (H : Hp) (P : List (V × D)) : Prop := ∀ p ∈ P, Own C.K W H p.1 p.2 []
structure Src (C : Cn) (P : List (V × D)) (J : It) (ds : List D) : Prop where
  sz : ds.length ≤ sizeLine
  go : ∀ i W H, Pins C W H P → i < ds.length → J.go i H
  yld : ∀ i W H x H', Pins C W H P → J.yld i H x H' → i < ds.length → Ext C.T H H' ∧ ∃ d, ds[i]? = some d ∧ Own C.K W H' x d []
  stop : ∀ i W H, Pins C W H P → i = ds.length → J.stop i H
def PostI (C : Cn) (W : Wd) (H : Hp) (r : Res (List D)) (R : It → Hp → Prop) (Wx : XK) : Prop := match r with
  | .ok ds => ∀ J H1 P, Ext C.T H H1 → Pins C W H1 P → Src C P J ds → R J H1
  | .ex e => ∀ c o H', Ext C.T H H' → ExcIs C.mg H' e c o → Wx c o H'
  | .bad => False
def tI (C : Cn) (M : List Nat) (Wx : WX) (f : Env → Res (List D)) : TI := fun σ H R => ∃ ρ W, Rel C M W σ H ρ ∧ PostI C W H (f ρ) R fun c o H' => Wx c o σ H'
abbrev DI (X : Cx) (T : List (Addr × Str)) (M : List Nat) (Wx : WX) (tg e : Expr) (f : Env → Res (List D)) : Prop := PI X tg e (tI (Cn.of X T) M Wx f)
/-- the sizes that every state keeps -/
structure Sized (K : PySem.W.Frag) (H : Hp) : Prop where
  l : ∀ a xs, SqL K H a xs → xs.length ≤ sizeLine
  t : ∀ a xs, SqT K H a xs → xs.length ≤ sizeLine
theorem Inv.sized {X : Cx} {pins : List (Addr × Obj)} {σ : L2.St} {H : Hp} {s : Shared} (I : Inv X pins σ H s) : Sized X.K H := ⟨fun a xs h => by obtain ⟨_, _, _, z⟩ := I.list h; exact z, fun a xs h => by obtain ⟨_, _, _, z⟩ := I.tuple h; exact z⟩
theorem pe_sized {X : Cx} {e : Expr} {t : TE} (h : PE X e t) : PE X e (fun σ H Q => t σ H fun v H1 => Sized X.K H1 → Q v H1) :=
  ⟨fun pins s σ H Q I q => thn (h.run pins s σ H _ I q) fun u s1 ⟨x, H1, I1, r1, q1⟩ => ⟨x, H1, I1, r1, q1 (Inv.sized I1)⟩⟩
theorem pi_weak {X : Cx} {tg e : Expr} {t t' : TI} (h : PI X tg e t) (w : ∀ σ H R, t' σ H R → t σ H R) : PI X tg e t' := ⟨fun pins s σ H R I q => h.run pins s σ H R I (w σ H R q)⟩
section
variable {C : Cn} {W : Wd} {H : Hp}
theorem own_list {o : Bool} {v : V} {ds : List D} {A : List Addr} (h : Own C.K W H v (.lst o ds) A) : ∃ a vs, v = .ref a ∧ SqL C.K H a vs ∧ ∃ B, Owns C.K W H vs ds B := by
  cases o with
  | true => obtain ⟨a, vs, B, e, h1, e2, h2⟩ := h; exact ⟨a, vs, e, SqL.of h2, B, h1⟩
  | false => obtain ⟨a, vs, B, e, h1, e2, e3, h2⟩ := h; exact ⟨a, vs, e, SqL.of h2.1, B, h1⟩
theorem own_listF {v : V} {ds : List D} (h : Own C.K W H v (.lst false ds) []) : ∃ a vs, v = .ref a ∧ SqL C.K H a vs ∧ Owns C.K W H vs ds [] := by
  obtain ⟨a, vs, B, e, h1, e2, e3, h2⟩ := h
  subst e3
  exact ⟨a, vs, e, SqL.of h2.1, h1⟩
theorem own_rol {v : V} {ds : List D} {A : List Addr} (h : Own C.K W H v (.rol ds) A) : ∃ a vs, v = .ref a ∧ SqL C.K H a vs ∧ Owns C.K W H vs ds [] := by
  obtain ⟨a, vs, e, h1, e2, h2⟩ := h
  exact ⟨a, vs, e, h2.elim (fun z => .inl z.1) KL.sq, h1⟩
/-- a list that is read: shared, or one that nobody writes -/
theorem own_seqL {v : V} {d : D} {ds : List D} (e : d = .lst false ds ∨ d = .rol ds) {A : List Addr} (h : Own C.K W H v d A) : ∃ a vs, v = .ref a ∧ SqL C.K H a vs ∧ Owns C.K W H vs ds [] := by
  rcases e with e | e
  · subst e
    obtain ⟨a, vs, B, e, h1, e2, e3, h2⟩ := h
    subst e3
    exact ⟨a, vs, e, SqL.of h2.1, h1⟩
  · subst e; exact own_rol h
theorem own_tupF {v : V} {ds : List D} {A : List Addr} (h : Own C.K W H v (.tup ds) A) : ∃ a vs, v = .ref a ∧ SqT C.K H a vs ∧ Owns C.K W H vs ds A := by
  obtain ⟨a, vs, e, h1, h2⟩ := h
  exact ⟨a, vs, e, h2, h1⟩
theorem src_list {a : Addr} {d : D} {ds : List D} {vs : List V} (ed : d = .lst false ds ∨ d = .rol ds) (hz : vs.length ≤ sizeLine) (h : SqL C.K H a vs) (o : Owns C.K W H vs ds []) : Src C [(.ref a, d)] (Itl C.K a) ds where
  sz := by rw [← o.length]; exact hz
  go := fun i W H p hi => by
    obtain ⟨b, ws, e, h, o⟩ := own_seqL ed (p _ (List.mem_singleton.mpr rfl))
    cases e
    exact ⟨ws, ws[i]'(by rw [o.length]; exact hi), h, List.getElem?_eq_getElem _⟩
  yld := fun i W H x H' p y hi => by
    obtain ⟨b, ws, e, h, o⟩ := own_seqL ed (p _ (List.mem_singleton.mpr rfl))
    cases e
    obtain ⟨e, y⟩ := y
    subst e
    exact ⟨.refl _, Owns.getV o (y ws h)⟩
  stop := fun i W H p hi => by
    obtain ⟨b, ws, e, h, o⟩ := own_seqL ed (p _ (List.mem_singleton.mpr rfl))
    cases e
    exact ⟨ws, h, by rw [o.length]; exact Nat.le_of_eq hi.symm⟩
theorem src_tup {a : Addr} {ds : List D} {vs : List V} (hz : vs.length ≤ sizeLine) (h : SqT C.K H a vs) (o : Owns C.K W H vs ds []) : Src C [(.ref a, .tup ds)] (Itt C.K a) ds where
  sz := by rw [← o.length]; exact hz
  go := fun i W H p hi => by
    obtain ⟨b, ws, e, h, o⟩ := own_tupF (p _ (List.mem_singleton.mpr rfl))
    cases e
    exact ⟨ws, ws[i]'(by rw [o.length]; exact hi), h, List.getElem?_eq_getElem _⟩
  yld := fun i W H x H' p y hi => by
    obtain ⟨b, ws, e, h, o⟩ := own_tupF (p _ (List.mem_singleton.mpr rfl))
    cases e
    obtain ⟨e, y⟩ := y
    subst e
    exact ⟨.refl _, Owns.getV o (y ws h)⟩
  stop := fun i W H p hi => by
    obtain ⟨b, ws, e, h, o⟩ := own_tupF (p _ (List.mem_singleton.mpr rfl))
    cases e
    exact ⟨ws, h, by rw [o.length]; exact Nat.le_of_eq hi.symm⟩
def rngD (lo : Int) (n : Nat) : List D := (List.range n).map fun i => D.int (lo + (i : Nat))
theorem rngD_len (lo : Int) (n : Nat) : (rngD lo n).length = n := by unfold rngD; rw [List.length_map, List.length_range]
theorem src_rng {lo : Int} {n : Nat} (h : n ≤ sizeLine) : Src C [] (Itr lo n) (rngD lo n) where
  sz := by rw [rngD_len]; exact h
  go := fun i W H p hi => by rw [rngD_len] at hi; exact hi
  yld := fun i W H x H' p y hi => by
    rw [rngD_len] at hi
    obtain ⟨e, y⟩ := y
    subst e y
    exact ⟨.refl _, .int (lo + (i : Nat)), by unfold rngD; rw [List.getElem?_map, List.getElem?_range hi]; rfl, rfl, rfl⟩
  stop := fun i W H p hi => by rw [rngD_len] at hi; exact Nat.le_of_eq hi.symm
end
def itemsL : D → Res (List D)
  | .lst _ ds => .ok (frzs ds)
  | .rol ds => .ok (frzs ds)
  | _ => .bad
def itemsT : D → Res (List D)
  | .tup ds => .ok (frzs ds)
  | _ => .bad
def itm (k : D → Res (List D)) (f : Env → Res D) : Env → Res (List D) := fun ρ => (f ρ).bind k
section
variable {X : Cx} {T : List (Addr × Str)} {M : List Nat} {Wx : WX} {pos : Pos} {tg a b : Expr}
theorem Post.bindI {C : Cn} {W : Wd} {H : Hp} {Wx : XK} {r : Res D} {g : D → Res (List D)} {R : It → Hp → Prop} (al : ∀ a, W a → Al H a) (p : PostI C W H (r.bind g) R Wx) :
    Post C W H r (fun y H2 => ∃ d, Ext C.T H H2 ∧ Own C.K W H2 y (frz d) [] ∧ PostI C W H2 (g d) R Wx) Wx := by
  cases r with
  | ok d =>
    intro v H2 A x n nd o
    refine ⟨d, x, o.frz (fun a h => .inl h) _ (fun a ha z => n a ha (al a z)), ?_⟩
    have p : PostI C W H (g d) R Wx := p
    cases e : g d with
    | ok ds => rw [e] at p; exact fun J H1 P x1 => p J H1 P (x.trans x1)
    | ex e' => rw [e] at p; exact fun c o H1 x1 => p c o H1 (x.trans x1)
    | bad => rw [e] at p; exact p
  | ex e => exact p
  | bad => exact p
theorem di_list {f : Env → Res D} (h : DE X T M Wx a f) : DI X T M Wx tg a (itm itemsL f) := by
  refine pi_weak (pi_list (pe_sized h)) fun σ H R ⟨ρ, W, r, p⟩ => ⟨ρ, W, r, (Post.bindI r.al p).mono fun v H1 ⟨d, x, o, q⟩ sz => ?_⟩
  have fin : ∀ {ds : List D}, (frz d = .lst false (frzs ds) ∨ frz d = .rol (frzs ds)) → PostI (Cn.of X T) W H1 (.ok (frzs ds)) R (fun c o H' => Wx c o σ H') → ∃ a, v = .ref a ∧ (∃ xs, SqL X.K H1 a xs) ∧ R (Itl X.K a) H1 := by
    intro ds e q
    obtain ⟨p, vs, e2, h1, h2⟩ := own_seqL (C := Cn.of X T) e o
    refine ⟨p, e2, ⟨vs, h1⟩, q _ _ [(.ref p, frz d)] (.refl _) (fun z hz => ?_) (src_list (C := Cn.of X T) e (sz.l _ _ h1) h1 h2)⟩
    rw [List.mem_singleton.mp hz, ← e2]; exact o
  cases d with
  | lst b ds => exact fin (.inl rfl) q
  | rol ds => exact fin (.inr rfl) q
  | _ => exact q.elim
theorem di_tup {f : Env → Res D} (h : DE X T M Wx a f) : DI X T M Wx tg a (itm itemsT f) := by
  refine pi_weak (pi_tup (pe_sized h)) fun σ H R ⟨ρ, W, r, p⟩ => ⟨ρ, W, r, (Post.bindI r.al p).mono fun v H1 ⟨d, x, o, q⟩ sz => ?_⟩
  cases d with
  | tup ds =>
    obtain ⟨p, vs, e, h1, h2⟩ := own_tupF (C := Cn.of X T) (show Own _ _ _ _ (.tup (frzs ds)) [] from o)
    refine ⟨p, e, ⟨vs, h1⟩, q _ _ [(.ref p, .tup (frzs ds))] (.refl _) (fun z hz => ?_) (src_tup (C := Cn.of X T) (sz.t _ _ h1) h1 h2)⟩
    rw [List.mem_singleton.mp hz, ← e]; exact o
  | _ => exact q.elim
/-- range(n), range(a, b) -/
def rngA (fs : Env → Res (List D)) : Env → Res (List D) := fun ρ => (fs ρ).bind fun ds => match ds with
  | [.int j] => if j ≤ 16777216 ∧ -(2 ^ 62) ≤ j then .ok (rngD 0 j.toNat) else .bad
  | [.int i, .int j] => if -(2 ^ 62) ≤ i ∧ i < 2 ^ 62 ∧ -(2 ^ 62) ≤ j ∧ j < 2 ^ 62 ∧ (j - i).toNat ≤ 16777216 then .ok (rngD i (j - i).toNat) else .bad
  | _ => .bad
theorem owns1 {C : Cn} {W : Wd} {H : Hp} {vs : List V} {i : Int} {A : List Addr} (o : Owns C.K W H vs [.int i] A) : vs = [.int i] := by
  obtain ⟨v, ws, A1, A2, e1, e2, h1, h2⟩ := o
  rw [e1, h1.1, h2.1]
theorem owns2 {C : Cn} {W : Wd} {H : Hp} {vs : List V} {i j : Int} {A : List Addr} (o : Owns C.K W H vs [.int i, .int j] A) : vs = [.int i, .int j] := by
  obtain ⟨v, ws, A1, A2, e1, e2, h1, h2⟩ := o
  rw [e1, h1.1, owns1 h2]
theorem di_rng1 {p : Pos} {fs : Env → Res (List D)} (hg : Gl X "range") (hm : X.mg "range" = none) (ha : DA X T M Wx [a] fs) (hs : starEach [a] X.env = [(false, eval a X.env)] := by rfl) : DI X T M Wx tg (.Call (.Name "range" p) [a] [] pos) (rngA fs) := by
  refine pi_weak (pi_range1 hg hm ha.1 hs) fun σ H R ⟨ρ, W, r, q⟩ => ⟨ρ, W, r, ?_⟩
  unfold rngA at q
  have hl := ha.2 ρ
  cases e : fs ρ with
  | ex e' => rw [e] at q; exact q
  | bad => rw [e] at q; exact q
  | ok ds =>
    rw [e] at q hl
    have hl := hl ds rfl
    intro vs H1 A x n nd o
    match ds, q, o, hl with
    | [.int j], q, o, _ =>
      have q : PostI (Cn.of X T) W H (if j ≤ 16777216 ∧ -(2 ^ 62) ≤ j then .ok (rngD 0 j.toNat) else .bad) R _ := q
      split at q
      · rename_i hj
        exact ⟨j, owns1 (C := Cn.of X T) o, hj.2, by omega, q _ _ [] x (fun z hz => by cases hz) (src_rng (by rw [← sl_line]; omega))⟩
      · exact q.elim
theorem di_rng2 {p : Pos} {fs : Env → Res (List D)} (hg : Gl X "range") (hm : X.mg "range" = none) (ha : DA X T M Wx [a, b] fs) (hs : starEach [a, b] X.env = [(false, eval a X.env), (false, eval b X.env)] := by rfl) (hs2 : starEach [b] X.env = [(false, eval b X.env)] := by rfl) :
    DI X T M Wx tg (.Call (.Name "range" p) [a, b] [] pos) (rngA fs) := by
  refine pi_weak (pi_range2 hg hm ha.1 hs hs2) fun σ H R ⟨ρ, W, r, q⟩ => ⟨ρ, W, r, ?_⟩
  unfold rngA at q
  have hl := ha.2 ρ
  cases e : fs ρ with
  | ex e' => rw [e] at q; exact q
  | bad => rw [e] at q; exact q
  | ok ds =>
    rw [e] at q hl
    have hl := hl ds rfl
    intro vs H1 A x n nd o
    match ds, q, o, hl with
    | [.int i, .int j], q, o, _ =>
      have q : PostI (Cn.of X T) W H (if -(2 ^ 62) ≤ i ∧ i < 2 ^ 62 ∧ -(2 ^ 62) ≤ j ∧ j < 2 ^ 62 ∧ (j - i).toNat ≤ 16777216 then .ok (rngD i (j - i).toNat) else .bad) R _ := q
      split at q
      · rename_i hj
        exact ⟨i, j, owns2 (C := Cn.of X T) o, ⟨hj.1, hj.2.1, hj.2.2.1, hj.2.2.2.1⟩, q _ _ [] x (fun z hz => by cases hz) (src_rng (by rw [← sl_line]; omega))⟩
      · exact q.elim
end
end De
set_option Elab.async false
set_option linter.all false
set_option maxRecDepth 100000
namespace De
open PySem PySem.Spec PyProof.Rows L2

/-! ### list comprehensions -/
def lcGo (tg : Tg) (tt : Env → Res Bool) (te : Env → Res D) (ρ : Env) : List D → Option (List D)
  | [] => some []
  | d :: ds => match tg.bind d ρ with
    | none => none
    | some ρ' => match tt ρ' with
      | .ok true => (match te ρ' with
        | .ok y => (lcGo tg tt te ρ ds).map (y :: ·)
        | _ => none)
      | .ok false => lcGo tg tt te ρ ds
      | _ => none
def lcA (src : Env → Res (List D)) (tg : Tg) (tt : Env → Res Bool) (te : Env → Res D) : Env → Res D := fun ρ => (src ρ).bind fun ds => lift ((lcGo tg tt te ρ ds).map (.lst true))
def yesB : Env → Res Bool := fun _ => .ok true
theorem wipe_in {σ : L2.St} {i : Nat} : ∀ {vs : List Nat}, i ∈ vs → i < σ.length → (wipe σ vs)[i]? = some none
  | [], h, _ => by cases h
  | v :: vs, h, hl => by
    unfold wipe
    by_cases e : v = i
    · subst e
      rw [List.getElem?_set_self (by rw [wipe_length]; exact hl)]
    · rw [List.getElem?_set_ne e]
      exact wipe_in ((List.mem_cons.mp h).resolve_left fun z => e z.symm) hl
theorem wipe_eq {σ σ' : L2.St} {vs : List Nat} (hl : σ'.length = σ.length) (h : ∀ i, i ∉ vs → σ'[i]? = σ[i]?) : wipe σ' vs = wipe σ vs := by
  refine List.ext_getElem? fun i => ?_
  by_cases hi : i ∈ vs
  · by_cases hk : i < σ.length
    · rw [wipe_in hi hk, wipe_in hi (by omega)]
    · rw [List.getElem?_eq_none (by rw [wipe_length]; omega), List.getElem?_eq_none (by rw [wipe_length]; omega)]
  · rw [wipe_out hi, wipe_out hi]; exact h i hi
section
variable {C : Cn} {M M' : List Nat} {W : Wd} {σ : L2.St} {H : Hp} {ρ : Env}
theorem Rel.setsW {σ' : L2.St} {ρ' : Env} {is : List Nat} (r : Rel C M W σ H ρ) (s : Sets C W H is (wipe σ is) σ' ρ ρ') (hM : ∀ i ∈ M', i ∈ M ∨ i ∈ is) : Rel C M' W σ' H ρ' where
  v := fun i hi d e => by
    by_cases hk : i ∈ is
    · obtain ⟨v, e1, o⟩ := s.at_ i d hk e
      exact ⟨v, e1, o.frz (fun _ h => h) _ fun a ha => by cases ha⟩
    · have h := s.out i hk
      rcases hM i hi with h' | h'
      · obtain ⟨v, e1, o⟩ := r.v i h' d (by rw [← h.2]; exact e)
        exact ⟨v, by rw [h.1, wipe_out hk]; exact e1, o⟩
      · exact absurd h' hk
  al := r.al
  tb := r.tb
  len := by rw [s.ls, s.lr, wipe_length]; exact r.len
theorem Pins.ext {C : Cn} {W W' : Wd} {H H' : Hp} {P : List (V × D)} (p : Pins C W H P) (x : Ext C.T H H') (w : ∀ a, W' a → W a ∨ ¬ Al H a) : Pins C W' H' P := fun q hq => (p q hq).ext x w _

/-- a comprehension's turns: what stands when the list at p holds ys -/
structure LcAt (C : Cn) (M : List Nat) (W : Wd) (σ : L2.St) (H0 : Hp) (ρ : Env) (P : List (V × D)) (p : Addr) (acc : List D) (H : Hp) (vs : List V) (A : List Addr) : Prop where
  lst : H p = some (.lst vs)
  own : Owns C.K (W.plus (p :: A)) H vs acc A
  nd : A.Nodup
  new : ∀ a ∈ A, ¬ Al H0 a
  np : p ∉ A
  ext : Ext C.T H0 H
  rel : Rel C M (W.plus (p :: A)) σ H ρ
  pin : Pins C (W.plus (p :: A)) H P
theorem lc_read {tg : Tg} {tt : Env → Res Bool} {te : Env → Res D} {src : Env → Res (List D)} {Wx : WX} {Q : VK} {X : Cx} {T : List (Addr × Str)}
    (hM : ∀ i ∈ M', i ∈ M ∨ i ∈ tg.slots) (h : tD (Cn.of X T) M Wx (lcA src tg tt te) σ H Q) :
    tLc (tI (Cn.of X T) M Wx src) (gD X.K tg) (tDB (Cn.of X T) M' (fun _ _ _ _ => False) tt) (tD (Cn.of X T) M' (fun _ _ _ _ => False) te) tg.slots σ H Q := by
  obtain ⟨ρ, W, r, q⟩ := h
  refine ⟨ρ, W, r, ?_⟩
  unfold lcA at q
  cases e : src ρ with
  | ex e' => rw [e] at q; exact q
  | bad => rw [e] at q; exact q
  | ok ds =>
    rw [e] at q
    have q : Post (Cn.of X T) W H (lift ((lcGo tg tt te ρ ds).map (.lst true))) Q _ := q
    cases eg : lcGo tg tt te ρ ds with
    | none => rw [eg] at q; exact q.elim
    | some ys0 =>
    rw [eg] at q
    have q : Post (Cn.of X T) W H (.ok (.lst true ys0)) Q _ := q
    intro J H1 P x1 pin S p np
    have nal : ¬ Al H1 p := Al.no np
    have start : LcAt (Cn.of X T) M W σ H1 ρ P p [] (upd H1 p (.lst [])) [] [] := {
      lst := upd_same
      own := ⟨rfl, rfl⟩
      nd := .nil
      new := fun a h => by cases h
      np := fun h => by cases h
      ext := .new np
      rel := (r.ext1 x1).ext (.new np) fun a h => by
        rcases h with h | h
        · exact .inl h
        · rw [List.mem_singleton.mp h]; exact .inr ⟨nal, .lst upd_same⟩
      pin := pin.ext (.new np) fun a h => by
        rcases h with h | h
        · exact .inl h
        · rw [List.mem_singleton.mp h]; exact .inr nal }
    let Iv : Nat → Hp → Prop := fun i H2 => ∃ acc vs A, LcAt (Cn.of X T) M W σ H1 ρ P p acc H2 vs A ∧ acc.length ≤ i ∧ ∃ ys, lcGo tg tt te ρ (ds.drop i) = some ys ∧ acc ++ ys = ys0
    refine ⟨fun i m H2 => m = ds.length - i ∧ i ≤ ds.length ∧ Iv i H2, ⟨ds.length, by simp, Nat.zero_le _, [], [], [], start, Nat.le_refl _, ys0, eg, rfl⟩, ?_⟩
    rintro i m H2 ⟨rfl, hi, acc, vs, A, L, hla, ys, hgo, hys⟩
    by_cases hlt : i < ds.length
    · refine .inr ⟨S.go i _ _ L.pin hlt, Iv (i + 1), fun H' n => ⟨ds.length - (i + 1), by omega, rfl, hlt, n⟩, fun x H3 y => ?_⟩
      obtain ⟨x3, d, hd2, od⟩ := S.yld i _ _ x H3 L.pin y hlt
      rw [List.getElem?_eq_getElem hlt] at hd2
      cases hd2
      rw [List.drop_eq_getElem_cons hlt] at hgo
      unfold lcGo at hgo
      cases hb : tg.bind ds[i] ρ with
      | none => rw [hb] at hgo; cases hgo
      | some ρ' =>
      rw [hb] at hgo
      dsimp only at hgo
      have L3 := L.rel.ext1 x3
      refine gD_read (C := Cn.of X T) (by rw [wipe_length]; exact L3.len) od hb fun σ2 s2 => ⟨wipe_eq ?_ ?_, ?_⟩
      · rw [s2.ls, wipe_length]
      · intro j hj
        rw [(s2.out j hj).1, wipe_out hj]
      have R2 : Rel (Cn.of X T) M' (W.plus (p :: A)) σ2 H3 ρ' := L3.setsW s2 hM
      -- what stands behind the turn's own reckoning
      have keep : ∀ {H4 : Hp}, Ext (Cn.of X T).T H3 H4 → LcAt (Cn.of X T) M W σ H1 ρ P p acc H4 vs A := fun {H4} x4 =>
        have x5 := x3.trans x4
        ⟨x5.e _ _ L.lst (fun _ z => by cases z), L.own.ext x5 (fun a h => .inl h) _, L.nd, L.new, L.np, L.ext.trans x5, L.rel.ext1 x5, L.pin.ext x5 fun a h => .inl h⟩
      cases ht : tt ρ' with
      | ex e' => rw [ht] at hgo; cases hgo
      | bad => rw [ht] at hgo; cases hgo
      | ok b =>
      rw [ht] at hgo
      refine ⟨ρ', _, R2, ?_⟩
      rw [ht]
      intro H4 x4
      cases b with
      | false =>
        rw [if_neg (by decide)]
        exact ⟨acc, vs, A, keep x4, by omega, ys, hgo, hys⟩
      | true =>
        rw [if_pos rfl]
        dsimp only at hgo
        cases hy : te ρ' with
        | ex e' => rw [hy] at hgo; cases hgo
        | bad => rw [hy] at hgo; cases hgo
        | ok y0 =>
        rw [hy] at hgo
        refine ⟨ρ', _, R2.ext1 x4, ?_⟩
        rw [hy]
        intro yv H5 B x5 nB ndB oB
        have L5 := keep (x4.trans x5)
        obtain ⟨ys', hys', eys⟩ := Option.map_eq_some_iff.mp hgo
        refine ⟨vs, L5.lst, ?_, acc ++ [y0], vs ++ [yv], A ++ B, ?_, by rw [List.length_append]; exact Nat.add_le_add_right hla 1, ys', hys', by rw [List.append_assoc, ← hys, ← eys]; rfl⟩
        · have := L5.own.length
          have := S.sz
          omega
        have L4 := keep x4
        have lk : likeO (.lst vs) (.lst (vs ++ [yv])) = true := rfl
        have npB : p ∉ B := fun z => nB p z (L4.rel.al p (.inr (List.mem_cons_self ..)))
        have npAB : p ∉ A ++ B := fun z => (List.mem_append.mp z).elim L.np npB
        have grow : ∀ a, W.plus (p :: (A ++ B)) a → W.plus (p :: A) a ∨ ¬ Al H4 a := fun a h => by
          rcases h with h | h
          · exact .inl (.inl h)
          · rcases List.mem_cons.mp h with h | h
            · exact .inl (.inr (by rw [h]; exact List.mem_cons_self ..))
            · rcases List.mem_append.mp h with h | h
              · exact .inl (.inr (List.mem_cons_of_mem _ h))
              · exact .inr (nB a h)
        have wp : W.plus (p :: (A ++ B)) p := .inr (List.mem_cons_self ..)
        have o1 : Owns X.K (W.plus (p :: (A ++ B))) H5 vs acc A := L4.own.ext x5 grow _
        have o2 : Own X.K (W.plus (p :: (A ++ B))) H5 yv y0 B := oB.ext (.refl (T := T) H5) (fun a h => .inl (by
          rcases h with h | h
          · exact .inl (.inl h)
          · rcases List.mem_cons.mp h with h | h
            · exact .inl (.inr (by rw [h]; exact List.mem_cons_self ..))
            · rcases List.mem_append.mp h with h | h
              · exact .inl (.inr (List.mem_cons_of_mem _ h))
              · exact .inr h)) _
        exact {
          lst := upd_same
          own := (o1.upd L5.lst lk wp _ L.np).app (Owns.one (o2.upd L5.lst lk wp _ npB))
          nd := List.nodup_append.mpr ⟨L.nd, ndB, fun a h b h' q => by
            subst q
            exact nB a h' (L4.rel.al a (.inr (List.mem_cons_of_mem _ h)))⟩
          new := fun a h => (List.mem_append.mp h).elim (L.new a) fun h z => nB a h (z.ext L4.ext)
          np := npAB
          ext := extUpd L5.lst lk L5.ext nal
          rel := {
            v := fun j hj e he => by
              obtain ⟨v, e1, o⟩ := L4.rel.v j hj e he
              exact ⟨v, e1, (o.ext x5 grow _).upd L5.lst lk wp _ fun z => by cases z⟩
            al := fun a h => alUpd lk (by
              rcases h with h | h
              · exact (L4.rel.al a (.inl h)).ext x5
              · rcases List.mem_cons.mp h with h | h
                · rw [h]; exact .lst L5.lst
                · rcases List.mem_append.mp h with h | h
                  · exact (L4.rel.al a (.inr (List.mem_cons_of_mem _ h))).ext x5
                  · exact Own.al y0 oB a h)
            tb := tabsUpd L5.lst lk L5.rel.tb
            len := L5.rel.len }
          pin := fun z hz => ((L4.pin z hz).ext x5 grow _).upd L5.lst lk wp _ fun z => by cases z }
    · have ei : i = ds.length := by omega
      subst ei
      refine .inl ⟨S.stop _ _ _ L.pin rfl, ?_⟩
      rw [List.drop_length] at hgo
      cases hgo
      rw [List.append_nil] at hys
      subst hys
      exact q (.ref p) H2 (p :: A) (x1.trans L.ext) (fun a ha z => by
        rcases List.mem_cons.mp ha with h | h
        · rw [h] at z; exact nal (z.ext x1)
        · exact L.new a h (z.ext x1)) (List.nodup_cons.mpr ⟨L.np, L.nd⟩) ⟨p, vs, A, rfl, L.own, rfl, L.lst⟩
end
section
variable {X : Cx} {T : List (Addr × Str)} {M M' : List Nat} {Wx : WX} {pos : Pos} {elt tg iter : Expr} {ifs : List Expr} {scope : Scope}
/-- [elt for tg in iter if ..] -/
theorem de_lc {own : List (Str × Nat)} {t : Tg} {src : Env → Res (List D)} {tt : Env → Res Bool} {te : Env → Res D} (hc : X.calm = true) (hN : X.N.Nodup) (hi : DI X T M Wx tg iter src) (ok : BlkOk X.N X.env.scope scope own) (hv : own.map (·.2) = t.slots) (hM : ∀ i ∈ M', i ∈ M ∨ i ∈ t.slots)
    (hg : ∀ (s : Shared) (H : Hp) (C : Addr) (cl : List (Str × Addr)) (fp : List Addr), PG (X.blk s H scope (compEnvC scope cl C X.env) fp) tg (gD X.K t))
    (ht : ∀ (s : Shared) (H : Hp) (C : Addr) (cl : List (Str × Addr)) (fp : List Addr), PTs (X.blk s H scope (compEnvC scope cl C X.env) fp) ifs (tDB (Cn.of X T) M' (fun _ _ _ _ => False) tt))
    (he : ∀ (s : Shared) (H : Hp) (C : Addr) (cl : List (Str × Addr)) (fp : List Addr), DE (X.blk s H scope (compEnvC scope cl C X.env) fp) T M' (fun _ _ _ _ => False) elt te) (hs : ∀ x, foldedSetIterable iter X.env x = pure x := by intro _; rfl) :
    DE X T M Wx (.ListComp elt [⟨tg, iter, ifs, 0⟩] scope pos) (lcA src t tt te) :=
  pe_weak (pe_lc hc hN hi ok hg ht he hs) fun σ H Q h => by rw [hv]; exact lc_read hM h
theorem dts_nil : PTs X [] (tDB (Cn.of X T) M Wx yesB) := ⟨fun pins s σ H Q I ⟨ρ, W, r, q⟩ => pts_nil.run pins s σ H Q I (q H (.refl _))⟩
theorem dts_one {c : Expr} {f : Env → Res Bool} (h : DT X T M Wx c f) : PTs X [c] (tDB (Cn.of X T) M Wx f) := pts_one h
end
end De
set_option Elab.async false
set_option linter.all false
set_option maxRecDepth 100000
namespace De
open PySem PySem.Spec PyProof.Rows L2

/-! ### statements -/
inductive Out where
  | nx (ρ : Env) | rt (d : D) | bk (ρ : Env) | ct (ρ : Env) | ex (e : Ex) (ρ : Env) | bad
def wd (Wf : Wd) (foot : Nat → List Addr) : Wd := fun a => Wf a ∨ ∃ i, a ∈ foot i
/-- a def's frame: He the heap at its entry, Wf what is not shared outside, P what a loop walks; foot i: what slot i alone holds -/
structure RelS (C : Cn) (He : Hp) (Wf : Wd) (P : List (V × D)) (σ : L2.St) (H : Hp) (ρ : Env) (foot : Nat → List Addr) : Prop where
  own : ∀ i d, ρ[i]? = some (some d) → ∃ v, σ[i]? = some (some v) ∧ Own C.K (wd Wf foot) H v d (foot i)
  disj : ∀ i j a, a ∈ foot i → a ∈ foot j → i = j
  nd : ∀ i, (foot i).Nodup
  new : ∀ i a, a ∈ foot i → ¬ Al He a
  fl : ∀ i a, a ∈ foot i → Al H a
  wf : ∀ a, Wf a → Al He a
  ext : Ext C.T He H
  tb : LamX.Tabs C.T H
  pin : Pins C (wd Wf foot) H P
  len : σ.length = ρ.length
def RelE (C : Cn) (He : Hp) (Wf : Wd) (P : List (V × D)) (σ : L2.St) (H : Hp) (ρ : Env) : Prop := ∃ foot, RelS C He Wf P σ H ρ foot
def frzM : List Nat → Env → Env
  | [], ρ => ρ
  | i :: M, ρ => frzM M (match ρ[i]? with
    | some (some d) => ρ.set i (some (frz d))
    | _ => ρ)
theorem frzM_len : ∀ (M : List Nat) (ρ : Env), (frzM M ρ).length = ρ.length
  | [], _ => rfl
  | i :: M, ρ => by
    unfold frzM
    rw [frzM_len M]
    split
    · exact List.length_set ..
    · rfl
theorem frzM_get : ∀ (M : List Nat) (ρ : Env) (j : Nat), (frzM M ρ)[j]? = if j ∈ M then (ρ[j]?).map (Option.map frz) else ρ[j]?
  | [], _, _ => by simp [frzM]
  | i :: M, ρ, j => by
    unfold frzM
    rw [frzM_get M]
    by_cases e : i = j
    · subst e
      simp only [List.mem_cons, true_or, if_true]
      cases h : ρ[i]? with
      | none =>
        dsimp only
        by_cases hm : i ∈ M <;> simp [hm, h]
      | some o =>
        cases o with
        | none =>
          dsimp only
          by_cases hm : i ∈ M <;> simp [hm, h]
        | some d =>
          have hl : i < ρ.length := (List.getElem?_eq_some_iff.mp h).1
          dsimp only
          by_cases hm : i ∈ M <;> simp [hm, hl, frz_frz]
    · have e' : ¬ j = i := fun z => e z.symm
      have hset : (match ρ[i]? with | some (some d) => ρ.set i (some (frz d)) | _ => ρ)[j]? = ρ[j]? := by
        split
        · exact List.getElem?_set_ne e
        · rfl
      rw [hset]
      simp [e']
section
variable {C : Cn} {He : Hp} {Wf : Wd} {P : List (V × D)} {σ : L2.St} {H H' : Hp} {ρ : Env} {foot : Nat → List Addr}
theorem RelS.wal (r : RelS C He Wf P σ H ρ foot) {a : Addr} (h : wd Wf foot a) : Al H a := h.elim (fun h => (r.wf a h).ext r.ext) fun ⟨i, h⟩ => r.fl i a h
theorem RelS.ext1 (r : RelS C He Wf P σ H ρ foot) (x : Ext C.T H H') : RelS C He Wf P σ H' ρ foot where
  own := fun i d e => by
    obtain ⟨v, e1, o⟩ := r.own i d e
    exact ⟨v, e1, o.ext x (fun a h => .inl h) _⟩
  disj := r.disj
  nd := r.nd
  new := r.new
  fl := fun i a h => (r.fl i a h).ext x
  wf := r.wf
  ext := r.ext.trans x
  tb := x.t r.tb
  pin := r.pin.ext x fun a h => .inl h
  len := r.len
/-- what an expression that reads the slots M leaves unshared -/
def wdM (Wf : Wd) (foot : Nat → List Addr) (M : List Nat) : Wd := fun a => Wf a ∨ ∃ j, j ∉ M ∧ a ∈ foot j
theorem wdM_sub {M : List Nat} {a : Addr} (h : wdM Wf foot M a) : wd Wf foot a := h.imp id fun ⟨j, _, h⟩ => ⟨j, h⟩
theorem RelS.out (r : RelS C He Wf P σ H ρ foot) {M : List Nat} {i : Nat} (hi : i ∈ M) {a : Addr} (h : a ∈ foot i) : ¬ wdM Wf foot M a := fun z => by
  rcases z with z | ⟨j, hj, z⟩
  · exact r.new i a h (r.wf a z)
  · exact hj (by rw [← r.disj i j a h z]; exact hi)
theorem RelS.rel (r : RelS C He Wf P σ H ρ foot) (M : List Nat) : Rel C M (wdM Wf foot M) σ H ρ where
  v := fun i hi d e => by
    obtain ⟨v, e1, o⟩ := r.own i d e
    exact ⟨v, e1, o.frz (fun a h => wdM_sub h) _ fun a ha => r.out hi ha⟩
  al := fun a h => r.wal (wdM_sub h)
  tb := r.tb
  len := r.len
/-- slots M shared from now on -/
theorem RelS.frzM (r : RelS C He Wf P σ H ρ foot) (M : List Nat) : RelS C He Wf P σ H (De.frzM M ρ) (fun j => if j ∈ M then [] else foot j) := by
  have sub : ∀ a, wd Wf (fun j => if j ∈ M then [] else foot j) a → wdM Wf foot M a := fun a h => by
    rcases h with h | ⟨j, h⟩
    · exact .inl h
    · by_cases hj : j ∈ M
      · simp [hj] at h
      · exact .inr ⟨j, hj, by simpa [hj] using h⟩
  refine ⟨fun i d e => ?_, fun i j a h1 h2 => ?_, fun i => ?_, fun i a h => ?_, fun i a h => ?_, r.wf, r.ext, r.tb, fun p hp => ?_, by rw [frzM_len]; exact r.len⟩
  · rw [frzM_get] at e
    by_cases hi : i ∈ M
    · simp only [hi, if_true] at e ⊢
      cases h : ρ[i]? with
      | none => rw [h] at e; cases e
      | some o =>
        rw [h] at e
        cases o with
        | none => cases e
        | some d0 =>
          have e : frz d0 = d := by simpa using e
          subst e
          obtain ⟨v, e1, o⟩ := r.own i d0 h
          exact ⟨v, e1, o.frz (fun a h => wdM_sub (sub a h)) _ fun a ha z => r.out hi ha (sub a z)⟩
    · simp only [hi, if_false] at e ⊢
      obtain ⟨v, e1, o⟩ := r.own i d e
      exact ⟨v, e1, o.ext (.refl (T := C.T) H) (fun a h => .inl (wdM_sub (sub a h))) _⟩
  · by_cases hi : i ∈ M
    · simp [hi] at h1
    · by_cases hj : j ∈ M
      · simp [hj] at h2
      · exact r.disj i j a (by simpa [hi] using h1) (by simpa [hj] using h2)
  · by_cases hi : i ∈ M <;> simp [hi, r.nd]
  · by_cases hi : i ∈ M
    · simp [hi] at h
    · exact r.new i a (by simpa [hi] using h)
  · by_cases hi : i ∈ M
    · simp [hi] at h
    · exact r.fl i a (by simpa [hi] using h)
  · exact (r.pin p hp).ext (.refl (T := C.T) H) (fun a h => .inl (wdM_sub (sub a h))) _
/-- a slot is stored; its value alone holds A -/
theorem RelS.set (r : RelS C He Wf P σ H ρ foot) {i : Nat} {v : V} {d : D} {A : List Addr} (o : Own C.K ((wd Wf foot).plus A) H v d A) (nA : ∀ a ∈ A, ¬ wd Wf foot a) (neA : ∀ a ∈ A, ¬ Al He a) (nd : A.Nodup) (pin : Pins C ((wd Wf foot).plus A) H P)
    (ow : ∀ j d, ρ[j]? = some (some d) → ∃ v, σ[j]? = some (some v) ∧ Own C.K ((wd Wf foot).plus A) H v d (foot j)) :
    RelS C He Wf P (σ.set i (some v)) H (ρ.set i (some d)) (fun j => if j = i then A else foot j) := by
  have sub : ∀ a, wd Wf (fun j => if j = i then A else foot j) a → (wd Wf foot).plus A a := fun a h => by
    rcases h with h | ⟨j, h⟩
    · exact .inl (.inl h)
    · by_cases hj : j = i
      · exact .inr (by simpa [hj] using h)
      · exact .inl (.inr ⟨j, by simpa [hj] using h⟩)
  refine ⟨fun j e he => ?_, fun j k a h1 h2 => ?_, fun j => ?_, fun j a h => ?_, fun j a h => ?_, r.wf, r.ext, r.tb, fun p hp => ?_, by rw [List.length_set, List.length_set]; exact r.len⟩
  · by_cases hj : j = i
    · subst hj
      by_cases hl : j < ρ.length
      · rw [List.getElem?_set_self hl] at he
        cases he
        refine ⟨v, by rw [List.getElem?_set_self (by rw [r.len]; exact hl)], ?_⟩
        simp only [if_true]
        exact o.ext (.refl (T := C.T) H) (fun a h => .inl (sub a h)) _
      · rw [List.getElem?_eq_none (by simpa using hl)] at he
        cases he
    · have hj' : i ≠ j := fun z => hj z.symm
      rw [List.getElem?_set_ne hj'] at he
      obtain ⟨w, e1, o1⟩ := ow j e he
      refine ⟨w, by rw [List.getElem?_set_ne hj']; exact e1, ?_⟩
      simp only [hj, if_false]
      exact o1.ext (.refl (T := C.T) H) (fun a h => .inl (sub a h)) _
  · by_cases hj : j = i
    · by_cases hk : k = i
      · rw [hj, hk]
      · simp only [hj, hk, if_true, if_false] at h1 h2
        exact absurd (.inr ⟨k, h2⟩) (nA a h1)
    · by_cases hk : k = i
      · simp only [hj, hk, if_true, if_false] at h1 h2
        exact absurd (.inr ⟨j, h1⟩) (nA a h2)
      · simp only [hj, hk, if_false] at h1 h2
        exact r.disj j k a h1 h2
  · by_cases hj : j = i <;> simp [hj, nd, r.nd]
  · by_cases hj : j = i
    · simp only [hj, if_true] at h; exact neA a h
    · simp only [hj, if_false] at h; exact r.new j a h
  · by_cases hj : j = i
    · simp only [hj, if_true] at h; exact Own.al d o a h
    · simp only [hj, if_false] at h; exact r.fl j a h
  · exact (pin p hp).ext (.refl (T := C.T) H) (fun a h => .inl (sub a h)) _
/-- slots stored with shared things -/
theorem RelS.sets (r : RelS C He Wf P σ H ρ foot) {is : List Nat} {σ' : L2.St} {ρ' : Env} (s : Sets C (wd Wf foot) H is σ σ' ρ ρ') : RelS C He Wf P σ' H ρ' (fun j => if j ∈ is then [] else foot j) := by
  have sub : ∀ a, wd Wf (fun j => if j ∈ is then [] else foot j) a → wd Wf foot a := fun a h => by
    rcases h with h | ⟨j, h⟩
    · exact .inl h
    · by_cases hj : j ∈ is
      · simp [hj] at h
      · exact .inr ⟨j, by simpa [hj] using h⟩
  refine ⟨fun j e he => ?_, fun j k a h1 h2 => ?_, fun j => ?_, fun j a h => ?_, fun j a h => ?_, r.wf, r.ext, r.tb, fun p hp => ?_, by rw [s.ls, s.lr]; exact r.len⟩
  · by_cases hj : j ∈ is
    · obtain ⟨v, e1, o⟩ := s.at_ j e hj he
      simp only [hj, if_true]
      exact ⟨v, e1, o.ext (.refl (T := C.T) H) (fun a h => .inl (sub a h)) _⟩
    · have h := s.out j hj
      rw [h.2] at he
      obtain ⟨v, e1, o⟩ := r.own j e he
      simp only [hj, if_false]
      exact ⟨v, by rw [h.1]; exact e1, o.ext (.refl (T := C.T) H) (fun a h => .inl (sub a h)) _⟩
  · by_cases hj : j ∈ is
    · simp [hj] at h1
    · by_cases hk : k ∈ is
      · simp [hk] at h2
      · exact r.disj j k a (by simpa [hj] using h1) (by simpa [hk] using h2)
  · by_cases hj : j ∈ is <;> simp [hj, r.nd]
  · by_cases hj : j ∈ is
    · simp [hj] at h
    · exact r.new j a (by simpa [hj] using h)
  · by_cases hj : j ∈ is
    · simp [hj] at h
    · exact r.fl j a (by simpa [hj] using h)
  · exact (r.pin p hp).ext (.refl (T := C.T) H) (fun a h => .inl (sub a h)) _
theorem RelS.pins (r : RelS C He Wf P σ H ρ foot) {P' : List (V × D)} (p : Pins C (wd Wf foot) H P') : RelS C He Wf P' σ H ρ foot := ⟨r.own, r.disj, r.nd, r.new, r.fl, r.wf, r.ext, r.tb, p, r.len⟩
/-- behind an expression that read M: the store of its value into a slot -/
theorem RelS.asg (r : RelS C He Wf P σ H ρ foot) {M : List Nat} {i : Nat} {v : V} {d : D} {A : List Addr} (x : Ext C.T H H') (n : ∀ a ∈ A, ¬ Al H a) (nd : A.Nodup) (o : Own C.K ((wdM Wf foot M).plus A) H' v d A) :
    RelE C He Wf P (σ.set i (some v)) H' (if af d = true then ρ.set i (some d) else (De.frzM M ρ).set i (some d)) := by
  have neA : ∀ a ∈ A, ¬ Al He a := fun a ha z => n a ha (z.ext r.ext)
  split
  · rename_i ha
    have r1 := r.ext1 x
    have g : ∀ a, (wd Wf foot).plus A a → wd Wf foot a ∨ ¬ Al H a := fun a h => h.imp id (n a)
    refine ⟨_, r1.set (A := A) (o.afw _ ha) (fun a ha z => n a ha (r.wal z)) neA nd (r.pin.ext x g) fun j e he => ?_⟩
    obtain ⟨w, e1, o1⟩ := r.own j e he
    exact ⟨w, e1, o1.ext x g _⟩
  · have r0 := r.frzM M
    have r1 := r0.ext1 x
    have sub : ∀ a, wd Wf (fun j => if j ∈ M then [] else foot j) a → wdM Wf foot M a := fun a h => by
      rcases h with h | ⟨j, h⟩
      · exact .inl h
      · by_cases hj : j ∈ M
        · simp [hj] at h
        · exact .inr ⟨j, hj, by simpa [hj] using h⟩
    have g : ∀ a, (wd Wf (fun j => if j ∈ M then [] else foot j)).plus A a → wd Wf (fun j => if j ∈ M then [] else foot j) a ∨ ¬ Al H a := fun a h => h.imp id (n a)
    refine ⟨_, r1.set (A := A) (o.ext (.refl (T := C.T) H') (fun a h => .inl (h.imp (sub a) id)) _) (fun a ha z => n a ha (r0.wal z)) neA nd (r0.pin.ext x g) fun j e he => ?_⟩
    obtain ⟨w, e1, o1⟩ := r0.own j e he
    exact ⟨w, e1, o1.ext x g _⟩
end

/-! ### what a statement does -/
def PostS (C : Cn) (He : Hp) (Wf : Wd) (P : List (V × D)) (r : Out) (E : Ends) (Wx : WX) : Prop := match r with
  | .nx ρ => ∀ σ H, RelE C He Wf P σ H ρ → E.nx σ H
  | .bk ρ => ∀ σ H, RelE C He Wf P σ H ρ → E.bk σ H
  | .ct ρ => ∀ σ H, RelE C He Wf P σ H ρ → E.ct σ H
  | .rt d => ∀ v H A, Ext C.T He H → (∀ a ∈ A, ¬ Al He a) → A.Nodup → Own C.K (Wf.plus A) H v d A → E.rt v H
  | .ex e ρ => ∀ c o σ H, RelE C He Wf P σ H ρ → ExcIs C.mg H e c o → Wx c o σ H
  | .bad => False
def tS (C : Cn) (Wx : WX) (s : Env → Out) : TS := fun E σ H => ∃ ρ He Wf P, RelE C He Wf P σ H ρ ∧ PostS C He Wf P (s ρ) E Wx
abbrev DS (X : Cx) (T : List (Addr × Str)) (Wx : WX) (st : Stmt) (s : Env → Out) : Prop := PS X st (tS (Cn.of X T) Wx s)
abbrev DSs (X : Cx) (T : List (Addr × Str)) (Wx : WX) (st : List Stmt) (s : Env → Out) : Prop := PSs X st (tS (Cn.of X T) Wx s)
def nilS : Env → Out := fun ρ => .nx ρ
def seqS (s t : Env → Out) : Env → Out := fun ρ => match s ρ with
  | .nx ρ' => t ρ'
  | r => r
def brkS : Env → Out := fun ρ => .bk ρ
def cntS : Env → Out := fun ρ => .ct ρ
def badS : Env → Out := fun _ => .bad
def ifS (c : Env → Res Bool) (s t : Env → Out) : Env → Out := fun ρ => match c ρ with
  | .ok true => s ρ
  | .ok false => t ρ
  | .ex e => .ex e ρ
  | .bad => .bad
def drpS (f : Env → Res D) : Env → Out := fun ρ => match f ρ with
  | .ok _ => .nx ρ
  | .ex e => .ex e ρ
  | .bad => .bad
def retS (f : Env → Res D) : Env → Out := fun ρ => match f ρ with
  | .ok d => .rt d
  | .ex e => .ex e ρ
  | .bad => .bad
def asgS (M : List Nat) (i : Nat) (f : Env → Res D) : Env → Out := fun ρ => match f ρ with
  | .ok d => .nx (if af d = true then ρ.set i (some d) else (frzM M ρ).set i (some d))
  | .ex e => .ex e ρ
  | .bad => .bad
section
variable {X : Cx} {T : List (Addr × Str)} {M : List Nat} {Wx : WX} {pos : Pos} {e : Expr} {st : Stmt} {rest : List Stmt}
theorem dss_nil : DSs X T Wx [] nilS := pss_weak pss_nil fun E σ H ⟨ρ, He, Wf, P, r, q⟩ => q σ H r
theorem dss_cons {s t : Env → Out} (h1 : DS X T Wx st s) (h2 : DSs X T Wx rest t) : DSs X T Wx (st :: rest) (seqS s t) := by
  refine pss_weak (pss_cons h1 h2) fun E σ H ⟨ρ, He, Wf, P, r, q⟩ => ⟨ρ, He, Wf, P, r, ?_⟩
  unfold seqS at q
  cases e : s ρ with
  | nx ρ' => rw [e] at q; exact fun σ' H' r' => ⟨ρ', He, Wf, P, r', q⟩
  | rt d => rw [e] at q; exact q
  | bk ρ' => rw [e] at q; exact q
  | ct ρ' => rw [e] at q; exact q
  | ex e' ρ' => rw [e] at q; exact q
  | bad => rw [e] at q; exact q
theorem dss_one {s : Env → Out} (h1 : DS X T Wx st s) : DSs X T Wx [st] s := pss_one h1
theorem ds_pass : DS X T Wx (.Pass pos) nilS := ps_weak ps_pass fun E σ H ⟨ρ, He, Wf, P, r, q⟩ => q σ H r
theorem ds_break : DS X T Wx (.Break pos) brkS := ps_weak ps_break fun E σ H ⟨ρ, He, Wf, P, r, q⟩ => q σ H r
theorem ds_continue : DS X T Wx (.Continue pos) cntS := ps_weak ps_continue fun E σ H ⟨ρ, He, Wf, P, r, q⟩ => q σ H r
theorem ds_never : DS X T Wx st badS := ps_weak ps_never fun E σ H ⟨ρ, He, Wf, P, r, q⟩ => q
theorem ds_if {c : Expr} {a b : List Stmt} {f : Env → Res Bool} {s t : Env → Out} (M : List Nat) (hc : DT X T M Wx c f) (ha : DSs X T Wx a s) (hb : DSs X T Wx b t) : DS X T Wx (.If c a b pos) (ifS f s t) := by
  refine ps_weak (ps_if hc ha hb) fun E σ H ⟨ρ, He, Wf, P, ⟨foot, r⟩, q⟩ => ⟨ρ, _, r.rel M, ?_⟩
  unfold ifS at q
  cases e : f ρ with
  | ok b =>
    rw [e] at q
    intro H' x
    have r' := r.ext1 x
    cases b with
    | true => rw [if_pos rfl]; exact ⟨ρ, He, Wf, P, ⟨foot, r'⟩, q⟩
    | false => rw [if_neg (by decide)]; exact ⟨ρ, He, Wf, P, ⟨foot, r'⟩, q⟩
  | ex e' => rw [e] at q; exact fun c o H' x y => q c o σ H' ⟨foot, r.ext1 x⟩ y
  | bad => rw [e] at q; exact q
theorem ds_drop {f : Env → Res D} (M : List Nat) (h : DE X T M Wx e f) (hs : swapsWith e none pos.line X.env = pure false := by rfl) : DS X T Wx (.Expr e pos) (drpS f) := by
  refine ps_weak (ps_expr h hs) fun E σ H ⟨ρ, He, Wf, P, ⟨foot, r⟩, q⟩ => ⟨ρ, _, r.rel M, ?_⟩
  unfold drpS at q
  cases e : f ρ with
  | ok d => rw [e] at q; exact fun v H' A x n nd o => q σ H' ⟨foot, r.ext1 x⟩
  | ex e' => rw [e] at q; exact fun c o H' x y => q c o σ H' ⟨foot, r.ext1 x⟩ y
  | bad => rw [e] at q; exact q
theorem ds_ret {f : Env → Res D} (M : List Nat) (h : DE X T M Wx e f) : DS X T Wx (.Return (some e) pos) (retS f) := by
  refine ps_weak (ps_ret h) fun E σ H ⟨ρ, He, Wf, P, ⟨foot, r⟩, q⟩ => ⟨ρ, _, r.rel M, ?_⟩
  unfold retS at q
  cases e : f ρ with
  | ok d => rw [e] at q; exact fun v H' A x n nd o => q v H' A (r.ext.trans x) (fun a ha z => n a ha (z.ext r.ext)) nd (o.ext (.refl (T := T) H') (fun a h => .inl (h.imp .inl id)) _)
  | ex e' => rw [e] at q; exact fun c o H' x y => q c o σ H' ⟨foot, r.ext1 x⟩ y
  | bad => rw [e] at q; exact q
theorem ds_retN : DS X T Wx (.Return none pos) (fun _ => .rt .non) := ps_weak ps_retN fun E σ H ⟨ρ, He, Wf, P, ⟨foot, r⟩, q⟩ => q .non H [] r.ext (fun a h => by cases h) .nil ⟨rfl, rfl⟩
theorem asg_read {f : Env → Res D} {t : TE} {i : Nat} {E : Ends} {σ : L2.St} {H : Hp} (h : tS (Cn.of X T) Wx (asgS M i f) E σ H) : tAsg (tD (Cn.of X T) M Wx f) (gName i) E σ H := by
  obtain ⟨ρ, He, Wf, P, ⟨foot, r⟩, q⟩ := h
  refine ⟨ρ, _, r.rel M, ?_⟩
  unfold asgS at q
  cases e : f ρ with
  | ok d => rw [e] at q; exact fun v H' A x n nd o => q _ H' (r.asg x n nd o)
  | ex e' => rw [e] at q; exact fun c o H' x y => q c o σ H' ⟨foot, r.ext1 x⟩ y
  | bad => rw [e] at q; exact q
theorem ds_set {i : Nat} {x : Str} {pos' : Pos} {f : Env → Res D} (M : List Nat) (hN : X.N.Nodup) (hi : X.N[i]? = some x) (hx : Loc X.env.scope x) (he : DE X T M Wx e f) (hs : swapsWith e (some (.Name x pos')) pos.line X.env = pure false := by rfl)
    (hf : X.fn x = true ∨ X.env.scope.names.lookup x = some .local := by first | exact .inl rfl | exact .inr rfl | assumption) : DS X T Wx (.Assign [.Name x pos'] e pos) (asgS M i f) :=
  ps_weak (ps_set hN hi hx he hs hf) fun E σ H h => asg_read (t := tD (Cn.of X T) M Wx f) h
end
end De
set_option Elab.async false
set_option linter.all false
set_option maxRecDepth 100000
namespace De
open PySem PySem.Spec PyProof.Rows L2

section
variable {C : Cn} {He : Hp} {Wf : Wd} {P : List (V × D)} {σ : L2.St} {H H' : Hp} {ρ : Env} {foot : Nat → List Addr}
theorem wd_upd {i : Nat} {F A : List Addr} (sub : ∀ b ∈ F, b ∈ foot i ∨ b ∈ A) {a : Addr} (h : wd Wf (fun j => if j = i then F else foot j) a) : (wd Wf foot).plus A a := by
  rcases h with h | ⟨j, h⟩
  · exact .inl (.inl h)
  · by_cases hj : j = i
    · rcases sub a (by simpa [hj] using h) with z | z
      · exact .inl (.inr ⟨i, z⟩)
      · exact .inr z
    · exact .inl (.inr ⟨j, by simpa [hj] using h⟩)
/-- an object that slot i alone holds is written -/
theorem RelS.mut (r : RelS C He Wf P σ H ρ foot) {i : Nat} {v : V} {d : D} {a : Addr} {o o' : HO} {A F : List Addr} (hσ : σ[i]? = some (some v)) (ha : a ∈ foot i) (ho : H a = some o) (lk : likeO o o' = true)
    (nA : ∀ b ∈ A, ¬ wd Wf foot b) (neA : ∀ b ∈ A, ¬ Al He b) (own : Own C.K ((wd Wf foot).plus A) (upd H a o') v d F) (sub : ∀ b ∈ F, b ∈ foot i ∨ b ∈ A) (nd : F.Nodup)
    (ow : ∀ j d, ρ[j]? = some (some d) → ∃ v, σ[j]? = some (some v) ∧ Own C.K ((wd Wf foot).plus A) H v d (foot j)) (pin : Pins C ((wd Wf foot).plus A) H P) :
    RelS C He Wf P σ (upd H a o') (ρ.set i (some d)) (fun j => if j = i then F else foot j) := by
  have wa : (wd Wf foot).plus A a := .inl (.inr ⟨i, ha⟩)
  refine ⟨fun j e he => ?_, fun j k b h1 h2 => ?_, fun j => ?_, fun j b h => ?_, fun j b h => ?_, r.wf, extUpd ho lk r.ext (r.new i a ha), tabsUpd ho lk r.tb, fun p hp => ?_, by rw [List.length_set]; exact r.len⟩
  · by_cases hj : j = i
    · subst hj
      by_cases hl : j < ρ.length
      · rw [List.getElem?_set_self hl] at he
        cases he
        refine ⟨v, hσ, ?_⟩
        simp only [if_true]
        exact own.ext (.refl (T := C.T) _) (fun b h => .inl (wd_upd sub h)) _
      · rw [List.getElem?_eq_none (by simpa using hl)] at he
        cases he
    · have hj' : i ≠ j := fun z => hj z.symm
      rw [List.getElem?_set_ne hj'] at he
      obtain ⟨w, e1, o1⟩ := ow j e he
      refine ⟨w, e1, ?_⟩
      simp only [hj, if_false]
      exact (o1.upd ho lk wa _ fun z => hj (r.disj j i a z ha)).ext (.refl (T := C.T) _) (fun b h => .inl (wd_upd sub h)) _
  · by_cases hj : j = i
    · by_cases hk : k = i
      · rw [hj, hk]
      · simp only [hj, hk, if_true, if_false] at h1 h2
        rcases sub b h1 with z | z
        · exact hj.trans (r.disj i k b z h2)
        · exact absurd (.inr ⟨k, h2⟩) (nA b z)
    · by_cases hk : k = i
      · simp only [hj, hk, if_true, if_false] at h1 h2
        rcases sub b h2 with z | z
        · exact (r.disj j i b h1 z).trans hk.symm
        · exact absurd (.inr ⟨j, h1⟩) (nA b z)
      · simp only [hj, hk, if_false] at h1 h2
        exact r.disj j k b h1 h2
  · by_cases hj : j = i <;> simp [hj, nd, r.nd]
  · by_cases hj : j = i
    · simp only [hj, if_true] at h
      exact (sub b h).elim (r.new i b) (neA b)
    · simp only [hj, if_false] at h; exact r.new j b h
  · by_cases hj : j = i
    · simp only [hj, if_true] at h; exact Own.al d own b h
    · simp only [hj, if_false] at h; exact alUpd lk (r.fl j b h)
  · exact ((pin p hp).upd ho lk wa _ fun z => by cases z).ext (.refl (T := C.T) _) (fun b h => .inl (wd_upd sub h)) _
/-- behind an expression that read M: its value is still held apart; the frame as it then stands -/
def keepM (M : List Nat) (d : D) (ρ : Env) : Env := if af d = true then ρ else frzM M ρ
theorem RelS.after (r : RelS C He Wf P σ H ρ foot) {M : List Nat} {v : V} {d : D} {A : List Addr} (x : Ext C.T H H') (n : ∀ a ∈ A, ¬ Al H a) (o : Own C.K ((wdM Wf foot M).plus A) H' v d A) :
    ∃ foot', RelS C He Wf P σ H' (keepM M d ρ) foot' ∧ (∀ a ∈ A, ¬ wd Wf foot' a) ∧ (∀ a ∈ A, ¬ Al He a) ∧ Own C.K ((wd Wf foot').plus A) H' v d A ∧ (∀ j e, (keepM M d ρ)[j]? = some (some e) → ∃ v, σ[j]? = some (some v) ∧ Own C.K ((wd Wf foot').plus A) H' v e (foot' j)) ∧ Pins C ((wd Wf foot').plus A) H' P := by
  have neA : ∀ a ∈ A, ¬ Al He a := fun a ha z => n a ha (z.ext r.ext)
  have fin : ∀ {ρ0 foot0}, RelS C He Wf P σ H ρ0 foot0 → Own C.K ((wd Wf foot0).plus A) H' v d A → ∃ foot', RelS C He Wf P σ H' ρ0 foot' ∧ (∀ a ∈ A, ¬ wd Wf foot' a) ∧ (∀ a ∈ A, ¬ Al He a) ∧ Own C.K ((wd Wf foot').plus A) H' v d A ∧ (∀ j e, ρ0[j]? = some (some e) → ∃ v, σ[j]? = some (some v) ∧ Own C.K ((wd Wf foot').plus A) H' v e (foot' j)) ∧ Pins C ((wd Wf foot').plus A) H' P := by
    intro ρ0 foot0 r0 o0
    have g : ∀ a, (wd Wf foot0).plus A a → wd Wf foot0 a ∨ ¬ Al H a := fun a h => h.imp id (n a)
    refine ⟨foot0, r0.ext1 x, fun a ha z => n a ha (r0.wal z), neA, o0, fun j e he => ?_, r0.pin.ext x g⟩
    obtain ⟨w, e1, o1⟩ := r0.own j e he
    exact ⟨w, e1, o1.ext x g _⟩
  unfold keepM
  split
  · rename_i ha
    exact fin r (o.afw _ ha)
  · refine fin (r.frzM M) (o.ext (.refl (T := C.T) H') (fun a h => .inl (h.imp (fun h => ?_) id)) _)
    rcases h with h | ⟨j, h⟩
    · exact .inl h
    · by_cases hj : j ∈ M
      · simp [hj] at h
      · exact .inr ⟨j, hj, by simpa [hj] using h⟩
end

theorem keepM_own {M : List Nat} {d : D} {ρ : Env} {i : Nat} {ds : List D} (h : (keepM M d ρ)[i]? = some (some (.lst true ds))) : ρ[i]? = some (some (.lst true ds)) := by
  unfold keepM at h
  split at h
  · exact h
  · rw [frzM_get] at h
    split at h
    · cases q : ρ[i]? with
      | none => rw [q] at h; cases h
      | some o =>
        rw [q] at h
        cases o with
        | none => cases h
        | some e =>
          have h : frz e = .lst true ds := by simpa using h
          cases e <;> cases h
    · exact h
theorem keepM_own2 {M : List Nat} {d : D} {ρ : Env} {i : Nat} {ds : List D} (h : ρ[i]? = some (some (.lst true ds))) {e : D} (k : (keepM M d ρ)[i]? = some (some e)) : e = .lst true ds ∨ ∃ es, e = .lst false es := by
  unfold keepM at k
  split at k
  · rw [h] at k; cases k; exact .inl rfl
  · rw [frzM_get] at k
    split at k
    · rw [h] at k
      have k : frz (.lst true ds) = e := by simpa using k
      exact .inr ⟨_, k.symm⟩
    · rw [h] at k; cases k; exact .inl rfl

/-! ### changes of a list that a slot alone holds -/
/-- by the list and a value: the new list (of the old things, or the value) -/
def mutS (M : List Nat) (i : Nat) (f : Env → Res D) (g : List D → D → Option (List D)) : Env → Out := fun ρ => match ρ[i]? with
  | some (some (.lst true ds)) => (match f ρ with
    | .ok d => (match (keepM M d ρ)[i]? with
      | some (some (.lst true _)) => (match g ds d with
        | some es => .nx ((keepM M d ρ).set i (some (.lst true es)))
        | none => .bad)
      | _ => .bad)
    | .ex e => .ex e ρ
    | .bad => .bad)
  | _ => .bad
def gApp (ds : List D) (d : D) : Option (List D) := if ds.length < 16777216 then some (ds ++ [d]) else none
section
variable {X : Cx} {T : List (Addr × Str)} {M : List Nat} {Wx : WX} {pos : Pos} {e : Expr}
theorem own_lstT {C : Cn} {W : Wd} {H : Hp} {v : V} {ds : List D} {F : List Addr} (h : Own C.K W H v (.lst true ds) F) : ∃ a vs B, v = .ref a ∧ Owns C.K W H vs ds B ∧ F = a :: B ∧ H a = some (.lst vs) := h
/-- the reading of «slot i's list is changed by the value of f» -/
theorem mut_read {i : Nat} {f : Env → Res D} {g : List D → D → Option (List D)} {E : Ends} {σ : L2.St} {H : Hp} {r : V → V → Hp → (Hp → Prop) → Prop}
    (hr : ∀ (W : Wd) (a : Addr) (vs : List V) (ds es : List D) (v : V) (d : D) (H : Hp) (A B : List Addr) (Q : Hp → Prop), H a = some (.lst vs) → Owns X.K W H vs ds B → Own X.K W H v d A → (B ++ A).Nodup → g ds d = some es →
      (∀ ws F, Owns X.K W H ws es F → (∀ b ∈ F, b ∈ B ∨ b ∈ A) → F.Nodup → Q (upd H a (.lst ws))) → r (.ref a) v H Q)
    (h : tS (Cn.of X T) Wx (mutS M i f g) E σ H) :
    ∃ a, σ[i]? = some (some (.ref a)) ∧ (∃ vs, H a = some (.lst vs)) ∧ tD (Cn.of X T) M Wx f σ H fun v H1 => r (.ref a) v H1 fun H2 => E.nx σ H2 := by
  obtain ⟨ρ, He, Wf, P, ⟨foot, R⟩, q⟩ := h
  unfold mutS at q
  cases hi : ρ[i]? with
  | none => rw [hi] at q; exact q.elim
  | some o =>
  rw [hi] at q
  cases o with
  | none => exact q.elim
  | some l =>
  cases l with
  | lst b ds =>
    cases b with
    | false => exact q.elim
    | true =>
    obtain ⟨w, hw, ow⟩ := R.own i _ hi
    obtain ⟨a, vs, B, rfl, hvs, hF, ha⟩ := own_lstT (C := Cn.of X T) ow
    refine ⟨a, hw, ⟨vs, ha⟩, ρ, _, R.rel M, ?_⟩
    cases hf : f ρ with
    | ex e' => rw [hf] at q; exact fun c o H' x y => q c o σ H' ⟨foot, R.ext1 x⟩ y
    | bad => rw [hf] at q; exact q
    | ok d =>
    rw [hf] at q
    intro v H1 A x n nd o
    obtain ⟨foot', R', nA, neA, o', ow', pin'⟩ := R.after x n o
    dsimp only at q
    cases hk : (keepM M d ρ)[i]? with
    | none => rw [hk] at q; exact q.elim
    | some k =>
    rw [hk] at q
    cases k with
    | none => exact q.elim
    | some l =>
    rcases keepM_own2 hi hk with e | ⟨es, e⟩
    · subst e
      dsimp only at q
      cases hg : g ds d with
      | none => rw [hg] at q; exact q.elim
      | some es =>
      rw [hg] at q
      obtain ⟨w2, hw2, ow2⟩ := ow' i _ hk
      rw [hw] at hw2
      cases hw2
      obtain ⟨a2, vs2, B2, e2, hvs2, hF2, ha2⟩ := own_lstT (C := Cn.of X T) ow2
      cases e2
      have ndF := R'.nd i
      rw [hF2] at ndF
      obtain ⟨naB, ndB⟩ := List.nodup_cons.mp ndF
      refine hr _ a vs2 ds es v d H1 A B2 _ ha2 hvs2 o' (List.nodup_append.mpr ⟨ndB, nd, fun b hb c hc z => ?_⟩) hg fun ws F hws sub ndF' => ?_
      · subst z
        exact nA b hc (.inr ⟨i, by rw [hF2]; exact List.mem_cons_of_mem _ hb⟩)
      · have lk : likeO (.lst vs2) (.lst ws) = true := rfl
        have haf : a ∈ foot' i := by rw [hF2]; exact List.mem_cons_self ..
        have naF : a ∉ F := fun z => (sub a z).elim naB fun z => nA a z (.inr ⟨i, haf⟩)
        have wa : (wd Wf foot').plus A a := .inl (.inr ⟨i, haf⟩)
        exact q σ _ ⟨_, R'.mut (F := a :: F) hw haf ha2 lk nA neA ⟨a, ws, F, rfl, hws.upd ha2 lk wa _ naF, rfl, upd_same⟩ (fun b hb => by
          rcases List.mem_cons.mp hb with z | z
          · rw [z]; exact .inl haf
          · exact (sub b z).imp (fun z => by rw [hF2]; exact List.mem_cons_of_mem _ z) id) (List.nodup_cons.mpr ⟨naF, ndF'⟩) ow' pin'⟩
    · subst e
      exact q.elim
  | _ => exact q.elim
theorem ds_append {i : Nat} {f : Env → Res D} (h : PE X e (tBM X.K "list" rAppend (tVar i) (tCons (tD (Cn.of X T) M Wx f) tNil))) (hs : swapsWith e none pos.line X.env = pure false := by rfl) : DS X T Wx (.Expr e pos) (mutS M i f gApp) := by
  refine ps_weak (ps_expr h hs) fun E σ H q => ?_
  obtain ⟨a, h1, ⟨vs, h2⟩, q⟩ := mut_read (r := fun x y H Q => ∃ l xs, x = .ref l ∧ H l = some (.lst xs) ∧ xs.length < sizeLine ∧ Q (upd H l (.lst (xs ++ [y])))) (fun W a vs ds es v d H A B Q ha o1 o2 nd hg k => by
    unfold gApp at hg
    split at hg
    · rename_i hl
      cases hg
      exact ⟨a, vs, rfl, ha, by rw [o1.length, ← sl_line]; exact hl, k _ _ (o1.app (Owns.one o2)) (fun b hb => List.mem_append.mp hb) nd⟩
    · cases hg) q
  refine ⟨_, h1, .inl ⟨rfl, _, SqL.of h2⟩, ?_⟩
  obtain ⟨ρ, W, r, p⟩ := q
  exact ⟨ρ, W, r, p.mono fun v H1 ⟨l, xs, e1, e2, e3, e4⟩ => ⟨l, xs, v, e1, rfl, e2, e3, e4⟩⟩
end
end De
set_option Elab.async false
set_option linter.all false
set_option maxRecDepth 100000
namespace De
open PySem PySem.Spec PyProof.Rows L2

/-! ### loops -/
def forGo (tg : Tg) (body : Env → Out) : List D → Env → Out
  | [], ρ => .nx ρ
  | d :: ds, ρ => match tg.bind d ρ with
    | none => .bad
    | some ρ1 => match body ρ1 with
      | .nx ρ2 => forGo tg body ds ρ2
      | .ct ρ2 => forGo tg body ds ρ2
      | .bk ρ2 => .nx ρ2
      | r => r
/-- for tg in src: the slots M that src reads are shared from then on -/
def forS (M : List Nat) (src : Env → Res (List D)) (tg : Tg) (body : Env → Out) : Env → Out := fun ρ => match src ρ with
  | .ok ds => forGo tg body ds (frzM M ρ)
  | .ex e => .ex e ρ
  | .bad => .bad
def whGo (c : Env → Res Bool) (body : Env → Out) : Nat → Env → Out
  | 0, _ => .bad
  | n + 1, ρ => match c ρ with
    | .ok false => .nx ρ
    | .ok true => (match body ρ with
      | .nx ρ2 => whGo c body n ρ2
      | .ct ρ2 => whGo c body n ρ2
      | .bk ρ2 => .nx ρ2
      | r => r)
    | .ex e => .ex e ρ
    | .bad => .bad
section
variable {X : Cx} {T : List (Addr × Str)} {M : List Nat} {Wx : WX} {pos : Pos} {e : Expr}
theorem for_read {src : Env → Res (List D)} {tg : Tg} {body : Env → Out} {E : Ends} {σ : L2.St} {H : Hp} (h : tS (Cn.of X T) Wx (forS M src tg body) E σ H) :
    tFor (tI (Cn.of X T) M Wx src) (gD X.K tg) (tS (Cn.of X T) Wx body) E σ H := by
  obtain ⟨ρ, He, Wf, P, ⟨foot, r⟩, q⟩ := h
  refine ⟨ρ, _, r.rel M, ?_⟩
  unfold forS at q
  cases e : src ρ with
  | ex e' => rw [e] at q; exact fun c o H' x y => q c o σ H' ⟨foot, r.ext1 x⟩ y
  | bad => rw [e] at q; exact q
  | ok ds =>
  rw [e] at q
  have q : PostS (Cn.of X T) He Wf P (forGo tg body ds (frzM M ρ)) E Wx := q
  intro J H1 Pn x1 pin S
  have r0 := (r.frzM M).ext1 x1
  have sub : ∀ a, wd Wf (fun j => if j ∈ M then [] else foot j) a → wdM Wf foot M a := fun a h => by
    rcases h with h | ⟨j, h⟩
    · exact .inl h
    · by_cases hj : j ∈ M
      · simp [hj] at h
      · exact .inr ⟨j, hj, by simpa [hj] using h⟩
  have r1 : RelS (Cn.of X T) He Wf (Pn ++ P) σ H1 (frzM M ρ) (fun j => if j ∈ M then [] else foot j) := r0.pins fun p hp => (List.mem_append.mp hp).elim (fun z => (pin p z).ext (.refl (T := T) H1) (fun a h => .inl (sub a h)) _) (r0.pin p)
  refine ⟨fun i m σ H => m = ds.length - i ∧ i ≤ ds.length ∧ ∃ ρ, RelE (Cn.of X T) He Wf (Pn ++ P) σ H ρ ∧ PostS (Cn.of X T) He Wf P (forGo tg body (ds.drop i) ρ) E Wx, ⟨ds.length, by simp, Nat.zero_le _, _, ⟨_, r1⟩, by rw [List.drop_zero]; exact q⟩, ?_⟩
  rintro i m σ2 H2 ⟨rfl, hi, ρ2, ⟨foot2, r2⟩, q2⟩
  have pinN : Pins (Cn.of X T) (wd Wf foot2) H2 Pn := fun p hp => r2.pin p (List.mem_append_left _ hp)
  have pinO : ∀ {foot : Nat → List Addr} {σ H ρ}, RelS (Cn.of X T) He Wf (Pn ++ P) σ H ρ foot → RelS (Cn.of X T) He Wf P σ H ρ foot := fun r => r.pins fun p hp => r.pin p (List.mem_append_right _ hp)
  by_cases hlt : i < ds.length
  · refine .inr ⟨S.go i _ _ pinN hlt, fun σ H => ∃ ρ, RelE (Cn.of X T) He Wf (Pn ++ P) σ H ρ ∧ PostS (Cn.of X T) He Wf P (forGo tg body (ds.drop (i + 1)) ρ) E Wx, fun σ' H' n => ⟨ds.length - (i + 1), by omega, rfl, hlt, n⟩, fun x H3 y => ?_⟩
    obtain ⟨x3, d, hd, od⟩ := S.yld i _ _ x H3 pinN y hlt
    rw [List.getElem?_eq_getElem hlt] at hd
    cases hd
    rw [List.drop_eq_getElem_cons hlt] at q2
    unfold forGo at q2
    have r3 := r2.ext1 x3
    cases hb : tg.bind ds[i] ρ2 with
    | none => rw [hb] at q2; exact q2.elim
    | some ρ3 =>
    rw [hb] at q2
    dsimp only at q2
    refine gD_read (C := Cn.of X T) r3.len od hb fun σ4 s4 => ⟨ρ3, He, Wf, Pn ++ P, ⟨_, r3.sets s4⟩, ?_⟩
    cases ho : body ρ3 with
    | nx ρ5 => rw [ho] at q2; exact fun σ5 H5 r5 => ⟨ρ5, r5, q2⟩
    | ct ρ5 => rw [ho] at q2; exact fun σ5 H5 r5 => ⟨ρ5, r5, q2⟩
    | bk ρ5 => rw [ho] at q2; exact fun σ5 H5 ⟨f5, r5⟩ => q2 σ5 H5 ⟨f5, pinO r5⟩
    | rt d => rw [ho] at q2; exact q2
    | ex e' ρ5 => rw [ho] at q2; exact fun c o σ5 H5 ⟨f5, r5⟩ y => q2 c o σ5 H5 ⟨f5, pinO r5⟩ y
    | bad => rw [ho] at q2; exact q2
  · have ei : i = ds.length := by omega
    subst ei
    rw [List.drop_length] at q2
    exact .inl ⟨S.stop _ _ _ pinN rfl, q2 σ2 H2 ⟨foot2, pinO r2⟩⟩
theorem ds_for {t iter : Expr} {body : List Stmt} {src : Env → Res (List D)} {tg : Tg} {s : Env → Out} (M : List Nat) (hp : PassesOwn (model X.prog X.w) X.A X.env X.xe) (hc : X.calm = true) (hi : DI X T M Wx t iter src) (hg : PG X t (gD X.K tg)) (hb : DSs X T Wx body s)
    (hs : ∀ x, foldedSetIterable iter X.env x = pure x := by intro _; rfl) : DS X T Wx (.For t iter body [] pos) (forS M src tg s) :=
  ps_weak (ps_for hp hc hi hg hb hs) fun E σ H h => for_read h
theorem ds_while {c : Expr} {body : List Stmt} {f : Env → Res Bool} {s : Env → Out} (M : List Nat) (n : Nat) (hp : PassesOwn (model X.prog X.w) X.A X.env X.xe) (hc : DT X T M Wx c f) (hb : DSs X T Wx body s) : DS X T Wx (.While c body [] pos) (whGo f s n) := by
  refine ps_weak (ps_while hp hc hb) fun E σ H ⟨ρ, He, Wf, P, r, q⟩ => ?_
  refine ⟨fun m σ H => ∃ ρ, RelE (Cn.of X T) He Wf P σ H ρ ∧ PostS (Cn.of X T) He Wf P (whGo f s m ρ) E Wx, ⟨n, ρ, r, q⟩, ?_⟩
  rintro m σ H ⟨ρ, ⟨foot, r⟩, q⟩
  cases m with
  | zero => exact q.elim
  | succ m =>
  unfold whGo at q
  refine ⟨ρ, _, r.rel M, ?_⟩
  cases e : f ρ with
  | ex e' => rw [e] at q; exact fun c o H' x y => q c o σ H' ⟨foot, r.ext1 x⟩ y
  | bad => rw [e] at q; exact q
  | ok b =>
  rw [e] at q
  intro H' x
  cases b with
  | false => rw [if_neg (by decide)]; exact q σ H' ⟨foot, r.ext1 x⟩
  | true =>
    rw [if_pos rfl]
    refine ⟨fun σ H => ∃ ρ, RelE (Cn.of X T) He Wf P σ H ρ ∧ PostS (Cn.of X T) He Wf P (whGo f s m ρ) E Wx, fun σ' H' n => ⟨m, Nat.lt_succ_self _, n⟩, ρ, He, Wf, P, ⟨foot, r.ext1 x⟩, ?_⟩
    cases ho : s ρ with
    | nx ρ5 => rw [ho] at q; exact fun σ5 H5 r5 => ⟨ρ5, r5, q⟩
    | ct ρ5 => rw [ho] at q; exact fun σ5 H5 r5 => ⟨ρ5, r5, q⟩
    | bk ρ5 => rw [ho] at q; exact q
    | rt d => rw [ho] at q; exact q
    | ex e' ρ5 => rw [ho] at q; exact q
    | bad => rw [ho] at q; exact q
end

/-! ### several names at once -/
def unpS (M : List Nat) (is : List Nat) (f : Env → Res D) : Env → Out := fun ρ => match f ρ with
  | .ok d => (match (Tg.tup is).bind (frz d) (keepM M d ρ) with
    | some ρ' => .nx ρ'
    | none => .bad)
  | .ex e => .ex e ρ
  | .bad => .bad
/-- a, b = x, y -/
def parS (M : List Nat) (i j : Nat) (fs : Env → Res (List D)) : Env → Out := fun ρ => match fs ρ with
  | .ok [a, b] => if af a = true ∧ af b = true then .nx ((ρ.set i (some a)).set j (some b)) else .nx (((frzM M ρ).set i (some a)).set j (some b))
  | .ok _ => .bad
  | .ex e => .ex e ρ
  | .bad => .bad
section
variable {X : Cx} {T : List (Addr × Str)} {M : List Nat} {Wx : WX} {pos : Pos} {e : Expr}
theorem unp_read {f : Env → Res D} {is : List Nat} {E : Ends} {σ : L2.St} {H : Hp} (h : tS (Cn.of X T) Wx (unpS M is f) E σ H) : tAsg (tD (Cn.of X T) M Wx f) (gD X.K (.tup is)) E σ H := by
  obtain ⟨ρ, He, Wf, P, ⟨foot, r⟩, q⟩ := h
  refine ⟨ρ, _, r.rel M, ?_⟩
  unfold unpS at q
  cases e : f ρ with
  | ex e' => rw [e] at q; exact fun c o H' x y => q c o σ H' ⟨foot, r.ext1 x⟩ y
  | bad => rw [e] at q; exact q
  | ok d =>
  rw [e] at q
  intro v H' A x n nd o
  obtain ⟨foot', R', nA, neA, o', ow', pin'⟩ := r.after x n o
  dsimp only at q
  cases hb : (Tg.tup is).bind (frz d) (keepM M d ρ) with
  | none => rw [hb] at q; exact q.elim
  | some ρ' =>
  rw [hb] at q
  have o2 : Own X.K (wd Wf foot') H' v (frz d) [] := o'.frz (fun a h => .inl h) _ nA
  exact gD_read (C := Cn.of X T) R'.len o2 hb fun σ' s => q σ' H' ⟨_, R'.sets s⟩
theorem ds_unp {t : Expr} {f : Env → Res D} {is : List Nat} (M : List Nat) (he : DE X T M Wx e f) (hg : PG X t (gD X.K (.tup is))) (hs : swapsWithSole [t] e pos.line X.env = pure false := by rfl) (hw : swappedStores [t] e X.env = pure none := by rfl)
    (h1 : (assignEach [t] X.env).map (·.2) = [assign t X.env] := by rfl) : DS X T Wx (.Assign [t] e pos) (unpS M is f) :=
  ps_weak (ps_asg he hg hs hw h1) fun E σ H h => unp_read h
theorem owns_two {C : Cn} {W : Wd} {H : Hp} {vs : List V} {a b : D} {A : List Addr} (o : Owns C.K W H vs [a, b] A) : ∃ v w A1 A2, vs = [v, w] ∧ A = A1 ++ A2 ∧ Own C.K W H v a A1 ∧ Own C.K W H w b A2 := by
  obtain ⟨v, ws, A1, A2, e1, e2, h1, w, us, B1, B2, e3, e4, h2, e5, e6⟩ := o
  subst e1 e2 e3 e4 e5 e6
  exact ⟨v, w, A1, B1, rfl, by simp, h1, h2⟩
theorem par_read {fs : Env → Res (List D)} {i j : Nat} {E : Ends} {σ : L2.St} {H : Hp} (h : tS (Cn.of X T) Wx (parS M i j fs) E σ H) : tPar i j (tDL (Cn.of X T) M Wx fs) E σ H := by
  obtain ⟨ρ, He, Wf, P, ⟨foot, r⟩, q⟩ := h
  refine ⟨ρ, _, r.rel M, ?_⟩
  unfold parS at q
  cases e : fs ρ with
  | ex e' => rw [e] at q; exact fun c o H' x y => q c o σ H' ⟨foot, r.ext1 x⟩ y
  | bad => rw [e] at q; exact q
  | ok ds =>
  rw [e] at q
  intro vs H' A x n nd o
  match ds, q, o with
  | [a, b], q, o =>
    obtain ⟨v, w, A1, A2, rfl, rfl, o1, o2⟩ := owns_two (C := Cn.of X T) o
    refine ⟨v, w, rfl, ?_⟩
    obtain ⟨nd1, nd2, nd3⟩ := List.nodup_append.mp nd
    -- the frame with A1 at i, then A2 at j
    have fin : ∀ {ρ0 : Env} {foot0 : Nat → List Addr}, RelS (Cn.of X T) He Wf P σ H ρ0 foot0 → Own X.K ((wd Wf foot0).plus (A1 ++ A2)) H' v a A1 → Own X.K ((wd Wf foot0).plus (A1 ++ A2)) H' w b A2 →
        RelE (Cn.of X T) He Wf P ((σ.set i (some v)).set j (some w)) H' ((ρ0.set i (some a)).set j (some b)) := by
      intro ρ0 foot0 r0 p1 p2
      have r1 := r0.ext1 x
      have g : ∀ z, (wd Wf foot0).plus (A1 ++ A2) z → wd Wf foot0 z ∨ ¬ Al H z := fun z h => h.imp id (n z)
      have ne : ∀ z ∈ A1 ++ A2, ¬ Al He z := fun z hz k => n z hz (k.ext r.ext)
      have nw : ∀ z ∈ A1 ++ A2, ¬ wd Wf foot0 z := fun z hz k => n z hz (r0.wal k)
      have sub1 : ∀ z, (wd Wf foot0).plus A1 z → (wd Wf foot0).plus (A1 ++ A2) z := fun z h => h.imp id fun h => List.mem_append_left _ h
      have g1 : ∀ z, (wd Wf foot0).plus A1 z → wd Wf foot0 z ∨ ¬ Al H z := fun z h => g z (sub1 z h)
      have ow1 : ∀ k d, ρ0[k]? = some (some d) → ∃ v, σ[k]? = some (some v) ∧ Own X.K ((wd Wf foot0).plus (A1 ++ A2)) H' v d (foot0 k) := fun k d hk => by
        obtain ⟨u, e1, o1⟩ := r0.own k d hk
        exact ⟨u, e1, o1.ext x g _⟩
      have s1 := r1.set (i := i) (A := A1) (p1.ext (.refl (T := T) H') (fun z h => .inl (sub1 z h)) _) (fun z hz => nw z (List.mem_append_left _ hz)) (fun z hz => ne z (List.mem_append_left _ hz)) nd1 (r0.pin.ext x g1) fun k d hk => by
        obtain ⟨u, e1, o1⟩ := ow1 k d hk
        exact ⟨u, e1, o1.ext (.refl (T := T) H') (fun z h => .inl (sub1 z h)) _⟩
      have sub2 : ∀ z, (wd Wf (fun k => if k = i then A1 else foot0 k)).plus A2 z → (wd Wf foot0).plus (A1 ++ A2) z := fun z h => by
        rcases h with h | h
        · rcases h with h | ⟨k, h⟩
          · exact .inl (.inl h)
          · by_cases hk : k = i
            · exact .inr (List.mem_append_left _ (by simpa [hk] using h))
            · exact .inl (.inr ⟨k, by simpa [hk] using h⟩)
        · exact .inr (List.mem_append_right _ h)
      refine ⟨_, s1.set (i := j) (A := A2) (p2.ext (.refl (T := T) H') (fun z h => .inl (sub2 z h)) _) (fun z hz k => ?_) (fun z hz => ne z (List.mem_append_right _ hz)) nd2 (r0.pin.ext x fun z h => g z (sub2 z h)) fun k d hk => ?_⟩
      · rcases k with k | ⟨k, h⟩
        · exact nw z (List.mem_append_right _ hz) (.inl k)
        · by_cases hk : k = i
          · exact nd3 z (by simpa [hk] using h) z hz rfl
          · exact nw z (List.mem_append_right _ hz) (.inr ⟨k, by simpa [hk] using h⟩)
      · by_cases hi : k = i
        · subst hi
          by_cases hl : k < ρ0.length
          · rw [List.getElem?_set_self hl] at hk
            cases hk
            refine ⟨v, by rw [List.getElem?_set_self (by rw [r0.len]; exact hl)], ?_⟩
            simp only [if_true]
            exact p1.ext (.refl (T := T) H') (fun z h => .inl (sub2 z h)) _
          · rw [List.getElem?_eq_none (by simpa using hl)] at hk
            cases hk
        · have hi' : i ≠ k := fun z => hi z.symm
          rw [List.getElem?_set_ne hi'] at hk
          obtain ⟨u, e1, o1⟩ := ow1 k d hk
          refine ⟨u, by rw [List.getElem?_set_ne hi']; exact e1, ?_⟩
          simp only [hi, if_false]
          exact o1.ext (.refl (T := T) H') (fun z h => .inl (sub2 z h)) _
    have q : PostS (Cn.of X T) He Wf P (if af a = true ∧ af b = true then .nx ((ρ.set i (some a)).set j (some b)) else .nx (((frzM M ρ).set i (some a)).set j (some b))) E Wx := q
    split at q
    · rename_i haf
      exact q _ H' (fin r (o1.afw _ haf.1) (o2.afw _ haf.2))
    · have sub : ∀ z, (wd Wf (fun j => if j ∈ M then [] else foot j)).plus (A1 ++ A2) z → (wdM Wf foot M).plus (A1 ++ A2) z := fun z h => h.imp (fun h => by
        rcases h with h | ⟨j, h⟩
        · exact .inl h
        · by_cases hj : j ∈ M
          · simp [hj] at h
          · exact .inr ⟨j, hj, by simpa [hj] using h⟩) id
      exact q _ H' (fin (r.frzM M) (o1.ext (.refl (T := T) H') (fun z h => .inl (sub z h)) _) (o2.ext (.refl (T := T) H') (fun z h => .inl (sub z h)) _))
  | [], q, o => exact q.elim
  | [_], q, o => exact q.elim
  | _ :: _ :: _ :: _, q, o => exact q.elim

end
end De
set_option Elab.async false
set_option linter.all false
set_option maxRecDepth 100000
namespace De
open PySem PySem.Spec PyProof.Rows L2

/-! ### a def -/
def env0 (n : Nat) (ds : List D) : Env := ds.map some ++ List.replicate (n - ds.length) none
def endF : Out → Res D
  | .nx _ => .ok .non
  | .rt d => .ok d
  | .ex e _ => .ex e
  | _ => .bad
def runF (s : Env → Out) (n : Nat) (ds : List D) : Res D := endF (s (env0 n ds))
theorem start_get {N : List Str} {vs : List V} {i : Nat} {v : V} (h : vs[i]? = some v) : (L2.start N vs)[i]? = some (some v) := by
  have hl : i < vs.length := (List.getElem?_eq_some_iff.mp h).1
  unfold L2.start
  rw [List.getElem?_append_left (by simpa using hl), List.getElem?_map, h]
  rfl
theorem rel0 {C : Cn} {W : Wd} {H : Hp} {N : List Str} {vs : List V} {ds : List D} (al : ∀ a, W a → Al H a) (tb : LamX.Tabs C.T H) (o : Owns C.K W H vs ds []) (hn : ds.length ≤ N.length) : RelS C H W [] (L2.start N vs) H (env0 N.length ds) (fun _ => []) := by
  have hl := o.length
  have sub : ∀ a, wd W (fun _ => []) a → W a := fun a h => h.elim id fun ⟨j, h⟩ => by cases h
  refine ⟨fun i d e => ?_, fun i j a h => (by cases h), fun i => .nil, fun i a h => (by cases h), fun i a h => (by cases h), al, .refl _, tb, fun p hp => (by cases hp), ?_⟩
  · have hi : i < ds.length := by
      by_cases hi : i < ds.length
      · exact hi
      · unfold env0 at e
        rw [List.getElem?_append_right (by simpa using hi), List.getElem?_replicate] at e
        split at e <;> cases e
    unfold env0 at e
    rw [List.getElem?_append_left (by simpa using hi), List.getElem?_map] at e
    cases hd : ds[i]? with
    | none => rw [hd] at e; cases e
    | some d0 =>
      rw [hd] at e
      cases e
      obtain ⟨v, hv, ov⟩ := o.get hd
      exact ⟨v, start_get hv, ov.ext (.refl (T := C.T) H) (fun a h => .inl (sub a h)) _⟩
  · unfold L2.start env0
    simp only [List.length_append, List.length_map, List.length_replicate]
    omega
section
variable {P : Program} {w : World} {K : PySem.W.Frag} {mg : Str → Option Value} {base : Heap} {T : List (Addr × Str)} {x qual : Str} {params : Arguments} {body : List Stmt} {scope : Scope} {dvs : List V} {kws : List (Str × V)} {f : Addr} {fd : FuncData}
/-- THE RULE for a def: s what its body does, F what it is worth -/
theorem fn_ok {N ps : List Str} {k : Nat} {s : Env → Out} {F : List D → Res D} (G : FunD K x qual params body scope dvs kws f fd) (S : FnScope N ps scope)
    (hb : ∀ (cdv : Value) (A : Around) (outer : List PySem.Env) (s0 : Shared) (H : Hp) (E : XK), Room k (A.deeper (envOfC qual scope s0.heap.objs.size f cdv)) → DSs (cxOf (L2.CX P w) P w K mg base N qual scope f cdv A outer s0 H E) T (fun c o _ H => E c o H) body s)
    (hF : ∀ ds, ds.length = ps.length → F ds = runF s N.length ds ∨ F ds = .bad) : FnOk P w K mg base (L2.CX P w) (k + 1) f fd ps (spD ⟨K, T, mg⟩ ps.length F) := by
  have hpl : ps.length ≤ N.length := by rw [← congrArg List.length S.pre, List.length_take]; exact Nat.min_le_right ..
  refine G.ok S (fun vs H Q E ⟨ds, W, al, tb, o, hl, p⟩ => by rw [o.length]; exact hl) fun cdv A outer s0 H vs Q E hr ⟨ds, W, al, tb, o, hl, p⟩ => ⟨_, hb cdv A outer s0 H E hr, ?_⟩
  refine ⟨env0 N.length ds, H, W, [], ⟨_, rel0 (C := ⟨K, T, mg⟩) al tb o (by omega)⟩, ?_⟩
  rcases hF ds hl with e | e
  · rw [e] at p
    unfold runF at p
    cases h : s (env0 N.length ds) with
    | nx ρ => rw [h] at p; exact fun σ H' ⟨foot, r⟩ => p .non H' [] r.ext (fun a h => by cases h) .nil ⟨rfl, rfl⟩
    | rt d => rw [h] at p; exact p
    | bk ρ => rw [h] at p; exact p.elim
    | ct ρ => rw [h] at p; exact p.elim
    | ex e' ρ => rw [h] at p; exact fun c o σ H' ⟨foot, r⟩ y => p c o H' r.ext y
    | bad => rw [h] at p; exact p.elim
  · rw [e] at p; exact p.elim
end
theorem takesE {E : XK} {P : Program} {w : World} {K : PySem.W.Frag} {mg : Str → Option Value} {base : Heap} {N : List Str} {qual : Str} {scope : Scope} {f : Addr} {cd : Value} {A : Around} {outer : List PySem.Env} {s : Shared} {H : Hp} :
    Takes (cxOf (L2.CX P w) P w K mg base N qual scope f cd A outer s H E) (fun c o _ H => E c o H) := takes_of rfl rfl rfl rfl
theorem passesE {E : XK} {P : Program} {w : World} {K : PySem.W.Frag} {mg : Str → Option Value} {base : Heap} {N : List Str} {qual : Str} {scope : Scope} {f : Addr} {cd : Value} {A : Around} {outer : List PySem.Env} {s : Shared} {H : Hp} :
    PassesOwn (model P w) (cxOf (L2.CX P w) P w K mg base N qual scope f cd A outer s H E).A (cxOf (L2.CX P w) P w K mg base N qual scope f cd A outer s H E).env (cxOf (L2.CX P w) P w K mg base N qual scope f cd A outer s H E).xe := passes_of rfl
end De
set_option Elab.async false
set_option linter.all false
set_option maxRecDepth 100000
namespace De
open PySem PySem.Spec PyProof.Rows L2

/-! ### operators -/
def szOk (n : Nat) : Bool := decide (n ≤ 16777216)
theorem szOk_line {n : Nat} (h : szOk n = true) : n ≤ sizeLine := by rw [← sl_line]; exact of_decide_eq_true h
def dI (g : Int → Int → Option D) (d e : D) : Option D := match d with
  | .int i => (match e with
    | .int j => g i j
    | _ => none)
  | _ => none
theorem dI_inv {C : Cn} {W : Wd} {H : Hp} {Q : VK} {g : Int → Int → Option D} {d e : D} (q : RD C W H (dI g d e) Q) : ∃ i j, d = .int i ∧ e = .int j ∧ RD C W H (g i j) Q := by
  cases d with
  | int i =>
    cases e with
    | int j => exact ⟨i, j, rfl, rfl, q⟩
    | _ => exact q.elim
  | _ => exact q.elim
/-- a + b -/
def dAdd (d e : D) : Option D := match d with
  | .int i => (match e with
    | .int j => some (.int (i + j))
    | _ => none)
  | .str a => (match e with
    | .str b => if szOk (a.length + b.length) then some (.str (a ++ b)) else none
    | _ => none)
  | .lst o a => (match o with
    | false => (match e with
      | .lst o b => (match o with
        | false => if szOk (a.length + b.length) then some (.lst true (a ++ b)) else none
        | true => none)
      | _ => none)
    | true => none)
  | .tup a => (match e with
    | .tup b => if a.isEmpty = false ∧ szOk (a.length + b.length) = true then some (.tup (a ++ b)) else none
    | _ => none)
  | _ => none
def dSub : D → D → Option D := dI fun i j => some (.int (i - j))
def small64 (i : Int) : Bool := decide (-18446744073709551616 < i) && decide (i < 18446744073709551616)
/-- a text k times -/
def repS (s : Str) (n : Nat) : Str := ⟨((List.replicate n s.cps.toList).flatten).toArray⟩
theorem repS_fold (a : Array Nat) : ∀ (n : Nat) (b : Array Nat), (List.replicate n a).foldl (· ++ ·) b = b ++ ((List.replicate n a.toList).flatten).toArray
  | 0, b => by simp
  | n + 1, b => by
    rw [List.replicate_succ, List.foldl_cons, repS_fold a n, List.replicate_succ, List.flatten_cons, Array.append_assoc]
    congr 1
    apply Array.ext'
    simp
theorem repS_one (s : Str) : repS s 1 = s := by
  obtain ⟨a⟩ := s
  unfold repS
  congr 1
  apply Array.ext'
  simp
theorem repS_len (s : Str) (n : Nat) : (repS s n).length = s.length * n := by
  show (repS s n).cps.size = s.cps.size * n
  unfold repS
  simp [Nat.mul_comm]
theorem repS_empty (s : Str) (h : s.length = 0) (n : Nat) : repS s n = s := by
  obtain ⟨a⟩ := s
  have h : a.size = 0 := h
  have e : a = #[] := Array.eq_empty_of_size_eq_zero h
  subst e
  unfold repS
  congr 1
  apply Array.ext'
  simp
theorem op_rep_str {X : Cx} : OpR X (binaryOp .Mult) (fun x y H Q => ∃ a k, x = .str a ∧ y = .int k ∧ 0 ≤ k ∧ k < 2 ^ 60 ∧ a.length * k.toNat ≤ sizeLine ∧ Q (.str (repS a k.toNat)) H) := by
  intro pins s σ H x y v u Q I rx ry ⟨a, k, e1, e2, h0, h1, hz, q⟩
  subst e1 e2
  obtain ⟨t, rfl⟩ := rx
  obtain ⟨t2, rfl⟩ := ry
  refine PySem.P.mul_str (by
    rw [decide_eq_false (by omega), decide_eq_false (by omega)]; rfl) (fun h2 h3 h4 => ?_) (fun h2 h3 => decide_eq_false (by omega)) ?_
  · have hs : (sizeLine : Nat) = 16777216 := sl_line.symm
    have h5 : (a.length : Int) * k ≤ 16777216 := by
      have e : ((a.length * k.toNat : Nat) : Int) = (a.length : Int) * k := by
        rw [Int.natCast_mul, Int.toNat_of_nonneg h0]
      omega
    have h6 : (2 ^ 63 - 1) / k < (a.length : Int) := h4
    have h7 : (2 ^ 63 - 1 : Int) < a.length * k := (Int.ediv_lt_iff_lt_mul (by omega)).mp h6
    omega
  · by_cases hk : k < 1
    · rw [if_pos hk]
      have : k = 0 := by omega
      subst this
      have e : repS a (0 : Int).toNat = Str.empty := rfl
      rw [e] at q
      exact ⟨by decide, .str Str.empty, H, I.tok _, ⟨_, rfl⟩, q⟩
    · rw [if_neg hk]
      by_cases h2 : (k == 1 || a.length == 0) = true
      · rw [if_pos h2]
        have e : repS a k.toNat = a := by
          rcases Bool.or_eq_true_iff.mp h2 with h | h
          · have : k = 1 := by simpa using h
            subst this; exact repS_one a
          · exact repS_empty a (by simpa using h) _
        rw [e] at q
        exact ⟨.str a, H, I, ⟨t, rfl⟩, q⟩
      · rw [if_neg h2]
        have e : (⟨(List.replicate k.toNat a.cps).foldl (· ++ ·) #[]⟩ : Str) = repS a k.toNat := by
          rw [repS_fold]
          unfold repS
          congr 1
          simp
        rw [e]
        exact ⟨by rw [repS_len]; exact hz, .str _, H, I.tok _, ⟨_, rfl⟩, q⟩
def dMul (d e : D) : Option D := match d with
  | .str s => (match e with
    | .int k => if 0 ≤ k ∧ k ≤ 16777216 ∧ szOk (s.length * k.toNat) = true then some (.str (repS s k.toNat)) else none
    | _ => none)
  | .int i => (match e with
    | .int j => if (small64 i || small64 j) = true then some (.int (i * j)) else none
    | _ => none)
  | .lst o a => (match o with
    | false => (match e with
      | .int k => if small64 (2 * k) && szOk (a.length * k.toNat) then some (.lst true (List.replicate k.toNat a).flatten) else none
      | _ => none)
    | true => none)
  | _ => none
def dMod : D → D → Option D := dI fun i j => if 0 < j then some (.int (i % j)) else none
def dFdv : D → D → Option D := dI fun i j => if 0 < j ∧ j < 1073741824 then some (.int (i / j)) else none
def dPow : D → D → Option D := dI fun i j => if 0 ≤ j ∧ j ≤ 1000000 ∧ i.natAbs < 18446744073709551616 then some (.int (i ^ j.toNat)) else none
def dLt : D → D → Option D := dI fun i j => some (.bl (decide (i < j)))
def dLe : D → D → Option D := dI fun i j => some (.bl (decide (i ≤ j)))
def dGt : D → D → Option D := dI fun i j => some (.bl (decide (j < i)))
def dGe : D → D → Option D := dI fun i j => some (.bl (decide (j ≤ i)))
def dNeg : D → Option D
  | .int i => some (.int (-i))
  | _ => none
def isNon : D → Bool
  | .non => true
  | _ => false
def dIsN (d e : D) : Option D := match e with
  | .non => some (.bl (isNon d))
  | _ => none
def dNotN (d e : D) : Option D := match e with
  | .non => some (.bl (!isNon d))
  | _ => none
mutual
def toP : D → PyData
  | .non => .none
  | .bl b => .bool b
  | .int i => .int i
  | .str s => .str s
  | .lst _ ds => .list (toPs ds)
  | .rol ds => .list (toPs ds)
  | .tup ds => .tuple (toPs ds)
  | .dic _ _ _ => .dict []
  | .ty _ => .dict []
def toPs : List D → List PyData
  | [] => []
  | d :: ds => toP d :: toPs ds
end
mutual
/-- data within n lists or tuples -/
def lv : Nat → D → Bool
  | _, .non => true
  | _, .bl _ => true
  | _, .int _ => true
  | _, .str s => PyData.strOk s
  | 0, _ => false
  | n + 1, .lst _ ds => lvs n ds
  | n + 1, .rol ds => lvs n ds
  | n + 1, .tup ds => lvs n ds
  | _, .dic _ _ _ => false
  | _, .ty _ => false
def lvs : Nat → List D → Bool
  | _, [] => true
  | n, d :: ds => lv n d && lvs n ds
end
def eqD (a b : D) : Bool := PyData.eqv (toP a) (toP b)
/-- a == b of ints, of texts; else of data -/
def dEqO (d e : D) : Option D := if (lv 20 d && lv 20 e) = true then some (.bl (eqD d e)) else none
def dEq (d e : D) : Option D := match d with
  | .int i => (match e with
    | .int j => some (.bl (decide (i = j)))
    | _ => dEqO d e)
  | .str i => (match e with
    | .str j => some (.bl (decide (i = j)))
    | _ => dEqO d e)
  | _ => dEqO d e
def notD : D → D
  | .bl b => .bl (!b)
  | d => d
def dNe (d e : D) : Option D := (dEq d e).map notD
mutual
theorem lv_depth : ∀ (n : Nat) (d : D), lv n d = true → (toP d).canLay0 = true ∧ (toP d).depth ≤ n
  | _, .non, _ => ⟨rfl, Nat.zero_le _⟩
  | _, .bl _, _ => ⟨rfl, Nat.zero_le _⟩
  | _, .int _, _ => ⟨rfl, Nat.zero_le _⟩
  | n, .str s, h => ⟨by cases n <;> exact h, Nat.zero_le _⟩
  | 0, .lst _ _, h => by cases h
  | 0, .rol _, h => by cases h
  | 0, .tup _, h => by cases h
  | 0, .dic _ _ _, h => by cases h
  | 0, .ty _, h => by cases h
  | n + 1, .lst _ ds, h => by
    obtain ⟨h1, h2⟩ := lvs_depth n ds h
    exact ⟨h1, Nat.succ_le_succ h2⟩
  | n + 1, .rol ds, h => by
    obtain ⟨h1, h2⟩ := lvs_depth n ds h
    exact ⟨h1, Nat.succ_le_succ h2⟩
  | n + 1, .tup ds, h => by
    obtain ⟨h1, h2⟩ := lvs_depth n ds h
    exact ⟨h1, Nat.succ_le_succ h2⟩
  | n + 1, .dic _ _ _, h => by cases h
  | n + 1, .ty _, h => by cases h
theorem lvs_depth : ∀ (n : Nat) (ds : List D), lvs n ds = true → PyData.canLayAll0 (toPs ds) = true ∧ PyData.depthAll (toPs ds) ≤ n
  | _, [], _ => ⟨rfl, Nat.zero_le _⟩
  | n, d :: ds, h => by
    have h' : lv n d = true ∧ lvs n ds = true := by simpa [lvs] using h
    obtain ⟨h1, h2⟩ := lv_depth n d h'.1
    obtain ⟨h3, h4⟩ := lvs_depth n ds h'.2
    exact ⟨by simp [toPs, PyData.canLayAll0, h1, h3], Nat.max_le.mpr ⟨h2, h4⟩⟩
end
theorem shaped_of {d : D} (h : lv 20 d = true) : SeqAt.shaped (toP d) = true := by
  obtain ⟨h1, h2⟩ := lv_depth 20 d h
  unfold SeqAt.shaped
  rw [h1, Bool.true_and]
  exact decide_eq_true (by omega)
section
variable {K : PySem.W.Frag} {W : Wd} {H : Hp}
mutual
theorem own_dp : ∀ (n : Nat) (d : D) (v : V) (A : List Addr), lv n d = true → Own K W H v d A → Dp K H v (toP d)
  | _, .non, v, _, _, o => by rw [o.1]; exact .non
  | _, .bl b, v, _, _, o => by rw [o.1]; exact .bl b
  | _, .int i, v, _, _, o => by rw [o.1]; exact .int i
  | _, .str s, v, _, _, o => by rw [o.1]; exact .str s
  | 0, .lst _ _, _, _, h, _ => by cases h
  | 0, .rol _, _, _, h, _ => by cases h
  | 0, .tup _, _, _, h, _ => by cases h
  | 0, .dic _ _ _, _, _, h, _ => by cases h
  | 0, .ty _, _, _, h, _ => by cases h
  | n + 1, .lst true ds, v, _, h, o => by
    obtain ⟨a, vs, B, e, h1, e2, h2⟩ := o
    subst e
    exact .lst (SqL.of h2) (owns_dp n ds vs B h h1)
  | n + 1, .lst false ds, v, _, h, o => by
    obtain ⟨a, vs, B, e, h1, e2, e3, h2⟩ := o
    subst e
    exact .lst (SqL.of h2.1) (owns_dp n ds vs B h h1)
  | n + 1, .rol ds, v, _, h, o => by
    obtain ⟨a, vs, e, h1, e2, h2⟩ := o
    subst e
    exact .lst (h2.elim (fun z => .inl z.1) KL.sq) (owns_dp n ds vs [] h h1)
  | n + 1, .tup ds, v, _, h, o => by
    obtain ⟨a, vs, e, h1, h2⟩ := o
    subst e
    exact .tup h2 (owns_dp n ds vs _ h h1)
  | n + 1, .dic _ _ _, _, _, h, _ => by cases h
  | n + 1, .ty _, _, _, h, _ => by cases h
theorem owns_dp : ∀ (n : Nat) (ds : List D) (vs : List V) (A : List Addr), lvs n ds = true → Owns K W H vs ds A → DpAll K H vs (toPs ds)
  | _, [], vs, _, _, o => by rw [o.1]; exact .nil
  | n, d :: ds, vs, _, h, o => by
    have h' : lv n d = true ∧ lvs n ds = true := by simpa [lvs] using h
    obtain ⟨v, ws, A1, A2, e1, e2, h1, h2⟩ := o
    rw [e1]
    exact .cons (own_dp n d v A1 h'.1 h1) (owns_dp n ds ws A2 h'.2 h2)
end
end
section
variable {X : Cx} {T : List (Addr × Str)}
theorem small64_ok {i : Int} (h : small64 i = true) : -(2 ^ 64) < i ∧ i < 2 ^ 64 := by
  unfold small64 at h
  simp only [Bool.and_eq_true, decide_eq_true_eq] at h
  exact ⟨by omega, by omega⟩
theorem add_ok : OpR X (binaryOp .Add) (r2D (Cn.of X T) dAdd) := by
  intro pins s σ H x y v u Q I rx ry h
  obtain ⟨W, d, e, al, tb, ox, oy, q⟩ := h
  cases d with
  | int i =>
    cases e with
    | int j => exact op_add pins s σ H x y v u Q I rx ry ⟨i, j, ox.1, oy.1, q.int⟩
    | _ => exact q.elim
  | str a =>
    cases e with
    | str b =>
      have q : RD (Cn.of X T) W H (if szOk (a.length + b.length) then some (.str (a ++ b)) else none) Q := q
      split at q
      · rename_i hz
        exact op_add_str pins s σ H x y v u Q I rx ry ⟨a, b, ox.1, oy.1, szOk_line hz, q.str⟩
      · exact q.elim
    | _ => exact q.elim
  | lst o a =>
    cases o with
    | true => exact q.elim
    | false =>
    cases e with
    | lst o b =>
      cases o with
      | true => exact q.elim
      | false =>
      have q : RD (Cn.of X T) W H (if szOk (a.length + b.length) then some (.lst true (a ++ b)) else none) Q := q
      split at q
      · rename_i hz
        obtain ⟨l, vs, B, rfl, o1, _, rfl, h1, _⟩ := ox
        obtain ⟨k, ws, B, rfl, o2, _, rfl, h2, _⟩ := oy
        have o3 := o1.app o2
        exact op_cat pins s σ H _ _ v u Q I rx ry ⟨l, k, vs, ws, rfl, rfl, h1, h2, by rw [o1.length, o2.length]; exact szOk_line hz, fun p np => q.lst (C := Cn.of X T) o3 np⟩
      · exact q.elim
    | _ => exact q.elim
  | tup a =>
    cases e with
    | tup b =>
      have q : RD (Cn.of X T) W H (if a.isEmpty = false ∧ szOk (a.length + b.length) = true then some (.tup (a ++ b)) else none) Q := q
      split at q
      · rename_i hz
        obtain ⟨l, vs, rfl, o1, h1⟩ := ox
        obtain ⟨k, ws, rfl, o2, h2⟩ := oy
        have o3 := o1.app o2
        refine op_catT pins s σ H _ _ v u Q I rx ry ⟨l, k, vs, ws, rfl, rfl, h1, h2, fun z => ?_, by rw [o1.length, o2.length]; exact szOk_line hz.2, fun z => ?_, fun z p np => q.tup (C := Cn.of X T) o3 np⟩
        · have := o1.length
          rw [z] at this
          cases a with
          | nil => exact absurd hz.1 (by decide)
          | cons _ _ => simp at this
        · have e := o2.length
          rw [z] at e
          cases b with
          | nil => rw [List.append_nil] at q; exact q.same ⟨l, vs, rfl, o1, h1⟩
          | cons _ _ => simp at e
      · exact q.elim
    | _ => exact q.elim
  | _ => exact q.elim
theorem sub_ok : OpR X (binaryOp .Sub) (r2D (Cn.of X T) dSub) := by
  intro pins s σ H x y v u Q I rx ry h
  obtain ⟨W, d, e, al, tb, ox, oy, q⟩ := h
  obtain ⟨i, j, rfl, rfl, q⟩ := dI_inv q
  exact op_sub pins s σ H x y v u Q I rx ry ⟨i, j, ox.1, oy.1, q.int⟩
theorem mul_ok : OpR X (binaryOp .Mult) (r2D (Cn.of X T) dMul) := by
  intro pins s σ H x y v u Q I rx ry h
  obtain ⟨W, d, e, al, tb, ox, oy, q⟩ := h
  cases d with
  | int i =>
    cases e with
    | int j =>
      have q : RD (Cn.of X T) W H (if (small64 i || small64 j) = true then some (.int (i * j)) else none) Q := q
      split at q
      · rename_i hz
        refine op_mul pins s σ H x y v u Q I rx ry ⟨i, j, ox.1, oy.1, ?_, q.int⟩
        rcases (Bool.or_eq_true_iff.mp hz) with z | z
        · exact .inl (small64_ok z)
        · exact .inr (small64_ok z)
      · exact q.elim
    | _ => exact q.elim
  | str a =>
    cases e with
    | int k =>
      have q : RD (Cn.of X T) W H (if 0 ≤ k ∧ k ≤ 16777216 ∧ szOk (a.length * k.toNat) = true then some (.str (repS a k.toNat)) else none) Q := q
      split at q
      · rename_i hz
        exact op_rep_str pins s σ H x y v u Q I rx ry ⟨a, k, ox.1, oy.1, hz.1, by omega, szOk_line hz.2.2, q.str⟩
      · exact q.elim
    | _ => exact q.elim
  | lst o a =>
    cases o with
    | true => exact q.elim
    | false =>
    cases e with
    | int k =>
      have q : RD (Cn.of X T) W H (if small64 (2 * k) && szOk (a.length * k.toNat) then some (.lst true (List.replicate k.toNat a).flatten) else none) Q := q
      split at q
      · rename_i hz
        obtain ⟨z1, z2⟩ := Bool.and_eq_true_iff.mp hz
        have z3 := small64_ok z1
        obtain ⟨l, vs, B, rfl, o1, _, rfl, h1, _⟩ := ox
        have rep : ∀ n : Nat, Owns X.K W H (List.replicate n vs).flatten (List.replicate n a).flatten [] := fun n => by
          induction n with
          | zero => exact ⟨rfl, rfl⟩
          | succ n ih => rw [List.replicate_succ, List.replicate_succ, List.flatten_cons, List.flatten_cons]; exact o1.app ih
        exact op_rep pins s σ H _ _ v u Q I rx ry ⟨l, k, vs, rfl, oy.1, h1, by omega, by omega, by rw [o1.length]; exact szOk_line z2, fun p np => q.lst (C := Cn.of X T) (rep _) np⟩
      · exact q.elim
    | _ => exact q.elim
  | _ => exact q.elim
theorem mod_ok : OpR X (binaryOp .Mod) (r2D (Cn.of X T) dMod) := by
  intro pins s σ H x y v u Q I rx ry h
  obtain ⟨W, d, e, al, tb, ox, oy, q⟩ := h
  obtain ⟨i, j, rfl, rfl, q2⟩ := dI_inv q
  clear q
  rename RD _ _ _ _ _ => q
  split at q
  · rename_i hz
    exact op_mod pins s σ H x y v u Q I rx ry ⟨i, j, ox.1, oy.1, hz, q.int⟩
  · exact q.elim
theorem fdv_ok : OpR X (binaryOp .FloorDiv) (r2D (Cn.of X T) dFdv) := by
  intro pins s σ H x y v u Q I rx ry h
  obtain ⟨W, d, e, al, tb, ox, oy, q⟩ := h
  obtain ⟨i, j, rfl, rfl, q2⟩ := dI_inv q
  clear q
  rename RD _ _ _ _ _ => q
  split at q
  · rename_i hz
    exact op_fdiv pins s σ H x y v u Q I rx ry ⟨i, j, ox.1, oy.1, hz, q.int⟩
  · exact q.elim
theorem pow_ok : OpR X (binaryOp .Pow) (r2D (Cn.of X T) dPow) := by
  intro pins s σ H x y v u Q I rx ry h
  obtain ⟨W, d, e, al, tb, ox, oy, q⟩ := h
  obtain ⟨i, j, rfl, rfl, q2⟩ := dI_inv q
  clear q
  rename RD _ _ _ _ _ => q
  split at q
  · rename_i hz
    exact op_pow pins s σ H x y v u Q I rx ry ⟨i, j, ox.1, oy.1, ⟨hz.1, hz.2.1, by have := hz.2.2; omega⟩, q.int⟩
  · exact q.elim
theorem lt_ok : OpR X (compareOp .Lt) (r2D (Cn.of X T) dLt) := by
  intro pins s σ H x y v u Q I rx ry h
  obtain ⟨W, d, e, al, tb, ox, oy, q⟩ := h
  obtain ⟨i, j, rfl, rfl, q⟩ := dI_inv q
  exact op_lt pins s σ H x y v u Q I rx ry ⟨i, j, ox.1, oy.1, q.bl⟩
theorem le_ok : OpR X (compareOp .LtE) (r2D (Cn.of X T) dLe) := by
  intro pins s σ H x y v u Q I rx ry h
  obtain ⟨W, d, e, al, tb, ox, oy, q⟩ := h
  obtain ⟨i, j, rfl, rfl, q⟩ := dI_inv q
  exact op_le pins s σ H x y v u Q I rx ry ⟨i, j, ox.1, oy.1, q.bl⟩
theorem gt_ok : OpR X (compareOp .Gt) (r2D (Cn.of X T) dGt) := by
  intro pins s σ H x y v u Q I rx ry h
  obtain ⟨W, d, e, al, tb, ox, oy, q⟩ := h
  obtain ⟨i, j, rfl, rfl, q⟩ := dI_inv q
  exact op_gt pins s σ H x y v u Q I rx ry ⟨i, j, ox.1, oy.1, q.bl⟩
theorem ge_ok : OpR X (compareOp .GtE) (r2D (Cn.of X T) dGe) := by
  intro pins s σ H x y v u Q I rx ry h
  obtain ⟨W, d, e, al, tb, ox, oy, q⟩ := h
  obtain ⟨i, j, rfl, rfl, q⟩ := dI_inv q
  exact op_ge pins s σ H x y v u Q I rx ry ⟨i, j, ox.1, oy.1, q.bl⟩
theorem neg_ok : UnR X (unaryOp .USub) (r1D (Cn.of X T) dNeg) := by
  intro pins s σ H x v Q I rx h
  obtain ⟨W, d, al, tb, ox, q⟩ := h
  cases d with
  | int i => exact un_neg pins s σ H x v Q I rx ⟨i, ox.1, q.int⟩
  | _ => exact q.elim
theorem own_isNon {K : PySem.W.Frag} {W : Wd} {H : Hp} {d : D} {v : V} {A : List Addr} (o : Own K W H v d A) : decide (v = .non) = isNon d := by
  cases d with
  | non => have e := o.1; subst e; rfl
  | bl b => have e := o.1; subst e; rfl
  | int i => have e := o.1; subst e; rfl
  | str i => have e := o.1; subst e; rfl
  | ty i => have e := o.1; subst e; rfl
  | lst b ds => obtain ⟨a, vs, B, e, _⟩ := o; subst e; rfl
  | rol ds => obtain ⟨a, vs, e, _⟩ := o; subst e; rfl
  | tup ds => obtain ⟨a, vs, e, _⟩ := o; subst e; rfl
  | dic b ks ds => obtain ⟨a, vs, B, e, _⟩ := o; subst e; rfl
theorem isN_ok : OpR X (compareOp .Is) (r2D (Cn.of X T) dIsN) := by
  intro pins s σ H x y v u Q I rx ry h
  obtain ⟨W, d, e, al, tb, ox, oy, q⟩ := h
  cases e with
  | non => exact op_isN pins s σ H x y v u Q I rx ry ⟨oy.1, by rw [own_isNon ox]; exact RD.bl (C := Cn.of X T) (W := W) q⟩
  | _ => exact q.elim
theorem notN_ok : OpR X (compareOp .IsNot) (r2D (Cn.of X T) dNotN) := by
  intro pins s σ H x y v u Q I rx ry h
  obtain ⟨W, d, e, al, tb, ox, oy, q⟩ := h
  cases e with
  | non => exact op_notN pins s σ H x y v u Q I rx ry ⟨oy.1, by rw [own_isNon ox]; exact RD.bl (C := Cn.of X T) (W := W) q⟩
  | _ => exact q.elim
theorem eqO_ok (hu : X.A.units + 64 < cLine) {pins : List (Addr × Obj)} {s : Shared} {σ : L2.St} {H : Hp} {x y : V} {v u : Value} {Q : VK} {W : Wd} {d e : D} (I : Inv X pins σ H s) (rx : RelV x v) (ry : RelV y u) (ox : Own X.K W H x d []) (oy : Own X.K W H y e []) (q : RD (Cn.of X T) W H (dEqO d e) Q) :
    wpAny (model X.prog X.w) X.A (compareOp .Eq v u) (EP X pins σ Q) X.xe s := by
  unfold dEqO at q
  split at q
  · rename_i hz
    obtain ⟨z1, z2⟩ := Bool.and_eq_true_iff.mp hz
    exact op_eqD hu pins s σ H x y v u Q I rx ry ⟨_, _, own_dp 20 _ _ _ z1 ox, own_dp 20 _ _ _ z2 oy, shaped_of z1, shaped_of z2, q.bl⟩
  · exact q.elim
theorem eq_ok (hu : X.A.units + 64 < cLine) : OpR X (compareOp .Eq) (r2D (Cn.of X T) dEq) := by
  intro pins s σ H x y v u Q I rx ry h
  obtain ⟨W, d, e, al, tb, ox, oy, q⟩ := h
  cases d with
  | int i =>
    cases e with
    | int j =>
      have ex := ox.1
      have ey := oy.1
      subst ex ey
      refine op_eq pins s σ H _ _ v u Q I rx ry ⟨rfl, ?_⟩
      rw [show decide (V.int i = V.int j) = decide (i = j) from by simp]
      exact RD.bl (C := Cn.of X T) (W := W) q
    | _ => exact eqO_ok (T := T) hu I rx ry ox oy q
  | str i =>
    cases e with
    | str j =>
      have ex := ox.1
      have ey := oy.1
      subst ex ey
      refine op_eq pins s σ H _ _ v u Q I rx ry ⟨rfl, ?_⟩
      rw [show decide (V.str i = V.str j) = decide (i = j) from by simp]
      exact RD.bl (C := Cn.of X T) (W := W) q
    | _ => exact eqO_ok (T := T) hu I rx ry ox oy q
  | _ => exact eqO_ok (T := T) hu I rx ry ox oy q
theorem neO_ok (hu : X.A.units + 64 < cLine) {pins : List (Addr × Obj)} {s : Shared} {σ : L2.St} {H : Hp} {x y : V} {v u : Value} {Q : VK} {W : Wd} {d e : D} (I : Inv X pins σ H s) (rx : RelV x v) (ry : RelV y u) (ox : Own X.K W H x d []) (oy : Own X.K W H y e []) (q : RD (Cn.of X T) W H ((dEqO d e).map notD) Q) :
    wpAny (model X.prog X.w) X.A (compareOp .NotEq v u) (EP X pins σ Q) X.xe s := by
  unfold dEqO at q
  split at q
  · rename_i hz
    obtain ⟨z1, z2⟩ := Bool.and_eq_true_iff.mp hz
    exact op_neD hu pins s σ H x y v u Q I rx ry ⟨_, _, own_dp 20 _ _ _ z1 ox, own_dp 20 _ _ _ z2 oy, shaped_of z1, shaped_of z2, RD.bl (C := Cn.of X T) (W := W) q⟩
  · exact q.elim
theorem ne_ok (hu : X.A.units + 64 < cLine) : OpR X (compareOp .NotEq) (r2D (Cn.of X T) dNe) := by
  intro pins s σ H x y v u Q I rx ry h
  obtain ⟨W, d, e, al, tb, ox, oy, q⟩ := h
  cases d with
  | int i =>
    cases e with
    | int j =>
      have ex := ox.1
      have ey := oy.1
      subst ex ey
      refine op_ne pins s σ H _ _ v u Q I rx ry ⟨rfl, ?_⟩
      rw [show decide (V.int i = V.int j) = decide (i = j) from by simp]
      exact RD.bl (C := Cn.of X T) (W := W) q
    | _ => exact neO_ok (T := T) hu I rx ry ox oy q
  | str i =>
    cases e with
    | str j =>
      have ex := ox.1
      have ey := oy.1
      subst ex ey
      refine op_ne pins s σ H _ _ v u Q I rx ry ⟨rfl, ?_⟩
      rw [show decide (V.str i = V.str j) = decide (i = j) from by simp]
      exact RD.bl (C := Cn.of X T) (W := W) q
    | _ => exact neO_ok (T := T) hu I rx ry ox oy q
  | _ => exact neO_ok (T := T) hu I rx ry ox oy q
end
end De
set_option Elab.async false
set_option linter.all false
set_option maxRecDepth 100000
namespace De
open PySem PySem.Spec PyProof.Rows L2

/-! ### calls of what is built in -/
section
variable {X : Cx} {T : List (Addr × Str)}
/-- a call's rule by its values: one argument -/
def g1 (g : D → Option D) (ds : List D) : Option D := match ds with
  | [d] => g d
  | _ => none
def g2 (g : D → D → Option D) (ds : List D) : Option D := match ds with
  | [d, e] => g d e
  | _ => none
theorem g1_inv {C : Cn} {W : Wd} {H : Hp} {Q : VK} {g : D → Option D} {ds : List D} (q : RD C W H (g1 g ds) Q) : ∃ d, ds = [d] ∧ RD C W H (g d) Q := by
  match ds, q with
  | [d], q => exact ⟨d, rfl, q⟩
  | [], q => exact q.elim
  | _ :: _ :: _, q => exact q.elim
theorem g2_inv {C : Cn} {W : Wd} {H : Hp} {Q : VK} {g : D → D → Option D} {ds : List D} (q : RD C W H (g2 g ds) Q) : ∃ d e, ds = [d, e] ∧ RD C W H (g d e) Q := by
  match ds, q with
  | [d, e], q => exact ⟨d, e, rfl, q⟩
  | [], q => exact q.elim
  | [_], q => exact q.elim
  | _ :: _ :: _ :: _, q => exact q.elim
theorem owns_1 {C : Cn} {W : Wd} {H : Hp} {vs : List V} {a : D} (o : Owns C.K W H vs [a] []) : ∃ v, vs = [v] ∧ Own C.K W H v a [] := by
  obtain ⟨v, ws, A1, A2, e1, e2, h1, e3, e4⟩ := o
  obtain ⟨z1, z2⟩ := List.append_eq_nil_iff.mp e2.symm
  subst z1 e1 e3
  exact ⟨v, rfl, h1⟩
theorem owns_2 {C : Cn} {W : Wd} {H : Hp} {vs : List V} {a b : D} (o : Owns C.K W H vs [a, b] []) : ∃ v w, vs = [v, w] ∧ Own C.K W H v a [] ∧ Own C.K W H w b [] := by
  obtain ⟨v, w, A1, A2, e1, e2, h1, h2⟩ := owns_two o
  obtain ⟨z1, z2⟩ := List.append_eq_nil_iff.mp e2.symm
  subst z1 z2
  exact ⟨v, w, e1, h1, h2⟩
def dLen : D → Option D
  | .str s => if szOk s.length then some (.int s.length) else none
  | .lst _ ds => some (.int ds.length)
  | .rol ds => some (.int ds.length)
  | .tup ds => some (.int ds.length)
  | _ => none
theorem len_ok : CallR X (.builtin "len") (rsD (Cn.of X T) (g1 dLen)) := by
  intro pins s σ H xs us Q I r h
  obtain ⟨W, ds, al, tb, os, qs⟩ := h
  obtain ⟨d, rfl, q⟩ := g1_inv qs
  obtain ⟨v, rfl, o⟩ := owns_1 (C := Cn.of X T) os
  have seq : ∀ {a : Addr} {vs : List V} {es : List D}, v = .ref a → (SqL X.K H a vs ∨ SqT X.K H a vs) → Owns X.K W H vs es [] → RD (Cn.of X T) W H (some (.int es.length)) Q → wpAny (model X.prog X.w) X.A (call (.builtin "len") us) (EP X pins σ Q) X.xe s := by
    intro a vs es e h1 h2 q
    subst e
    refine call_len_seq pins s σ H _ us Q I r ⟨a, vs, rfl, h1, ?_⟩
    rw [h2.length]; exact RD.int q
  cases d with
  | str z =>
    have q : RD (Cn.of X T) W H (if szOk z.length then some (.int z.length) else none) Q := q
    split at q
    · rename_i hz
      have e := o.1
      subst e
      exact call_len_str pins s σ H _ us Q I r ⟨z, rfl, szOk_line hz, q.int⟩
    · exact q.elim
  | lst b ds =>
    cases b with
    | true => obtain ⟨_, _, _, _, _, e, _⟩ := o; cases e
    | false =>
      obtain ⟨a, vs, e, h1, h2⟩ := own_listF (C := Cn.of X T) o
      exact seq e (.inl h1) h2 q
  | rol ds =>
    obtain ⟨a, vs, e, h1, h2⟩ := own_rol (C := Cn.of X T) o
    exact seq e (.inl h1) h2 q
  | tup ds =>
    obtain ⟨a, vs, e, h1, h2⟩ := own_tupF (C := Cn.of X T) o
    exact seq e (.inr h1) h2 q
  | _ => exact q.elim
/-- the bools of a list -/
def bls : List D → Option (List Bool)
  | [] => some []
  | .bl b :: ds => (bls ds).map (b :: ·)
  | _ :: _ => none
theorem owns_bls {K : PySem.W.Frag} {W : Wd} {H : Hp} : ∀ {ds : List D} {vs : List V} {A : List Addr} {bs : List Bool}, Owns K W H vs ds A → bls ds = some bs → vs = bs.map V.bl
  | [], vs, _, bs, o, e => by cases e; exact o.1
  | d :: ds, vs, _, bs, o, e => by
    obtain ⟨v, ws, A1, A2, e1, e2, h1, h2⟩ := o
    cases d with
    | bl b =>
      obtain ⟨cs, h3, h4⟩ := Option.map_eq_some_iff.mp (show (bls ds).map (b :: ·) = some bs from e)
      rw [e1, h1.1, owns_bls h2 h3, ← h4]; rfl
    | _ => cases e
def dAll : D → Option D
  | .lst _ ds => (bls ds).map fun bs => .bl (bs.all id)
  | _ => none
def dAny : D → Option D
  | .lst _ ds => (bls ds).map fun bs => .bl (bs.any id)
  | _ => none
theorem bl_args {g : List Bool → Bool} {xs : List V} {H : Hp} {Q : VK} (h : rsD (Cn.of X T) (g1 fun d => match d with | .lst _ ds => (bls ds).map fun bs => .bl (g bs) | _ => none) xs H Q) :
    ∃ (a : Addr) (bs : List Bool), xs = [V.ref a] ∧ SqL X.K H a (bs.map V.bl) ∧ Q (.bl (g bs)) H := by
  obtain ⟨W, ds, al, tb, os, qs⟩ := h
  obtain ⟨d, rfl, q⟩ := g1_inv qs
  obtain ⟨v, rfl, o⟩ := owns_1 (C := Cn.of X T) os
  cases d with
  | lst b ds =>
    obtain ⟨a, vs, e, h1, B, h2⟩ := own_list (C := Cn.of X T) o
    have q : RD (Cn.of X T) W H ((bls ds).map fun bs => .bl (g bs)) Q := q
    cases e2 : bls ds with
    | none => rw [e2] at q; exact q.elim
    | some bs =>
      rw [e2] at q
      subst e
      refine ⟨a, bs, rfl, ?_, RD.bl q⟩
      rw [← owns_bls h2 e2]; exact h1
  | _ => exact q.elim
theorem all_ok (hc : X.calm = true) : CallR X (.builtin "all") (rsD (Cn.of X T) (g1 dAll)) := fun pins s σ H xs us Q I r h => cr_all hc pins s σ H xs us Q I r (bl_args (g := fun bs => bs.all id) h)
theorem any_ok (hc : X.calm = true) : CallR X (.builtin "any") (rsD (Cn.of X T) (g1 dAny)) := fun pins s σ H xs us Q I r h => cr_any hc pins s σ H xs us Q I r (bl_args (g := fun bs => bs.any id) h)
def dStr : D → Option D
  | .str s => some (.str s)
  | .int i => if i.natAbs.log2 < 1920 then some (.str (toString i)) else none
  | _ => none
theorem str_ok : CallR X (.type "str") (rsD (Cn.of X T) (g1 dStr)) := by
  intro pins s σ H xs us Q I r h
  obtain ⟨W, ds, al, tb, os, qs⟩ := h
  obtain ⟨d, rfl, q⟩ := g1_inv qs
  obtain ⟨v, rfl, o⟩ := owns_1 (C := Cn.of X T) os
  cases d with
  | str z => have e := o.1; subst e; exact SkE.call_str_str pins s σ H _ us Q I r ⟨z, rfl, q.str⟩
  | int i =>
    have q : RD (Cn.of X T) W H (if i.natAbs.log2 < 1920 then some (.str (toString i)) else none) Q := q
    split at q
    · rename_i hz
      have e := o.1
      subst e
      exact call_str_int pins s σ H _ us Q I r ⟨i, rfl, hz, RD.str (C := Cn.of X T) q⟩
    · exact q.elim
  | _ => exact q.elim
def dAbs : D → Option D
  | .int i => some (.int (if i < 0 then -i else i))
  | _ => none
theorem abs_ok : CallR X (.builtin "abs") (rsD (Cn.of X T) (g1 dAbs)) := by
  intro pins s σ H xs us Q I r h
  obtain ⟨W, ds, al, tb, os, qs⟩ := h
  obtain ⟨d, rfl, q⟩ := g1_inv qs
  obtain ⟨v, rfl, o⟩ := owns_1 (C := Cn.of X T) os
  cases d with
  | int i => have e := o.1; subst e; exact call_abs pins s σ H _ us Q I r ⟨i, rfl, RD.int (C := Cn.of X T) q⟩
  | _ => exact q.elim
def dTup : D → Option D
  | .lst _ ds => some (.tup ds)
  | .rol ds => some (.tup ds)
  | .tup ds => some (.tup ds)
  | _ => none
theorem tup_ok : CallR X (.type "tuple") (rsD (Cn.of X T) (g1 dTup)) := by
  intro pins s σ H xs us Q I r h
  obtain ⟨W, ds, al, tb, os, qs⟩ := h
  obtain ⟨d, rfl, q⟩ := g1_inv qs
  obtain ⟨v, rfl, o⟩ := owns_1 (C := Cn.of X T) os
  cases d with
  | lst b ds =>
    cases b with
    | true => obtain ⟨_, _, _, _, _, e, _⟩ := o; cases e
    | false =>
      obtain ⟨a, vs, e, h1, h2⟩ := own_listF (C := Cn.of X T) o
      subst e
      exact call_tuple_of pins s σ H _ us Q I r ⟨a, vs, rfl, .inl ⟨h1, fun l hl => RD.tup (C := Cn.of X T) q h2 hl⟩⟩
  | rol ds =>
    obtain ⟨a, vs, e, h1, h2⟩ := own_rol (C := Cn.of X T) o
    subst e
    exact call_tuple_of pins s σ H _ us Q I r ⟨a, vs, rfl, .inl ⟨h1, fun l hl => RD.tup (C := Cn.of X T) q h2 hl⟩⟩
  | tup ds =>
    have o' := o
    obtain ⟨a, vs, e, h1, h2⟩ := own_tupF (C := Cn.of X T) o
    subst e
    exact call_tuple_of pins s σ H _ us Q I r ⟨a, vs, rfl, .inr ⟨h1, RD.same (C := Cn.of X T) q o'⟩⟩
  | _ => exact q.elim
def dLst : D → Option D
  | .lst _ ds => some (.lst true ds)
  | .rol ds => some (.lst true ds)
  | .tup ds => some (.lst true ds)
  | _ => none
theorem lst_ok : CallR X (.type "list") (rsD (Cn.of X T) (g1 dLst)) := by
  intro pins s σ H xs us Q I r h
  obtain ⟨W, ds, al, tb, os, qs⟩ := h
  obtain ⟨d, rfl, q⟩ := g1_inv qs
  obtain ⟨v, rfl, o⟩ := owns_1 (C := Cn.of X T) os
  cases d with
  | lst b ds =>
    cases b with
    | true => obtain ⟨_, _, _, _, _, e, _⟩ := o; cases e
    | false =>
      obtain ⟨a, vs, e, h1, h2⟩ := own_listF (C := Cn.of X T) o
      subst e
      exact call_list_of pins s σ H _ us Q I r ⟨a, vs, rfl, .inl h1, fun l hl => RD.lst (C := Cn.of X T) q h2 hl⟩
  | rol ds =>
    obtain ⟨a, vs, e, h1, h2⟩ := own_rol (C := Cn.of X T) o
    subst e
    exact call_list_of pins s σ H _ us Q I r ⟨a, vs, rfl, .inl h1, fun l hl => RD.lst (C := Cn.of X T) q h2 hl⟩
  | tup ds =>
    obtain ⟨a, vs, e, h1, h2⟩ := own_tupF (C := Cn.of X T) o
    subst e
    exact call_list_of pins s σ H _ us Q I r ⟨a, vs, rfl, .inr h1, fun l hl => RD.lst (C := Cn.of X T) q h2 hl⟩
  | _ => exact q.elim
/-! ### isinstance of built-in types -/
def tyN : D → String
  | .non => "NoneType"
  | .bl _ => "bool"
  | .int _ => "int"
  | .str _ => "str"
  | .lst _ _ => "list"
  | .rol _ => "list"
  | .tup _ => "tuple"
  | .dic _ _ _ => "dict"
  | .ty _ => "type"
def dIsi (d e : D) : Option D := match e with
  | .ty n => (match d with
    | .ty _ => none
    | d => if n = "int" ∨ n = "bool" ∨ n = "str" ∨ n = "list" ∨ n = "tuple" then some (.bl (decide (tyN d = n) || (decide (tyN d = "bool") && decide (n = "int")))) else none)
  | _ => none
theorem kit_tab : ∀ a ∈ ["NoneType", "bool", "int", "str", "list", "tuple", "dict"], ∀ n ∈ ["int", "bool", "str", "list", "tuple"], kitB a n = some (decide (a = n) || (decide (a = "bool") && decide (n = "int"))) := by decide +kernel
theorem own_ty {K : PySem.W.Frag} {W : Wd} {H : Hp} {d : D} {v : V} {A : List Addr} (o : Own K W H v d A) (n : ∀ t, d ≠ .ty t) : TyX K H v (.type (tyN d)) := by
  have sqT : ∀ {a : Addr} {vs : List V}, SqT K H a vs → TyX K H (.ref a) (.type "tuple") := by
    intro a vs h
    rcases h with (h | ⟨o, h⟩) | ⟨o, _, _, h1, h2, _⟩
    · exact .base (.tup h)
    · exact .fTuple h
    · exact .kTuple h1 h2
  cases d with
  | non => have e := o.1; subst e; exact .base .non
  | bl b => have e := o.1; subst e; exact .base (.bl b)
  | int i => have e := o.1; subst e; exact .base (.int i)
  | str i => have e := o.1; subst e; exact .base (.str i)
  | ty i => exact absurd rfl (n i)
  | lst b ds =>
    cases b with
    | true => obtain ⟨a, vs, B, e, _, _, h⟩ := o; subst e; exact .base (.lst h)
    | false => obtain ⟨a, vs, B, e, _, _, _, h, _⟩ := o; subst e; exact .base (.lst h)
  | rol ds =>
    obtain ⟨a, vs, e, _, _, h⟩ := o
    subst e
    rcases h with ⟨h | ⟨q, h⟩, _⟩ | ((h | ⟨_, h⟩) | ⟨q, _, _, h1, h2, _⟩)
    · exact .base (.lst h)
    · exact .base (.frz h)
    · cases h
    · cases h
    · exact .kList h1 h2
  | tup ds => obtain ⟨a, vs, e, _, h⟩ := o; subst e; exact sqT h
  | dic b ks ds =>
    cases b with
    | true => obtain ⟨a, vs, B, e, _, _, _, h⟩ := o; subst e; exact .base (.dK h)
    | false =>
      obtain ⟨a, vs, B, e, _, _, _, _, h, _⟩ := o
      subst e
      rcases h with h | ⟨q, h⟩
      · exact .base (.dK h)
      · exact .fDict h
theorem isi_ok : CallR X (.builtin "isinstance") (rsD (Cn.of X T) (g2 dIsi)) := by
  intro pins s σ H xs us Q I r h
  obtain ⟨W, ds, al, tb, os, qs⟩ := h
  obtain ⟨d, e, rfl, q⟩ := g2_inv qs
  obtain ⟨v, w, rfl, o1, o2⟩ := owns_2 (C := Cn.of X T) os
  cases e with
  | ty n =>
    have key : (∀ t, d ≠ .ty t) → RD (Cn.of X T) W H (if n = "int" ∨ n = "bool" ∨ n = "str" ∨ n = "list" ∨ n = "tuple" then some (.bl (decide (tyN d = n) || (decide (tyN d = "bool") && decide (n = "int")))) else none) Q →
        wpAny (model X.prog X.w) X.A (call (.builtin "isinstance") us) (EP X pins σ Q) X.xe s := by
      intro nt q
      split at q
      · rename_i hn
        have e := o2.1
        subst e
        refine call_isi pins s σ H _ us Q I r ⟨v, .ty n, .type (tyN d), .type n, _, rfl, .ty n, own_ty o1 nt, kit_ty (kit_tab (tyN d) ?_ n ?_), RD.bl (C := Cn.of X T) q⟩
        · cases d <;> first | (exact absurd rfl (nt _)) | simp [tyN]
        · simpa using hn
      · exact q.elim
    cases d with
    | ty t => exact q.elim
    | _ => exact key (fun t z => by cases z) q
  | _ => exact q.elim
end
theorem de_bty {X : Cx} {T : List (Addr × Str)} {M : List Nat} {Wx : WX} {x : Str} {n : String} {pos : Pos} (hg : Gl X x) (hm : X.mg x = none) (hv : bootBuiltins x = some (.type n)) (hn : x ≠ "__name__" := by decide) (hd : (x == ("__debug__" : Str)) = false := by decide) : DE X T M Wx (.Name x pos) (fun _ => .ok (.ty n)) :=
  de_const (v := .ty n) (.ty n) (pe_bltn hg hm hv rfl hn hd) fun _ _ _ => ⟨rfl, rfl⟩
end De
set_option Elab.async false
set_option linter.all false
set_option maxRecDepth 100000
namespace De
open PySem PySem.Spec PyProof.Rows L2

/-! ### int(text, 10) -/
namespace IT
open PySem.W PySem.Calls PySem.NumText
structure Both (p : Prop) : Prop where
  get : p
theorem text10 {M : Model} {A : Around} {E : Value → Shared → Prop} {st : Shared} {Q : Value → Shared → Prop} {v : Value} {l : List Nat} {n : Int} {B : Nat} (eB : B = 10)
    (sz : (l.takeWhile (· != 0)).length ≤ 640) (rd : (int_private% "readNumeral") 0 10 (l.takeWhile (· != 0)) = (int_private% "Numeral.value") n)
    (al : ((l.takeWhile (· != 0)).length == l.length) = true) (done : Q (.int n st.toks) { st with toks := st.toks + 1 }) : wpAny M A ((int_private% "intFromText") v l B) Q E st := by
  subst eB
  exact KIN.wp_text sz rd al done
set_option maxHeartbeats 4000000 in
theorem gives10 {x : PySem.Str} {tx tb : Tok} {n : Int} (small : x.length ≤ 640) (val : PySem.intText? x = some n) :
    Gives (Builtin.«int.__new__» ⟨[.type "int", .str x tx, .int 10 tb], []⟩) (.int n) :=
  .of_wp fun M A E st Q done => by
    obtain ⟨h0, g0, d0, t0, o0⟩ := st
    have c1 := F.conv_sub_int
    have c2 := F.madeHere_int
    have c3 : typeOf (.str x tx) = pure (.type "str") := rfl
    have sz : (numSeenOf x).length ≤ 640 := Nat.le_trans (seen_length x) small
    have rd : (int_private% "readNumeral") 0 10 (numSeenOf x) = (int_private% "Numeral.value") n ∧ ((numSeenOf x).length == (numTextOf x).length) = true := by
      rcases read0 x sz with ⟨m, e1, e2, e3⟩ | ⟨e1, _⟩
      · cases val.symm.trans e1
        exact ⟨e3, e2⟩
      · cases val.symm.trans e1
    have both := Both.mk (And.intro sz rd)
    clear sz rd small val
    repeat (any_goals (first
      | assumption
      | ((with_reducible show wpAny _ _ ((int_private% "intFromText") _ _ _) _ _ _); refine text10 rfl both.get.1 both.get.2.1 both.get.2.2 ?_)
      | wp_step))
    all_goals first | exact ⟨_, rfl, done⟩ | skip
theorem tc2 (a b : Value) : checkTypeCall "int" ⟨[a, b], []⟩ = pure () := by kernel_rfl
theorem nc2 (a b : Value) : checkBuiltinCall "int.__new__" ⟨[.type "int", a, b], []⟩ = pure () := by kernel_rfl
theorem call10 {prog : Program} {w : World} {A : Around} {E : Value → Shared → Prop} {s : Shared} {Q : Value → Shared → Prop} {x : PySem.Str} {tx tb : Tok} {n : Int} (small : x.length ≤ 640) (val : PySem.intText? x = some n)
    (done : Q (.int n s.toks) { s with toks := s.toks + 1 }) : wpAny (model prog w) A (call (.type "int") [.str x tx, .int 10 tb]) Q E s :=
  callType_new F.called_int F.newNe_int (tc2 _ _) (nc2 _ _) (fun obj => F.initArgs_range_2 obj _ _) F.entry_int_new (gives10 small val).meets ⟨rfl, done⟩
end IT
section
variable {X : Cx} {T : List (Addr × Str)}
def dInt10 (d e : D) : Option D := match d with
  | .str s => (match e with
    | .int b => if b = 10 ∧ s.length ≤ 640 then (PySem.intText? s).map .int else none
    | _ => none)
  | _ => none
theorem int10_ok : CallR X (.type "int") (rsD (Cn.of X T) (g2 dInt10)) := by
  intro pins s σ H xs us Q I r h
  obtain ⟨W, ds, al, tb, os, qs⟩ := h
  obtain ⟨d, e, rfl, q⟩ := g2_inv qs
  obtain ⟨v, w, rfl, o1, o2⟩ := owns_2 (C := Cn.of X T) os
  cases d with
  | str z =>
    cases e with
    | int b =>
      have q : RD (Cn.of X T) W H (if b = 10 ∧ z.length ≤ 640 then (PySem.intText? z).map .int else none) Q := q
      split at q
      · rename_i hz
        cases hn : PySem.intText? z with
        | none => rw [hn] at q; exact q.elim
        | some n =>
          rw [hn] at q
          have qq := RD.int (C := Cn.of X T) (W := W) q
          have e1 := o1.1
          have e2 := o2.1
          have e3 := hz.1
          subst e1 e2 e3
          obtain ⟨u1, u2, rfl, r1, r2⟩ := vals2 r
          obtain ⟨t1, rfl⟩ := r1
          obtain ⟨t2, rfl⟩ := r2
          exact IT.call10 hz.2 hn ⟨.int n, H, I.tok _, ⟨_, rfl⟩, qq⟩
      · exact q.elim
    | _ => exact q.elim
  | _ => exact q.elim

/-! ### x in y -/
def strsD : List D → Option (List Str)
  | [] => some []
  | .str s :: ds => (strsD ds).map (s :: ·)
  | _ :: _ => none
theorem owns_strs {K : PySem.W.Frag} {W : Wd} {H : Hp} : ∀ {ds : List D} {vs : List V} {A : List Addr} {bs : List Str}, Owns K W H vs ds A → strsD ds = some bs → vs = bs.map V.str
  | [], vs, _, bs, o, e => by cases e; exact o.1
  | d :: ds, vs, _, bs, o, e => by
    obtain ⟨v, ws, A1, A2, e1, e2, h1, h2⟩ := o
    cases d with
    | str b =>
      obtain ⟨cs, h3, h4⟩ := Option.map_eq_some_iff.mp (show (strsD ds).map (b :: ·) = some bs from e)
      rw [e1, h1.1, owns_strs h2 h3, ← h4]; rfl
    | _ => cases e
def intsD : List D → Option (List Int)
  | [] => some []
  | .int s :: ds => (intsD ds).map (s :: ·)
  | _ :: _ => none
theorem owns_ints {K : PySem.W.Frag} {W : Wd} {H : Hp} : ∀ {ds : List D} {vs : List V} {A : List Addr} {bs : List Int}, Owns K W H vs ds A → intsD ds = some bs → vs = bs.map V.int
  | [], vs, _, bs, o, e => by cases e; exact o.1
  | d :: ds, vs, _, bs, o, e => by
    obtain ⟨v, ws, A1, A2, e1, e2, h1, h2⟩ := o
    cases d with
    | int b =>
      obtain ⟨cs, h3, h4⟩ := Option.map_eq_some_iff.mp (show (intsD ds).map (b :: ·) = some bs from e)
      rw [e1, h1.1, owns_ints h2 h3, ← h4]; rfl
    | _ => cases e
def seqOf : D → Option (List D)
  | .lst false ds => some ds
  | .rol ds => some ds
  | .tup ds => some ds
  | _ => none
/-- a text in a text (one sign: by its place), a text or an int among such -/
def isIn (d e : D) : Option Bool := match d with
  | .str a => (match e with
    | .str b => (match a.cps.toList with
      | [c] => some (decide (c ∈ b.cps.toList))
      | _ => some (!(Builtin.Str.occurrences b a 0 b.length 1).isEmpty))
    | e => (seqOf e).bind fun ds => (strsD ds).map fun ss => decide (a ∈ ss))
  | .int i => (seqOf e).bind fun ds => (intsD ds).map fun ns => decide (i ∈ ns)
  | _ => none
def dIn (d e : D) : Option D := (isIn d e).map .bl
def dNotIn (d e : D) : Option D := (isIn d e).map fun b => .bl (!b)
theorem own_seqOf {C : Cn} {W : Wd} {H : Hp} {v : V} {e : D} {ds : List D} (h : seqOf e = some ds) (o : Own C.K W H v e []) : ∃ a vs, v = .ref a ∧ (SqL C.K H a vs ∨ SqT C.K H a vs) ∧ Owns C.K W H vs ds [] := by
  cases e with
  | lst b es =>
    cases b with
    | true => cases h
    | false =>
      cases h
      obtain ⟨a, vs, e, h1, h2⟩ := own_listF o
      exact ⟨a, vs, e, .inl h1, h2⟩
  | rol es => cases h; obtain ⟨a, vs, e, h1, h2⟩ := own_rol o; exact ⟨a, vs, e, .inl h1, h2⟩
  | tup es => cases h; obtain ⟨a, vs, e, h1, h2⟩ := own_tupF o; exact ⟨a, vs, e, .inr h1, h2⟩
  | _ => cases h
theorem inV_str (a : Str) (ss : List Str) : inV (.str a) (ss.map V.str) = decide (a ∈ ss) := by
  unfold inV
  induction ss with
  | nil => rfl
  | cons s ss ih =>
    rw [List.map_cons, List.any_cons, ih]
    show (s == a || _) = _
    by_cases h : s = a
    · subst h; simp
    · have h' : ¬ a = s := fun z => h z.symm
      simp [h, h']
theorem inV_int (a : Int) (ss : List Int) : inV (.int a) (ss.map V.int) = decide (a ∈ ss) := by
  unfold inV
  induction ss with
  | nil => rfl
  | cons s ss ih =>
    rw [List.map_cons, List.any_cons, ih]
    show (s == a || _) = _
    by_cases h : s = a
    · subst h; simp
    · have h' : ¬ a = s := fun z => h z.symm
      simp [h, h']
theorem flat_strs (ss : List Str) : (ss.map V.str).all flatV = true := by simp [flatV]
theorem flat_ints (ss : List Int) : (ss.map V.int).all flatV = true := by simp [flatV]
/-- what «in» asks, by isIn -/
theorem isIn_read {C : Cn} {W : Wd} {H : Hp} {x y : V} {d e : D} {b : Bool} (ox : Own C.K W H x d []) (oy : Own C.K W H y e []) (h : isIn d e = some b) :
    (∃ (c : Nat) (z : Str), x = .str ⟨#[c]⟩ ∧ y = .str z ∧ b = decide (c ∈ z.cps.toList)) ∨ (∃ i j, x = .str i ∧ y = .str j ∧ b = !(Builtin.Str.occurrences j i 0 j.length 1).isEmpty) ∨
      (∃ p xs, y = .ref p ∧ (SqL C.K H p xs ∨ SqT C.K H p xs) ∧ flatV x = true ∧ xs.all flatV = true ∧ b = inV x xs) := by
  cases d with
  | str a =>
    have ex := ox.1
    subst ex
    have seq : ((seqOf e).bind fun ds => (strsD ds).map fun ss => decide (a ∈ ss)) = some b → ∃ p xs, y = .ref p ∧ (SqL C.K H p xs ∨ SqT C.K H p xs) ∧ flatV (V.str a) = true ∧ xs.all flatV = true ∧ b = inV (V.str a) xs := by
      intro h
      obtain ⟨ds, h1, h2⟩ := Option.bind_eq_some_iff.mp h
      obtain ⟨ss, h3, h4⟩ := Option.map_eq_some_iff.mp h2
      obtain ⟨p, vs, e1, e2, e3⟩ := own_seqOf h1 oy
      have e4 := owns_strs e3 h3
      subst e4
      exact ⟨p, _, e1, e2, rfl, flat_strs ss, by rw [inV_str]; exact h4.symm⟩
    cases e with
    | str z =>
      have ey := oy.1
      subst ey
      have h : (match a.cps.toList with | [c] => some (decide (c ∈ z.cps.toList)) | _ => some (!(Builtin.Str.occurrences z a 0 z.length 1).isEmpty)) = some b := h
      split at h
      · rename_i c hc
        have ea : a = ⟨#[c]⟩ := by
          obtain ⟨arr⟩ := a
          have : arr = #[c] := by
            have := congrArg List.toArray hc
            simpa using this
          rw [this]
        exact .inl ⟨c, z, by rw [ea], rfl, (Option.some.inj h).symm⟩
      · exact .inr (.inl ⟨a, z, rfl, rfl, (Option.some.inj h).symm⟩)
    | _ => exact .inr (.inr (seq h))
  | int a =>
    have ex := ox.1
    subst ex
    obtain ⟨ds, h1, h2⟩ := Option.bind_eq_some_iff.mp (show ((seqOf e).bind fun ds => (intsD ds).map fun ns => decide (a ∈ ns)) = some b from h)
    obtain ⟨ss, h3, h4⟩ := Option.map_eq_some_iff.mp h2
    obtain ⟨p, vs, e1, e2, e3⟩ := own_seqOf h1 oy
    have e4 := owns_ints e3 h3
    subst e4
    exact .inr (.inr ⟨p, _, e1, e2, rfl, flat_ints ss, by rw [inV_int]; exact h4.symm⟩)
  | _ => cases h
theorem in_ok : OpR X (compareOp .In) (r2D (Cn.of X T) dIn) := by
  intro pins s σ H x y v u Q I rx ry h
  obtain ⟨W, d, e, al, tb, ox, oy, q⟩ := h
  unfold dIn at q
  cases hi : isIn d e with
  | none => rw [hi] at q; exact q.elim
  | some b =>
    rw [hi] at q
    have q := RD.bl (C := Cn.of X T) (W := W) q
    rcases isIn_read (C := Cn.of X T) ox oy hi with ⟨c, z, e1, e2, e3⟩ | ⟨i, j, e1, e2, e3⟩ | ⟨p, xs, e1, e2, e3, e4, e5⟩
    · exact op_in_sign pins s σ H x y v u Q I rx ry ⟨c, z, e1, e2, by rw [← e3]; exact q⟩
    · exact op_in_str pins s σ H x y v u Q I rx ry ⟨i, j, e1, e2, by rw [← e3]; exact q⟩
    · exact op_in_seq pins s σ H x y v u Q I rx ry ⟨p, xs, e1, e2, e3, e4, by rw [if_neg (by decide), ← e5]; exact q⟩
theorem notIn_ok : OpR X (compareOp .NotIn) (r2D (Cn.of X T) dNotIn) := by
  intro pins s σ H x y v u Q I rx ry h
  obtain ⟨W, d, e, al, tb, ox, oy, q⟩ := h
  unfold dNotIn at q
  cases hi : isIn d e with
  | none => rw [hi] at q; exact q.elim
  | some b =>
    rw [hi] at q
    have q := RD.bl (C := Cn.of X T) (W := W) q
    rcases isIn_read (C := Cn.of X T) ox oy hi with ⟨c, z, e1, e2, e3⟩ | ⟨i, j, e1, e2, e3⟩ | ⟨p, xs, e1, e2, e3, e4, e5⟩
    · exact op_notIn_sign pins s σ H x y v u Q I rx ry ⟨c, z, e1, e2, by rw [← e3]; exact q⟩
    · exact op_notIn_str pins s σ H x y v u Q I rx ry ⟨i, j, e1, e2, by rw [← e3]; exact q⟩
    · exact op_notIn_seq pins s σ H x y v u Q I rx ry ⟨p, xs, e1, e2, e3, e4, by rw [if_pos rfl, ← e5]; exact q⟩

/-! ### items and slices -/
def dIx (d e : D) : Option D := match e with
  | .int i => (match d with
    | .str z => if szOk z.length then (atI z.cps.toList i).map fun c => .str ⟨#[c]⟩ else none
    | d => (seqOf d).bind fun ds => atI ds i)
  | _ => none
theorem atI_owns {K : PySem.W.Frag} {W : Wd} {H : Hp} {ds : List D} {vs : List V} {i : Int} {d : D} (o : Owns K W H vs ds []) (h : atI ds i = some d) : ∃ v, atI vs i = some v ∧ Own K W H v d [] := by
  unfold atI at h ⊢
  rw [o.length]
  obtain ⟨j, h1, h2⟩ := Option.bind_eq_some_iff.mp h
  obtain ⟨v, h3, h4⟩ := o.get h2
  exact ⟨v, by rw [h1]; exact h3, h4⟩
theorem ix_ok : IxR X (r2D (Cn.of X T) dIx) := by
  intro value slice pins s σ H x y v u Q I rx ry h hs
  obtain ⟨W, d, e, al, tb, ox, oy, q⟩ := h
  refine ix_seq value slice pins s σ H x y v u Q I rx ry ?_ hs
  cases e with
  | int i =>
    have ey := oy.1
    have seq : RD (Cn.of X T) W H ((seqOf d).bind fun ds => atI ds i) Q → rIx X.K x y H Q := by
      intro q
      cases h1 : seqOf d with
      | none => rw [h1] at q; exact q.elim
      | some ds =>
        rw [h1] at q
        have q : RD (Cn.of X T) W H (atI ds i) Q := q
        cases h2 : atI ds i with
        | none => rw [h2] at q; exact q.elim
        | some d2 =>
          rw [h2] at q
          obtain ⟨a, vs, e1, e2, e3⟩ := own_seqOf (C := Cn.of X T) h1 ox
          obtain ⟨w, h3, h4⟩ := atI_owns e3 h2
          rcases e2 with e2 | e2
          · exact .inl ⟨a, vs, i, w, e1, ey, e2, h3, q.same h4⟩
          · exact .inr (.inl ⟨a, vs, i, w, e1, ey, e2, h3, q.same h4⟩)
    cases d with
    | str z =>
      have q : RD (Cn.of X T) W H (if szOk z.length then (atI z.cps.toList i).map fun c => .str ⟨#[c]⟩ else none) Q := q
      split at q
      · rename_i hz
        cases h2 : atI z.cps.toList i with
        | none => rw [h2] at q; exact q.elim
        | some c =>
          rw [h2] at q
          exact .inr (.inr ⟨z, i, c, ox.1, ey, szOk_line hz, h2, RD.str (C := Cn.of X T) (W := W) q⟩)
      · exact q.elim
    | _ => exact seq q
  | _ => exact q.elim
def cutL {α : Type} (xs : List α) (lo hi : Option Int) : List α := (xs.drop (HT.sIx xs.length 0 lo)).take (HT.sIx xs.length xs.length hi - HT.sIx xs.length 0 lo)
theorem Owns.drop {K : PySem.W.Frag} {W : Wd} {H : Hp} : ∀ (n : Nat) {ds : List D} {vs : List V}, Owns K W H vs ds [] → Owns K W H (vs.drop n) (ds.drop n) []
  | 0, _, _, o => o
  | n + 1, [], vs, o => by rw [o.1]; exact ⟨rfl, rfl⟩
  | n + 1, d :: ds, vs, o => by
    obtain ⟨v, ws, A1, A2, e1, e2, h1, h2⟩ := o
    obtain ⟨z1, z2⟩ := List.append_eq_nil_iff.mp e2.symm
    subst z1 z2 e1
    exact Owns.drop n h2
theorem Owns.take {K : PySem.W.Frag} {W : Wd} {H : Hp} : ∀ (n : Nat) {ds : List D} {vs : List V}, Owns K W H vs ds [] → Owns K W H (vs.take n) (ds.take n) []
  | 0, _, _, o => ⟨rfl, rfl⟩
  | n + 1, [], vs, o => by rw [o.1]; exact ⟨rfl, rfl⟩
  | n + 1, d :: ds, vs, o => by
    obtain ⟨v, ws, A1, A2, e1, e2, h1, h2⟩ := o
    obtain ⟨z1, z2⟩ := List.append_eq_nil_iff.mp e2.symm
    subst z1 z2 e1
    exact ⟨v, ws.take n, [], [], rfl, rfl, h1, Owns.take n h2⟩
theorem owns_cut {K : PySem.W.Frag} {W : Wd} {H : Hp} {ds : List D} {vs : List V} {lo hi : Option Int} (o : Owns K W H vs ds []) : Owns K W H (cutV vs lo hi) (cutL ds lo hi) [] := by
  unfold cutV cutL
  rw [o.length]
  exact (o.drop _).take _
def dSl (d : D) (lo hi : Option Int) : Option D := match d with
  | .str z => if szOk z.length then some (.str (cutS z lo hi)) else none
  | .lst o ds => (match o with
    | false => some (.lst true (cutL ds lo hi))
    | true => none)
  | .tup ds => if HT.sIx ds.length 0 lo = 0 ∧ HT.sIx ds.length ds.length hi = ds.length then none else some (.tup (cutL ds lo hi))
  | _ => none
def rslD (C : Cn) (g : D → Option Int → Option Int → Option D) : V → Option Int → Option Int → Hp → VK → Prop := fun x lo hi H Q => ∃ W d, Own C.K W H x d [] ∧ RD C W H (g d lo hi) Q
theorem sl_ok : SlR X (rslD (Cn.of X T) dSl) := by
  intro pins s σ H x v vl vu lo hi sl Q I rx hs pl pu h
  obtain ⟨W, d, ox, q⟩ := h
  cases d with
  | str z =>
    have q : RD (Cn.of X T) W H (if szOk z.length then some (.str (cutS z lo hi)) else none) Q := q
    split at q
    · rename_i hz
      exact sl_str pins s σ H x v vl vu lo hi sl Q I rx hs pl pu ⟨z, ox.1, szOk_line hz, q.str⟩
    · exact q.elim
  | lst b ds =>
    cases b with
    | true => exact q.elim
    | false =>
      obtain ⟨a, vs, e, h1, h2⟩ := own_listF (C := Cn.of X T) ox
      exact sl_list pins s σ H x v vl vu lo hi sl Q I rx hs pl pu ⟨a, vs, e, h1, fun p np => RD.lst (C := Cn.of X T) q (owns_cut h2) np⟩
  | tup ds =>
    have q : RD (Cn.of X T) W H (if HT.sIx ds.length 0 lo = 0 ∧ HT.sIx ds.length ds.length hi = ds.length then none else some (.tup (cutL ds lo hi))) Q := q
    split at q
    · exact q.elim
    · rename_i hw
      obtain ⟨a, vs, e, h1, h2⟩ := own_tupF (C := Cn.of X T) ox
      exact sl_tup pins s σ H x v vl vu lo hi sl Q I rx hs pl pu ⟨a, vs, e, h1, by rw [h2.length]; exact hw, fun p np => RD.tup (C := Cn.of X T) q (owns_cut h2) np⟩
  | _ => exact q.elim
end
/-! ### slices: their two ends -/
def prtN : Env → Res (Option Int) := fun _ => .ok none
def prtI : D → Res (Option Int)
  | .int i => .ok (some i)
  | _ => .bad
def prtE (f : Env → Res D) : Env → Res (Option Int) := fun ρ => (f ρ).bind prtI
def PostP (C : Cn) (H : Hp) (r : Res (Option Int)) (Q : Option Int → Hp → Prop) (Wx : XK) : Prop := match r with
  | .ok b => ∀ H', Ext C.T H H' → Q b H'
  | .ex e => ∀ c o H', Ext C.T H H' → ExcIs C.mg H' e c o → Wx c o H'
  | .bad => False
def tDP (C : Cn) (M : List Nat) (Wx : WX) (f : Env → Res (Option Int)) : TO := fun σ H Q => ∃ ρ W, Rel C M W σ H ρ ∧ PostP C H (f ρ) Q fun c o H' => Wx c o σ H'
abbrev DP (X : Cx) (T : List (Addr × Str)) (M : List Nat) (Wx : WX) (e : Option Expr) (f : Env → Res (Option Int)) : Prop := PO X e (tDP (Cn.of X T) M Wx f)
section
variable {X : Cx} {T : List (Addr × Str)} {M : List Nat} {Wx : WX} {pos p2 : Pos} {e : Expr}
theorem po_weak {o : Option Expr} {t t' : TO} (h : PO X o t) (w : ∀ σ H Q, t' σ H Q → t σ H Q) : PO X o t' := ⟨fun pins s σ H Q I q => h.run pins s σ H Q I (w σ H Q q)⟩
theorem dp_none : DP X T M Wx none prtN := po_weak po_none fun σ H Q ⟨ρ, W, r, p⟩ => p H (.refl _)
theorem dp_some {f : Env → Res D} (h : DE X T M Wx e f) : DP X T M Wx (some e) (prtE f) := po_weak (po_some h) fun σ H Q ⟨ρ, W, r, p⟩ => ⟨ρ, W, r, by
  unfold prtE at p
  cases e : f ρ with
  | ex e' => rw [e] at p; exact p
  | bad => rw [e] at p; exact p
  | ok d =>
    rw [e] at p
    intro v H' A x n nd o
    cases d with
    | int i => exact ⟨i, o.1, p H' x⟩
    | _ => exact p.elim⟩
theorem PostP.bind {C : Cn} {W : Wd} {H : Hp} {Wx : XK} {r : Res (Option Int)} {g : Option Int → Res D} {Q : VK} (p : Post C W H (r.bind g) Q Wx) :
    PostP C H r (fun b H2 => Ext C.T H H2 ∧ Post C W H2 (g b) Q Wx) Wx := by
  cases r with
  | ok d => exact fun H2 x => ⟨x, Post.ext (r := g d) p x⟩
  | ex e => exact p
  | bad => exact p
theorem PostP.mono {C : Cn} {H : Hp} {Wx : XK} {r : Res (Option Int)} {Q Q' : Option Int → Hp → Prop} (p : PostP C H r Q Wx) (q : ∀ v H', Q v H' → Q' v H') : PostP C H r Q' Wx := by
  cases r with
  | ok d => exact fun H2 x => q _ _ (p H2 x)
  | ex e => exact p
  | bad => exact p
def slA (f : Env → Res D) (lo hi : Env → Res (Option Int)) : Env → Res D := fun ρ => (f ρ).bind fun d => (lo ρ).bind fun l => (hi ρ).bind fun h => lift (dSl (frz d) l h)
theorem de_sl {lo hi : Option Expr} {f : Env → Res D} {fl fh : Env → Res (Option Int)} (he : DE X T M Wx e f) (hl : DP X T M Wx lo fl) (hh : DP X T M Wx hi fh) : DE X T M Wx (.Subscript e (.Slice lo hi none p2) pos) (slA f fl fh) := by
  refine pe_weak (pe_slice (sl_ok (T := T)) he hl hh) fun σ H Q ⟨ρ, W, r, p⟩ => ⟨ρ, W, r, (Post.bind r.al p).mono fun x H1 ⟨d, x1, o1, p1⟩ => ?_⟩
  have r1 := r.ext1 x1
  refine ⟨ρ, W, r1, (PostP.bind p1).mono fun l H2 ⟨x2, p2⟩ => ⟨ρ, W, r1.ext1 x2, (PostP.bind p2).mono fun h H3 ⟨x3, p3⟩ => ?_⟩⟩
  exact ⟨W, _, (o1.ext x2 (fun a h => .inl h) _).ext x3 (fun a h => .inl h) _, RD.post p3⟩

/-! ### methods of texts with one argument -/
def strM (g : Str → D → Option D) (fo fe : Env → Res D) : Env → Res D := fun ρ => (fo ρ).bind fun x => match x with
  | .str a => (fe ρ).bind fun y => lift (g a (frz y))
  | _ => .bad
theorem strM_read {C : Cn} {g : Str → D → Option D} {fo fe : Env → Res D} {r : V → List V → Hp → VK → Prop} {σ : L2.St} {H : Hp} {Q : VK}
    (hr : ∀ W a d y H Q, Own C.K W H y d [] → RD C W H (g a d) Q → r (.str a) [y] H Q) (h : tD C M Wx (strM g fo fe) σ H Q) : tM1 r (tD C M Wx fo) (tD C M Wx fe) σ H Q := by
  obtain ⟨ρ, W, R, p⟩ := h
  refine ⟨ρ, W, R, ?_⟩
  unfold strM at p
  cases e : fo ρ with
  | ex e' => rw [e] at p; exact p
  | bad => rw [e] at p; exact p
  | ok d =>
    rw [e] at p
    intro v H1 A x n nd o
    cases d with
    | str a =>
      have ev := o.1
      subst ev
      have p : Post C W H ((fe ρ).bind fun y => lift (g a (frz y))) Q _ := p
      have R1 := R.ext1 x
      exact ⟨⟨a, rfl⟩, ρ, W, R1, (Post.bind R1.al (Post.ext p x)).mono fun y H2 ⟨d, x2, o2, p2⟩ => hr W a _ y H2 Q o2 (RD.post p2)⟩
    | _ => exact p.elim
def dJoin (a : Str) (d : D) : Option D := (seqOf d).bind fun ds => (strsD ds).bind fun ys => if (ys.map (·.length)).sum + ys.length * a.length ≤ 16777216 then some (.str (Txt.join a ys)) else none
def dSplit (a : Str) (d : D) : Option D := match d with
  | .str b => if (b.length == 0) = false ∧ szOk (a.length + 2) = true then some (.lst true ((Txt.split a b).map .str)) else none
  | _ => none
variable {o : Expr} {apos : Pos} {fo fe : Env → Res D}
theorem de_join (ho : DE X T M Wx o fo) (he : DE X T M Wx e fe) (hs : starEach [e] X.env = [(false, eval e X.env)] := by rfl) (hbase : attributeBase o "join" X.env (eval o X.env) = eval o X.env := by rfl) (hline : (apos.endLine == pos.line) = true := by rfl) :
    DE X T M Wx (.Call (.Attribute o "join" apos) [e] [] pos) (strM dJoin fo fe) :=
  pe_weak (pe_join ho he hs hbase hline) fun σ H Q h => strM_read (fun W a d y H Q oy q => by
    unfold dJoin at q
    cases h1 : seqOf d with
    | none => rw [h1] at q; exact q.elim
    | some ds =>
    rw [h1] at q
    cases h2 : strsD ds with
    | none =>
      have q : RD (Cn.of X T) W H ((strsD ds).bind fun ys => if (ys.map (·.length)).sum + ys.length * a.length ≤ 16777216 then some (.str (Txt.join a ys)) else none) Q := q
      rw [h2] at q; exact q.elim
    | some ys =>
    have q : RD (Cn.of X T) W H ((strsD ds).bind fun ys => if (ys.map (·.length)).sum + ys.length * a.length ≤ 16777216 then some (.str (Txt.join a ys)) else none) Q := q
    rw [h2] at q
    have q : RD (Cn.of X T) W H (if (ys.map (·.length)).sum + ys.length * a.length ≤ 16777216 then some (.str (Txt.join a ys)) else none) Q := q
    split at q
    · rename_i hz
      obtain ⟨p, vs, e1, e2, e3⟩ := own_seqOf (C := Cn.of X T) h1 oy
      have e4 := owns_strs e3 h2
      subst e4 e1
      exact ⟨a, p, ys, rfl, rfl, e2, hz, RD.str (C := Cn.of X T) q⟩
    · exact q.elim) h
theorem owns_mk {K : PySem.W.Frag} {W : Wd} {H : Hp} : ∀ ss : List Str, Owns K W H (ss.map V.str) (ss.map D.str) []
  | [] => ⟨rfl, rfl⟩
  | s :: ss => ⟨.str s, ss.map V.str, [], [], rfl, rfl, ⟨rfl, rfl⟩, owns_mk ss⟩
theorem de_split (ho : DE X T M Wx o fo) (he : DE X T M Wx e fe) (hs : starEach [e] X.env = [(false, eval e X.env)] := by rfl) (hbase : attributeBase o "split" X.env (eval o X.env) = eval o X.env := by rfl) (hline : (apos.endLine == pos.line) = true := by rfl) :
    DE X T M Wx (.Call (.Attribute o "split" apos) [e] [] pos) (strM dSplit fo fe) :=
  pe_weak (pe_split ho he hs hbase hline) fun σ H Q h => strM_read (fun W a d y H Q oy q => by
    cases d with
    | str b =>
      have q : RD (Cn.of X T) W H (if (b.length == 0) = false ∧ szOk (a.length + 2) = true then some (.lst true ((Txt.split a b).map .str)) else none) Q := q
      split at q
      · rename_i hz
        have ey := oy.1
        subst ey
        exact ⟨a, b, rfl, rfl, hz.1, szOk_line hz.2, fun p np => RD.lst (C := Cn.of X T) q (owns_mk _) np⟩
      · exact q.elim
    | _ => exact q.elim) h
end
end De
set_option Elab.async false
set_option linter.all false
set_option maxRecDepth 100000
namespace De
open PySem PySem.Spec PyProof.Rows L2

/-! ### the defs of a text, by name -/
theorem _root_.L2.FunD.look {K : PySem.W.Frag} {x qual : Str} {params : Arguments} {body : List Stmt} {scope : Scope} {dvs : List V} {kws : List (Str × V)} {f : Addr} {fd : FuncData} (G : FunD K x qual params body scope dvs kws f fd) : ∃ oc od osl, K.lookup f = some ⟨oc, od, .func fd, osl⟩ := by
  obtain ⟨oc, od, dV, kV, doc, pm, an, cdv, ct, osl, e, lk, _⟩ := G.ex
  exact ⟨oc, od, osl, lk⟩
structure FnS (P : Program) (w : World) (K : PySem.W.Frag) (mg : Str → Option Value) (base : Heap) (T : List (Addr × Str)) (x : Str) (ps : List Str) (k : Nat) (F : List D → Res D) : Prop where
  ex : ∃ fd, FnOk P w K mg base (L2.CX P w) k (He.ga K x) fd ps (spD ⟨K, T, mg⟩ ps.length F) ∧ Binds K fd ps [] ∧ ∃ oc od osl, K.lookup (He.ga K x) = some ⟨oc, od, .func fd, osl⟩
  m : mg x = some (.ref (He.ga K x))
  kp : PySem.W.keepIn K (.ref (He.ga K x)) = true
section
variable {P : Program} {w : World} {K : PySem.W.Frag} {mg : Str → Option Value} {base : Heap} {T : List (Addr × Str)}
theorem FnS.mk1 {x : Str} {params : Arguments} {body : List Stmt} {scope : Scope} {N ps : List Str} {k n : Nat} {s : Env → Out} (G : ∃ fd, FunD K x x params body scope [] [] (He.ga K x) fd) (m : mg x = some (.ref (He.ga K x))) (S : FnScope N ps scope)
    (hbi : ∀ (kV doc pm : Value) (an : Option Addr) (cdv ct : Value) (us : List Value), us.length = ps.length → bindArgs (PySem.W.fnOf x x params body scope .none kV doc pm an cdv ct) ⟨us, []⟩ = pure (ps.zip us)) (hn : N.length = n)
    (hb : ∀ (cdv : Value) (A : Around) (outer : List PySem.Env) (s0 : Shared) (H : Hp) (E : XK), Room k (A.deeper (envOfC x scope s0.heap.objs.size (He.ga K x) cdv)) → DSs (cxOf (L2.CX P w) P w K mg base N x scope (He.ga K x) cdv A outer s0 H E) T (fun c o _ H => E c o H) body s) :
    FnS P w K mg base T x ps (k + 1) (runF s n) := by
  obtain ⟨fd, G⟩ := G
  subst hn
  exact ⟨⟨fd, fn_ok G S hb fun ds _ => .inl rfl, G.bindsN hbi, G.look⟩, m, G.kp⟩
/-- the promise of a def that is known by its object -/
theorem FnS.of {x qual : Str} {params : Arguments} {body : List Stmt} {scope : Scope} {dvs : List V} {kws : List (Str × V)} {ps : List Str} {k : Nat} {F : List D → Res D} {fd : FuncData} (h : FnS P w K mg base T x ps k F) (G : FunD K x qual params body scope dvs kws (He.ga K x) fd) :
    FnOk P w K mg base (L2.CX P w) k (He.ga K x) fd ps (spD ⟨K, T, mg⟩ ps.length F) := by
  obtain ⟨fd', H, _, oc, od, osl, l⟩ := h.ex
  obtain ⟨oc', od', osl', l'⟩ := G.look
  rw [l] at l'
  cases l'
  exact H
end
section
variable {X : Cx} {T : List (Addr × Str)} {M : List Nat} {Wx : WX} {pos : Pos} {a : Expr} {es : List Expr}
theorem de_fn {x : Str} {p : Pos} {k : Nat} {ps : List Str} {F : List D → Res D} {fs : Env → Res (List D)} (G : FnS X.prog X.w X.K X.mg X.base T x ps k F) (hr : Room k X.A) (tk : Takes X Wx) (ha : DA X T M Wx (a :: es) fs) (hg : Gl X x := by rfl) (hn : es.length + 1 + 0 = ps.length := by rfl)
    (hdb : (x == ("__debug__" : Str)) = false := by decide) (he : starEach (a :: es) X.env = (false, eval a X.env) :: starEach es X.env := by rfl) (hpl : (backTo pos (starEach es X.env)).any (·.1) = false := by rfl) :
    DE X T M Wx (.Call (.Name x p) (a :: es) [] pos) (fnA F [] fs) := by
  obtain ⟨⟨fd, H, b, _⟩, m, kp⟩ := G
  exact de_call (dv := []) H hr hg m kp b .nil tk (fun _ _ => ⟨rfl, rfl⟩) ha hn hdb he hpl
end
theorem bt_len : bootBuiltins ("len" : Str) = some (.builtin "len") := by decide +kernel
theorem bt_all : bootBuiltins ("all" : Str) = some (.builtin "all") := by decide +kernel
theorem bt_any : bootBuiltins ("any" : Str) = some (.builtin "any") := by decide +kernel
theorem bt_abs : bootBuiltins ("abs" : Str) = some (.builtin "abs") := by decide +kernel
theorem bt_isinstance : bootBuiltins ("isinstance" : Str) = some (.builtin "isinstance") := by decide +kernel
theorem bt_str : bootBuiltins ("str" : Str) = some (.type "str") := by decide +kernel
theorem bt_int : bootBuiltins ("int" : Str) = some (.type "int") := by decide +kernel
theorem bt_bool : bootBuiltins ("bool" : Str) = some (.type "bool") := by decide +kernel
theorem bt_tuple : bootBuiltins ("tuple" : Str) = some (.type "tuple") := by decide +kernel
theorem bt_list : bootBuiltins ("list" : Str) = some (.type "list") := by decide +kernel
theorem bt_sorted : bootBuiltins ("sorted" : Str) = some (.builtin "sorted") := by decide +kernel
theorem bt_min : bootBuiltins ("min" : Str) = some (.builtin "min") := by decide +kernel
theorem bt_max : bootBuiltins ("max" : Str) = some (.builtin "max") := by decide +kernel
theorem bt_sum : bootBuiltins ("sum" : Str) = some (.builtin "sum") := by decide +kernel
theorem bt_set : bootBuiltins ("set" : Str) = some (.type "set") := by decide +kernel
theorem bt_zip : bootBuiltins ("zip" : Str) = some (.type "zip") := by decide +kernel
end De
set_option Elab.async false
set_option linter.all false
set_option maxRecDepth 100000
namespace De
open PySem

/-! ### zip(a, b, strict=True) over iterators of any kind: its cells, what stays beside them -/
/-- all cells but B stay; nothing is lost -/
structure Kp (B : List Addr) (h h' : Heap) : Prop where
  sz : h.objs.size ≤ h'.objs.size
  at_ : ∀ c o, c ∉ B → h.get? c = some o → h'.get? c = some o
theorem Kp.refl {B : List Addr} {h : Heap} : Kp B h h := ⟨Nat.le_refl _, fun _ _ _ e => e⟩
theorem Kp.trans {B : List Addr} {h g k : Heap} (a : Kp B h g) (b : Kp B g k) : Kp B h k := ⟨Nat.le_trans a.sz b.sz, fun c o n e => b.at_ c o n (a.at_ c o n e)⟩
theorem Kp.but {B : List Addr} {a : Addr} {h h' : Heap} (m : a ∈ B) (x : Heap.SameBut a h h') : Kp B h h' := ⟨Nat.le_of_eq x.1.symm, fun c o n e => (x.2 c fun q => n (q ▸ m)).trans e⟩
theorem Kp.push {B : List Addr} {h : Heap} (o : Obj) : Kp B h (h.push o) := ⟨by rw [Heap.size_push]; exact Nat.le_succ _, fun c u _ e => Heap.get?_push_of_some o e⟩
theorem Kp.sub {B C : List Addr} {h h' : Heap} (k : Kp B h h') (s : ∀ b ∈ B, b ∈ C) : Kp C h h' := ⟨k.sz, fun c o n e => k.at_ c o (fun q => n (s c q)) e⟩
/-- the five cells, and what the two iterators look at, lie apart -/
structure ZApart (z TI TO i1 i2 : Addr) (fp1 fp2 : List Addr) : Prop where
  zTI : TI ≠ z
  zTO : TO ≠ z
  TT : TO ≠ TI
  z1 : i1 ≠ z
  z2 : i2 ≠ z
  O1 : TO ≠ i1
  O2 : TO ≠ i2
  I1 : TI ≠ i1
  I2 : TI ≠ i2
  f1 : ∀ b ∈ fp1, b ≠ z ∧ b ≠ TO ∧ b ≠ i2
  f2 : ∀ b ∈ fp2, b ≠ z ∧ b ≠ TO ∧ b ≠ i1
/-- the zip's own object; f: the tuple that is handed out -/
abbrev ZObj (h : Heap) (z TI TO : Addr) (f : Value) : Prop :=
  h.get? z = some { cls := .type "zip", dict := none, data := .fields #[f, .bool false, .bool true, .ref TI, .ref TO], slots := #[] }
abbrev Duo (h : Heap) (T : Addr) (a b : Value) : Prop := h.get? T = some { cls := .type "tuple", data := .seq #[a, b] }
structure ZNow (z TI TO i1 i2 : Addr) (St1 St2 : Nat → Heap → Prop) (f : Value) (a b : Value) (j k : Nat) (h : Heap) : Prop where
  o : ZObj h z TI TO f
  its : Duo h TI (.ref i1) (.ref i2)
  own : Duo h TO a b
  s1 : St1 j h
  s2 : St2 k h
section
variable {prog : Program} {w : World} {A : Around} {E : Value → Shared → Prop} {s : Shared} {z TI TO i1 i2 : Addr} {fp1 fp2 : List Addr} {n i j k : Nat} {P1 P2 : Nat → Value → Prop} {St1 St2 : Nat → Heap → Prop} {f a b : Value}
/-- what is asked of the iterator at it: an item, or the end without a word -/
theorem next_some {it : Value} {Q : Option Value → Shared → Prop} (h : ∀ F : Value → Shared → Prop, wpAny (model prog w) A (Builtin.SmallTypes.nextOf it) (fun v t => Q (some v) t) F s) : wpAny (model prog w) A (Builtin.SmallTypes.nextOrEnd it) Q E s := by
  unfold Builtin.SmallTypes.nextOrEnd
  exact wpAny_bind (wpAny_attempt (wpAny_mono (h fun _ _ => False) (fun v t q => wpAny_pure q) fun _ _ q => q.elim))
theorem next_none {it : Value} {Q : Option Value → Shared → Prop} (h : wpAny (model prog w) A (Builtin.SmallTypes.nextOf it) (fun _ _ => False) (fun v t => ∃ e o, v = .ref e ∧ t.heap.get? e = some o ∧ o.cls = .type "StopIteration" ∧ Q none t) s) : wpAny (model prog w) A (Builtin.SmallTypes.nextOrEnd it) Q E s := by
  unfold Builtin.SmallTypes.nextOrEnd
  refine wpAny_bind (wpAny_attempt (wpAny_mono h (fun v t q => q.elim) fun v t ⟨e, o, ev, ho, hc, q⟩ => ?_))
  subst ev
  exact wpAny_bind (wpAny_isInstance (T := "StopIteration") (b := true) ⟨o, ho, hc⟩ isSubtype_stop (wpAny_pure q))
/-- a StopIteration without a value is raised -/
theorem stops {Q : Fin → Shared → Prop} (hh : A.handled = none) (h : ∀ h' e o, Kp [] s.heap h' → h'.get? e = some o → o.cls = .type "StopIteration" → E (.ref e) { s with heap := h' }) : wpAny (model prog w) A (Builtin.SmallTypes.stopIteration (α := Fin)) Q E s := by
  unfold Builtin.SmallTypes.stopIteration newExc newTuple
  refine wpAny_bind (wpAny_bind (wpAny_newObj_type (wpAny_bind (m := firstArgMember _ _) (wpAny_of_eq (a := Value.none) (by simp only [firstArgMember]; rfl) (wpAny_newObj_type ?_ (by size_fits)))) (by size_fits)))
  unfold raiseNew
  refine wpAny_bind (wpAny_handled ?_)
  rw [hh]
  exact wpAny_bind (wpAny_pure (wpAny_throw (h _ _ _ ((Kp.push _).trans (Kp.push _)) (Heap.get?_push_size _ rfl) rfl)))
theorem ZNow.keep (N : ZNow z TI TO i1 i2 St1 St2 f a b j k s.heap) {h' : Heap} {B : List Addr} (q : Kp B s.heap h') (hz : z ∉ B) (hI : TI ∉ B) (hO : TO ∉ B) (c1 : St1 j h') (c2 : St2 k h') : ZNow z TI TO i1 i2 St1 St2 f a b j k h' :=
  ⟨q.at_ _ _ hz N.o, q.at_ _ _ hI N.its, q.at_ _ _ hO N.own, c1, c2⟩
variable (S : ZApart z TI TO i1 i2 fp1 fp2) (D1 : Draws prog w A i1 fp1 n P1 St1) (D2 : Draws prog w A i2 fp2 n P2 St2)
/-- a field of the zip is written -/
theorem z_field {x : Value} {m : Nat} {Q : Unit → Shared → Prop} (N : ZNow z TI TO i1 i2 St1 St2 f a b j k s.heap) (hm : m = 0 ∨ m = 1 ∧ x = .bool false) (S : ZApart z TI TO i1 i2 fp1 fp2) (D1 : Draws prog w A i1 fp1 n P1 St1) (D2 : Draws prog w A i2 fp2 n P2 St2)
    (h : ∀ h', Kp [z] s.heap h' → ZNow z TI TO i1 i2 St1 St2 (if m = 0 then x else f) a b j k h' → Q () { s with heap := h' }) : wpAny (model prog w) A (setField (.ref z) m x) Q E s := by
  refine wpAny_setField_rec N.o (by rcases hm with e | ⟨e, _⟩ <;> subst e <;> simp) fun h' hz sb => h h' (.but (by simp) sb) ⟨?_, (sb.2 _ S.zTI).trans N.its, (sb.2 _ S.zTO).trans N.own, D1.frame _ _ _ N.s1 fun c hc o e => (sb.2 c (S.f1 c hc).1).trans e, D2.frame _ _ _ N.s2 fun c hc o e => (sb.2 c (S.f2 c hc).1).trans e⟩
  rcases hm with e | ⟨e, ex⟩
  · subst e; exact hz
  · subst e ex; exact hz
/-- an item of the kept pair is written -/
theorem z_pair {x : Value} {m : Nat} {Q : Unit → Shared → Prop} (N : ZNow z TI TO i1 i2 St1 St2 f a b j k s.heap) (hm : m = 0 ∨ m = 1) (S : ZApart z TI TO i1 i2 fp1 fp2) (D1 : Draws prog w A i1 fp1 n P1 St1) (D2 : Draws prog w A i2 fp2 n P2 St2)
    (h : ∀ h', Kp [TO] s.heap h' → ZNow z TI TO i1 i2 St1 St2 f (if m = 0 then x else a) (if m = 0 then b else x) j k h' → Q () { s with heap := h' }) : wpAny (model prog w) A (updateSeq TO (·.setIfInBounds m x)) Q E s := by
  have sb : Heap.SameBut TO s.heap (s.heap.update TO (Obj.mapSeq (·.setIfInBounds m x))) := .update ..
  refine wpAny_updateSeq N.own rfl (h _ (.but (by simp) sb) ⟨(sb.2 _ S.zTO.symm).trans N.o, (sb.2 _ S.TT.symm).trans N.its, ?_, D1.frame _ _ _ N.s1 fun c hc o e => (sb.2 c (S.f1 c hc).2.1).trans e, D2.frame _ _ _ N.s2 fun c hc o e => (sb.2 c (S.f2 c hc).2.1).trans e⟩)
  rcases hm with q | q <;> subst q <;> exact Heap.get?_update_self _ N.own rfl
/-- zip.__next__ of such a zip: a new pair, or the end of both -/
theorem z_next {R : Fin → Shared → Prop} (hh : A.handled = none) (S : ZApart z TI TO i1 i2 fp1 fp2) (D1 : Draws prog w A i1 fp1 n P1 St1) (D2 : Draws prog w A i2 fp2 n P2 St2) (N : ZNow z TI TO i1 i2 St1 St2 .none a b i i s.heap) (hle : i ≤ n)
    (item : i < n → ∀ x y T h' tk, P1 i x → P2 i y → s.heap.objs.size ≤ T → ZNow z TI TO i1 i2 St1 St2 (rawInt T) x y (i + 1) (i + 1) h' → Duo h' T x y → T < h'.objs.size → Kp [z, TO, i1, i2] s.heap h' → R (.done (.ret (.ref T))) { s with heap := h', toks := tk })
    (stop : i = n → ∀ h' tk e o, (∀ c u, c ∉ [z, TO, i1, i2] → s.heap.get? c = some u → h'.get? c = some u) → h'.get? e = some o → o.cls = .type "StopIteration" → E (.ref e) { s with heap := h', toks := tk }) :
    wpAny (model prog w) A (Builtin.«zip.__next__» ⟨[.ref z], []⟩) R E s := by
  have look : ∀ {x : Value} {m : Nat} {Q : Value → Shared → Prop}, (#[Value.none, .bool false, .bool true, .ref TI, .ref TO] : Array Value)[m]? = some x → Q x s → wpAny (model prog w) A (field (.ref z) m) Q E s := fun e q => wpAny_field N.o rfl e q
  refine wpAny_bind (m := field (.ref z) 2) (look rfl (wpAny_bind (m := field (.ref z) 3) (look rfl (wpAny_bind (wpAny_seqItems N.its rfl (wpAny_bind (m := Builtin.SmallTypes.ownedTupleIsFree (.ref z)) (wpAny_bind (look rfl (wpAny_pure ?_)))))))))
  refine wpAny_bind (wpAny_rule (wpAny_bind (m := field (.ref z) 4) (look rfl (wpAny_bind (z_field N (.inl rfl) S D1 D2 fun g kg G => wpAny_bind ?_)))))
  rw [List.zipIdx_cons, List.zipIdx_cons, List.zipIdx_nil, List.forIn_cons]
  refine wpAny_bind (wpAny_bind (wpAny_onRaise ?_))
  show wpAny _ _ (Builtin.SmallTypes.nextOrEnd _) _ _ _
  have zn : z ∉ [i1] ∧ TI ∉ [i1] ∧ TO ∉ [i1] ∧ z ∉ [i2] ∧ TI ∉ [i2] ∧ TO ∉ [i2] := by simp [S.z1.symm, S.I1, S.O1, S.z2.symm, S.I2, S.O2]
  by_cases hi : i < n
  · -- both have one more
    refine next_some fun _ => D1.item i _ _ _ hi G.s1 fun x h1 t1 px c1 b1 => ?_
    have k1 : Kp [i1] g h1 := .but (by simp) b1
    have N1 : ZNow z TI TO i1 i2 St1 St2 .ellipsis a b (i + 1) i h1 := ⟨k1.at_ _ _ zn.1 G.o, k1.at_ _ _ zn.2.1 G.its, k1.at_ _ _ zn.2.2.1 G.own, c1, D2.frame _ _ _ G.s2 fun c hc o e => (b1.2 c (S.f2 c hc).2.2).trans e⟩
    refine wpAny_bind (wpAny_seqItems (s := { s with heap := h1, toks := t1 }) N1.own rfl (wpAny_bind (z_pair (s := { s with heap := h1, toks := t1 }) N1 (.inl rfl) S D1 D2 fun h2 k2 N2 => wpAny_bind (wpAny_letGo (wpAny_pure ?_)))))
    dsimp only
    rw [List.forIn_cons]
    refine wpAny_bind (wpAny_bind (wpAny_onRaise ?_))
    show wpAny _ _ (Builtin.SmallTypes.nextOrEnd _) _ _ _
    refine next_some fun _ => D2.item i _ _ _ hi N2.s2 fun y h3 t3 py c3 b3 => ?_
    have k3 : Kp [i2] h2 h3 := .but (by simp) b3
    have N3 : ZNow z TI TO i1 i2 St1 St2 .ellipsis x b (i + 1) (i + 1) h3 := ⟨k3.at_ _ _ zn.2.2.2.1 N2.o, k3.at_ _ _ zn.2.2.2.2.1 N2.its, k3.at_ _ _ zn.2.2.2.2.2 N2.own, D1.frame _ _ _ N2.s1 fun c hc o e => (b3.2 c (S.f1 c hc).2.2).trans e, c3⟩
    refine wpAny_bind (wpAny_seqItems (s := { s with heap := h3, toks := t3 }) N3.own rfl (wpAny_bind (z_pair (s := { s with heap := h3, toks := t3 }) N3 (.inr rfl) S D1 D2 fun h4 k4 N4 => wpAny_bind (wpAny_letGo (wpAny_pure ?_)))))
    dsimp only
    rw [List.forIn_nil]
    refine wpAny_pure (wpAny_bind (wpAny_seqItems (s := { s with heap := h4, toks := t3 }) N4.own rfl (wpAny_bind (wpAny_newTuple ?_))))
    have lt1 := Heap.lt_size N4.o
    have N5 : ZNow z TI TO i1 i2 St1 St2 .ellipsis x y (i + 1) (i + 1) (h4.push { cls := .type "tuple", data := .seq #[x, y] }) := N4.keep (s := { s with heap := h4 }) (B := []) (.push _) (by simp) (by simp) (by simp) (D1.frame _ _ _ N4.s1 fun c _ o e => Heap.get?_push_of_some _ e) (D2.frame _ _ _ N4.s2 fun c _ o e => Heap.get?_push_of_some _ e)
    have T0 : Duo (h4.push { cls := .type "tuple", data := .seq #[x, y] }) h4.objs.size x y := Heap.get?_push_size _ rfl
    refine wpAny_bind (m := Builtin.SmallTypes.ownedTupleHandOut (.ref z) (.ref h4.objs.size)) (wpAny_bind (z_field (s := { s with heap := h4.push _, toks := t3 }) N5 (.inl rfl) S D1 D2 fun h6 k6 N6 => z_field (s := { s with heap := h6, toks := t3 }) N6 (.inr ⟨rfl, rfl⟩) S D1 D2 fun h7 k7 N7 => wpAny_pure ?_))
    have nz : h4.objs.size ∉ [z] := by simp; exact Nat.ne_of_gt lt1
    have T7 : Duo h7 h4.objs.size x y := k7.at_ _ _ nz (k6.at_ _ _ nz T0)
    have all : Kp [z, TO, i1, i2] s.heap h4 := (kg.sub (by simp)).trans ((k1.sub (by simp)).trans ((k2.sub (by simp)).trans ((k3.sub (by simp)).trans (k4.sub (by simp)))))
    exact item hi x y h4.objs.size h7 t3 px py all.sz N7 T7 (Heap.lt_size T7) (all.trans ((Kp.push _).trans ((k6.sub (by simp)).trans (k7.sub (by simp)))))
  · -- both are at their end
    have en : i = n := by omega
    refine next_none (D1.done { s with heap := g } _ _ (en ▸ G.s1) fun h1 e x1 ⟨o, ho, hc⟩ => ⟨e, o, rfl, ho, hc, ?_⟩)
    have N1 : ZObj h1 z TI TO .ellipsis := x1 _ _ S.z1.symm G.o
    have c2 : St2 n h1 := D2.frame _ _ _ (en ▸ G.s2) fun c hc o e => x1 c o (S.f2 c hc).2.2 e
    refine wpAny_bind (wpAny_setField_rec (s := { s with heap := h1 }) N1 (by simp) fun h2 _ b2 => ?_)
    have c3 : St2 n h2 := D2.frame _ _ _ c2 fun c hc o e => (b2.2 c (S.f2 c hc).1).trans e
    refine wpAny_bind (wpAny_bind ?_)
    rw [List.drop_succ_cons, List.drop_zero, List.zipIdx_cons, List.zipIdx_nil, List.forIn_cons]
    refine wpAny_bind (wpAny_bind (next_none (D2.done { s with heap := h2 } _ _ c3 fun h3 e3 x3 ⟨o3, ho3, hc3⟩ => ⟨e3, o3, rfl, ho3, hc3, wpAny_pure ?_⟩)))
    dsimp only
    rw [List.forIn_nil]
    refine wpAny_pure (wpAny_bind (wpAny_rule (stops (s := { s with heap := h3 }) hh fun h4 e4 o4 k4 ho4 hc4 => ?_)))
    exact stop en h4 s.toks e4 o4 (fun c o n q => k4.at_ c o (by simp) (x3 c o (fun z => n (by simp [z])) ((b2.2 c fun z => n (by simp [z])).trans (x1 c o (fun z => n (by simp [z])) (kg.at_ c o (fun z => n (by simp at z; simp [z])) q))))) ho4 hc4
/-- next(zip): the two ways -/
theorem z_pyNext {Q : Option Value → Shared → Prop} (hh : A.in1.handled = none) (S : ZApart z TI TO i1 i2 fp1 fp2) (D1 : Draws prog w A.in1 i1 fp1 n P1 St1) (D2 : Draws prog w A.in1 i2 fp2 n P2 St2) (N : ZNow z TI TO i1 i2 St1 St2 .none a b i i s.heap) (hle : i ≤ n)
    (item : i < n → ∀ x y T h' tk, P1 i x → P2 i y → s.heap.objs.size ≤ T → ZNow z TI TO i1 i2 St1 St2 (rawInt T) x y (i + 1) (i + 1) h' → Duo h' T x y → T < h'.objs.size → Kp [z, TO, i1, i2] s.heap h' → Q (some (.ref T)) { s with heap := h', toks := tk })
    (stop : i = n → ∀ h' tk, (∀ c u, c ∉ [z, TO, i1, i2] → s.heap.get? c = some u → h'.get? c = some u) → Q none { s with heap := h', toks := tk }) : wpAny (model prog w) A (pyNext (.ref z)) Q E s := by
  have ty : s.TypeIs (.ref z) "zip" := ⟨_, N.o, rfl⟩
  unfold pyNext
  refine wpAny_bind (wpAny_attempt (wpAny_callSpecial?_slot (name := Str.ofString "__next__") ty F.slot_zip_next (wpAny_call_entry F.slot_zip_next ty F.entry_zip_next (z_next hh S D1 D2 N hle (fun hi x y T h' tk p1 p2 hs N' hT hl kp => ⟨_, rfl, wpAny_pure (item hi x y T h' tk p1 p2 hs N' hT hl kp)⟩) fun he h' tk e o kp ho hc => ?_) (F.args_zip_next_1 _))))
  exact wpAny_bind (wpAny_isInstance (T := "StopIteration") (b := true) ⟨o, ho, hc⟩ isSubtype_stop (wpAny_pure (stop he h' tk kp)))
/-- the new pair is let go by the zip -/
theorem z_letGo {elts : List Expr} {m} {pos : Pos} {T : Addr} {Q : Unit → Shared → Prop} (S : ZApart z TI TO i1 i2 fp1 fp2) (D1 : Draws prog w A i1 fp1 n P1 St1) (D2 : Draws prog w A i2 fp2 n P2 St2) (N : ZNow z TI TO i1 i2 St1 St2 (rawInt T) a b j k s.heap)
    (h : ∀ h', Kp [z] s.heap h' → ZNow z TI TO i1 i2 St1 St2 .none a b j k h' → Q () { s with heap := h' }) : wpAny (model prog w) A (letOwnedTupleGo (.Tuple elts m pos) (.ref z) (.ref T)) Q E s := by
  unfold letOwnedTupleGo
  refine wpAny_bind (wpAny_load N.o ?_)
  dsimp only
  rw [if_pos (by simp)]
  exact wpAny_bind (wpAny_rule (z_field N (.inl rfl) S D1 D2 h))
theorem z_iter {Q : Value → Shared → Prop} (hz : ZObj s.heap z TI TO f) (h : Q (.ref z) s) : wpAny (model prog w) A (pyIter (.ref z)) Q E s :=
  have ty : s.TypeIs (.ref z) "zip" := ⟨_, hz, rfl⟩
  wpAny_pyIter_slot ty F.slot_zip_iter (wpAny_call_entry F.slot_zip_iter ty F.entry_zip_iter (wpAny_pure ⟨_, rfl, "zip", _, ty, F.slot_zip_next.lookup, h⟩) (F.args_zip_iter_1 _))

/-! ### the call zip(a, b, strict=True) -/
theorem st_type (x y : Value) : checkTypeCall "zip" ⟨[x, y], [(Str.ofString "strict", .bool true)]⟩ = pure () := by kernel_rfl
theorem st_new (x y : Value) : checkBuiltinCall "zip.__new__" ⟨[.type "zip", x, y], [(Str.ofString "strict", .bool true)]⟩ = pure () := by kernel_rfl
theorem st_init (o x y : Value) : argsOk "object.__init__" ⟨[o, x, y], [(Str.ofString "strict", .bool true)]⟩ := by unfold argsOk; kernel_rfl
/-- the heap behind it: two iterators, the pair of them, the kept pair, the zip -/
def zHeap (h : Heap) (o p : Obj) : Heap :=
  [o, p, { cls := .type "tuple", data := .seq #[.ref h.objs.size, .ref (h.objs.size + 1)] }, { cls := .type "tuple", data := .seq #[.none, .none] },
    { cls := .type "zip", data := .fields #[.none, .bool false, .bool true, .ref (h.objs.size + 2), .ref (h.objs.size + 3)] }].foldl Heap.push h
theorem zHeap_at (h : Heap) (o p : Obj) (ho : o.isFreed = false) (hp : p.isFreed = false) : ZObj (zHeap h o p) (h.objs.size + 4) (h.objs.size + 2) (h.objs.size + 3) .none ∧ Duo (zHeap h o p) (h.objs.size + 2) (.ref h.objs.size) (.ref (h.objs.size + 1)) ∧
    Duo (zHeap h o p) (h.objs.size + 3) .none .none ∧ (zHeap h o p).get? h.objs.size = some o ∧ (zHeap h o p).get? (h.objs.size + 1) = some p ∧ ∀ c u, h.get? c = some u → (zHeap h o p).get? c = some u := by
  have new : ∀ (g : Heap) (x : Obj) (m : Nat), g.objs.size = m → x.isFreed = false → (g.push x).get? m = some x := fun g x m e f => by subst e; exact Heap.get?_push_size g f
  have old : ∀ {g : Heap} (x : Obj) {c : Addr} {u : Obj}, g.get? c = some u → (g.push x).get? c = some u := fun x _ _ e => Heap.get?_push_of_some x e
  have z : ∀ (g : Heap) (x : Obj) (m : Nat), g.objs.size = m → (g.push x).objs.size = m + 1 := fun g x m e => by rw [Heap.size_push, e]
  have e1 := z h o _ rfl
  have e2 := z _ p _ e1
  have e3 := z _ { cls := .type "tuple", data := .seq #[.ref h.objs.size, .ref (h.objs.size + 1)] } _ e2
  have e4 := z _ { cls := .type "tuple", data := .seq #[.none, .none] } _ e3
  exact ⟨new _ _ _ e4 rfl, old _ (old _ (new _ _ _ e2 rfl)), old _ (new _ _ _ e3 rfl), old _ (old _ (old _ (old _ (new _ _ _ rfl ho)))), old _ (old _ (old _ (new _ _ _ e1 hp))), fun c u e => old _ (old _ (old _ (old _ (old _ e))))⟩
set_option maxHeartbeats 1000000 in
theorem z_made {u v : Value} {o p : Obj} {H1 H2 : Heap → Prop} (B1 : Begins u o H1) (B2 : Begins v p H2) :
    Meets (Builtin.«zip.__new__» ⟨[.type "zip", u, v], [(Str.ofString "strict", .bool true)]⟩) (fun _ R s => H1 s.heap ∧ H2 s.heap ∧ R (.ok (.ret (.ref (s.heap.objs.size + 4)))) { s with heap := zHeap s.heap o p }) :=
  .of_wp fun prog w A R s h => by
    obtain ⟨g, gs, dr, tk, os⟩ := s
    obtain ⟨h1, h2, h⟩ := h
    have no : (Str.ofString "strict" != ("strict" : Str)) = false := by decide +kernel
    have sub := sub_zip
    have first : ∀ {A' : Around} {E' : Value → Shared → Prop} {Q' : Value → Shared → Prop}, Q' (.ref g.objs.size) ⟨g.push o, gs, dr, tk, os⟩ → wpAny (model prog w) A' (pyIter u) Q' E' ⟨g, gs, dr, tk, os⟩ := fun q => B1.iter prog w _ _ _ _ h1 q
    have then_ : ∀ {A' : Around} {E' : Value → Shared → Prop} {Q' : Value → Shared → Prop}, Q' (.ref (g.push o).objs.size) ⟨(g.push o).push p, gs, dr, tk, os⟩ → wpAny (model prog w) A' (pyIter v) Q' E' ⟨g.push o, gs, dr, tk, os⟩ :=
      fun q => B2.iter prog w _ _ _ _ (B2.keeps _ _ h2 fun _ _ e => Heap.get?_push_of_some o e) q
    wp_walk using first, then_
    refine ⟨_, rfl, ?_⟩
    simp only [Heap.size_push, Nat.add_assoc, Nat.reduceAdd]
    exact h
theorem z_call {u v : Value} {o p : Obj} {H1 H2 : Heap → Prop} {Q : Value → Shared → Prop} (B1 : Begins u o H1) (B2 : Begins v p H2) (h1 : H1 s.heap) (h2 : H2 s.heap) (h : Q (.ref (s.heap.objs.size + 4)) { s with heap := zHeap s.heap o p }) :
    wpAny (model prog w) A (call (.type "zip") [u, v] [(Str.ofString "strict", .bool true)]) Q E s :=
  callType_newKw F.called_zip (by decide) (st_type _ _) (st_new _ _) (fun _ => st_init _ _ _) F.entry_zip_new (z_made B1 B2) ⟨h1, h2, ⟨_, (zHeap_at s.heap o p B1.free B2.free).1, rfl⟩, h⟩
end
end De
set_option Elab.async false
set_option linter.all false
set_option maxRecDepth 100000
namespace De
open PySem PySem.Spec PyProof.Rows L2

/-- what is drawn from the value v: the items src tells -/
inductive Dk (K : PySem.W.Frag) : V → (Hp → List V → Prop) → Prop where
  | list (a : Addr) : Dk K (.ref a) (SqL K · a)
  | tup (a : Addr) : Dk K (.ref a) (SqT K · a)
  | str (x : Str) : Dk K (.str x) (fun _ xs => xs = x.cps.toList.map fun c => V.str ⟨#[c]⟩)
/-- such an iterator at its turns -/
structure DK (P : Program) (w : World) (K : PySem.W.Frag) (it : Addr) (fx : List Addr) (src : Hp → List V → Prop) (itr : Nat → Heap → Prop) : Prop where
  obj : ∀ i h, itr i h → ∃ o, h.get? it = some o ∧ ∀ v, o.data ≠ .cell v
  keep : ∀ i h h', itr i h → (∀ o, h.get? it = some o → h'.get? it = some o) → itr i h'
  inj : ∀ (X : Cx) pins s σ H xs ys, X.K = K → Inv X pins σ H s → src H xs → src H ys → xs = ys
  drw : ∀ (X : Cx) pins s σ H xs i (A : Around), X.prog = P → X.w = w → X.K = K → Inv X pins σ H s → itr i s.heap → src H xs → A.handled = none →
    ∃ fp Pv St, Draws P w A it fp xs.length Pv St ∧ St i s.heap ∧ (∀ j h, St j h → itr j h) ∧ (∀ j v x, Pv j v → xs[j]? = some x → RelV x v) ∧ it ∈ fp ∧ ∀ b ∈ fp, b = it ∨ b ∈ fx
theorem dk_list {P : Program} {w : World} {K : PySem.W.Frag} {it a : Addr} (h : a ≠ it) : DK P w K it [a] (SqL K · a) (fun i h => h.IsListIter it a i) where
  obj := fun i h ⟨o, e, _, d⟩ => ⟨o, e, fun v q => by rw [d] at q; cases q⟩
  keep := fun i h h' st k => st.at fun o q => k o q
  inj := fun X pins s σ H xs ys e I h1 h2 => by subst e; exact I.list_inj h1 h2
  drw := fun X pins s σ H xs i A e1 e2 e3 I st hs hh => by
    subst e1 e2 e3
    obtain ⟨its, rv, p, _⟩ := I.list hs
    have hl : its.toArray.size = xs.length := by have := rv.length; simp; omega
    have D := Draws.list (prog := X.prog) (w := X.w) hh it a h its.toArray
    rw [hl] at D
    exact ⟨_, _, _, D, ⟨st, p.isList⟩, fun j h st => st.1, fun j v x hv hx => by
      obtain ⟨u, hu, ru⟩ := rv.get hx
      have hv : its.toArray[j]? = some v := hv
      have hu' : its.toArray[j]? = some u := by simpa using hu
      rw [hu'] at hv; cases hv; exact ru, by simp, fun b hb => by simpa using hb⟩
theorem dk_tup {P : Program} {w : World} {K : PySem.W.Frag} {it a : Addr} (h : a ≠ it) : DK P w K it [a] (SqT K · a) (fun i h => h.IsTupleIter it a i) where
  obj := fun i h ⟨o, e, _, d⟩ => ⟨o, e, fun v q => by rw [d] at q; cases q⟩
  keep := fun i h h' st k => st.at fun o q => k o q
  inj := fun X pins s σ H xs ys e I h1 h2 => by subst e; exact I.tuple_inj h1 h2
  drw := fun X pins s σ H xs i A e1 e2 e3 I st hs hh => by
    subst e1 e2 e3
    obtain ⟨its, rv, p, _⟩ := I.tuple hs
    have hl : its.toArray.size = xs.length := by have := rv.length; simp; omega
    have D := Draws.tuple (prog := X.prog) (w := X.w) hh it a h its.toArray
    rw [hl] at D
    exact ⟨_, _, _, D, ⟨st, p⟩, fun j h st => st.1, fun j v x hv hx => by
      obtain ⟨u, hu, ru⟩ := rv.get hx
      have hv : its.toArray[j]? = some v := hv
      have hu' : its.toArray[j]? = some u := by simpa using hu
      rw [hu'] at hv; cases hv; exact ru, by simp, fun b hb => by simpa using hb⟩
theorem dk_str {P : Program} {w : World} {K : PySem.W.Frag} {it : Addr} {x : Str} {t : Tok} : DK P w K it [] (fun _ xs => xs = x.cps.toList.map fun c => V.str ⟨#[c]⟩) (fun i h => h.IsStrIter it (strIterType x) x t i) where
  obj := fun i h ⟨o, e, _, d⟩ => ⟨o, e, fun v q => by rw [d] at q; cases q⟩
  keep := fun i h h' ⟨o, e, c, d⟩ k => ⟨o, k o e, c, d⟩
  inj := fun X pins s σ H xs ys e I h1 h2 => by rw [h1, h2]
  drw := fun X pins s σ H xs i A e1 e2 e3 I st hs hh => by
    subst e1 e2 e3
    have D := Draws.text (prog := X.prog) (w := X.w) hh it x t
    have hl : x.cps.size = xs.length := by rw [hs]; simp
    rw [hl] at D
    refine ⟨_, _, _, D, st, fun j h st => st, fun j v y hv hx => ?_, by simp, fun b hb => by simpa using hb⟩
    obtain ⟨c, u, hc, rfl⟩ := hv
    rw [hs, List.getElem?_map] at hx
    have hc' : x.cps.toList[j]? = some c := by simpa using hc
    rw [hc'] at hx
    cases hx
    exact ⟨u, rfl⟩
/-- what zip(.., strict=True) gives: new pairs -/
def ItB (s1 s2 : Hp → List V → Prop) : It :=
  ⟨fun i H => ∃ xs ys : List V, s1 H xs ∧ s2 H ys ∧ xs.length = ys.length ∧ i < xs.length,
    fun i H v H' => ∃ T x y, v = .ref T ∧ H T = none ∧ H' = upd H T (.tup [x, y]) ∧ (∀ xs, s1 H xs → xs[i]? = some x) ∧ ∀ ys, s2 H ys → ys[i]? = some y,
    fun i H => ∃ xs ys : List V, s1 H xs ∧ s2 H ys ∧ xs.length = i ∧ ys.length = i⟩
/-- the cells apart: z, TI, TO, i1, i2 -/
def cells (z TI TO i1 i2 : Addr) : List Addr := [z, TI, TO, i1, i2]
structure Ap (z TI TO i1 i2 : Addr) (fx1 fx2 : List Addr) : Prop where
  nd : (cells z TI TO i1 i2).Nodup
  o1 : ∀ b ∈ fx1, b ∉ cells z TI TO i1 i2
  o2 : ∀ b ∈ fx2, b ∉ cells z TI TO i1 i2
theorem Ap.z {z TI TO i1 i2 : Addr} {fx1 fx2 fp1 fp2 : List Addr} (a : Ap z TI TO i1 i2 fx1 fx2) (h1 : ∀ b ∈ fp1, b = i1 ∨ b ∈ fx1) (h2 : ∀ b ∈ fp2, b = i2 ∨ b ∈ fx2) : ZApart z TI TO i1 i2 fp1 fp2 := by
  have nd := a.nd
  simp only [cells, List.nodup_cons, List.mem_cons, List.not_mem_nil, or_false, not_or] at nd
  obtain ⟨⟨n1, n2, n3, n4⟩, ⟨n5, n6, n7⟩, ⟨n8, n9⟩, n10, _⟩ := nd
  refine ⟨fun e => n1 e.symm, fun e => n2 e.symm, fun e => n5 e.symm, fun e => n3 e.symm, fun e => n4 e.symm, n8, n9, n6, n7, fun b hb => ?_, fun b hb => ?_⟩
  · rcases h1 b hb with e | e
    · rw [e]; exact ⟨fun q => n3 q.symm, fun q => n8 q.symm, n10⟩
    · have := a.o1 b e
      simp only [cells, List.mem_cons, List.not_mem_nil, or_false, not_or] at this
      exact ⟨this.1, this.2.2.1, this.2.2.2.2⟩
  · rcases h2 b hb with e | e
    · rw [e]; exact ⟨fun q => n4 q.symm, fun q => n9 q.symm, fun q => n10 q.symm⟩
    · have := a.o2 b e
      simp only [cells, List.mem_cons, List.not_mem_nil, or_false, not_or] at this
      exact ⟨this.1, this.2.2.1, this.2.2.2.1⟩
/-- the zip's state ahead of turn i -/
structure ZT (z TI TO i1 i2 : Addr) (t1 t2 : Nat → Heap → Prop) (i : Nat) (h : Heap) : Prop where
  o : ZObj h z TI TO .none
  its : Duo h TI (.ref i1) (.ref i2)
  own : ∃ a b, Duo h TO a b
  t1 : t1 i h
  t2 : t2 i h
theorem turn_zipB {P : Program} {w : World} {K : PySem.W.Frag} {elts : List Expr} {kk : Nat} {tpos : Pos} {z TI TO i1 i2 : Addr} {fx1 fx2 : List Addr} {s1 s2 : Hp → List V → Prop} {t1 t2 : Nat → Heap → Prop}
    (a : Ap z TI TO i1 i2 fx1 fx2) (K1 : DK P w K i1 fx1 s1 t1) (K2 : DK P w K i2 fx2 s2 t2) : Turn P w K (.Tuple elts kk tpos) (ItB s1 s2) (cells z TI TO i1 i2) z (ZT z TI TO i1 i2 t1 t2) := by
  have sub : ∀ b ∈ [z, TO, i1, i2], b ∈ cells z TI TO i1 i2 := by simp [cells]
  refine { mem := by simp [cells], obj := fun i h st c hc => ?_, keep := fun i h h' st k => ?_, item := ?_, done := ?_, self := fun A i s Q E st h => z_iter st.o h }
  · obtain ⟨_, _, own⟩ := st.own
    simp only [cells, List.mem_cons, List.not_mem_nil, or_false] at hc
    rcases hc with e | e | e | e | e <;> subst e
    · exact ⟨_, st.o, fun _ q => by cases q⟩
    · exact ⟨_, st.its, fun _ q => by cases q⟩
    · exact ⟨_, own, fun _ q => by cases q⟩
    · exact K1.obj _ _ st.t1
    · exact K2.obj _ _ st.t2
  · obtain ⟨x, y, own⟩ := st.own
    have k' : ∀ b, b ∈ [z, TI, TO, i1, i2] → ∀ o, h.get? b = some o → h'.get? b = some o := k
    exact ⟨k' z (by simp) _ st.o, k' TI (by simp) _ st.its, ⟨x, y, k' TO (by simp) _ own⟩, K1.keep _ _ _ st.t1 (k' i1 (by simp)), K2.keep _ _ _ st.t2 (k' i2 (by simp))⟩
  · intro X hP hw hK hc i pins s σ H E I hf st ⟨xs, ys, hx, hy, hl, hi⟩
    subst hP hw hK
    obtain ⟨x0, y0, own⟩ := st.own
    obtain ⟨fp1, P1, S1, D1, c1, b1, r1, _, f1⟩ := K1.drw X pins s σ H xs i X.A.in1 rfl rfl rfl I st.t1 hx (I.ok.hd hc)
    obtain ⟨fp2, P2, S2, D2, c2, b2, r2, _, f2⟩ := K2.drw X pins s σ H ys i X.A.in1 rfl rfl rfl I st.t2 hy (I.ok.hd hc)
    rw [← hl] at D2
    have S := a.z f1 f2
    have young : ∀ c ∈ cells z TI TO i1 i2, c < s.heap.objs.size := fun c hc => by
      simp only [cells, List.mem_cons, List.not_mem_nil, or_false] at hc
      rcases hc with e | e | e | e | e <;> subst e
      · exact Heap.lt_size st.o
      · exact Heap.lt_size st.its
      · exact Heap.lt_size own
      · obtain ⟨o, q, _⟩ := K1.obj _ _ st.t1; exact Heap.lt_size q
      · obtain ⟨o, q, _⟩ := K2.obj _ _ st.t2; exact Heap.lt_size q
    have ex := List.getElem?_eq_getElem hi
    have ey := List.getElem?_eq_getElem (l := ys) (i := i) (by omega)
    refine z_pyNext (I.ok.hd hc) S D1 D2 ⟨st.o, st.its, own, c1, c2⟩ (Nat.le_of_lt hi) (fun _ u v T h' tk p1 p2 hT N hD hlt kp => ⟨_, rfl, z_letGo S D1.of_in1 D2.of_in1 (s := { s with heap := h', toks := tk }) N fun g kg G => ?_⟩) fun e => absurd e (Nat.ne_of_lt hi)
    have nT : T ∉ [z] := by
      have := young z (by simp [cells])
      simp; exact fun e => absurd hT (by rw [e]; exact Nat.not_le.mpr this)
    have new : ObjOk X.prog X.w (upd H T (.tup [xs[i], ys[i]])) g T (.tup [xs[i], ys[i]]) :=
      ⟨by show 2 ≤ sizeLine; decide, [u, v], .cons (r1 _ _ _ p1 ex) (.cons (r2 _ _ _ p2 ey) .nil), ⟨_, kg.at_ _ _ nT hD, rfl, _, rfl⟩⟩
    have I1 := I.turnedNew (t' := tk) (ch := cells z TI TO i1 i2) (fun c o n q => kg.at_ c o (fun m => n (sub c (by simp at m; simp [m]))) (kp.at_ c o (fun m => n (sub c m)) q)) hf hT new
    refine ⟨.ref T, _, I1, rfl, ⟨T, _, _, rfl, I.hok.fresh hT, rfl, fun l hl' => by rw [K1.inj X pins s σ H l xs rfl I hl' hx]; exact ex, fun l hl' => by rw [K2.inj X pins s σ H l ys rfl I hl' hy]; exact ey⟩, ⟨G.o, G.its, ⟨_, _, G.own⟩, b1 _ _ G.s1, b2 _ _ G.s2⟩, fun c hcm => ?_⟩
    rw [upd_ne (Nat.ne_of_lt (Nat.lt_of_lt_of_le (young c hcm) hT))]
    exact (hf c hcm).1
  · intro X hP hw hK hc i pins s σ H E I hf st ⟨xs, ys, hx, hy, e1, e2⟩
    subst hP hw hK
    obtain ⟨x0, y0, own⟩ := st.own
    obtain ⟨fp1, P1, S1, D1, c1, b1, r1, _, f1⟩ := K1.drw X pins s σ H xs i X.A.in1 rfl rfl rfl I st.t1 hx (I.ok.hd hc)
    obtain ⟨fp2, P2, S2, D2, c2, b2, r2, _, f2⟩ := K2.drw X pins s σ H ys i X.A.in1 rfl rfl rfl I st.t2 hy (I.ok.hd hc)
    rw [e1] at D1
    rw [e2] at D2
    exact z_pyNext (I.ok.hd hc) (a.z f1 f2) D1 D2 ⟨st.o, st.its, own, c1, c2⟩ (Nat.le_refl _) (fun q => absurd q (Nat.lt_irrefl _)) fun _ h' tk kp => ⟨rfl, I.turnedL (t' := tk) (ch := cells z TI TO i1 i2) (fun c o n q => kp c o (fun m => n (sub c m)) q) hf⟩
/-- the beginning of a drawn value -/
theorem dk_begins {X : Cx} {pins : List (Addr × Obj)} {s : Shared} {σ : L2.St} {H : Hp} {v : V} {u : Value} {src : Hp → List V → Prop} {xs : List V} (d : Dk X.K v src) (I : Inv X pins σ H s) (r : RelV v u) (hs : src H xs) :
    ∃ o Hb fx, Begins u o Hb ∧ Hb s.heap ∧ (∀ b ∈ fx, b < s.heap.objs.size) ∧ ∀ it, (∀ b ∈ fx, b ≠ it) → ∃ itr, DK X.prog X.w X.K it fx src itr ∧ ∀ h : Heap, h.get? it = some o → itr 0 h := by
  cases d with
  | list a =>
    cases r
    obtain ⟨its, rv, p, _⟩ := I.list hs
    exact ⟨_, _, [a], begins_list a its.toArray, p.isList, fun b hb => by rw [List.mem_singleton.mp hb]; exact p.lt, fun it hn => ⟨_, dk_list (hn a (by simp)), fun h e => ⟨_, e, rfl, rfl⟩⟩⟩
  | tup a =>
    cases r
    obtain ⟨its, rv, p, _⟩ := I.tuple hs
    exact ⟨_, _, [a], begins_tuple a its.toArray, p, fun b hb => by rw [List.mem_singleton.mp hb]; obtain ⟨o, e, _⟩ := id p; exact Heap.lt_size e, fun it hn => ⟨_, dk_tup (hn a (by simp)), fun h e => ⟨_, e, rfl, rfl⟩⟩⟩
  | str x =>
    obtain ⟨t, rfl⟩ := r
    exact ⟨_, fun _ => True, [], begins_text x t, True.intro, (fun b hb => by cases hb), fun it hn => ⟨_, dk_str, fun h e => ⟨_, e, rfl, rfl⟩⟩⟩
def iZipB (K : PySem.W.Frag) (ta : TA) : TI := fun σ H R => ta σ H fun vs H1 => ∃ a b s1 s2 xs ys, vs = [a, b] ∧ Dk K a s1 ∧ Dk K b s2 ∧ s1 H1 xs ∧ s2 H1 ys ∧ R (ItB s1 s2) H1
/-- a built-in class called with keywords -/
theorem call_tyK {M : Model} {A : Around} {E : Value → Shared → Prop} {s : Shared} {pos : Pos} {T : String} {args : List (Bool × Sem Value)} {keywords : List (Option Str × Sem Value)} {Q : Value → Shared → Prop}
    (plain : (args.any (·.1) || keywords.any (·.1.isNone)) = false) (h : wpAny M A (evalArgs (.type T) true args keywords) (fun a t => wpAny M A (call (.type T) a.pos a.kw) Q E t) E s) : wpAny M A (callWith pos (.type T) [] args keywords) Q E s :=
  PySem.W.callWith_of (P := fun _ => True) plain (fun h _ => ⟨Keeper.machine, .inr (.inl rfl), PySem.W.Looks.of_pure rfl⟩) (wpAny_mono h (fun a t q => ⟨trivial, q⟩) fun _ _ q => q)
theorem pi_zipB {X : Cx} {e e2 : Expr} {ta : TA} {p pos tpos kp kp2 : Pos} {kj} {elts : List Expr} {kk : Nat} {sx : Str} (hsx : sx = Str.ofString "strict") (hg : Gl X "zip") (hm : X.mg "zip" = none) (ha : PA X [e, e2] ta)
    (hs : starEach [e, e2] X.env = (false, eval e X.env) :: starEach [e2] X.env := by rfl) (hpl : (backTo pos (starEach [e, e2] X.env)).any (·.1) = false := by rfl) (he : backTo pos (starEach [e, e2] X.env) = (false, eval e X.env) :: backTo pos (starEach [e2] X.env) := by rfl) :
    PI X (.Tuple elts kk tpos) (.Call (.Name "zip" p) [e, e2] [⟨some sx, .Constant (.bool true) kj kp, kp2⟩] pos) (iZipB X.K ta) := by
  subst hsx
  refine ⟨fun pins s σ H R I h => wpAny_Call_Name_kw (ld_blt I hg hm PyProof.Rows.boot_zip (call_tyK (by rw [hpl]; rfl) ?_))⟩
  rw [he]
  refine evalArgs_kwB rfl ?_
  rw [← he]
  refine thn (ha.run pos pins s σ H _ I h) fun us s1 ⟨vs, H1, I1, r1, a, b, g1, g2, xs, ys, ex, d1, d2, hx, hy, q⟩ => kws_cons (Constant_bool (kws_nil ?_))
  subst ex
  obtain ⟨u1, u2, rfl, ra, rb⟩ := vals2 r1
  obtain ⟨o1, Hb1, fx1, B1, p1, l1, k1⟩ := dk_begins d1 I1 ra hx
  obtain ⟨o2, Hb2, fx2, B2, p2, l2, k2⟩ := dk_begins d2 I1 rb hy
  obtain ⟨hz, hI, hO, hb1, hb2, hk⟩ := zHeap_at s1.heap o1 o2 B1.free B2.free
  refine z_call B1 B2 p1 p2 (z_iter hz ?_)
  obtain ⟨t1, D1, b1⟩ := k1 s1.heap.objs.size fun b hb => Nat.ne_of_lt (l1 b hb)
  obtain ⟨t2, D2, b2⟩ := k2 (s1.heap.objs.size + 1) fun b hb => Nat.ne_of_lt (Nat.lt_succ_of_lt (l2 b hb))
  have young : ∀ c ∈ cells (s1.heap.objs.size + 4) (s1.heap.objs.size + 2) (s1.heap.objs.size + 3) s1.heap.objs.size (s1.heap.objs.size + 1), s1.heap.objs.size ≤ c := fun c hc => by
    simp only [cells, List.mem_cons, List.not_mem_nil, or_false] at hc
    rcases hc with e | e | e | e | e
    · exact e ▸ Nat.le_add_right _ 4
    · exact e ▸ Nat.le_add_right _ 2
    · exact e ▸ Nat.le_add_right _ 3
    · exact Nat.le_of_eq e.symm
    · exact e ▸ Nat.le_add_right _ 1
  have nd : ∀ m : Nat, (cells (m + 4) (m + 2) (m + 3) m (m + 1)).Nodup := fun m => by simp [cells]
  exact ⟨_, _, _, _, H1, rfl, I1.kept (t' := s1.toks) hk, turn_zipB ⟨nd _, fun b hb m => absurd (young b m) (Nat.not_le.mpr (l1 b hb)), fun b hb m => absurd (young b m) (Nat.not_le.mpr (l2 b hb))⟩ D1 D2, ⟨hz, hI, ⟨_, _, hO⟩, b1 _ hb1, b2 _ hb2⟩, fun c hc => I1.fpOk (young c hc) (I1.hok.fresh (young c hc)), q⟩
end De
set_option Elab.async false
set_option linter.all false
set_option maxRecDepth 100000
namespace De
open PySem PySem.Spec PyProof.Rows L2

/-! ### zip(a, b, strict=True) as a source -/
def drD : D → Option (List D)
  | .lst _ ds => some ds
  | .rol ds => some ds
  | .tup ds => some ds
  | .str s => some ((s.cps.toList.map fun c => (⟨#[c]⟩ : Str)).map D.str)
  | _ => none
def srcD (K : PySem.W.Frag) (d : D) (v : V) : Hp → List V → Prop := match v with
  | .ref a => (match d with
    | .tup _ => (SqT K · a)
    | _ => (SqL K · a))
  | .str x => fun _ xs => xs = x.cps.toList.map fun c => V.str ⟨#[c]⟩
  | _ => fun _ _ => False
theorem own_src {C : Cn} {W : Wd} {H : Hp} {v : V} {d : D} {es : List D} (o : Own C.K W H v (frz d) []) (h : drD (frz d) = some es) : Dk C.K v (srcD C.K (frz d) v) ∧ ∃ xs, srcD C.K (frz d) v H xs ∧ Owns C.K W H xs es [] := by
  cases d with
  | lst b ds =>
    cases h
    obtain ⟨a, vs, rfl, h1, h2⟩ := own_listF (C := C) (show Own _ _ _ _ (.lst false (frzs ds)) [] from o)
    exact ⟨.list a, vs, h1, h2⟩
  | rol ds =>
    cases h
    obtain ⟨a, vs, rfl, h1, h2⟩ := own_rol (C := C) (show Own _ _ _ _ (.rol (frzs ds)) [] from o)
    exact ⟨.list a, vs, h1, h2⟩
  | tup ds =>
    cases h
    obtain ⟨a, vs, rfl, h1, h2⟩ := own_tupF (C := C) (show Own _ _ _ _ (.tup (frzs ds)) [] from o)
    exact ⟨.tup a, vs, h1, h2⟩
  | str s =>
    have h : some _ = some es := h
    cases h
    have e : v = .str s := o.1
    subst e
    refine ⟨.str s, _, rfl, ?_⟩
    have := owns_mk (K := C.K) (W := W) (H := H) (s.cps.toList.map fun c => (⟨#[c]⟩ : Str))
    rw [List.map_map] at this
    exact this
  | _ => cases h
def prs : List D → List D → List D
  | a :: as, b :: bs => .tup [a, b] :: prs as bs
  | _, _ => []
theorem prs_len : ∀ {as bs : List D}, as.length = bs.length → (prs as bs).length = as.length
  | [], bs, _ => by cases bs <;> rfl
  | a :: as, [], h => by cases h
  | a :: as, b :: bs, h => by show (prs as bs).length + 1 = as.length + 1; rw [prs_len (by simpa using h)]
theorem prs_get : ∀ {as bs : List D} {i : Nat} {a b : D}, as[i]? = some a → bs[i]? = some b → (prs as bs)[i]? = some (.tup [a, b])
  | [], _, _, _, _, h, _ => by simp at h
  | a :: as, [], _, _, _, _, h => by simp at h
  | a :: as, b :: bs, 0, _, _, h1, h2 => by simp at h1 h2; subst h1 h2; rfl
  | a :: as, b :: bs, i + 1, _, _, h1, h2 => by
    show (prs as bs)[i]? = _
    exact prs_get (by simpa using h1) (by simpa using h2)
def zpD (d e : D) : Res (List D) := match drD (frz d) with
  | none => .bad
  | some as => match drD (frz e) with
    | none => .bad
    | some bs => if as.length = bs.length ∧ as.length ≤ 16777216 then .ok (prs as bs) else .bad
def zpA (fs : Env → Res (List D)) : Env → Res (List D) := fun ρ => (fs ρ).bind fun ds => match ds with
  | [d, e] => zpD d e
  | _ => .bad
theorem Own.to {K : PySem.W.Frag} {T : List (Addr × Str)} {W W' : Wd} {H : Hp} {v : V} {d : D} {A : List Addr} (o : Own K W H v d A) (w : ∀ a, W' a → W a) : Own K W' H v d A := o.ext (.refl (T := T) H) (fun a h => .inl (w a h)) _
theorem src_zp {C : Cn} {v1 v2 : V} {d e : D} {as bs : List D} (h1 : drD (frz d) = some as) (h2 : drD (frz e) = some bs) (hl : as.length = bs.length) (hz : as.length ≤ 16777216) :
    Src C [(v1, frz d), (v2, frz e)] (ItB (srcD C.K (frz d) v1) (srcD C.K (frz e) v2)) (prs as bs) where
  sz := by rw [prs_len hl, ← sl_line]; exact hz
  go := fun i W H p hi => by
    obtain ⟨_, xs, hx, ox⟩ := own_src (C := C) (p (v1, frz d) (by simp)) h1
    obtain ⟨_, ys, hy, oy⟩ := own_src (C := C) (p (v2, frz e) (by simp)) h2
    rw [prs_len hl] at hi
    exact ⟨xs, ys, hx, hy, by rw [ox.length, oy.length, hl], by rw [ox.length]; exact hi⟩
  yld := fun i W H x H' p y hi => by
    obtain ⟨_, xs, hx, ox⟩ := own_src (C := C) (p (v1, frz d) (by simp)) h1
    obtain ⟨_, ys, hy, oy⟩ := own_src (C := C) (p (v2, frz e) (by simp)) h2
    obtain ⟨T, u, w, rfl, hT, rfl, f1, f2⟩ := y
    obtain ⟨a, e1, o1⟩ := ox.getV (f1 xs hx)
    obtain ⟨b, e2, o2⟩ := oy.getV (f2 ys hy)
    have x : Ext C.T H (upd H T (.tup [u, w])) := .new hT
    refine ⟨x, _, prs_get e1 e2, T, [u, w], rfl, ?_, SqT.of upd_same⟩
    exact ⟨u, [w], [], [], rfl, rfl, o1.ext x (fun a h => .inl h) _, w, [], [], [], rfl, rfl, o2.ext x (fun a h => .inl h) _, rfl, rfl⟩
  stop := fun i W H p hi => by
    obtain ⟨_, xs, hx, ox⟩ := own_src (C := C) (p (v1, frz d) (by simp)) h1
    obtain ⟨_, ys, hy, oy⟩ := own_src (C := C) (p (v2, frz e) (by simp)) h2
    rw [prs_len hl] at hi
    exact ⟨xs, ys, hx, hy, by rw [ox.length, hi], by rw [oy.length, ← hl, hi]⟩
theorem own_sized {X : Cx} {T : List (Addr × Str)} {W : Wd} {H : Hp} {v : V} {d : D} {es : List D} (sz : Sized X.K H) (o : Own X.K W H v (frz d) []) (h : drD (frz d) = some es) (hs : ∀ s, d ≠ .str s) : es.length ≤ 16777216 := by
  rw [sl_line]
  cases d with
  | lst b ds =>
    cases h
    obtain ⟨a, vs, rfl, h1, h2⟩ := own_listF (C := Cn.of X T) (show Own _ _ _ _ (.lst false (frzs ds)) [] from o)
    rw [← h2.length]; exact sz.l _ _ h1
  | rol ds =>
    cases h
    obtain ⟨a, vs, rfl, h1, h2⟩ := own_rol (C := Cn.of X T) (show Own _ _ _ _ (.rol (frzs ds)) [] from o)
    rw [← h2.length]; exact sz.l _ _ h1
  | tup ds =>
    cases h
    obtain ⟨a, vs, rfl, h1, h2⟩ := own_tupF (C := Cn.of X T) (show Own _ _ _ _ (.tup (frzs ds)) [] from o)
    rw [← h2.length]; exact sz.t _ _ h1
  | str s => exact absurd rfl (hs s)
  | _ => cases h
def iAny (K : PySem.W.Frag) (te : TE) : TI := fun σ H R => te σ H fun x H1 => (∃ a, x = .ref a ∧ (∃ xs, SqL K H1 a xs) ∧ R (Itl K a) H1) ∨ (∃ a, x = .ref a ∧ (∃ xs, SqT K H1 a xs) ∧ R (Itt K a) H1) ∨ ∃ s, x = .str s ∧ R (Its s) H1
section
variable {X : Cx} {T : List (Addr × Str)} {M : List Nat} {Wx : WX} {pos : Pos} {tg a b : Expr}
/-- an iterator of one cell, just made -/
theorem one_cell {pins : List (Addr × Obj)} {s : Shared} {σ : L2.St} {H : Hp} {R : It → Hp → Prop} {J : It} {tn : Nat → Heap → Prop} {o : Obj} (I : Inv X pins σ H s) (Tn : Turn X.prog X.w X.K tg J [s.heap.objs.size] s.heap.objs.size tn) (st : tn 0 (s.heap.push o)) (q : R J H) :
    PIE X pins σ tg R (.ref s.heap.objs.size) { s with heap := s.heap.push o } :=
  pi_one (tk := s.toks) I _ Tn st q
theorem pi_any {l : Expr} {tl : TE} (hl : PE X l tl) : PI X tg l (iAny X.K tl) := ⟨fun pins s σ H R I h => thn (hl.run pins s σ H _ I h) fun v t ⟨x, G, J, r, q⟩ => by
  rcases q with ⟨a, e, ⟨xs, look⟩, q⟩ | ⟨a, e, ⟨xs, look⟩, q⟩ | ⟨z, e, q⟩ <;> subst e
  · cases r
    obtain ⟨_, _, p, _⟩ := J.list look
    exact wpAny_pyIter_list p.isList (one_cell J (turn_list a _) ⟨_, Heap.get?_push_size _ rfl, rfl, rfl⟩ q)
  · cases r
    obtain ⟨its, _, p, _⟩ := J.tuple look
    exact wpAny_pyIter_tuple (items := its.toArray) p (one_cell J (turn_tuple a _) ⟨_, Heap.get?_push_size _ rfl, rfl, rfl⟩ q)
  · obtain ⟨tk, rfl⟩ := r
    exact wpAny_pyIter_strU (one_cell J (turn_str _ z tk (strIterType z) (by unfold strIterType; split <;> first | exact .inl rfl | exact .inr rfl)) ⟨_, Heap.get?_push_size _ rfl, rfl, rfl⟩ q)⟩
theorem src_str {C : Cn} {x : Str} (h : x.length ≤ 16777216) : Src C [] (Its x) ((x.cps.toList.map fun c => (⟨#[c]⟩ : Str)).map D.str) where
  sz := by rw [← sl_line, List.length_map, List.length_map]; exact h
  go := fun i W H p hi => by show i < x.cps.size; simpa using hi
  yld := fun i W H v H' p y hi => by
    obtain ⟨e, c, hc, rfl⟩ := y
    subst e
    exact ⟨.refl _, .str ⟨#[c]⟩, by rw [List.getElem?_map, List.getElem?_map]; rw [show x.cps.toList[i]? = some c from by simpa using hc]; rfl, rfl, rfl⟩
  stop := fun i W H p hi => by
    show x.cps.size ≤ i
    rw [hi]; simp
/-- what any iterable yields -/
def itD (d : D) : Res (List D) := match d with
  | .str s => if szOk s.length = true then .ok ((s.cps.toList.map fun c => (⟨#[c]⟩ : Str)).map D.str) else .bad
  | .lst _ ds => .ok (frzs ds)
  | .rol ds => .ok (frzs ds)
  | .tup ds => .ok (frzs ds)
  | _ => .bad
/-- for .. in e, whatever e is -/
theorem di_it {f : Env → Res D} (h : DE X T M Wx a f) : DI X T M Wx tg a (itm itD f) := by
  refine pi_weak (pi_any (pe_sized h)) fun σ H R ⟨ρ, W, r, p⟩ => ⟨ρ, W, r, (Post.bindI r.al p).mono fun v H1 ⟨d, x, o, q⟩ sz => ?_⟩
  have fin : ∀ {ds : List D}, (frz d = .lst false (frzs ds) ∨ frz d = .rol (frzs ds)) → PostI (Cn.of X T) W H1 (.ok (frzs ds)) R (fun c o H' => Wx c o σ H') → ∃ a, v = .ref a ∧ (∃ xs, SqL X.K H1 a xs) ∧ R (Itl X.K a) H1 := by
    intro ds e q
    obtain ⟨p, vs, e2, h1, h2⟩ := own_seqL (C := Cn.of X T) e o
    refine ⟨p, e2, ⟨vs, h1⟩, q _ _ [(.ref p, frz d)] (.refl _) (fun z hz => ?_) (src_list (C := Cn.of X T) e (sz.l _ _ h1) h1 h2)⟩
    rw [List.mem_singleton.mp hz, ← e2]; exact o
  cases d with
  | lst b ds => exact .inl (fin (.inl rfl) q)
  | rol ds => exact .inl (fin (.inr rfl) q)
  | tup ds =>
    obtain ⟨p, vs, e, h1, h2⟩ := own_tupF (C := Cn.of X T) (show Own _ _ _ _ (.tup (frzs ds)) [] from o)
    refine .inr (.inl ⟨p, e, ⟨vs, h1⟩, q _ _ [(.ref p, .tup (frzs ds))] (.refl _) (fun z hz => ?_) (src_tup (C := Cn.of X T) (sz.t _ _ h1) h1 h2)⟩)
    rw [List.mem_singleton.mp hz, ← e]; exact o
  | str s =>
    have q : PostI (Cn.of X T) W H1 (if szOk s.length = true then .ok ((s.cps.toList.map fun c => (⟨#[c]⟩ : Str)).map D.str) else .bad) R _ := q
    split at q
    · rename_i hz
      exact .inr (.inr ⟨s, o.1, q _ _ [] (.refl _) (fun z hz => by cases hz) (src_str (C := Cn.of X T) (of_decide_eq_true hz))⟩)
    · exact q.elim
  | _ => exact q.elim
/-- zip(a, b, strict=True) -/
theorem di_zipB {p tpos kp kp2 : Pos} {kj} {elts : List Expr} {kk : Nat} {sx : Str} {fs : Env → Res (List D)} (hg : Gl X "zip") (hm : X.mg "zip" = none) (ha : DA X T M Wx [a, b] fs) (hsx : sx = Str.ofString "strict" := by rfl)
    (hs : starEach [a, b] X.env = (false, eval a X.env) :: starEach [b] X.env := by rfl) (hpl : (backTo pos (starEach [a, b] X.env)).any (·.1) = false := by rfl) (he : backTo pos (starEach [a, b] X.env) = (false, eval a X.env) :: backTo pos (starEach [b] X.env) := by rfl) :
    DI X T M Wx (.Tuple elts kk tpos) (.Call (.Name "zip" p) [a, b] [⟨some sx, .Constant (.bool true) kj kp, kp2⟩] pos) (zpA fs) := by
  refine pi_weak (pi_zipB hsx hg hm ha.1 hs hpl he) fun σ H R ⟨ρ, W, r, q⟩ => ⟨ρ, W, r, ?_⟩
  unfold zpA at q
  cases e : fs ρ with
  | ex e' => rw [e] at q; exact q
  | bad => rw [e] at q; exact q
  | ok ds =>
    rw [e] at q
    intro vs H1 A x n nd o
    have al := r.al
    match ds, q, o with
    | [d, e'], q, o =>
      obtain ⟨v1, v2, A1, A2, rfl, rfl, o1, o2⟩ := owns_two (C := Cn.of X T) o
      have f1 : Own X.K W H1 v1 (frz d) [] := o1.frz (fun a h => .inl h) _ fun a ha z => n a (List.mem_append_left _ ha) (al a z)
      have f2 : Own X.K W H1 v2 (frz e') [] := o2.frz (fun a h => .inl h) _ fun a ha z => n a (List.mem_append_right _ ha) (al a z)
      have q : PostI (Cn.of X T) W H (zpD d e') R _ := q
      unfold zpD at q
      cases h1 : drD (frz d) with
      | none => rw [h1] at q; exact q.elim
      | some as =>
      rw [h1] at q
      cases h2 : drD (frz e') with
      | none => rw [h2] at q; exact q.elim
      | some bs =>
      rw [h2] at q
      have q : PostI (Cn.of X T) W H (if as.length = bs.length ∧ as.length ≤ 16777216 then .ok (prs as bs) else .bad) R _ := q
      split at q
      · rename_i hz
        obtain ⟨k1, xs, hx, ox⟩ := own_src (C := Cn.of X T) f1 h1
        obtain ⟨k2, ys, hy, oy⟩ := own_src (C := Cn.of X T) f2 h2
        refine ⟨v1, v2, _, _, xs, ys, rfl, k1, k2, hx, hy, q _ _ [(v1, frz d), (v2, frz e')] x (fun z hz => ?_) (src_zp (C := Cn.of X T) h1 h2 hz.1 hz.2)⟩
        rcases List.mem_cons.mp hz with e | e
        · subst e; exact f1
        · rw [List.mem_singleton.mp e]; exact f2
      · exact q.elim
    | [], q, o => exact q.elim
    | [_], q, o => exact q.elim
    | _ :: _ :: _ :: _, q, o => exact q.elim
end
end De
set_option Elab.async false
set_option linter.all false
set_option maxRecDepth 100000
namespace De
open PySem PySem.Spec PyProof.Rows L2

/-! ### a, b = x, y -/
section
variable {X : Cx} {T : List (Addr × Str)} {M : List Nat} {Wx : WX} {pos : Pos} {a b : Expr}
theorem ds_par {i j : Nat} {x y : Str} {px py pt : Pos} {kt k2 pt2} {fs : Env → Res (List D)} (M : List Nat) (hc : X.calm = true) (hN : X.N.Nodup) (hi : X.N[i]? = some x) (hj : X.N[j]? = some y) (hij : i ≠ j)
    (hx : X.env.scope.names.lookup x = some .local) (hy : X.env.scope.names.lookup y = some .local) (ha : DA X T M Wx [a, b] fs)
    (hw : swappedStores [.Tuple [.Name x px, .Name y py] kt pt] (.Tuple [a, b] k2 pt2) X.env = pure (some [x, y]))
    (hs : swapsWithSole [.Tuple [.Name x px, .Name y py] kt pt] (.Tuple [a, b] k2 pt2) pos.line X.env = pure false := by rfl) :
    DS X T Wx (.Assign [.Tuple [.Name x px, .Name y py] kt pt] (.Tuple [a, b] k2 pt2) pos) (parS M i j fs) :=
  ps_weak (ps_par hc hN hi hj hij hx hy ha.1 hw hs) fun E σ H h => par_read h
end

/-! ### a dict of the module, texts by texts -/
structure TabS (K : PySem.W.Frag) (w : World) (a : Addr) (kvs : List (Str × Str)) : Prop where
  at_ : ∃ es n, KDict K w a es n
  get : ∀ z, ∃ r, PySem.W.nsIn K a z = some r ∧ match kvs.lookup z with
    | some t => ∃ tk, r = some (.str t tk)
    | none => r = none
def entS (e : DictEntry) : Option (Str × Str) := match e.key with
  | .str x _ => (match e.val with
    | .str y _ => some (x, y)
    | _ => none)
  | _ => none
def tabB (K : PySem.W.Frag) (a : Addr) (kvs : List (Str × Str)) : Bool := match K.lookup a with
  | some ⟨_, _, .dict es _, _⟩ => decide (es.toList.map entS = kvs.map some)
  | _ => false
theorem look_ents : ∀ {l : List DictEntry} {kvs : List (Str × Str)} (z : Str), l.map entS = kvs.map some → match kvs.lookup z with
    | some t => ∃ e tk, l.find? (·.key.isStr z) = some e ∧ e.val = .str t tk
    | none => l.find? (·.key.isStr z) = none ∧ l.any (·.refKey) = false
  | [], [], z, _ => ⟨rfl, rfl⟩
  | [], _ :: _, z, h => by cases h
  | _ :: _, [], z, h => by cases h
  | e :: l, (k, t) :: kvs, z, h => by
    have h1 : entS e :: l.map entS = some (k, t) :: kvs.map some := h
    injection h1 with h2 h3
    have ih := look_ents z h3
    unfold entS at h2
    split at h2
    · rename_i x tk ek
      split at h2
      · rename_i y tv ev
        have h2 := Option.some.inj h2
        have hx : x = k := congrArg Prod.fst h2
        have hy : y = t := congrArg Prod.snd h2
        subst hx hy
        by_cases hz : x = z
        · subst hz
          have q1 : e.key.isStr x = true := by rw [ek]; simp [Value.isStr]
          rw [show List.lookup x ((x, y) :: kvs) = some y from by simp [List.lookup]]
          exact ⟨e, tv, by rw [List.find?_cons, q1], ev⟩
        · have q1 : e.key.isStr z = false := by rw [ek]; simp [Value.isStr, hz]
          have q2 : List.lookup z ((x, y) :: kvs) = kvs.lookup z := by
            have : (z == x) = false := by simpa using fun h => hz h.symm
            simp [List.lookup, this]
          rw [q2, List.find?_cons, q1]
          cases e2 : kvs.lookup z with
          | some t2 => rw [e2] at ih; exact ih
          | none =>
            rw [e2] at ih
            refine ⟨ih.1, ?_⟩
            have q3 : e.refKey = false := by simp [DictEntry.refKey, ek]
            rw [List.any_cons, q3, ih.2]; rfl
      · cases h2
    · cases h2
theorem tabS_ok {K : PySem.W.Frag} {w : World} {a : Addr} {kvs : List (Str × Str)} (h : tabB K a kvs = true) (hk : ∃ es n, KDict K w a es n) : TabS K w a kvs := by
  refine ⟨hk, fun z => ?_⟩
  obtain ⟨es, n, kd⟩ := hk
  unfold tabB at h
  rw [kd.at_] at h
  have h := of_decide_eq_true h
  have l := look_ents z h
  unfold PySem.W.nsIn
  rw [kd.at_]
  dsimp only
  cases e : kvs.lookup z with
  | some t =>
    rw [e] at l
    obtain ⟨en, tk, h1, h2⟩ := l
    rw [h1]
    exact ⟨_, rfl, tk, by rw [h2]⟩
  | none =>
    rw [e] at l
    rw [l.1, l.2]
    exact ⟨_, rfl, rfl⟩
/-- TAB.get(k, x) -/
def tgetA (kvs : List (Str × Str)) (fk fx : Env → Res D) : Env → Res D := fun ρ => (fk ρ).bind fun k => match k with
  | .str z => (fx ρ).bind fun x => .ok (match kvs.lookup z with
    | some t => .str t
    | none => frz x)
  | _ => .bad
section
variable {X : Cx} {T : List (Addr × Str)} {M : List Nat} {Wx : WX} {apos cpos op : Pos} {e f : Expr}
theorem de_tget {x : Str} {a : Addr} {kvs : List (Str × Str)} {fk fx : Env → Res D} (hg : Gl X x) (hm : X.mg x = some (.ref a)) (TS : TabS X.K X.w a kvs) (he : DE X T M Wx e fk) (hf : DE X T M Wx f fx) (hd : (x == ("__debug__" : Str)) = false := by decide)
    (hbase : attributeBase (.Name x op) "get" X.env (eval (.Name x op) X.env) = eval (.Name x op) X.env := by rfl)
    (few : ((backTo cpos (starEach [e, f] X.env)).all (fun x => !x.1) && (backToKw cpos (keywordEach [] X.env)).all (fun x => x.1.isSome)
      && decide (([e, f] : List Expr).length + ([] : List Keyword).length + (if ([] : List Keyword).isEmpty then 0 else 1) < 30)) = true := by rfl)
    (hline : (apos.endLine == cpos.line) = true := by rfl)
    (trees : backTo cpos (starEach [e, f] X.env) = [(false, eval e X.env), (false, eval f X.env)] := by rfl) :
    DE X T M Wx (.Call (.Attribute (.Name x op) "get" apos) [e, f] [] cpos) (tgetA kvs fk fx) := by
  refine ⟨fun pins s σ H Q I ⟨ρ, W, r, p⟩ => ?_⟩
  refine wpAny_Call_method hbase few hline PySem.F.plainAttrs_dict PySem.F.slot_dict_get PySem.F.type_dict_get (ld_glob I hg hm ?_ hd)
  obtain ⟨⟨es, n, kd⟩, hget⟩ := TS
  have mof : ∀ {h : Heap}, X.K.In h → _ := fun {h} k => PySem.W.mapOf_K (prog := X.prog) (w := X.w) (h := h) k kd.at_ kd.lit
  refine ⟨(mof I.kIn).typeIs, fun b q => ?_, ?_⟩
  · cases q
    exact ⟨_, I.kIn _ _ kd.at_, rfl⟩
  rw [trees]
  unfold tgetA at p
  have p1 : Post (Cn.of X T) W H (fk ρ) (fun y H2 => ∃ d, Ext T H H2 ∧ Own X.K W H2 y (frz d) [] ∧ Post (Cn.of X T) W H2 (match d with
    | .str z => (fx ρ).bind fun x => .ok (match kvs.lookup z with
      | some t => .str t
      | none => frz x)
    | _ => .bad) Q _) _ := Post.bind r.al p
  refine Calls.callWith_builtin rfl (Calls.evalArgs_plain (Calls.spliced_cons (thn (he.run pins s σ H _ I ⟨ρ, W, r, p1⟩) fun u s1 ⟨y, H1, I1, ry, d, x1, o1, p2⟩ => ?_)))
  cases d with
  | str z =>
    have ey : y = .str z := o1.1
    subst ey
    have r1 := r.ext1 x1
    have p3 := Post.bind (r := fx ρ) (g := fun x => .ok (match kvs.lookup z with
      | some t => .str t
      | none => frz x)) r1.al p2
    refine Calls.spliced_cons (thn (hf.run pins s1 σ H1 _ I1 ⟨ρ, W, r1, p3⟩) fun u2 s2 ⟨y2, H2, I2, ry2, d2, x2, o2, p4⟩ => Calls.spliced_nil ?_)
    obtain ⟨t, rfl⟩ := ry
    obtain ⟨rr, e1, e2⟩ := hget z
    refine call_meetsIn PySem.F.slot_dict_get (mof I2.kIn).typeIs PySem.F.entry_dict_get (PySem.F.args_dict_get_3 _ _ _) (meets_dict_get_default (PySem.strKind X.prog X.w) _ (PySem.strKind_is X.prog X.w z t) kd.low u2) ⟨_, mof I2.kIn, ?_⟩
    rw [PySem.W.find_K kd.at_ e1]
    cases hl : kvs.lookup z with
    | some t2 =>
      rw [hl] at e2 p4
      obtain ⟨tk, e2⟩ := e2
      subst e2
      exact ⟨.str t2, H2, I2.tok _, ⟨_, rfl⟩, Post.same (C := Cn.of X T) p4 ⟨rfl, rfl⟩⟩
    | none =>
      rw [hl] at e2 p4
      subst e2
      exact ⟨y2, H2, I2.tok _, ry2, Post.same (C := Cn.of X T) p4 o2⟩
  | _ => exact p2.elim
end
end De
set_option Elab.async false
set_option linter.all false
set_option maxRecDepth 100000
namespace De
open PySem PySem.Spec PyProof.Rows L2

abbrev vr (i : Nat) : Env → Res D := fun ρ => get ρ i
abbrev cI (i : Int) : Env → Res D := fun _ => .ok (.int i)
abbrev cS (s : Str) : Env → Res D := fun _ => .ok (.str s)
abbrev cB (b : Bool) : Env → Res D := fun _ => .ok (.bl b)
abbrev cN : Env → Res D := fun _ => .ok .non
abbrev cT (n : String) : Env → Res D := fun _ => .ok (.ty n)
abbrev WxF : WX := fun _ _ _ _ => False
theorem dt_of {X : Cx} {T : List (Addr × Str)} {M : List Nat} {Wx : WX} {e : Expr} {f : Env → Res Bool} (h : PW X e (tDB (Cn.of X T) M Wx f)) : DT X T M Wx e f := h.pt
theorem takesF {X : Cx} : Takes X WxF := fun u s' ⟨a, B, sI, pins, σ, H, cls, d, e, I, nb, up, sky, na, os, ag, w⟩ => w.elim
section
variable {X : Cx} {T : List (Addr × Str)} {M : List Nat} {Wx : WX} {pos op apos cpos : Pos} {e : Expr}
theorem ds_app {x : Str} {i : Nat} {f : Env → Res D} (M : List Nat) (hi : X.N[i]? = some x) (he : DE X T M Wx e f) (hv : Vis X.env.scope x := by first | exact Or.inl rfl | exact Or.inr (Or.inl rfl) | exact Or.inr (Or.inr rfl)) (hd : (x == ("__debug__" : Str)) = false := by decide) (hcd : (x == ("__classdict__" : Str)) = false := by decide)
    (hbase : attributeBase (.Name x op) "append" X.env (eval (.Name x op) X.env) = eval (.Name x op) X.env := by rfl)
    (hfew : ((backTo cpos (starEach [e] X.env)).all (fun x => !x.1) && (backToKw cpos (keywordEach [] X.env)).all (fun x => x.1.isSome)
      && decide (([e] : List Expr).length + ([] : List Keyword).length + (if ([] : List Keyword).isEmpty then 0 else 1) < 30)) = true := by rfl)
    (hline : (apos.endLine == cpos.line) = true := by rfl) (hst : starEach [e] X.env = (false, eval e X.env) :: starEach [] X.env := by rfl)
    (hs : swapsWith (.Call (.Attribute (.Name x op) "append" apos) [e] [] cpos) none pos.line X.env = pure false := by rfl) :
    DS X T Wx (.Expr (.Call (.Attribute (.Name x op) "append" apos) [e] [] cpos) pos) (mutS M i f gApp) :=
  ds_append (pe_bm PySem.F.plainAttrs_list PySem.F.slot_list_append PySem.F.type_list_append mt_append (pe_var hi hv hd hcd) (pa_cons he pa_nil hst) hbase hfew hline hst rfl) hs
end
section
variable {P : Program} {w : World} {K : PySem.W.Frag} {mg : Str → Option Value} {base : Heap} {T : List (Addr × Str)}
/-- a def that calls itself, by fuel -/
def recF (s : (List D → Res D) → Env → Out) (n : Nat) : Nat → List D → Res D
  | 0 => fun _ => .bad
  | k + 1 => runF (s (recF s n k)) n
theorem FnS.mkR {x : Str} {params : Arguments} {body : List Stmt} {scope : Scope} {N ps : List Str} {k n : Nat} {s : (List D → Res D) → Env → Out} (G : ∃ fd, FunD K x x params body scope [] [] (He.ga K x) fd) (m : mg x = some (.ref (He.ga K x))) (S : FnScope N ps scope)
    (hbi : ∀ (kV doc pm : Value) (an : Option Addr) (cdv ct : Value) (us : List Value), us.length = ps.length → bindArgs (PySem.W.fnOf x x params body scope .none kV doc pm an cdv ct) ⟨us, []⟩ = pure (ps.zip us)) (hn : N.length = n)
    (hb : ∀ (j : Nat) (F : List D → Res D), FnS P w K mg base T x ps j F → k ≤ j → ∀ (cdv : Value) (A : Around) (outer : List PySem.Env) (s0 : Shared) (H : Hp) (E : XK), Room j (A.deeper (envOfC x scope s0.heap.objs.size (He.ga K x) cdv)) → DSs (cxOf (L2.CX P w) P w K mg base N x scope (He.ga K x) cdv A outer s0 H E) T (fun c o _ H => E c o H) body (s F))
    (r : Nat) : FnS P w K mg base T x ps (k + r + 1) (recF s n r) := by
  have G0 := G
  obtain ⟨fd, G⟩ := G
  subst hn
  have hpl : ps.length ≤ N.length := by rw [← congrArg List.length S.pre, List.length_take]; exact Nat.min_le_right ..
  induction r with
  | zero =>
    exact ⟨⟨fd, fn_ok (s := badS) G S (fun cdv A outer s0 H E hr => ⟨fun pins s σ H' D I ⟨ρ, He, Wf, P', rl, q⟩ => q.elim⟩) fun ds _ => .inr rfl, G.bindsN hbi, G.look⟩, m, G.kp⟩
  | succ r ih => exact FnS.mk1 G0 m S hbi rfl (hb _ _ ih (by omega))
end
end De
set_option Elab.async false
set_option linter.all false
set_option maxRecDepth 100000
namespace De
open PySem PySem.Spec PyProof.Rows L2

theorem owns_intsD {K : PySem.W.Frag} {W : Wd} {H : Hp} : ∀ ns : List Int, Owns K W H (ns.map V.int) (ns.map D.int) []
  | [] => ⟨rfl, rfl⟩
  | s :: ss => ⟨.int s, ss.map V.int, [], [], rfl, rfl, ⟨rfl, rfl⟩, owns_intsD ss⟩
/-- the promise of the law at a script -/
theorem law_sp {K : PySem.W.Frag} {T : List (Addr × Str)} {mg : Str → Option Value} {F : List D → Res D} {H : Hp} {a : Addr} {ns : List Int} {E : XK} (hS : SqL K H a (ns.map V.int)) (hT : LamX.Tabs T H) (hF : F [.rol (ns.map D.int)] = .ok (.bl true)) :
    spD ⟨K, T, mg⟩ 1 F [.ref a] H (fun v _ => v = .bl true) E := by
  refine ⟨[.rol (ns.map D.int)], fun _ => False, fun _ h => h.elim, hT, Owns.one ⟨a, ns.map V.int, rfl, owns_intsD ns, rfl, hS.imp (fun r => ⟨r, fun z => z⟩) .inr⟩, rfl, ?_⟩
  rw [hF]
  exact fun v H' A x n nd o => o.1
theorem cx_no {P : Program} {w : World} {outer : List PySem.Env} {H : Hp} {s : Shared} {u : Value} {s' : Shared} (h : L2.CX P w outer H s (fun _ _ _ => False) u s') : False := by
  obtain ⟨a, B, H', cls, d, e1, e2, e3, e4, e5, e6, e7, e8⟩ := h
  exact e8
end De
set_option Elab.async false
set_option linter.all false
set_option maxRecDepth 100000
namespace De
open PySem PySem.Spec PyProof.Rows L2

/-! ### reckoning with the readings -/
theorem rb_ok {α β : Type} (a : α) (f : α → Res β) : (Res.ok a).bind f = f a := rfl
theorem get0 (d : D) (ρ : Env) : get (some d :: ρ) 0 = .ok (frz d) := rfl
theorem getS (o : Option D) (ρ : Env) (n : Nat) : get (o :: ρ) (n + 1) = get ρ n := rfl
theorem lift_some {α : Type} (a : α) : lift (some a) = .ok a := rfl
theorem frz_non : frz .non = .non := rfl
theorem frz_bl (b : Bool) : frz (.bl b) = .bl b := rfl
theorem frz_int (b : Int) : frz (.int b) = .int b := rfl
theorem frz_str (b : Str) : frz (.str b) = .str b := rfl
theorem frz_ty (b : String) : frz (.ty b) = .ty b := rfl
theorem frz_lst (o : Bool) (ds : List D) : frz (.lst o ds) = .lst false (frzs ds) := rfl
theorem frz_tup (ds : List D) : frz (.tup ds) = .tup (frzs ds) := rfl
theorem frz_rol (ds : List D) : frz (.rol ds) = .rol (frzs ds) := rfl
theorem frzs_nil : frzs [] = [] := rfl
theorem frzs_cons (d : D) (ds : List D) : frzs (d :: ds) = frz d :: frzs ds := rfl
theorem frzs_app (ds es : List D) : frzs (ds ++ es) = frzs ds ++ frzs es := by rw [frzs_eq, frzs_eq, frzs_eq, List.map_append]
theorem frzs_ints (ns : List Int) : frzs (ns.map D.int) = ns.map D.int := by rw [frzs_eq, List.map_map]; rfl
theorem frzs_strs (ns : List Str) : frzs (ns.map D.str) = ns.map D.str := by rw [frzs_eq, List.map_map]; rfl
theorem frzs_len (ds : List D) : (frzs ds).length = ds.length := by rw [frzs_eq, List.length_map]
theorem afs_cons (d : D) (ds : List D) : af.afs (d :: ds) = (af d && af.afs ds) := rfl
theorem afs_ints (ns : List Int) : af.afs (ns.map D.int) = true := by induction ns with
  | nil => rfl
  | cons n ns ih => show (true && af.afs (ns.map D.int)) = true; rw [ih]; rfl
theorem afs_strs (ns : List Str) : af.afs (ns.map D.str) = true := by induction ns with
  | nil => rfl
  | cons n ns ih => show (true && af.afs (ns.map D.str)) = true; rw [ih]; rfl
theorem frzs_bls {α : Type} (p : α → Bool) (l : List α) : frzs (l.map fun x => D.bl (p x)) = l.map fun x => D.bl (p x) := by rw [frzs_eq, List.map_map]; rfl
theorem bls_map {α : Type} (p : α → Bool) : ∀ l : List α, bls (l.map fun x => D.bl (p x)) = some (l.map p)
  | [] => rfl
  | a :: l => by show (bls (l.map fun x => D.bl (p x))).map (p a :: ·) = _; rw [bls_map p l]; rfl
theorem dAll_map {α : Type} (o : Bool) (p : α → Bool) (l : List α) : dAll (.lst o (l.map fun x => D.bl (p x))) = some (.bl (l.all p)) := by
  show (bls (l.map fun x => D.bl (p x))).map _ = _
  rw [bls_map]
  show some (D.bl ((l.map p).all id)) = _
  rw [List.all_map]; rfl
theorem dAny_map {α : Type} (o : Bool) (p : α → Bool) (l : List α) : dAny (.lst o (l.map fun x => D.bl (p x))) = some (.bl (l.any p)) := by
  show (bls (l.map fun x => D.bl (p x))).map _ = _
  rw [bls_map]
  show some (D.bl ((l.map p).any id)) = _
  rw [List.any_map]; rfl
theorem all_tt {α : Type} (l : List α) : (l.all fun _ => true) = true := by simp
theorem env0_eq (n : Nat) (ds : List D) : env0 n ds = ds.map some ++ List.replicate (n - ds.length) none := rfl
/-- a comprehension whose test is always yes -/
theorem lcGo_map {tg : Tg} {tt : Env → Res Bool} {te : Env → Res D} {ρ : Env} (f : D → D) : ∀ (ds : List D), (∀ d ∈ ds, ∃ ρ', tg.bind d ρ = some ρ' ∧ tt ρ' = .ok true ∧ te ρ' = .ok (f d)) → lcGo tg tt te ρ ds = some (ds.map f)
  | [], _ => rfl
  | d :: ds, h => by
    obtain ⟨ρ', h1, h2, h3⟩ := h d (List.mem_cons_self ..)
    have ih := lcGo_map f ds fun d hd => h d (List.mem_cons_of_mem _ hd)
    unfold lcGo
    rw [h1]
    dsimp only
    rw [h2]
    dsimp only
    rw [h3, ih]
    rfl
/-- a comprehension with a test -/
theorem lcGo_filter {tg : Tg} {tt : Env → Res Bool} {te : Env → Res D} {ρ : Env} (p : D → Bool) (f : D → D) : ∀ (ds : List D), (∀ d ∈ ds, ∃ ρ', tg.bind d ρ = some ρ' ∧ tt ρ' = .ok (p d) ∧ (p d = true → te ρ' = .ok (f d))) → lcGo tg tt te ρ ds = some ((ds.filter p).map f)
  | [], _ => rfl
  | d :: ds, h => by
    obtain ⟨ρ', h1, h2, h3⟩ := h d (List.mem_cons_self ..)
    have ih := lcGo_filter p f ds fun d hd => h d (List.mem_cons_of_mem _ hd)
    unfold lcGo
    rw [h1]
    dsimp only
    rw [h2]
    cases hp : p d with
    | true =>
      dsimp only
      rw [h3 hp, ih, List.filter_cons, if_pos hp]
      rfl
    | false =>
      dsimp only
      rw [ih, List.filter_cons, if_neg (by rw [hp]; decide)]
theorem lcGo_mapped {α : Type} {tg : Tg} {tt : Env → Res Bool} {te : Env → Res D} {ρ : Env} (emb g : α → D) (l : List α) (h : ∀ a ∈ l, ∃ ρ', tg.bind (emb a) ρ = some ρ' ∧ tt ρ' = .ok true ∧ te ρ' = .ok (g a)) : lcGo tg tt te ρ (l.map emb) = some (l.map g) := by
  induction l with
  | nil => rfl
  | cons d ds ih =>
    obtain ⟨ρ', h1, h2, h3⟩ := h d (List.mem_cons_self ..)
    rw [List.map_cons]
    unfold lcGo
    rw [h1]
    dsimp only
    rw [h2]
    dsimp only
    rw [h3, ih fun a ha => h a (List.mem_cons_of_mem _ ha)]
    rfl
theorem lcGo_rng {tg : Tg} {tt : Env → Res Bool} {te : Env → Res D} {ρ : Env} (g : Nat → D) (lo : Int) (n : Nat) (h : ∀ i, i < n → ∃ ρ', tg.bind (.int (lo + (i : Nat))) ρ = some ρ' ∧ tt ρ' = .ok true ∧ te ρ' = .ok (g i)) : lcGo tg tt te ρ (rngD lo n) = some ((List.range n).map g) :=
  lcGo_mapped (fun i : Nat => D.int (lo + (i : Nat))) g (List.range n) fun i hi => h i (List.mem_range.mp hi)
theorem dIx_lst (xs : List D) (i : Int) : dIx (.lst false xs) (.int i) = L2.atI xs i := rfl
theorem dIx_rol (xs : List D) (i : Int) : dIx (.rol xs) (.int i) = L2.atI xs i := rfl
theorem dIx_tup (xs : List D) (i : Int) : dIx (.tup xs) (.int i) = L2.atI xs i := rfl
theorem dIx_str (z : Str) (i : Int) : dIx (.str z) (.int i) = if szOk z.length then (L2.atI z.cps.toList i).map fun c => D.str ⟨#[c]⟩ else none := rfl
theorem strsD_map : ∀ l : List Str, strsD (l.map D.str) = some l
  | [] => rfl
  | a :: l => by show (strsD (l.map D.str)).map (a :: ·) = _; rw [strsD_map l]; rfl
theorem intsD_map : ∀ l : List Int, intsD (l.map D.int) = some l
  | [] => rfl
  | a :: l => by show (intsD (l.map D.int)).map (a :: ·) = _; rw [intsD_map l]; rfl
theorem cutL_from {α : Type} (xs : List α) (k : Nat) : cutL xs (some (k : Int)) none = xs.drop k := by
  unfold cutL
  rw [HT.sIx_nat, HT.sIx_none]
  by_cases h : k ≤ xs.length
  · rw [Nat.min_eq_left h, List.take_of_length_le (by rw [List.length_drop]; omega)]
  · rw [Nat.min_eq_right (by omega), List.drop_of_length_le (Nat.le_refl _), List.drop_of_length_le (by omega)]; simp
theorem cutL_to {α : Type} (xs : List α) (k : Nat) : cutL xs none (some (k : Int)) = xs.take k := by
  unfold cutL
  rw [HT.sIx_nat, HT.sIx_none, List.drop_zero, Nat.sub_zero]
  by_cases h : k ≤ xs.length
  · rw [Nat.min_eq_left h]
  · rw [Nat.min_eq_right (by omega), List.take_of_length_le (Nat.le_refl _), List.take_of_length_le (by omega)]
theorem dSl_from (xs : List D) (k : Nat) : dSl (.lst false xs) (some (k : Int)) none = some (.lst true (xs.drop k)) := by
  show some (D.lst true (cutL xs (some (k : Int)) none)) = _
  rw [cutL_from]
theorem dSl_1 (xs : List D) : dSl (.lst false xs) (some 1) none = some (.lst true (xs.drop 1)) := dSl_from xs 1
theorem prs_map {α : Type} (f g : α → D) : ∀ l : List α, prs (l.map f) (l.map g) = l.map fun a => .tup [f a, g a]
  | [] => rfl
  | a :: l => by show D.tup [f a, g a] :: prs (l.map f) (l.map g) = _; rw [prs_map f g l]; rfl
/-- a loop without an early end: the state told by a -/
theorem forGo_fold {α : Type} {tg : Tg} {body : Env → Out} (env : α → Env) (step : α → D → α) : ∀ (ds : List D) (a : α), (∀ (pre : List D) (d : D) (post : List D), ds = pre ++ d :: post → ∃ ρ1, tg.bind d (env (pre.foldl step a)) = some ρ1 ∧ (body ρ1 = .nx (env (step (pre.foldl step a) d)) ∨ body ρ1 = .ct (env (step (pre.foldl step a) d)))) → forGo tg body ds (env a) = .nx (env (ds.foldl step a))
  | [], _, _ => rfl
  | d :: ds, a, h => by
    obtain ⟨ρ1, h1, h2⟩ := h [] d ds rfl
    unfold forGo
    rw [show tg.bind d (env a) = some ρ1 from h1]
    have ih := forGo_fold env step ds (step a d) fun pre e post he => h (d :: pre) e post (by rw [he]; rfl)
    rcases h2 with h2 | h2
    · dsimp only
      rw [show body ρ1 = .nx (env (step a d)) from h2]
      exact ih
    · dsimp only
      rw [show body ρ1 = .ct (env (step a d)) from h2]
      exact ih
/-- a loop by an invariant -/
theorem forGo_inv {tg : Tg} {body : Env → Out} (I : List D → Env → Prop) : ∀ (ds pre : List D) (ρ : Env), I pre ρ → (∀ (pre : List D) (d : D) (ρ : Env), I pre ρ → d ∈ ds → ∃ ρ1 ρ2, tg.bind d ρ = some ρ1 ∧ (body ρ1 = .nx ρ2 ∨ body ρ1 = .ct ρ2) ∧ I (pre ++ [d]) ρ2) → ∃ ρ', forGo tg body ds ρ = .nx ρ' ∧ I (pre ++ ds) ρ'
  | [], pre, ρ, hi, _ => ⟨ρ, rfl, by rw [List.append_nil]; exact hi⟩
  | d :: ds, pre, ρ, hi, h => by
    obtain ⟨ρ1, ρ2, h1, h2, h3⟩ := h pre d ρ hi (List.mem_cons_self ..)
    obtain ⟨ρ', e, hj⟩ := forGo_inv I ds (pre ++ [d]) ρ2 h3 fun pre e ρ hi he => h pre e ρ hi (List.mem_cons_of_mem _ he)
    refine ⟨ρ', ?_, by rw [List.append_assoc] at hj; exact hj⟩
    unfold forGo
    rw [h1]
    dsimp only
    rcases h2 with h2 | h2
    · rw [h2]; exact e
    · rw [h2]; exact e
theorem forGo_all {tg : Tg} {body : Env → Out} (I : List D → Env → Prop) (all : List D) {ρ : Env} (hi : I [] ρ) (h : ∀ (pre : List D) (d : D) (post : List D) (ρ : Env), I pre ρ → all = pre ++ d :: post → ∃ ρ1 ρ2, tg.bind d ρ = some ρ1 ∧ (body ρ1 = .nx ρ2 ∨ body ρ1 = .ct ρ2) ∧ I (pre ++ [d]) ρ2) :
    ∃ ρ', forGo tg body all ρ = .nx ρ' ∧ I all ρ' := by
  have key : ∀ (ds pre : List D) (ρ : Env), all = pre ++ ds → I pre ρ → ∃ ρ', forGo tg body ds ρ = .nx ρ' ∧ I all ρ' := by
    intro ds
    induction ds with
    | nil => intro pre ρ e hi; rw [List.append_nil] at e; subst e; exact ⟨ρ, rfl, hi⟩
    | cons d ds ih =>
      intro pre ρ e hi
      obtain ⟨ρ1, ρ2, h1, h2, h3⟩ := h pre d ds ρ hi e
      obtain ⟨ρ', e2, hj⟩ := ih (pre ++ [d]) ρ2 (by rw [e, List.append_assoc]; rfl) h3
      refine ⟨ρ', ?_, hj⟩
      unfold forGo
      rw [h1]
      dsimp only
      rcases h2 with h2 | h2
      · rw [h2]; exact e2
      · rw [h2]; exact e2
  exact key all [] ρ rfl hi
end De
set_option Elab.async false
set_option linter.all false
set_option maxRecDepth 100000
namespace De
open PySem PySem.Spec PyProof.Rows L2

/-! ### bits -/
def dShl : D → D → Option D := dI fun i j => if 0 ≤ j ∧ j ≤ 1000000 ∧ i.natAbs < 18446744073709551616 then some (.int (i * 2 ^ j.toNat)) else none
def dShr : D → D → Option D := dI fun i j => if 0 ≤ j then some (.int (i / 2 ^ j.toNat)) else none
def dBand : D → D → Option D := dI fun i j => some (.int (Builtin.bitAnd i j))
def dBor : D → D → Option D := dI fun i j => some (.int (Builtin.bitOr i j))
def dBxor : D → D → Option D := dI fun i j => some (.int (Builtin.bitXor i j))
def dInv : D → Option D
  | .int i => some (.int (Builtin.bitNot i))
  | _ => none
section
variable {X : Cx} {T : List (Addr × Str)}
/-- a rule of ints under a condition, by data -/
theorem ints_ok {f : Value → Value → Sem Value} {c : Int → Int → Prop} {v : Int → Int → Int} {g : Int → Int → Option D} (h : OpR X f (rI c fun i j => .int (v i j))) (hg : ∀ i j d, g i j = some d → c i j ∧ d = .int (v i j)) : OpR X f (r2D (Cn.of X T) (dI g)) := by
  intro pins s σ H x y a b Q I rx ry ⟨W, d, e, al, tb, ox, oy, q⟩
  obtain ⟨i, j, rfl, rfl, q2⟩ := dI_inv q
  cases hz : g i j with
  | none => rw [hz] at q2; exact q2.elim
  | some z =>
    rw [hz] at q2
    obtain ⟨hc, rfl⟩ := hg i j z hz
    exact h pins s σ H x y a b Q I rx ry ⟨i, j, ox.1, oy.1, hc, RD.int (C := Cn.of X T) (W := W) q2⟩
theorem ints0_ok {f : Value → Value → Sem Value} {v : Int → Int → Int} (h : OpR X f (rI0 fun i j => .int (v i j))) : OpR X f (r2D (Cn.of X T) (dI fun i j => some (.int (v i j)))) := by
  intro pins s σ H x y a b Q I rx ry ⟨W, d, e, al, tb, ox, oy, q⟩
  obtain ⟨i, j, rfl, rfl, q2⟩ := dI_inv q
  exact h pins s σ H x y a b Q I rx ry ⟨i, j, ox.1, oy.1, RD.int (C := Cn.of X T) (W := W) q2⟩
theorem if_some {p : Prop} [Decidable p] {a d : D} (h : (if p then some a else none) = some d) : p ∧ d = a := by
  split at h
  · rename_i k; exact ⟨k, (Option.some.inj h).symm⟩
  · cases h
theorem band_ok : OpR X (binaryOp .BitAnd) (r2D (Cn.of X T) dBand) := ints0_ok op_and
theorem bor_ok : OpR X (binaryOp .BitOr) (r2D (Cn.of X T) dBor) := ints0_ok op_or
theorem bxor_ok : OpR X (binaryOp .BitXor) (r2D (Cn.of X T) dBxor) := ints0_ok op_xor
theorem shl_ok : OpR X (binaryOp .LShift) (r2D (Cn.of X T) dShl) := ints_ok op_shl fun i j d h => by
  obtain ⟨⟨h1, h2, h3⟩, e⟩ := if_some h
  exact ⟨⟨h1, h2, by omega⟩, e⟩
theorem shr_ok : OpR X (binaryOp .RShift) (r2D (Cn.of X T) dShr) := ints_ok op_shr fun i j d h => if_some h
theorem inv_ok : UnR X (unaryOp .Invert) (r1D (Cn.of X T) dInv) := by
  intro pins s σ H x v Q I rx ⟨W, d, al, tb, ox, q⟩
  cases d with
  | int i => exact un_inv pins s σ H x v Q I rx ⟨i, ox.1, q.int⟩
  | _ => exact q.elim
/-! ### x op= e of ints -/
def dAddI : D → D → Option D := dI fun i j => some (.int (i + j))
theorem iadd_ok : OpR X (inplaceOp .Add) (r2D (Cn.of X T) dAddI) := ints0_ok iop_add
theorem isub_ok : OpR X (inplaceOp .Sub) (r2D (Cn.of X T) dSub) := ints0_ok iop_sub
theorem ibor_ok : OpR X (inplaceOp .BitOr) (r2D (Cn.of X T) dBor) := ints0_ok iop_or
theorem iband_ok : OpR X (inplaceOp .BitAnd) (r2D (Cn.of X T) dBand) := ints0_ok iop_and
end
section
variable {X : Cx} {T : List (Addr × Str)} {M : List Nat} {Wx : WX} {pos pos' : Pos} {e : Expr}
theorem aug_read {g : D → D → Option D} {i : Nat} {f : Env → Res D} {E : Ends} {σ : L2.St} {H : Hp} (hM : i ∈ M) (h : tS (Cn.of X T) Wx (asgS M i (op2 g (fun ρ => get ρ i) f)) E σ H) : tAug i (tD (Cn.of X T) M Wx f) (r2D (Cn.of X T) g) E σ H := by
  obtain ⟨ρ, He, Wf, P, ⟨foot, r⟩, q⟩ := h
  unfold asgS op2 at q
  have q : PostS (Cn.of X T) He Wf P (match (get ρ i).bind fun x => (f ρ).bind fun y => lift (g (frz x) (frz y)) with
    | .ok d => .nx (if af d = true then ρ.set i (some d) else (frzM M ρ).set i (some d))
    | .ex e => .ex e ρ
    | .bad => .bad) E Wx := q
  have R := r.rel M
  cases hg : get ρ i with
  | ex e' => unfold get at hg; split at hg <;> cases hg
  | bad => rw [hg] at q; exact q.elim
  | ok d0 =>
  rw [hg] at q
  have hd : ∃ d, ρ[i]? = some (some d) ∧ d0 = frz d := by
    unfold get at hg
    split at hg
    · rename_i d hd; exact ⟨d, hd, (Res.ok.inj hg).symm⟩
    · cases hg
  obtain ⟨d, hd, rfl⟩ := hd
  obtain ⟨v, hv, ov⟩ := R.v i hM d hd
  refine ⟨v, hv, ρ, _, R, ?_⟩
  cases hf : f ρ with
  | ex e' => rw [hf] at q; exact fun c o H' x y => q c o σ H' ⟨foot, r.ext1 x⟩ y
  | bad => rw [hf] at q; exact q
  | ok y0 =>
  rw [hf] at q
  intro y H1 A x n nd o
  have R1 := R.ext1 x
  have o1 : Own X.K (wdM Wf foot M) H1 y (frz y0) [] := o.frz (fun a h => .inl h) _ fun a ha z => n a ha (R.al a z)
  refine ⟨_, _, _, R1.al, R1.tb, ov.ext x (fun a h => .inl h) _, o1, ?_⟩
  have q : PostS (Cn.of X T) He Wf P (match (lift (g (frz (frz d)) (frz y0)) : Res D) with
    | .ok d => .nx (if af d = true then ρ.set i (some d) else (frzM M ρ).set i (some d))
    | .ex e => .ex e ρ
    | .bad => .bad) E Wx := q
  rw [frz_frz] at q
  cases hz : g (frz d) (frz y0) with
  | none => rw [hz] at q; exact q.elim
  | some z =>
    rw [hz] at q
    intro zv H2 B x2 n2 nd2 oz
    exact q _ H2 (r.asg (x.trans x2) (fun a ha k => n2 a ha (k.ext x)) nd2 oz)
theorem ds_aug {x : Str} {i : Nat} {op : Operator} {g : D → D → Option D} {f : Env → Res D} (M : List Nat) (ho : OpR X (inplaceOp op) (r2D (Cn.of X T) g)) (hN : X.N.Nodup) (hi : X.N[i]? = some x) (hx : Loc X.env.scope x) (he : DE X T M Wx e f) (hM : i ∈ M := by decide)
    (hf : X.fn x = true ∨ X.env.scope.names.lookup x = some .local := by first | exact .inl rfl | exact .inr rfl | assumption) : DS X T Wx (.AugAssign (.Name x pos') op e pos) (asgS M i (op2 g (fun ρ => get ρ i) f)) :=
  ps_weak (ps_aug hN hi hx he ho hf) fun E σ H h => aug_read hM h
end
/-! ### sum, min, max of ints -/
section
variable {X : Cx} {T : List (Addr × Str)}
def dSum : D → Option D
  | .lst _ ds => (intsD ds).map fun ns => .int ns.sum
  | _ => none
theorem sum_ok (hc : X.calm = true) : CallR X (.builtin "sum") (rsD (Cn.of X T) (g1 dSum)) := by
  intro pins s σ H xs us Q I r ⟨W, ds, al, tb, os, qs⟩
  obtain ⟨d, rfl, q⟩ := g1_inv qs
  obtain ⟨v, rfl, o⟩ := owns_1 (C := Cn.of X T) os
  cases d with
  | lst b es =>
    obtain ⟨a, vs, e, h1, B, h2⟩ := own_list (C := Cn.of X T) o
    have q : RD (Cn.of X T) W H ((intsD es).map fun ns => .int ns.sum) Q := q
    cases hn : intsD es with
    | none => rw [hn] at q; exact q.elim
    | some ns =>
      rw [hn] at q
      subst e
      exact cr_sum hc pins s σ H _ us Q I r ⟨a, ns, rfl, by rw [← owns_ints h2 hn]; exact h1, RD.int q⟩
  | _ => exact q.elim
def dMin2 : D → D → Option D := dI fun i j => some (.int (if j < i then j else i))
def dMax2 : D → D → Option D := dI fun i j => some (.int (if j > i then j else i))
theorem min2_ok (hc : X.calm = true) : CallR X (.builtin "min") (rsD (Cn.of X T) (g2 dMin2)) := by
  intro pins s σ H xs us Q I r ⟨W, ds, al, tb, os, qs⟩
  obtain ⟨d, e, rfl, q⟩ := g2_inv qs
  obtain ⟨v, w, rfl, o1, o2⟩ := owns_2 (C := Cn.of X T) os
  obtain ⟨i, j, rfl, rfl, q2⟩ := dI_inv q
  exact call_min2 hc pins s σ H _ us Q I r ⟨i, j, by rw [o1.1, o2.1], RD.int (C := Cn.of X T) (W := W) q2⟩
theorem max2_ok (hc : X.calm = true) : CallR X (.builtin "max") (rsD (Cn.of X T) (g2 dMax2)) := by
  intro pins s σ H xs us Q I r ⟨W, ds, al, tb, os, qs⟩
  obtain ⟨d, e, rfl, q⟩ := g2_inv qs
  obtain ⟨v, w, rfl, o1, o2⟩ := owns_2 (C := Cn.of X T) os
  obtain ⟨i, j, rfl, rfl, q2⟩ := dI_inv q
  exact call_max2 hc pins s σ H _ us Q I r ⟨i, j, by rw [o1.1, o2.1], RD.int (C := Cn.of X T) (W := W) q2⟩
/-- the least, the greatest of some -/
def leastI : List Int → Option Int
  | [] => none
  | a :: l => some (l.foldl (fun m x => if x < m then x else m) a)
def mostI : List Int → Option Int
  | [] => none
  | a :: l => some (l.foldl (fun m x => if m < x then x else m) a)
theorem leastI_is {l : List Int} {m : Int} (h : leastI l = some m) {k : Int} (hk : k ∈ l) (hl : ∀ y ∈ l, k ≤ y) : k = m := by
  cases l with
  | nil => cases h
  | cons a l =>
    have key : ∀ (l : List Int) (b : Int), (l.foldl (fun m x => if x < m then x else m) b ≤ b ∧ ∀ y ∈ l, l.foldl (fun m x => if x < m then x else m) b ≤ y) ∧ (l.foldl (fun m x => if x < m then x else m) b = b ∨ l.foldl (fun m x => if x < m then x else m) b ∈ l) := by
      intro l
      induction l with
      | nil => intro b; exact ⟨⟨Int.le_refl _, fun y hy => by cases hy⟩, .inl rfl⟩
      | cons c l ih =>
        intro b
        obtain ⟨⟨h1, h2⟩, h3⟩ := ih (if c < b then c else b)
        rw [List.foldl_cons]
        have hb : (if c < b then c else b) ≤ b ∧ (if c < b then c else b) ≤ c := by split <;> omega
        refine ⟨⟨Int.le_trans h1 hb.1, fun y hy => ?_⟩, ?_⟩
        · rcases List.mem_cons.mp hy with rfl | hy
          · exact Int.le_trans h1 hb.2
          · exact h2 y hy
        · rcases h3 with h3 | h3
          · rw [h3]
            split
            · exact .inr (List.mem_cons_self ..)
            · exact .inl rfl
          · exact .inr (List.mem_cons_of_mem _ h3)
    obtain ⟨⟨h1, h2⟩, h3⟩ := key l a
    have e : l.foldl (fun m x => if x < m then x else m) a = m := Option.some.inj h
    rw [e] at h1 h2 h3
    have m1 : m ∈ a :: l := by rcases h3 with h | h; rw [h]; exact List.mem_cons_self ..; exact List.mem_cons_of_mem _ h
    have m2 : ∀ y ∈ a :: l, m ≤ y := fun y hy => by rcases List.mem_cons.mp hy with rfl | hy; exact h1; exact h2 y hy
    exact Int.le_antisymm (hl m m1) (m2 k hk)
theorem mostI_neg : ∀ (l : List Int) (a : Int), l.foldl (fun m x => if m < x then x else m) a = -((l.map (- ·)).foldl (fun m x => if x < m then x else m) (-a))
  | [], a => by simp
  | c :: l, a => by
    rw [List.foldl_cons, mostI_neg l, List.map_cons, List.foldl_cons]
    congr 2
    by_cases h : a < c
    · rw [if_pos h, if_pos (by omega)]
    · rw [if_neg h, if_neg (by omega)]
theorem mostI_is {l : List Int} {m : Int} (h : mostI l = some m) {k : Int} (hk : k ∈ l) (hl : ∀ y ∈ l, y ≤ k) : k = m := by
  have e : leastI (l.map (- ·)) = some (-m) := by
    cases l with
    | nil => cases h
    | cons a l =>
      have h : l.foldl (fun m x => if m < x then x else m) a = m := Option.some.inj h
      rw [mostI_neg] at h
      show some ((l.map (- ·)).foldl (fun m x => if x < m then x else m) (-a)) = _
      rw [← h, Int.neg_neg]
  have := leastI_is e (k := -k) (List.mem_map.mpr ⟨k, hk, rfl⟩) fun y hy => by
    obtain ⟨z, hz, rfl⟩ := List.mem_map.mp hy
    have := hl z hz; omega
  omega
def dMinL : D → Option D
  | .lst _ ds => (intsD ds).bind fun ns => (leastI ns).map .int
  | _ => none
def dMaxL : D → Option D
  | .lst _ ds => (intsD ds).bind fun ns => (mostI ns).map .int
  | _ => none
theorem minL_ok (hc : X.calm = true) : CallR X (.builtin "min") (rsD (Cn.of X T) (g1 dMinL)) := by
  intro pins s σ H xs us Q I r ⟨W, ds, al, tb, os, qs⟩
  obtain ⟨d, rfl, q⟩ := g1_inv qs
  obtain ⟨v, rfl, o⟩ := owns_1 (C := Cn.of X T) os
  cases d with
  | lst b es =>
    obtain ⟨a, vs, e, h1, B, h2⟩ := own_list (C := Cn.of X T) o
    have q : RD (Cn.of X T) W H ((intsD es).bind fun ns => (leastI ns).map .int) Q := q
    cases hn : intsD es with
    | none => rw [hn] at q; exact q.elim
    | some ns =>
      rw [hn] at q
      have q : RD (Cn.of X T) W H ((leastI ns).map .int) Q := q
      cases hm : leastI ns with
      | none => rw [hm] at q; exact q.elim
      | some m =>
        rw [hm] at q
        subst e
        refine cr_min hc pins s σ H _ us Q I r ⟨a, ns, rfl, by rw [← owns_ints h2 hn]; exact h1, ?_, fun k k1 k2 => by rw [leastI_is hm k1 k2]; exact RD.int q⟩
        cases ns with
        | nil => cases hm
        | cons _ _ => exact Nat.succ_pos _
  | _ => exact q.elim
theorem maxL_ok (hc : X.calm = true) : CallR X (.builtin "max") (rsD (Cn.of X T) (g1 dMaxL)) := by
  intro pins s σ H xs us Q I r ⟨W, ds, al, tb, os, qs⟩
  obtain ⟨d, rfl, q⟩ := g1_inv qs
  obtain ⟨v, rfl, o⟩ := owns_1 (C := Cn.of X T) os
  cases d with
  | lst b es =>
    obtain ⟨a, vs, e, h1, B, h2⟩ := own_list (C := Cn.of X T) o
    have q : RD (Cn.of X T) W H ((intsD es).bind fun ns => (mostI ns).map .int) Q := q
    cases hn : intsD es with
    | none => rw [hn] at q; exact q.elim
    | some ns =>
      rw [hn] at q
      have q : RD (Cn.of X T) W H ((mostI ns).map .int) Q := q
      cases hm : mostI ns with
      | none => rw [hm] at q; exact q.elim
      | some m =>
        rw [hm] at q
        subst e
        refine cr_max hc pins s σ H _ us Q I r ⟨a, ns, rfl, by rw [← owns_ints h2 hn]; exact h1, ?_, fun k k1 k2 => by rw [mostI_is hm k1 k2]; exact RD.int q⟩
        cases ns with
        | nil => cases hm
        | cons _ _ => exact Nat.succ_pos _
  | _ => exact q.elim
/-! ### sorted of ints -/
def insI (x : Int) : List Int → List Int
  | [] => [x]
  | y :: l => if x ≤ y then x :: y :: l else y :: insI x l
def sortI : List Int → List Int
  | [] => []
  | x :: l => insI x (sortI l)
theorem insI_perm (x : Int) : ∀ l : List Int, (insI x l).Perm (x :: l)
  | [] => .refl _
  | y :: l => by
    unfold insI
    split
    · exact .refl _
    · exact (List.Perm.cons y (insI_perm x l)).trans (List.Perm.swap x y l)
theorem sortI_perm : ∀ l : List Int, (sortI l).Perm l
  | [] => .refl _
  | x :: l => (insI_perm x _).trans (List.Perm.cons x (sortI_perm l))
theorem insI_sorted (x : Int) : ∀ l : List Int, l.Pairwise (· ≤ ·) → (insI x l).Pairwise (· ≤ ·)
  | [], _ => List.pairwise_singleton _ _
  | y :: l, h => by
    obtain ⟨h1, h2⟩ := List.pairwise_cons.mp h
    unfold insI
    split
    · rename_i hx
      exact List.pairwise_cons.mpr ⟨fun z hz => by rcases List.mem_cons.mp hz with rfl | hz; exact hx; exact Int.le_trans hx (h1 z hz), h⟩
    · rename_i hx
      refine List.pairwise_cons.mpr ⟨fun z hz => ?_, insI_sorted x l h2⟩
      rcases List.mem_cons.mp ((insI_perm x l).mem_iff.mp hz) with rfl | hz
      · omega
      · exact h1 z hz
theorem sortI_sorted : ∀ l : List Int, (sortI l).Pairwise (· ≤ ·)
  | [] => .nil
  | x :: l => insI_sorted x _ (sortI_sorted l)
theorem sorted_uniq : ∀ {l m : List Int}, l.Perm m → l.Pairwise (· ≤ ·) → m.Pairwise (· ≤ ·) → l = m
  | [], m, p, _, _ => by rw [List.nil_perm.mp p]
  | a :: l, m, p, h1, h2 => by
    obtain ⟨a1, a2⟩ := List.pairwise_cons.mp h1
    cases m with
    | nil => exact absurd p.length_eq (by simp)
    | cons b m =>
      obtain ⟨b1, b2⟩ := List.pairwise_cons.mp h2
      have ha : a = b := by
        have m1 : a ∈ b :: m := p.mem_iff.mp (List.mem_cons_self ..)
        have m2 : b ∈ a :: l := p.mem_iff.mpr (List.mem_cons_self ..)
        rcases List.mem_cons.mp m1 with e | e
        · exact e
        · rcases List.mem_cons.mp m2 with e2 | e2
          · exact e2.symm
          · exact Int.le_antisymm (a1 b e2) (b1 a e)
      subst ha
      rw [sorted_uniq (List.Perm.cons_inv p) a2 b2]
def dSortI (d : D) : Option D := (seqOf d).bind fun ds => match d with
  | .tup _ => none
  | _ => (intsD ds).map fun ns => .lst true ((sortI ns).map .int)
theorem sortI_ok : CallR X (.builtin "sorted") (rsD (Cn.of X T) (g1 dSortI)) := by
  intro pins s σ H xs us Q I r ⟨W, ds, al, tb, os, qs⟩
  obtain ⟨d, rfl, q⟩ := g1_inv qs
  obtain ⟨v, rfl, o⟩ := owns_1 (C := Cn.of X T) os
  have key : ∀ {es : List D} {a : Addr} {vs : List V}, v = .ref a → SqL X.K H a vs → Owns X.K W H vs es [] → RD (Cn.of X T) W H ((intsD es).map fun ns => .lst true ((sortI ns).map .int)) Q → wpAny (model X.prog X.w) X.A (call (.builtin "sorted") us) (EP X pins σ Q) X.xe s := by
    intro es a vs e h1 h2 q
    cases hn : intsD es with
    | none => rw [hn] at q; exact q.elim
    | some ns =>
      rw [hn] at q
      subst e
      refine cr_sortedI pins s σ H _ us Q I r ⟨a, ns, rfl, by rw [← owns_ints h2 hn]; exact h1, fun ns' p hp hs np => ?_⟩
      rw [sorted_uniq (hp.trans (sortI_perm ns).symm) hs (sortI_sorted ns)]
      exact RD.lst (C := Cn.of X T) q (owns_intsD _) np
  cases d with
  | lst b es =>
    cases b with
    | true => exact q.elim
    | false =>
      obtain ⟨a, vs, e, h1, h2⟩ := own_listF (C := Cn.of X T) o
      exact key e h1 h2 q
  | rol es =>
    obtain ⟨a, vs, e, h1, h2⟩ := own_rol (C := Cn.of X T) o
    exact key e h1 h2 q
  | _ => exact q.elim
end
end De
set_option Elab.async false
set_option linter.all false
set_option maxRecDepth 100000
namespace De
open PySem PySem.Spec PyProof.Rows L2

/-! ### enumerate, zip, a range that falls -/
def numD : Nat → List D → List D
  | _, [] => []
  | i, d :: ds => .tup [.int (i : Nat), d] :: numD (i + 1) ds
theorem numD_len : ∀ (i : Nat) (ds : List D), (numD i ds).length = ds.length
  | _, [] => rfl
  | i, d :: ds => by show (numD (i + 1) ds).length + 1 = ds.length + 1; rw [numD_len]
theorem numD_get : ∀ {i j : Nat} {ds : List D} {d : D}, ds[j]? = some d → (numD i ds)[j]? = some (.tup [.int ((i + j : Nat) : Int), d])
  | i, 0, e :: ds, d, h => by simp at h; subst h; rfl
  | i, j + 1, e :: ds, d, h => by
    show (numD (i + 1) ds)[j]? = _
    rw [numD_get (by simpa using h), show i + 1 + j = i + (j + 1) from by omega]
  | _, _, [], _, h => by simp at h
theorem prs_min : ∀ as bs : List D, (prs as bs).length = min as.length bs.length
  | [], bs => by cases bs <;> simp [prs]
  | a :: as, [] => by simp [prs]
  | a :: as, b :: bs => by show (prs as bs).length + 1 = _; rw [prs_min as bs]; simp
theorem own_pair {C : Cn} {W : Wd} {H : Hp} {x y : V} {a b : D} {p : Addr} (hp : H p = none) (o1 : Own C.K W H x a []) (o2 : Own C.K W H y b []) : Ext C.T H (upd H p (.tup [x, y])) ∧ Own C.K W (upd H p (.tup [x, y])) (.ref p) (.tup [a, b]) [] := by
  have e : Ext C.T H (upd H p (.tup [x, y])) := .new hp
  exact ⟨e, p, [x, y], rfl, ⟨x, [y], [], [], rfl, rfl, o1.ext e (fun a h => .inl h) _, y, [], [], [], rfl, rfl, o2.ext e (fun a h => .inl h) _, rfl, rfl⟩, SqT.of upd_same⟩
theorem src_enum {C : Cn} {a : Addr} {d : D} {ds : List D} (ed : d = .lst false ds ∨ d = .rol ds) (hz : ds.length ≤ 16777216) : Src C [(.ref a, d)] (Ite C.K a) (numD 0 ds) where
  sz := by rw [numD_len, ← sl_line]; exact hz
  go := fun i W H p hi => by
    obtain ⟨b, ws, e, h, o⟩ := own_seqL ed (p _ (List.mem_singleton.mpr rfl))
    cases e
    rw [numD_len] at hi
    exact ⟨ws, ws[i]'(by rw [o.length]; exact hi), h, List.getElem?_eq_getElem _⟩
  yld := fun i W H x H' p y hi => by
    obtain ⟨b, ws, e, h, o⟩ := own_seqL ed (p _ (List.mem_singleton.mpr rfl))
    cases e
    obtain ⟨T, u, rfl, hT, rfl, f⟩ := y
    obtain ⟨dd, e1, o1⟩ := o.getV (f ws h)
    obtain ⟨e2, o2⟩ := own_pair (C := C) (a := .int (i : Nat)) hT ⟨rfl, rfl⟩ o1
    exact ⟨e2, _, by have := numD_get (i := 0) e1; rwa [Nat.zero_add] at this, o2⟩
  stop := fun i W H p hi => by
    obtain ⟨b, ws, e, h, o⟩ := own_seqL ed (p _ (List.mem_singleton.mpr rfl))
    cases e
    rw [numD_len] at hi
    exact ⟨ws, h, by rw [o.length]; exact Nat.le_of_eq hi.symm⟩
theorem src_zipL {C : Cn} {a b : Addr} {d e : D} {as bs : List D} (ed : d = .lst false as ∨ d = .rol as) (ee : e = .lst false bs ∨ e = .rol bs) (hz : as.length ≤ 16777216) : Src C [(.ref a, d), (.ref b, e)] (Itz C.K a b) (prs as bs) where
  sz := by rw [prs_min, ← sl_line]; omega
  go := fun i W H p hi => by
    obtain ⟨p1, ws, e1, h, o⟩ := own_seqL ed (p (.ref a, d) (by simp))
    obtain ⟨p2, us, e2, h2, o2⟩ := own_seqL ee (p (.ref b, e) (by simp))
    cases e1; cases e2
    rw [prs_min] at hi
    exact ⟨ws, us, ws[i]'(by rw [o.length]; omega), us[i]'(by rw [o2.length]; omega), h, h2, List.getElem?_eq_getElem _, List.getElem?_eq_getElem _⟩
  yld := fun i W H x H' p y hi => by
    obtain ⟨p1, ws, e1, h, o⟩ := own_seqL ed (p (.ref a, d) (by simp))
    obtain ⟨p2, us, e2, h2, o2⟩ := own_seqL ee (p (.ref b, e) (by simp))
    cases e1; cases e2
    obtain ⟨T, u, v, rfl, hT, rfl, f, g⟩ := y
    obtain ⟨d1, k1, o3⟩ := o.getV (f ws h)
    obtain ⟨d2, k2, o4⟩ := o2.getV (g us h2)
    obtain ⟨x1, o5⟩ := own_pair (C := C) hT o3 o4
    exact ⟨x1, _, prs_get k1 k2, o5⟩
  stop := fun i W H p hi => by
    obtain ⟨p1, ws, e1, h, o⟩ := own_seqL ed (p (.ref a, d) (by simp))
    obtain ⟨p2, us, e2, h2, o2⟩ := own_seqL ee (p (.ref b, e) (by simp))
    cases e1; cases e2
    rw [prs_min] at hi
    exact ⟨ws, us, h, h2, by rw [o.length, o2.length]; omega⟩
theorem src_zipT {C : Cn} {a b : Addr} {as bs : List D} (hz : as.length ≤ 16777216) : Src C [(.ref a, .tup as), (.ref b, .tup bs)] (RZ.ItzT C.K a b) (prs as bs) where
  sz := by rw [prs_min, ← sl_line]; omega
  go := fun i W H p hi => by
    obtain ⟨p1, ws, e1, h, o⟩ := own_tupF (p (.ref a, .tup as) (by simp))
    obtain ⟨p2, us, e2, h2, o2⟩ := own_tupF (p (.ref b, .tup bs) (by simp))
    cases e1; cases e2
    rw [prs_min] at hi
    exact ⟨ws, us, ws[i]'(by rw [o.length]; omega), us[i]'(by rw [o2.length]; omega), h, h2, List.getElem?_eq_getElem _, List.getElem?_eq_getElem _⟩
  yld := fun i W H x H' p y hi => by
    obtain ⟨p1, ws, e1, h, o⟩ := own_tupF (p (.ref a, .tup as) (by simp))
    obtain ⟨p2, us, e2, h2, o2⟩ := own_tupF (p (.ref b, .tup bs) (by simp))
    cases e1; cases e2
    obtain ⟨T, u, v, rfl, hT, rfl, f, g⟩ := y
    obtain ⟨d1, k1, o3⟩ := o.getV (f ws h)
    obtain ⟨d2, k2, o4⟩ := o2.getV (g us h2)
    obtain ⟨x1, o5⟩ := own_pair (C := C) hT o3 o4
    exact ⟨x1, _, prs_get k1 k2, o5⟩
  stop := fun i W H p hi => by
    obtain ⟨p1, ws, e1, h, o⟩ := own_tupF (p (.ref a, .tup as) (by simp))
    obtain ⟨p2, us, e2, h2, o2⟩ := own_tupF (p (.ref b, .tup bs) (by simp))
    cases e1; cases e2
    rw [prs_min] at hi
    exact ⟨ws, us, h, h2, by rw [o.length, o2.length]; omega⟩
def dwnD (lo : Int) (n : Nat) : List D := (List.range n).map fun i => D.int (lo + (i : Nat) * (-1))
theorem src_dwn {C : Cn} {lo : Int} {n : Nat} (h : n ≤ sizeLine) : Src C [] (Itc lo (-1) n) (dwnD lo n) where
  sz := by unfold dwnD; rw [List.length_map, List.length_range]; exact h
  go := fun i W H p hi => by unfold dwnD at hi; rw [List.length_map, List.length_range] at hi; exact hi
  yld := fun i W H x H' p y hi => by
    unfold dwnD at hi
    rw [List.length_map, List.length_range] at hi
    obtain ⟨e, y⟩ := y
    subst e y
    exact ⟨.refl _, .int (lo + (i : Nat) * (-1)), by unfold dwnD; rw [List.getElem?_map, List.getElem?_range hi]; rfl, rfl, rfl⟩
  stop := fun i W H p hi => by unfold dwnD at hi; rw [List.length_map, List.length_range] at hi; exact Nat.le_of_eq hi.symm
def enD (d : D) : Res (List D) := match d with
  | .lst _ ds => if ds.length ≤ 16777216 then .ok (numD 0 (frzs ds)) else .bad
  | .rol ds => if ds.length ≤ 16777216 then .ok (numD 0 (frzs ds)) else .bad
  | _ => .bad
def enA (fs : Env → Res (List D)) : Env → Res (List D) := fun ρ => (fs ρ).bind fun ds => match ds with
  | [d] => enD d
  | _ => .bad
def zp2 (d e : D) : Res (List D) := match d with
  | .tup as => (match e with
    | .tup bs => if as.length ≤ 16777216 then .ok (prs (frzs as) (frzs bs)) else .bad
    | _ => .bad)
  | .lst _ as => (match e with
    | .lst _ bs => if as.length ≤ 16777216 then .ok (prs (frzs as) (frzs bs)) else .bad
    | _ => .bad)
  | _ => .bad
def zp2A (fs : Env → Res (List D)) : Env → Res (List D) := fun ρ => (fs ρ).bind fun ds => match ds with
  | [d, e] => zp2 d e
  | _ => .bad
def dwnA (fs : Env → Res (List D)) : Env → Res (List D) := fun ρ => (fs ρ).bind fun ds => match ds with
  | [.int i, .int j, .int c] => if c = -1 ∧ -(2 ^ 62) ≤ i ∧ i < 2 ^ 62 ∧ -(2 ^ 62) ≤ j ∧ j < 2 ^ 62 ∧ (i - j).toNat ≤ 16777216 then .ok (dwnD i (i - j).toNat) else .bad
  | _ => .bad
section
variable {X : Cx} {T : List (Addr × Str)} {M : List Nat} {Wx : WX} {pos : Pos} {tg a b c : Expr}
theorem frzs_length (ds : List D) : (frzs ds).length = ds.length := by rw [frzs_eq, List.length_map]
theorem di_enum {p tpos : Pos} {elts : List Expr} {kk : Nat} {fs : Env → Res (List D)} (hg : Gl X "enumerate") (hm : X.mg "enumerate" = none) (ha : DA X T M Wx [a] fs) (hs : starEach [a] X.env = [(false, eval a X.env)] := by rfl) :
    DI X T M Wx (.Tuple elts kk tpos) (.Call (.Name "enumerate" p) [a] [] pos) (enA fs) := by
  refine pi_weak (pi_enum hg hm ha.1 hs) fun σ H R ⟨ρ, W, r, q⟩ => ⟨ρ, W, r, ?_⟩
  unfold enA at q
  cases e : fs ρ with
  | ex e' => rw [e] at q; exact q
  | bad => rw [e] at q; exact q
  | ok ds =>
    rw [e] at q
    intro vs H1 A x n nd o
    have al := r.al
    match ds, q, o with
    | [d], q, o =>
      obtain ⟨v, ws, A1, A2, rfl, rfl, o1, rfl, rfl⟩ := o
      have f1 : Own X.K W H1 v (frz d) [] := o1.frz (fun a h => by simpa using .inl h) _ fun a ha z => n a (by simpa using ha) (al a z)
      have fin : ∀ {es : List D}, (frz d = .lst false (frzs es) ∨ frz d = .rol (frzs es)) → PostI (Cn.of X T) W H (if es.length ≤ 16777216 then .ok (numD 0 (frzs es)) else .bad) R (fun c o H' => Wx c o σ H') → ∃ a xs, [v] = [.ref a] ∧ SqL X.K H1 a xs ∧ R (Ite X.K a) H1 := by
        intro es ed q
        split at q
        · rename_i hz
          obtain ⟨p, vs, e2, h1, h2⟩ := own_seqL (C := Cn.of X T) ed f1
          subst e2
          exact ⟨p, vs, rfl, h1, q _ _ [(.ref p, frz d)] x (fun z hz => by rw [List.mem_singleton.mp hz]; exact f1) (src_enum (C := Cn.of X T) ed (by rw [frzs_length]; exact hz))⟩
        · exact q.elim
      cases d with
      | lst b es => exact fin (.inl rfl) q
      | rol es => exact fin (.inr rfl) q
      | _ => exact q.elim
    | [], q, o => exact q.elim
    | _ :: _ :: _, q, o => exact q.elim
theorem di_zip {p tpos : Pos} {elts : List Expr} {kk : Nat} {fs : Env → Res (List D)} (hg : Gl X "zip") (hm : X.mg "zip" = none) (ha : DA X T M Wx [a, b] fs)
    (hs : starEach [a, b] X.env = (false, eval a X.env) :: starEach [b] X.env := by rfl) (hpl : (backTo pos (starEach [b] X.env)).any (·.1) = false := by rfl) :
    DI X T M Wx (.Tuple elts kk tpos) (.Call (.Name "zip" p) [a, b] [] pos) (zp2A fs) := by
  refine pi_weak (RZ.pi_zipA hg hm ha.1 hs hpl) fun σ H R ⟨ρ, W, r, q⟩ => ⟨ρ, W, r, ?_⟩
  unfold zp2A at q
  cases e : fs ρ with
  | ex e' => rw [e] at q; exact q
  | bad => rw [e] at q; exact q
  | ok ds =>
    rw [e] at q
    intro vs H1 A x n nd o
    have al := r.al
    match ds, q, o with
    | [d, e'], q, o =>
      obtain ⟨v1, v2, A1, A2, rfl, rfl, o1, o2⟩ := owns_two (C := Cn.of X T) o
      have f1 : Own X.K W H1 v1 (frz d) [] := o1.frz (fun a h => .inl h) _ fun a ha z => n a (List.mem_append_left _ ha) (al a z)
      have f2 : Own X.K W H1 v2 (frz e') [] := o2.frz (fun a h => .inl h) _ fun a ha z => n a (List.mem_append_right _ ha) (al a z)
      have pins : ∀ {P Q : V × D}, Own X.K W H1 P.1 P.2 [] → Own X.K W H1 Q.1 Q.2 [] → Pins (Cn.of X T) W H1 [P, Q] := fun h1 h2 z hz => by
        rcases List.mem_cons.mp hz with e | e
        · rw [e]; exact h1
        · rw [List.mem_singleton.mp e]; exact h2
      cases d with
      | lst b1 as =>
        cases e' with
        | lst b2 bs =>
          have q : PostI (Cn.of X T) W H (if as.length ≤ 16777216 then .ok (prs (frzs as) (frzs bs)) else .bad) R _ := q
          split at q
          · rename_i hz
            obtain ⟨p1, xs, rfl, h1, _⟩ := own_listF (C := Cn.of X T) (show Own _ _ _ _ (.lst false (frzs as)) [] from f1)
            obtain ⟨p2, ys, rfl, h2, _⟩ := own_listF (C := Cn.of X T) (show Own _ _ _ _ (.lst false (frzs bs)) [] from f2)
            exact ⟨p1, p2, xs, ys, rfl, .inl ⟨h1, h2, q _ _ _ x (pins (P := (.ref p1, .lst false (frzs as))) (Q := (.ref p2, .lst false (frzs bs))) f1 f2) (src_zipL (C := Cn.of X T) (.inl rfl) (.inl rfl) (by rw [frzs_length]; exact hz))⟩⟩
          · exact q.elim
        | _ => exact q.elim
      | tup as =>
        cases e' with
        | tup bs =>
          have q : PostI (Cn.of X T) W H (if as.length ≤ 16777216 then .ok (prs (frzs as) (frzs bs)) else .bad) R _ := q
          split at q
          · rename_i hz
            obtain ⟨p1, xs, rfl, h1, _⟩ := own_tupF (C := Cn.of X T) (show Own _ _ _ _ (.tup (frzs as)) [] from f1)
            obtain ⟨p2, ys, rfl, h2, _⟩ := own_tupF (C := Cn.of X T) (show Own _ _ _ _ (.tup (frzs bs)) [] from f2)
            exact ⟨p1, p2, xs, ys, rfl, .inr ⟨h1, h2, q _ _ _ x (pins (P := (.ref p1, .tup (frzs as))) (Q := (.ref p2, .tup (frzs bs))) f1 f2) (src_zipT (C := Cn.of X T) (by rw [frzs_length]; exact hz))⟩⟩
          · exact q.elim
        | _ => exact q.elim
      | _ => exact q.elim
    | [], q, o => exact q.elim
    | [_], q, o => exact q.elim
    | _ :: _ :: _ :: _, q, o => exact q.elim
theorem di_dwn {p : Pos} {fs : Env → Res (List D)} (hg : Gl X "range") (hm : X.mg "range" = none) (ha : DA X T M Wx [a, b, c] fs)
    (hs : starEach [a, b, c] X.env = (false, eval a X.env) :: starEach [b, c] X.env := by rfl) (hpl : (backTo pos (starEach [b, c] X.env)).any (·.1) = false := by rfl) :
    DI X T M Wx tg (.Call (.Name "range" p) [a, b, c] [] pos) (dwnA fs) := by
  refine pi_weak (pi_range3 hg hm ha.1 hs hpl) fun σ H R ⟨ρ, W, r, q⟩ => ⟨ρ, W, r, ?_⟩
  unfold dwnA at q
  have hl := ha.2 ρ
  cases e : fs ρ with
  | ex e' => rw [e] at q; exact q
  | bad => rw [e] at q; exact q
  | ok ds =>
    rw [e] at q hl
    have hl := hl ds rfl
    intro vs H1 A x n nd o
    match ds, q, o, hl with
    | [.int i, .int j, .int k], q, o, _ =>
      have q2 : PostI (Cn.of X T) W H (if k = -1 ∧ -(2 ^ 62) ≤ i ∧ i < 2 ^ 62 ∧ -(2 ^ 62) ≤ j ∧ j < 2 ^ 62 ∧ (i - j).toNat ≤ 16777216 then .ok (dwnD i (i - j).toNat) else .bad) R _ := q
      split at q2
      · rename_i hz
        obtain ⟨rfl, h1, h2, h3, h4, h5⟩ := hz
        obtain ⟨v, ws, A1, A2, rfl, _, o1, o2⟩ := o
        have e2 := owns2 (C := Cn.of X T) o2
        exact ⟨i, j, -1, (i - j).toNat, by rw [o1.1, e2], RgC.neg h1 h2 h3 h4, q2 _ _ [] x (fun z hz => by cases hz) (src_dwn (by rw [← sl_line]; exact h5))⟩
      · exact q2.elim
end
end De
set_option Elab.async false
set_option linter.all false
set_option maxRecDepth 100000
namespace De
open PySem PySem.Spec PyProof.Rows L2

/-! ### changes of a slot's own list by a number and a value -/
/-- what stands behind the value's reckoning: the list changed -/
def mutE (M : List Nat) (i : Nat) (g : List D → D → Option (List D)) (ds : List D) (d : D) (ρ : Env) : Out := match (keepM M d ρ)[i]? with
  | some (some (.lst true _)) => (match g ds d with
    | some es => .nx ((keepM M d ρ).set i (some (.lst true es)))
    | none => .bad)
  | _ => .bad
/-- l.insert(k, x): fs gives k and x -/
def mut2S (M : List Nat) (i : Nat) (fs : Env → Res (List D)) (g : Int → List D → D → Option (List D)) : Env → Out := fun ρ => match ρ[i]? with
  | some (some (.lst true ds)) => (match fs ρ with
    | .ok [.int k, d] => mutE M i (g k) ds d ρ
    | .ok _ => .bad
    | .ex e => .ex e ρ
    | .bad => .bad)
  | _ => .bad
section
variable {X : Cx} {T : List (Addr × Str)} {M : List Nat} {Wx : WX}
theorem mut_after {i : Nat} {g : List D → D → Option (List D)} {E : Ends} {σ : L2.St} {H H1 : Hp} {He : Hp} {Wf : Wd} {P : List (V × D)} {ρ : Env} {foot : Nat → List Addr} {ds : List D} {d : D} {v : V} {A : List Addr} {a : Addr} {Q : (Hp → Prop) → Prop}
    (R : RelS (Cn.of X T) He Wf P σ H ρ foot) (hi : ρ[i]? = some (some (.lst true ds))) (hw : σ[i]? = some (some (.ref a))) (x : Ext T H H1) (n : ∀ a ∈ A, ¬ Al H a) (nd : A.Nodup) (o : Own X.K ((wdM Wf foot M).plus A) H1 v d A) (q : PostS (Cn.of X T) He Wf P (mutE M i g ds d ρ) E Wx)
    (hr : ∀ (W : Wd) (vs : List V) (es : List D) (B : List Addr), H1 a = some (.lst vs) → Owns X.K W H1 vs ds B → Own X.K W H1 v d A → (B ++ A).Nodup → g ds d = some es →
      (∀ ws F, Owns X.K W H1 ws es F → (∀ b ∈ F, b ∈ B ∨ b ∈ A) → F.Nodup → E.nx σ (upd H1 a (.lst ws))) → Q fun H2 => E.nx σ H2) : Q fun H2 => E.nx σ H2 := by
  obtain ⟨foot', R', nA, neA, o', ow', pin'⟩ := R.after x n o
  unfold mutE at q
  cases hk : (keepM M d ρ)[i]? with
  | none => rw [hk] at q; exact q.elim
  | some k =>
  rw [hk] at q
  cases k with
  | none => exact q.elim
  | some l =>
  rcases keepM_own2 hi hk with e | ⟨es, e⟩
  · subst e
    dsimp only at q
    cases hg : g ds d with
    | none => rw [hg] at q; exact q.elim
    | some es =>
    rw [hg] at q
    obtain ⟨w2, hw2, ow2⟩ := ow' i _ hk
    rw [hw] at hw2
    cases hw2
    obtain ⟨a2, vs2, B2, e2, hvs2, hF2, ha2⟩ := own_lstT (C := Cn.of X T) ow2
    cases e2
    have ndF := R'.nd i
    rw [hF2] at ndF
    obtain ⟨naB, ndB⟩ := List.nodup_cons.mp ndF
    refine hr _ vs2 es B2 ha2 hvs2 o' (List.nodup_append.mpr ⟨ndB, nd, fun b hb c hc z => ?_⟩) hg fun ws F hws sub ndF' => ?_
    · subst z
      exact nA b hc (.inr ⟨i, by rw [hF2]; exact List.mem_cons_of_mem _ hb⟩)
    · have lk : likeO (.lst vs2) (.lst ws) = true := rfl
      have haf : a ∈ foot' i := by rw [hF2]; exact List.mem_cons_self ..
      have naF : a ∉ F := fun z => (sub a z).elim naB fun z => nA a z (.inr ⟨i, haf⟩)
      have wa : (wd Wf foot').plus A a := .inl (.inr ⟨i, haf⟩)
      exact q σ _ ⟨_, R'.mut (F := a :: F) hw haf ha2 lk nA neA ⟨a, ws, F, rfl, hws.upd ha2 lk wa _ naF, rfl, upd_same⟩ (fun b hb => by
        rcases List.mem_cons.mp hb with z | z
        · rw [z]; exact .inl haf
        · exact (sub b z).imp (fun z => by rw [hF2]; exact List.mem_cons_of_mem _ z) id) (List.nodup_cons.mpr ⟨naF, ndF'⟩) ow' pin'⟩
  · subst e
    exact q.elim
/-- x put in at place k -/
def gIns (k : Int) (ds : List D) (d : D) : Option (List D) := if 0 ≤ k ∧ k < 1073741824 ∧ ds.length < 16777216 then some (ds.take k.toNat ++ [d] ++ ds.drop k.toNat) else none
theorem Owns.split {K : PySem.W.Frag} {W : Wd} {H : Hp} : ∀ (n : Nat) {ds : List D} {vs : List V} {B : List Addr}, Owns K W H vs ds B → ∃ B1 B2, B = B1 ++ B2 ∧ Owns K W H (vs.take n) (ds.take n) B1 ∧ Owns K W H (vs.drop n) (ds.drop n) B2
  | 0, ds, vs, B, o => ⟨[], B, rfl, ⟨rfl, rfl⟩, o⟩
  | n + 1, [], vs, B, o => by
    obtain ⟨rfl, rfl⟩ := o
    exact ⟨[], [], rfl, ⟨rfl, rfl⟩, ⟨rfl, rfl⟩⟩
  | n + 1, d :: ds, vs, B, o => by
    obtain ⟨v, ws, A1, A2, rfl, rfl, h1, h2⟩ := o
    obtain ⟨B1, B2, e, h3, h4⟩ := Owns.split n h2
    exact ⟨A1 ++ B1, B2, by rw [e, List.append_assoc], ⟨v, _, A1, B1, rfl, rfl, h1, h3⟩, h4⟩
theorem mut2_read {i : Nat} {fs : Env → Res (List D)} {g : Int → List D → D → Option (List D)} {E : Ends} {σ : L2.St} {H : Hp} {r : V → List V → Hp → (Hp → Prop) → Prop}
    (hr : ∀ (W : Wd) (a : Addr) (vs : List V) (k : Int) (ds es : List D) (v : V) (d : D) (H : Hp) (A B : List Addr) (Q : Hp → Prop), H a = some (.lst vs) → Owns X.K W H vs ds B → Own X.K W H v d A → (B ++ A).Nodup → g k ds d = some es →
      (∀ ws F, Owns X.K W H ws es F → (∀ b ∈ F, b ∈ B ∨ b ∈ A) → F.Nodup → Q (upd H a (.lst ws))) → r (.ref a) [.int k, v] H Q)
    (h : tS (Cn.of X T) Wx (mut2S M i fs g) E σ H) :
    ∃ a, σ[i]? = some (some (.ref a)) ∧ (∃ vs, H a = some (.lst vs)) ∧ tDL (Cn.of X T) M Wx fs σ H fun vs H1 => r (.ref a) vs H1 fun H2 => E.nx σ H2 := by
  obtain ⟨ρ, He, Wf, P, ⟨foot, R⟩, q⟩ := h
  unfold mut2S at q
  cases hi : ρ[i]? with
  | none => rw [hi] at q; exact q.elim
  | some o =>
  rw [hi] at q
  cases o with
  | none => exact q.elim
  | some l =>
  cases l with
  | lst b ds =>
    cases b with
    | false => exact q.elim
    | true =>
    obtain ⟨w, hw, ow⟩ := R.own i _ hi
    obtain ⟨a, vs, B, rfl, hvs, hF, ha⟩ := own_lstT (C := Cn.of X T) ow
    refine ⟨a, hw, ⟨vs, ha⟩, ρ, _, R.rel M, ?_⟩
    cases hf : fs ρ with
    | ex e' => rw [hf] at q; exact fun c o H' x y => q c o σ H' ⟨foot, R.ext1 x⟩ y
    | bad => rw [hf] at q; exact q
    | ok ys =>
    rw [hf] at q
    intro us H1 A x n nd o
    match ys, q, o with
    | [.int k, d], q, o =>
      obtain ⟨v1, v, A1, A2, rfl, rfl, o1, o2⟩ := owns_two (C := Cn.of X T) o
      obtain ⟨e1, e2⟩ := o1
      subst e1 e2
      exact mut_after (g := g k) (Q := fun Z => r (.ref a) [.int k, v] H1 Z) R hi hw x n nd o2 q fun W vs es B h1 h2 h3 h4 h5 h6 => hr W a vs k ds es v d H1 _ B _ h1 h2 h3 h4 h5 h6
    | [], q, o => exact q.elim
    | [.non], q, o => exact q.elim
    | [.bl _], q, o => exact q.elim
    | [.int _], q, o => exact q.elim
    | [.str _], q, o => exact q.elim
    | [.lst _ _], q, o => exact q.elim
    | [.tup _], q, o => exact q.elim
    | [.dic _ _ _], q, o => exact q.elim
    | [.ty _], q, o => exact q.elim
    | [.rol _], q, o => exact q.elim
    | .non :: _ :: _, q, o => exact q.elim
    | .bl _ :: _ :: _, q, o => exact q.elim
    | .str _ :: _ :: _, q, o => exact q.elim
    | .lst _ _ :: _ :: _, q, o => exact q.elim
    | .tup _ :: _ :: _, q, o => exact q.elim
    | .dic _ _ _ :: _ :: _, q, o => exact q.elim
    | .ty _ :: _ :: _, q, o => exact q.elim
    | .rol _ :: _ :: _, q, o => exact q.elim
    | .int _ :: _ :: _ :: _, q, o => exact q.elim
  | _ => exact q.elim
end
section
variable {X : Cx} {T : List (Addr × Str)} {M : List Nat} {Wx : WX} {pos op apos cpos : Pos} {e1 e2 : Expr}
theorem ds_ins {x : Str} {i : Nat} {fs : Env → Res (List D)} (M : List Nat) (hi : X.N[i]? = some x) (he : DA X T M Wx [e1, e2] fs) (hv : Vis X.env.scope x := by first | exact Or.inl rfl | exact Or.inr (Or.inl rfl) | exact Or.inr (Or.inr rfl)) (hd : (x == ("__debug__" : Str)) = false := by decide) (hcd : (x == ("__classdict__" : Str)) = false := by decide)
    (hbase : attributeBase (.Name x op) "insert" X.env (eval (.Name x op) X.env) = eval (.Name x op) X.env := by rfl)
    (hfew : ((backTo cpos (starEach [e1, e2] X.env)).all (fun x => !x.1) && (backToKw cpos (keywordEach [] X.env)).all (fun x => x.1.isSome)
      && decide (([e1, e2] : List Expr).length + ([] : List Keyword).length + (if ([] : List Keyword).isEmpty then 0 else 1) < 30)) = true := by rfl)
    (hline : (apos.endLine == cpos.line) = true := by rfl) (hst : starEach [e1, e2] X.env = (false, eval e1 X.env) :: starEach [e2] X.env := by rfl) (hpl : (backTo cpos (starEach [e2] X.env)).any (·.1) = false := by rfl)
    (hs : swapsWith (.Call (.Attribute (.Name x op) "insert" apos) [e1, e2] [] cpos) none pos.line X.env = pure false := by rfl) :
    DS X T Wx (.Expr (.Call (.Attribute (.Name x op) "insert" apos) [e1, e2] [] cpos) pos) (mut2S M i fs gIns) := by
  refine ps_weak (ps_expr (pe_bm PySem.F.plainAttrs_list PySem.F.slot_list_insert PySem.F.type_list_insert mt_insert (pe_var hi hv hd hcd) he.1 hbase hfew hline hst hpl) hs) fun E σ H q => ?_
  obtain ⟨a, h1, ⟨vs, h2⟩, q⟩ := mut2_read (r := fun x ys H Q => ∃ (l : Addr) (xs : List V) (i : Int) (y : V), x = .ref l ∧ ys = [.int i, y] ∧ H l = some (.lst xs) ∧ xs.length < sizeLine ∧ 0 ≤ i ∧ i < 2 ^ 63 ∧ Q (upd H l (.lst (xs.take i.toNat ++ [y] ++ xs.drop i.toNat)))) (fun W a vs k ds es v d H A B Q ha o1 o2 nd hg kk => by
    obtain ⟨⟨c1, c2, c3⟩, rfl⟩ : (0 ≤ k ∧ k < 1073741824 ∧ ds.length < 16777216) ∧ es = ds.take k.toNat ++ [d] ++ ds.drop k.toNat := by
      unfold gIns at hg
      split at hg
      · rename_i z; exact ⟨z, (Option.some.inj hg).symm⟩
      · cases hg
    obtain ⟨B1, B2, rfl, s1, s2⟩ := o1.split k.toNat
    obtain ⟨n1, n2, n3⟩ := List.nodup_append.mp nd
    obtain ⟨n4, n5, n6⟩ := List.nodup_append.mp n1
    refine ⟨a, vs, k, v, rfl, rfl, ha, by rw [o1.length, ← sl_line]; exact c3, c1, by omega, kk _ ((B1 ++ A) ++ B2) ((s1.app (Owns.one o2)).app s2) (fun b hb => ?_) ?_⟩
    · rcases List.mem_append.mp hb with hb | hb
      · rcases List.mem_append.mp hb with hb | hb
        · exact .inl (List.mem_append_left _ hb)
        · exact .inr hb
      · exact .inl (List.mem_append_right _ hb)
    · refine List.nodup_append.mpr ⟨List.nodup_append.mpr ⟨n4, n2, fun b hb c hc => n3 b (List.mem_append_left _ hb) c hc⟩, n5, fun b hb c hc => ?_⟩
      rcases List.mem_append.mp hb with hb | hb
      · exact n6 b hb c hc
      · exact fun z => n3 c (List.mem_append_right _ hc) b hb z.symm) q
  refine ⟨_, h1, .inl ⟨rfl, _, SqL.of h2⟩, ?_⟩
  obtain ⟨ρ, W, r, p⟩ := q
  refine ⟨ρ, W, r, ?_⟩
  cases hf : fs ρ with
  | ex e' => rw [hf] at p; exact p
  | bad => rw [hf] at p; exact p
  | ok ys => rw [hf] at p; exact p
end
end De
set_option Elab.async false
set_option linter.all false
set_option maxRecDepth 100000
namespace De
open PySem PySem.Spec PyProof.Rows L2

/-! ### l.index(x) of ints, of texts -/
def isLst : D → Option (List D)
  | .lst _ ds => some (frzs ds)
  | .rol ds => some (frzs ds)
  | _ => none
def dIdx (ds : List D) (e : D) : Option D := match e with
  | .int i => (intsD ds).bind fun ns => (ns.findIdx? (· == i)).map fun (j : Nat) => .int j
  | .str i => (strsD ds).bind fun ns => (ns.findIdx? (· == i)).map fun (j : Nat) => .int j
  | _ => none
def idxA (fo fe : Env → Res D) : Env → Res D := fun ρ => (fo ρ).bind fun x => match isLst x with
  | none => .bad
  | some ds => (fe ρ).bind fun y => lift (dIdx ds (frz y))
theorem find_is {α : Type} [BEq α] {l : List α} {a : α} {j : Nat} (h : l.findIdx? (· == a) = some j) : (∃ z, l[j]? = some z ∧ (z == a) = true) ∧ ∀ (m : Nat) z, m < j → l[m]? = some z → (z == a) = false := by
  obtain ⟨hj, h1, h2⟩ := List.findIdx?_eq_some_iff_getElem.mp h
  refine ⟨⟨l[j], List.getElem?_eq_getElem hj, h1⟩, fun m z hm hz => ?_⟩
  have hml : m < l.length := by omega
  rw [List.getElem?_eq_getElem hml] at hz
  cases hz
  have := h2 m hm
  simpa using this
section
variable {X : Cx} {T : List (Addr × Str)} {M : List Nat} {Wx : WX} {apos cpos : Pos} {o e : Expr} {fo fe : Env → Res D}
theorem own_isLst {W : Wd} {H : Hp} {v : V} {d : D} {ds : List D} (h : isLst d = some ds) (ow : Own X.K W H v (frz d) []) : ∃ a vs, v = .ref a ∧ SqL X.K H a vs ∧ Owns X.K W H vs ds [] := by
  cases d with
  | lst b es => cases h; exact own_listF (C := Cn.of X []) ow
  | rol es => cases h; exact own_rol (C := Cn.of X []) (show Own _ _ _ _ (.rol (frzs es)) [] from ow)
  | _ => cases h
theorem idx_rule {W : Wd} {H : Hp} {Q : VK} {a : Addr} {vs : List V} {ds : List D} {y : V} {d : D} (hs : SqL X.K H a vs) (o1 : Owns X.K W H vs ds []) (o2 : Own X.K W H y (frz d) []) (q : RD (Cn.of X T) W H (dIdx ds (frz d)) Q) : rIndex X.K (.ref a) [y] H Q := by
  cases d with
  | int i =>
    have q : RD (Cn.of X T) W H ((intsD ds).bind fun ns => (ns.findIdx? (· == i)).map fun (j : Nat) => .int j) Q := q
    cases hn : intsD ds with
    | none => rw [hn] at q; exact q.elim
    | some ns =>
      rw [hn] at q
      have q : RD (Cn.of X T) W H ((ns.findIdx? (· == i)).map fun (j : Nat) => .int j) Q := q
      cases hj : ns.findIdx? (· == i) with
      | none => rw [hj] at q; exact q.elim
      | some j =>
        rw [hj] at q
        have ev := owns_ints o1 hn
        have ey : y = .int i := o2.1
        subst ev ey
        obtain ⟨⟨z, h1, h2⟩, h3⟩ := find_is hj
        refine ⟨a, _, _, j, .int z, rfl, rfl, hs, rfl, flat_ints ns, by rw [List.getElem?_map, h1]; rfl, h2, fun m z' hm hz => ?_, RD.int q⟩
        rw [List.getElem?_map] at hz
        cases hk : ns[m]? with
        | none => rw [hk] at hz; cases hz
        | some k => rw [hk] at hz; cases hz; exact h3 m k hm hk
  | str i =>
    have q : RD (Cn.of X T) W H ((strsD ds).bind fun ns => (ns.findIdx? (· == i)).map fun (j : Nat) => .int j) Q := q
    cases hn : strsD ds with
    | none => rw [hn] at q; exact q.elim
    | some ns =>
      rw [hn] at q
      have q : RD (Cn.of X T) W H ((ns.findIdx? (· == i)).map fun (j : Nat) => .int j) Q := q
      cases hj : ns.findIdx? (· == i) with
      | none => rw [hj] at q; exact q.elim
      | some j =>
        rw [hj] at q
        have ev := owns_strs o1 hn
        have ey : y = .str i := o2.1
        subst ev ey
        obtain ⟨⟨z, h1, h2⟩, h3⟩ := find_is hj
        refine ⟨a, _, _, j, .str z, rfl, rfl, hs, rfl, flat_strs ns, by rw [List.getElem?_map, h1]; rfl, h2, fun m z' hm hz => ?_, RD.int q⟩
        rw [List.getElem?_map] at hz
        cases hk : ns[m]? with
        | none => rw [hk] at hz; cases hz
        | some k => rw [hk] at hz; cases hz; exact h3 m k hm hk
  | _ => exact q.elim
theorem de_index (ho : DE X T M Wx o fo) (he : DE X T M Wx e fe)
    (hbase : attributeBase o "index" X.env (eval o X.env) = eval o X.env := by rfl)
    (hfew : ((backTo cpos (starEach [e] X.env)).all (fun x => !x.1) && (backToKw cpos (keywordEach [] X.env)).all (fun x => x.1.isSome)
      && decide (([e] : List Expr).length + ([] : List Keyword).length + (if ([] : List Keyword).isEmpty then 0 else 1) < 30)) = true := by rfl)
    (hline : (apos.endLine == cpos.line) = true := by rfl) (hst : starEach [e] X.env = (false, eval e X.env) :: starEach [] X.env := by rfl) :
    DE X T M Wx (.Call (.Attribute o "index" apos) [e] [] cpos) (idxA fo fe) := by
  refine pe_weak (pe_bm PySem.F.plainAttrs_list PySem.F.slot_list_index PySem.F.type_list_index mt_index ho (pa_cons he pa_nil hst) hbase hfew hline hst rfl) fun σ H Q ⟨ρ, W, r, p⟩ => ⟨ρ, W, r, ?_⟩
  refine (Post.bind (g := fun x => match isLst x with
    | none => .bad
    | some ds => (fe ρ).bind fun y => lift (dIdx ds (frz y))) r.al p).mono fun x H1 ⟨d, x1, o1, p1⟩ => ?_
  cases hi : isLst d with
  | none => rw [hi] at p1; exact p1.elim
  | some ds =>
    rw [hi] at p1
    obtain ⟨a, vs, rfl, hs, ov⟩ := own_isLst hi o1
    refine ⟨.inl ⟨rfl, _, hs⟩, ρ, W, r.ext1 x1, (Post.bind (g := fun y => lift (dIdx ds (frz y))) (r.ext1 x1).al p1).mono fun y H2 ⟨d2, x2, o2, p2⟩ => ?_⟩
    obtain ⟨a', vs', e', hs', ov'⟩ := own_isLst hi (o1.ext x2 (fun a h => .inl h) _)
    cases e'
    exact idx_rule hs' ov' o2 (RD.post p2)
end
end De
set_option Elab.async false
set_option linter.all false
set_option maxRecDepth 100000
namespace De
open PySem PySem.Spec PyProof.Rows L2

/-! ### l[k] = x -/
def gSet (k : Int) (ds : List D) (d : D) : Option (List D) := (ixN ds.length k).map fun j => ds.set j d
def stoS (M : List Nat) (i : Nat) (fk fx : Env → Res D) : Env → Out := fun ρ => match ρ[i]? with
  | some (some (.lst true ds)) => (match fx ρ with
    | .ok d => (match fk ρ with
      | .ok (.int k) => mutE M i (gSet k) ds d ρ
      | .ok _ => .bad
      | .ex e => .ex e ρ
      | .bad => .bad)
    | .ex e => .ex e ρ
    | .bad => .bad)
  | _ => .bad
theorem Owns.set {K : PySem.W.Frag} {W : Wd} {H : Hp} {ds : List D} {vs : List V} {B A : List Addr} {j : Nat} {v : V} {d : D} (o : Owns K W H vs ds B) (o2 : Own K W H v d A) (hj : j < ds.length) (nd : (B ++ A).Nodup) :
    ∃ F, Owns K W H (vs.set j v) (ds.set j d) F ∧ (∀ b ∈ F, b ∈ B ∨ b ∈ A) ∧ F.Nodup := by
  obtain ⟨B1, B2, rfl, s1, s2⟩ := o.split j
  have hv : j < vs.length := by rw [o.length]; exact hj
  rw [List.drop_eq_getElem_cons hj] at s2
  obtain ⟨v0, ws, A1, A2, e1, rfl, _, s3⟩ := s2
  rw [List.drop_eq_getElem_cons hv] at e1
  obtain ⟨_, rfl⟩ := List.cons.inj e1
  obtain ⟨n1, n2, n3⟩ := List.nodup_append.mp nd
  obtain ⟨n4, n5, n6⟩ := List.nodup_append.mp n1
  obtain ⟨n7, n8, n9⟩ := List.nodup_append.mp n5
  refine ⟨B1 ++ (A ++ A2), ?_, fun b hb => ?_, ?_⟩
  · rw [List.set_eq_take_append_cons_drop, if_pos hv, List.set_eq_take_append_cons_drop, if_pos hj]
    exact s1.app ⟨v, _, A, A2, rfl, rfl, o2, s3⟩
  · rcases List.mem_append.mp hb with hb | hb
    · exact .inl (List.mem_append_left _ hb)
    · rcases List.mem_append.mp hb with hb | hb
      · exact .inr hb
      · exact .inl (List.mem_append_right _ (List.mem_append_right _ hb))
  · refine List.nodup_append.mpr ⟨n4, List.nodup_append.mpr ⟨n2, n8, fun b hb c hc z => n3 c (List.mem_append_right _ (List.mem_append_right _ hc)) b hb z.symm⟩, fun b hb c hc => ?_⟩
    rcases List.mem_append.mp hc with hc | hc
    · exact fun z => n3 b (List.mem_append_left _ hb) c hc z
    · exact n6 b hb c (List.mem_append_right _ hc)
theorem ixN_lt {n j : Nat} {k : Int} (h : ixN n k = some j) : j < n := (ixN_seq h).2.1
section
variable {X : Cx} {T : List (Addr × Str)} {M : List Nat} {Wx : WX} {pos op spos : Pos} {e ix : Expr}
theorem sto_read {i : Nat} {fk fx : Env → Res D} {E : Ends} {σ : L2.St} {H : Hp} (h : tS (Cn.of X T) Wx (stoS M i fk fx) E σ H) : tAsg (tD (Cn.of X T) M Wx fx) (gSub (tVar i) (tD (Cn.of X T) M Wx fk) rSetL) E σ H := by
  obtain ⟨ρ, He, Wf, P, ⟨foot, R⟩, q⟩ := h
  unfold stoS at q
  have Rl := R.rel M
  refine ⟨ρ, _, Rl, ?_⟩
  cases hi : ρ[i]? with
  | none => rw [hi] at q; exact q.elim
  | some o =>
  rw [hi] at q
  cases o with
  | none => exact q.elim
  | some l =>
  cases l with
  | lst b ds =>
    cases b with
    | false => exact q.elim
    | true =>
    obtain ⟨w, hw, ow⟩ := R.own i _ hi
    obtain ⟨a, vs, B, rfl, hvs, hF, ha⟩ := own_lstT (C := Cn.of X T) ow
    cases hx : fx ρ with
    | ex e' => rw [hx] at q; exact fun c o H' x y => q c o σ H' ⟨foot, R.ext1 x⟩ y
    | bad => rw [hx] at q; exact q
    | ok d =>
    rw [hx] at q
    intro v H1 A x n nd o
    refine ⟨.ref a, hw, ρ, _, Rl.ext1 x, ?_⟩
    dsimp only at q
    cases hk : fk ρ with
    | ex e' => rw [hk] at q; exact fun c o H' x2 y => q c o σ H' ⟨foot, R.ext1 (x.trans x2)⟩ y
    | bad => rw [hk] at q; exact q
    | ok kd =>
    rw [hk] at q
    intro kv H2 A2 x2 n2 nd2 o2
    cases kd with
    | int k =>
      have ek : kv = .int k := o2.1
      subst ek
      have q : PostS (Cn.of X T) He Wf P (mutE M i (gSet k) ds d ρ) E Wx := q
      refine mut_after (g := gSet k) (Q := fun Z => rSetL (.ref a) (.int k) v H2 Z) R hi hw (x.trans x2) n nd (o.ext x2 (fun a h => .inl h) _) q fun W us es B' h1 h2 h3 h4 h5 h6 => ?_
      obtain ⟨j, hj, rfl⟩ := Option.map_eq_some_iff.mp (show (ixN ds.length k).map (fun j => ds.set j d) = some es from h5)
      obtain ⟨F, f1, f2, f3⟩ := h2.set h3 (ixN_lt hj) h4
      exact ⟨a, us, k, j, rfl, rfl, h1, by rw [h2.length]; exact hj, h6 _ F f1 f2 f3⟩
    | _ => exact q.elim
  | _ => exact q.elim
theorem ds_sto {x : Str} {i : Nat} {fk fx : Env → Res D} (M : List Nat) (hi : X.N[i]? = some x) (hk : DE X T M Wx ix fk) (he : DE X T M Wx e fx) (hv : Vis X.env.scope x := by first | exact Or.inl rfl | exact Or.inr (Or.inl rfl) | exact Or.inr (Or.inr rfl)) (hd : (x == ("__debug__" : Str)) = false := by decide) (hcd : (x == ("__classdict__" : Str)) = false := by decide)
    (hs : swapsWithSole [.Subscript (.Name x op) ix spos] e pos.line X.env = pure false := by rfl) (hw : swappedStores [.Subscript (.Name x op) ix spos] e X.env = pure none := by rfl)
    (h1 : (assignEach [.Subscript (.Name x op) ix spos] X.env).map (·.2) = [assign (.Subscript (.Name x op) ix spos) X.env] := by rfl)
    (ha : ∀ v, assign (.Subscript (.Name x op) ix spos) X.env v = (do
      let ov ← holding [v] (eval (.Name x op) X.env)
      let iv ← holding [v, ov] (eval ix X.env)
      standAt spos
      holding [v, ov, iv] (setItem ov iv v)
      release [v, ov, iv] []) := by intro _; rfl) :
    DS X T Wx (.Assign [.Subscript (.Name x op) ix spos] e pos) (stoS M i fk fx) :=
  ps_weak (ps_asg he (pg_sub (pe_var hi hv hd hcd) hk set_list ha) hs hw h1) fun E σ H h => sto_read h
end
end De
set_option Elab.async false
set_option linter.all false
set_option maxRecDepth 100000
namespace De
open PySem PySem.Spec PyProof.Rows L2

/-! ### l[k] op= x, ints -/
def gNth (K : PySem.W.Frag) (o i : V) (H : Hp) (Q : VK) : Prop := ∃ (a : Addr) (xs : List V) (j : Nat) (x : V), o = .ref a ∧ i = .int (j : Nat) ∧ SqL K H a xs ∧ xs[j]? = some x ∧ Q x H
def aug2S (M : List Nat) (i : Nat) (fk : Env → Res D) (g : D → D → Option D) (fx : Env → Res D) : Env → Out := fun ρ => match ρ[i]? with
  | some (some (.lst true ds)) => (match fk ρ with
    | .ok (.int k) => if 0 ≤ k then (match ds[k.toNat]? with
      | some (.int v) => (match fx ρ with
        | .ok (.int y) => (match g (.int v) (.int y) with
          | some (.int z) => .nx (ρ.set i (some (.lst true (ds.set k.toNat (.int z)))))
          | _ => .bad)
        | .ok _ => .bad
        | .ex e => .ex e ρ
        | .bad => .bad)
      | _ => .bad) else .bad
    | .ok _ => .bad
    | .ex e => .ex e ρ
    | .bad => .bad)
  | _ => .bad
theorem Owns.int_at {K : PySem.W.Frag} {W : Wd} {H : Hp} : ∀ {ds : List D} {vs : List V} {B : List Addr} {j : Nat} {v : Int}, Owns K W H vs ds B → ds[j]? = some (.int v) → vs[j]? = some (.int v)
  | [], _, _, _, _, _, e => by simp at e
  | d :: ds, _, _, 0, v, o, e => by
    obtain ⟨u, ws, A1, A2, rfl, rfl, h1, h2⟩ := o
    simp at e
    subst e
    simp [h1.1]
  | d :: ds, _, _, j + 1, v, o, e => by
    obtain ⟨u, ws, A1, A2, rfl, rfl, h1, h2⟩ := o
    simpa using Owns.int_at (j := j) h2 (by simpa using e)
section
variable {X : Cx} {T : List (Addr × Str)} {M : List Nat} {Wx : WX} {pos op spos : Pos} {e ix : Expr}
theorem get_nth : PGet X (gNth X.K) := by
  intro pins s σ H o i ov iv Q I ro ri ⟨a, xs, j, x, e1, e2, hs, hx, q⟩
  subst e1 e2
  cases ro
  obtain ⟨t, rfl⟩ := ri
  obtain ⟨its, rv, pl, hz⟩ := I.list hs
  obtain ⟨u, hu, ru⟩ := rv.get hx
  have hj : j < its.length := (List.getElem?_eq_some_iff.mp hu).1
  have hl := rv.length
  have h63 : (sizeLine : Nat) = 16777216 := sl_line.symm
  exact wpAny_getItem_list pl.isList (Int.natCast_nonneg j) (by omega) (x := u) (by simpa using hu) ⟨x, H, I, ru, q⟩
theorem aug2_read {i : Nat} {fk fx : Env → Res D} {g : D → D → Option D} {E : Ends} {σ : L2.St} {H : Hp} (h : tS (Cn.of X T) Wx (aug2S M i fk g fx) E σ H) :
    tAugS (tVar i) (tD (Cn.of X T) M Wx fk) (tD (Cn.of X T) M Wx fx) (gNth X.K) (r2D (Cn.of X T) g) rSetL E σ H := by
  obtain ⟨ρ, He, Wf, P, ⟨foot, R⟩, q⟩ := h
  unfold aug2S at q
  have Rl := R.rel M
  cases hi : ρ[i]? with
  | none => rw [hi] at q; exact q.elim
  | some o =>
  rw [hi] at q
  cases o with
  | none => exact q.elim
  | some l =>
  cases l with
  | lst b ds =>
    cases b with
    | false => exact q.elim
    | true =>
    obtain ⟨w, hw, ow⟩ := R.own i _ hi
    obtain ⟨a, vs, B, rfl, hvs, hF, ha⟩ := own_lstT (C := Cn.of X T) ow
    refine ⟨.ref a, hw, ρ, _, Rl, ?_⟩
    cases hk : fk ρ with
    | ex e' => rw [hk] at q; exact fun c o H' x y => q c o σ H' ⟨foot, R.ext1 x⟩ y
    | bad => rw [hk] at q; exact q
    | ok kd =>
    rw [hk] at q
    cases kd with
    | int k =>
      dsimp only at q
      split at q
      · rename_i hk0
        intro kv H1 A x n nd o1
        have ek : kv = .int k := o1.1
        subst ek
        cases hj : ds[k.toNat]? with
        | none => rw [hj] at q; exact q.elim
        | some dv =>
        rw [hj] at q
        cases dv with
        | int v =>
          have ha1 : H1 a = some (.lst vs) := x.e _ _ ha fun _ z => by cases z
          refine ⟨a, vs, k.toNat, .int v, rfl, by rw [Int.toNat_of_nonneg hk0], SqL.of ha1, hvs.int_at hj, ρ, _, Rl.ext1 x, ?_⟩
          dsimp only at q
          cases hx : fx ρ with
          | ex e' => rw [hx] at q; exact fun c o H' x2 y => q c o σ H' ⟨foot, R.ext1 (x.trans x2)⟩ y
          | bad => rw [hx] at q; exact q
          | ok yd =>
          rw [hx] at q
          cases yd with
          | int y =>
            intro yv H2 A2 x2 n2 nd2 o2
            have ey : yv = .int y := o2.1
            subst ey
            have R2 := (Rl.ext1 x).ext1 x2
            dsimp only at q
            cases hz : g (.int v) (.int y) with
            | none => rw [hz] at q; exact q.elim
            | some zd =>
            rw [hz] at q
            cases zd with
            | int z =>
              refine ⟨_, .int v, .int y, R2.al, R2.tb, ⟨rfl, rfl⟩, ⟨rfl, rfl⟩, ?_⟩
              rw [hz]
              intro zv H3 A3 x3 n3 nd3 o3
              have ez : zv = .int z := o3.1
              subst ez
              have hlt : k.toNat < ds.length := (List.getElem?_eq_some_iff.mp hj).1
              have q2 : PostS (Cn.of X T) He Wf P (mutE M i (fun ds d => some (ds.set k.toNat d)) ds (.int z) ρ) E Wx := by
                unfold mutE
                rw [show keepM M (.int z) ρ = ρ from rfl, hi]
                exact q
              refine mut_after (v := .int z) (d := .int z) (A := []) (g := fun ds d => some (ds.set k.toNat d)) (Q := fun Z => rSetL (.ref a) (.int k) (.int z) H3 Z) R hi hw ((x.trans x2).trans x3) (fun b hb => by cases hb) .nil ⟨rfl, rfl⟩ q2 fun W us es B' h1 h2 h3 h4 h5 h6 => ?_
              cases h5
              obtain ⟨F, f1, f2, f3⟩ := h2.set h3 hlt h4
              refine ⟨a, us, k, k.toNat, rfl, rfl, h1, ?_, h6 _ F f1 f2 f3⟩
              rw [h2.length]
              unfold ixN
              rw [if_pos hk0, if_pos (by omega)]
            | _ => exact q.elim
          | _ => exact q.elim
        | _ => exact q.elim
      · exact q.elim
    | _ => exact q.elim
  | _ => exact q.elim
theorem ds_aug2 {x : Str} {i : Nat} {o : Operator} {g : D → D → Option D} {fk fx : Env → Res D} (M : List Nat) (ho : OpR X (inplaceOp o) (r2D (Cn.of X T) g)) (hi : X.N[i]? = some x) (hk : DE X T M Wx ix fk) (he : DE X T M Wx e fx) (hv : Vis X.env.scope x := by first | exact Or.inl rfl | exact Or.inr (Or.inl rfl) | exact Or.inr (Or.inr rfl)) (hd : (x == ("__debug__" : Str)) = false := by decide) (hcd : (x == ("__classdict__" : Str)) = false := by decide)
    (ha : ∀ ov iv new, augStore ix ov iv new = (do holding [new, ov, iv] (setItem ov iv new); release [new, ov, iv] []; pure .next) := by intros; rfl) :
    DS X T Wx (.AugAssign (.Subscript (.Name x op) ix spos) o e pos) (aug2S M i fk g fx) :=
  ps_weak (ps_augS (pe_var hi hv hd hcd) hk get_nth he ho set_list ha) fun E σ H h => aug2_read h
end
end De
set_option Elab.async false
set_option linter.all false
set_option maxRecDepth 100000
namespace De
open PySem PySem.Spec PyProof.Rows L2

/-! ### list(range(n)), len(set(xs)) of unlike ints -/
def dLrng : D → Option D
  | .int n => if -(2 ^ 61) ≤ n ∧ n ≤ 16777216 then some (.lst true (rngD 0 n.toNat)) else none
  | _ => none
theorem owns_rgV {K : PySem.W.Frag} {W : Wd} {H : Hp} (n : Int) : Owns K W H (rgV 0 n) (rngD 0 n.toNat) [] := by
  have e : rgV 0 n = ((List.range n.toNat).map fun i : Nat => (0 + (i : Int))).map V.int := by
    unfold rgV
    rw [Int.sub_zero, List.map_map]; rfl
  have e2 : rngD 0 n.toNat = ((List.range n.toNat).map fun i : Nat => (0 + (i : Int))).map D.int := by
    unfold rngD
    rw [List.map_map]; rfl
  rw [e, e2]
  exact owns_intsD _
def dLenSet : D → Option D
  | .lst _ ds => (intsD ds).bind fun ns => if ns.Nodup ∧ ns.length ≤ 4000 then some (.int ns.length) else none
  | _ => none
section
variable {X : Cx} {T : List (Addr × Str)} {M : List Nat} {Wx : WX} {p p2 pos pos2 : Pos} {a : Expr} {f : Env → Res D}
theorem de_lrng (hc : X.calm = true) (hg : Gl X "list") (hm : X.mg "list" = none) (hg2 : Gl X "range") (hm2 : X.mg "range" = none) (ha : DE X T M Wx a f)
    (na : starEach [.Call (.Name "range" p2) [a] [] pos2] X.env = (false, eval (.Call (.Name "range" p2) [a] [] pos2) X.env) :: starEach [] X.env := by rfl) (na2 : starEach [a] X.env = (false, eval a X.env) :: starEach [] X.env := by rfl) :
    DE X T M Wx (.Call (.Name "list" p) [.Call (.Name "range" p2) [a] [] pos2] [] pos) (op1 dLrng f) := by
  refine pe_weak (pe_listRg hc hg hm (prg_1 hg2 hm2 ha na2) na) fun σ H Q ⟨ρ, W, r, q⟩ => ⟨ρ, W, r, (Post.bind r.al q).mono fun v H1 ⟨d, x, o, q⟩ => ?_⟩
  cases d with
  | int n =>
    have q : Post (Cn.of X T) W H1 (lift (if -(2 ^ 61) ≤ n ∧ n ≤ 16777216 then some (.lst true (rngD 0 n.toNat)) else none)) Q _ := q
    split at q
    · rename_i hz
      exact ⟨n, o.1, ⟨by omega, by omega, by omega, by omega, by omega⟩, fun l hl => RD.lst (C := Cn.of X T) (RD.post q) (owns_rgV n) hl⟩
    · exact q.elim
  | _ => exact q.elim
theorem de_lenSet (hg : Gl X "len") (hm : X.mg "len" = none) (hg2 : Gl X "set") (hm2 : X.mg "set" = none) (ha : DE X T M Wx a f) (hc : X.calm = true := by rfl)
    (na : starEach [a] X.env = (false, eval a X.env) :: starEach [] X.env := by rfl) : DE X T M Wx (.Call (.Name "len" p) [.Call (.Name "set" p2) [a] [] pos2] [] pos) (op1 dLenSet f) := by
  refine pe_weak (RZ.pe_lenSetI hg hm hg2 hm2 ha hc na) fun σ H Q ⟨ρ, W, r, q⟩ => ⟨ρ, W, r, (Post.bind r.al q).mono fun v H1 ⟨d, x, o, q⟩ => ?_⟩
  cases d with
  | lst b es =>
    have q : Post (Cn.of X T) W H1 (lift ((intsD (frzs es)).bind fun ns => if ns.Nodup ∧ ns.length ≤ 4000 then some (.int ns.length) else none)) Q _ := q
    cases hn : intsD (frzs es) with
    | none => rw [hn] at q; exact q.elim
    | some ns =>
      rw [hn] at q
      have q : Post (Cn.of X T) W H1 (lift (if ns.Nodup ∧ ns.length ≤ 4000 then some (.int ns.length) else none)) Q _ := q
      split at q
      · rename_i hz
        obtain ⟨l, vs, rfl, h1, h2⟩ := own_listF (C := Cn.of X T) (show Own _ _ _ _ (.lst false (frzs es)) [] from o)
        exact ⟨l, ns, rfl, by rw [← owns_ints h2 hn]; exact h1, hz.1, hz.2, RD.int (C := Cn.of X T) (RD.post q)⟩
      · exact q.elim
  | _ => exact q.elim
end
end De
set_option Elab.async false
set_option linter.all false
set_option maxRecDepth 100000
namespace De
open PySem PySem.Spec PyProof.Rows L2

/-! ### l.extend(xs) of a slot's own list -/
def gExt (ds : List D) (d : D) : Option (List D) := match d with
  | .lst _ es => if ds.length + es.length ≤ 16777216 then some (ds ++ es) else none
  | _ => none
section
variable {X : Cx} {T : List (Addr × Str)} {M : List Nat} {Wx : WX} {pos op apos cpos : Pos} {e : Expr}
theorem own_ext {K : PySem.W.Frag} {W : Wd} {H : Hp} {b : Bool} {v : V} {es : List D} {A : List Addr} (h : Own K W H v (.lst b es) A) : ∃ a vs B, v = .ref a ∧ H a = some (.lst vs) ∧ Owns K W H vs es B ∧ (∀ x ∈ B, x ∈ A) ∧ (A.Nodup → B.Nodup) := by
  cases b with
  | true =>
    obtain ⟨a, vs, B, e, h1, e2, h2⟩ := h
    exact ⟨a, vs, B, e, h2, h1, fun x hx => by rw [e2]; exact List.mem_cons_of_mem _ hx, fun n => by rw [e2] at n; exact (List.nodup_cons.mp n).2⟩
  | false =>
    obtain ⟨a, vs, B, e, h1, e2, e3, h2⟩ := h
    subst e3
    exact ⟨a, vs, [], e, h2.1, h1, fun x hx => absurd hx List.not_mem_nil, fun _ => List.nodup_nil⟩
theorem ds_extend {i : Nat} {f : Env → Res D} (h : PE X e (tBM X.K "list" rExtend (tVar i) (tCons (tD (Cn.of X T) M Wx f) tNil))) (hs : swapsWith e none pos.line X.env = pure false := by rfl) : DS X T Wx (.Expr e pos) (mutS M i f gExt) := by
  refine ps_weak (ps_expr h hs) fun E σ H q => ?_
  obtain ⟨a, h1, ⟨vs, h2⟩, q⟩ := mut_read (r := fun x y H Q => ∃ l b xs zs, x = .ref l ∧ y = .ref b ∧ H l = some (.lst xs) ∧ H b = some (.lst zs) ∧ xs.length + zs.length ≤ sizeLine ∧ Q (upd H l (.lst (xs ++ zs)))) (fun W a vs ds es v d H A B Q ha o1 o2 nd hg k => by
    unfold gExt at hg
    split at hg
    · rename_i c fs
      split at hg
      · rename_i hl
        cases hg
        obtain ⟨b, zs, B2, rfl, hb, o3, sub, nd2⟩ := own_ext o2
        obtain ⟨n1, n2, n3⟩ := List.nodup_append.mp nd
        refine ⟨a, b, vs, zs, rfl, rfl, ha, hb, by rw [o1.length, o3.length, ← sl_line]; exact hl, k _ _ (o1.app o3) (fun x hx => (List.mem_append.mp hx).imp id (sub x)) (List.nodup_append.mpr ⟨n1, nd2 n2, fun x hx y hy => n3 x hx y (sub y hy)⟩)⟩
      · cases hg
    · cases hg) q
  refine ⟨_, h1, .inl ⟨rfl, _, SqL.of h2⟩, ?_⟩
  obtain ⟨ρ, W, r, p⟩ := q
  exact ⟨ρ, W, r, p.mono fun v H1 ⟨l, b, xs, zs, e1, e2, e3, e4, e5, e6⟩ => ⟨l, b, xs, zs, e1, by rw [e2], e3, e4, e5, e6⟩⟩
theorem ds_ext {x : Str} {i : Nat} {f : Env → Res D} (M : List Nat) (hi : X.N[i]? = some x) (he : DE X T M Wx e f) (hv : Vis X.env.scope x := by first | exact Or.inl rfl | exact Or.inr (Or.inl rfl) | exact Or.inr (Or.inr rfl)) (hd : (x == ("__debug__" : Str)) = false := by decide) (hcd : (x == ("__classdict__" : Str)) = false := by decide)
    (hbase : attributeBase (.Name x op) "extend" X.env (eval (.Name x op) X.env) = eval (.Name x op) X.env := by rfl)
    (hfew : ((backTo cpos (starEach [e] X.env)).all (fun x => !x.1) && (backToKw cpos (keywordEach [] X.env)).all (fun x => x.1.isSome)
      && decide (([e] : List Expr).length + ([] : List Keyword).length + (if ([] : List Keyword).isEmpty then 0 else 1) < 30)) = true := by rfl)
    (hline : (apos.endLine == cpos.line) = true := by rfl) (hst : starEach [e] X.env = (false, eval e X.env) :: starEach [] X.env := by rfl)
    (hs : swapsWith (.Call (.Attribute (.Name x op) "extend" apos) [e] [] cpos) none pos.line X.env = pure false := by rfl) :
    DS X T Wx (.Expr (.Call (.Attribute (.Name x op) "extend" apos) [e] [] cpos) pos) (mutS M i f gExt) :=
  ds_extend (pe_bm PySem.F.plainAttrs_list PySem.F.slot_list_extend PySem.F.type_list_extend mt_extend (pe_var hi hv hd hcd) (pa_cons he pa_nil hst) hbase hfew hline hst rfl) hs
end
end De
set_option Elab.async false
set_option linter.all false
set_option maxRecDepth 100000
namespace De
open PySem PySem.Spec PyProof.Rows L2

/-! ### d.get(k, x), d.get(k) of a dict with numbers or words as keys -/
def isDic : D → Option (List Key × List D)
  | .dic _ ks ds => some (ks, frzs ds)
  | _ => none
def keyD : D → Option Key
  | .int i => some (.inl i)
  | .str s => some (.inr s)
  | _ => none
/-- what stands at the key -/
def lkD : List Key → List D → Key → Option D
  | k :: ks, d :: ds, j => if k = j then some d else lkD ks ds j
  | _, _, _ => none
def dget2A (fo fe fx : Env → Res D) : Env → Res D := fun ρ => (fo ρ).bind fun d => match isDic d with
  | none => .bad
  | some p => (fe ρ).bind fun y => match keyD y with
    | none => .bad
    | some k => (fx ρ).bind fun x => .ok ((lkD p.1 p.2 k).getD (frz x))
def dget1A (fo fe : Env → Res D) : Env → Res D := fun ρ => (fo ρ).bind fun d => match isDic d with
  | none => .bad
  | some p => (fe ρ).bind fun y => match keyD y with
    | none => .bad
    | some k => .ok ((lkD p.1 p.2 k).getD .non)
section
variable {X : Cx} {T : List (Addr × Str)} {M : List Nat} {Wx : WX} {apos cpos : Pos} {o e f : Expr} {fo fe fx : Env → Res D}
theorem own_isDic {W : Wd} {H : Hp} {v : V} {d : D} {p : List Key × List D} (h : isDic d = some p) (ow : Own X.K W H v (frz d) []) : ∃ a vs, v = .ref a ∧ p.1.length = vs.length ∧ Rd H a (.dK (p.1.zip vs)) ∧ Owns X.K W H vs p.2 [] := by
  cases d with
  | dic b ks es =>
    cases h
    obtain ⟨a, vs, B, e, hl, o1, e2, e3, h2, h3⟩ := ow
    subst e3
    exact ⟨a, vs, e, hl, h2, o1⟩
  | _ => cases h
theorem own_pl {K : PySem.W.Frag} {W : Wd} {H : Hp} {v : V} {d : D} (o : Own K W H v d []) : Own K (W.plus []) H v d [] := o.ext (Ext.refl (T := []) _) (fun a h => .inl (h.elim id fun z => absurd z List.not_mem_nil)) _
theorem own_keyD {W : Wd} {H : Hp} {v : V} {d : D} {k : Key} (h : keyD d = some k) (ow : Own X.K W H v (frz d) []) : v = kV k := by
  cases d with
  | int i => cases h; exact ow.1
  | str i => cases h; exact ow.1
  | _ => cases h
theorem lk_val {W : Wd} {H : Hp} {k : Key} : ∀ {ks : List Key} {ds : List D} {vs : List V}, ks.length = vs.length → Owns X.K W H vs ds [] →
    (lkD ks ds k = none ∧ valV (ks.zip vs) k = none) ∨ ∃ d v, lkD ks ds k = some d ∧ valV (ks.zip vs) k = some v ∧ Own X.K W H v d []
  | [], ds, vs, hl, o => .inl ⟨by cases ds <;> rfl, rfl⟩
  | k0 :: ks, [], vs, hl, o => by
    rw [o.1] at hl
    cases hl
  | k0 :: ks, d :: ds, vs, hl, o => by
    obtain ⟨v, ws, A1, A2, e1, e2, o1, o2⟩ := o
    obtain ⟨e3, e4⟩ := List.append_eq_nil_iff.mp e2.symm
    subst e1 e3 e4
    have hl : ks.length = ws.length := by simpa using hl
    by_cases hk : k0 = k
    · refine .inr ⟨d, v, by simp [lkD, hk], ?_, o1⟩
      simp [valV, List.find?, hk]
    · have z : lkD (k0 :: ks) (d :: ds) k = lkD ks ds k := by simp [lkD, hk]
      have z2 : valV ((k0 :: ks).zip (v :: ws)) k = valV (ks.zip ws) k := by simp [valV, List.find?, hk]
      rw [z, z2]
      exact lk_val hl o2
theorem de_dget2 (hu : X.A.units + 64 < cLine) (ho : DE X T M Wx o fo) (he : DE X T M Wx e fe) (hf : DE X T M Wx f fx)
    (hbase : attributeBase o "get" X.env (eval o X.env) = eval o X.env := by rfl)
    (few : ((backTo cpos (starEach [e, f] X.env)).all (fun x => !x.1) && (backToKw cpos (keywordEach [] X.env)).all (fun x => x.1.isSome)
      && decide (([e, f] : List Expr).length + ([] : List Keyword).length + (if ([] : List Keyword).isEmpty then 0 else 1) < 30)) = true := by rfl)
    (hline : (apos.endLine == cpos.line) = true := by rfl)
    (trees : backTo cpos (starEach [e, f] X.env) = [(false, eval e X.env), (false, eval f X.env)] := by rfl) :
    DE X T M Wx (.Call (.Attribute o "get" apos) [e, f] [] cpos) (dget2A fo fe fx) := by
  refine pe_weak (pe_dget2 (by omega) ho he hf ⟨hbase, few, hline, trees⟩) fun σ H Q ⟨ρ, W, r, p⟩ => ⟨ρ, W, r, ?_⟩
  refine (Post.bind (g := fun d => match isDic d with
    | none => .bad
    | some p => (fe ρ).bind fun y => match keyD y with
      | none => .bad
      | some k => (fx ρ).bind fun x => .ok ((lkD p.1 p.2 k).getD (frz x))) r.al p).mono fun v H1 ⟨d, x1, o1, p1⟩ => ?_
  cases hd : isDic d with
  | none => rw [hd] at p1; exact p1.elim
  | some g =>
    rw [hd] at p1
    obtain ⟨a, vs, rfl, hl, hr, ov⟩ := own_isDic hd o1
    refine ⟨a, rfl, .inl ⟨_, hr⟩, ρ, W, r.ext1 x1, (Post.bind (g := fun y => match keyD y with
      | none => .bad
      | some k => (fx ρ).bind fun x => .ok ((lkD g.1 g.2 k).getD (frz x))) (r.ext1 x1).al p1).mono fun y H2 ⟨d2, x2, o2, p2⟩ => ?_⟩
    cases hk : keyD d2 with
    | none => rw [hk] at p2; exact p2.elim
    | some k =>
      rw [hk] at p2
      have ey := own_keyD hk o2
      subst ey
      refine ⟨ρ, W, (r.ext1 x1).ext1 x2, (Post.bind (g := fun x => .ok ((lkD g.1 g.2 k).getD (frz x))) ((r.ext1 x1).ext1 x2).al p2).mono fun x H3 ⟨d3, x3, o3, p3⟩ => ?_⟩
      obtain ⟨a', vs', e', hl', hr', ov'⟩ := own_isDic hd (o1.ext (x2.trans x3) (fun a h => .inl h) _)
      cases e'
      refine ⟨_, .inl ⟨_, k, hr', rfl, rfl⟩, ?_⟩
      rcases lk_val (k := k) hl' ov' with ⟨e1, e2⟩ | ⟨dd, w, e1, e2, o4⟩
      · rw [e1] at p3
        rw [e2]
        exact p3 _ _ [] (Ext.refl _) (fun a h => absurd h List.not_mem_nil) List.nodup_nil (own_pl o3)
      · rw [e1] at p3
        rw [e2]
        exact p3 _ _ [] (Ext.refl _) (fun a h => absurd h List.not_mem_nil) List.nodup_nil (own_pl o4)
theorem de_dget1 (hu : X.A.units + 64 < cLine) (ho : DE X T M Wx o fo) (he : DE X T M Wx e fe)
    (hbase : attributeBase o "get" X.env (eval o X.env) = eval o X.env := by rfl)
    (few : ((backTo cpos (starEach [e] X.env)).all (fun x => !x.1) && (backToKw cpos (keywordEach [] X.env)).all (fun x => x.1.isSome)
      && decide (([e] : List Expr).length + ([] : List Keyword).length + (if ([] : List Keyword).isEmpty then 0 else 1) < 30)) = true := by rfl)
    (hline : (apos.endLine == cpos.line) = true := by rfl)
    (trees : backTo cpos (starEach [e] X.env) = [(false, eval e X.env)] := by rfl) :
    DE X T M Wx (.Call (.Attribute o "get" apos) [e] [] cpos) (dget1A fo fe) := by
  refine pe_weak (pe_dget1 (by omega) ho he ⟨hbase, few, hline, trees⟩) fun σ H Q ⟨ρ, W, r, p⟩ => ⟨ρ, W, r, ?_⟩
  refine (Post.bind (g := fun d => match isDic d with
    | none => .bad
    | some p => (fe ρ).bind fun y => match keyD y with
      | none => .bad
      | some k => .ok ((lkD p.1 p.2 k).getD .non)) r.al p).mono fun v H1 ⟨d, x1, o1, p1⟩ => ?_
  cases hd : isDic d with
  | none => rw [hd] at p1; exact p1.elim
  | some g =>
    rw [hd] at p1
    obtain ⟨a, vs, rfl, hl, hr, ov⟩ := own_isDic hd o1
    refine ⟨a, rfl, .inl ⟨_, hr⟩, ρ, W, r.ext1 x1, (Post.bind (g := fun y => match keyD y with
      | none => .bad
      | some k => .ok ((lkD g.1 g.2 k).getD .non)) (r.ext1 x1).al p1).mono fun y H2 ⟨d2, x2, o2, p2⟩ => ?_⟩
    cases hk : keyD d2 with
    | none => rw [hk] at p2; exact p2.elim
    | some k =>
      rw [hk] at p2
      have p2 : Post (Cn.of X T) W H2 (.ok ((lkD g.1 g.2 k).getD .non)) Q _ := p2
      have ey := own_keyD hk o2
      subst ey
      obtain ⟨a', vs', e', hl', hr', ov'⟩ := own_isDic hd (o1.ext x2 (fun a h => .inl h) _)
      cases e'
      refine ⟨_, .inl ⟨_, k, hr', rfl, rfl⟩, ?_⟩
      rcases lk_val (k := k) hl' ov' with ⟨e1, e2⟩ | ⟨dd, w, e1, e2, o4⟩
      · rw [e1] at p2
        rw [e2]
        exact p2 _ _ [] (Ext.refl _) (fun a h => absurd h List.not_mem_nil) List.nodup_nil ⟨rfl, rfl⟩
      · rw [e1] at p2
        rw [e2]
        exact p2 _ _ [] (Ext.refl _) (fun a h => absurd h List.not_mem_nil) List.nodup_nil (own_pl o4)
end
end De
set_option Elab.async false
set_option linter.all false
set_option maxRecDepth 100000
namespace De
open PySem PySem.Spec PyProof.Rows L2

/-! ### {} and {k: v} -/
def disp1A (fk fv : Env → Res D) : Env → Res D := fun ρ => (fk ρ).bind fun x => match keyD x with
  | none => .bad
  | some k => (fv ρ).bind fun y => .ok (.dic true [k] [y])
section
variable {X : Cx} {T : List (Addr × Str)} {M : List Nat} {Wx : WX} {pos : Pos} {e f : Expr} {fk fv : Env → Res D}
theorem own_key {K : PySem.W.Frag} {W : Wd} {H : Hp} {v : V} {d : D} {A : List Addr} {k : Key} (h : keyD d = some k) (ow : Own K W H v d A) : v = kV k := by
  cases d with
  | int i => cases h; exact ow.1
  | str i => cases h; exact ow.1
  | _ => cases h
theorem de_dnew : DE X T M Wx (.Dict [] [] pos) (fun _ => .ok (.dic true [] [])) := by
  refine pe_weak pe_dnewK fun σ H Q ⟨ρ, W, r, p⟩ q hq => ?_
  exact p (.ref q) _ [q] (.new hq) (fun a ha => by rw [List.mem_singleton.mp ha]; exact Al.no hq) (by simp) ⟨q, [], [], rfl, rfl, ⟨rfl, rfl⟩, rfl, upd_same⟩
theorem de_disp1 (hk : DE X T M Wx e fk) (hv : DE X T M Wx f fv) : DE X T M Wx (.Dict [some e] [f] pos) (disp1A fk fv) := by
  refine pe_weak (pe_disp (pps_cons hk hv pps_nil) rfl rfl (by simp) (by simp)) fun σ H Q ⟨ρ, W, r, p⟩ q hq => ?_
  have x0 : Ext T H (upd H q (.dK [])) := .new hq
  have hqa : Al (upd H q (.dK [])) q := .dK upd_same
  have r0 : Rel (Cn.of X T) M (W.plus [q]) σ (upd H q (.dK [])) ρ := r.ext x0 fun a h => h.elim .inl fun z => .inr (by rw [List.mem_singleton.mp z]; exact ⟨Al.no hq, hqa⟩)
  have p : Post (Cn.of X T) W H (disp1A fk fv ρ) Q _ := p
  refine ⟨ρ, W.plus [q], r0, ?_⟩
  unfold disp1A at p
  cases e1 : fk ρ with
  | ex e' => rw [e1] at p; exact fun c o H' x y => p c o H' (x0.trans x) y
  | bad => rw [e1] at p; exact p
  | ok dk =>
    rw [e1] at p
    intro x H1 A x1 n1 nd1 o1
    have p : Post (Cn.of X T) W H (match keyD dk with
      | none => .bad
      | some k => (fv ρ).bind fun y => .ok (.dic true [k] [y])) Q _ := p
    cases hkk : keyD dk with
    | none => rw [hkk] at p; exact p.elim
    | some kk =>
      rw [hkk] at p
      have ey := own_key hkk o1
      subst ey
      refine ⟨ρ, W.plus [q], r0.ext1 x1, ?_⟩
      have p : Post (Cn.of X T) W H ((fv ρ).bind fun y => .ok (.dic true [kk] [y])) Q _ := p
      cases e2 : fv ρ with
      | ex e' => rw [e2] at p; exact fun c o H' x y => p c o H' (x0.trans (x1.trans x)) y
      | bad => rw [e2] at p; exact p
      | ok dv =>
        rw [e2] at p
        have p : Post (Cn.of X T) W H (.ok (.dic true [kk] [dv])) Q _ := p
        intro y H2 A2 x2 n2 nd2 o2
        have hq2 : H2 q = some (.dK []) := x2.e _ _ (x1.e _ _ upd_same fun _ z => by cases z) fun _ z => by cases z
        have nq : q ∉ A2 := fun z => n2 q z (hqa.ext x1)
        have lk : likeO (.dK []) (.dK (mergeK [] [(kk, y)])) = true := rfl
        refine ⟨hq2, [(kk, y)], rfl, by simp, ?_⟩
        refine p (.ref q) _ (q :: A2) (extUpd hq2 lk (x0.trans (x1.trans x2)) (Al.no hq)) (fun a ha => ?_) (List.nodup_cons.mpr ⟨nq, nd2⟩) ⟨q, [y], A2, rfl, rfl, ?_, rfl, upd_same⟩
        · rcases List.mem_cons.mp ha with h | h
          · rw [h]; exact Al.no hq
          · exact fun z => n2 a h (z.ext (x0.trans x1))
        · have w : ((W.plus [q]).plus A2) q := .inl (.inr (List.mem_singleton.mpr rfl))
          refine Owns.one ((Own.upd hq2 lk w _ o2 nq).ext (.refl (T := T) _) (fun a h => .inl ?_) _)
          rcases h with h | h
          · exact .inl (.inl h)
          · rcases List.mem_cons.mp h with h | h
            · rw [h]; exact w
            · exact .inr h
end
end De
set_option Elab.async false
set_option linter.all false
set_option maxRecDepth 100000
namespace De
open PySem PySem.Spec PyProof.Rows L2

/-! ### k in d, k not in d of a dict -/
def dHas (d e : D) : Option Bool := (isDic e).bind fun p => (keyD d).map fun k => (lkD p.1 p.2 k).isSome
def dInD (d e : D) : Option D := (dHas d e).map .bl
def dNotInD (d e : D) : Option D := (dHas d e).map fun b => .bl (!b)
section
variable {X : Cx} {T : List (Addr × Str)}
theorem dHas_read {W : Wd} {H : Hp} {x y : V} {d e : D} {b : Bool} (ox : Own X.K W H x d []) (oy : Own X.K W H y e []) (h : dHas d e = some b) :
    ∃ a o, y = .ref a ∧ DGet H a x o ∧ b = o.isSome := by
  obtain ⟨p, h1, h2⟩ := Option.bind_eq_some_iff.mp h
  obtain ⟨k, h3, rfl⟩ := Option.map_eq_some_iff.mp h2
  have oy' := Own.frz (W' := W) (fun a z => z) _ oy (fun a z => absurd z List.not_mem_nil)
  obtain ⟨a, vs, e1, hl, hr, ov⟩ := own_isDic (X := X) h1 oy'
  have ex := own_key h3 ox
  subst ex e1
  refine ⟨a, _, rfl, .inl ⟨_, k, hr, rfl, rfl⟩, ?_⟩
  rcases lk_val (k := k) hl ov with ⟨q1, q2⟩ | ⟨dd, w, q1, q2, _⟩ <;> rw [q1, q2] <;> rfl
theorem dIn_ok (hu : X.A.units + 64 < cLine) : OpR X (compareOp .In) (r2D (Cn.of X T) dInD) := by
  intro pins s σ H x y v u Q I rx ry h
  obtain ⟨W, d, e, al, tb, ox, oy, q⟩ := h
  unfold dInD at q
  cases hi : dHas d e with
  | none => rw [hi] at q; exact q.elim
  | some b =>
    rw [hi] at q
    have q := RD.bl (C := Cn.of X T) (W := W) q
    obtain ⟨a, o, rfl, g, rfl⟩ := dHas_read ox oy hi
    obtain rfl : u = Value.ref a := ry
    exact d_in (by omega) I g rx fun s' I' => ⟨.bl o.isSome, H, I', rfl, q⟩
theorem dNotIn_ok (hu : X.A.units + 64 < cLine) : OpR X (compareOp .NotIn) (r2D (Cn.of X T) dNotInD) := by
  intro pins s σ H x y v u Q I rx ry h
  obtain ⟨W, d, e, al, tb, ox, oy, q⟩ := h
  unfold dNotInD at q
  cases hi : dHas d e with
  | none => rw [hi] at q; exact q.elim
  | some b =>
    rw [hi] at q
    have q := RD.bl (C := Cn.of X T) (W := W) q
    obtain ⟨a, o, rfl, g, rfl⟩ := dHas_read ox oy hi
    obtain rfl : u = Value.ref a := ry
    exact d_notIn (by omega) I g rx fun s' I' => ⟨.bl (!o.isSome), H, I', rfl, q⟩
/-- d[k] of a dict -/
def dIxD (d e : D) : Option D := (isDic d).bind fun p => (keyD e).bind fun k => lkD p.1 p.2 k
theorem ixD_ok (hu : X.A.units + 64 < cLine) : IxR X (r2D (Cn.of X T) dIxD) := by
  intro value slice pins s σ H x y v u Q I rx ry h hs
  obtain ⟨W, d, e, al, tb, ox, oy, q⟩ := h
  unfold dIxD at q
  cases h1 : isDic d with
  | none => rw [h1] at q; exact q.elim
  | some p =>
  cases h2 : keyD e with
  | none => rw [h1] at q; rw [Option.bind_some, h2] at q; exact q.elim
  | some k =>
  rw [h1, Option.bind_some, h2, Option.bind_some] at q
  have ox' := Own.frz (W' := W) (fun a z => z) _ ox (fun a z => absurd z List.not_mem_nil)
  obtain ⟨a, vs, e1, hl, hr, ov⟩ := own_isDic (X := X) h1 ox'
  have ex := own_key h2 oy
  subst ex e1
  obtain rfl : v = Value.ref a := rx
  rcases lk_val (k := k) hl ov with ⟨q1, q2⟩ | ⟨dd, w, q1, q2, o4⟩
  · rw [q1] at q; exact q.elim
  rw [q1] at q
  have q : RD (Cn.of X T) W H (some dd) Q := q
  have g : DGet H a (kV k) (some w) := .inl ⟨_, k, hr, rfl, q2.symm⟩
  have hT := dict_typeIs I g
  unfold subscriptTail
  refine wpAny_bind ?_
  rw [getitemInPython_of_ne hT.not_modules]
  refine wpAny_bind (wpAny_specialOf hT PySem.F.slot_dict_getitem.lookup ?_)
  have fin := d_getItem (Q := EP X pins σ Q) (E := X.xe) (show X.A.units + 1 < cLine by omega) I g ry fun w' s3 I3 rw' => ⟨w, H, I3, rw', q _ _ [] (Ext.refl _) (fun a h => absurd h List.not_mem_nil) List.nodup_nil (own_pl o4)⟩
  have fin2 : wpAny (model X.prog X.w) X.A (subscripted slice false (.ref a) u) (fun r s₃ => wpAny (model X.prog X.w) X.A (letTemporaryGo value (.ref a) r >>= fun _ => pure r) (EP X pins σ Q) X.xe s₃) X.xe s := by
    rw [hs]
    exact wpAny_operating (wpAny_mono fin (fun r s₃ h₃ => wpAny_bind (wpAny_letTemporaryGo (wpAny_pure h₃))) fun _ _ x => x)
  first
    | exact wpAny_pure (wpAny_bind fin2)
    | exact wpAny_bind (wpAny_pure (wpAny_bind fin2))
    | exact wpAny_bind fin2
end
end De
set_option Elab.async false
set_option linter.all false
set_option maxRecDepth 100000
namespace De
open PySem PySem.Spec PyProof.Rows L2

/-! ### d[k] = x of an own dict -/
def putD : List Key → List D → Key → D → List Key × List D
  | k0 :: ks, d0 :: ds, k, d => if k0 = k then (k0 :: ks, d :: ds) else (k0 :: (putD ks ds k d).1, d0 :: (putD ks ds k d).2)
  | _, _, k, d => ([k], [d])
theorem putK_cons {k0 k : Key} {v0 v : V} {r : List (Key × V)} : putK ((k0, v0) :: r) k v = if k0 = k then (k0, v) :: r.map (fun kv => if kv.1 = k then (kv.1, v) else kv) else (k0, v0) :: putK r k v := by
  unfold putK
  by_cases h : k0 = k
  · simp [h]
  · simp only [List.any_cons, h, decide_false, Bool.false_or, if_false, List.map_cons]
    split <;> simp
theorem map_no {k : Key} {v : V} : ∀ {ks : List Key} {vs : List V}, k ∉ ks → (ks.zip vs).map (fun kv => if kv.1 = k then (kv.1, v) else kv) = ks.zip vs
  | [], vs, _ => by simp
  | k0 :: ks, [], _ => by simp
  | k0 :: ks, v0 :: vs, h => by
    have h0 : ¬ k0 = k := fun z => h (by rw [z]; exact List.mem_cons_self ..)
    rw [List.zip_cons_cons, List.map_cons, map_no fun z => h (List.mem_cons_of_mem _ z), if_neg h0]
theorem put_zip {K : PySem.W.Frag} {W : Wd} {H : Hp} {k : Key} {v : V} {d : D} {A : List Addr} (o2 : Own K W H v d A) : ∀ {ks : List Key} {ds : List D} {vs : List V} {B : List Addr}, ks.Nodup → ks.length = vs.length → Owns K W H vs ds B → (B ++ A).Nodup →
    ∃ vs' F, putK (ks.zip vs) k v = (putD ks ds k d).1.zip vs' ∧ (putD ks ds k d).1.length = vs'.length ∧ Owns K W H vs' (putD ks ds k d).2 F ∧ (∀ b ∈ F, b ∈ B ∨ b ∈ A) ∧ F.Nodup
  | [], ds, vs, B, n, hl, o, nd => by
    have : vs = [] := List.length_eq_zero_iff.mp hl.symm
    subst this
    refine ⟨[v], A, ?_, ?_, ?_, fun b hb => .inr hb, (List.nodup_append.mp nd).2.1⟩
    · simp [putD, putK]
    · simp [putD]
    · simp only [putD]; exact Owns.one o2
  | k0 :: ks, [], vs, B, n, hl, o, nd => by rw [o.1] at hl; cases hl
  | k0 :: ks, d0 :: ds, vs, B, n, hl, o, nd => by
    obtain ⟨v0, ws, A1, A2, rfl, rfl, o3, o4⟩ := o
    obtain ⟨n1, n2⟩ := List.nodup_cons.mp n
    have hl : ks.length = ws.length := by simpa using hl
    obtain ⟨m1, m2, m3⟩ := List.nodup_append.mp nd
    obtain ⟨m4, m5, m6⟩ := List.nodup_append.mp m1
    rw [List.zip_cons_cons, putK_cons]
    by_cases h : k0 = k
    · refine ⟨v :: ws, A ++ A2, ?_, ?_, ?_, fun b hb => (List.mem_append.mp hb).elim .inr fun z => .inl (List.mem_append_right _ z), List.nodup_append.mpr ⟨m2, m5, fun b hb c hc z => m3 c (List.mem_append_right _ hc) b hb z.symm⟩⟩
      · rw [if_pos h, map_no (by rw [← h]; exact n1)]
        simp [putD, h]
      · simp [putD, h, hl]
      · simp only [putD, h, if_true]
        exact ⟨v, ws, A, A2, rfl, rfl, o2, o4⟩
    · obtain ⟨vs', F, e1, e2, e3, e4, e5⟩ := put_zip o2 n2 hl o4 (List.nodup_append.mpr ⟨m5, m2, fun b hb c hc => m3 b (List.mem_append_right _ hb) c hc⟩)
      refine ⟨v0 :: vs', A1 ++ F, ?_, ?_, ?_, fun b hb => (List.mem_append.mp hb).elim (fun z => .inl (List.mem_append_left _ z)) fun z => (e4 b z).imp (List.mem_append_right _) id, List.nodup_append.mpr ⟨m4, e5, fun b hb c hc => (e4 c hc).elim (fun z => m6 b hb c z) fun z => m3 b (List.mem_append_left _ hb) c z⟩⟩
      · rw [if_neg h, e1]
        simp [putD, h]
      · simp [putD, h, e2]
      · simp only [putD, h, if_false]
        exact ⟨v0, vs', A1, F, rfl, rfl, o3, e3⟩
end De
set_option Elab.async false
set_option linter.all false
set_option maxRecDepth 100000
namespace De
open PySem PySem.Spec PyProof.Rows L2

def mutD (M : List Nat) (i : Nat) (k : Key) (ks : List Key) (ds : List D) (d : D) (ρ : Env) : Out := match (keepM M d ρ)[i]? with
  | some (some (.dic true _ _)) => if ks.Nodup ∧ ks.length < 16777216 then .nx ((keepM M d ρ).set i (some (.dic true (putD ks ds k d).1 (putD ks ds k d).2))) else .bad
  | _ => .bad
def dputS (M : List Nat) (i : Nat) (fk fx : Env → Res D) : Env → Out := fun ρ => match ρ[i]? with
  | some (some (.dic true ks ds)) => (match fx ρ with
    | .ok d => (match fk ρ with
      | .ok y => (match keyD y with
        | some k => mutD M i k ks ds d ρ
        | none => .bad)
      | .ex e => .ex e ρ
      | .bad => .bad)
    | .ex e => .ex e ρ
    | .bad => .bad)
  | _ => .bad
theorem keepM_ownD {M : List Nat} {d : D} {ρ : Env} {i : Nat} {ks : List Key} {ds : List D} (h : ρ[i]? = some (some (.dic true ks ds))) {e : D} (k : (keepM M d ρ)[i]? = some (some e)) : e = .dic true ks ds ∨ ∃ es, e = .dic false ks es := by
  unfold keepM at k
  split at k
  · rw [h] at k; cases k; exact .inl rfl
  · rw [frzM_get] at k
    split at k
    · rw [h] at k
      have k : frz (.dic true ks ds) = e := by simpa using k
      exact .inr ⟨_, k.symm⟩
    · rw [h] at k; cases k; exact .inl rfl
theorem own_dicT {K : PySem.W.Frag} {W : Wd} {H : Hp} {v : V} {ks : List Key} {ds : List D} {F : List Addr} (h : Own K W H v (.dic true ks ds) F) : ∃ a vs B, v = .ref a ∧ ks.length = vs.length ∧ Owns K W H vs ds B ∧ F = a :: B ∧ H a = some (.dK (ks.zip vs)) := by
  obtain ⟨a, vs, B, e, hl, o, e2, h2⟩ := h
  exact ⟨a, vs, B, e, hl, o, e2, h2⟩
section
variable {X : Cx} {T : List (Addr × Str)} {M : List Nat} {Wx : WX} {pos op spos : Pos} {e ix : Expr}
theorem mutD_after {i : Nat} {k : Key} {E : Ends} {σ : L2.St} {H H1 : Hp} {He : Hp} {Wf : Wd} {P : List (V × D)} {ρ : Env} {foot : Nat → List Addr} {ks : List Key} {ds : List D} {d : D} {v : V} {A : List Addr} {a : Addr}
    (R : RelS (Cn.of X T) He Wf P σ H ρ foot) (hi : ρ[i]? = some (some (.dic true ks ds))) (hw : σ[i]? = some (some (.ref a))) (x : Ext T H H1) (n : ∀ a ∈ A, ¬ Al H a) (nd : A.Nodup) (o : Own X.K ((wdM Wf foot M).plus A) H1 v d A) (q : PostS (Cn.of X T) He Wf P (mutD M i k ks ds d ρ) E Wx) :
    ∃ H4, DPut H1 a (kV k) v H4 ∧ E.nx σ H4 := by
  obtain ⟨foot', R', nA, neA, o', ow', pin'⟩ := R.after x n o
  unfold mutD at q
  cases hk : (keepM M d ρ)[i]? with
  | none => rw [hk] at q; exact q.elim
  | some z =>
  rw [hk] at q
  cases z with
  | none => exact q.elim
  | some l =>
  rcases keepM_ownD hi hk with e | ⟨es, e⟩
  · subst e
    dsimp only at q
    split at q
    · rename_i hz
      obtain ⟨w2, hw2, ow2⟩ := ow' i _ hk
      rw [hw] at hw2
      cases hw2
      obtain ⟨a2, vs2, B2, e2, hl2, hvs2, hF2, ha2⟩ := own_dicT ow2
      cases e2
      have ndF := R'.nd i
      rw [hF2] at ndF
      obtain ⟨naB, ndB⟩ := List.nodup_cons.mp ndF
      have ndA : (B2 ++ A).Nodup := List.nodup_append.mpr ⟨ndB, nd, fun b hb c hc z => by
        subst z
        exact nA b hc (.inr ⟨i, by rw [hF2]; exact List.mem_cons_of_mem _ hb⟩)⟩
      obtain ⟨ws, F, p1, p2, p3, sub, ndF'⟩ := put_zip (k := k) o' hz.1 hl2 hvs2 ndA
      have lk : likeO (.dK (ks.zip vs2)) (.dK (putK (ks.zip vs2) k v)) = true := rfl
      have haf : a ∈ foot' i := by rw [hF2]; exact List.mem_cons_self ..
      have naF : a ∉ F := fun z => (sub a z).elim naB fun z => nA a z (.inr ⟨i, haf⟩)
      have wa : (wd Wf foot').plus A a := .inl (.inr ⟨i, haf⟩)
      refine ⟨_, .inl ⟨_, k, ha2, rfl, ?_, rfl⟩, ?_⟩
      · rw [List.length_zip, ← hl2, Nat.min_self, ← sl_line]; exact hz.2
      · exact q σ _ ⟨_, R'.mut (F := a :: F) hw haf ha2 lk nA neA ⟨a, ws, F, rfl, p2, p3.upd ha2 lk wa _ naF, rfl, by rw [upd_same, p1]⟩ (fun b hb => by
          rcases List.mem_cons.mp hb with z | z
          · rw [z]; exact .inl haf
          · exact (sub b z).imp (fun z => by rw [hF2]; exact List.mem_cons_of_mem _ z) id) (List.nodup_cons.mpr ⟨naF, ndF'⟩) ow' pin'⟩
    · exact q.elim
  · subst e
    exact q.elim
theorem dput_read {i : Nat} {fk fx : Env → Res D} {E : Ends} {σ : L2.St} {H : Hp} (h : tS (Cn.of X T) Wx (dputS M i fk fx) E σ H) : sDPut (tVar i) (tD (Cn.of X T) M Wx fk) (tD (Cn.of X T) M Wx fx) E σ H := by
  obtain ⟨ρ, He, Wf, P, ⟨foot, R⟩, q⟩ := h
  unfold dputS at q
  have Rl := R.rel M
  refine ⟨ρ, _, Rl, ?_⟩
  cases hi : ρ[i]? with
  | none => rw [hi] at q; exact q.elim
  | some o =>
  rw [hi] at q
  cases o with
  | none => exact q.elim
  | some l =>
  cases l with
  | dic b ks ds =>
    cases b with
    | false => exact q.elim
    | true =>
    obtain ⟨w, hw, ow⟩ := R.own i _ hi
    obtain ⟨a, vs, B, rfl, hl, hvs, hF, ha⟩ := own_dicT ow
    cases hx : fx ρ with
    | ex e' => rw [hx] at q; exact fun c o H' x y => q c o σ H' ⟨foot, R.ext1 x⟩ y
    | bad => rw [hx] at q; exact q
    | ok d =>
    rw [hx] at q
    intro v H1 A x n nd o
    refine ⟨.ref a, hw, ρ, _, Rl.ext1 x, ?_⟩
    dsimp only at q
    cases hk : fk ρ with
    | ex e' => rw [hk] at q; exact fun c o H' x2 y => q c o σ H' ⟨foot, R.ext1 (x.trans x2)⟩ y
    | bad => rw [hk] at q; exact q
    | ok kd =>
    rw [hk] at q
    intro kv H2 A2 x2 n2 nd2 o2
    dsimp only at q
    cases hkd : keyD kd with
    | none => rw [hkd] at q; exact q.elim
    | some k =>
      rw [hkd] at q
      have ek := own_key hkd o2
      subst ek
      have q : PostS (Cn.of X T) He Wf P (mutD M i k ks ds d ρ) E Wx := q
      obtain ⟨H4, g1, g2⟩ := mutD_after R hi hw (x.trans x2) n nd (o.ext x2 (fun a h => .inl h) _) q
      exact ⟨a, H4, rfl, g1, g2⟩
  | _ => exact q.elim
theorem ds_dput {x : Str} {i : Nat} {fk fx : Env → Res D} (M : List Nat) (hu : X.A.units + 64 < cLine) (hi : X.N[i]? = some x) (hk : DE X T M Wx ix fk) (he : DE X T M Wx e fx) (hv : Vis X.env.scope x := by first | exact Or.inl rfl | exact Or.inr (Or.inl rfl) | exact Or.inr (Or.inr rfl)) (hd : (x == ("__debug__" : Str)) = false := by decide) (hcd : (x == ("__classdict__" : Str)) = false := by decide)
    (hs : swapsWith e (some (.Subscript (.Name x op) ix spos)) pos.line X.env = pure false := by rfl) :
    DS X T Wx (.Assign [.Subscript (.Name x op) ix spos] e pos) (dputS M i fk fx) :=
  ps_weak (ps_dput (by omega) (pe_var hi hv hd hcd) hk he hs) fun E σ H h => dput_read h
end
end De
set_option Elab.async false
set_option linter.all false
set_option maxRecDepth 100000
namespace De
open PySem PySem.Spec PyProof.Rows L2
section
variable {X : Cx} {T : List (Addr × Str)}
/-! ### x //= e of ints -/
theorem ifdv_ok : OpR X (inplaceOp .FloorDiv) (r2D (Cn.of X T) dFdv) := by
  intro pins s σ H x y v u Q I rx ry h
  obtain ⟨W, d, e, al, tb, ox, oy, q⟩ := h
  obtain ⟨i, j, rfl, rfl, q2⟩ := dI_inv q
  clear q
  rename RD _ _ _ _ _ => q
  split at q
  · rename_i hz
    exact iop_fdiv pins s σ H x y v u Q I rx ry ⟨i, j, ox.1, oy.1, hz, q.int⟩
  · exact q.elim
end
end De
set_option Elab.async false
set_option linter.all false
set_option maxRecDepth 100000
namespace De
open PySem PySem.Spec PyProof.Rows L2
/-! ### xs[::-1] of a list -/
def dRev (d : D) : Option D := (isLst d).map fun ds => .lst true ds.reverse
theorem Owns.rev0 {K : PySem.W.Frag} {W : Wd} {H : Hp} : ∀ {ds : List D} {vs : List V}, Owns K W H vs ds [] → Owns K W H vs.reverse ds.reverse []
  | [], vs, o => by rw [o.1]; exact ⟨rfl, rfl⟩
  | d :: ds, vs, o => by
    obtain ⟨v, ws, A1, A2, rfl, e, o1, o2⟩ := o
    obtain ⟨rfl, rfl⟩ := List.append_eq_nil_iff.mp e.symm
    rw [List.reverse_cons, List.reverse_cons]
    exact (Owns.rev0 o2).app (Owns.one o1)
section
variable {X : Cx} {T : List (Addr × Str)} {M : List Nat} {Wx : WX} {p1 p2 p3 pos : Pos} {e : Expr} {k : Nat} {f : Env → Res D}
theorem de_revL (he : DE X T M Wx e f) : DE X T M Wx (.Subscript e (.Slice none none (some (.UnaryOp .USub (.Constant (.int 1) k p1) p2)) p3) pos) (op1 (fun d => dRev d) f) := by
  refine pe_weak (pe_revL he) fun σ H Q ⟨ρ, W, r, q⟩ => ⟨ρ, W, r, (Post.bind r.al q).mono fun v H1 ⟨d, x, o, q⟩ => ?_⟩
  have q : Post (Cn.of X T) W H1 (lift (dRev (frz d))) Q _ := q
  cases hd : isLst (frz d) with
  | none => unfold dRev at q; rw [hd] at q; exact q.elim
  | some ds =>
    unfold dRev at q
    rw [hd] at q
    obtain ⟨a, vs, rfl, h1, h2⟩ := own_isLst (X := X) hd (by rw [frz_frz]; exact o)
    exact ⟨a, vs, rfl, h1, fun l hl => RD.lst (C := Cn.of X T) (RD.post q) h2.rev0 hl⟩
end
end De
set_option Elab.async false
set_option linter.all false
set_option maxRecDepth 100000
namespace De
open PySem PySem.Spec PyProof.Rows L2

/-! ### lambdas: what stands at a made one, and its call -/
/-- a lambda's text: its own qualified name, parameters, the names that it reads outside -/
structure LamC where
  qual : Str
  params : Arguments
  body : Expr
  scope : Scope
  ps : List Str
  fs : List Str
structure LamC.Ok (L : LamC) (N : List Str) : Prop where
  kind : L.scope.kind = .function
  co : L.scope.isCoroutine = false
  gen : L.scope.isGenerator = false
  nd : N.Nodup
  pre : N.take (L.ps ++ L.fs).length = L.ps ++ L.fs
  par : ∀ x ∈ L.ps, L.scope.names.lookup x = some .local
  cell : ∀ y ∈ L.scope.names, y.2 ≠ .cell
  fre : ∀ y ∈ L.scope.names, y.2 = .free → y.1 ∈ L.fs
  isf : ∀ x ∈ L.fs, L.scope.names.lookup x = some .free
def lamB (L : LamC) (N : List Str) : Bool :=
  decide (L.scope.kind = .function) && !L.scope.isCoroutine && !L.scope.isGenerator && decide N.Nodup && decide (N.take (L.ps ++ L.fs).length = L.ps ++ L.fs) && L.ps.all (fun x => decide (L.scope.names.lookup x = some .local))
    && L.scope.names.all (fun y => !decide (y.2 = .cell) && (!decide (y.2 = .free) || decide (y.1 ∈ L.fs))) && L.fs.all (fun x => decide (L.scope.names.lookup x = some .free))
theorem lamOk_by {L : LamC} {N : List Str} (h : lamB L N = true) : L.Ok N := by
  unfold lamB at h
  simp only [List.all_eq_true, Bool.or_eq_true, Bool.and_eq_true, decide_eq_false_iff_not, decide_eq_true_eq, Bool.not_eq_true'] at h
  obtain ⟨⟨⟨⟨⟨⟨⟨h1, h2⟩, h3⟩, h4⟩, h5⟩, h6⟩, h7⟩, h8⟩ := h
  exact ⟨h1, h2, h3, h4, h5, h6, fun y hy => (h7 y hy).1, fun y hy e => (h7 y hy).2.elim (fun z => absurd e z) id, h8⟩
/-- the lambda's object at f, its cells hold vs; nothing of it is tracked -/
structure CloAt (L : LamC) (f c' : Addr) (cl : List (Str × Addr)) (vs : List V) (h : Heap) (H : Hp) : Prop where
  fn : ∃ (o : Obj) (pm ctv : Value), h.get? f = some o ∧ o.data = .func (PySem.W.kla_fn "<lambda>" L.qual L.params L.body L.scope cl pm (.ref c') ctv)
  code : h.CodeRec (.ref c') L.qual
  inj : ∀ one two c, cl.lookup one = some c → cl.lookup two = some c → one = two
  dom : ∀ x c, cl.lookup x = some c → H c = none ∧ ∃ v, h.IsCell c v
  len : vs.length = L.fs.length
  val : ∀ (i : Nat) (x : Str) (v : V), L.fs[i]? = some x → vs[i]? = some v → ∃ c u, cl.lookup x = some c ∧ h.IsCell c (some u) ∧ RelV v u
abbrev lamEv (L : LamC) (cl : List (Str × Addr)) (Lo f c' : Addr) : PySem.Env := PySem.W.envX L.qual L.scope Lo f (.ref c') cl
def lamX (CX : CXT) (P : Program) (w : World) (K : PySem.W.Frag) (mg : Str → Option Value) (base : Heap) (N : List Str) (L : LamC) (cl : List (Str × Addr)) (f c' : Addr) (A : Around) (outer : List PySem.Env) (s : Shared) (H : Hp) (E : XK) : Cx where
  prog := P
  w := w
  K := K
  mg := mg
  base := base
  A := A.deeper (lamEv L cl s.heap.objs.size f c')
  N := N
  s_0 := s
  H_0 := H
  env := lamEv L cl s.heap.objs.size f c'
  outer := outer
  stack := lamEv L cl s.heap.objs.size f c' :: outer
  ex := []
  fn := fun _ => false
  calm := true
  pn := []
  xe := fun e s' => wpAny (model P w) (A.deeper (lamEv L cl s.heap.objs.size f c')) (leaving (lamEv L cl s.heap.objs.size f c') e) (fun _ s'' => CX outer H s E e s'') (fun e' s'' => CX outer H s E e' s'') s'
section
variable {CX : CXT} {P : Program} {w : World} {K : PySem.W.Frag} {mg : Str → Option Value} {base : Heap} {N : List Str} {L : LamC} {cl : List (Str × Addr)} {f c' : Addr} {A : Around} {outer : List PySem.Env} {s : Shared} {H : Hp} {E : XK} {us : List Value} {vs ws : List V}
theorem zip_rev_lookup : ∀ {ps : List Str} {us : List Value} {i : Nat} {x : Str} {u : Value}, ps.Nodup → ps[i]? = some x → us[i]? = some u → (ps.zip us).reverse.lookup x = some u := by
  intro ps us i x u nd h1 h2
  have hm : (x, u) ∈ (ps.zip us).reverse := List.mem_reverse.mpr (List.mem_of_getElem? (i := i) (by rw [List.getElem?_zip_eq_some]; exact ⟨h1, h2⟩))
  have uniq : ∀ u', (x, u') ∈ (ps.zip us).reverse → u' = u := fun u' h' => by
    obtain ⟨j, hj⟩ := List.getElem?_of_mem (List.mem_reverse.mp h')
    rw [List.getElem?_zip_eq_some] at hj
    have hi : i < ps.length := (List.getElem?_eq_some_iff.mp h1).1
    have e : i = j := (List.getElem?_inj hi nd).mp (h1.trans hj.1.symm)
    rw [← e, h2] at hj
    exact (Option.some.inj hj.2).symm
  obtain ⟨u', e⟩ := L2.mem_lookup hm
  rw [e, uniq u' (PySem.mem_of_lookup e)]
theorem lam_start (O : L.Ok N) (hd : A.handled = none) (e0 : Env0 P w K mg base A outer s H) (C : CloAt L f c' cl ws s.heap H) (hl : vs.length = L.ps.length) (r : Vals vs us) {h1 : Heap} {tk : Nat}
    (hns : h1.Ns s.heap.objs.size fun y => (L.ps.zip us).reverse.lookup y) (kp : ∀ b o, s.heap.get? b = some o → h1.get? b = some o) (hcl : ∀ x ∈ L.fs, ∃ c, cl.lookup x = some c) :
    Inv (lamX CX P w K mg base N L cl f c' A outer s H E) [] (L2.start N (vs ++ ws)) H { s with heap := h1, toks := tk } := by
  have hN := congrArg List.length O.pre
  rw [List.length_take] at hN
  have hlen : (vs ++ ws).length = (L.ps ++ L.fs).length := by rw [List.length_append, List.length_append, hl, C.len]
  have ndP : (L.ps ++ L.fs).Nodup := by rw [← O.pre]; exact O.nd.sublist (List.take_sublist _ _)
  have noA : ∀ b : Addr, b ∉ (lamX CX P w K mg base N L cl f c' A outer s H E).ex := fun b z => absurd (show b ∈ ([] : List Addr) from z) (by simp)
  refine ⟨⟨e0.mod, O.kind, rfl, rfl, Nat.le_refl _, fun y z c a b => C.inj y z c a b, fun y hy => ?_, fun y c z _ => ?_, fun _ => hd, Around.frames_deeper e0.frames, .inr ⟨rfl, rfl⟩, fun b z => absurd z (noA b), e0.bs, e0.bsz, fun b _ _ => noA b, fun b z => absurd z (noA b), e0.funs, e0.frf⟩,
    rfl, e0.bare, Un.kept kp, ⟨_, hns, fun i y v a1 a2 a3 => ?_⟩, fun y c a => ?_, e0.hok.fresh (Nat.le_refl _), fun y c a => (C.dom y c a).1, fun p hp => absurd (show p ∈ ([] : List (Addr × Obj)) from hp) (by simp), e0.hok.kept kp, ?_⟩
  · have hy : L.scope.names.lookup y = some .cell ∨ L.scope.names.lookup y = some .free := hy
    rcases hy with hy | hy
    · exact absurd rfl (O.cell _ (PySem.mem_of_lookup hy))
    · exact hcl y (O.fre _ (PySem.mem_of_lookup hy) rfl)
  · have z : false = true := z
    cases z
  · have hi : i < (vs ++ ws).length := by
      by_cases hi : i < (vs ++ ws).length
      · exact hi
      · unfold L2.start at a2
        rw [List.getElem?_append_right (by simpa using hi), List.getElem?_replicate] at a2
        split at a2 <;> cases a2
    have ha : (vs ++ ws)[i]? = some v := by
      unfold L2.start at a2
      rw [List.getElem?_append_left (by simpa using hi), List.getElem?_map] at a2
      cases e : (vs ++ ws)[i]? with
      | none => rw [e] at a2; cases a2
      | some a => rw [e] at a2; cases a2; rfl
    have hp : (L.ps ++ L.fs)[i]? = some y := by
      rw [← O.pre, List.getElem?_take_of_lt (by omega)]
      exact a1
    by_cases hk : i < L.ps.length
    · rw [List.getElem?_append_left (by omega)] at ha
      rw [List.getElem?_append_left hk] at hp
      have ⟨u, hu, rv⟩ := r.get ha
      exact ⟨u, rv, .inl ⟨O.par y (List.mem_of_getElem? hp), zip_rev_lookup (List.nodup_append.mp ndP).1 hp hu⟩⟩
    · rw [List.getElem?_append_right (by omega), hl] at ha
      rw [List.getElem?_append_right (by omega)] at hp
      obtain ⟨c, u, q1, q2, q3⟩ := C.val _ y v hp ha
      exact ⟨u, q3, .inr ⟨.inr (O.isf y (List.mem_of_getElem? hp)), c, q1, q2.keeps kp⟩⟩
  · obtain ⟨_, v, q⟩ := C.dom y c a
    exact ⟨v, q.keeps kp⟩
  · unfold L2.start
    show _ = N.length
    rw [List.length_append, List.length_replicate, List.length_map]
    omega
/-- THE CALL of a lambda -/
theorem lam_run (O : L.Ok N) (hb : ∀ (q : Str) (cl : List (Str × Addr)) (pm cv ctv : Value) (us : List Value), us.length = L.ps.length → bindArgs (PySem.W.kla_fn "<lambda>" q L.params L.body L.scope cl pm cv ctv) ⟨us, []⟩ = pure (L.ps.zip us))
    {k : Nat} (hr : Room (k + 1) A) (e0 : Env0 P w K mg base A outer s H) (C : CloAt L f c' cl ws s.heap H) (hl : vs.length = L.ps.length) (r : Vals vs us) (hcl : ∀ x ∈ L.fs, ∃ c, cl.lookup x = some c) {Q : VK}
    (hbody : Room k (A.deeper (lamEv L cl s.heap.objs.size f c')) → ∃ t, PE (lamX CX P w K mg base N L cl f c' A outer s H E) L.body t ∧ t (L2.start N (vs ++ ws)) H Q) :
    codeAny (model P w) A (.call (.ref f) ⟨us, []⟩) (CR CX outer P w H s Q E) s := by
  obtain ⟨o, pm, ctv, ho, hdat⟩ := C.fn
  have lim := e0.mod.nolimit.keeps (h' := s.heap) fun b o e => (e0.bs b o e).1
  refine PySem.W.kla_callFunE hr.depth ho hdat O.co O.gen rfl C.code ?_
  rw [hb _ _ _ _ _ us (by rw [← r.length]; exact hl)]
  refine wpAny_pure (wpAny_newFunctionEnv O.cell (fun y hy => ?_) (fun h1 hns hsb => ⟨lim.fresh _ hsb, ?_⟩) O.kind)
  · exact O.par y.1 (List.of_mem_zip (show (y.1, y.2) ∈ _ from hy)).1
  · show codeAny _ _ (.expr L.body (lamEv L cl s.heap.objs.size f c')) _ _
    have kp : ∀ b o, s.heap.get? b = some o → h1.get? b = some o := fun b o e => hsb.extBut b o (Nat.ne_of_lt (Heap.lt_size e)) (Heap.get?_push_of_some _ e)
    have ⟨t, ht, hq⟩ := hbody (Room.deeper hr _)
    have J := lam_start (CX := CX) (E := E) (tk := s.toks + (L.ps.zip us).length) O hr.hd e0 C hl r hns kp hcl
    refine PySem.W.kla_codeExpr (wpAny_mono (ht.run [] _ _ H Q J hq) (fun v s' hv => ?_) fun e s' he => he)
    exact match hv with | ⟨w1, H1, J1, rv, q⟩ => ⟨w1, H1, J1.os, J1.bare, J1.base, J1.hok, rv, q⟩
end
end De
set_option Elab.async false
set_option linter.all false
set_option maxRecDepth 100000
namespace De
open PySem PySem.Spec PyProof.Rows L2

/-! ### a lambda is made: its object is tracked, its cells are the frame's -/
def FnO (f : Addr) (L : LamC) (cl : List (Str × Addr)) (c' : Addr) : HO := .ext fun h => ∃ (o : Obj) (pm ctv : Value), h.get? f = some o ∧ o.data = .func (PySem.W.kla_fn "<lambda>" L.qual L.params L.body L.scope cl pm (.ref c') ctv)
def CellO (c : Addr) (v : V) : HO := .ext fun h => ∃ u, h.IsCell c (some u) ∧ RelV v u
theorem fnO_tbl {f : Addr} {L : LamC} {cl : List (Str × Addr)} {c' : Addr} : ∀ ps, FnO f L cl c' ≠ .tbl ps := fun ps z => by unfold FnO at z; cases z
theorem cellO_tbl {c : Addr} {v : V} : ∀ ps, CellO c v ≠ .tbl ps := fun ps z => by unfold CellO at z; cases z
section
variable {P : Program} {w : World} {H : Hp} {h : Heap}
theorem fnO_ok {f : Addr} {L : LamC} {cl : List (Str × Addr)} {c' : Addr} (x : ∃ (o : Obj) (pm ctv : Value), h.get? f = some o ∧ o.data = .func (PySem.W.kla_fn "<lambda>" L.qual L.params L.body L.scope cl pm (.ref c') ctv)) : ObjOk P w H h f (FnO f L cl c') :=
  ⟨x, ⟨x.choose, x.choose_spec.choose_spec.choose_spec.1⟩, fun h1 h2 ⟨o, pm, ctv, a, b⟩ st => ⟨o, pm, ctv, st o a, b⟩⟩
theorem cellO_ok {c : Addr} {v : V} (x : ∃ u, h.IsCell c (some u) ∧ RelV v u) : ObjOk P w H h c (CellO c v) :=
  ⟨x, ⟨x.choose_spec.1.choose, x.choose_spec.1.choose_spec.1⟩, fun h1 h2 ⟨u, ⟨o, a, b⟩, r⟩ st => ⟨u, ⟨o, st o a, b⟩, r⟩⟩
/-- an entry more that leans on its own object alone -/
theorem HOk.ext1 (ok : HOk P w H h) {a : Addr} {φ : Heap → Prop} (n : H a = none) (x : ∀ H', ObjOk P w H' h a (.ext φ)) : HOk P w (upd H a (.ext φ)) h := fun b u e => by
  by_cases hb : b = a
  · subst hb
    rw [upd_same] at e
    cases e
    exact x _
  · rw [upd_ne hb] at e
    exact (ok b u e).stay (fun _ _ _ q => q) (fun c q => by rw [upd_ne (ne_of_none q n)]; exact q) fun c xs q => by rw [upd_ne (ne_of_none q n)]; exact q
end
section
variable {X : Cx} {s : Shared} {H : Hp} {σ : L2.St} {pins : List (Addr × Obj)}
/-- an object that was made since the entry is tracked from now on -/
theorem Inv.trackE (I : Inv X pins σ H s) {a : Addr} {φ : Heap → Prop} (n : H a = none) (x : ∀ H', ObjOk X.prog X.w H' s.heap a (.ext φ)) (hn : X.s_0.heap.objs.size ≤ a) (hL : a ≠ X.env.locals) (hc : ∀ y c, X.env.cells.lookup y = some c → c ≠ a) (hp : ∀ p ∈ X.pn ++ pins, p.1 ≠ a) :
    Inv X pins σ (upd H a (.ext φ)) s := by
  have nb : ∀ b o, X.s_0.heap.get? b = some o → b ≠ a := fun b o e => Nat.ne_of_lt (Nat.lt_of_lt_of_le (Heap.lt_size e) hn)
  refine ⟨I.ok, I.os, I.bare, ⟨I.base.keep, I.base.slot, fun b o e m q => ?_, I.base.there, fun b xs e => ?_, fun b o u e => ?_, fun b ps e => ?_⟩, I.loc, I.cell, ?_, fun y c e => ?_, fun p q => ?_, HOk.ext1 I.hok n x, I.len⟩
  · rw [upd_ne (nb b o e)]; exact I.base.free b o e m q
  · rw [upd_ne (ne_of_none (I.base.tups b xs e) n)]; exact I.base.tups b xs e
  · rw [upd_ne (ne_of_none (I.base.frzs b o u e) n)]; exact I.base.frzs b o u e
  · obtain ⟨more, q⟩ := I.base.tbls b ps e
    exact ⟨more, by rw [upd_ne (ne_of_none q n)]; exact q⟩
  · rw [upd_ne (Ne.symm hL)]; exact I.free
  · rw [upd_ne (hc y c e)]; exact I.freeC y c e
  · obtain ⟨e, m, r⟩ := I.pin p q
    exact ⟨e, by rw [upd_ne (hp p q)]; exact m, r⟩
theorem Inv.newNe (I : Inv X pins σ H s) {a : Addr} (hn : s.heap.objs.size ≤ a) : X.s_0.heap.objs.size ≤ a ∧ a ≠ X.env.locals ∧ (∀ y c, X.env.cells.lookup y = some c → c ≠ a) ∧ ∀ p ∈ X.pn ++ pins, p.1 ≠ a := by
  refine ⟨Nat.le_trans I.sz hn, Nat.ne_of_gt (Nat.lt_of_lt_of_le I.lt hn), fun y c e => ?_, fun p hp => ?_⟩
  · obtain ⟨v, o, ho, _⟩ := I.cell y c e
    exact Nat.ne_of_lt (Nat.lt_of_lt_of_le (Heap.lt_size ho) hn)
  · exact Nat.ne_of_lt (Nat.lt_of_lt_of_le (Heap.lt_size (I.pin p hp).1) hn)
/-- what a def that makes lambdas has: its code object and the table -/
structure Mk1 (K : PySem.W.Frag) (base : Heap) (mg : Str → Option Value) (T : List (Addr × Str)) (x q : Str) : Prop where
  tb : LamX.TabB base mg (He.cT K (x, none)).1 (He.cT K (x, none)).2
  mem : ((He.cT K (x, none)).2, q) ∈ T
  uni : ∀ p ∈ T, p.1 = (He.cT K (x, none)).2 → p.2 = q
def cloX (X : Cx) (L : LamC) : List (Str × Addr) := cloFrom X.env.cells L.scope.names []
theorem lam_new {T : List (Addr × Str)} {c P : Addr} {L : LamC} {pos : Pos} {E : Value → Shared → Prop} {Q : Value → Shared → Prop} (I : Inv X pins σ H s) (TB : LamX.TabB X.base X.mg c P) (hcode : X.env.code = .ref c) (hq : X.env.qual ++ "<lambda>" = L.qual)
    (hm : (P, L.qual) ∈ T) (hu : ∀ p ∈ T, p.1 = P → p.2 = L.qual) (hT : LamX.Tabs T H) (hdef : defaultsOf L.params X.env = ([], [])) (hfree : ∀ y ∈ L.scope.names, y.2 = .free → ∃ c, X.env.cells.lookup y.1 = some c)
    (go : ∀ (f c' : Addr) (H1 : Hp) (s' : Shared), Inv X pins σ H1 s' → Ext T H H1 → s.heap.objs.size ≤ f → H1 f = some (FnO f L (cloX X L) c') → H1 c' = some (LamX.CodeO c' L.qual) → Q (.ref f) s') :
    wpAny (model X.prog X.w) X.A (eval (.Lambda L.params L.body L.scope pos) X.env) Q E s := by
  obtain ⟨ps, hP, tr, am⟩ := hT _ hm
  apply PySem.W.kla_eval hdef
  rw [hq]
  have bP := TB.bm.keeps I.bk
  have gP : s.heap.get? P = some { cls := .none, data := .fields ps } := I.hok P _ hP
  -- the end of both ways: the new object is laid behind all, then tracked
  have fin : ∀ {H2 : Hp} {g : Heap} {tk : Nat} {c' : Addr} {ob : Obj}, Inv X pins σ H2 { s with heap := g.push ob, toks := tk } → s.heap.objs.size ≤ g.objs.size → Ext T H H2 → H2 g.objs.size = none → H2 c' = some (LamX.CodeO c' L.qual) →
      ob.isFreed = false → (∃ pm ctv, ob.data = .func (PySem.W.kla_fn "<lambda>" L.qual L.params L.body L.scope (cloX X L) pm (.ref c') ctv)) → Q (.ref g.objs.size) { s with heap := g.push ob, toks := tk } := by
    rintro H2 g tk c' ob J hs x nf hc hfd ⟨pm, ctv, hd⟩
    obtain ⟨n1, n2, n3, n4⟩ := Inv.newNe I hs
    have at_ : (g.push ob).get? g.objs.size = some ob := Heap.get?_push_size _ hfd
    have J2 := Inv.trackE J (a := g.objs.size) (φ := fun h => ∃ (o : Obj) (pm ctv : Value), h.get? g.objs.size = some o ∧ o.data = .func (PySem.W.kla_fn "<lambda>" L.qual L.params L.body L.scope (cloX X L) pm (.ref c') ctv)) nf (fun H' => fnO_ok ⟨ob, pm, ctv, at_, hd⟩) n1 n2 n3 n4
    refine go _ c' _ _ J2 (x.trans (.new nf)) hs upd_same ?_
    rw [upd_ne (ne_of_none hc nf)]
    exact hc
  cases look : codeAmong pos ps.toList with
  | some cv =>
    obtain ⟨c', e, hco⟩ := am pos cv look
    subst e
    refine PySem.W.kla_makeFunctionHit (c := c) (P := P) (mg := X.mg) (ps := ps) (L2.closure_ok hfree) I.ok.glob (I.mod.glob.keeps I.bk) hcode (TB.code.keeps I.bk) gP tr look bP fun ctv h' tk hx hsz => ?_
    exact fin (I.kept fun b o e => Heap.get?_push_of_some _ (hx b o e)) hsz (.refl H) (I.hok.fresh hsz) hco rfl ⟨_, ctv, rfl⟩
  | none =>
    refine PySem.W.kla_makeFunction (c := c) (P := P) (mg := X.mg) (ps := ps) (L2.closure_ok hfree) I.ok.glob (I.mod.glob.keeps I.bk) hcode (TB.code.keeps I.bk) gP tr look TB.gP bP fun c' ctv h' tk hx hge hlt ⟨_, oc, vs, t, e2, hoc, hd, hv⟩ htb => ?_
    cases e2
    have nC := I.hok.fresh hge
    have J := LamX.inv_table (t' := tk) (more := #[rawInt pos.line, rawInt pos.col, .ref c']) (h' := h'.push (PySem.W.kla_obj "<lambda>" L.qual L.params L.body L.scope (cloX X L) ((X.mg "__name__").getD .none) c' ctv)) I hP
      (fun b o nb got => Heap.get?_push_of_some _ (hx b o nb got)) (Heap.get?_push_of_some _ htb)
      hge ⟨oc, vs, t, Heap.get?_push_of_some _ hoc, hd, hv⟩
    have eN : LamX.ExtN H (upd (upd H P (.tbl (ps ++ #[rawInt pos.line, rawInt pos.col, .ref c']))) c' (LamX.CodeO c' L.qual)) := fun b o e n => by
      have b1 : b ≠ c' := ne_of_none e nC
      have b2 : b ≠ P := fun z => by
        rw [z, hP] at e
        exact n ps (Option.some.inj e).symm
      rw [upd_ne b1, upd_ne b2]
      exact e
    have hsz := Nat.le_trans hge (Nat.le_of_lt hlt)
    have eL := Array.toList_append (xs := ps) (ys := #[rawInt pos.line, rawInt pos.col, .ref c'])
    refine fin J hsz ⟨eN, fun tb p hp => ?_⟩ ?_ upd_same rfl ⟨_, ctv, rfl⟩
    · by_cases hb : p.1 = P
      · rw [hu p hp hb, hb]
        refine ⟨_, by rw [upd_ne (ne_of_none hP nC)]; exact upd_same, by rw [eL]; exact PySem.TriplesOk_snoc _ _ _ _ tr, fun p' cv hcv => ?_⟩
        rw [eL] at hcv
        rcases LamX.among_app _ tr hcv with z | z
        · obtain ⟨c0, e1, e2⟩ := am p' cv z
          exact ⟨c0, e1, eN _ _ e2 LamX.codeO_ne⟩
        · exact ⟨c', z, upd_same⟩
      · have ⟨tr2, a1, a2, a3⟩ := tb p hp
        exact ⟨tr2, by rw [upd_ne (ne_of_none a1 nC), upd_ne hb]; exact a1, a2, fun at_ cv got => let ⟨c0, e1, e2⟩ := a3 at_ cv got; ⟨c0, e1, eN _ _ e2 LamX.codeO_ne⟩⟩
    · rw [upd_ne (Nat.ne_of_gt hlt), upd_ne (Nat.ne_of_gt (Nat.lt_of_lt_of_le (Heap.lt_size gP) hsz))]
      exact I.hok.fresh hsz
end
end De
set_option Elab.async false
set_option linter.all false
set_option maxRecDepth 100000
namespace De
open PySem PySem.Spec PyProof.Rows L2

/-! ### key functions: a call that gives the key of an item -/
abbrev W0 : Wd := fun _ => False
theorem Own.w0 {K : PySem.W.Frag} {W : Wd} {H : Hp} {v : V} {d : D} {A : List Addr} (o : Own K W H v d A) : Own K W0 H v d A := o.ext (.refl (T := []) H) (fun _ z => z.elim) _
def KeyC (X : Cx) (T : List (Addr × Str)) (pins : List (Addr × Obj)) (σ : L2.St) (H : Hp) (A : Around) (q : Value) (x : V) (k : D) : Prop :=
  ∀ (s1 : Shared) (H1 : Hp) (v : Value), Inv X pins σ H1 s1 → Ext T H H1 → RelV x v → wpAny (model X.prog X.w) A (call q [v])
    (fun u s2 => ∃ kv H2, Inv X pins σ H2 s2 ∧ Ext T H1 H2 ∧ (∀ b o, s1.heap.get? b = some o → H1 b = none → b ∉ frs X.stack → s2.heap.get? b = some o ∧ H2 b = none) ∧ RelV kv u ∧ Own X.K W0 H2 kv k []) (fun _ _ => False) s1
/-- keys that may be compared -/
structure KeysOk (ks : List D) : Prop where
  lv : ∀ k ∈ ks, lv 20 k = true
  al : ∀ k ∈ ks, ∀ k' ∈ ks, PySem.W.alike (toP k) (toP k') = true
  nn : ∀ k ∈ ks, toP k ≠ .none
/-- an own record of the machine: out of the frame's reach -/
structure Apart (X : Cx) (pins : List (Addr × Obj)) (b : Addr) : Prop where
  loc : b ≠ X.env.locals
  fs : b ∉ X.fs
  st : b ∉ frs X.stack
  new : X.s_0.heap.objs.size ≤ b
  cel : ∀ x c, X.env.cells.lookup x = some c → c ≠ b
  pin : ∀ p ∈ X.pn ++ pins, p.1 ≠ b
section
variable {X : Cx} {T : List (Addr × Str)} {pins : List (Addr × Obj)} {σ : L2.St} {H H0 : Hp} {s : Shared}
theorem Apart.of (I : Inv X pins σ H s) {b : Addr} (h : s.heap.objs.size ≤ b) : Apart X pins b := by
  obtain ⟨n1, n2, n3, n4⟩ := Inv.newNe I h
  exact ⟨n2, I.nofs h, fun z => (List.mem_cons.mp (I.stkSub b z)).elim n2 (I.nofs h), n1, n3, n4⟩
theorem Inv.turnedA {h' : Heap} {t' : Nat} {it : Addr} (I : Inv X pins σ H s) (a : Apart X pins it) (k : ∀ b o, b ≠ it → s.heap.get? b = some o → h'.get? b = some o) (hn : H it = none) : Inv X pins σ H { s with heap := h', toks := t' } :=
  L2.Inv.turned I k hn a.loc (.inr a.new) a.cel a.pin
theorem SqL.extT {K : PySem.W.Frag} {H H' : Hp} {a : Addr} {vs : List V} (h : SqL K H a vs) (x : Ext T H H') : SqL K H' a vs := h.imp (fun r => rdExt r (fun _ z => by cases z) x) id
theorem lt_own {A : Around} {E : Value → Shared → Prop} {Q : Value → Shared → Prop} (I : Inv X pins σ H s) {W : Wd} {v u : V} {x y : Value} {d e : D} {B C : List Addr} (rx : RelV v x) (ry : RelV u y) (ox : Own X.K W H v d B) (oy : Own X.K W H u e C) (l1 : lv 20 d = true) (l2 : lv 20 e = true)
    (al : PySem.W.alike (toP d) (toP e) = true) (nn : toP d ≠ .none) (hu : A.units + 64 < cLine) (q : Q (.bool (PySem.W.dataLt (toP d) (toP e))) s) : wpAny (model X.prog X.w) A (richCompare .Lt x y) Q E s := by
  obtain ⟨as, r1⟩ := Dp.reads I (toP d) v x (own_dp 20 _ _ _ l1 ox) rx
  obtain ⟨bs, r2⟩ := Dp.reads I (toP e) u y (own_dp 20 _ _ _ l2 oy) ry
  have hd := (lv_depth 20 d l1).2
  exact PySem.W.rcLt_alike _ _ A s x y as bs r1 r2 al nn (by omega) _ _ _ _ q

/-- what holds of the loop of min(xs, key=q) behind i items; b: the place of the best one -/
structure MinAt (X : Cx) (T : List (Addr × Str)) (pins : List (Addr × Obj)) (σ : L2.St) (H0 : Hp) (a it S : Addr) (xs : List V) (ks : List D) (i b : Nat) (s : Shared) : Prop where
  ex : ∃ (H' : Hp) (c : Nat) (vb kb : Value) (vv kv : V) (d : D), Inv X pins σ H' s ∧ Ext T H0 H' ∧ H' S = none ∧ H' it = none ∧ s.heap.IsListIter it a i ∧
    s.heap.get? S = some { cls := .type "list", dict := none, data := .seq #[vb, kb] c, slots := #[] } ∧ xs[b]? = some vv ∧ RelV vv vb ∧ ks[b]? = some d ∧ RelV kv kb ∧ Own X.K W0 H' kv d []
def ltK (ks : List D) (i j : Nat) : Bool := PySem.W.dataLt (toP (ks.getD i .non)) (toP (ks.getD j .non))
theorem getD_of {ks : List D} {i : Nat} {d : D} (h : ks[i]? = some d) : ks.getD i .non = d := by rw [List.getD_eq_getElem?_getD, h]; rfl
variable {A : Around} {a it S q : Addr} {xs : List V} {ks : List D} {R : Result → Shared → Prop}
theorem upd_keep {h : Heap} {S b : Addr} {o : Obj} (f : Obj → Obj) (hb : b ≠ S) (e : h.get? b = some o) : (h.update S f).get? b = some o := (Heap.get?_update_ne _ _ _ _ hb).trans e
theorem min_loop (hl : xs.length = ks.length) (hs : SqL X.K H0 a xs) (K : KeysOk ks) (hkey : ∀ (i : Nat) (x : V) (k : D), xs[i]? = some x → ks[i]? = some k → KeyC X T pins σ H0 A.in1 (.ref q) x k) (aS : Apart X pins S) (aI : Apart X pins it) (nSI : S ≠ it) (hh : A.in1.handled = none)
    (hu : A.in1.units + 64 < cLine) (kw : List (Str × Value)) (fin : ∀ (H' : Hp) (s' : Shared) (u : Value) (v : V), Inv X pins σ H' s' → Ext T H0 H' → xs[argBest (ltK ks) (xs.length - 1)]? = some v → RelV v u → R (.ok (.ret u)) s') :
    ∀ (m i : Nat) (s : Shared), xs.length - i = m → 1 ≤ i → i ≤ xs.length → MinAt X T pins σ H0 a it S xs ks i (argBest (ltK ks) (i - 1)) s → codeAny (model X.prog X.w) A (.builtin "min.loop" ⟨[.ref it, .ref q, .ref S], kw⟩) R s := by
  intro m
  have nm : (toString "min" ++ toString ".loop" : String) = "min.loop" := by decide
  induction m with
  | zero =>
    rintro i s hm h1 h2 ⟨H', c, vb, kb, vv, kv, d, I, x, nS, nI, hit, hS, hb, rb, hd, rk, ok⟩
    have ei : i = xs.length := by omega
    obtain ⟨its, rv, p, hz⟩ := I.list (SqL.extT hs x)
    refine codeAny_builtin F.entry_min_loop ?_; rw [Around.under_plainId F.plain_min_loop _]; show wpAny _ _ (seqItems? (.ref _) >>= _) _ _ _
    apply wpAny_bind; refine wpAny_seqItems hS rfl ?_
    show wpAny _ A.in1 (tryCatch (pyNext (.ref it)) _ >>= _) _ _ s
    refine wpAny_bind (wpAny_tryCatch (wpAny_pyNext_list_end hh hit p.isList (by have := rv.length; simp; omega) fun h' eb => ?_))
    have J := Inv.turnedA (t' := s.toks) I aI (fun b o hb e => eb b o hb e) nI
    have gS := eb S _ nSI hS
    show wpAny _ _ (updateSeq S _ >>= _) _ _ _
    refine wpAny_bind (wpAny_updateSeq gS rfl (wpAny_bind (wpAny_letGo (wpAny_pure ?_))))
    have J2 := Inv.turnedA (t' := s.toks) (h' := h'.update S (Obj.mapSeq fun _ => #[])) J aS (fun b o hb e => upd_keep _ hb e) nS
    rw [ei] at hb
    exact fin H' _ vb vv J2 x hb rb
  | succ m ih =>
    rintro i s hm h1 h2 ⟨H', c, vb, kb, vv, kv, d, I, x, nS, nI, hit, hS, hb, rb, hd, rk, ok⟩
    have hi : i < xs.length := by omega
    obtain ⟨its, rv, p, hz⟩ := I.list (SqL.extT hs x)
    obtain ⟨v, hv⟩ : ∃ v, xs[i]? = some v := ⟨_, List.getElem?_eq_getElem hi⟩
    obtain ⟨k, hk⟩ : ∃ k, ks[i]? = some k := ⟨_, List.getElem?_eq_getElem (by omega)⟩
    obtain ⟨u, hu', ru⟩ := rv.get hv
    refine codeAny_builtin F.entry_min_loop ?_; rw [Around.under_plainId F.plain_min_loop _]; show wpAny _ _ (seqItems? (.ref _) >>= _) _ _ _
    apply wpAny_bind; refine wpAny_seqItems hS rfl ?_
    show wpAny _ A.in1 (tryCatch (pyNext (.ref it)) _ >>= _) _ _ s
    refine wpAny_bind (wpAny_tryCatch (wpAny_pyNext_list_item hit p.isList (x := u) (by simpa using hu') fun h' st' sb => ?_))
    have J := Inv.turnedA (t' := s.toks) I aI (fun b o hb e => (sb.2 b hb).trans e) nI
    have gS := (sb.2 S nSI).trans hS
    show wpAny _ A.in1 (tryCatch (holding [u] (call (.ref q) [u])) _ >>= _) _ _ _
    refine wpAny_bind (wpAny_tryCatch (wpAny_holding (wpAny_mono (hkey i v k hv hk _ H' u J x ru) (fun ku s2 q2 => ?_) fun _ _ z => z.elim)))
    obtain ⟨nkv, H2, I2, x2, keep, rk2, ok2⟩ := q2
    obtain ⟨gS2, nS2⟩ := keep S _ gS nS aS.st
    obtain ⟨ob, ho, hc', hd'⟩ := st'
    obtain ⟨gI2, nI2⟩ := keep it _ ho nI aI.st
    have mk : k ∈ ks := List.mem_of_getElem? hk
    have md : d ∈ ks := List.mem_of_getElem? hd
    show wpAny _ A.in1 (tryCatch (holding [u, ku] (richCompare .Lt ku kb >>= _)) _ >>= _) _ _ _
    refine wpAny_bind (wpAny_tryCatch (wpAny_holding (wpAny_bind (lt_own I2 rk2 rk ok2 (ok.ext x2 (fun _ z => .inl z) _) (K.lv k mk) (K.lv d md) (K.al k mk d md) (K.nn k mk) hu ?_))))
    apply wpAny_bind; refine wpAny_holding (wpAny_truthy_bool ?_)
    apply wpAny_bind; refine wpAny_letGo (wpAny_pure ?_)
    have eb : PySem.W.dataLt (toP k) (toP d) = ltK ks i (argBest (ltK ks) (i - 1)) := by
      show _ = PySem.W.dataLt (toP (ks.getD i .non)) (toP (ks.getD (argBest (ltK ks) (i - 1)) .non))
      rw [getD_of hk, getD_of hd]
    have en : argBest (ltK ks) (i + 1 - 1) = if ltK ks i (argBest (ltK ks) (i - 1)) = true then i else argBest (ltK ks) (i - 1) := by
      obtain ⟨j, rfl⟩ : ∃ j, i = j + 1 := ⟨i - 1, by omega⟩
      rfl
    rw [eb]
    cases hbt : ltK ks i (argBest (ltK ks) (i - 1)) with
    | true =>
      simp only [if_true]
      refine wpAny_bind (wpAny_updateSeq gS2 rfl (wpAny_bind (wpAny_letGo ?_)))
      rw [nm]
      refine wpAny_pure ⟨plainId_quiet F.plain_min_loop _, ih (i + 1) _ (by omega) (by omega) (by omega) ?_⟩
      rw [en, hbt, if_pos rfl]
      exact ⟨H2, _, u, ku, v, nkv, k, Inv.turnedA (t' := s2.toks) I2 aS (fun b o hb e => upd_keep _ hb e) nS2, x.trans x2, nS2, nI2, ⟨ob, upd_keep _ (Ne.symm nSI) gI2, hc', hd'⟩, Heap.get?_update_self _ gS2 rfl, hv, ru, hk, rk2, ok2⟩
    | false =>
      rw [if_neg (by decide)]
      apply wpAny_bind; apply wpAny_letGo
      rw [nm]
      refine wpAny_pure ⟨plainId_quiet F.plain_min_loop _, ih (i + 1) _ (by omega) (by omega) (by omega) ?_⟩
      rw [en, hbt, if_neg (by decide)]
      exact ⟨H2, c, vb, kb, vv, kv, d, I2, x.trans x2, nS2, nI2, ⟨ob, gI2, hc', hd'⟩, gS2, hb, rb, hd, rk, ok.ext x2 (fun _ z => .inl z) _⟩
end
end De
set_option Elab.async false
set_option linter.all false
set_option maxRecDepth 100000
namespace De
open PySem PySem.Spec PyProof.Rows L2

/-! ### the promise of a lambda -/
structure LamS (P : Program) (w : World) (K : PySem.W.Frag) (mg : Str → Option Value) (base : Heap) (T : List (Addr × Str)) (L : LamC) (k : Nat) (F : List D → Res D) : Prop where
  ex : ∃ (N : List Str) (M : List Nat) (g : Env → Res D), L.Ok N ∧
    (∀ (q : Str) (cl : List (Str × Addr)) (pm cv ctv : Value) (us : List Value), us.length = L.ps.length → bindArgs (PySem.W.kla_fn "<lambda>" q L.params L.body L.scope cl pm cv ctv) ⟨us, []⟩ = pure (L.ps.zip us)) ∧
    (∀ ds : List D, F ds = g (env0 N.length ds)) ∧
    ∀ (cl : List (Str × Addr)) (f c' : Addr) (A : Around) (outer : List PySem.Env) (s : Shared) (H : Hp) (E : XK), Room k (A.deeper (lamEv L cl s.heap.objs.size f c')) →
      PE (lamX (L2.CX P w) P w K mg base N L cl f c' A outer s H E) L.body (tD ⟨K, T, mg⟩ M (fun c o _ H => E c o H) g)
theorem LamS.mono {P : Program} {w : World} {K : PySem.W.Frag} {mg : Str → Option Value} {base : Heap} {T : List (Addr × Str)} {L : LamC} {j k : Nat} {F : List D → Res D} (h : LamS P w K mg base T L j F) (le : j ≤ k) : LamS P w K mg base T L k F := by
  obtain ⟨N, M, g, O, b, e, r⟩ := h.ex
  exact ⟨N, M, g, O, b, e, fun cl f c' A outer s H E hr => r cl f c' A outer s H E (hr.mono le)⟩
section
variable {P : Program} {w : World} {K : PySem.W.Frag} {mg : Str → Option Value} {base : Heap} {T : List (Addr × Str)} {L : LamC} {k : Nat} {F : List D → Res D} {cl : List (Str × Addr)} {f c' : Addr} {A : Around} {outer : List PySem.Env} {s : Shared} {H : Hp} {E : XK} {us : List Value} {vs ws : List V} {ds es : List D} {W : Wd} {Q : VK}
theorem relE0 {C : Cn} {N : List Str} {M : List Nat} (al : ∀ a, W a → Al H a) (tb : LamX.Tabs C.T H) (o : Owns C.K W H vs ds []) (hn : ds.length ≤ N.length) : Rel C M W (L2.start N vs) H (env0 N.length ds) := by
  refine ⟨fun i _ d e => ?_, al, tb, ?_⟩
  · have hi : i < ds.length := by
      by_cases hi : i < ds.length
      · exact hi
      · unfold env0 at e
        rw [List.getElem?_append_right (by simpa using hi), List.getElem?_replicate] at e
        split at e <;> cases e
    unfold env0 at e
    rw [List.getElem?_append_left (by simpa using hi), List.getElem?_map] at e
    cases hd : ds[i]? with
    | none => rw [hd] at e; cases e
    | some d0 =>
      rw [hd] at e
      cases e
      obtain ⟨v, hv, ov⟩ := o.get hd
      exact ⟨v, start_get hv, ov.frz (fun _ h => h) _ fun a ha => by cases ha⟩
  · have := o.length
    unfold L2.start env0
    simp only [List.length_append, List.length_map, List.length_replicate]
    omega
theorem LamS.call (S : LamS P w K mg base T L k F) (hr : Room (k + 1) A) (e0 : Env0 P w K mg base A outer s H) (C : CloAt L f c' cl ws s.heap H) (al : ∀ a, W a → Al H a) (tb : LamX.Tabs T H) (r : Vals vs us) (o : Owns K W H vs ds []) (oc : Owns K W H ws es []) (hl : ds.length = L.ps.length)
    (p : Post ⟨K, T, mg⟩ W H (F (ds ++ es)) Q E) : codeAny (model P w) A (.call (.ref f) ⟨us, []⟩) (CR (L2.CX P w) outer P w H s Q E) s := by
  obtain ⟨N, M, g, O, hb, hF, hrun⟩ := S.ex
  have hN := congrArg List.length O.pre
  rw [List.length_take] at hN
  have lv := o.length
  have lw := oc.length
  have lc := C.len
  refine lam_run O hb hr e0 C (by omega) r (fun x hx => ?_) fun hr' => ⟨_, hrun cl f c' A outer s H E hr', ?_⟩
  · obtain ⟨i, hi⟩ := List.getElem?_of_mem hx
    have hi' : i < ws.length := by rw [lc]; exact (List.getElem?_eq_some_iff.mp hi).1
    obtain ⟨c, u, q1, _⟩ := C.val i x _ hi (List.getElem?_eq_getElem hi')
    exact ⟨c, q1⟩
  · have ob : Owns K W H (vs ++ ws) (ds ++ es) [] := Owns.app (A := []) (B := []) o oc
    refine ⟨env0 N.length (ds ++ es), W, relE0 (C := ⟨K, T, mg⟩) al tb ob (by simp only [List.length_append] at hN ⊢; omega), ?_⟩
    rw [← hF]
    exact p
end

/-! ### the frame's own lambdas -/
section
variable {X : Cx} {T : List (Addr × Str)} {pins : List (Addr × Obj)} {σ : L2.St} {H : Hp} {s : Shared} {L : LamC} {N : List Str} {f c' : Addr} {ws : List V}
def mkB (sc : Scope) (L : LamC) : Bool := L.fs.all fun x => decide (sc.names.lookup x = some .cell) || decide (sc.names.lookup x = some .free)
theorem clo_own (I : Inv X pins σ H s) (O : L.Ok N) (mk : mkB X.env.scope L = true) (hf : H f = some (FnO f L (cloX X L) c')) (hc : H c' = some (LamX.CodeO c' L.qual)) (hl : ws.length = L.fs.length)
    (cap : ∀ (i : Nat) (x : Str) (v : V), L.fs[i]? = some x → ws[i]? = some v → ∃ j : Nat, X.N[j]? = some x ∧ σ[j]? = some (some v)) : CloAt L f c' (cloX X L) ws s.heap H := by
  have kd : ∀ x ∈ L.fs, X.env.kindOf x = some .cell ∨ X.env.kindOf x = some .free := fun x hx => by
    have q := List.all_eq_true.mp mk x hx
    simp only [Bool.or_eq_true, decide_eq_true_eq] at q
    exact q
  have hfree : ∀ y ∈ L.scope.names, y.2 = .free → ∃ c, X.env.cells.lookup y.1 = some c := fun y hy e => I.ok.has _ (kd _ (O.fre y hy e))
  have cm : ∀ {y c}, (cloX X L).lookup y = some c → X.env.cells.lookup y = some c := fun {y c} e => by
    rcases L2.cloFrom_mem (PySem.mem_of_lookup e) with z | ⟨h1, h2⟩
    · cases z
    · obtain ⟨c1, hc1⟩ := hfree _ h1 rfl
      have hc1 : X.env.cells.lookup y = some c1 := hc1
      have e2 : c = c1 := by rw [h2, hc1]; rfl
      rw [e2]
      exact hc1
  refine ⟨(I.hok f _ hf).1, ?_, fun x y c a b => I.ok.inj x y c (cm a) (cm b), fun x c a => ⟨I.freeC x c (cm a), I.cell x c (cm a)⟩, hl, fun i x v h1 h2 => ?_⟩
  · obtain ⟨⟨oc, vs, t, a1, a2, a3⟩, _, _⟩ := I.hok c' _ hc
    exact ⟨c', oc, vs, t, rfl, a1, a2, a3⟩
  · obtain ⟨j, q1, q2⟩ := cap i x v h1 h2
    have hx := List.mem_of_getElem? h1
    obtain ⟨m, _, lo⟩ := I.loc
    obtain ⟨u, ru, lk⟩ := lo j x v q1 q2 ((kd x hx).elim (fun z => .inr (.inl z)) (fun z => .inr (.inr z)))
    have hn : (x, NameKind.free) ∈ L.scope.names := PySem.mem_of_lookup (O.isf x hx)
    obtain ⟨c2, h3⟩ := L2.mem_lookup (L2.cloFrom_has (cells := X.env.cells) (acc := []) hn)
    rcases lk with ⟨z, _⟩ | ⟨_, c3, e3, z⟩
    · rcases kd x hx with z2 | z2 <;> rw [z] at z2 <;> cases z2
    · have e4 := cm (y := x) (c := c2) h3
      rw [e3] at e4
      cases e4
      exact ⟨_, u, h3, z, ru⟩
/-- the slots of the captured names -/
structure Caps (X : Cx) (L : LamC) (cs : List Nat) : Prop where
  len : cs.length = L.fs.length
  at_ : ∀ (i : Nat) (x : Str), L.fs[i]? = some x → ∃ j : Nat, cs[i]? = some j ∧ X.N[j]? = some x
def capsB (N : List Str) (fs : List Str) (cs : List Nat) : Bool := decide (cs.length = fs.length) && decide (cs.map (N[·]?) = fs.map some)
theorem caps_by {X : Cx} {L : LamC} {cs : List Nat} (h : capsB X.N L.fs cs = true) : Caps X L cs := by
  unfold capsB at h
  simp only [Bool.and_eq_true, decide_eq_true_eq] at h
  refine ⟨h.1, fun i x e => ?_⟩
  have hi : i < cs.length := by rw [h.1]; exact (List.getElem?_eq_some_iff.mp e).1
  refine ⟨cs[i], List.getElem?_eq_getElem hi, ?_⟩
  have q := congrArg (fun l => l[i]?) h.2
  simp only [List.getElem?_map, e, List.getElem?_eq_getElem hi, Option.map_some, Option.some.injEq] at q
  exact q
/-- the captured values, as the frame holds them -/
def capD (ρ : Env) : List Nat → Option (List D)
  | [] => some []
  | j :: cs => match ρ[j]? with
    | some (some d) => (capD ρ cs).map (frz d :: ·)
    | _ => none
theorem capD_len {ρ : Env} : ∀ {cs : List Nat} {es : List D}, capD ρ cs = some es → es.length = cs.length
  | [], es, h => by cases h; rfl
  | j :: cs, es, h => by
    unfold capD at h
    split at h
    · cases q : capD ρ cs with
      | none => rw [q] at h; cases h
      | some r => rw [q] at h; cases h; simp [capD_len q]
    · cases h
theorem caps_read {C : Cn} {M : List Nat} {W : Wd} {ρ : Env} (r : Rel C M W σ H ρ) : ∀ {cs : List Nat} {es : List D}, (∀ j ∈ cs, j ∈ M) → capD ρ cs = some es → ∃ ws : List V, ws.length = cs.length ∧ (∀ (i j : Nat) (v : V), cs[i]? = some j → ws[i]? = some v → σ[j]? = some (some v)) ∧ Owns C.K W H ws es []
  | [], es, _, h => by cases h; exact ⟨[], rfl, fun i j v h => by simp at h, rfl, rfl⟩
  | j :: cs, es, hm, h => by
    unfold capD at h
    split at h
    · rename_i d e
      cases q : capD ρ cs with
      | none => rw [q] at h; cases h
      | some r' =>
        rw [q] at h
        cases h
        obtain ⟨v, hv, ov⟩ := r.v j (hm j (List.mem_cons_self ..)) d e
        obtain ⟨ws, h1, h2, h3⟩ := caps_read r (fun j hj => hm j (List.mem_cons_of_mem _ hj)) q
        refine ⟨v :: ws, by simp [h1], fun i j' v' a b => ?_, v, ws, [], [], rfl, rfl, ov, h3⟩
        cases i with
        | zero => simp at a b; subst a b; exact hv
        | succ i => exact h2 i j' v' (by simpa using a) (by simpa using b)
    · cases h
/-- the key of one item -/
def keyR (F : List D → Res D) (es : List D) (d : D) : Option D := match F (d :: es) with
  | .ok k => some (frz k)
  | _ => none
theorem keyC_own {A : Around} {k : Nat} {F : List D → Res D} {cs : List Nat} {C0 : Caps X L cs} {ws : List V} {es : List D} {x : V} {d kd : D} {W : Wd} (S : LamS X.prog X.w X.K X.mg X.base T L k F) (mk : mkB X.env.scope L = true) (hA : A.frames = some X.stack) (hr : Room (k + 1) A)
    (hp1 : L.ps.length = 1) (hf : H f = some (FnO f L (cloX X L) c')) (hc : H c' = some (LamX.CodeO c' L.qual)) (tb : LamX.Tabs T H) (hw : ws.length = cs.length) (hσ : ∀ (i j : Nat) (v : V), cs[i]? = some j → ws[i]? = some v → σ[j]? = some (some v)) (oc : Owns X.K W H ws es [])
    (o : Own X.K W H x d []) (hk : keyR F es d = some kd) : KeyC X T pins σ H A (.ref f) x kd := by
  intro s1 H1 v I x1 rv
  unfold keyR at hk
  split at hk
  · rename_i k0 e
    cases hk
    obtain ⟨N, M, g, O, _⟩ := S.ex
    have CA := clo_own I O mk (x1.e _ _ hf fnO_tbl) (x1.e _ _ hc LamX.codeO_ne) (ws := ws) (by rw [hw, C0.len]) fun i y u h1 h2 => by
      obtain ⟨j, q1, q2⟩ := C0.at_ i y h1
      exact ⟨j, q2, hσ i j u q1 h2⟩
    have e0 : Env0 X.prog X.w X.K X.mg X.base A X.stack s1 H1 := by
      obtain ⟨a1, a2, a3, a4, a5, a6, a7, a8⟩ := Inv.env0 I
      exact ⟨hA, a2, a3, a4, a5, a6, a7, a8⟩
    have rc := S.call (E := fun _ _ _ => False) (Q := fun kv H2 => Ext T H1 H2 ∧ Own X.K W0 H2 kv (frz k0) []) (W := W0) (ds := [d]) (es := es) hr e0 CA (fun _ z => z.elim) (x1.t tb) (.cons rv .nil : Vals [x] [v]) (Owns.one ((Own.w0 o).ext x1 (fun _ z => .inl z) _))
      (Owns.ext x1 (fun a (z : False) => z.elim) _ oc) (by rw [hp1]; rfl) (by
        show Post _ _ _ (F (d :: es)) _ _
        rw [e]
        exact fun kv H2 A2 x2 n nd ok => ⟨x2, ok.frz (fun a h => .inl h) _ fun a ha z => z⟩)
    refine wpAny_call (codeAny_mono rc fun r s2 hq => ?_)
    cases r with
    | error e => exact (cx_no hq).elim
    | ok fl =>
      cases fl with
      | ret u =>
        have hq : CE X.stack X.prog X.w H1 s1 _ u s2 := hq
        obtain ⟨kv, H2, I2, r2, q2⟩ := Inv.after I hq
        obtain ⟨kv', H2', os, bare, un, hok, r2', q2'⟩ := hq
        exact ⟨kv', H2', by
          obtain ⟨hh, g, d, t, os'⟩ := s2
          obtain rfl : os' = s1.os := os
          exact I.call (h' := hh) (g' := g) (d' := d) (t' := t) (ch := []) un hok bare (fun b z => absurd z (by simp)), q2'.1, fun b o hb nb nf => ⟨un.keep b o hb nb nf (by simp), un.free b o hb nb (by simp)⟩, r2', q2'.2⟩
      | next => exact False.elim hq
      | brk => exact False.elim hq
      | cont => exact False.elim hq
  · cases hk
end
end De
set_option Elab.async false
set_option linter.all false
set_option maxRecDepth 100000
namespace De
open PySem PySem.Spec PyProof.Rows L2

section
variable {X : Cx} {T : List (Addr × Str)} {pins : List (Addr × Obj)} {σ : L2.St} {H H0 : Hp} {s : Shared} {A : Around} {a f : Addr} {xs : List V} {ks : List D}
/-- the first turn of min(xs, key=f) -/
theorem min_first {R : Result → Shared → Prop} {it S : Addr} (hl : xs.length = ks.length) (hs : SqL X.K H0 a xs) (K : KeysOk ks) (hkey : ∀ (i : Nat) (x : V) (k : D), xs[i]? = some x → ks[i]? = some k → KeyC X T pins σ H0 A.in1 (.ref f) x k) (aS : Apart X pins S) (aI : Apart X pins it) (nSI : S ≠ it)
    (hh : A.in1.handled = none) (hu : A.in1.units + 64 < cLine) (kw : List (Str × Value)) (fin : ∀ (H' : Hp) (s' : Shared) (u : Value) (v : V), Inv X pins σ H' s' → Ext T H0 H' → xs[argBest (ltK ks) (xs.length - 1)]? = some v → RelV v u → R (.ok (.ret u)) s')
    (hn : 0 < xs.length) (I : Inv X pins σ H s) (x : Ext T H0 H) (nS : H S = none) (nI : H it = none) (hit : s.heap.IsListIter it a 0) {c : Nat} (hS : s.heap.get? S = some { cls := .type "list", dict := none, data := .seq #[] c, slots := #[] }) :
    codeAny (model X.prog X.w) A (.builtin "min.loop" ⟨[.ref it, .ref f, .ref S], kw⟩) R s := by
  have nm : (toString "min" ++ toString ".loop" : String) = "min.loop" := by decide
  obtain ⟨its, rv, p, hz⟩ := I.list (SqL.extT hs x)
  obtain ⟨v, hv⟩ : ∃ v, xs[0]? = some v := ⟨_, List.getElem?_eq_getElem hn⟩
  obtain ⟨k, hk⟩ : ∃ k, ks[0]? = some k := ⟨_, List.getElem?_eq_getElem (by omega)⟩
  obtain ⟨u, hu', ru⟩ := rv.get hv
  refine codeAny_builtin F.entry_min_loop ?_; rw [Around.under_plainId F.plain_min_loop _]; show wpAny _ _ (seqItems? (.ref _) >>= _) _ _ _
  apply wpAny_bind; refine wpAny_seqItems hS rfl ?_
  show wpAny _ A.in1 (tryCatch (pyNext (.ref it)) _ >>= _) _ _ s
  refine wpAny_bind (wpAny_tryCatch (wpAny_pyNext_list_item hit p.isList (x := u) (by simpa using hu') fun h' st' sb => ?_))
  have J := Inv.turnedA (t' := s.toks) I aI (fun b o hb e => (sb.2 b hb).trans e) nI
  have gS := (sb.2 S nSI).trans hS
  show wpAny _ A.in1 (tryCatch (holding [u] (call (.ref f) [u])) _ >>= _) _ _ _
  refine wpAny_bind (wpAny_tryCatch (wpAny_holding (wpAny_mono (hkey 0 v k hv hk _ H u J x ru) (fun ku s2 q2 => ?_) fun _ _ z => z.elim)))
  obtain ⟨nkv, H2, I2, x2, keep, rk2, ok2⟩ := q2
  obtain ⟨gS2, nS2⟩ := keep S _ gS nS aS.st
  obtain ⟨ob, ho, hc', hd'⟩ := st'
  obtain ⟨gI2, nI2⟩ := keep it _ ho nI aI.st
  show wpAny _ A.in1 (updateSeq S (fun _ => #[u, ku]) >>= _) _ _ _
  refine wpAny_bind (wpAny_updateSeq gS2 rfl ?_)
  rw [nm]
  exact wpAny_pure ⟨plainId_quiet F.plain_min_loop _, min_loop hl hs K hkey aS aI nSI hh hu kw fin (xs.length - 1) 1 _ rfl (Nat.le_refl _) hn
    ⟨H2, _, u, ku, v, nkv, k, Inv.turnedA (t' := s2.toks) I2 aS (fun b o hb e => upd_keep _ hb e) nS2, x.trans x2, nS2, nI2, ⟨ob, upd_keep _ (Ne.symm nSI) gI2, hc', hd'⟩, Heap.get?_update_self _ gS2 rfl, hv, ru, hk, rk2, ok2⟩⟩
theorem min_key_run {Q : VK} {du : Value} {dv : V} (I : Inv X pins σ H s) (hc : X.calm = true) (hl : xs.length = ks.length) (hs : SqL X.K H a xs) (K : KeysOk ks) (hkey : ∀ (i : Nat) (x : V) (k : D), xs[i]? = some x → ks[i]? = some k → KeyC X T pins σ H X.A.in1 (.ref f) x k)
    (hu : X.A.units + 65 < cLine) (rd : RelV dv du) (q0 : xs = [] → Q dv H) (q1 : ∀ (v : V) (H' : Hp), xs ≠ [] → Ext T H H' → xs[argBest (ltK ks) (xs.length - 1)]? = some v → Q v H') :
    wpAny (model X.prog X.w) X.A (call (.builtin "min") [.ref a] [(Str.ofString "key", .ref f), (Str.ofString "default", du)]) (EP X pins σ Q) X.xe s := by
  have nm : (toString "min" ++ toString ".loop" : String) = "min.loop" := by decide
  obtain ⟨its, rv, p, hz⟩ := I.list hs
  have hh : X.A.in1.handled = none := I.ok.hd hc
  have hu1 : X.A.in1.units + 64 < cLine := by show X.A.units + 1 + 64 < cLine; omega
  apply PyProof.Rows.kmk_tree F.kind_min F.plain_min F.entry_min (args_min_key_default _ _ _)
  show wpAny _ X.A.in1 (Builtin.Builtins.bindParams "min" ["key", "default"] 0 ⟨[], [(Str.ofString "key", .ref f), (Str.ofString "default", du)]⟩ >>= _) _ _ s
  refine wpAny_bind (wpAny_of_eq (show Builtin.Builtins.bindParams "min" ["key", "default"] 0 ⟨[], [(Str.ofString "key", .ref f), (Str.ofString "default", du)]⟩ = pure [some (.ref f), some du] from rfl) (wpAny_bind (wpAny_pure ?_)))
  refine wpAny_bind (wpAny_pyIter_list p.isList ?_)
  apply wpAny_bind; refine wpAny_newObj_type ?_
  rw [nm]
  have aI := Apart.of I (Nat.le_refl s.heap.objs.size)
  have I1 : Inv X pins σ H { s with heap := s.heap.push { cls := .type "list_iterator", data := .fields #[.ref a, .int 0 0] } } := I.kept (t' := s.toks) fun b o e => Heap.get?_push_of_some _ e
  have aS := Apart.of I1 (Nat.le_refl _)
  have sz : (s.heap.push { cls := .type "list_iterator", data := .fields #[.ref a, .int 0 0] }).objs.size = s.heap.objs.size + 1 := Heap.size_push ..
  have I2 : Inv X pins σ H { s with heap := (s.heap.push { cls := .type "list_iterator", data := .fields #[.ref a, .int 0 0] }).push { cls := .type "list", data := .seq #[] 0 } } := I1.kept (t' := s.toks) fun b o e => Heap.get?_push_of_some _ e
  have nSI : (s.heap.push { cls := .type "list_iterator", data := .fields #[.ref a, .int 0 0] }).objs.size ≠ s.heap.objs.size := by rw [sz]; omega
  have nI : H s.heap.objs.size = none := I.hok.fresh (Nat.le_refl _)
  have nS : H (s.heap.push { cls := .type "list_iterator", data := .fields #[.ref a, .int 0 0] }).objs.size = none := I1.hok.fresh (Nat.le_refl _)
  have gS : ((s.heap.push { cls := .type "list_iterator", data := .fields #[.ref a, .int 0 0] }).push { cls := .type "list", data := .seq #[] 0 }).get? (s.heap.push { cls := .type "list_iterator", data := .fields #[.ref a, .int 0 0] }).objs.size = some { cls := .type "list", data := .seq #[] 0 } := Heap.get?_push_size _ rfl
  have hit : ((s.heap.push { cls := .type "list_iterator", data := .fields #[.ref a, .int 0 0] }).push { cls := .type "list", data := .seq #[] 0 }).IsListIter s.heap.objs.size a 0 := ⟨_, Heap.get?_push_of_some _ (Heap.get?_push_size _ rfl), rfl, rfl⟩
  apply wpAny_pure; refine ⟨plainId_quiet F.plain_min_loop _, ?_⟩
  rcases Nat.eq_zero_or_pos xs.length with hn | hn
  · have e0 : xs = [] := List.length_eq_zero_iff.mp hn
    refine codeAny_builtin F.entry_min_loop ?_; rw [Around.under_plainId F.plain_min_loop _]; show wpAny _ _ (seqItems? (.ref _) >>= _) _ _ _
    apply wpAny_bind; refine wpAny_seqItems gS rfl ?_
    show wpAny _ X.A.in1 (tryCatch (pyNext (.ref _)) _ >>= _) _ _ _
    obtain ⟨its2, rv2, p2, _⟩ := I2.list hs
    refine wpAny_bind (wpAny_tryCatch (wpAny_pyNext_list_end hh hit p2.isList (by have h := rv2.length; rw [hn] at h; simp [List.length_eq_zero_iff.mp h.symm]) fun h' eb => ?_))
    have J := Inv.turnedA (t' := s.toks) I2 aI (fun b o hb e => eb b o hb e) nI
    show wpAny _ X.A.in1 (rule _ >>= _) _ _ _
    exact wpAny_bind (wpAny_rule (wpAny_pure ⟨dv, H, J, rd, q0 e0⟩))
  · refine min_first hl hs K hkey aS aI nSI hh hu1 _ (fun H' s' u v I' x' hv ru => ?_) hn I2 (.refl H) nS nI hit gS
    exact ⟨v, H', I', ru, q1 v H' (fun z => by rw [z] at hn; cases hn) x' hv⟩
end
end De
set_option Elab.async false
set_option linter.all false
set_option maxRecDepth 100000
namespace De
open PySem PySem.Spec PyProof.Rows L2

/-! ### min(xs, key=lambda .., default=d) -/
def keysO (F : List D → Res D) (es : List D) : List D → Option (List D)
  | [] => some []
  | d :: ds => match keyR F es d with
    | some k => (keysO F es ds).map (k :: ·)
    | none => none
theorem keysO_len {F : List D → Res D} {es : List D} : ∀ {ds ks : List D}, keysO F es ds = some ks → ds.length = ks.length
  | [], ks, h => by cases h; rfl
  | d :: ds, ks, h => by
    unfold keysO at h
    split at h
    · cases q : keysO F es ds with
      | none => rw [q] at h; cases h
      | some r => rw [q] at h; cases h; simp [keysO_len q]
    · cases h
theorem keysO_get {F : List D → Res D} {es : List D} : ∀ {ds ks : List D} {i : Nat} {d k : D}, keysO F es ds = some ks → ds[i]? = some d → ks[i]? = some k → keyR F es d = some k
  | [], _, _, _, _, _, h, _ => by simp at h
  | d :: ds, ks, i, d', k', h, h1, h2 => by
    unfold keysO at h
    split at h
    · rename_i k hk
      cases q : keysO F es ds with
      | none => rw [q] at h; cases h
      | some r =>
        rw [q] at h
        cases h
        cases i with
        | zero => simp at h1 h2; subst h1 h2; exact hk
        | succ i => exact keysO_get q (by simpa using h1) (by simpa using h2)
    · cases h
def nonN : D → Bool
  | .non => false
  | _ => true
def keysB (ks : List D) : Bool := ks.all (lv 20) && ks.all (fun k => ks.all fun k' => PySem.W.alike (toP k) (toP k')) && ks.all nonN
theorem keysB_ok {ks : List D} (h : keysB ks = true) : KeysOk ks := by
  unfold keysB at h
  simp only [Bool.and_eq_true, List.all_eq_true] at h
  refine ⟨h.1.1, h.1.2, fun k hk e => ?_⟩
  have q := h.2 k hk
  cases k with
  | non => cases q
  | _ => simp [toP] at e
def itemsO : D → Option (List D)
  | .lst _ ds => some ds
  | .rol ds => some ds
  | _ => none
/-- the item with the least key, or the default -/
def minFin (F : List D → Res D) (oes : Option (List D)) (d dd : D) : Res D := match itemsO d, oes with
  | some ds, some es => match keysO F es ds with
    | some ks => if keysB ks = true then (match ds with
      | [] => .ok dd
      | _ :: _ => lift ds[argBest (ltK ks) (ds.length - 1)]?) else .bad
    | none => .bad
  | _, _ => .bad
def minKA (F : List D → Res D) (cs : List Nat) (fe fd : Env → Res D) : Env → Res D := fun ρ => (fe ρ).bind fun d => (fd ρ).bind fun dd => minFin F (capD ρ cs) (frz d) (frz dd)
section
variable {X : Cx} {T : List (Addr × Str)} {M : List Nat} {Wx : WX}
/-- what the making of a lambda asks of the text -/
structure LamAt (X : Cx) (T : List (Addr × Str)) (x : Str) (L : LamC) : Prop where
  tab : Mk1 X.K X.base X.mg T x L.qual
  code : X.env.code = .ref (He.cT X.K (x, none)).1
  qual : X.env.qual ++ "<lambda>" = L.qual
  dfl : defaultsOf L.params X.env = ([], [])
  caps : mkB X.env.scope L = true
  fre : ∀ y ∈ L.scope.names, y.2 = .free → y.1 ∈ L.fs
def tLam (X : Cx) (T : List (Addr × Str)) (L : LamC) : TE := fun σ H Q => LamX.Tabs T H ∧ ∀ (f c' : Addr) (H1 : Hp), Ext T H H1 → H1 f = some (FnO f L (cloX X L) c') → H1 c' = some (LamX.CodeO c' L.qual) → Q (.ref f) H1
theorem pe_lamO {x : Str} {L : LamC} {lp : Pos} (G : LamAt X T x L) : PE X (.Lambda L.params L.body L.scope lp) (tLam X T L) := by
  refine ⟨fun pins s σ H Q I ⟨tb, go⟩ => lam_new I G.tab.tb G.code G.qual G.tab.mem G.tab.uni tb G.dfl (fun y hy e => I.ok.has _ ?_) fun f c' H1 s' I1 x1 _ hf hc => ⟨.ref f, H1, I1, rfl, go f c' H1 x1 hf hc⟩⟩
  have q := List.all_eq_true.mp G.caps _ (G.fre y hy e)
  simp only [Bool.or_eq_true, decide_eq_true_eq] at q
  exact q
theorem items_own {C : Cn} {W : Wd} {H : Hp} {v : V} {d : D} {ds : List D} (h : itemsO (frz d) = some ds) (o : Own C.K W H v (frz d) []) : ∃ a vs, v = .ref a ∧ SqL C.K H a vs ∧ Owns C.K W H vs ds [] := by
  cases d with
  | lst b es => cases h; exact own_seqL (.inl rfl) o
  | rol es => cases h; exact own_seqL (.inr rfl) o
  | _ => cases h
theorem de_minLam {x : Str} {L : LamC} {e d : Expr} {fe fd : Env → Res D} {F : List D → Res D} {cs : List Nat} {k : Nat} {p lp kp kp2 pos : Pos} (G : LamAt X T x L) (C0 : Caps X L cs) (hcs : ∀ j ∈ cs, j ∈ M) (S : LamS X.prog X.w X.K X.mg X.base T L k F) (hp1 : L.ps.length = 1) (hr : Room (k + 2) X.A)
    (hc : X.calm = true) (hg : Gl X "min") (hm : X.mg "min" = none) (he : DE X T M Wx e fe) (hd : DE X T M Wx d fd) (hs1 : starEach [e] X.env = (false, eval e X.env) :: starEach [] X.env := by rfl) (hs : backTo pos (starEach [e] X.env) = (false, eval e X.env) :: backTo pos (starEach [] X.env) := by rfl) (hpl : (backTo pos (starEach [e] X.env)).any (·.1) = false := by rfl)
    (hall : (backToKw pos (keywordEach [⟨some "key", .Lambda L.params L.body L.scope lp, kp⟩, ⟨some "default", d, kp2⟩] X.env)).all (·.1.isSome) = true := by rfl) (hnone : (backToKw pos (keywordEach [⟨some "key", .Lambda L.params L.body L.scope lp, kp⟩, ⟨some "default", d, kp2⟩] X.env)).any (·.1.isNone) = false := by rfl)
    (hks : (backToKw pos (keywordEach [⟨some "key", .Lambda L.params L.body L.scope lp, kp⟩, ⟨some "default", d, kp2⟩] X.env)).filterMap (·.1) = [Str.ofString "key", Str.ofString "default"] := by rfl) :
    DE X T M Wx (.Call (.Name "min" p) [e] [⟨some "key", .Lambda L.params L.body L.scope lp, kp⟩, ⟨some "default", d, kp2⟩] pos) (minKA F cs fe fd) := by
  have ha := pa_cons he pa_nil (hs := hs1)
  have hk := pk_cons (nm := some "key") (kpos := kp) (pe_lamO (lp := lp) G) (pk_cons (nm := some "default") (kpos := kp2) hd pk_nil)
  refine ⟨fun pins s σ H Q I ⟨ρ, W, r, pq⟩ => ?_⟩
  have ha1 := ha.run pos pins s σ H (fun vs H1 => ∃ x d, vs = [x] ∧ Ext T H H1 ∧ Own X.K W H1 x (frz d) [] ∧ Post (Cn.of X T) W H1 ((fd ρ).bind fun dd => minFin F (capD ρ cs) (frz d) (frz dd)) Q fun c o H' => Wx c o σ H') I
    ⟨ρ, W, r, (Post.bind r.al pq).mono fun x H1 ⟨d, x1, o1, p1⟩ => ⟨x, d, rfl, x1, o1, p1⟩⟩
  refine wpAny_Call_Name_kw (ld_blt I hg hm bt_min (PyProof.Rows.callWith_kw (thn ha1 fun us s1 ⟨vs, H1, I1, r1, x0, d0, e1, x1, o1, p1⟩ => ?_) hs hpl hall hnone) (by decide) (by decide))
  subst e1
  have R1 := r.ext1 (C := Cn.of X T) x1
  have hk1 := hk.run pos pins s1 σ H1 (fun zs H2 => ∃ f c' dv d2, zs = [V.ref f, dv] ∧ Ext T H1 H2 ∧ H2 f = some (FnO f L (cloX X L) c') ∧ H2 c' = some (LamX.CodeO c' L.qual) ∧ Own X.K W H2 dv (frz d2) [] ∧ Post (Cn.of X T) W H2 (minFin F (capD ρ cs) (frz d0) (frz d2)) Q fun c o H' => Wx c o σ H') I1
    ⟨R1.tb, fun f c' H2 x2 hf hc => ⟨ρ, W, R1.ext1 (C := Cn.of X T) x2, (Post.bind (R1.ext1 (C := Cn.of X T) x2).al (p1.ext (C := Cn.of X T) x2)).mono fun dv H3 ⟨d2, x3, o3, p3⟩ => ⟨f, c', dv, d2, rfl, x2.trans x3, x3.e _ _ hf fnO_tbl, x3.e _ _ hc LamX.codeO_ne, o3, p3⟩⟩⟩
  refine thn hk1 fun ws s2 ⟨zs, H2, I2, r2, f, c', dv, d2, e2, x2, hf, hcd, o2, p2⟩ => ?_
  subst e2
  rw [hks]
  obtain ⟨w1, w2, rfl, rw1, rw2⟩ := vals2 r2
  cases rw1
  have R2 := R1.ext1 (C := Cn.of X T) x2
  have o1' := o1.ext x2 (fun a h => .inl h) _
  unfold minFin at p2
  split at p2
  · rename_i ds es hi hes
    obtain ⟨a, xs, ea, hsq, hx⟩ := items_own (C := Cn.of X T) hi o1'
    subst ea
    obtain rfl := Vals.ref1 r1
    obtain ⟨cv, hcv, hσ, hcw⟩ := caps_read (C := Cn.of X T) R2 hcs hes
    cases hko : keysO F es ds with
    | none => rw [hko] at p2; exact p2.elim
    | some ks =>
      rw [hko] at p2
      dsimp only at p2
      split at p2
      · rename_i hkb
        have hl := keysO_len hko
        have hxl := hx.length
        refine min_key_run (T := T) (dv := dv) (ks := ks) I2 hc (by omega) hsq (keysB_ok hkb) (fun i x kd h1 h2 => ?_) (by have := hr.un; omega) rw2 (fun e0 => ?_) fun v H' ne xx hv => ?_
        · obtain ⟨d', h3, o3⟩ := Owns.getV hx h1
          exact keyC_own (C0 := C0) (k := k) S G.caps I2.ok.frames hr.in1 hp1 hf hcd R2.tb hcv hσ hcw o3 (keysO_get hko h3 h2)
        · subst e0
          have : ds = [] := List.length_eq_zero_iff.mp (by rw [← hxl]; rfl)
          subst this
          exact Post.same (C := Cn.of X T) p2 o2
        · cases ds with
          | nil => exact absurd (List.length_eq_zero_iff.mp hxl) ne
          | cons d' ds' =>
            have p2 : Post (Cn.of X T) W H2 (lift (d' :: ds')[argBest (ltK ks) ((d' :: ds').length - 1)]?) Q _ := p2
            rw [hxl] at hv
            obtain ⟨dd, h3, o3⟩ := Owns.getV hx hv
            rw [h3] at p2
            exact Post.same (C := Cn.of X T) (Post.ext (C := Cn.of X T) p2 xx) (o3.ext xx (fun a h => .inl h) _)
      · exact p2.elim
  · exact p2.elim
end
end De
set_option Elab.async false
set_option linter.all false
set_option maxRecDepth 100000
namespace De
open PySem PySem.Spec PyProof.Rows L2

/-! ### d.setdefault(k, []).append(n) of an own dict -/
def setdD (ks : List Key) (ds : List D) (k : Key) (d : D) : List Key × List D := match lkD ks ds k with
  | some _ => (ks, ds)
  | none => putD ks ds k d
/-- the list at k, with n behind it -/
def appD : List Key → List D → Key → Int → Option (List D)
  | k0 :: ks, d0 :: ds, k, n => if k0 = k then (match d0 with
    | .lst true xs => if xs.length < 16777216 then some (.lst true (xs ++ [.int n]) :: ds) else none
    | _ => none) else (appD ks ds k n).map (d0 :: ·)
  | _, _, _, _ => none
theorem owns_appk {K : PySem.W.Frag} {W : Wd} {H : Hp} {k : Key} {n : Int} : ∀ {ks : List Key} {ds es : List D} {vs : List V} {B : List Addr}, ks.length = vs.length → Owns K W H vs ds B → B.Nodup → (∀ b ∈ B, W b) → appD ks ds k n = some es →
    ∃ l us, valV (ks.zip vs) k = some (.ref l) ∧ H l = some (.lst us) ∧ us.length < 16777216 ∧ l ∈ B ∧ Owns K W (L2.upd H l (.lst (us ++ [.int n]))) vs es B
  | [], ds, es, vs, B, hl, o, nd, w, h => by simp [appD] at h
  | k0 :: ks, [], es, vs, B, hl, o, nd, w, h => by simp [appD] at h
  | k0 :: ks, d0 :: ds, es, vs, B, hl, o, nd, w, h => by
    obtain ⟨v0, ws, A1, A2, rfl, rfl, o1, o2⟩ := o
    have hl : ks.length = ws.length := by simpa using hl
    obtain ⟨n1, n2, n3⟩ := List.nodup_append.mp nd
    unfold appD at h
    by_cases hk : k0 = k
    · rw [if_pos hk] at h
      split at h
      · rename_i xs
        split at h
        · rename_i hz
          cases h
          obtain ⟨l, us, C, e1, e2, e3, e4⟩ := own_lstT (C := ⟨K, [], fun _ => none⟩) o1
          subst e1 e3
          obtain ⟨m1, m2⟩ := List.nodup_cons.mp n1
          have wl : W l := w l (List.mem_append_left _ (List.mem_cons_self ..))
          have lk : likeO (.lst us) (.lst (us ++ [.int n])) = true := rfl
          refine ⟨l, us, by rw [List.zip_cons_cons]; exact valV_pos hk, e4, by rw [e2.length]; exact hz, List.mem_append_left _ (List.mem_cons_self ..), .ref l, ws, l :: C, A2, rfl, rfl, ⟨l, us ++ [.int n], C, rfl, ?_, rfl, upd_same⟩, Owns.upd e4 lk wl ds o2 fun z => n3 l (List.mem_cons_self ..) l z rfl⟩
          have q := (Owns.upd e4 lk wl xs e2 m1).app (Owns.one (v := .int n) (d := .int n) (A := []) ⟨rfl, rfl⟩)
          rw [List.append_nil] at q
          exact q
        · cases h
      · cases h
    · rw [if_neg hk] at h
      cases q : appD ks ds k n with
      | none => rw [q] at h; cases h
      | some r =>
        rw [q] at h
        cases h
        obtain ⟨l, us, e1, e2, e3, e4, e5⟩ := owns_appk hl o2 n2 (fun b hb => w b (List.mem_append_right _ hb)) q
        have wl : W l := w l (List.mem_append_right _ e4)
        refine ⟨l, us, by rw [List.zip_cons_cons, valV_neg hk]; exact e1, e2, e3, List.mem_append_right _ e4, v0, ws, A1, A2, rfl, rfl, Own.upd e2 (show likeO (.lst us) (.lst (us ++ [.int n])) = true from rfl) wl d0 o1 fun z => n3 l z l e4 rfl, e5⟩
def dsap2 (i : Nat) (ks : List Key) (ds : List D) (k : Key) (fx : Env → Res D) : Env → Out := fun ρ => match appD ks ds k 0 with
  | none => .bad
  | some _ => (match fx ρ with
    | .ok (.int n) => (match appD ks ds k n with
      | some es => .nx (ρ.set i (some (.dic true ks es)))
      | none => .bad)
    | .ex e => .ex e ρ
    | _ => .bad)
def dsapS (i : Nat) (fk fx : Env → Res D) : Env → Out := fun ρ => match ρ[i]? with
  | some (some (.dic true ks ds)) => (match fk ρ with
    | .ok y => (match keyD y with
      | some k => if ks.Nodup ∧ ks.length < 16777216 then (match lkD ks ds k with
        | some _ => dsap2 i ks ds k fx ρ
        | none => dsap2 i (putD ks ds k (.lst true [])).1 (putD ks ds k (.lst true [])).2 k fx (ρ.set i (some (.dic true (putD ks ds k (.lst true [])).1 (putD ks ds k (.lst true [])).2)))) else .bad
      | none => .bad)
    | .ex e => .ex e ρ
    | .bad => .bad)
  | _ => .bad
section
variable {X : Cx} {T : List (Addr × Str)} {M : List Nat} {Wx : WX}
theorem lk_valN {K : PySem.W.Frag} {W : Wd} {H : Hp} {k : Key} : ∀ {ks : List Key} {ds : List D} {vs : List V} {B : List Addr}, ks.length = vs.length → Owns K W H vs ds B → (lkD ks ds k = none ∧ valV (ks.zip vs) k = none) ∨ ∃ d v, lkD ks ds k = some d ∧ valV (ks.zip vs) k = some v
  | [], ds, vs, B, hl, o => .inl ⟨by cases ds <;> rfl, rfl⟩
  | k0 :: ks, [], vs, B, hl, o => by rw [o.1] at hl; cases hl
  | k0 :: ks, d :: ds, vs, B, hl, o => by
    obtain ⟨v, ws, A1, A2, rfl, e2, o1, o2⟩ := o
    have hl : ks.length = ws.length := by simpa using hl
    by_cases hk : k0 = k
    · exact .inr ⟨d, v, by simp [lkD, hk], by rw [List.zip_cons_cons]; exact valV_pos hk⟩
    · have z : lkD (k0 :: ks) (d :: ds) k = lkD ks ds k := by simp [lkD, hk]
      rw [z, List.zip_cons_cons, valV_neg hk]
      exact lk_valN hl o2
/-- the second half: the list that stands at k grows -/
theorem dap_after {i : Nat} {k : Key} {E : Ends} {σ : L2.St} {H He : Hp} {Wf : Wd} {P : List (V × D)} {ρ : Env} {foot : Nat → List Addr} {ks : List Key} {ds : List D} {a : Addr} {fx : Env → Res D} {x : V}
    (R : RelS (Cn.of X T) He Wf P σ H ρ foot) (hi : ρ[i]? = some (some (.dic true ks ds))) (hw : σ[i]? = some (some (.ref a))) {vs : List V} (ha : H a = some (.dK (ks.zip vs))) (hlv : ks.length = vs.length) (hv : valV (ks.zip vs) k = some x) (q : PostS (Cn.of X T) He Wf P (dsap2 i ks ds k fx ρ) E Wx) :
    tyV X.K "list" x H ∧ tCons (tD (Cn.of X T) M Wx fx) tNil σ H fun xs H2 => rAppend x xs H2 fun _ H3 => E.nx σ H3 := by
  unfold dsap2 at q
  cases hq0 : appD ks ds k 0 with
  | none => rw [hq0] at q; exact q.elim
  | some es0 =>
  rw [hq0] at q
  dsimp only at q
  obtain ⟨l, us, rfl, hl⟩ : ∃ l us, x = .ref l ∧ H l = some (.lst us) := by
    obtain ⟨w2, hw2, ow2⟩ := R.own i _ hi
    rw [hw] at hw2
    cases hw2
    obtain ⟨a2, vs2, B, e2, hl2, hvs2, hF, ha2⟩ := own_dicT ow2
    cases e2
    rw [ha] at ha2
    have ez : ks.zip vs = ks.zip vs2 := by
      have := Option.some.inj ha2
      injection this
    rw [ez] at hv
    have ndF := R.nd i
    rw [hF] at ndF
    obtain ⟨l2, us2, g1, g2, _⟩ := owns_appk (k := k) (n := 0) hl2 hvs2 (List.nodup_cons.mp ndF).2 (fun b hb => .inr ⟨i, by rw [hF]; exact List.mem_cons_of_mem _ hb⟩) hq0
    rw [hv] at g1
    exact ⟨l2, us2, Option.some.inj g1, g2⟩
  refine ⟨.inl ⟨rfl, us, SqL.of hl⟩, ρ, _, R.rel M, ?_⟩
  cases hf : fx ρ with
  | ex e' => rw [hf] at q; exact fun c o H' x y => q c o σ H' ⟨foot, R.ext1 x⟩ y
  | bad => rw [hf] at q; exact q
  | ok d =>
    rw [hf] at q
    cases d with
    | int n =>
      intro v H1 A x1 nn nd o
      dsimp only at q
      cases hq : appD ks ds k n with
      | none => rw [hq] at q; exact q.elim
      | some es =>
        rw [hq] at q
        obtain ⟨ev, eA⟩ := o
        subst ev eA
        have R1 := R.ext1 x1
        obtain ⟨w2, hw2, ow2⟩ := R1.own i _ hi
        rw [hw] at hw2
        cases hw2
        obtain ⟨a2, vs2, B, e2, hl2, hvs2, hF, ha2⟩ := own_dicT ow2
        cases e2
        have haH : H1 a = some (.dK (ks.zip vs)) := x1.e _ _ ha fun _ z => by cases z
        rw [haH] at ha2
        have ez : ks.zip vs = ks.zip vs2 := by
          have := Option.some.inj ha2
          injection this
        rw [ez] at hv
        have ndF := R1.nd i
        rw [hF] at ndF
        obtain ⟨naB, ndB⟩ := List.nodup_cons.mp ndF
        have haf : a ∈ foot i := by rw [hF]; exact List.mem_cons_self ..
        have wB : ∀ b ∈ B, ((wd Wf foot).plus []) b := fun b hb => .inl (.inr ⟨i, by rw [hF]; exact List.mem_cons_of_mem _ hb⟩)
        have hvs3 : Owns X.K ((wd Wf foot).plus []) H1 vs2 ds B := Owns.ext (Ext.refl (T := T) H1) (fun a h => .inl (h.elim id fun z => by cases z)) _ hvs2
        obtain ⟨l2, us2, g1, g2, g3, g4, g5⟩ := owns_appk (k := k) (n := n) hl2 hvs3 ndB wB hq
        rw [hv] at g1
        cases g1
        refine ⟨l, us2, .int n, rfl, rfl, g2, by rw [← sl_line]; exact g3, ?_⟩
        have lk : likeO (.lst us2) (.lst (us2 ++ [.int n])) = true := rfl
        have hlf : l ∈ foot i := by rw [hF]; exact List.mem_cons_of_mem _ g4
        have nal : a ≠ l := fun z => naB (by rw [z]; exact g4)
        have wid : ∀ c, ((wd Wf foot).plus []) c → wd Wf foot c ∨ ¬ Al H1 c := fun c h => .inl (h.elim id fun z => by cases z)
        refine q σ _ ⟨_, R1.mut (A := []) (F := a :: B) hw hlf g2 lk (fun b hb => by cases hb) (fun b hb => by cases hb) ⟨a, vs2, B, rfl, hl2, g5, rfl, by rw [upd_ne nal, haH, ez]⟩ (fun b hb => .inl (by rw [hF]; exact hb)) ndF (fun j e he => ?_) (R1.pin.ext (Ext.refl (T := T) H1) wid)⟩
        obtain ⟨w3, g6, g7⟩ := R1.own j e he
        exact ⟨w3, g6, g7.ext (Ext.refl (T := T) H1) wid _⟩
    | _ => exact q.elim
end
end De
set_option Elab.async false
set_option linter.all false
set_option maxRecDepth 100000
namespace De
open PySem PySem.Spec PyProof.Rows L2

section
variable {X : Cx} {T : List (Addr × Str)} {M : List Nat} {Wx : WX} {pos op apos cpos spos lpos bpos : Pos} {e f : Expr}
/-- what d.setdefault(k, x) leaves, x its own things A alone -/
theorem setd_read {i : Nat} {k : Key} {σ : L2.St} {H1 H0 He : Hp} {Wf : Wd} {P : List (V × D)} {ρ : Env} {foot : Nat → List Addr} {ks : List Key} {ds : List D} {a : Addr} {d : D} {v : V} {A : List Addr} {vs : List V}
    (R : RelS (Cn.of X T) He Wf P σ H0 ρ foot) (hi : ρ[i]? = some (some (.dic true ks ds))) (hw : σ[i]? = some (some (.ref a))) (x : Ext T H0 H1) (n : ∀ a ∈ A, ¬ Al H0 a) (nd : A.Nodup) (o : Own X.K ((wdM Wf foot []).plus A) H1 v d A) (haf : af d = true) (hz : ks.Nodup ∧ ks.length < 16777216)
    (ha : H1 a = some (.dK (ks.zip vs))) : RelE (Cn.of X T) He Wf P σ (upd H1 a (.dK (putK (ks.zip vs) k v))) (ρ.set i (some (.dic true (putD ks ds k d).1 (putD ks ds k d).2))) := by
  obtain ⟨H4, g1, g2⟩ := mutD_after (M := []) (Wx := fun _ _ _ _ => False) (E := { nx := fun σ' H' => σ' = σ → RelE (Cn.of X T) He Wf P σ' H' (ρ.set i (some (.dic true (putD ks ds k d).1 (putD ks ds k d).2))), rt := fun _ _ => False }) R hi hw x n nd o (k := k) (ds := ds) (ks := ks) (by
    unfold mutD keepM
    rw [if_pos haf, hi]
    dsimp only
    rw [if_pos hz]
    exact fun σ' H' r _ => by first | exact r | (intro e; exact r))
  have g2 := g2 rfl
  rcases g1 with ⟨kvs, k', q1, q2, q3, q4⟩ | ⟨kvs, k', b, q1, q2, q3, q4⟩
  · rw [ha] at q1
    have e1 : ks.zip vs = kvs := by have := Option.some.inj q1; injection this
    have e2 : k = k' := by
      cases k <;> cases k' <;> first | (injection q2 with q; rw [q]) | cases q2
    rw [q4, ← e1, ← e2] at g2
    exact g2
  · rw [ha] at q1
    cases q1
theorem dsap_read {i : Nat} {fk fx : Env → Res D} {E : Ends} {σ : L2.St} {H : Hp} (h : tS (Cn.of X T) Wx (dsapS i fk fx) E σ H) :
    tBM X.K "list" rAppend (tDSetd (tVar i) (tD (Cn.of X T) M Wx fk) (tLst tNil)) (tCons (tD (Cn.of X T) M Wx fx) tNil) σ H (fun _ H' => E.nx σ H') := by
  obtain ⟨ρ, He, Wf, P, ⟨foot, R⟩, q⟩ := h
  unfold dsapS at q
  cases hi : ρ[i]? with
  | none => rw [hi] at q; exact q.elim
  | some o =>
  rw [hi] at q
  cases o with
  | none => exact q.elim
  | some l =>
  cases l with
  | dic b ks ds =>
    cases b with
    | false => exact q.elim
    | true =>
    obtain ⟨w, hw, ow⟩ := R.own i _ hi
    obtain ⟨a, vs, B, rfl, hl, hvs, hF, ha⟩ := own_dicT ow
    refine ⟨_, hw, a, rfl, .inl ⟨_, .inl ha⟩, ρ, _, R.rel M, ?_⟩
    dsimp only at q
    cases hk : fk ρ with
    | ex e' => rw [hk] at q; exact fun c o H' x y => q c o σ H' ⟨foot, R.ext1 x⟩ y
    | bad => rw [hk] at q; exact q
    | ok kd =>
    rw [hk] at q
    intro kv H2 A2 x2 n2 nd2 o2
    dsimp only at q
    cases hkd : keyD kd with
    | none => rw [hkd] at q; exact q.elim
    | some k =>
    rw [hkd] at q
    have ek := own_key hkd o2
    subst ek
    dsimp only at q
    split at q
    · rename_i hz
      refine ⟨Nat.zero_le _, fun l hl0 => ?_⟩
      have xl : Ext T H2 (upd H2 l (.lst [])) := .new hl0
      have x3 := x2.trans xl
      have haL : (upd H2 l (.lst [])) a = some (.dK (ks.zip vs)) := x3.e _ _ ha fun _ z => by cases z
      refine ⟨_, k, haL, rfl, by rw [List.length_zip, ← hl, Nat.min_self, ← sl_line]; exact hz.2, fun v hv => ?_, fun hv => ?_⟩
      · rcases lk_valN (k := k) hl hvs with ⟨e1, e2⟩ | ⟨d, v', e1, e2⟩
        · rw [e2] at hv; cases hv
        · rw [e1] at q
          exact dap_after (R.ext1 x3) hi hw haL hl hv q
      · rcases lk_valN (k := k) hl hvs with ⟨e1, e2⟩ | ⟨d, v', e1, e2⟩
        · rw [e1] at q
          have nl : ¬ Al H l := fun z => Al.no hl0 (z.ext x2)
          have oL : Own X.K ((wdM Wf foot []).plus [l]) (upd H2 l (.lst [])) (.ref l) (.lst true []) [l] := ⟨l, [], [], rfl, ⟨rfl, rfl⟩, rfl, upd_same⟩
          obtain ⟨foot', R'⟩ := setd_read (k := k) R hi hw x3 (fun b hb => by rw [List.mem_singleton.mp hb]; exact nl) (by simp) oL rfl hz haL
          have hi' : (ρ.set i (some (.dic true (putD ks ds k (.lst true [])).1 (putD ks ds k (.lst true [])).2)))[i]? = some (some (.dic true (putD ks ds k (.lst true [])).1 (putD ks ds k (.lst true [])).2)) := List.getElem?_set_self (List.getElem?_eq_some_iff.mp hi).1
          obtain ⟨w2, hw2, ow2⟩ := R'.own i _ hi'
          rw [hw] at hw2
          cases hw2
          obtain ⟨a2, vs2, B2, e3, hl2, hvs2, hF2, ha2⟩ := own_dicT ow2
          cases e3
          have ez : putK (ks.zip vs) k (.ref l) = (putD ks ds k (.lst true [])).1.zip vs2 := by
            rw [upd_same] at ha2
            have := Option.some.inj ha2
            injection this
          refine dap_after R' hi' hw ha2 hl2 ?_ q
          rw [← ez]
          rw [valV_put, if_pos rfl]
        · rw [e2] at hv; cases hv
    · exact q.elim
  | _ => exact q.elim
theorem ds_dsap {x : Str} {i : Nat} {fk fx : Env → Res D} (M : List Nat) (hi : X.N[i]? = some x) (hk : DE X T M Wx e fk) (he : DE X T M Wx f fx) (hv : Vis X.env.scope x := by first | exact Or.inl rfl | exact Or.inr (Or.inl rfl) | exact Or.inr (Or.inr rfl)) (hd : (x == ("__debug__" : Str)) = false := by decide) (hcd : (x == ("__classdict__" : Str)) = false := by decide)
    (b1 : attributeBase (.Name x op) "setdefault" X.env (eval (.Name x op) X.env) = eval (.Name x op) X.env := by rfl)
    (w1 : ((backTo spos (starEach [e, .List [] lpos] X.env)).all (fun x => !x.1) && (backToKw spos (keywordEach [] X.env)).all (fun x => x.1.isSome) && decide (([e, .List [] lpos] : List Expr).length + ([] : List Keyword).length + (if ([] : List Keyword).isEmpty then 0 else 1) < 30)) = true := by rfl)
    (l1 : (bpos.endLine == spos.line) = true := by rfl) (t1 : backTo spos (starEach [e, .List [] lpos] X.env) = [(false, eval e X.env), (false, eval (.List [] lpos) X.env)] := by rfl)
    (hbase : attributeBase (.Call (.Attribute (.Name x op) "setdefault" bpos) [e, .List [] lpos] [] spos) "append" X.env (eval (.Call (.Attribute (.Name x op) "setdefault" bpos) [e, .List [] lpos] [] spos) X.env) = eval (.Call (.Attribute (.Name x op) "setdefault" bpos) [e, .List [] lpos] [] spos) X.env := by rfl)
    (hfew : ((backTo cpos (starEach [f] X.env)).all (fun x => !x.1) && (backToKw cpos (keywordEach [] X.env)).all (fun x => x.1.isSome) && decide (([f] : List Expr).length + ([] : List Keyword).length + (if ([] : List Keyword).isEmpty then 0 else 1) < 30)) = true := by rfl)
    (hline : (apos.endLine == cpos.line) = true := by rfl) (hst : starEach [f] X.env = (false, eval f X.env) :: starEach [] X.env := by rfl) (hpl : (backTo cpos (starEach [] X.env)).any (·.1) = false := by rfl)
    (hs : swapsWith (.Call (.Attribute (.Call (.Attribute (.Name x op) "setdefault" bpos) [e, .List [] lpos] [] spos) "append" apos) [f] [] cpos) none pos.line X.env = pure false := by rfl) :
    DS X T Wx (.Expr (.Call (.Attribute (.Call (.Attribute (.Name x op) "setdefault" bpos) [e, .List [] lpos] [] spos) "append" apos) [f] [] cpos) pos) (dsapS i fk fx) :=
  ps_weak (ps_expr (pe_bm PySem.F.plainAttrs_list PySem.F.slot_list_append PySem.F.type_list_append mt_append (pe_dsetd (pe_var hi hv hd hcd) hk (pe_lst pa_nil) ⟨b1, w1, l1, t1⟩) (pa_cons he pa_nil hst) hbase hfew hline hst hpl) hs) fun E σ H h => dsap_read h
end
/-! ### sorted(set(xs)) of pairs -/
def pairD : D → Option (Int × Int)
  | .tup [.int x, .int y] => some (x, y)
  | _ => none
def pairsD : List D → Option (List (Int × Int))
  | [] => some []
  | d :: ds => match pairD d with
    | some p => (pairsD ds).map (p :: ·)
    | none => none
def pD (p : Int × Int) : D := .tup [.int p.1, .int p.2]
/-- rising, each once -/
def ins1 (p : Int × Int) : List (Int × Int) → List (Int × Int)
  | [] => [p]
  | q :: r => if p = q then q :: r else if p.1 < q.1 ∨ (p.1 = q.1 ∧ p.2 < q.2) then p :: q :: r else q :: ins1 p r
def sset (ps : List (Int × Int)) : List (Int × Int) := ps.foldr ins1 []
def small63 (p : Int × Int) : Bool := decide (0 ≤ p.1 ∧ p.1 < 64) && decide (0 ≤ p.2 ∧ p.2 < 64)
def dSset (d : D) : Option D := match itemsO d with
  | some ds => (match pairsD ds with
    | some ps => if ps.length < 64 ∧ ps.all small63 = true then some (.lst true ((sset ps).map pD)) else none
    | none => none)
  | none => none
def ltP (p q : Int × Int) : Prop := p.1 < q.1 ∨ (p.1 = q.1 ∧ p.2 < q.2)
theorem ins1_mem {p x : Int × Int} : ∀ {l : List (Int × Int)}, x ∈ ins1 p l ↔ x = p ∨ x ∈ l
  | [] => by simp [ins1]
  | q :: r => by
    unfold ins1
    by_cases h1 : p = q
    · subst h1; simp
    · rw [if_neg h1]
      split
      · simp
      · rw [List.mem_cons, ins1_mem, List.mem_cons]
        constructor <;> (intro h; rcases h with h | h | h <;> simp [h])
theorem ins1_ord {p : Int × Int} : ∀ {l : List (Int × Int)}, l.Pairwise ltP → (ins1 p l).Pairwise ltP
  | [], _ => by simp [ins1]
  | q :: r, h => by
    obtain ⟨h1, h2⟩ := List.pairwise_cons.mp h
    unfold ins1
    by_cases e : p = q
    · rw [if_pos e]; exact h
    · rw [if_neg e]
      by_cases hlt : p.1 < q.1 ∨ (p.1 = q.1 ∧ p.2 < q.2)
      · rw [if_pos hlt]
        refine List.pairwise_cons.mpr ⟨fun x hx => ?_, h⟩
        rcases List.mem_cons.mp hx with z | z
        · rw [z]; exact hlt
        · have hq := h1 x z
          unfold ltP at hq ⊢
          omega
      · rw [if_neg hlt]
        refine List.pairwise_cons.mpr ⟨fun x hx => ?_, ins1_ord h2⟩
        rcases ins1_mem.mp hx with z | z
        · subst z
          unfold ltP
          have : ¬ (x.1 = q.1 ∧ x.2 = q.2) := fun z => e (Prod.ext z.1 z.2)
          omega
        · exact h1 x z
theorem sset_mem {x : Int × Int} : ∀ {ps : List (Int × Int)}, x ∈ sset ps ↔ x ∈ ps
  | [] => by simp [sset]
  | p :: ps => by
    show x ∈ ins1 p (sset ps) ↔ _
    rw [ins1_mem, sset_mem, List.mem_cons]
theorem sset_ord : ∀ (ps : List (Int × Int)), (sset ps).Pairwise ltP
  | [] => .nil
  | p :: ps => ins1_ord (sset_ord ps)
/-- one list alone rises strictly and has these members -/
theorem ord_one : ∀ {l m : List (Int × Int)}, l.Pairwise ltP → m.Pairwise ltP → (∀ x, x ∈ l ↔ x ∈ m) → l = m
  | [], [], _, _, _ => rfl
  | [], y :: m, _, _, h => by simpa using (h y).mpr (List.mem_cons_self ..)
  | x :: l, [], _, _, h => by simpa using (h x).mp (List.mem_cons_self ..)
  | x :: l, y :: m, h1, h2, h => by
    obtain ⟨a1, a2⟩ := List.pairwise_cons.mp h1
    obtain ⟨b1, b2⟩ := List.pairwise_cons.mp h2
    have e : x = y := by
      rcases List.mem_cons.mp ((h x).mp (List.mem_cons_self ..)) with z | z
      · exact z
      · rcases List.mem_cons.mp ((h y).mpr (List.mem_cons_self ..)) with w | w
        · exact w.symm
        · have q1 := b1 x z
          have q2 := a1 y w
          unfold ltP at q1 q2
          omega
    subst e
    have ir : ∀ z, ¬ ltP z z := fun z q => by unfold ltP at q; omega
    rw [ord_one a2 b2 fun z => ?_]
    constructor
    · intro hz
      rcases List.mem_cons.mp ((h z).mp (List.mem_cons_of_mem _ hz)) with w | w
      · subst w; exact absurd (a1 z hz) (ir z)
      · exact w
    · intro hz
      rcases List.mem_cons.mp ((h z).mpr (List.mem_cons_of_mem _ hz)) with w | w
      · subst w; exact absurd (b1 z hz) (ir z)
      · exact w
end De
set_option Elab.async false
set_option linter.all false
set_option maxRecDepth 100000
namespace De
open PySem PySem.Spec PyProof.Rows L2

section
variable {X : Cx} {T : List (Addr × Str)} {M : List Nat} {Wx : WX} {pos p1 p2 q : Pos} {e : Expr} {f : Env → Res D}
theorem pairs_own {K : PySem.W.Frag} {W : Wd} {H : Hp} : ∀ {ds : List D} {ps : List (Int × Int)} {vs : List V}, pairsD ds = some ps → Owns K W H vs ds [] → ∃ ks : List (Addr × List Int), vs = ks.map (fun p => V.ref p.1) ∧ ks.map (·.2) = ps.map (fun p => [p.1, p.2]) ∧ ∀ p ∈ ks, SqT K H p.1 (p.2.map V.int)
  | [], ps, vs, h, o => by cases h; exact ⟨[], o.1, rfl, fun p hp => by cases hp⟩
  | d :: ds, ps, vs, h, o => by
    unfold pairsD at h
    split at h
    · rename_i pr hp
      cases q : pairsD ds with
      | none => rw [q] at h; cases h
      | some r =>
        rw [q] at h
        cases h
        obtain ⟨v, ws, A1, A2, rfl, e2, o1, o2⟩ := o
        obtain ⟨z1, z2⟩ := List.append_eq_nil_iff.mp e2.symm
        subst z1 z2
        obtain ⟨ks, e3, e4, e5⟩ := pairs_own q o2
        unfold pairD at hp
        split at hp
        · rename_i x y
          cases hp
          obtain ⟨a, us, e6, g1, g2⟩ := o1
          have eu : us = [.int x, .int y] := by
            obtain ⟨v1, w1, B1, B2, f1, f2, f3, f4⟩ := g1
            obtain ⟨v2, w2, B3, B4, f5, f6, f7, f8⟩ := f4
            rw [f1, f5, f8.1, f3.1, f7.1]
          subst eu
          exact ⟨(a, [x, y]) :: ks, by rw [e6, e3]; rfl, by simp [e4], fun p hp => by
            rcases List.mem_cons.mp hp with z | z
            · rw [z]; exact g2
            · exact e5 p z⟩
        · cases hp
    · cases h
theorem owns_refs {K : PySem.W.Frag} {W : Wd} {H : Hp} : ∀ {L : List (Addr × List Int)} {ps : List (Int × Int)}, L.map (·.2) = ps.map (fun p => [p.1, p.2]) → (∀ p ∈ L, SqT K H p.1 (p.2.map V.int)) → Owns K W H (L.map fun p => V.ref p.1) (ps.map pD) []
  | [], ps, h, _ => by
    have : ps = [] := by simpa using h.symm
    subst this
    exact ⟨rfl, rfl⟩
  | p :: L, [], h, _ => by simp at h
  | p :: L, q :: ps, h, g => by
    simp only [List.map_cons, List.cons.injEq] at h
    refine ⟨.ref p.1, _, [], [], rfl, rfl, ⟨p.1, [.int q.1, .int q.2], rfl, ⟨.int q.1, [.int q.2], [], [], rfl, rfl, ⟨rfl, rfl⟩, .int q.2, [], [], [], rfl, rfl, ⟨rfl, rfl⟩, rfl, rfl⟩, ?_⟩, owns_refs h.2 fun p hp => g p (List.mem_cons_of_mem _ hp)⟩
    have := g p (List.mem_cons_self ..)
    rw [h.1] at this
    exact this
theorem de_sset (hc : X.calm = true) (hr : X.A.units + 64 < cLine) (hg : Gl X "sorted") (hm : X.mg "sorted" = none) (hg2 : Gl X "set") (hm2 : X.mg "set" = none) (he : DE X T M Wx e f) (s1 : starEach [e] X.env = (false, eval e X.env) :: starEach [] X.env := by rfl) (b1 : (backTo q (starEach [] X.env)).any (·.1) = false := by rfl)
    (s2 : starEach [.Call (.Name "set" p2) [e] [] q] X.env = (false, eval (.Call (.Name "set" p2) [e] [] q) X.env) :: starEach [] X.env := by rfl)
    (b2 : (backTo pos (starEach [] X.env)).any (·.1) = false := by rfl) :
    DE X T M Wx (.Call (.Name "sorted" p1) [.Call (.Name "set" p2) [e] [] q] [] pos) (op1 dSset f) := by
  refine pe_weak (pe_callB (cr_sortedT hc) hg hm bt_sorted (pa_cons (pe_callTy (cr_setOfT hc hr) hg2 hm2 bt_set (pa_cons he pa_nil s1) (he := s1) (hpl := b1)) pa_nil s2) (he := s2) (hpl := b2)) fun σ H Q ⟨ρ, W, r, p⟩ => ?_
  refine ⟨ρ, W, r, (Post.bind r.al p).mono fun x H1 ⟨d, x1, o1, pp⟩ => ?_⟩
  unfold dSset at pp
  cases hi : itemsO (frz d) with
  | none => rw [hi] at pp; exact pp.elim
  | some ds =>
  rw [hi] at pp
  dsimp only at pp
  cases hp : pairsD ds with
  | none => rw [hp] at pp; exact pp.elim
  | some ps =>
  rw [hp] at pp
  dsimp only at pp
  split at pp
  · rename_i hz
    obtain ⟨a, vs, rfl, hs, ov⟩ := items_own (C := Cn.of X T) hi o1
    obtain ⟨ks, e1, e2, e3⟩ := pairs_own hp ov
    have hlen : ks.length = ps.length := by have := congrArg List.length e2; simpa using this
    refine ⟨a, ks, rfl, by rw [← e1]; exact hs, e3, by rw [hlen]; exact hz.1, fun b L nb h1 h2 => ?_⟩
    have hP : ∀ p ∈ L, ∃ pr ∈ ps, p.2 = [pr.1, pr.2] := fun p hp => by
      have : p.2 ∈ ps.map fun p => [p.1, p.2] := by rw [← e2]; exact List.mem_map.mpr ⟨p, h1 p hp, rfl⟩
      obtain ⟨pr, g1, g2⟩ := List.mem_map.mp this
      exact ⟨pr, g1, g2.symm⟩
    have sm : ∀ pr ∈ ps, (0 ≤ pr.1 ∧ pr.1 < 64) ∧ (0 ≤ pr.2 ∧ pr.2 < 64) := fun pr h => by
      have q := List.all_eq_true.mp hz.2 pr h
      unfold small63 at q
      simpa using q
    have xb : Ext T H1 (upd H1 b (SetTO X.prog X.w b L)) := .new nb
    refine ⟨b, L, 2, 64, rfl, upd_same, fun p hp => SqT.ext (e3 p (h1 p hp)) xb, by decide, fun p hp => ?_, fun L' c pm nd fw pw nc => ?_⟩
    · obtain ⟨pr, g1, g2⟩ := hP p hp
      obtain ⟨b1, b2⟩ := sm pr g1
      rw [g2]
      refine ⟨rfl, fun z hz => ?_⟩
      rcases List.mem_cons.mp hz with w | w
      · rw [w]; exact b1
      · rcases List.mem_cons.mp w with w | w
        · rw [w]; exact b2
        · cases w
    · have hP' : ∀ p ∈ L', ∃ pr ∈ ps, p.2 = [pr.1, pr.2] := fun p hp => hP p (pm.mem_iff.mp hp)
      have ex : ∃ qs : List (Int × Int), L'.map (·.2) = qs.map (fun p => [p.1, p.2]) ∧ ∀ q ∈ qs, q ∈ ps := by
        clear pm nd fw pw
        induction L' with
        | nil => exact ⟨[], rfl, fun q hq => by cases hq⟩
        | cons p L' ih =>
          obtain ⟨qs, g1, g2⟩ := ih fun p hp => hP' p (List.mem_cons_of_mem _ hp)
          obtain ⟨pr, g3, g4⟩ := hP' p (List.mem_cons_self ..)
          exact ⟨pr :: qs, by simp [g1, g4], fun q hq => by
            rcases List.mem_cons.mp hq with z | z
            · rw [z]; exact g3
            · exact g2 q z⟩
      obtain ⟨qs, g1, g2⟩ := ex
      have inj : ∀ p r : Int × Int, ([p.1, p.2] : List Int) = [r.1, r.2] → p = r := fun p r h => by
        simp only [List.cons.injEq, and_true] at h
        exact Prod.ext h.1 h.2
      have ord : qs.Pairwise ltP := by
        have q1 : (qs.map fun p => [p.1, p.2]).Pairwise (fun x y => TS.code 64 x ≤ TS.code 64 y) := by rw [← g1, List.pairwise_map]; exact pw
        have q2 : (qs.map fun p => [p.1, p.2]).Nodup := by rw [← g1]; exact nd
        rw [List.pairwise_map] at q1
        have q3 : qs.Pairwise fun a b => ([a.1, a.2] : List Int) ≠ [b.1, b.2] := by rw [List.Nodup, List.pairwise_map] at q2; exact q2
        have q4 := q1.and q3
        rw [List.pairwise_iff_getElem] at q4 ⊢
        intro i j hi hj hij
        obtain ⟨q5, q6⟩ := q4 i j hi hj hij
        obtain ⟨b1, b2⟩ := sm _ (g2 _ (List.getElem_mem hi))
        obtain ⟨b3, b4⟩ := sm _ (g2 _ (List.getElem_mem hj))
        exact pair_lt q5 q6 b1 b2 b3 b4
      have eq : qs = sset ps := ord_one ord (sset_ord ps) fun x => by
        rw [sset_mem]
        refine ⟨g2 x, fun hx => ?_⟩
        have m1 : [x.1, x.2] ∈ ks.map (·.2) := by rw [e2]; exact List.mem_map.mpr ⟨x, hx, rfl⟩
        obtain ⟨kp, hk1, hk2⟩ := List.mem_map.mp m1
        have m2 := h2 kp hk1
        rw [hk2] at m2
        have m3 : [x.1, x.2] ∈ L'.map (·.2) := (pm.map (·.2)).mem_iff.mpr m2
        rw [g1] at m3
        obtain ⟨y, hy1, hy2⟩ := List.mem_map.mp m3
        rw [← inj y x hy2]
        exact hy1
      have xc : Ext T (upd H1 b (SetTO X.prog X.w b L)) (upd (upd H1 b (SetTO X.prog X.w b L)) c (.lst (L'.map fun q => V.ref q.1))) := .new nc
      refine pp (.ref c) _ [c] (xb.trans xc) (fun z hz => ?_) (by simp) ⟨c, L'.map fun q => V.ref q.1, [], rfl, ?_, rfl, upd_same⟩
      · rw [List.mem_singleton.mp hz]
        exact fun w => Al.no nc (w.ext xb)
      · rw [← eq]
        exact owns_refs g1 fun p hp => SqT.ext (SqT.ext (e3 p (h1 p (pm.mem_iff.mp hp))) xb) xc
  · exact pp.elim
end
end De
set_option Elab.async false
set_option linter.all false
set_option maxRecDepth 100000
namespace De
open PySem PySem.Spec PyProof.Rows L2

/-! ### where a lambda stands in a text -/
def nulE : Expr := .Constant .none 0 ⟨0, 0, 0, 0⟩
def nulS : Stmt := .Pass ⟨0, 0, 0, 0⟩
def kidsE : Expr → List Expr
  | .BoolOp _ vs _ => vs
  | .BinOp l _ r _ => [l, r]
  | .UnaryOp _ o _ => [o]
  | .Lambda _ b _ _ => [b]
  | .IfExp t b o _ => [t, b, o]
  | .ListComp e gs _ _ => e :: gs.flatMap fun g => g.iter :: g.ifs
  | .Compare l _ cs _ => l :: cs
  | .Call f as ks _ => f :: (as ++ ks.map (·.value))
  | .Attribute v _ _ => [v]
  | .Subscript v s _ => [v, s]
  | .List es _ => es
  | .Tuple es _ _ => es
  | .Dict _ vs _ => vs
  | _ => []
def kidsS : Stmt → List Expr
  | .Return (some e) _ => [e]
  | .Assign _ e _ => [e]
  | .AugAssign _ _ e _ => [e]
  | .For _ i _ _ _ => [i]
  | .While t _ _ _ => [t]
  | .If t _ _ _ => [t]
  | .Expr e _ => [e]
  | _ => []
def blkS : Stmt → List (List Stmt)
  | .FunctionDef _ _ b _ _ _ _ _ _ _ => [b]
  | .For _ _ b o _ => [b, o]
  | .While _ b o _ => [b, o]
  | .If _ b o _ => [b, o]
  | _ => []
def goE (e : Expr) : List Nat → Expr
  | [] => e
  | i :: r => goE ((kidsE e).getD i nulE) r
def goS (s : Stmt) : List (Nat × Nat) → Stmt
  | [] => s
  | (b, i) :: r => goS (((blkS s).getD b []).getD i nulS) r
def lamOf (q : Str) (ps fs : List Str) (e : Expr) : LamC := match e with
  | .Lambda a b sc _ => ⟨q, a, b, sc, ps, fs⟩
  | _ => ⟨q, { posonlyargs := [], args := [], vararg := none, kwonlyargs := [], kw_defaults := [], kwarg := none, defaults := [] }, nulE, { kind := .function, names := [], isGenerator := false, isCoroutine := false }, ps, fs⟩
def lamAtS (q : Str) (ps fs : List Str) (s : Stmt) (p : List (Nat × Nat)) (j : Nat) (r : List Nat) : LamC := lamOf q ps fs (goE ((kidsS (goS s p)).getD j nulE) r)

section
variable {P : Program} {w : World} {K : PySem.W.Frag} {mg : Str → Option Value} {base : Heap} {T : List (Addr × Str)}
theorem LamS.mk1 {L : LamC} {N : List Str} {M : List Nat} {g : Env → Res D} {k n : Nat} (O : L.Ok N) (hb : ∀ (q : Str) (cl : List (Str × Addr)) (pm cv ctv : Value) (us : List Value), us.length = L.ps.length → bindArgs (PySem.W.kla_fn "<lambda>" q L.params L.body L.scope cl pm cv ctv) ⟨us, []⟩ = pure (L.ps.zip us)) (hn : N.length = n)
    (h : ∀ (cl : List (Str × Addr)) (f c' : Addr) (A : Around) (outer : List PySem.Env) (s : Shared) (H : Hp) (E : XK), Room k (A.deeper (lamEv L cl s.heap.objs.size f c')) → DE (lamX (L2.CX P w) P w K mg base N L cl f c' A outer s H E) T M (fun c o _ H => E c o H) L.body g) :
    LamS P w K mg base T L k (fun ds => g (env0 n ds)) := ⟨N, M, g, O, hb, fun ds => by rw [hn], h⟩
theorem takesL {CX : CXT} {E : XK} {N : List Str} {L : LamC} {cl : List (Str × Addr)} {f c' : Addr} {A : Around} {outer : List PySem.Env} {s : Shared} {H : Hp} : Takes (lamX (L2.CX P w) P w K mg base N L cl f c' A outer s H E) (fun c o _ H => E c o H) := takes_of rfl rfl rfl rfl
theorem LamAt.of {X : Cx} {x : Str} {L : LamC} {N : List Str} (tab : Mk1 X.K X.base X.mg T x L.qual) (O : L.Ok N) (code : X.env.code = .ref (He.cT X.K (x, none)).1) (qual : X.env.qual ++ "<lambda>" = L.qual) (dfl : defaultsOf L.params X.env = ([], [])) (caps : mkB X.env.scope L = true) : LamAt X T x L := ⟨tab, code, qual, dfl, caps, O.fre⟩
theorem caps_of {X : Cx} {L : LamC} {N : List Str} {cs : List Nat} (hN : X.N = N) (h : capsB N L.fs cs = true) : Caps X L cs := caps_by (by rw [hN]; exact h)
/-- a def that makes lambdas: its code object is told -/
theorem FnS.mkL {x : Str} {params : Arguments} {body : List Stmt} {scope : Scope} {N ps : List Str} {k n : Nat} {s : Env → Out} (G : ∃ fd, FunD K x x params body scope [] [] (He.ga K x) fd) (m : mg x = some (.ref (He.ga K x))) (S : FnScope N ps scope)
    (hbi : ∀ (kV doc pm : Value) (an : Option Addr) (cdv ct : Value) (us : List Value), us.length = ps.length → bindArgs (PySem.W.fnOf x x params body scope .none kV doc pm an cdv ct) ⟨us, []⟩ = pure (ps.zip us)) (hn : N.length = n)
    (hb : ∀ (A : Around) (outer : List PySem.Env) (s0 : Shared) (H : Hp) (E : XK), Room k (A.deeper (envOfC x scope s0.heap.objs.size (He.ga K x) (.ref (He.cT K (x, none)).1))) → DSs (cxOf (L2.CX P w) P w K mg base N x scope (He.ga K x) (.ref (He.cT K (x, none)).1) A outer s0 H E) T (fun c o _ H => E c o H) body s) :
    FnS P w K mg base T x ps (k + 1) (runF s n) := by
  obtain ⟨fd, G⟩ := G
  subst hn
  refine ⟨⟨fd, ?_, G.bindsN hbi, G.look⟩, m, G.kp⟩
  obtain ⟨oc, od, dV, kV, doc, pm, an, cdv, ct, osl, rfl, lk, hcd, _, _⟩ := G.ex
  obtain ⟨c, rfl⟩ := He.codeIn_ref hcd
  have ec : (He.cT K (x, none)).1 = c := He.codeOf_eq (p := (x, none)) lk rfl
  have hpl : ps.length ≤ N.length := by rw [← congrArg List.length S.pre, List.length_take]; exact Nat.min_le_right ..
  refine L2.fn_of lk hcd S (fun vs H Q E ⟨ds, W, al, tb, o, hl, p⟩ => by rw [o.length]; exact hl) fun A outer s0 H vs Q E hr ⟨ds, W, al, tb, o, hl, p⟩ => ?_
  rw [← ec] at hr ⊢
  refine ⟨_, hb A outer s0 H E hr, env0 N.length ds, H, W, [], ⟨_, rel0 (C := ⟨K, T, mg⟩) al tb o (by omega)⟩, ?_⟩
  have p : Post ⟨K, T, mg⟩ W H (runF s N.length ds) Q E := p
  unfold runF at p
  cases h : s (env0 N.length ds) with
  | nx ρ => rw [h] at p; exact fun σ H' ⟨foot, r⟩ => p .non H' [] r.ext (fun a h => by cases h) .nil ⟨rfl, rfl⟩
  | rt d => rw [h] at p; exact p
  | bk ρ => rw [h] at p; exact p.elim
  | ct ρ => rw [h] at p; exact p.elim
  | ex e' ρ => rw [h] at p; exact fun c o σ H' ⟨foot, r⟩ y => p c o H' r.ext y
  | bad => rw [h] at p; exact p.elim
end
end De
set_option Elab.async false
set_option linter.all false
set_option maxRecDepth 100000
namespace De
open PySem PySem.Spec PyProof.Rows L2

/-! ### a new list of ints that a def hands back is the caller's own -/
mutual
/-- no list that begins with an int is in it -/
def noI : D → Bool
  | .lst _ ds => noIs ds && !(hdI ds)
  | .rol ds => noIs ds && !(hdI ds)
  | .tup ds => noIs ds
  | .dic _ _ ds => noIs ds
  | _ => true
def noIs : List D → Bool
  | [] => true
  | d :: ds => noI d && noIs ds
def hdI : List D → Bool
  | .int _ :: _ => true
  | _ => false
end
def isI : D → Bool
  | .int _ => true
  | _ => false
def upR (ds : List D) : Res D → Res D
  | .ok (.lst false es) => if (noIs ds && hdI es && es.all isI) = true then .ok (.lst true es) else .ok (.lst false es)
  | r => r
def upF (F : List D → Res D) (ds : List D) : Res D := upR ds (F ds)
def WI (H : Hp) : Wd := fun a => ∃ i us, H a = some (.lst (.int i :: us))
section
variable {K : PySem.W.Frag} {W : Wd} {H : Hp}
theorem hdI_of {vs : List V} {ds : List D} {A : List Addr} {i : Int} {us : List V} (o : Owns K W H vs ds A) (e : vs = .int i :: us) : hdI ds = true := by
  subst e
  cases ds with
  | nil => cases o.1
  | cons d ds =>
    obtain ⟨v, ws, A1, A2, e1, e2, h1, h2⟩ := o
    injection e1 with e3 e4
    subst e3
    cases d with
    | int j => rfl
    | non => cases h1.1
    | bl b => cases h1.1
    | str b => cases h1.1
    | ty b => cases h1.1
    | lst b es => obtain ⟨a, vs, B, e, _⟩ := h1; cases e
    | rol es => obtain ⟨a, vs, e, _⟩ := h1; cases e
    | tup es => obtain ⟨a, vs, e, _⟩ := h1; cases e
    | dic b ks es => obtain ⟨a, vs, B, e, _⟩ := h1; cases e
mutual
theorem Own.ni : ∀ (d : D) {v : V} {A : List Addr}, noI d = true → Own K W H v d A → Own K (fun a => W a ∨ WI H a) H v d A
  | .non, _, _, _, h => h
  | .bl _, _, _, _, h => h
  | .int _, _, _, _, h => h
  | .str _, _, _, _, h => h
  | .ty _, _, _, _, h => h
  | .lst true ds, _, _, q, h => by
    obtain ⟨a, vs, B, e, h1, e2, h2⟩ := h
    have q2 : noIs ds = true ∧ (!hdI ds) = true := by simpa [noI] using q
    exact ⟨a, vs, B, e, Owns.ni ds q2.1 h1, e2, h2⟩
  | .lst false ds, _, _, q, h => by
    obtain ⟨a, vs, B, e, h1, e2, e3, h2, n⟩ := h
    have q2 : noIs ds = true ∧ (!hdI ds) = true := by simpa [noI] using q
    refine ⟨a, vs, B, e, Owns.ni ds q2.1 h1, e2, e3, h2, fun z => z.elim n fun ⟨i, us, z⟩ => ?_⟩
    rw [h2] at z
    have e4 : vs = .int i :: us := by have := Option.some.inj z; injection this
    rw [hdI_of h1 e4] at q2
    exact absurd q2.2 (by decide)
  | .rol ds, _, _, q, h => by
    obtain ⟨a, vs, e, h1, e2, h2⟩ := h
    have q2 : noIs ds = true ∧ (!hdI ds) = true := by simpa [noI] using q
    refine ⟨a, vs, e, Owns.ni ds q2.1 h1, e2, h2.imp (fun ⟨r, n⟩ => ⟨r, fun z => z.elim n fun ⟨i, us, z⟩ => ?_⟩) id⟩
    rcases r with r | ⟨o, r⟩
    · rw [r] at z
      have e4 : vs = .int i :: us := by have := Option.some.inj z; injection this
      rw [hdI_of h1 e4] at q2
      exact absurd q2.2 (by decide)
    · rw [r] at z; cases z
  | .tup ds, _, _, q, h => by
    obtain ⟨a, vs, e, h1, h2⟩ := h
    exact ⟨a, vs, e, Owns.ni ds (by simpa [noI] using q) h1, h2⟩
  | .dic true ks ds, _, _, q, h => by
    obtain ⟨a, vs, B, e, l, h1, e2, h2⟩ := h
    exact ⟨a, vs, B, e, l, Owns.ni ds (by simpa [noI] using q) h1, e2, h2⟩
  | .dic false ks ds, _, _, q, h => by
    obtain ⟨a, vs, B, e, l, h1, e2, e3, h2, n⟩ := h
    refine ⟨a, vs, B, e, l, Owns.ni ds (by simpa [noI] using q) h1, e2, e3, h2, fun z => z.elim n fun ⟨i, us, z⟩ => ?_⟩
    rcases h2 with r | ⟨o, r⟩
    · rw [r] at z; cases z
    · rw [r] at z; cases z
theorem Owns.ni : ∀ (ds : List D) {vs : List V} {A : List Addr}, noIs ds = true → Owns K W H vs ds A → Owns K (fun a => W a ∨ WI H a) H vs ds A
  | [], _, _, _, h => h
  | d :: ds, _, _, q, h => by
    obtain ⟨v, ws, A1, A2, e1, e2, h1, h2⟩ := h
    have q2 : noI d = true ∧ noIs ds = true := by simpa [noIs] using q
    exact ⟨v, ws, A1, A2, e1, e2, Own.ni d q2.1 h1, Owns.ni ds q2.2 h2⟩
end
theorem owns_flat {W' : Wd} : ∀ {es : List D} {vs : List V} {A : List Addr}, es.all isI = true → Owns K W H vs es A → Owns K W' H vs es [] ∧ A = []
  | [], vs, A, _, o => ⟨⟨o.1, rfl⟩, o.2⟩
  | d :: es, vs, A, q, o => by
    simp only [List.all_cons, Bool.and_eq_true] at q
    obtain ⟨v, ws, A1, A2, e1, e2, h1, h2⟩ := o
    obtain ⟨h3, h4⟩ := owns_flat (W' := W') q.2 h2
    cases d with
    | int i =>
      obtain ⟨e3, e4⟩ := h1
      subst e4 h4
      exact ⟨⟨v, ws, [], [], e1, rfl, ⟨e3, rfl⟩, h3⟩, e2⟩
    | _ => cases q.1
end
theorem FnS.up {P : Program} {w : World} {K : PySem.W.Frag} {mg : Str → Option Value} {base : Heap} {T : List (Addr × Str)} {x : Str} {ps : List Str} {k : Nat} {F : List D → Res D} (h : FnS P w K mg base T x ps k F) : FnS P w K mg base T x ps k (upF F) := by
  obtain ⟨⟨fd, G, b, l⟩, m, kp⟩ := h
  refine ⟨⟨fd, G.imp fun vs H Q E ⟨ds, W, al, tb, o, hl, p⟩ => ?_, b, l⟩, m, kp⟩
  unfold upF at p
  cases hF : F ds with
  | ex e => exact ⟨ds, W, al, tb, o, hl, by rw [hF] at p ⊢; exact p⟩
  | bad => exact ⟨ds, W, al, tb, o, hl, by rw [hF] at p ⊢; exact p⟩
  | ok d =>
    rw [hF] at p
    by_cases hd : ∃ es, d = .lst false es ∧ (noIs ds && hdI es && es.all isI) = true
    · obtain ⟨es, e, hq⟩ := hd
      subst e
      unfold upR at p
      dsimp only at p
      rw [if_pos hq] at p
      simp only [Bool.and_eq_true] at hq
      refine ⟨ds, fun a => W a ∨ WI H a, fun a z => z.elim (al a) fun ⟨i, us, z⟩ => .lst z, tb, Owns.ni ds hq.1.1 o, hl, ?_⟩
      rw [hF]
      intro v H' A x n nd ov
      obtain ⟨a, vs', B, e1, h1, e2, e3, h2, h3⟩ := ov
      obtain ⟨f1, f2⟩ := owns_flat (W' := W.plus [a]) hq.2 h1
      subst e2
      refine p v H' [a] x (fun z hz => ?_) (by simp) ⟨a, vs', [], e1, f1, rfl, h2⟩
      rw [List.mem_singleton.mp hz]
      intro ⟨u, g1, g2⟩
      have g3 := x.e a u g1 g2
      rw [h2] at g3
      cases g3
      cases es with
      | nil => cases hq.1.2
      | cons d0 es0 =>
        cases d0 with
        | int i =>
          obtain ⟨v0, ws0, A1, A2, e5, e6, e7, e8⟩ := h1
          rw [e7.1] at e5
          exact h3 (.inl (.inr ⟨i, ws0, by rw [g1, e5]⟩))
        | _ => cases hq.1.2
    · refine ⟨ds, W, al, tb, o, hl, ?_⟩
      rw [hF]
      have e : upR ds (.ok d) = .ok d := by
        unfold upR
        split
        · rename_i es e2
          cases e2
          split
          · rename_i hc
            exact absurd ⟨es, rfl, hc⟩ hd
          · rfl
        · rfl
      rw [e] at p
      exact p
end De
set_option Elab.async false
set_option linter.all false
set_option maxRecDepth 100000
namespace De
open PySem PySem.Spec PyProof.Rows L2

/-! ### data of any depth: in, not in, the order -/
def inDeep (d e : D) : Option Bool := match e with
  | .lst _ ds => if (lv 20 d && lvs 20 ds) = true then some (ds.any fun z => eqD z d) else none
  | .rol ds => if (lv 20 d && lvs 20 ds) = true then some (ds.any fun z => eqD z d) else none
  | .tup ds => if (lv 20 d && lvs 20 ds) = true then some (ds.any fun z => eqD z d) else none
  | _ => none
def dInX (d e : D) : Option D := (inDeep d e).map .bl
def dNotInX (d e : D) : Option D := (inDeep d e).map fun b => .bl (!b)
theorem any_toPs (d : D) : ∀ ds : List D, ((toPs ds).any fun z => PyData.eqv z (toP d)) = ds.any fun z => eqD z d
  | [] => rfl
  | x :: ds => by
    show (PyData.eqv (toP x) (toP d) || (toPs ds).any fun z => PyData.eqv z (toP d)) = _
    rw [any_toPs d ds]
    rfl
theorem lvs_plain {ds : List D} (h : lvs 20 ds = true) : PyData.plainAll (toPs ds) = true ∧ PyData.depthAll (toPs ds) ≤ 20 := by
  obtain ⟨h1, h2⟩ := lvs_depth 20 ds h
  exact ⟨PySem.PyData.plainAll_of_canLay0 _ h1, h2⟩
theorem lv_plain {d : D} (h : lv 20 d = true) : PyData.plain (toP d) = true ∧ (toP d).depth ≤ 20 := by
  obtain ⟨h1, h2⟩ := lv_depth 20 d h
  exact ⟨PySem.PyData.plain_of_canLay0 _ h1, h2⟩
section
variable {X : Cx} {T : List (Addr × Str)} {pins : List (Addr × Obj)} {s : Shared} {σ : L2.St} {H : Hp} {x y : V} {v u : Value} {W : Wd} {d e : D}
/-- what a membership test reads -/
theorem deep_reads (I : Inv X pins σ H s) (rx : RelV x v) (ry : RelV y u) (ox : Own X.K W H x d []) (oy : Own X.K W H y e []) {b : Bool} (h : inDeep d e = some b) :
    ∃ ds as bs, (Reads s.heap u (.list (toPs ds)) bs ∨ Reads s.heap u (.tuple (toPs ds)) bs) ∧ Reads s.heap v (toP d) as ∧ lv 20 d = true ∧ lvs 20 ds = true ∧ b = ((toPs ds).any fun z => PyData.eqv z (toP d)) := by
  have fin : ∀ {ds : List D} {q : PyData}, (if (lv 20 d && lvs 20 ds) = true then some (ds.any fun z => eqD z d) else none) = some b → Dp X.K H y q → (q = .list (toPs ds) ∨ q = .tuple (toPs ds)) → ∃ ds as bs, (Reads s.heap u (.list (toPs ds)) bs ∨ Reads s.heap u (.tuple (toPs ds)) bs) ∧ Reads s.heap v (toP d) as ∧ lv 20 d = true ∧ lvs 20 ds = true ∧ b = ((toPs ds).any fun z => PyData.eqv z (toP d)) := by
    intro ds q h dp hq
    split at h
    · rename_i hz
      obtain ⟨z1, z2⟩ := Bool.and_eq_true_iff.mp hz
      obtain ⟨as, r1⟩ := Dp.reads I _ x v (own_dp 20 d x [] z1 ox) rx
      obtain ⟨bs, r2⟩ := Dp.reads I _ y u dp ry
      refine ⟨ds, as, bs, ?_, r1, z1, z2, ?_⟩
      · rcases hq with e | e
        · subst e; exact .inl r2
        · subst e; exact .inr r2
      · rw [any_toPs]; exact (Option.some.inj h).symm
    · cases h
  have lvOf : ∀ {ds : List D} {o : Bool}, (if (lv 20 d && lvs 20 ds) = true then some (ds.any fun z => eqD z d) else none) = some b → lvs 20 ds = true := fun {ds o} h => by
    split at h
    · rename_i hz; exact (Bool.and_eq_true_iff.mp hz).2
    · cases h
  cases e with
  | lst o ds => exact fin (ds := ds) h (own_dp 21 (.lst o ds) y [] (lvOf (o := o) h) oy) (.inl rfl)
  | rol ds => exact fin (ds := ds) h (own_dp 21 (.rol ds) y [] (lvOf (o := true) h) oy) (.inl rfl)
  | tup ds => exact fin (ds := ds) h (own_dp 21 (.tup ds) y [] (lvOf (o := true) h) oy) (.inr rfl)
  | _ => cases h
theorem inX_ok (hu : X.A.units + 64 < cLine) : OpR X (compareOp .In) (r2D (Cn.of X T) dInX) := by
  intro pins s σ H x y v u Q I rx ry ⟨W, d, e, al, tb, ox, oy, q⟩
  unfold dInX at q
  cases hi : inDeep d e with
  | none => rw [hi] at q; exact q.elim
  | some b =>
    rw [hi] at q
    have q := RD.bl (C := Cn.of X T) (W := W) q
    obtain ⟨ds, as, bs, r2, r1, z1, z2, eb⟩ := deep_reads I rx ry ox oy hi
    obtain ⟨p1, p2⟩ := lvs_plain z2
    obtain ⟨p3, p4⟩ := lv_plain z1
    rw [eb] at q
    rcases r2 with r2 | r2
    · exact SeqAt.in_list_data r2 r1 p1 p3 (by omega) ⟨.bl _, H, I, rfl, q⟩
    · exact SeqAt.in_tuple_data r2 r1 p1 p3 (by omega) ⟨.bl _, H, I, rfl, q⟩
theorem notInX_ok (hu : X.A.units + 64 < cLine) : OpR X (compareOp .NotIn) (r2D (Cn.of X T) dNotInX) := by
  intro pins s σ H x y v u Q I rx ry ⟨W, d, e, al, tb, ox, oy, q⟩
  unfold dNotInX at q
  cases hi : inDeep d e with
  | none => rw [hi] at q; exact q.elim
  | some b =>
    rw [hi] at q
    have q := RD.bl (C := Cn.of X T) (W := W) q
    obtain ⟨ds, as, bs, r2, r1, z1, z2, eb⟩ := deep_reads I rx ry ox oy hi
    obtain ⟨p1, p2⟩ := lvs_plain z2
    obtain ⟨p3, p4⟩ := lv_plain z1
    rw [eb] at q
    rcases r2 with r2 | r2
    · exact SeqAt.notIn_list_data r2 r1 p1 p3 (by omega) ⟨.bl _, H, I, rfl, q⟩
    · exact SeqAt.notIn_tuple_data r2 r1 p1 p3 (by omega) ⟨.bl _, H, I, rfl, q⟩
end
/-! ### a < b, a <= b of data -/
def cmpOk (d e : D) : Bool := lv 20 d && lv 20 e && PySem.W.alike (toP d) (toP e) && nonN d
def ltD (d e : D) : Bool := PySem.W.dataLt (toP d) (toP e)
def dLtX (d e : D) : Option D := if cmpOk d e = true then some (.bl (ltD d e)) else none
def dLeX (d e : D) : Option D := if cmpOk d e = true then some (.bl (!ltD e d)) else none
theorem nonN_toP {d : D} (h : nonN d = true) : toP d ≠ .none := fun e => by
  cases d with
  | non => cases h
  | _ => simp [toP] at e
section
variable {X : Cx} {T : List (Addr × Str)}
theorem cmp_reads {pins : List (Addr × Obj)} {s : Shared} {σ : L2.St} {H : Hp} {x y : V} {v u : Value} {W : Wd} {d e : D} (I : Inv X pins σ H s) (rx : RelV x v) (ry : RelV y u) (ox : Own X.K W H x d []) (oy : Own X.K W H y e []) (h : cmpOk d e = true) :
    ∃ as bs, Reads s.heap v (toP d) as ∧ Reads s.heap u (toP e) bs ∧ PySem.W.alike (toP d) (toP e) = true ∧ toP d ≠ .none ∧ (toP d).depth ≤ 20 := by
  unfold cmpOk at h
  simp only [Bool.and_eq_true] at h
  obtain ⟨⟨⟨h1, h2⟩, h3⟩, h4⟩ := h
  obtain ⟨as, r1⟩ := Dp.reads I _ x v (own_dp 20 d x [] h1 ox) rx
  obtain ⟨bs, r2⟩ := Dp.reads I _ y u (own_dp 20 e y [] h2 oy) ry
  exact ⟨as, bs, r1, r2, h3, nonN_toP h4, (lv_depth 20 d h1).2⟩
theorem ltX_ok (hu : X.A.units + 64 < cLine) : OpR X (compareOp .Lt) (r2D (Cn.of X T) dLtX) := by
  intro pins s σ H x y v u Q I rx ry ⟨W, d, e, al, tb, ox, oy, q⟩
  unfold dLtX at q
  split at q
  · rename_i hz
    obtain ⟨as, bs, r1, r2, a1, a2, a3⟩ := cmp_reads I rx ry ox oy hz
    exact PySem.W.lt_data r1 r2 a1 a2 (by omega) ⟨.bl _, H, I, rfl, RD.bl (C := Cn.of X T) (W := W) q⟩
  · exact q.elim
theorem leX_ok (hu : X.A.units + 64 < cLine) : OpR X (compareOp .LtE) (r2D (Cn.of X T) dLeX) := by
  intro pins s σ H x y v u Q I rx ry ⟨W, d, e, al, tb, ox, oy, q⟩
  unfold dLeX at q
  split at q
  · rename_i hz
    obtain ⟨as, bs, r1, r2, a1, a2, a3⟩ := cmp_reads I rx ry ox oy hz
    exact PySem.W.le_data r1 r2 a1 a2 (by omega) ⟨.bl _, H, I, rfl, RD.bl (C := Cn.of X T) (W := W) q⟩
  · exact q.elim
end
end De
set_option Elab.async false
set_option linter.all false
set_option maxRecDepth 100000
namespace De
open PySem PySem.Spec PyProof.Rows L2
theorem nodup_inj {α β : Type} {f : α → β} : ∀ {l : List α}, (l.map f).Nodup → ∀ {a b : α}, a ∈ l → b ∈ l → f a = f b → a = b
  | [], _, _, _, h, _, _ => by cases h
  | x :: l, nd, a, b, ha, hb, e => by
    obtain ⟨n1, n2⟩ := List.nodup_cons.mp (show (f x :: l.map f).Nodup from nd)
    rcases List.mem_cons.mp ha with h1 | h1
    · rcases List.mem_cons.mp hb with h2 | h2
      · rw [h1, h2]
      · exact absurd (List.mem_map.mpr ⟨b, h2, by rw [← e, h1]⟩) n1
    · rcases List.mem_cons.mp hb with h2 | h2
      · exact absurd (List.mem_map.mpr ⟨a, h1, by rw [e, h2]⟩) n1
      · exact nodup_inj n2 h1 h2 e
/-- the tables of the defs tf, each with the name of its lambdas -/
def tabsOf (K : PySem.W.Frag) (tf : List He.Defn) : List (Addr × Str) := tf.map fun p => ((He.cT K p).2, p.1 ++ ".<locals>.<lambda>")
theorem mk1_of {K : PySem.W.Frag} {base : Heap} {mg : Str → Option Value} {tf : List He.Defn} {x q : Str} (TB : ∀ p ∈ tf.map (He.cT K), LamX.TabB base mg p.1 p.2) (nd : (tf.map fun p => (He.cT K p).2).Nodup) (hx : (x, none) ∈ tf) (eq : x ++ ".<locals>.<lambda>" = q) :
    Mk1 K base mg (tabsOf K tf) x q := by
  refine ⟨TB _ (List.mem_map.mpr ⟨_, hx, rfl⟩), List.mem_map.mpr ⟨_, hx, by rw [eq]⟩, fun p hp e => ?_⟩
  obtain ⟨r, hr, e2⟩ := List.mem_map.mp hp
  subst e2
  have := nodup_inj nd hr hx e
  subst this
  exact eq
theorem tabsOf_nil {K : PySem.W.Frag} {tf : List He.Defn} {H : Hp} (hT : ∀ p ∈ tf.map (He.cT K), H p.2 = some (.tbl #[])) : LamX.Tabs (tabsOf K tf) H := fun p hp => by
  obtain ⟨r, hr, e2⟩ := List.mem_map.mp hp
  subst e2
  exact LamX.TabS.nil (hT _ (List.mem_map.mpr ⟨r, hr, rfl⟩))
end De
set_option Elab.async false
set_option linter.all false
set_option maxRecDepth 100000
namespace De
open PySem PySem.Spec PyProof.Rows L2

/-! ### a[i][j] = x, an int put into an own list of own lists -/
theorem owns_nest {K : PySem.W.Frag} {W : Wd} {H : Hp} {ds es : List D} {vs : List V} {B : List Addr} {j m : Nat} {z : Int} (o : Owns K W H vs ds B) (nd : B.Nodup) (w : ∀ b ∈ B, W b) (hj : ds[j]? = some (.lst true es)) (hm : m < es.length) :
    ∃ l us F, vs[j]? = some (.ref l) ∧ H l = some (.lst us) ∧ us.length = es.length ∧ l ∈ B ∧ Owns K W (upd H l (.lst (us.set m (.int z)))) vs (ds.set j (.lst true (es.set m (.int z)))) F ∧ (∀ b ∈ F, b ∈ B) ∧ F.Nodup := by
  obtain ⟨hlt, hg⟩ := List.getElem?_eq_some_iff.mp hj
  obtain ⟨B1, B2, rfl, s1, s2⟩ := o.split j
  have hv : j < vs.length := by rw [o.length]; exact hlt
  rw [List.drop_eq_getElem_cons hlt, hg] at s2
  obtain ⟨v0, ws, A1, A2, e1, rfl, s4, s3⟩ := s2
  rw [List.drop_eq_getElem_cons hv] at e1
  obtain ⟨ev, rfl⟩ := List.cons.inj e1
  obtain ⟨l, us, C, e2, h1, rfl, h3⟩ := own_lstT (C := ⟨K, [], fun _ => none⟩) s4
  obtain ⟨n1, n2, n3⟩ := List.nodup_append.mp nd
  obtain ⟨n4, n5, n6⟩ := List.nodup_append.mp n2
  obtain ⟨n7, n8⟩ := List.nodup_cons.mp n4
  have lB : l ∈ B1 ++ ((l :: C) ++ A2) := List.mem_append_right _ (List.mem_append_left _ (List.mem_cons_self ..))
  have wl := w l lB
  have lk : likeO (.lst us) (.lst (us.set m (.int z))) = true := rfl
  obtain ⟨F, f1, f2, f3⟩ := h1.set (v := .int z) (d := .int z) (A := []) ⟨rfl, rfl⟩ hm (by rw [List.append_nil]; exact n8)
  have sub : ∀ b ∈ F, b ∈ C := fun b hb => (f2 b hb).resolve_right (by simp)
  have q1 := Owns.upd h3 lk wl _ s1 fun y => n3 l y l (List.mem_append_left _ (List.mem_cons_self ..)) rfl
  have q2 := Owns.upd h3 lk wl _ f1 fun y => n7 (sub l y)
  have q3 := Owns.upd h3 lk wl _ s3 fun y => n6 l (List.mem_cons_self ..) l y rfl
  refine ⟨l, us, B1 ++ ((l :: F) ++ A2), by rw [List.getElem?_eq_getElem hv, ev, e2], h3, h1.length, lB, ?_, fun b hb => ?_, ?_⟩
  · have hvs : vs = vs.take j ++ (.ref l :: vs.drop (j + 1)) := by
      rw [← e2, ← ev, ← List.drop_eq_getElem_cons hv, List.take_append_drop]
    rw [List.set_eq_take_append_cons_drop (l := ds), if_pos hlt, hvs]
    refine Owns.app ?_ ⟨.ref l, _, l :: F, A2, rfl, rfl, ⟨l, _, F, rfl, q2, rfl, upd_same⟩, ?_⟩
    · exact q1
    · exact q3
  · rcases List.mem_append.mp hb with y | y
    · exact List.mem_append_left _ y
    · rcases List.mem_append.mp y with y | y
      · rcases List.mem_cons.mp y with y | y
        · rw [y]; exact lB
        · exact List.mem_append_right _ (List.mem_append_left _ (List.mem_cons_of_mem _ (sub b y)))
      · exact List.mem_append_right _ (List.mem_append_right _ y)
  · have lF : l ∉ F := fun y => n7 (sub l y)
    refine List.nodup_append.mpr ⟨n1, List.nodup_append.mpr ⟨List.nodup_cons.mpr ⟨lF, f3⟩, n5, fun b hb c hc => ?_⟩, fun b hb c hc => ?_⟩
    · refine n6 b ?_ c hc
      rcases List.mem_cons.mp hb with y | y
      · rw [y]; exact List.mem_cons_self ..
      · exact List.mem_cons_of_mem _ (sub b y)
    · refine n3 b hb c ?_
      rcases List.mem_append.mp hc with y | y
      · rcases List.mem_cons.mp y with y | y
        · rw [y]; exact List.mem_append_left _ (List.mem_cons_self ..)
        · exact List.mem_append_left _ (List.mem_cons_of_mem _ (sub c y))
      · exact List.mem_append_right _ y
def sto2S (i : Nat) (fk fm fx : Env → Res D) : Env → Out := fun ρ => match ρ[i]? with
  | some (some (.lst true ds)) => (match fx ρ with
    | .ok (.int z) => (match fk ρ with
      | .ok (.int k) => (match ixN ds.length k with
        | some j => (match ds[j]? with
          | some (.lst true es) => (match fm ρ with
            | .ok (.int m) => (match ixN es.length m with
              | some n => .nx (ρ.set i (some (.lst true (ds.set j (.lst true (es.set n (.int z)))))))
              | none => .bad)
            | .ok _ => .bad
            | .ex e => .ex e ρ
            | .bad => .bad)
          | _ => .bad)
        | none => .bad)
      | .ok _ => .bad
      | .ex e => .ex e ρ
      | .bad => .bad)
    | .ok _ => .bad
    | .ex e => .ex e ρ
    | .bad => .bad)
  | _ => .bad
section
variable {X : Cx} {T : List (Addr × Str)} {M : List Nat} {Wx : WX} {pos op spos ipos : Pos} {e ix iy : Expr}
theorem sto2_read {i : Nat} {fk fm fx : Env → Res D} {E : Ends} {σ : L2.St} {H : Hp} (h : tS (Cn.of X T) Wx (sto2S i fk fm fx) E σ H) : tAsg (tD (Cn.of X T) M Wx fx) (gSub (tOp (rIxL X.K) (tVar i) (tD (Cn.of X T) M Wx fk)) (tD (Cn.of X T) M Wx fm) rSetL) E σ H := by
  obtain ⟨ρ, He, Wf, P, ⟨foot, R⟩, q⟩ := h
  unfold sto2S at q
  have Rl := R.rel M
  refine ⟨ρ, _, Rl, ?_⟩
  cases hi : ρ[i]? with
  | none => rw [hi] at q; exact q.elim
  | some o =>
  rw [hi] at q
  cases o with
  | none => exact q.elim
  | some l =>
  cases l with
  | lst b ds =>
    cases b with
    | false => exact q.elim
    | true =>
    obtain ⟨w, hw, ow⟩ := R.own i _ hi
    obtain ⟨a, vs, B, rfl, hvs, hF, ha⟩ := own_lstT (C := Cn.of X T) ow
    cases hx : fx ρ with
    | ex e' => rw [hx] at q; exact fun c o H' x y => q c o σ H' ⟨foot, R.ext1 x⟩ y
    | bad => rw [hx] at q; exact q
    | ok d =>
    rw [hx] at q
    cases d with
    | int z =>
      intro v H1 A x n nd o
      have ez : v = .int z := o.1
      subst ez
      refine ⟨.ref a, hw, ρ, _, Rl.ext1 x, ?_⟩
      dsimp only at q
      cases hk : fk ρ with
      | ex e' => rw [hk] at q; exact fun c o H' x2 y => q c o σ H' ⟨foot, R.ext1 (x.trans x2)⟩ y
      | bad => rw [hk] at q; exact q
      | ok kd =>
      rw [hk] at q
      cases kd with
      | int k =>
        intro kv H2 A2 x2 n2 nd2 o2
        have ek : kv = .int k := o2.1
        subst ek
        dsimp only at q
        cases hj : ixN ds.length k with
        | none => rw [hj] at q; exact q.elim
        | some j =>
        rw [hj] at q
        dsimp only at q
        cases hd : ds[j]? with
        | none => rw [hd] at q; exact q.elim
        | some dv =>
        rw [hd] at q
        cases dv with
        | lst b es =>
          cases b with
          | false => exact q.elim
          | true =>
          have x12 := x.trans x2
          have ha2 : H2 a = some (.lst vs) := x12.e _ _ ha fun _ y => by cases y
          dsimp only at q
          cases hm : fm ρ with
          | bad => rw [hm] at q; exact q.elim
          | ex e' =>
            rw [hm] at q
            obtain ⟨l, hl⟩ : ∃ l, vs[j]? = some l := ⟨_, List.getElem?_eq_getElem (by rw [hvs.length]; exact (List.getElem?_eq_some_iff.mp hd).1)⟩
            refine ⟨a, vs, k, l, rfl, rfl, SqL.of ha2, ?_, ρ, _, Rl.ext1 x12, ?_⟩
            · unfold L2.atI; rw [hvs.length, hj]; exact hl
            · rw [hm]
              exact fun c o H' x3 y => q c o σ H' ⟨foot, R.ext1 (x12.trans x3)⟩ y
          | ok md =>
          rw [hm] at q
          cases md with
          | int m =>
            dsimp only at q
            cases hn : ixN es.length m with
            | none => rw [hn] at q; exact q.elim
            | some n' =>
            rw [hn] at q
            have hlt := ixN_lt hn
            have ndB : (a :: B).Nodup := by rw [← hF]; exact R.nd i
            obtain ⟨naB, nB⟩ := List.nodup_cons.mp ndB
            obtain ⟨l, us, F, g1, g2, g3, g4, _⟩ := owns_nest (z := z) hvs nB (fun b hb => .inr ⟨i, by rw [hF]; exact List.mem_cons_of_mem _ hb⟩) hd hlt
            refine ⟨a, vs, k, .ref l, rfl, rfl, SqL.of ha2, ?_, ρ, _, Rl.ext1 x12, ?_⟩
            · unfold L2.atI; rw [hvs.length, hj]; exact g1
            · rw [hm]
              intro mv H3 A3 x3 n3 nd3 o3
              have em : mv = .int m := o3.1
              subst em
              have x13 := x12.trans x3
              have R3 := R.ext1 x13
              have ha3 : H3 a = some (.lst vs) := x13.e _ _ ha fun _ y => by cases y
              obtain ⟨w3, hw3, ow3⟩ := R3.own i _ hi
              rw [hw] at hw3
              cases hw3
              obtain ⟨a3, vs3, B3, e3, hvs3, hF3, ha3'⟩ := own_lstT (C := Cn.of X T) ow3
              cases e3
              rw [ha3] at ha3'
              cases ha3'
              have ndB3 : (a :: B3).Nodup := by rw [← hF3]; exact R3.nd i
              obtain ⟨naB3, nB3⟩ := List.nodup_cons.mp ndB3
              obtain ⟨l3, us3, F3, k1, k2, k3, k4, k5, k6, k7⟩ := owns_nest (z := z) hvs3 nB3 (fun b hb => .inr ⟨i, by rw [hF3]; exact List.mem_cons_of_mem _ hb⟩) hd hlt
              rw [g1] at k1
              cases k1
              refine ⟨l, us3, m, n', rfl, rfl, k2, by rw [k3]; exact hn, ?_⟩
              have hal : a ≠ l := fun y => naB3 (by rw [y]; exact k4)
              have hlf : l ∈ foot i := by rw [hF3]; exact List.mem_cons_of_mem _ k4
              have lk : likeO (.lst us3) (.lst (us3.set n' (.int z))) = true := rfl
              have plus : ∀ b, ((wd Wf foot).plus []) b ↔ wd Wf foot b := fun b => ⟨fun y => y.elim id (fun y => by cases y), Or.inl⟩
              have weq : (wd Wf foot).plus [] = wd Wf foot := funext fun b => propext (plus b)
              refine q σ _ ⟨_, R3.mut (A := []) (F := a :: F3) hw hlf k2 lk (fun b hb => by cases hb) (fun b hb => by cases hb) ?_ (fun b hb => ?_) (List.nodup_cons.mpr ⟨fun y => naB3 (k6 a y), k7⟩) (by rw [weq]; exact R3.own) (by rw [weq]; exact R3.pin)⟩
              · rw [weq]
                exact ⟨a, vs, F3, rfl, k5, rfl, by rw [upd_ne hal]; exact ha3⟩
              · rcases List.mem_cons.mp hb with y | y
                · rw [y, hF3]; exact .inl (List.mem_cons_self ..)
                · rw [hF3]; exact .inl (List.mem_cons_of_mem _ (k6 b y))
          | _ => exact q.elim
        | _ => exact q.elim
      | _ => exact q.elim
    | _ => exact q.elim
  | _ => exact q.elim
theorem ds_sto2 {x : Str} {i : Nat} {fk fm fx : Env → Res D} (M : List Nat) (hi : X.N[i]? = some x) (hk : DE X T M Wx ix fk) (hm : DE X T M Wx iy fm) (he : DE X T M Wx e fx) (hv : Vis X.env.scope x := by first | exact Or.inl rfl | exact Or.inr (Or.inl rfl) | exact Or.inr (Or.inr rfl)) (hd : (x == ("__debug__" : Str)) = false := by decide) (hcd : (x == ("__classdict__" : Str)) = false := by decide)
    (hp : PlainIx ix := by exact fun _ _ => rfl) (hs : swapsWithSole [.Subscript (.Subscript (.Name x op) ix ipos) iy spos] e pos.line X.env = pure false := by rfl) (hw : swappedStores [.Subscript (.Subscript (.Name x op) ix ipos) iy spos] e X.env = pure none := by rfl)
    (h1 : (assignEach [.Subscript (.Subscript (.Name x op) ix ipos) iy spos] X.env).map (·.2) = [assign (.Subscript (.Subscript (.Name x op) ix ipos) iy spos) X.env] := by rfl)
    (ha : ∀ v, assign (.Subscript (.Subscript (.Name x op) ix ipos) iy spos) X.env v = (do
      let ov ← holding [v] (eval (.Subscript (.Name x op) ix ipos) X.env)
      let iv ← holding [v, ov] (eval iy X.env)
      standAt spos; holding [v, ov, iv] (setItem ov iv v); release [v, ov, iv] []) := by intro _; rfl) :
    DS X T Wx (.Assign [.Subscript (.Subscript (.Name x op) ix ipos) iy spos] e pos) (sto2S i fk fm fx) :=
  ps_weak (ps_asg he (pg_sub (pe_ix ix_list (pe_var hi hv hd hcd) hk hp) hm set_list ha) hs hw h1) fun E σ H h => sto2_read h
end
/-! ### int of a truth -/
def dInt1 : D → Option D
  | .bl b => some (.int (if b = true then 1 else 0))
  | _ => none
theorem int1_ok {X : Cx} {T : List (Addr × Str)} : CallR X (.type "int") (rsD (Cn.of X T) (g1 dInt1)) := by
  rintro pins s σ H xs us Q I r ⟨W, ds, al, tb, os, qs⟩
  obtain ⟨d, rfl, q⟩ := g1_inv qs
  obtain ⟨v, rfl, o⟩ := owns_1 (C := Cn.of X T) os
  cases d with
  | bl b =>
    have ev : v = .bl b := o.1
    subst ev
    obtain ⟨u, rfl, r1⟩ : ∃ u, us = [u] ∧ RelV (.bl b) u := by
      cases r with
      | cons r1 r2 => cases r2; exact ⟨_, rfl, r1⟩
    cases r1
    exact call_int_bool ⟨.int (if b = true then 1 else 0), H, I.tok _, ⟨_, rfl⟩, RD.int (C := Cn.of X T) (W := W) q⟩
  | _ => exact q.elim
end De
set_option Elab.async false
set_option linter.all false
set_option maxRecDepth 100000
namespace HT
open PySem PySem.Spec PyProof.Rows
variable {prog : Program} {w : World} {A : Around} {E : Value → Shared → Prop} {s : Shared}
/-! ### (a, b)[::-1] -/
theorem applied_back {sl : Addr} {vl vu vs : Value} {Q : Int × Int × Nat → Shared → Prop} (hs : s.heap.IsSliceOf sl vl vu vs) (pl : IsPart vl none) (pu : IsPart vu none) (pt : IsPart vs (some (-1)))
    (h : Q (1, -1, 2) s) : wpAny (model prog w) A (Builtin.Slice.sliceApplied (.ref sl) (pure (2 : Int))) Q E s := by
  have ⟨os, hos, _, hds⟩ := hs
  unfold Builtin.Slice.sliceApplied Builtin.Slice.sliceFields
  apply wpAny_bind; apply wpAny_bind
  refine wpAny_field hos hds (x := vl) rfl ?_; apply wpAny_bind
  refine wpAny_field hos hds (x := vu) rfl ?_; apply wpAny_bind
  refine wpAny_field hos hds (x := vs) rfl ?_; apply wpAny_pure
  apply wpAny_bind
  refine slicePart_ pt ?_
  show wpAny _ _ (if ((-1 : Int) == 0) = true then _ else _) _ _ s
  rw [if_neg (by decide)]
  apply wpAny_bind; refine slicePart_ pl ?_; apply wpAny_bind; refine slicePart_ pu ?_; apply wpAny_bind
  apply wpAny_pure
  exact wpAny_pure h
theorem getItem_back {t sl : Addr} {x y vl vu vs : Value} {Q : Value → Shared → Prop} (ht : IsTup s.heap t #[x, y]) (hs : s.heap.IsSliceOf sl vl vu vs) (pl : IsPart vl none) (pu : IsPart vu none) (pt : IsPart vs (some (-1)))
    (h : Q (.ref s.heap.objs.size) { s with heap := s.heap.push { cls := .type "tuple", data := .seq #[y, x] } }) : wpAny (model prog w) A (getItem (.ref t) (.ref sl)) Q E s := by
  have hsz : sizeOk (.seq #[y, x]) := by show 2 ≤ sizeLine; rw [← De.sl_line]; decide
  have ⟨os, hos, hcs, _⟩ := hs
  have ty : s.TypeIs (.ref sl) "slice" := ⟨os, hos, hcs⟩
  unfold getItem
  try with_reducible apply wpAny_holding
  first | (refine wpAny_bind (wpAny_pure ?_); done) | skip
  apply wpAny_bind; refine wpAny_sequenceKey ht.typeIs (by decide) ?_
  apply wpAny_bind
  refine wpAny_callSpecial?_slot (name := Str.ofString "__getitem__") ht.typeIs PyProof.Rows.slot_tuple_getitem (wpAny_call_entry PyProof.Rows.slot_tuple_getitem ht.typeIs entry_tuple_getitem ?_ (args_tuple_getitem _ _))
  show wpAny _ _ (Builtin.Tuple.tupleItemsOf _ >>= _) _ _ s
  apply wpAny_bind; refine tupleItemsOf_ ht ?_
  apply wpAny_bind; refine wpAny_typeOf ty ?_
  rw [if_pos (by decide)]
  apply wpAny_bind; refine applied_back hs pl pu pt ?_
  show wpAny _ _ (if ((1 : Int) == 0 && (-1 : Int) == 1 && (2 : Nat) == 2) = true then _ else _) _ _ s
  rw [if_neg (by decide)]
  have pick : ((List.range 2).filterMap fun (k : Nat) => (#[x, y] : Array Value)[((1 : Int) + (k : Int) * (-1)).toNat]?).toArray = #[y, x] := by rfl
  rw [pick]
  first
    | exact wpAny_bind (m := Builtin.Tuple.tupleExact _) (wpAny_newObj_type (wpAny_pure ⟨_, rfl, wpAny_pure h⟩) hsz)
    | exact wpAny_bind (m := Builtin.Tuple.tupleExact _) (wpAny_newObj_type (wpAny_bind (wpAny_pure (wpAny_pure ⟨_, rfl, wpAny_pure h⟩))) hsz)
    | exact wpAny_bind (wpAny_bind (m := Builtin.Tuple.tupleExact _) (wpAny_newObj_type (wpAny_pure (wpAny_pure ⟨_, rfl, wpAny_pure h⟩)) hsz))
    | exact wpAny_bind (wpAny_bind (m := Builtin.Tuple.tupleExact _) (wpAny_newObj_type (wpAny_pure ⟨_, rfl, wpAny_pure h⟩) hsz))
end HT
namespace De
open PySem PySem.Spec PyProof.Rows L2
def dRevP : D → Option D
  | .tup [a, b] => some (.tup [b, a])
  | _ => none
def tBack (K : PySem.W.Frag) (te : TE) : TE := fun σ H Q => te σ H fun v H1 => ∃ a x y, v = .ref a ∧ SqT K H1 a [x, y] ∧ ∀ p, H1 p = none → Q (.ref p) (upd H1 p (.tup [y, x]))
section
variable {X : Cx} {T : List (Addr × Str)} {M : List Nat} {Wx : WX} {p1 p2 p3 pos : Pos} {e : Expr} {k : Nat} {f : Env → Res D}
theorem pe_back {te : TE} (he : PE X e te) : PE X (.Subscript e (.Slice none none (some (.UnaryOp .USub (.Constant (.int 1) k p1) p2)) p3) pos) (tBack X.K te) := by
  refine ⟨fun pins s σ H Q I h => Subscript_ (thn (he.run pins s σ H _ I h) fun v s1 ⟨_, H1, I1, r1, a, x, y, ex, hx, q⟩ => ?_)⟩
  subst ex
  cases r1
  have one : PO X (some (.UnaryOp .USub (.Constant (.int 1) k p1) p2)) (tPart (tUn (rU fun i => .int (-i)) (tC (.int 1)))) := po_some (pe_un un_neg pe_int)
  refine wpAny_Slice (thn (po_none.run pins s1 σ H1 (fun o G => o = none ∧ G = H1) I1 ⟨rfl, rfl⟩) fun vl s2 ⟨_, _, I2, pl, e1, e2⟩ => ?_)
  subst e1 e2
  refine thn (po_none.run pins s2 σ _ (fun o G => o = none ∧ G = _) I2 ⟨rfl, rfl⟩) fun vu s3 ⟨_, _, I3, pu, e1, e2⟩ => ?_
  subst e1 e2
  refine thn (one.run pins s3 σ _ (fun o G => o = some (-1) ∧ G = _) I3 ⟨1, rfl, -1, rfl, rfl, rfl⟩) fun vs s4 ⟨_, H4, I4, pt, e1, e2⟩ => ?_
  subst e1 e2
  have J : Inv X pins σ H4 { s4 with heap := s4.heap.push { cls := .type "slice", data := .fields #[vl, vu, vs] } } := I4.kept (t' := s4.toks) fun b ob g => Heap.get?_push_of_some _ g
  obtain ⟨its, r, ht, hz⟩ := J.tuple hx
  obtain ⟨u1, u2, rfl, g1, g2⟩ : ∃ u1 u2, its = [u1, u2] ∧ RelV x u1 ∧ RelV y u2 := by
    cases r with
    | cons a b => cases b with
      | cons c d => cases d; exact ⟨_, _, rfl, a, c⟩
  refine tail_any (T := "tuple") (ops := [.ref a, .ref s4.heap.objs.size]) (s := { s4 with heap := s4.heap.push { cls := .type "slice", data := .fields #[vl, vu, vs] } }) ht.typeIs PyProof.Rows.slot_tuple_getitem.lookup ?_ (by with_unfolding_all rfl)
  refine HT.getItem_back ht (Heap.IsSliceOf.new _ vl vu vs) pl pu pt ?_
  refine ⟨.ref _, _, J.laid (t' := s4.toks) (o := .tup [y, x]) (fun b ob g => Heap.get?_push_of_some _ g) (Nat.le_refl _) ?_, rfl, q _ (J.hok.fresh (Nat.le_refl _))⟩
  exact ⟨hz, [u2, u1], .cons g2 (.cons g1 .nil), IsTup.new _ _⟩
theorem de_back (he : DE X T M Wx e f) : DE X T M Wx (.Subscript e (.Slice none none (some (.UnaryOp .USub (.Constant (.int 1) k p1) p2)) p3) pos) (op1 dRevP f) := by
  refine pe_weak (pe_back he) fun σ H Q ⟨ρ, W, r, q⟩ => ⟨ρ, W, r, (Post.bind r.al q).mono fun v H1 ⟨d, x, o, q⟩ => ?_⟩
  have q : Post (Cn.of X T) W H1 (lift (dRevP (frz d))) Q _ := q
  have hp : ∀ ds, frz d = .tup ds → ∃ a b, ds = [a, b] := fun ds hd => by
    rw [hd] at q
    match ds, q with
    | [a, b], _ => exact ⟨a, b, rfl⟩
    | [], q => exact q.elim
    | [_], q => exact q.elim
    | _ :: _ :: _ :: _, q => exact q.elim
  have other : (∀ ds, frz d ≠ .tup ds) → dRevP (frz d) = none := fun h => by
    unfold dRevP
    split
    · rename_i hd; exact absurd hd (h _)
    · rfl
  cases hd : frz d with
  | tup ds =>
    obtain ⟨a, b, rfl⟩ := hp ds hd
    rw [hd] at q o
    obtain ⟨ad, vs, ev, h1, h2⟩ := own_tupF (C := Cn.of X T) o
    subst ev
    obtain ⟨v1, ws, A1, A2, rfl, e1, o1, v2, ws2, B1, B2, rfl, e2, o2, rfl, rfl⟩ := h2
    obtain ⟨rfl, rfl⟩ := List.append_eq_nil_iff.mp e1.symm
    obtain ⟨rfl, _⟩ := List.append_eq_nil_iff.mp e2.symm
    exact ⟨ad, v1, v2, rfl, h1, fun l hl => RD.tup (C := Cn.of X T) (ds := [b, a]) (RD.post q) ⟨v2, [v1], [], [], rfl, rfl, o2, v1, [], [], [], rfl, rfl, o1, rfl, rfl⟩ hl⟩
  | _ => rw [other (fun ds z => by rw [hd] at z; cases z)] at q; exact q.elim
end
section
variable {X : Cx} {T : List (Addr × Str)} {M M' : List Nat} {Wx : WX} {pos spos py : Pos} {elt tg iter : Expr} {ifs : List Expr} {scope : Scope}
/-- name = [elt for ..] on one row, the name the function's own alone -/
theorem ds_setLc {i : Nat} {y : Str} {own : List (Str × Nat)} {t : Tg} {src : Env → Res (List D)} {tt : Env → Res Bool} {te : Env → Res D} (hc : X.calm = true) (hN : X.N.Nodup) (hy : X.N[i]? = some y) (hyl : X.env.scope.names.lookup y = some .local)
    (hsw : swapsWith (.ListComp elt [⟨tg, iter, ifs, 0⟩] scope pos) (some (.Name y py)) spos.line X.env = pure true) (hi : DI X T M Wx tg iter src) (ok : BlkOk X.N X.env.scope scope own) (hv : own.map (·.2) = t.slots) (hM : ∀ i ∈ M', i ∈ M ∨ i ∈ t.slots)
    (hg : ∀ (s : Shared) (H : Hp) (C : Addr) (cl : List (Str × Addr)) (fp : List Addr), PG (X.blk s H scope (compEnvC scope cl C X.env) fp) tg (gD X.K t))
    (ht : ∀ (s : Shared) (H : Hp) (C : Addr) (cl : List (Str × Addr)) (fp : List Addr), PTs (X.blk s H scope (compEnvC scope cl C X.env) fp) ifs (tDB (Cn.of X T) M' (fun _ _ _ _ => False) tt))
    (he : ∀ (s : Shared) (H : Hp) (C : Addr) (cl : List (Str × Addr)) (fp : List Addr), DE (X.blk s H scope (compEnvC scope cl C X.env) fp) T M' (fun _ _ _ _ => False) elt te) (hs : ∀ x, foldedSetIterable iter X.env x = pure x := by intro _; rfl) :
    DS X T Wx (.Assign [.Name y py] (.ListComp elt [⟨tg, iter, ifs, 0⟩] scope pos) spos) (asgS M i (lcA src t tt te)) :=
  ps_weak (ps_setLc hc hN hy hyl hsw hi ok hg ht he hs) fun E σ H h => by
    have h2 : tD (Cn.of X T) M Wx (lcA src t tt te) σ H fun x H1 => gName i x σ H1 E.nx := asg_read (t := tD (Cn.of X T) M Wx (lcA src t tt te)) h
    show tLc _ _ _ _ (own.map (·.2)) σ H _
    rw [hv]
    exact lc_read hM h2
end
end De
set_option Elab.async false
set_option linter.all false
set_option maxRecDepth 100000
namespace Cm
open PySem PySem.Spec PyProof.Rows L2 De
def tab_FORMS : List (Str × Str) := [("put", "nnw"), ("take", "nn"), ("right", "nnw"), ("tear", "nn"), ("join", "nn"), ("turn", "n"), ("strike", "n"), ("doubt", "w"), ("trust", "w"), ("alike", "ww")]
def e1_are_marks : De.Env → Res D :=
    (op2 dIn (vr 2) (cS "abcdefghijklmnopqrstuvwxyz"))
def s_are_marks : De.Env → Out :=
    (retS (andV (chn dLe dLe (cI 1) (calA (g1 dLen) (consA (vr 0) nilA)) (vr 1)) (calA (g1 dAll) (consA (lcA (itm itD (vr 0)) (.one 2) yesB e1_are_marks) nilA))))
def F_are_marks : List D → Res D := runF s_are_marks 3
def e1_deed_text : De.Env → Res D :=
    (calA (g1 dStr) (consA (vr 1) nilA))
def s_deed_text : De.Env → Out :=
    (seqS (ifS (tst (op2 dEq (op2 dIx (vr 0) (cI 0)) (cS "found"))) (retS (strM dJoin (cS " ") (op2 dAdd (tupA (consA (cS "found") (consA (op2 dIx (vr 0) (cI 2)) nilA))) (op2 dIx (vr 0) (cI 1))))) nilS)
    (retS (strM dJoin (cS " ") (lcA (itm itD (vr 0)) (.one 1) yesB e1_deed_text))))
def F_deed_text : List D → Res D := runF s_deed_text 2
def e1_number_in : De.Env → Res D :=
    (op2 dIn (vr 1) (cS "0123456789"))
def s_number_in : De.Env → Out :=
    (seqS (ifS (orB (notB (tst (chn dLe dLe (cI 1) (calA (g1 dLen) (consA (vr 0) nilA)) (cI 9)))) (notB (tst (calA (g1 dAll) (consA (lcA (itm itD (vr 0)) (.one 1) yesB e1_number_in) nilA))))) badS nilS)
    (seqS (ifS (andB (tst (op2 dEq (op2 dIx (vr 0) (cI 0)) (cS "0"))) (tst (op2 dNe (vr 0) (cS "0")))) badS nilS)
    (retS (calA (g2 dInt10) (consA (vr 0) (consA (cI 10) nilA))))))
def F_number_in : List D → Res D := runF s_number_in 2
def s_thing_in : De.Env → Out :=
    (seqS (ifS (tst (op2 dEq (vr 1) (cS "n"))) (retS (fnA F_number_in [] (consA (vr 0) nilA))) nilS)
    (seqS (ifS (notB (tst (fnA F_are_marks [] (consA (vr 0) (consA (cI 8) nilA))))) badS nilS)
    (retS (vr 0))))
def F_thing_in : List D → Res D := runF s_thing_in 2
def e1_things_in : De.Env → Res D :=
    (fnA F_thing_in [] (consA (vr 2) (consA (vr 3) nilA)))
def s_things_in : De.Env → Out :=
    (seqS (ifS (tst (op2 dNe (calA (g1 dLen) (consA (vr 0) nilA)) (calA (g1 dLen) (consA (vr 1) nilA)))) badS nilS)
    (retS (calA (g1 dTup) (consA (lcA (zpA (consA (vr 0) (consA (vr 1) nilA))) (.tup [2, 3]) yesB e1_things_in) nilA))))
def F_things_in : List D → Res D := runF s_things_in 4
def s_read_deed : De.Env → Out :=
    (seqS (asgS [0] 1 (strM dSplit (vr 0) (cS " ")))
    (seqS (ifS (andB (tst (op2 dEq (op2 dIx (vr 1) (cI 0)) (cS "found"))) (tst (op2 dGt (calA (g1 dLen) (consA (vr 1) nilA)) (cI 1)))) (seqS (asgS [1] 2 (fnA F_things_in [] (consA (slA (vr 1) (prtE (cI 1)) prtN) (consA (op2 dMul (cS "w") (op2 dSub (calA (g1 dLen) (consA (vr 1) nilA)) (cI 1))) nilA))))
    (retS (tupA (consA (cS "found") (consA (slA (vr 2) (prtE (cI 1)) prtN) (consA (op2 dIx (vr 2) (cI 0)) nilA)))))) nilS)
    (seqS (asgS [1] 3 (tgetA tab_FORMS (op2 dIx (vr 1) (cI 0)) (cS "")))
    (seqS (ifS (tst (op2 dEq (vr 3) (cS ""))) badS nilS)
    (retS (op2 dAdd (tupA (consA (op2 dIx (vr 1) (cI 0)) nilA)) (fnA F_things_in [] (consA (slA (vr 1) (prtE (cI 1)) prtN) (consA (vr 3) nilA)))))))))
def F_read_deed : List D → Res D := runF s_read_deed 4
def s__law_mixed : De.Env → Out :=
    (seqS (asgS [0] 2 (op2 dMod (op2 dMul (vr 0) (vr 0)) (cI 2147483647)))
    (retS (op2 dMod (op2 dAdd (op2 dAdd (op2 dMul (vr 2) (op2 dAdd (op2 dMod (vr 0) (cI 65521)) (cI 3))) (op2 dMul (vr 1) (cI 7919))) (cI 131)) (cI 2147483647))))
def F__law_mixed : List D → Res D := runF s__law_mixed 3
def b1__law_draw : De.Env → Out :=
    (ifS (tst (op2 dGt (vr 2) (cI 0))) (seqS (mutS [2, 5] 4 (op2 dMod (vr 2) (vr 5)) gApp)
    (asgS [2, 5] 2 (op2 dFdv (vr 2) (vr 5)))) (seqS (asgS [3, 4] 3 (fnA F__law_mixed [] (consA (vr 3) (consA (calA (g1 dLen) (consA (vr 4) nilA)) nilA))))
    (mutS [3, 5] 4 (op2 dMod (op2 dFdv (vr 3) (cI 61)) (vr 5)) gApp)))
def s__law_draw : De.Env → Out :=
    (seqS (asgS [0] 2 (ifV (tst (op2 dGe (vr 0) (op2 dPow (cI 10) (cI 18)))) (vr 0) (cI 0)))
    (seqS (asgS [0] 3 (op2 dMod (op2 dAdd (op2 dMul (calA (g1 dAbs) (consA (vr 0) nilA)) (cI 2654435)) (cI 40503)) (cI 2147483647)))
    (seqS (asgS [] 4 (lstA nilA))
    (seqS (forS [1] (itm itD (vr 1)) (.one 5) b1__law_draw)
    (retS (vr 4))))))
def F__law_draw : List D → Res D := runF s__law_draw 6
def s__law_cell : De.Env → Out :=
    (seqS (ifS (tst (op2 dLt (vr 1) (calA (g1 dLen) (consA (vr 0) nilA)))) (retS (op2 dIx (vr 0) (vr 1))) nilS)
    (seqS (ifS (tst (op2 dEq (calA (g1 dLen) (consA (vr 0) nilA)) (cI 0))) (retS (op2 dMul (cI 7919) (vr 1))) nilS)
    (retS (op2 dAdd (op2 dIx (vr 0) (op2 dMod (vr 1) (calA (g1 dLen) (consA (vr 0) nilA)))) (op2 dMul (cI 104729) (vr 1))))))
def F__law_cell : List D → Res D := runF s__law_cell 2
def s__law_num : De.Env → Out :=
    (retS (andV (calA (g2 dIsi) (consA (vr 0) (consA (cT "int") nilA))) (notV (calA (g2 dIsi) (consA (vr 0) (consA (cT "bool") nilA))))))
def F__law_num : List D → Res D := runF s__law_num 1
def e1__law_same (F : List D → Res D) : De.Env → Res D :=
    (fnA F [] (consA (op2 dIx (vr 0) (vr 2)) (consA (op2 dIx (vr 1) (vr 2)) nilA)))
def s__law_same (F : List D → Res D) : De.Env → Out :=
    (seqS (ifS (tst (op2 dIsN (vr 1) cN)) (retS (op2 dIsN (vr 0) cN)) nilS)
    (seqS (ifS (tst (calA (g2 dIsi) (consA (vr 1) (consA (cT "bool") nilA)))) (retS (andV (calA (g2 dIsi) (consA (vr 0) (consA (cT "bool") nilA))) (op2 dEq (vr 0) (vr 1)))) nilS)
    (seqS (ifS (tst (calA (g2 dIsi) (consA (vr 1) (consA (cT "int") nilA)))) (retS (andV (fnA F__law_num [] (consA (vr 0) nilA)) (op2 dEq (vr 0) (vr 1)))) nilS)
    (seqS (ifS (tst (calA (g2 dIsi) (consA (vr 1) (consA (cT "str") nilA)))) (retS (andV (calA (g2 dIsi) (consA (vr 0) (consA (cT "str") nilA))) (op2 dEq (vr 0) (vr 1)))) nilS)
    (seqS (ifS (orB (andB (tst (calA (g2 dIsi) (consA (vr 1) (consA (cT "tuple") nilA)))) (notB (tst (calA (g2 dIsi) (consA (vr 0) (consA (cT "tuple") nilA)))))) (andB (tst (calA (g2 dIsi) (consA (vr 1) (consA (cT "list") nilA)))) (notB (tst (calA (g2 dIsi) (consA (vr 0) (consA (cT "list") nilA))))))) (retS (cB false)) nilS)
    (retS (andV (op2 dEq (calA (g1 dLen) (consA (vr 0) nilA)) (calA (g1 dLen) (consA (vr 1) nilA))) (calA (g1 dAll) (consA (lcA (rngA (consA (calA (g1 dLen) (consA (vr 1) nilA)) nilA)) (.one 2) yesB (e1__law_same F)) nilA)))))))))
def F__law_same : List D → Res D := recF s__law_same 3 8
def e1__law_text_word : De.Env → Res D :=
    (op2 dIx (vr 1) (op2 dMod (op2 dAdd (op2 dIx (vr 0) (cI 1)) (op2 dMul (op2 dIx (vr 0) (cI 2)) (vr 2))) (cI 26)))
def s__law_text_word : De.Env → Out :=
    (seqS (asgS [] 1 (cS "abcdefghijklmnopqrstuvwxyz"))
    (retS (strM dJoin (cS "") (lcA (rngA (consA (op2 dAdd (cI 1) (op2 dMod (op2 dIx (vr 0) (cI 0)) (cI 8))) nilA)) (.one 2) yesB e1__law_text_word))))
def F__law_text_word : List D → Res D := runF s__law_text_word 3
def s__law_text_number : De.Env → Out :=
    (retS (op2 dIx (lstA (consA (op2 dMod (op2 dIx (vr 0) (cI 0)) (cI 10)) (consA (op2 dMod (op2 dIx (vr 0) (cI 1)) (cI 1000)) (consA (op2 dMod (op2 dMul (op2 dMul (op2 dIx (vr 0) (cI 0)) (op2 dIx (vr 0) (cI 1))) (op2 dIx (vr 0) (cI 2))) (op2 dPow (cI 10) (cI 9))) (consA (cI 999999999) (consA (cI 0) nilA)))))) (op2 dMod (op2 dIx (vr 0) (cI 2)) (cI 5))))
def F__law_text_number : List D → Res D := runF s__law_text_number 1
def e1__law_any_deed : De.Env → Res D :=
    (fnA F__law_text_word [] (consA (slA (vr 0) (prtE (op2 dAdd (cI 13) (op2 dMul (cI 3) (vr 7)))) prtN) nilA))
def s__law_any_deed : De.Env → Out :=
    (seqS (asgS [] 1 (lstA (consA (cS "found") (consA (cS "put") (consA (cS "take") (consA (cS "right") (consA (cS "tear") (consA (cS "join") (consA (cS "turn") (consA (cS "strike") (consA (cS "doubt") (consA (cS "trust") (consA (cS "alike") nilA)))))))))))))
    (seqS (asgS [0, 1] 2 (op2 dIx (vr 1) (op2 dMod (op2 dIx (vr 0) (cI 0)) (cI 11))))
    (seqS (parS [0] 3 4 (consA (fnA F__law_text_word [] (consA (slA (vr 0) (prtE (cI 1)) prtN) nilA)) (consA (fnA F__law_text_word [] (consA (slA (vr 0) (prtE (cI 4)) prtN) nilA)) nilA)))
    (seqS (parS [0] 5 6 (consA (fnA F__law_text_number [] (consA (slA (vr 0) (prtE (cI 7)) prtN) nilA)) (consA (fnA F__law_text_number [] (consA (slA (vr 0) (prtE (cI 10)) prtN) nilA)) nilA)))
    (seqS (ifS (tst (op2 dEq (vr 2) (cS "found"))) (retS (tupA (consA (vr 2) (consA (calA (g1 dTup) (consA (lcA (rngA (consA (op2 dMod (op2 dIx (vr 0) (cI 1)) (cI 11)) nilA)) (.one 7) yesB e1__law_any_deed) nilA)) (consA (vr 3) nilA))))) nilS)
    (seqS (ifS (tst (op2 dIn (vr 2) (tupA (consA (cS "put") (consA (cS "right") nilA))))) (retS (tupA (consA (vr 2) (consA (vr 5) (consA (vr 6) (consA (vr 3) nilA)))))) nilS)
    (seqS (ifS (tst (op2 dIn (vr 2) (tupA (consA (cS "take") (consA (cS "tear") (consA (cS "join") nilA)))))) (retS (tupA (consA (vr 2) (consA (vr 5) (consA (vr 6) nilA))))) nilS)
    (seqS (ifS (tst (op2 dIn (vr 2) (tupA (consA (cS "turn") (consA (cS "strike") nilA))))) (retS (tupA (consA (vr 2) (consA (vr 5) nilA)))) nilS)
    (retS (ifV (tst (op2 dEq (vr 2) (cS "alike"))) (tupA (consA (vr 2) (consA (vr 3) (consA (vr 4) nilA)))) (tupA (consA (vr 2) (consA (vr 3) nilA)))))))))))))
def F__law_any_deed : List D → Res D := runF s__law_any_deed 8
def e1__law_deed_row : De.Env → Res D :=
    (calA (g1 dStr) (consA (vr 1) nilA))
def s__law_deed_row : De.Env → Out :=
    (seqS (ifS (tst (op2 dEq (op2 dIx (vr 0) (cI 0)) (cS "found"))) (retS (strM dJoin (cS " ") (op2 dAdd (tupA (consA (cS "found") (consA (op2 dIx (vr 0) (cI 2)) nilA))) (op2 dIx (vr 0) (cI 1))))) nilS)
    (retS (strM dJoin (cS " ") (lcA (itm itD (vr 0)) (.one 1) yesB e1__law_deed_row))))
def F__law_deed_row : List D → Res D := runF s__law_deed_row 2
def s_look_many : De.Env → Out :=
    (ifS (orB (tst (op2 dLt (vr 0) (cI 1))) (tst (op2 dGt (vr 0) (cI 9)))) badS nilS)
def F_look_many : List D → Res D := runF s_look_many 1
def b1_look_pairs : De.Env → Out :=
    (ifS (orB (tst (op2 dEq (vr 2) (vr 3))) (orB (tst (op2 dLt (calA (g2 dMin2) (consA (vr 2) (consA (vr 3) nilA))) (cI 0))) (tst (op2 dGe (calA (g2 dMax2) (consA (vr 2) (consA (vr 3) nilA))) (vr 0))))) badS nilS)
def s_look_pairs : De.Env → Out :=
    (seqS (drpS (fnA F_look_many [] (consA (vr 0) nilA)))
    (forS [1] (itm itD (vr 1)) (.tup [2, 3]) b1_look_pairs))
def F_look_pairs : List D → Res D := runF s_look_pairs 4
def b1_nexts : De.Env → Out :=
    (dsapS 1 (vr 2) (vr 3))
def s_nexts : De.Env → Out :=
    (seqS (asgS [] 1 (fun _ => .ok (.dic true [] [])))
    (seqS (forS [0] (itm itD (op1 dSset (vr 0))) (.tup [2, 3]) b1_nexts)
    (retS (vr 1))))
def F_nexts : List D → Res D := runF s_nexts 4
def b1_chains_from : De.Env → Out :=
    (ifS (tst (op2 dNotInD (vr 7) (vr 3))) (seqS (dputS [3, 6, 7] 3 (vr 7) (op2 dAdd (op2 dIxD (vr 3) (vr 6)) (lstA (consA (vr 7) nilA))))
    (mutS [7] 5 (vr 7) gApp)) nilS)
def b2_chains_from : De.Env → Out :=
    (forS [2, 6] (itm itD (dget2A (vr 2) (vr 6) (lstA nilA))) (.one 7) b1_chains_from)
def b3_chains_from : De.Env → Out :=
    (seqS (asgS [] 5 (lstA nilA))
    (seqS (forS [4] (itm itD (vr 4)) (.one 6) b2_chains_from)
    (asgS [5] 4 (vr 5))))
def t4_chains_from : De.Env → Res Bool :=
    (tst (op2 dNe (vr 4) (lstA nilA)))
def s_chains_from : De.Env → Out :=
    (seqS (asgS [0] 2 (fnA F_nexts [] (consA (vr 0) nilA)))
    (seqS (asgS [1] 3 (disp1A (vr 1) (lstA (consA (vr 1) nilA))))
    (seqS (asgS [1] 4 (lstA (consA (vr 1) nilA)))
    (seqS (whGo t4_chains_from b3_chains_from 1000)
    (retS (vr 3))))))
def F_chains_from : List D → Res D := runF s_chains_from 8
def g_ring_in_l1 : De.Env → Res D :=
    (tupA (consA (calA (g1 dLen) (consA (vr 0) nilA)) (consA (vr 0) nilA)))
def FL_ring_in_l1 : List D → Res D := fun ds => g_ring_in_l1 (env0 1 ds)
def e1_ring_in : De.Env → Res D :=
    (op2 dIxD (vr 4) (vr 5))
def t2_ring_in : De.Env → Res Bool :=
    (andB (tst (op2 dEq (vr 6) (vr 3))) (tst (op2 dInD (vr 5) (vr 4))))
def b3_ring_in : De.Env → Out :=
    (seqS (asgS [1, 3] 4 (fnA F_chains_from [] (consA (vr 1) (consA (vr 3) nilA))))
    (mutS [1, 3, 4] 2 (lcA (itm itD (vr 1)) (.tup [5, 6]) t2_ring_in e1_ring_in) gExt))
def s_ring_in : De.Env → Out :=
    (seqS (asgS [] 2 (lstA nilA))
    (seqS (forS [0] (rngA (consA (vr 0) nilA)) (.one 3) b3_ring_in)
    (retS (minKA FL_ring_in_l1 [] (vr 2) cN))))
def F_ring_in : List D → Res D := upF <| runF s_ring_in 7
def s_ring : De.Env → Out :=
    (seqS (drpS (fnA F_look_pairs [] (consA (vr 0) (consA (vr 1) nilA))))
    (retS (fnA F_ring_in [] (consA (vr 0) (consA (vr 1) nilA)))))
def F_ring : List D → Res D := runF s_ring 2
def b1_needs : De.Env → Out :=
    (aug2S [3, 4] 2 (vr 4) dBor (op2 dShl (cI 1) (vr 3)))
def s_needs : De.Env → Out :=
    (seqS (asgS [0] 2 (op2 dMul (lstA (consA (cI 0) nilA)) (vr 0)))
    (seqS (forS [1] (itm itD (vr 1)) (.tup [3, 4]) b1_needs)
    (retS (vr 2))))
def F_needs : List D → Res D := runF s_needs 5
def e1_free_signs : De.Env → Res D :=
    (vr 2)
def t2_free_signs : De.Env → Res Bool :=
    (andB (tst (op2 dEq (op2 dBand (op2 dShr (vr 1) (vr 2)) (cI 1)) (cI 0))) (tst (op2 dEq (op2 dBand (vr 3) (op1 dInv (vr 1))) (cI 0))))
def s_free_signs : De.Env → Out :=
    (retS (lcA (enA (consA (vr 0) nilA)) (.tup [2, 3]) t2_free_signs e1_free_signs))
def F_free_signs : List D → Res D := runF s_free_signs 4
def e1_ways_on : De.Env → Res D :=
    (op2 dIx (vr 2) (op2 dBor (vr 3) (op2 dShl (cI 1) (vr 4))))
def b2_ways_on : De.Env → Out :=
    (stoS [0, 2, 3] 2 (vr 3) (calA (g1 dSum) (consA (lcA (itm itD (fnA F_free_signs [] (consA (vr 0) (consA (vr 3) nilA)))) (.one 4) yesB e1_ways_on) nilA)))
def s_ways_on : De.Env → Out :=
    (seqS (asgS [0] 1 (op2 dSub (op2 dShl (cI 1) (calA (g1 dLen) (consA (vr 0) nilA))) (cI 1)))
    (seqS (asgS [1] 2 (op2 dAdd (op2 dMul (lstA (consA (cI 0) nilA)) (vr 1)) (lstA (consA (cI 1) nilA))))
    (seqS (forS [1] (dwnA (consA (op2 dSub (vr 1) (cI 1)) (consA (op1 dNeg (cI 1)) (consA (op1 dNeg (cI 1)) nilA)))) (.one 3) b2_ways_on)
    (retS (vr 2)))))
def F_ways_on : List D → Res D := runF s_ways_on 5
def b1_ordered : De.Env → Out :=
    (seqS (asgS [2, 4, 5] 6 (op2 dIx (vr 2) (op2 dBor (vr 4) (op2 dShl (cI 1) (vr 5)))))
    (seqS (ifS (tst (op2 dLt (vr 1) (vr 6))) (seqS (mutS [5] 3 (vr 5) gApp)
    brkS) nilS)
    (asgS [1, 6] 1 (op2 dSub (vr 1) (vr 6)))))
def b2_ordered : De.Env → Out :=
    (seqS (forS [0, 4] (itm itD (fnA F_free_signs [] (consA (vr 0) (consA (vr 4) nilA)))) (.one 5) b1_ordered)
    (asgS [3, 4] 4 (op2 dBor (vr 4) (op2 dShl (cI 1) (op2 dIx (vr 3) (op1 dNeg (cI 1)))))))
def t3_ordered : De.Env → Res Bool :=
    (tst (op2 dLt (calA (g1 dLen) (consA (vr 3) nilA)) (calA (g1 dLen) (consA (vr 0) nilA))))
def s_ordered : De.Env → Out :=
    (seqS (asgS [0] 2 (fnA F_ways_on [] (consA (vr 0) nilA)))
    (seqS (asgS [] 3 (lstA nilA))
    (seqS (asgS [] 4 (cI 0))
    (seqS (whGo t3_ordered b2_ordered 1000)
    (retS (vr 3))))))
def F_ordered : List D → Res D := runF s_ordered 7
def s_count_in : De.Env → Out :=
    (retS (op2 dIx (fnA F_ways_on [] (consA (fnA F_needs [] (consA (vr 0) (consA (vr 1) nilA))) nilA)) (cI 0)))
def F_count_in : List D → Res D := runF s_count_in 2
def s_least_in : De.Env → Out :=
    (seqS (asgS [0, 1] 2 (fnA F_needs [] (consA (vr 0) (consA (vr 1) nilA))))
    (seqS (ifS (tst (op2 dEq (op2 dIx (fnA F_ways_on [] (consA (vr 2) nilA)) (cI 0)) (cI 0))) (retS cN) nilS)
    (retS (fnA F_ordered [] (consA (vr 2) (consA (cI 0) nilA))))))
def F_least_in : List D → Res D := runF s_least_in 3
def s_least_order : De.Env → Out :=
    (seqS (drpS (fnA F_look_pairs [] (consA (vr 0) (consA (vr 1) nilA))))
    (retS (fnA F_least_in [] (consA (vr 0) (consA (vr 1) nilA)))))
def F_least_order : List D → Res D := runF s_least_order 2
def s_how_many : De.Env → Out :=
    (seqS (drpS (fnA F_look_pairs [] (consA (vr 0) (consA (vr 1) nilA))))
    (retS (fnA F_count_in [] (consA (vr 0) (consA (vr 1) nilA)))))
def F_how_many : List D → Res D := runF s_how_many 2
def b1__law_mingled : De.Env → Out :=
    (mut2S [0, 3] 2 (consA (op2 dMod (op2 dIx (vr 0) (vr 3)) (op2 dAdd (vr 3) (cI 1))) (consA (vr 3) nilA)) gIns)
def s__law_mingled : De.Env → Out :=
    (seqS (asgS [] 2 (lstA nilA))
    (seqS (forS [1] (rngA (consA (vr 1) nilA)) (.one 3) b1__law_mingled)
    (retS (vr 2))))
def F__law_mingled : List D → Res D := runF s__law_mingled 4
def e1__law_keeps : De.Env → Res D :=
    (op2 dLt (idxA (vr 0) (vr 2)) (idxA (vr 0) (vr 3)))
def s__law_keeps : De.Env → Out :=
    (retS (calA (g1 dAll) (consA (lcA (itm itD (vr 1)) (.tup [2, 3]) yesB e1__law_keeps) nilA)))
def F__law_keeps : List D → Res D := runF s__law_keeps 4
def b1__law_some_pairs : De.Env → Out :=
    (seqS (asgS [0, 1, 4] 5 (op2 dMod (op2 dIx (vr 0) (op2 dAdd (cI 12) (op2 dMul (cI 2) (vr 4)))) (vr 1)))
    (seqS (asgS [0, 1, 4, 5] 6 (op2 dMod (op2 dAdd (op2 dAdd (vr 5) (cI 1)) (op2 dMod (op2 dIx (vr 0) (op2 dAdd (cI 13) (op2 dMul (cI 2) (vr 4)))) (op2 dSub (vr 1) (cI 1)))) (vr 1)))
    (seqS (ifS (andB (tst (op2 dGt (op2 dMod (op2 dIx (vr 0) (cI 2)) (cI 5)) (cI 0))) (tst (op2 dGt (idxA (vr 2) (vr 5)) (idxA (vr 2) (vr 6))))) (parS [5, 6] 5 6 (consA (vr 6) (consA (vr 5) nilA))) nilS)
    (mutS [5, 6] 3 (tupA (consA (vr 5) (consA (vr 6) nilA))) gApp))))
def s__law_some_pairs : De.Env → Out :=
    (seqS (ifS (tst (op2 dLt (vr 1) (cI 2))) (retS (lstA nilA)) nilS)
    (seqS (asgS [0, 1] 2 (fnA F__law_mingled [] (consA (slA (vr 0) (prtE (cI 3)) prtN) (consA (vr 1) nilA))))
    (seqS (asgS [] 3 (lstA nilA))
    (seqS (forS [0] (rngA (consA (op2 dIx (lstA (consA (op2 dMod (op2 dIx (vr 0) (cI 0)) (cI 4)) (consA (op2 dMod (op2 dIx (vr 0) (cI 0)) (cI 9)) (consA (op2 dMod (op2 dIx (vr 0) (cI 0)) (cI 17)) nilA)))) (op2 dMod (op2 dIx (vr 0) (cI 1)) (cI 3))) nilA)) (.one 4) b1__law_some_pairs)
    (retS (vr 3))))))
def F__law_some_pairs : List D → Res D := runF s__law_some_pairs 7
def s__law_pairs_cell : De.Env → Out :=
    (retS (fnA F__law_some_pairs [] (consA (fnA F__law_draw [] (consA (fnA F__law_cell [] (consA (vr 0) (consA (vr 1) nilA))) (consA (op2 dAdd (op2 dAdd (lstA (consA (cI 1224) (consA (cI 3) (consA (cI 5) nilA)))) (op2 dMul (lstA (consA (cI 27720) nilA)) (cI 9))) (op2 dMul (lstA (consA (cI 27720) nilA)) (cI 32))) nilA))) (consA (vr 2) nilA))))
def F__law_pairs_cell : List D → Res D := runF s__law_pairs_cell 3
def b1__law_far_apart : De.Env → Out :=
    (sto2S 2 (vr 4) (vr 5) (calA (g2 dMin2) (consA (op2 dIx (op2 dIx (vr 2) (vr 4)) (vr 5)) (consA (op2 dAdd (op2 dIx (op2 dIx (vr 2) (vr 4)) (vr 3)) (op2 dIx (op2 dIx (vr 2) (vr 3)) (vr 5))) nilA))))
def b2__law_far_apart : De.Env → Out :=
    (forS [0] (rngA (consA (vr 0) nilA)) (.one 5) b1__law_far_apart)
def b3__law_far_apart : De.Env → Out :=
    (forS [0] (rngA (consA (vr 0) nilA)) (.one 4) b2__law_far_apart)
def e4__law_far_apart : De.Env → Res D :=
    (op2 dIx (lstA (consA (cI 99) (consA (cI 1) nilA))) (calA (g1 dInt1) (consA (op2 dInX (tupA (consA (vr 4) (consA (vr 5) nilA))) (vr 1)) nilA)))
def e5__law_far_apart : De.Env → Res D :=
    (lcA (rngA (consA (vr 0) nilA)) (.one 5) yesB e4__law_far_apart)
def s__law_far_apart : De.Env → Out :=
    (seqS (asgS [0, 1] 2 (lcA (rngA (consA (vr 0) nilA)) (.one 4) yesB e5__law_far_apart))
    (seqS (forS [0] (rngA (consA (vr 0) nilA)) (.one 3) b3__law_far_apart)
    (retS (vr 2))))
def F__law_far_apart : List D → Res D := runF s__law_far_apart 6
def e1__law_steps : De.Env → Res D :=
    (vr 9)
def t2__law_steps : De.Env → Res Bool :=
    (tst (op2 dEq (op2 dIx (op2 dIx (vr 4) (vr 9)) (vr 3)) (vr 7)))
def e3__law_steps : De.Env → Res D :=
    (vr 9)
def t4__law_steps : De.Env → Res Bool :=
    (tst (op2 dInX (tupA (consA (op2 dIx (vr 5) (op1 dNeg (cI 1))) (consA (vr 9) nilA))) (vr 1)))
def b5__law_steps : De.Env → Out :=
    (seqS (asgS [2, 3, 4, 6] 7 (op2 dSub (op2 dSub (op2 dIx (op2 dIx (vr 4) (vr 2)) (vr 3)) (cI 1)) (vr 6)))
    (seqS (asgS [0, 1, 5] 8 (lcA (rngA (consA (vr 0) nilA)) (.one 9) t4__law_steps e3__law_steps))
    (mutS [3, 4, 7, 8] 5 (calA (g1 dMinL) (consA (lcA (itm itD (vr 8)) (.one 9) t2__law_steps e1__law_steps) nilA)) gApp)))
def s__law_steps : De.Env → Out :=
    (seqS (asgS [2] 5 (lstA (consA (vr 2) nilA)))
    (seqS (forS [2, 3, 4] (rngA (consA (op2 dSub (op2 dIx (op2 dIx (vr 4) (vr 2)) (vr 3)) (cI 1)) nilA)) (.one 6) b5__law_steps)
    (retS (op2 dAdd (vr 5) (lstA (consA (vr 3) nilA))))))
def F__law_steps : List D → Res D := runF s__law_steps 10
def e1__law_ring : De.Env → Res D :=
    (op2 dIx (op2 dIx (vr 2) (vr 4)) (vr 4))
def s__law_ring : De.Env → Out :=
    (seqS (asgS [0, 1] 2 (fnA F__law_far_apart [] (consA (vr 0) (consA (vr 1) nilA))))
    (seqS (asgS [0, 2] 3 (lcA (rngA (consA (vr 0) nilA)) (.one 4) yesB e1__law_ring))
    (seqS (ifS (tst (op2 dGt (calA (g1 dMinL) (consA (vr 3) nilA)) (cI 9))) (retS cN) nilS)
    (seqS (asgS [3] 4 (idxA (vr 3) (calA (g1 dMinL) (consA (vr 3) nilA))))
    (retS (slA (fnA F__law_steps [] (consA (vr 0) (consA (vr 1) (consA (vr 4) (consA (vr 4) (consA (vr 2) nilA)))))) prtN (prtE (op1 dNeg (cI 1)))))))))
def F__law_ring : List D → Res D := runF s__law_ring 5
end Cm
set_option Elab.async false
set_option linter.all false
set_option maxRecDepth 100000
namespace K08
open PySem PySem.Spec PyProof.Rows L2 De Cm
def top (i : Nat) : Stmt := PySem.Challenge.pw_scribelists_k08_rings.main.body.getD i (.Pass ⟨0, 0, 0, 0⟩)
abbrev FnP (K : PySem.W.Frag) (x : Str) (st : Stmt) : Prop := ∃ fd, FunD K x x (defArgs st) (defBody st) (defScope st) [] [] (He.ga K x) fd
/-! ### look_many -/
theorem sc_look_many : FnScope ["many"] ["many"] (defScope (top 6)) := ⟨rfl, rfl, rfl, by decide +kernel, rfl, by decide +kernel, by decide +kernel⟩
theorem ok_look_many {P : Program} {w : World} {K : PySem.W.Frag} {mg : Str → Option Value} {base : Heap} {T : List (Addr × Str)} (G : FnP K "look_many" (top 6)) (m : mg "look_many" = some (.ref (He.ga K "look_many"))) (c_MOST_SIGNS : ∃ t, mg "MOST_SIGNS" = some (.int 9 t))  : FnS P w K mg base T "look_many" ["many"] 1 F_look_many :=
  FnS.mk1 (k := 0) G m sc_look_many (fun _ _ _ _ _ _ us hl => match us, hl with | [_], _ => rfl) rfl fun cdv A outer s0 H E hr =>
    (dss_one (ds_if [0] (dt_of (dt_or (dt_cmp lt_ok (de_var 0) de_int) (dt_or1 (dt_cmp gt_ok (de_var 0) (de_gint rfl c_MOST_SIGNS))))) (dss_one ds_never) dss_nil))
/-! ### look_pairs -/
theorem sc_look_pairs : FnScope ["many", "pairs", "one", "other"] ["many", "pairs"] (defScope (top 8)) := ⟨rfl, rfl, rfl, by decide +kernel, rfl, by decide +kernel, by decide +kernel⟩
theorem ok_look_pairs {P : Program} {w : World} {K : PySem.W.Frag} {mg : Str → Option Value} {base : Heap} {T : List (Addr × Str)} (G : FnP K "look_pairs" (top 8)) (m : mg "look_pairs" = some (.ref (He.ga K "look_pairs"))) (b_max : mg "max" = none) (b_min : mg "min" = none) (w_look_many : FnS P w K mg base T "look_many" ["many"] 1 F_look_many) : FnS P w K mg base T "look_pairs" ["many", "pairs"] 2 F_look_pairs :=
  FnS.mk1 (k := 1) G m sc_look_pairs (fun _ _ _ _ _ _ us hl => match us, hl with | [_, _], _ => rfl) rfl fun cdv A outer s0 H E hr =>
    (dss_cons (ds_drop [0] (de_fn w_look_many (hr.mono (by omega)) takesE (da_cons (de_var 0) da_nil)))
    (dss_one (ds_for [1] passesE rfl (di_it (de_var 1)) (pg_tup rfl (pgs_cons (pg_name sc_look_pairs.nd rfl (by first | exact Or.inl rfl | exact Or.inr rfl)) (pgs_cons (pg_name sc_look_pairs.nd rfl (by first | exact Or.inl rfl | exact Or.inr rfl)) pgs_nil))) (dss_one (ds_if [0, 2, 3] (dt_of (dt_or (dt_cmp (eq_ok hr.units) (de_var 2) (de_var 3)) (dt_or (dt_cmp lt_ok (de_callB (min2_ok rfl) rfl b_min bt_min (da_cons (de_var 2) (da_cons (de_var 3) da_nil))) de_int) (dt_or1 (dt_cmp ge_ok (de_callB (max2_ok rfl) rfl b_max bt_max (da_cons (de_var 2) (da_cons (de_var 3) da_nil))) (de_var 0)))))) (dss_one ds_never) dss_nil)))))
/-! ### nexts -/
theorem sc_nexts : FnScope ["pairs", "found", "one", "other"] ["pairs"] (defScope (top 9)) := ⟨rfl, rfl, rfl, by decide +kernel, rfl, by decide +kernel, by decide +kernel⟩
theorem ok_nexts {P : Program} {w : World} {K : PySem.W.Frag} {mg : Str → Option Value} {base : Heap} {T : List (Addr × Str)} (G : FnP K "nexts" (top 9)) (m : mg "nexts" = some (.ref (He.ga K "nexts"))) (b_sorted : mg "sorted" = none) (b_set : mg "set" = none)  : FnS P w K mg base T "nexts" ["pairs"] 1 F_nexts :=
  FnS.mk1 (k := 0) G m sc_nexts (fun _ _ _ _ _ _ us hl => match us, hl with | [_], _ => rfl) rfl fun cdv A outer s0 H E hr =>
    (dss_cons (ds_set [] sc_nexts.nd rfl (by first | exact Or.inl rfl | exact Or.inr rfl) de_dnew)
    (dss_cons (ds_for [0] passesE rfl (di_it (de_sset rfl hr.units rfl b_sorted rfl b_set (de_var 0))) (pg_tup rfl (pgs_cons (pg_name sc_nexts.nd rfl (by first | exact Or.inl rfl | exact Or.inr rfl)) (pgs_cons (pg_name sc_nexts.nd rfl (by first | exact Or.inl rfl | exact Or.inr rfl)) pgs_nil))) (dss_one (ds_dsap [2, 3] rfl (de_var 2) (de_var 3))))
    (dss_one (ds_ret [1] (de_var 1)))))
/-! ### chains_from -/
theorem sc_chains_from : FnScope ["pairs", "start", "steps", "found", "fresh", "later", "sign", "other"] ["pairs", "start"] (defScope (top 10)) := ⟨rfl, rfl, rfl, by decide +kernel, rfl, by decide +kernel, by decide +kernel⟩
theorem ok_chains_from {P : Program} {w : World} {K : PySem.W.Frag} {mg : Str → Option Value} {base : Heap} {T : List (Addr × Str)} (G : FnP K "chains_from" (top 10)) (m : mg "chains_from" = some (.ref (He.ga K "chains_from")))  (w_nexts : FnS P w K mg base T "nexts" ["pairs"] 1 F_nexts) : FnS P w K mg base T "chains_from" ["pairs", "start"] 2 F_chains_from :=
  FnS.mk1 (k := 1) G m sc_chains_from (fun _ _ _ _ _ _ us hl => match us, hl with | [_, _], _ => rfl) rfl fun cdv A outer s0 H E hr =>
    (dss_cons (ds_set [0] sc_chains_from.nd rfl (by first | exact Or.inl rfl | exact Or.inr rfl) (de_fn w_nexts (hr.mono (by omega)) takesE (da_cons (de_var 0) da_nil)))
    (dss_cons (ds_set [1] sc_chains_from.nd rfl (by first | exact Or.inl rfl | exact Or.inr rfl) (de_disp1 (de_var 1) (de_lst (da_cons (de_var 1) da_nil))))
    (dss_cons (ds_set [1] sc_chains_from.nd rfl (by first | exact Or.inl rfl | exact Or.inr rfl) (de_lst (da_cons (de_var 1) da_nil)))
    (dss_cons (ds_while [4] 1000 passesE (dt_cmp (ne_ok hr.units) (de_var 4) (de_lst da_nil)) (dss_cons (ds_set [] sc_chains_from.nd rfl (by first | exact Or.inl rfl | exact Or.inr rfl) (de_lst da_nil))
    (dss_cons (ds_for [4] passesE rfl (di_it (de_var 4)) (pg_name sc_chains_from.nd rfl (by first | exact Or.inl rfl | exact Or.inr rfl)) (dss_one (ds_for [2, 6] passesE rfl (di_it (de_dget2 hr.units (de_var 2) (de_var 6) (de_lst da_nil))) (pg_name sc_chains_from.nd rfl (by first | exact Or.inl rfl | exact Or.inr rfl)) (dss_one (ds_if [3, 7] (dt_cmp (dNotIn_ok hr.units) (de_var 7) (de_var 3)) (dss_cons (ds_dput [3, 6, 7] hr.units rfl (de_var 7) (de_op add_ok (de_ix (ixD_ok hr.units) (de_var 3) (de_var 6)) (de_lst (da_cons (de_var 7) da_nil))))
    (dss_one (ds_app [7] rfl (de_var 7)))) dss_nil)))))
    (dss_one (ds_set [5] sc_chains_from.nd rfl (by first | exact Or.inl rfl | exact Or.inr rfl) (de_var 5))))))
    (dss_one (ds_ret [3] (de_var 3)))))))
/-! ### ring_in -/
theorem sc_ring_in : FnScope ["many", "pairs", "some", "start", "known", "one", "other"] ["many", "pairs"] (defScope (top 11)) := ⟨rfl, rfl, rfl, by decide +kernel, rfl, by decide +kernel, by decide +kernel⟩
def lm_ring_in_l1 : LamC := lamAtS "ring_in.<locals>.<lambda>" ["row"] [] (top 11) [(0, 2)] 0 [2]
theorem sc_ring_in_l1 : lm_ring_in_l1.Ok ["row"] := lamOk_by (by decide +kernel)
theorem okL_ring_in_l1 {P : Program} {w : World} {K : PySem.W.Frag} {mg : Str → Option Value} {base : Heap} {T : List (Addr × Str)} (b_len : mg "len" = none)  : LamS P w K mg base T lm_ring_in_l1 0 FL_ring_in_l1 :=
  LamS.mk1 (M := [0]) sc_ring_in_l1 (fun _ _ _ _ _ us hl => match us, hl with | [_], _ => rfl) rfl fun cl f c A outer s H E hr =>
    (de_tup (da_cons (de_callB len_ok rfl b_len bt_len (da_cons (de_var 0) da_nil)) (da_cons (de_var 0) da_nil)))
theorem ok_ring_in {P : Program} {w : World} {K : PySem.W.Frag} {mg : Str → Option Value} {base : Heap} {T : List (Addr × Str)} (G : FnP K "ring_in" (top 11)) (m : mg "ring_in" = some (.ref (He.ga K "ring_in"))) (b_len : mg "len" = none) (mk_ring_in : Mk1 K base mg T "ring_in" "ring_in.<locals>.<lambda>") (b_min : mg "min" = none) (b_range : mg "range" = none) (w_chains_from : FnS P w K mg base T "chains_from" ["pairs", "start"] 2 F_chains_from) : FnS P w K mg base T "ring_in" ["many", "pairs"] 4 F_ring_in :=
  FnS.up <| FnS.mkL (k := 3) G m sc_ring_in (fun _ _ _ _ _ _ us hl => match us, hl with | [_, _], _ => rfl) rfl fun A outer s0 H E hr =>
    have okl_ring_in_l1 := okL_ring_in_l1 (P := P) (w := w) (K := K) (mg := mg) (base := base) (T := T) b_len
    (dss_cons (ds_set [] sc_ring_in.nd rfl (by first | exact Or.inl rfl | exact Or.inr rfl) (de_lst da_nil))
    (dss_cons (ds_for [0] passesE rfl (di_rng1 rfl b_range (da_cons (de_var 0) da_nil)) (pg_name sc_ring_in.nd rfl (by first | exact Or.inl rfl | exact Or.inr rfl)) (dss_cons (ds_set [1, 3] sc_ring_in.nd rfl (by first | exact Or.inl rfl | exact Or.inr rfl) (de_fn w_chains_from (hr.mono (by omega)) takesE (da_cons (de_var 1) (da_cons (de_var 3) da_nil))))
    (dss_one (ds_ext [1, 3, 4] rfl (de_lc (M' := [3, 4, 5, 6]) (own := [("one", 5), ("other", 6)]) rfl sc_ring_in.nd (di_it (de_var 1)) (blkOk_by (by kernel_rfl)) rfl (by decide) (fun _ _ _ _ _ => (pg_tup rfl (pgs_cons (pg_name sc_ring_in.nd rfl (by first | exact Or.inl rfl | exact Or.inr rfl)) (pgs_cons (pg_name sc_ring_in.nd rfl (by first | exact Or.inl rfl | exact Or.inr rfl)) pgs_nil)))) (fun _ _ _ _ _ => (dts_one (dt_of (dt_and (dt_cmp (eq_ok hr.units) (de_var 6) (de_var 3)) (dt_and1 (dt_cmp (dIn_ok hr.units) (de_var 5) (de_var 4))))))) (fun _ _ _ _ _ => (de_ix (ixD_ok hr.units) (de_var 4) (de_var 5))))))))
    (dss_one (ds_ret [2] (de_minLam (LamAt.of (N := ["row"]) mk_ring_in sc_ring_in_l1 rfl (by kernel_rfl) rfl (by kernel_rfl)) (caps_of (N := ["many", "pairs", "some", "start", "known", "one", "other"]) rfl (by decide +kernel)) (by decide) okl_ring_in_l1 rfl (hr.mono (by omega)) rfl rfl b_min (de_var 2) de_non)))))
/-! ### ring -/
theorem sc_ring : FnScope ["many", "pairs"] ["many", "pairs"] (defScope (top 12)) := ⟨rfl, rfl, rfl, by decide +kernel, rfl, by decide +kernel, by decide +kernel⟩
theorem ok_ring {P : Program} {w : World} {K : PySem.W.Frag} {mg : Str → Option Value} {base : Heap} {T : List (Addr × Str)} (G : FnP K "ring" (top 12)) (m : mg "ring" = some (.ref (He.ga K "ring")))  (w_ring_in : FnS P w K mg base T "ring_in" ["many", "pairs"] 4 F_ring_in) (w_look_pairs : FnS P w K mg base T "look_pairs" ["many", "pairs"] 2 F_look_pairs) : FnS P w K mg base T "ring" ["many", "pairs"] 5 F_ring :=
  FnS.mk1 (k := 4) G m sc_ring (fun _ _ _ _ _ _ us hl => match us, hl with | [_, _], _ => rfl) rfl fun cdv A outer s0 H E hr =>
    (dss_cons (ds_drop [0, 1] (de_fn w_look_pairs (hr.mono (by omega)) takesE (da_cons (de_var 0) (da_cons (de_var 1) da_nil))))
    (dss_one (ds_ret [0, 1] (de_fn w_ring_in (hr.mono (by omega)) takesE (da_cons (de_var 0) (da_cons (de_var 1) da_nil))))))
/-! ### _law_mixed -/
theorem sc__law_mixed : FnScope ["_law_seed", "_law_k", "_law_square"] ["_law_seed", "_law_k"] (defScope (top 14)) := ⟨rfl, rfl, rfl, by decide +kernel, rfl, by decide +kernel, by decide +kernel⟩
theorem ok__law_mixed {P : Program} {w : World} {K : PySem.W.Frag} {mg : Str → Option Value} {base : Heap} {T : List (Addr × Str)} (G : FnP K "_law_mixed" (top 14)) (m : mg "_law_mixed" = some (.ref (He.ga K "_law_mixed")))   : FnS P w K mg base T "_law_mixed" ["_law_seed", "_law_k"] 1 F__law_mixed :=
  FnS.mk1 (k := 0) G m sc__law_mixed (fun _ _ _ _ _ _ us hl => match us, hl with | [_, _], _ => rfl) rfl fun cdv A outer s0 H E hr =>
    (dss_cons (ds_set [0] sc__law_mixed.nd rfl (by first | exact Or.inl rfl | exact Or.inr rfl) (de_op mod_ok (de_op mul_ok (de_var 0) (de_var 0)) de_int))
    (dss_one (ds_ret [0, 1, 2] (de_op mod_ok (de_op add_ok (de_op add_ok (de_op mul_ok (de_var 2) (de_op add_ok (de_op mod_ok (de_var 0) de_int) de_int)) (de_op mul_ok (de_var 1) de_int)) de_int) de_int))))
/-! ### _law_draw -/
theorem sc__law_draw : FnScope ["_law_cell_here", "_law_limits", "_law_rest", "_law_seed", "_law_found", "_law_limit"] ["_law_cell_here", "_law_limits"] (defScope (top 15)) := ⟨rfl, rfl, rfl, by decide +kernel, rfl, by decide +kernel, by decide +kernel⟩
theorem ok__law_draw {P : Program} {w : World} {K : PySem.W.Frag} {mg : Str → Option Value} {base : Heap} {T : List (Addr × Str)} (G : FnP K "_law_draw" (top 15)) (m : mg "_law_draw" = some (.ref (He.ga K "_law_draw"))) (b_len : mg "len" = none) (b_abs : mg "abs" = none) (w__law_mixed : FnS P w K mg base T "_law_mixed" ["_law_seed", "_law_k"] 1 F__law_mixed) : FnS P w K mg base T "_law_draw" ["_law_cell_here", "_law_limits"] 2 F__law_draw :=
  FnS.mk1 (k := 1) G m sc__law_draw (fun _ _ _ _ _ _ us hl => match us, hl with | [_, _], _ => rfl) rfl fun cdv A outer s0 H E hr =>
    (dss_cons (ds_set [0] sc__law_draw.nd rfl (by first | exact Or.inl rfl | exact Or.inr rfl) (de_if (dt_cmp ge_ok (de_var 0) (de_op pow_ok de_int de_int)) (de_var 0) de_int))
    (dss_cons (ds_set [0] sc__law_draw.nd rfl (by first | exact Or.inl rfl | exact Or.inr rfl) (de_op mod_ok (de_op add_ok (de_op mul_ok (de_callB abs_ok rfl b_abs bt_abs (da_cons (de_var 0) da_nil)) de_int) de_int) de_int))
    (dss_cons (ds_set [] sc__law_draw.nd rfl (by first | exact Or.inl rfl | exact Or.inr rfl) (de_lst da_nil))
    (dss_cons (ds_for [1] passesE rfl (di_it (de_var 1)) (pg_name sc__law_draw.nd rfl (by first | exact Or.inl rfl | exact Or.inr rfl)) (dss_one (ds_if [2] (dt_cmp gt_ok (de_var 2) de_int) (dss_cons (ds_app [2, 5] rfl (de_op mod_ok (de_var 2) (de_var 5)))
    (dss_one (ds_set [2, 5] sc__law_draw.nd rfl (by first | exact Or.inl rfl | exact Or.inr rfl) (de_op fdv_ok (de_var 2) (de_var 5))))) (dss_cons (ds_set [3, 4] sc__law_draw.nd rfl (by first | exact Or.inl rfl | exact Or.inr rfl) (de_fn w__law_mixed (hr.mono (by omega)) takesE (da_cons (de_var 3) (da_cons (de_callB len_ok rfl b_len bt_len (da_cons (de_var 4) da_nil)) da_nil))))
    (dss_one (ds_app [3, 5] rfl (de_op mod_ok (de_op fdv_ok (de_var 3) de_int) (de_var 5))))))))
    (dss_one (ds_ret [4] (de_var 4)))))))
/-! ### _law_cell -/
theorem sc__law_cell : FnScope ["_law_script", "_law_k"] ["_law_script", "_law_k"] (defScope (top 16)) := ⟨rfl, rfl, rfl, by decide +kernel, rfl, by decide +kernel, by decide +kernel⟩
theorem ok__law_cell {P : Program} {w : World} {K : PySem.W.Frag} {mg : Str → Option Value} {base : Heap} {T : List (Addr × Str)} (G : FnP K "_law_cell" (top 16)) (m : mg "_law_cell" = some (.ref (He.ga K "_law_cell"))) (b_len : mg "len" = none)  : FnS P w K mg base T "_law_cell" ["_law_script", "_law_k"] 1 F__law_cell :=
  FnS.mk1 (k := 0) G m sc__law_cell (fun _ _ _ _ _ _ us hl => match us, hl with | [_, _], _ => rfl) rfl fun cdv A outer s0 H E hr =>
    (dss_cons (ds_if [0, 1] (dt_cmp lt_ok (de_var 1) (de_callB len_ok rfl b_len bt_len (da_cons (de_var 0) da_nil))) (dss_one (ds_ret [0, 1] (de_ix ix_ok (de_var 0) (de_var 1)))) dss_nil)
    (dss_cons (ds_if [0] (dt_cmp (eq_ok hr.units) (de_callB len_ok rfl b_len bt_len (da_cons (de_var 0) da_nil)) de_int) (dss_one (ds_ret [1] (de_op mul_ok de_int (de_var 1)))) dss_nil)
    (dss_one (ds_ret [0, 1] (de_op add_ok (de_ix ix_ok (de_var 0) (de_op mod_ok (de_var 1) (de_callB len_ok rfl b_len bt_len (da_cons (de_var 0) da_nil)))) (de_op mul_ok de_int (de_var 1)))))))
/-! ### _law_num -/
theorem sc__law_num : FnScope ["_law_found"] ["_law_found"] (defScope (top 17)) := ⟨rfl, rfl, rfl, by decide +kernel, rfl, by decide +kernel, by decide +kernel⟩
theorem ok__law_num {P : Program} {w : World} {K : PySem.W.Frag} {mg : Str → Option Value} {base : Heap} {T : List (Addr × Str)} (G : FnP K "_law_num" (top 17)) (m : mg "_law_num" = some (.ref (He.ga K "_law_num"))) (b_bool : mg "bool" = none) (b_isinstance : mg "isinstance" = none) (b_int : mg "int" = none)  : FnS P w K mg base T "_law_num" ["_law_found"] 1 F__law_num :=
  FnS.mk1 (k := 0) G m sc__law_num (fun _ _ _ _ _ _ us hl => match us, hl with | [_], _ => rfl) rfl fun cdv A outer s0 H E hr =>
    (dss_one (ds_ret [0] (de_and (de_callB isi_ok rfl b_isinstance bt_isinstance (da_cons (de_var 0) (da_cons (de_bty rfl b_int bt_int) da_nil))) (de_one (de_not (de_callB isi_ok rfl b_isinstance bt_isinstance (da_cons (de_var 0) (da_cons (de_bty rfl b_bool bt_bool) da_nil))))))))
/-! ### _law_same -/
theorem sc__law_same : FnScope ["_law_found", "_law_due", "_law_k"] ["_law_found", "_law_due"] (defScope (top 18)) := ⟨rfl, rfl, rfl, by decide +kernel, rfl, by decide +kernel, by decide +kernel⟩
theorem ok__law_same {P : Program} {w : World} {K : PySem.W.Frag} {mg : Str → Option Value} {base : Heap} {T : List (Addr × Str)} (G : FnP K "_law_same" (top 18)) (m : mg "_law_same" = some (.ref (He.ga K "_law_same"))) (b_len : mg "len" = none) (b_range : mg "range" = none) (b_all : mg "all" = none) (b_list : mg "list" = none) (b_isinstance : mg "isinstance" = none) (b_tuple : mg "tuple" = none) (b_str : mg "str" = none) (b_int : mg "int" = none) (b_bool : mg "bool" = none) (w__law_num : FnS P w K mg base T "_law_num" ["_law_found"] 1 F__law_num) : FnS P w K mg base T "_law_same" ["_law_found", "_law_due"] 10 F__law_same :=
  FnS.mkR (k := 1) G m sc__law_same (fun _ _ _ _ _ _ us hl => match us, hl with | [_, _], _ => rfl) rfl (fun j F GF hj cdv A outer s0 H E hr =>
    (dss_cons (ds_if [1] (dt_cmp isN_ok (de_var 1) de_non) (dss_one (ds_ret [0] (de_cmp isN_ok (de_var 0) de_non))) dss_nil)
    (dss_cons (ds_if [1] (dt_val (de_callB isi_ok rfl b_isinstance bt_isinstance (da_cons (de_var 1) (da_cons (de_bty rfl b_bool bt_bool) da_nil)))) (dss_one (ds_ret [0, 1] (de_and (de_callB isi_ok rfl b_isinstance bt_isinstance (da_cons (de_var 0) (da_cons (de_bty rfl b_bool bt_bool) da_nil))) (de_one (de_cmp (eq_ok hr.units) (de_var 0) (de_var 1)))))) dss_nil)
    (dss_cons (ds_if [1] (dt_val (de_callB isi_ok rfl b_isinstance bt_isinstance (da_cons (de_var 1) (da_cons (de_bty rfl b_int bt_int) da_nil)))) (dss_one (ds_ret [0, 1] (de_and (de_fn w__law_num (hr.mono (by omega)) takesE (da_cons (de_var 0) da_nil)) (de_one (de_cmp (eq_ok hr.units) (de_var 0) (de_var 1)))))) dss_nil)
    (dss_cons (ds_if [1] (dt_val (de_callB isi_ok rfl b_isinstance bt_isinstance (da_cons (de_var 1) (da_cons (de_bty rfl b_str bt_str) da_nil)))) (dss_one (ds_ret [0, 1] (de_and (de_callB isi_ok rfl b_isinstance bt_isinstance (da_cons (de_var 0) (da_cons (de_bty rfl b_str bt_str) da_nil))) (de_one (de_cmp (eq_ok hr.units) (de_var 0) (de_var 1)))))) dss_nil)
    (dss_cons (ds_if [0, 1] (dt_of (dt_or (dt_of (dt_and (dt_val (de_callB isi_ok rfl b_isinstance bt_isinstance (da_cons (de_var 1) (da_cons (de_bty rfl b_tuple bt_tuple) da_nil)))) (dt_and1 (dt_not (dt_val (de_callB isi_ok rfl b_isinstance bt_isinstance (da_cons (de_var 0) (da_cons (de_bty rfl b_tuple bt_tuple) da_nil)))))))) (dt_or1 (dt_of (dt_and (dt_val (de_callB isi_ok rfl b_isinstance bt_isinstance (da_cons (de_var 1) (da_cons (de_bty rfl b_list bt_list) da_nil)))) (dt_and1 (dt_not (dt_val (de_callB isi_ok rfl b_isinstance bt_isinstance (da_cons (de_var 0) (da_cons (de_bty rfl b_list bt_list) da_nil))))))))))) (dss_one (ds_ret [] de_bl)) dss_nil)
    (dss_one (ds_ret [0, 1] (de_and (de_cmp (eq_ok hr.units) (de_callB len_ok rfl b_len bt_len (da_cons (de_var 0) da_nil)) (de_callB len_ok rfl b_len bt_len (da_cons (de_var 1) da_nil))) (de_one (de_callB (all_ok rfl) rfl b_all bt_all (da_cons (de_lc (M' := [0, 1, 2]) (own := [("_law_k", 2)]) rfl sc__law_same.nd (di_rng1 rfl b_range (da_cons (de_callB len_ok rfl b_len bt_len (da_cons (de_var 1) da_nil)) da_nil)) (blkOk_by (by kernel_rfl)) rfl (by decide) (fun _ _ _ _ _ => (pg_name sc__law_same.nd rfl (by first | exact Or.inl rfl | exact Or.inr rfl))) (fun _ _ _ _ _ => dts_nil) (fun _ _ _ _ _ => (de_fn GF hr takesF (da_cons (de_ix ix_ok (de_var 0) (de_var 2)) (da_cons (de_ix ix_ok (de_var 1) (de_var 2)) da_nil))))) da_nil)))))))))))) 8
/-! ### _law_mingled -/
theorem sc__law_mingled : FnScope ["_law_d", "_law_many", "_law_found", "_law_k"] ["_law_d", "_law_many"] (defScope (top 19)) := ⟨rfl, rfl, rfl, by decide +kernel, rfl, by decide +kernel, by decide +kernel⟩
theorem ok__law_mingled {P : Program} {w : World} {K : PySem.W.Frag} {mg : Str → Option Value} {base : Heap} {T : List (Addr × Str)} (G : FnP K "_law_mingled" (top 19)) (m : mg "_law_mingled" = some (.ref (He.ga K "_law_mingled"))) (b_range : mg "range" = none)  : FnS P w K mg base T "_law_mingled" ["_law_d", "_law_many"] 1 F__law_mingled :=
  FnS.mk1 (k := 0) G m sc__law_mingled (fun _ _ _ _ _ _ us hl => match us, hl with | [_, _], _ => rfl) rfl fun cdv A outer s0 H E hr =>
    (dss_cons (ds_set [] sc__law_mingled.nd rfl (by first | exact Or.inl rfl | exact Or.inr rfl) (de_lst da_nil))
    (dss_cons (ds_for [1] passesE rfl (di_rng1 rfl b_range (da_cons (de_var 1) da_nil)) (pg_name sc__law_mingled.nd rfl (by first | exact Or.inl rfl | exact Or.inr rfl)) (dss_one (ds_ins [0, 3] rfl (da_cons (de_op mod_ok (de_ix ix_ok (de_var 0) (de_var 3)) (de_op add_ok (de_var 3) de_int)) (da_cons (de_var 3) da_nil)))))
    (dss_one (ds_ret [2] (de_var 2)))))
/-! ### _law_some_pairs -/
theorem sc__law_some_pairs : FnScope ["_law_d", "_law_many", "_law_order", "_law_found", "_law_k", "_law_one", "_law_other"] ["_law_d", "_law_many"] (defScope (top 20)) := ⟨rfl, rfl, rfl, by decide +kernel, rfl, by decide +kernel, by decide +kernel⟩
theorem ok__law_some_pairs {P : Program} {w : World} {K : PySem.W.Frag} {mg : Str → Option Value} {base : Heap} {T : List (Addr × Str)} (G : FnP K "_law_some_pairs" (top 20)) (m : mg "_law_some_pairs" = some (.ref (He.ga K "_law_some_pairs"))) (b_range : mg "range" = none) (w__law_mingled : FnS P w K mg base T "_law_mingled" ["_law_d", "_law_many"] 1 F__law_mingled) : FnS P w K mg base T "_law_some_pairs" ["_law_d", "_law_many"] 2 F__law_some_pairs :=
  FnS.mk1 (k := 1) G m sc__law_some_pairs (fun _ _ _ _ _ _ us hl => match us, hl with | [_, _], _ => rfl) rfl fun cdv A outer s0 H E hr =>
    (dss_cons (ds_if [1] (dt_cmp lt_ok (de_var 1) de_int) (dss_one (ds_ret [] (de_lst da_nil))) dss_nil)
    (dss_cons (ds_set [0, 1] sc__law_some_pairs.nd rfl (by first | exact Or.inl rfl | exact Or.inr rfl) (de_fn w__law_mingled (hr.mono (by omega)) takesE (da_cons (de_sl (de_var 0) (dp_some de_int) dp_none) (da_cons (de_var 1) da_nil))))
    (dss_cons (ds_set [] sc__law_some_pairs.nd rfl (by first | exact Or.inl rfl | exact Or.inr rfl) (de_lst da_nil))
    (dss_cons (ds_for [0] passesE rfl (di_rng1 rfl b_range (da_cons (de_ix ix_ok (de_lst (da_cons (de_op mod_ok (de_ix ix_ok (de_var 0) de_int) de_int) (da_cons (de_op mod_ok (de_ix ix_ok (de_var 0) de_int) de_int) (da_cons (de_op mod_ok (de_ix ix_ok (de_var 0) de_int) de_int) da_nil)))) (de_op mod_ok (de_ix ix_ok (de_var 0) de_int) de_int)) da_nil)) (pg_name sc__law_some_pairs.nd rfl (by first | exact Or.inl rfl | exact Or.inr rfl)) (dss_cons (ds_set [0, 1, 4] sc__law_some_pairs.nd rfl (by first | exact Or.inl rfl | exact Or.inr rfl) (de_op mod_ok (de_ix ix_ok (de_var 0) (de_op add_ok de_int (de_op mul_ok de_int (de_var 4)))) (de_var 1)))
    (dss_cons (ds_set [0, 1, 4, 5] sc__law_some_pairs.nd rfl (by first | exact Or.inl rfl | exact Or.inr rfl) (de_op mod_ok (de_op add_ok (de_op add_ok (de_var 5) de_int) (de_op mod_ok (de_ix ix_ok (de_var 0) (de_op add_ok de_int (de_op mul_ok de_int (de_var 4)))) (de_op sub_ok (de_var 1) de_int))) (de_var 1)))
    (dss_cons (ds_if [0, 2, 5, 6] (dt_of (dt_and (dt_cmp gt_ok (de_op mod_ok (de_ix ix_ok (de_var 0) de_int) de_int) de_int) (dt_and1 (dt_cmp gt_ok (de_index (de_var 2) (de_var 5)) (de_index (de_var 2) (de_var 6)))))) (dss_one (ds_par (i := 5) (j := 6) [5, 6] rfl sc__law_some_pairs.nd rfl rfl (by decide) rfl rfl (da_cons (de_var 6) (da_cons (de_var 5) da_nil)) rfl)) dss_nil)
    (dss_one (ds_app [5, 6] rfl (de_tup (da_cons (de_var 5) (da_cons (de_var 6) da_nil)))))))))
    (dss_one (ds_ret [3] (de_var 3)))))))
/-! ### _law_pairs_cell -/
theorem sc__law_pairs_cell : FnScope ["_law_script", "_law_k", "_law_many"] ["_law_script", "_law_k", "_law_many"] (defScope (top 21)) := ⟨rfl, rfl, rfl, by decide +kernel, rfl, by decide +kernel, by decide +kernel⟩
theorem ok__law_pairs_cell {P : Program} {w : World} {K : PySem.W.Frag} {mg : Str → Option Value} {base : Heap} {T : List (Addr × Str)} (G : FnP K "_law_pairs_cell" (top 21)) (m : mg "_law_pairs_cell" = some (.ref (He.ga K "_law_pairs_cell")))  (w__law_cell : FnS P w K mg base T "_law_cell" ["_law_script", "_law_k"] 1 F__law_cell) (w__law_draw : FnS P w K mg base T "_law_draw" ["_law_cell_here", "_law_limits"] 2 F__law_draw) (w__law_some_pairs : FnS P w K mg base T "_law_some_pairs" ["_law_d", "_law_many"] 2 F__law_some_pairs) : FnS P w K mg base T "_law_pairs_cell" ["_law_script", "_law_k", "_law_many"] 3 F__law_pairs_cell :=
  FnS.mk1 (k := 2) G m sc__law_pairs_cell (fun _ _ _ _ _ _ us hl => match us, hl with | [_, _, _], _ => rfl) rfl fun cdv A outer s0 H E hr =>
    (dss_one (ds_ret [0, 1, 2] (de_fn w__law_some_pairs (hr.mono (by omega)) takesE (da_cons (de_fn w__law_draw (hr.mono (by omega)) takesE (da_cons (de_fn w__law_cell (hr.mono (by omega)) takesE (da_cons (de_var 0) (da_cons (de_var 1) da_nil))) (da_cons (de_op add_ok (de_op add_ok (de_lst (da_cons de_int (da_cons de_int (da_cons de_int da_nil)))) (de_op mul_ok (de_lst (da_cons de_int da_nil)) de_int)) (de_op mul_ok (de_lst (da_cons de_int da_nil)) de_int)) da_nil))) (da_cons (de_var 2) da_nil)))))
/-! ### _law_far_apart -/
theorem sc__law_far_apart : FnScope ["_law_many", "_law_pairs", "_law_away", "_law_mid", "_law_one", "_law_other"] ["_law_many", "_law_pairs"] (defScope (top 22)) := ⟨rfl, rfl, rfl, by decide +kernel, rfl, by decide +kernel, by decide +kernel⟩
theorem ok__law_far_apart {P : Program} {w : World} {K : PySem.W.Frag} {mg : Str → Option Value} {base : Heap} {T : List (Addr × Str)} (G : FnP K "_law_far_apart" (top 22)) (m : mg "_law_far_apart" = some (.ref (He.ga K "_law_far_apart"))) (b_range : mg "range" = none) (b_min : mg "min" = none) (b_int : mg "int" = none)  : FnS P w K mg base T "_law_far_apart" ["_law_many", "_law_pairs"] 1 F__law_far_apart :=
  FnS.mk1 (k := 0) G m sc__law_far_apart (fun _ _ _ _ _ _ us hl => match us, hl with | [_, _], _ => rfl) rfl fun cdv A outer s0 H E hr =>
    (dss_cons (ds_setLc (M := [0, 1]) (M' := [0, 1, 4]) (own := [("_law_one", 4)]) rfl sc__law_far_apart.nd rfl rfl rfl (di_rng1 rfl b_range (da_cons (de_var 0) da_nil)) (blkOk_by (by kernel_rfl)) rfl (by decide) (fun _ _ _ _ _ => (pg_name sc__law_far_apart.nd rfl (by first | exact Or.inl rfl | exact Or.inr rfl))) (fun _ _ _ _ _ => dts_nil) (fun _ _ _ _ _ => (de_lc (M' := [1, 4, 5]) (own := [("_law_other", 5)]) rfl sc__law_far_apart.nd (di_rng1 rfl b_range (da_cons (de_var 0) da_nil)) (blkOk_by (by kernel_rfl)) rfl (by decide) (fun _ _ _ _ _ => (pg_name sc__law_far_apart.nd rfl (by first | exact Or.inl rfl | exact Or.inr rfl))) (fun _ _ _ _ _ => dts_nil) (fun _ _ _ _ _ => (de_ix ix_ok (de_lst (da_cons de_int (da_cons de_int da_nil))) (de_callTy int1_ok rfl b_int bt_int (da_cons (de_cmp (inX_ok hr.units) (de_tup (da_cons (de_var 4) (da_cons (de_var 5) da_nil))) (de_var 1)) da_nil)))))))
    (dss_cons (ds_for [0] passesE rfl (di_rng1 rfl b_range (da_cons (de_var 0) da_nil)) (pg_name sc__law_far_apart.nd rfl (by first | exact Or.inl rfl | exact Or.inr rfl)) (dss_one (ds_for [0] passesE rfl (di_rng1 rfl b_range (da_cons (de_var 0) da_nil)) (pg_name sc__law_far_apart.nd rfl (by first | exact Or.inl rfl | exact Or.inr rfl)) (dss_one (ds_for [0] passesE rfl (di_rng1 rfl b_range (da_cons (de_var 0) da_nil)) (pg_name sc__law_far_apart.nd rfl (by first | exact Or.inl rfl | exact Or.inr rfl)) (dss_one (ds_sto2 [2, 3, 4, 5] rfl (de_var 4) (de_var 5) (de_callB (min2_ok rfl) rfl b_min bt_min (da_cons (de_ix ix_ok (de_ix ix_ok (de_var 2) (de_var 4)) (de_var 5)) (da_cons (de_op add_ok (de_ix ix_ok (de_ix ix_ok (de_var 2) (de_var 4)) (de_var 3)) (de_ix ix_ok (de_ix ix_ok (de_var 2) (de_var 3)) (de_var 5))) da_nil))))))))))
    (dss_one (ds_ret [2] (de_var 2)))))
/-! ### _law_steps -/
theorem sc__law_steps : FnScope ["_law_many", "_law_pairs", "_law_one", "_law_other", "_law_away", "_law_found", "_law_turn", "_law_left", "_law_near", "_law_sign"] ["_law_many", "_law_pairs", "_law_one", "_law_other", "_law_away"] (defScope (top 23)) := ⟨rfl, rfl, rfl, by decide +kernel, rfl, by decide +kernel, by decide +kernel⟩
theorem ok__law_steps {P : Program} {w : World} {K : PySem.W.Frag} {mg : Str → Option Value} {base : Heap} {T : List (Addr × Str)} (G : FnP K "_law_steps" (top 23)) (m : mg "_law_steps" = some (.ref (He.ga K "_law_steps"))) (b_range : mg "range" = none) (b_min : mg "min" = none)  : FnS P w K mg base T "_law_steps" ["_law_many", "_law_pairs", "_law_one", "_law_other", "_law_away"] 1 F__law_steps :=
  FnS.mk1 (k := 0) G m sc__law_steps (fun _ _ _ _ _ _ us hl => match us, hl with | [_, _, _, _, _], _ => rfl) rfl fun cdv A outer s0 H E hr =>
    (dss_cons (ds_set [2] sc__law_steps.nd rfl (by first | exact Or.inl rfl | exact Or.inr rfl) (de_lst (da_cons (de_var 2) da_nil)))
    (dss_cons (ds_for [2, 3, 4] passesE rfl (di_rng1 rfl b_range (da_cons (de_op sub_ok (de_ix ix_ok (de_ix ix_ok (de_var 4) (de_var 2)) (de_var 3)) de_int) da_nil)) (pg_name sc__law_steps.nd rfl (by first | exact Or.inl rfl | exact Or.inr rfl)) (dss_cons (ds_set [2, 3, 4, 6] sc__law_steps.nd rfl (by first | exact Or.inl rfl | exact Or.inr rfl) (de_op sub_ok (de_op sub_ok (de_ix ix_ok (de_ix ix_ok (de_var 4) (de_var 2)) (de_var 3)) de_int) (de_var 6)))
    (dss_cons (ds_setLc (M := [0, 1, 5]) (M' := [1, 5, 9]) (own := [("_law_sign", 9)]) rfl sc__law_steps.nd rfl rfl rfl (di_rng1 rfl b_range (da_cons (de_var 0) da_nil)) (blkOk_by (by kernel_rfl)) rfl (by decide) (fun _ _ _ _ _ => (pg_name sc__law_steps.nd rfl (by first | exact Or.inl rfl | exact Or.inr rfl))) (fun _ _ _ _ _ => (dts_one (dt_cmp (inX_ok hr.units) (de_tup (da_cons (de_ix ix_ok (de_var 5) (de_un neg_ok de_int)) (da_cons (de_var 9) da_nil))) (de_var 1)))) (fun _ _ _ _ _ => (de_var 9)))
    (dss_one (ds_app [3, 4, 7, 8] rfl (de_callB (minL_ok rfl) rfl b_min bt_min (da_cons (de_lc (M' := [3, 4, 7, 9]) (own := [("_law_sign", 9)]) rfl sc__law_steps.nd (di_it (de_var 8)) (blkOk_by (by kernel_rfl)) rfl (by decide) (fun _ _ _ _ _ => (pg_name sc__law_steps.nd rfl (by first | exact Or.inl rfl | exact Or.inr rfl))) (fun _ _ _ _ _ => (dts_one (dt_cmp (eq_ok hr.units) (de_ix ix_ok (de_ix ix_ok (de_var 4) (de_var 9)) (de_var 3)) (de_var 7)))) (fun _ _ _ _ _ => (de_var 9))) da_nil)))))))
    (dss_one (ds_ret [3, 5] (de_op add_ok (de_var 5) (de_lst (da_cons (de_var 3) da_nil)))))))
/-! ### _law_ring -/
theorem sc__law_ring : FnScope ["_law_many", "_law_pairs", "_law_away", "_law_sizes", "_law_sign"] ["_law_many", "_law_pairs"] (defScope (top 24)) := ⟨rfl, rfl, rfl, by decide +kernel, rfl, by decide +kernel, by decide +kernel⟩
theorem ok__law_ring {P : Program} {w : World} {K : PySem.W.Frag} {mg : Str → Option Value} {base : Heap} {T : List (Addr × Str)} (G : FnP K "_law_ring" (top 24)) (m : mg "_law_ring" = some (.ref (He.ga K "_law_ring"))) (b_min : mg "min" = none) (b_range : mg "range" = none) (w__law_steps : FnS P w K mg base T "_law_steps" ["_law_many", "_law_pairs", "_law_one", "_law_other", "_law_away"] 1 F__law_steps) (w__law_far_apart : FnS P w K mg base T "_law_far_apart" ["_law_many", "_law_pairs"] 1 F__law_far_apart) : FnS P w K mg base T "_law_ring" ["_law_many", "_law_pairs"] 2 F__law_ring :=
  FnS.mk1 (k := 1) G m sc__law_ring (fun _ _ _ _ _ _ us hl => match us, hl with | [_, _], _ => rfl) rfl fun cdv A outer s0 H E hr =>
    (dss_cons (ds_set [0, 1] sc__law_ring.nd rfl (by first | exact Or.inl rfl | exact Or.inr rfl) (de_fn w__law_far_apart (hr.mono (by omega)) takesE (da_cons (de_var 0) (da_cons (de_var 1) da_nil))))
    (dss_cons (ds_setLc (M := [0, 2]) (M' := [2, 4]) (own := [("_law_sign", 4)]) rfl sc__law_ring.nd rfl rfl rfl (di_rng1 rfl b_range (da_cons (de_var 0) da_nil)) (blkOk_by (by kernel_rfl)) rfl (by decide) (fun _ _ _ _ _ => (pg_name sc__law_ring.nd rfl (by first | exact Or.inl rfl | exact Or.inr rfl))) (fun _ _ _ _ _ => dts_nil) (fun _ _ _ _ _ => (de_ix ix_ok (de_ix ix_ok (de_var 2) (de_var 4)) (de_var 4))))
    (dss_cons (ds_if [3] (dt_cmp gt_ok (de_callB (minL_ok rfl) rfl b_min bt_min (da_cons (de_var 3) da_nil)) de_int) (dss_one (ds_ret [] de_non)) dss_nil)
    (dss_cons (ds_set [3] sc__law_ring.nd rfl (by first | exact Or.inl rfl | exact Or.inr rfl) (de_index (de_var 3) (de_callB (minL_ok rfl) rfl b_min bt_min (da_cons (de_var 3) da_nil))))
    (dss_one (ds_ret [0, 1, 2, 4] (de_sl (de_fn w__law_steps (hr.mono (by omega)) takesE (da_cons (de_var 0) (da_cons (de_var 1) (da_cons (de_var 4) (da_cons (de_var 4) (da_cons (de_var 2) da_nil)))))) dp_none (dp_some (de_un neg_ok de_int)))))))))
/-! ### law -/
theorem sc_law : FnScope ["_law_script", "_law_k", "_law_many", "_law_pairs", "_law_handed", "_law_due", "_law_turn", "_law_found", "_law_pair"] ["_law_script"] (defScope (top 25)) := ⟨rfl, rfl, rfl, by decide +kernel, rfl, by decide +kernel, by decide +kernel⟩
def b1_law : De.Env → Out :=
    (seqS (asgS [2, 4] 7 (fnA F_ring [] (consA (vr 2) (consA (vr 4) nilA))))
    (seqS (ifS (orB (notB (tst (fnA F__law_same [] (consA (vr 7) (consA (vr 5) nilA))))) (tst (op2 dNe (vr 4) (vr 3)))) (retS (cB false)) nilS)
    (ifS (tst (op2 dNotN (vr 7) cN)) (mutS [] 7 (cI 0) gApp) nilS)))
def e2_law : De.Env → Res D :=
    (vr 8)
def t3_law : De.Env → Res Bool :=
    (tst (op2 dNe (op2 dIx (vr 8) (cI 0)) (op2 dIx (vr 8) (cI 1))))
def b4_law : De.Env → Out :=
    (seqS (asgS [0, 1] 2 (op2 dAdd (cI 1) (op2 dIx (fnA F__law_draw [] (consA (fnA F__law_cell [] (consA (vr 0) (consA (op2 dMul (cI 2) (vr 1)) nilA))) (consA (lstA (consA (cI 9) nilA)) nilA))) (cI 0))))
    (seqS (asgS [0, 1, 2] 3 (fnA F__law_pairs_cell [] (consA (vr 0) (consA (op2 dAdd (op2 dMul (cI 2) (vr 1)) (cI 1)) (consA (vr 2) nilA)))))
    (seqS (ifS (andB (tst (op2 dEq (op2 dMod (vr 1) (cI 2)) (cI 1))) (tst (op2 dNe (vr 3) (lstA nilA)))) (asgS [1, 3] 3 (op2 dAdd (op2 dAdd (vr 3) (op2 dMul (lstA (consA (op1 dRevP (op2 dIx (vr 3) (op2 dFdv (calA (g1 dLen) (consA (vr 3) nilA)) (cI 2)))) nilA)) (op2 dFdv (vr 1) (cI 2)))) (op2 dMul (lstA (consA (tupA (consA (op2 dIx (op2 dIx (vr 3) (op1 dNeg (cI 1))) (cI 1)) (consA (op2 dIx (op2 dIx (vr 3) (cI 0)) (cI 0)) nilA))) nilA)) (op2 dFdv (vr 1) (cI 2))))) nilS)
    (seqS (asgS [3] 3 (lcA (itm itD (vr 3)) (.one 8) t3_law e2_law))
    (seqS (asgS [3] 4 (calA (g1 dLst) (consA (vr 3) nilA)))
    (seqS (asgS [2, 3] 5 (fnA F__law_ring [] (consA (vr 2) (consA (vr 3) nilA))))
    (forS [] (rngA (consA (cI 2) nilA)) (.one 6) b1_law)))))))
def s_law : De.Env → Out :=
    (seqS (forS [] (rngA (consA (cI 4) nilA)) (.one 1) b4_law)
    (retS (cB true)))
def F_law : List D → Res D := runF s_law 9
theorem ok_law {P : Program} {w : World} {K : PySem.W.Frag} {mg : Str → Option Value} {base : Heap} {T : List (Addr × Str)} (G : FnP K "law" (top 25)) (m : mg "law" = some (.ref (He.ga K "law"))) (b_range : mg "range" = none) (b_list : mg "list" = none) (b_len : mg "len" = none) (w__law_same : FnS P w K mg base T "_law_same" ["_law_found", "_law_due"] 10 F__law_same) (w_ring : FnS P w K mg base T "ring" ["many", "pairs"] 5 F_ring) (w__law_ring : FnS P w K mg base T "_law_ring" ["_law_many", "_law_pairs"] 2 F__law_ring) (w__law_pairs_cell : FnS P w K mg base T "_law_pairs_cell" ["_law_script", "_law_k", "_law_many"] 3 F__law_pairs_cell) (w__law_cell : FnS P w K mg base T "_law_cell" ["_law_script", "_law_k"] 1 F__law_cell) (w__law_draw : FnS P w K mg base T "_law_draw" ["_law_cell_here", "_law_limits"] 2 F__law_draw) : FnS P w K mg base T "law" ["_law_script"] 11 F_law :=
  FnS.mk1 (k := 10) G m sc_law (fun _ _ _ _ _ _ us hl => match us, hl with | [_], _ => rfl) rfl fun cdv A outer s0 H E hr =>
    (dss_cons (ds_for [] passesE rfl (di_rng1 rfl b_range (da_cons de_int da_nil)) (pg_name sc_law.nd rfl (by first | exact Or.inl rfl | exact Or.inr rfl)) (dss_cons (ds_set [0, 1] sc_law.nd rfl (by first | exact Or.inl rfl | exact Or.inr rfl) (de_op add_ok de_int (de_ix ix_ok (de_fn w__law_draw (hr.mono (by omega)) takesE (da_cons (de_fn w__law_cell (hr.mono (by omega)) takesE (da_cons (de_var 0) (da_cons (de_op mul_ok de_int (de_var 1)) da_nil))) (da_cons (de_lst (da_cons de_int da_nil)) da_nil))) de_int)))
    (dss_cons (ds_set [0, 1, 2] sc_law.nd rfl (by first | exact Or.inl rfl | exact Or.inr rfl) (de_fn w__law_pairs_cell (hr.mono (by omega)) takesE (da_cons (de_var 0) (da_cons (de_op add_ok (de_op mul_ok de_int (de_var 1)) de_int) (da_cons (de_var 2) da_nil)))))
    (dss_cons (ds_if [1, 3] (dt_of (dt_and (dt_cmp (eq_ok hr.units) (de_op mod_ok (de_var 1) de_int) de_int) (dt_and1 (dt_cmp (ne_ok hr.units) (de_var 3) (de_lst da_nil))))) (dss_one (ds_set [1, 3] sc_law.nd rfl (by first | exact Or.inl rfl | exact Or.inr rfl) (de_op add_ok (de_op add_ok (de_var 3) (de_op mul_ok (de_lst (da_cons (de_back (de_ix ix_ok (de_var 3) (de_op fdv_ok (de_callB len_ok rfl b_len bt_len (da_cons (de_var 3) da_nil)) de_int))) da_nil)) (de_op fdv_ok (de_var 1) de_int))) (de_op mul_ok (de_lst (da_cons (de_tup (da_cons (de_ix ix_ok (de_ix ix_ok (de_var 3) (de_un neg_ok de_int)) de_int) (da_cons (de_ix ix_ok (de_ix ix_ok (de_var 3) de_int) de_int) da_nil))) da_nil)) (de_op fdv_ok (de_var 1) de_int))))) dss_nil)
    (dss_cons (ds_setLc (M := [3]) (M' := [8]) (own := [("_law_pair", 8)]) rfl sc_law.nd rfl rfl rfl (di_it (de_var 3)) (blkOk_by (by kernel_rfl)) rfl (by decide) (fun _ _ _ _ _ => (pg_name sc_law.nd rfl (by first | exact Or.inl rfl | exact Or.inr rfl))) (fun _ _ _ _ _ => (dts_one (dt_cmp (ne_ok hr.units) (de_ix ix_ok (de_var 8) de_int) (de_ix ix_ok (de_var 8) de_int)))) (fun _ _ _ _ _ => (de_var 8)))
    (dss_cons (ds_set [3] sc_law.nd rfl (by first | exact Or.inl rfl | exact Or.inr rfl) (de_callTy lst_ok rfl b_list bt_list (da_cons (de_var 3) da_nil)))
    (dss_cons (ds_set [2, 3] sc_law.nd rfl (by first | exact Or.inl rfl | exact Or.inr rfl) (de_fn w__law_ring (hr.mono (by omega)) takesE (da_cons (de_var 2) (da_cons (de_var 3) da_nil))))
    (dss_one (ds_for [] passesE rfl (di_rng1 rfl b_range (da_cons de_int da_nil)) (pg_name sc_law.nd rfl (by first | exact Or.inl rfl | exact Or.inr rfl)) (dss_cons (ds_set [2, 4] sc_law.nd rfl (by first | exact Or.inl rfl | exact Or.inr rfl) (de_fn w_ring (hr.mono (by omega)) takesE (da_cons (de_var 2) (da_cons (de_var 4) da_nil))))
    (dss_cons (ds_if [3, 4, 5, 7] (dt_of (dt_or (dt_not (dt_val (de_fn w__law_same (hr.mono (by omega)) takesE (da_cons (de_var 7) (da_cons (de_var 5) da_nil))))) (dt_or1 (dt_cmp (ne_ok hr.units) (de_var 4) (de_var 3))))) (dss_one (ds_ret [] de_bl)) dss_nil)
    (dss_one (ds_if [7] (dt_cmp notN_ok (de_var 7) de_non) (dss_one (ds_app [] rfl de_int)) dss_nil)))))))))))))
    (dss_one (ds_ret [] de_bl)))
end K08
set_option Elab.async false
set_option linter.all false
set_option maxRecDepth 100000
namespace Cm
open PySem De

theorem small_of {i : Int} (h : -18446744073709551616 < i) (h2 : i < 18446744073709551616) : De.small64 i = true := by
  unfold De.small64
  rw [decide_eq_true h, decide_eq_true h2]; rfl
theorem szOk_of {n : Nat} (h : n ≤ 16777216) : szOk n = true := decide_eq_true h
theorem atI_nat' {xs : List D} {j : Nat} {v : D} (h : xs[j]? = some v) : L2.atI xs (j : Int) = some v := L2.atI_nat h
theorem mixed_ok (a k : Int) (ha : De.small64 a = true) : F__law_mixed [.int a, .int k] = .ok (.int ((a * a % 2147483647 * (a % 65521 + 3) + k * 7919 + 131) % 2147483647)) := by
  have h1 : De.small64 (a % 65521 + 3) = true := small_of (by omega) (by omega)
  have h2 : De.small64 7919 = true := by decide
  have h3 : (0 : Int) < 2147483647 := by decide
  have h4 : (0 : Int) < 65521 := by decide
  simp only [runF, env0, endF, seqS, asgS, retS, ifS, nilS, brkS, cntS, drpS, mutS, forS, unpS, parS, keepM, frzM, gApp, op2, op1, vr, cI, cS, cB, cN, cT, De.get, Res.bind, lift, tst, toB, andB, orB, notB, andV, orV, notV, ifV, chn, consA, nilA, lstA, tupA, calA, fnA, strM, tgetA, lcA, itm, rngA, prtN, prtE, prtI, slA, dI, g1, g2, frz, frz_lst, frz_tup, frz_rol, frzs, frzs_ints, frzs_strs, frzs_app, frzs_len, af, af.afs, afs_ints, afs_strs, frzs_bls, dAll_map, dAny_map, all_tt, List.map_cons, List.map_nil, List.length_cons, List.length_nil, List.cons_append, List.nil_append, List.replicate, List.getElem?_cons_zero, List.getElem?_cons_succ, List.set_cons_zero, List.set_cons_succ, List.set, if_true, if_false, Bool.or_true, Bool.true_or, Bool.or_false, Bool.false_or, Bool.and_true, Bool.true_and, Bool.and_false, Bool.false_and, Bool.not_true, Bool.not_false, Option.map_some, Option.map_none, Option.bind_some, Option.bind_none, List.length_map, reduceIte, itemsL, itemsT, Option.map, Option.bind, Tg.bind, setN, List.append_nil, Nat.sub_zero, Nat.zero_add, ite_true, ite_false, Nat.zero_le, Nat.reduceAdd, Nat.reduceLeDiff, Nat.reduceSub, Nat.reduceMul, Nat.reduceEqDiff, Int.reduceLT, Int.reduceLE, Bool.false_eq_true, reduceCtorEq, and_true, true_and, and_self, F__law_mixed, s__law_mixed, dMul, dMod, dAdd, ha, h1, h2, h3, h4]
/-- some cell of a script -/
theorem cell_ok (ns : List Int) (k : Nat) (hl : ns.length ≤ 16777216) (hk : k < 1000000) : ∃ c, F__law_cell [.rol (ns.map .int), .int k] = .ok (.int c) := by
  have h2 : De.small64 7919 = true := by decide
  have h3 : De.small64 104729 = true := by decide
  by_cases h : k < ns.length
  · have h1 : ((k : Int) < (ns.length : Int)) := by omega
    have h4 : L2.atI (ns.map D.int) (k : Int) = some (.int ns[k]) := atI_nat' (by rw [List.getElem?_map, List.getElem?_eq_getElem h]; rfl)
    refine ⟨ns[k], ?_⟩
    simp only [runF, env0, endF, seqS, asgS, retS, ifS, nilS, brkS, cntS, drpS, mutS, forS, unpS, parS, keepM, frzM, gApp, op2, op1, vr, cI, cS, cB, cN, cT, De.get, Res.bind, lift, tst, toB, andB, orB, notB, andV, orV, notV, ifV, chn, consA, nilA, lstA, tupA, calA, fnA, strM, tgetA, lcA, itm, rngA, prtN, prtE, prtI, slA, dI, g1, g2, frz, frz_lst, frz_tup, frz_rol, frzs, frzs_ints, frzs_strs, frzs_app, frzs_len, af, af.afs, afs_ints, afs_strs, frzs_bls, dAll_map, dAny_map, all_tt, List.map_cons, List.map_nil, List.length_cons, List.length_nil, List.cons_append, List.nil_append, List.replicate, List.getElem?_cons_zero, List.getElem?_cons_succ, List.set_cons_zero, List.set_cons_succ, List.set, if_true, if_false, Bool.or_true, Bool.true_or, Bool.or_false, Bool.false_or, Bool.and_true, Bool.true_and, Bool.and_false, Bool.false_and, Bool.not_true, Bool.not_false, Option.map_some, Option.map_none, Option.bind_some, Option.bind_none, List.length_map, reduceIte, itemsL, itemsT, Option.map, Option.bind, Tg.bind, setN, List.append_nil, Nat.sub_zero, Nat.zero_add, ite_true, ite_false, Nat.zero_le, Nat.reduceAdd, Nat.reduceLeDiff, Nat.reduceSub, Nat.reduceMul, Nat.reduceEqDiff, Int.reduceLT, Int.reduceLE, Bool.false_eq_true, reduceCtorEq, and_true, true_and, and_self, F__law_cell, s__law_cell, dLt, dLen, dIx, seqOf, h1, decide_true, h4]
  · have h1 : ¬ ((k : Int) < (ns.length : Int)) := by omega
    by_cases h0 : ns.length = 0
    · have h5 : (((ns.length : Nat) : Int) = 0) = True := eq_true (by omega)
      refine ⟨7919 * k, ?_⟩
      simp only [runF, env0, endF, seqS, asgS, retS, ifS, nilS, brkS, cntS, drpS, mutS, forS, unpS, parS, keepM, frzM, gApp, op2, op1, vr, cI, cS, cB, cN, cT, De.get, Res.bind, lift, tst, toB, andB, orB, notB, andV, orV, notV, ifV, chn, consA, nilA, lstA, tupA, calA, fnA, strM, tgetA, lcA, itm, rngA, prtN, prtE, prtI, slA, dI, g1, g2, frz, frz_lst, frz_tup, frz_rol, frzs, frzs_ints, frzs_strs, frzs_app, frzs_len, af, af.afs, afs_ints, afs_strs, frzs_bls, dAll_map, dAny_map, all_tt, List.map_cons, List.map_nil, List.length_cons, List.length_nil, List.cons_append, List.nil_append, List.replicate, List.getElem?_cons_zero, List.getElem?_cons_succ, List.set_cons_zero, List.set_cons_succ, List.set, if_true, if_false, Bool.or_true, Bool.true_or, Bool.or_false, Bool.false_or, Bool.and_true, Bool.true_and, Bool.and_false, Bool.false_and, Bool.not_true, Bool.not_false, Option.map_some, Option.map_none, Option.bind_some, Option.bind_none, List.length_map, reduceIte, itemsL, itemsT, Option.map, Option.bind, Tg.bind, setN, List.append_nil, Nat.sub_zero, Nat.zero_add, ite_true, ite_false, Nat.zero_le, Nat.reduceAdd, Nat.reduceLeDiff, Nat.reduceSub, Nat.reduceMul, Nat.reduceEqDiff, Int.reduceLT, Int.reduceLE, Bool.false_eq_true, reduceCtorEq, and_true, true_and, and_self, F__law_cell, s__law_cell, dLt, dLen, dIx, dEq, dMul, h2, seqOf, h1, decide_false, h5, decide_true]
    · have h6 : 0 < (ns.length : Int) := by omega
      have h7 : ¬ ((ns.length : Int) = 0) := by omega
      have hm : k % ns.length < ns.length := Nat.mod_lt _ (by omega)
      have h4 : L2.atI (ns.map D.int) ((k : Int) % (ns.length : Int)) = some (.int ns[k % ns.length]) := by
        rw [← Int.natCast_emod]
        exact atI_nat' (by rw [List.getElem?_map, List.getElem?_eq_getElem hm]; rfl)
      refine ⟨ns[k % ns.length] + 104729 * k, ?_⟩
      simp only [runF, env0, endF, seqS, asgS, retS, ifS, nilS, brkS, cntS, drpS, mutS, forS, unpS, parS, keepM, frzM, gApp, op2, op1, vr, cI, cS, cB, cN, cT, De.get, Res.bind, lift, tst, toB, andB, orB, notB, andV, orV, notV, ifV, chn, consA, nilA, lstA, tupA, calA, fnA, strM, tgetA, lcA, itm, rngA, prtN, prtE, prtI, slA, dI, g1, g2, frz, frz_lst, frz_tup, frz_rol, frzs, frzs_ints, frzs_strs, frzs_app, frzs_len, af, af.afs, afs_ints, afs_strs, frzs_bls, dAll_map, dAny_map, all_tt, List.map_cons, List.map_nil, List.length_cons, List.length_nil, List.cons_append, List.nil_append, List.replicate, List.getElem?_cons_zero, List.getElem?_cons_succ, List.set_cons_zero, List.set_cons_succ, List.set, if_true, if_false, Bool.or_true, Bool.true_or, Bool.or_false, Bool.false_or, Bool.and_true, Bool.true_and, Bool.and_false, Bool.false_and, Bool.not_true, Bool.not_false, Option.map_some, Option.map_none, Option.bind_some, Option.bind_none, List.length_map, reduceIte, itemsL, itemsT, Option.map, Option.bind, Tg.bind, setN, List.append_nil, Nat.sub_zero, Nat.zero_add, ite_true, ite_false, Nat.zero_le, Nat.reduceAdd, Nat.reduceLeDiff, Nat.reduceSub, Nat.reduceMul, Nat.reduceEqDiff, Int.reduceLT, Int.reduceLE, Bool.false_eq_true, reduceCtorEq, and_true, true_and, and_self, F__law_cell, s__law_cell, dLt, dLen, dIx, dEq, dMul, dMod, dAdd, h2, h3, seqOf, h1, h6, h7, h4, decide_false, decide_true]
/-- drawn numbers under their limits -/
def Bd (ds ls : List Int) : Prop := ds.length = ls.length ∧ ∀ (i : Nat) d l, ds[i]? = some d → ls[i]? = some l → 0 ≤ d ∧ d < l
theorem Bd.nil : Bd [] [] := ⟨rfl, fun i d l h _ => absurd (show (none : Option Int) = some d from h) (by simp)⟩
theorem Bd.snoc {ds ls : List Int} {d l : Int} (h : Bd ds ls) (h1 : 0 ≤ d) (h2 : d < l) : Bd (ds ++ [d]) (ls ++ [l]) := by
  refine ⟨by rw [List.length_append, List.length_append, h.1]; rfl, fun i a b ha hb => ?_⟩
  by_cases hi : i < ds.length
  · rw [List.getElem?_append_left hi] at ha
    rw [List.getElem?_append_left (by rw [← h.1]; exact hi)] at hb
    exact h.2 i a b ha hb
  · rw [List.getElem?_append_right (by omega)] at ha
    rw [List.getElem?_append_right (by rw [← h.1]; omega), ← h.1] at hb
    cases hk : i - ds.length with
    | zero =>
      rw [hk] at ha hb
      cases ha; cases hb
      exact ⟨h1, h2⟩
    | succ n => rw [hk] at ha; simp at ha
theorem draw_ok (c : Int) (ls : List Int) (hl : ∀ l ∈ ls, 0 < l ∧ l < 1073741824) (hn : ls.length ≤ 1000000) : ∃ ds, F__law_draw [.int c, .lst false (ls.map .int)] = .ok (.lst false (ds.map .int)) ∧ Bd ds ls := by
  let I : List D → De.Env → Prop := fun pre ρ => ∃ ps r s ds x, pre = ps.map D.int ∧ ρ = [some (.int c), some (.lst false (ls.map .int)), some (.int r), some (.int s), some (.lst true (ds.map .int)), x] ∧ 0 ≤ r ∧ 0 ≤ s ∧ s < 2147483647 ∧ Bd ds ps
  have e18 : ((10 : Int) ^ (18 : Int).toNat) = 1000000000000000000 := by decide
  have h3 : (0 : Int) < 2147483647 := by decide
  have h2 : De.small64 2654435 = true := by decide
  have h61 : (0 : Int) < 61 ∧ (61 : Int) < 1073741824 := by decide
  have h18 : (0 : Int) ≤ 18 ∧ (18 : Int) ≤ 1000000 ∧ (10 : Int).natAbs < 18446744073709551616 := by decide
  have loop : ∀ (r s : Int), 0 ≤ r → 0 ≤ s → s < 2147483647 → ∃ r' s' ds x, forGo (.one 5) b1__law_draw (ls.map D.int) [some (.int c), some (.lst false (ls.map .int)), some (.int r), some (.int s), some (.lst true []), none] = .nx [some (.int c), some (.lst false (ls.map .int)), some (.int r'), some (.int s'), some (.lst true (ds.map .int)), x] ∧ Bd ds ls := by
    intro r s hr hs hs2
    have key : ∃ ρ', forGo (.one 5) b1__law_draw (ls.map D.int) [some (.int c), some (.lst false (ls.map .int)), some (.int r), some (.int s), some (.lst true []), none] = .nx ρ' ∧ I (ls.map D.int) ρ' := by
      refine forGo_all I (ls.map D.int) ⟨[], r, s, [], none, rfl, rfl, hr, hs, hs2, .nil⟩ ?_
      rintro pre d post ρ ⟨ps, r, s, ds, x, rfl, rfl, hr, hs, hs2, hb⟩ hall
      obtain ⟨l, hlm, rfl⟩ := List.mem_map.mp (show d ∈ ls.map D.int by rw [hall]; simp)
      obtain ⟨l0, l1⟩ := hl l hlm
      have hz : ds.length < 16777216 := by
        have := congrArg List.length hall
        rw [List.length_map, List.length_append, List.length_map, List.length_cons] at this
        have := hb.1
        omega
      by_cases hr0 : 0 < r
      · refine ⟨_, [some (.int c), some (.lst false (ls.map .int)), some (.int (r / l)), some (.int s), some (.lst true ((ds ++ [r % l]).map .int)), some (.int l)], rfl, .inl ?_, ps ++ [l], r / l, s, ds ++ [r % l], _, by simp, rfl, Int.ediv_nonneg hr (by omega), hs, hs2, hb.snoc (Int.emod_nonneg _ (by omega)) (Int.emod_lt_of_pos _ l0)⟩
        have hl2 : 0 < l ∧ l < 1073741824 := ⟨l0, l1⟩
        simp only [runF, env0, endF, seqS, asgS, retS, ifS, nilS, brkS, cntS, drpS, mutS, forS, unpS, parS, keepM, frzM, gApp, op2, op1, vr, cI, cS, cB, cN, cT, De.get, Res.bind, lift, tst, toB, andB, orB, notB, andV, orV, notV, ifV, chn, consA, nilA, lstA, tupA, calA, fnA, strM, tgetA, lcA, itm, rngA, prtN, prtE, prtI, slA, dI, g1, g2, frz, frz_lst, frz_tup, frz_rol, frzs, frzs_ints, frzs_strs, frzs_app, frzs_len, af, af.afs, afs_ints, afs_strs, frzs_bls, dAll_map, dAny_map, all_tt, List.map_cons, List.map_nil, List.length_cons, List.length_nil, List.cons_append, List.nil_append, List.replicate, List.getElem?_cons_zero, List.getElem?_cons_succ, List.set_cons_zero, List.set_cons_succ, List.set, if_true, if_false, Bool.or_true, Bool.true_or, Bool.or_false, Bool.false_or, Bool.and_true, Bool.true_and, Bool.and_false, Bool.false_and, Bool.not_true, Bool.not_false, Option.map_some, Option.map_none, Option.bind_some, Option.bind_none, List.length_map, reduceIte, itemsL, itemsT, Option.map, Option.bind, Tg.bind, setN, List.append_nil, Nat.sub_zero, Nat.zero_add, ite_true, ite_false, Nat.zero_le, Nat.reduceAdd, Nat.reduceLeDiff, Nat.reduceSub, Nat.reduceMul, Nat.reduceEqDiff, Int.reduceLT, Int.reduceLE, Bool.false_eq_true, reduceCtorEq, and_true, true_and, and_self, b1__law_draw, dGt, hr0, decide_true, dMod, l0, l1, dFdv, hz, List.map_append, hl2, and_self]
      · have hsm : De.small64 s = true := small_of (by omega) (by omega)
        have hmx := mixed_ok s ds.length hsm
        refine ⟨_, [some (.int c), some (.lst false (ls.map .int)), some (.int r), some (.int ((s * s % 2147483647 * (s % 65521 + 3) + ds.length * 7919 + 131) % 2147483647)), some (.lst true ((ds ++ [(s * s % 2147483647 * (s % 65521 + 3) + ds.length * 7919 + 131) % 2147483647 / 61 % l]).map .int)), some (.int l)], rfl, .inl ?_, ps ++ [l], r, _, ds ++ [(s * s % 2147483647 * (s % 65521 + 3) + ds.length * 7919 + 131) % 2147483647 / 61 % l], _, by simp, rfl, hr, Int.emod_nonneg _ (by decide), Int.emod_lt_of_pos _ (by decide), hb.snoc (Int.emod_nonneg _ (by omega)) (Int.emod_lt_of_pos _ l0)⟩
        simp only [runF, env0, endF, seqS, asgS, retS, ifS, nilS, brkS, cntS, drpS, mutS, forS, unpS, parS, keepM, frzM, gApp, op2, op1, vr, cI, cS, cB, cN, cT, De.get, Res.bind, lift, tst, toB, andB, orB, notB, andV, orV, notV, ifV, chn, consA, nilA, lstA, tupA, calA, fnA, strM, tgetA, lcA, itm, rngA, prtN, prtE, prtI, slA, dI, g1, g2, frz, frz_lst, frz_tup, frz_rol, frzs, frzs_ints, frzs_strs, frzs_app, frzs_len, af, af.afs, afs_ints, afs_strs, frzs_bls, dAll_map, dAny_map, all_tt, List.map_cons, List.map_nil, List.length_cons, List.length_nil, List.cons_append, List.nil_append, List.replicate, List.getElem?_cons_zero, List.getElem?_cons_succ, List.set_cons_zero, List.set_cons_succ, List.set, if_true, if_false, Bool.or_true, Bool.true_or, Bool.or_false, Bool.false_or, Bool.and_true, Bool.true_and, Bool.and_false, Bool.false_and, Bool.not_true, Bool.not_false, Option.map_some, Option.map_none, Option.bind_some, Option.bind_none, List.length_map, reduceIte, itemsL, itemsT, Option.map, Option.bind, Tg.bind, setN, List.append_nil, Nat.sub_zero, Nat.zero_add, ite_true, ite_false, Nat.zero_le, Nat.reduceAdd, Nat.reduceLeDiff, Nat.reduceSub, Nat.reduceMul, Nat.reduceEqDiff, Int.reduceLT, Int.reduceLE, Bool.false_eq_true, reduceCtorEq, and_true, true_and, and_self, b1__law_draw, dGt, hr0, decide_false, dMod, l0, l1, dFdv, hz, List.map_append, dLen, hmx, h61, and_self]
    obtain ⟨ρ', e, ps, r', s', ds, x, e1, rfl, _, _, _, hb⟩ := key
    have e2 : ls = ps := by
      have := congrArg intsD e1
      have back : ∀ l : List Int, intsD (l.map D.int) = some l := fun l => by
        induction l with
        | nil => rfl
        | cons a l ih => show (intsD (l.map D.int)).map (a :: ·) = _; rw [ih]; rfl
      rw [back, back] at this
      exact Option.some.inj this
    subst e2
    exact ⟨r', s', ds, x, e, hb⟩
  by_cases hc : 1000000000000000000 ≤ c
  · obtain ⟨r', s', ds, x, e, hb⟩ := loop c (((if c < 0 then -c else c) * 2654435 + 40503) % 2147483647) (by omega) (Int.emod_nonneg _ (by decide)) (Int.emod_lt_of_pos _ (by decide))
    refine ⟨ds, ?_, hb⟩
    simp only [runF, env0, endF, seqS, asgS, retS, ifS, nilS, brkS, cntS, drpS, mutS, forS, unpS, parS, keepM, frzM, gApp, op2, op1, vr, cI, cS, cB, cN, cT, De.get, Res.bind, lift, tst, toB, andB, orB, notB, andV, orV, notV, ifV, chn, consA, nilA, lstA, tupA, calA, fnA, strM, tgetA, lcA, itm, rngA, prtN, prtE, prtI, slA, dI, g1, g2, frz, frz_lst, frz_tup, frz_rol, frzs, frzs_ints, frzs_strs, frzs_app, frzs_len, af, af.afs, afs_ints, afs_strs, frzs_bls, dAll_map, dAny_map, all_tt, List.map_cons, List.map_nil, List.length_cons, List.length_nil, List.cons_append, List.nil_append, List.replicate, List.getElem?_cons_zero, List.getElem?_cons_succ, List.set_cons_zero, List.set_cons_succ, List.set, if_true, if_false, Bool.or_true, Bool.true_or, Bool.or_false, Bool.false_or, Bool.and_true, Bool.true_and, Bool.and_false, Bool.false_and, Bool.not_true, Bool.not_false, Option.map_some, Option.map_none, Option.bind_some, Option.bind_none, List.length_map, reduceIte, itemsL, itemsT, Option.map, Option.bind, Tg.bind, setN, List.append_nil, Nat.sub_zero, Nat.zero_add, ite_true, ite_false, Nat.zero_le, Nat.reduceAdd, Nat.reduceLeDiff, Nat.reduceSub, Nat.reduceMul, Nat.reduceEqDiff, Int.reduceLT, Int.reduceLE, Bool.false_eq_true, reduceCtorEq, and_true, true_and, and_self, F__law_draw, s__law_draw, dGe, dPow, h18, and_self, e18, hc, decide_true, dAbs, dMul, h2, dAdd, dMod, h3, itD, e]
  · obtain ⟨r', s', ds, x, e, hb⟩ := loop 0 (((if c < 0 then -c else c) * 2654435 + 40503) % 2147483647) (by omega) (Int.emod_nonneg _ (by decide)) (Int.emod_lt_of_pos _ (by decide))
    refine ⟨ds, ?_, hb⟩
    simp only [runF, env0, endF, seqS, asgS, retS, ifS, nilS, brkS, cntS, drpS, mutS, forS, unpS, parS, keepM, frzM, gApp, op2, op1, vr, cI, cS, cB, cN, cT, De.get, Res.bind, lift, tst, toB, andB, orB, notB, andV, orV, notV, ifV, chn, consA, nilA, lstA, tupA, calA, fnA, strM, tgetA, lcA, itm, rngA, prtN, prtE, prtI, slA, dI, g1, g2, frz, frz_lst, frz_tup, frz_rol, frzs, frzs_ints, frzs_strs, frzs_app, frzs_len, af, af.afs, afs_ints, afs_strs, frzs_bls, dAll_map, dAny_map, all_tt, List.map_cons, List.map_nil, List.length_cons, List.length_nil, List.cons_append, List.nil_append, List.replicate, List.getElem?_cons_zero, List.getElem?_cons_succ, List.set_cons_zero, List.set_cons_succ, List.set, if_true, if_false, Bool.or_true, Bool.true_or, Bool.or_false, Bool.false_or, Bool.and_true, Bool.true_and, Bool.and_false, Bool.false_and, Bool.not_true, Bool.not_false, Option.map_some, Option.map_none, Option.bind_some, Option.bind_none, List.length_map, reduceIte, itemsL, itemsT, Option.map, Option.bind, Tg.bind, setN, List.append_nil, Nat.sub_zero, Nat.zero_add, ite_true, ite_false, Nat.zero_le, Nat.reduceAdd, Nat.reduceLeDiff, Nat.reduceSub, Nat.reduceMul, Nat.reduceEqDiff, Int.reduceLT, Int.reduceLE, Bool.false_eq_true, reduceCtorEq, and_true, true_and, and_self, F__law_draw, s__law_draw, dGe, dPow, h18, and_self, e18, hc, decide_false, dAbs, dMul, h2, dAdd, dMod, h3, itD, e]
end Cm
set_option Elab.async false
set_option linter.all false
namespace Gr
/-! ### ways along pairs; the best way: the shortest, the first of these in the order of lists -/
abbrev Ps := List (Int × Int)
inductive Way (ps : Ps) (s : Int) : List Int → Int → Prop
  | one : Way ps s [s] s
  | snoc {p : List Int} {u v : Int} : Way ps s p u → (u, v) ∈ ps → Way ps s (p ++ [v]) v
def lle : List Int → List Int → Prop
  | [], _ => True
  | _ :: _, [] => False
  | a :: as, b :: bs => a < b ∨ (a = b ∧ lle as bs)
theorem lle_refl : ∀ p : List Int, lle p p
  | [] => trivial
  | a :: p => .inr ⟨rfl, lle_refl p⟩
theorem lle_trans : ∀ {p q r : List Int}, lle p q → lle q r → lle p r
  | [], _, _, _, _ => trivial
  | a :: p, [], _, h, _ => h.elim
  | a :: p, b :: q, [], _, h => h.elim
  | a :: p, b :: q, c :: r, h1, h2 => by
    rcases h1 with h1 | ⟨h1, h3⟩
    · rcases h2 with h2 | ⟨h2, h4⟩
      · exact .inl (by omega)
      · exact .inl (by omega)
    · rcases h2 with h2 | ⟨h2, h4⟩
      · exact .inl (by omega)
      · exact .inr ⟨by omega, lle_trans h3 h4⟩
theorem lle_total : ∀ p q : List Int, lle p q ∨ lle q p
  | [], _ => .inl trivial
  | a :: p, [] => .inr trivial
  | a :: p, b :: q => by
    rcases Int.lt_trichotomy a b with h | h | h
    · exact .inl (.inl h)
    · rcases lle_total p q with z | z
      · exact .inl (.inr ⟨h, z⟩)
      · exact .inr (.inr ⟨h.symm, z⟩)
    · exact .inr (.inl h)
theorem lle_anti : ∀ {p q : List Int}, lle p q → lle q p → p = q
  | [], [], _, _ => rfl
  | [], b :: q, _, h => h.elim
  | a :: p, [], h, _ => h.elim
  | a :: p, b :: q, h1, h2 => by
    rcases h1 with h1 | ⟨h1, h3⟩
    · rcases h2 with h2 | ⟨h2, h4⟩ <;> omega
    · rcases h2 with h2 | ⟨h2, h4⟩
      · omega
      · rw [h1, lle_anti h3 h4]
/-- behind lists of one length -/
theorem lle_app : ∀ {p q : List Int} (r t : List Int), p.length = q.length → lle p q → (p = q → lle r t) → lle (p ++ r) (q ++ t)
  | [], [], r, t, _, _, h => h rfl
  | [], b :: q, _, _, h, _, _ => by cases h
  | a :: p, [], _, _, h, _, _ => by cases h
  | a :: p, b :: q, r, t, hl, h, hh => by
    rcases h with h | ⟨h, h2⟩
    · exact .inl h
    · exact .inr ⟨h, lle_app r t (by simpa using hl) h2 fun e => hh (by rw [h, e])⟩
def slt (p q : List Int) : Prop := lle p q ∧ p ≠ q
theorem slt_app {p q : List Int} (r t : List Int) (hl : p.length = q.length) (h : slt p q) (hr : r.length = t.length) : slt (p ++ r) (q ++ t) := by
  refine ⟨lle_app r t hl h.1 fun e => absurd e h.2, fun e => h.2 ?_⟩
  exact (List.append_inj e hl).1
/-- shorter, or of one length and first -/
def ble (p q : List Int) : Prop := p.length < q.length ∨ (p.length = q.length ∧ lle p q)
theorem ble_trans {p q r : List Int} (h1 : ble p q) (h2 : ble q r) : ble p r := by
  rcases h1 with h1 | ⟨h1, h3⟩
  · rcases h2 with h2 | ⟨h2, h4⟩ <;> exact .inl (by omega)
  · rcases h2 with h2 | ⟨h2, h4⟩
    · exact .inl (by omega)
    · exact .inr ⟨by omega, lle_trans h3 h4⟩
theorem ble_anti {p q : List Int} (h1 : ble p q) (h2 : ble q p) : p = q := by
  rcases h1 with h1 | ⟨h1, h3⟩
  · rcases h2 with h2 | ⟨h2, h4⟩ <;> omega
  · rcases h2 with h2 | ⟨h2, h4⟩
    · omega
    · exact lle_anti h3 h4
structure Best (ps : Ps) (s : Int) (p : List Int) (v : Int) : Prop where
  way : Way ps s p v
  min : ∀ q, Way ps s q v → ble p q
theorem Best.uniq {ps : Ps} {s v : Int} {p q : List Int} (a : Best ps s p v) (b : Best ps s q v) : p = q := ble_anti (a.min q b.way) (b.min p a.way)
section
variable {ps : Ps} {s : Int}
theorem Way.pos {p : List Int} {v : Int} (h : Way ps s p v) : 1 ≤ p.length := by cases h <;> simp
theorem Way.last {p : List Int} {v : Int} (h : Way ps s p v) : p.getLast? = some v := by cases h <;> simp
theorem Way.split {p : List Int} {v : Int} (h : Way ps s p v) : (p = [s] ∧ v = s) ∨ ∃ q u, p = q ++ [v] ∧ Way ps s q u ∧ (u, v) ∈ ps := by
  cases h with
  | one => exact .inl ⟨rfl, rfl⟩
  | snoc a b => exact .inr ⟨_, _, rfl, a, b⟩
theorem Way.head {p : List Int} {v : Int} (h : Way ps s p v) : p.head? = some s := by
  induction h with
  | one => rfl
  | snoc a b ih => rw [List.head?_append, ih]; rfl
theorem Way.endOf {p : List Int} {u v : Int} (h : Way ps s p u) (g : Way ps s p v) : u = v := by
  have := h.last.symm.trans g.last
  exact Option.some.inj this
theorem Way.trans {t : Int} {p q : List Int} {v : Int} (h : Way ps s p t) (g : Way ps t q v) : Way ps s (p ++ q.tail) v := by
  induction g with
  | one => simpa using h
  | snoc a b ih =>
    rename_i q u v
    have e : (q ++ [v]).tail = q.tail ++ [v] := by
      cases q with
      | nil => exact absurd a.pos (by simp)
      | cons x q => rfl
    rw [e, ← List.append_assoc]
    exact .snoc ih b
/-- a way that meets a sign: up to its first meeting -/
theorem Way.cut {p : List Int} {v : Int} (h : Way ps s p v) : ∀ x ∈ p, ∃ q, Way ps s q x ∧ q.length ≤ p.length ∧ q <+: p := by
  induction h with
  | one => intro x hx; rw [List.mem_singleton.mp hx]; exact ⟨[s], .one, Nat.le_refl _, List.prefix_refl _⟩
  | snoc a b ih =>
    rename_i p u v
    intro x hx
    rcases List.mem_append.mp hx with h | h
    · obtain ⟨q, h1, h2, h3⟩ := ih x h
      exact ⟨q, h1, by rw [List.length_append]; omega, h3.trans (List.prefix_append ..)⟩
    · rw [List.mem_singleton.mp h]
      exact ⟨_, .snoc a b, Nat.le_refl _, List.prefix_refl _⟩
/-- the best way meets no sign twice -/
theorem Best.nodup {p : List Int} {v : Int} (h : Best ps s p v) : p.Nodup := by
  obtain ⟨way, mn⟩ := h
  have key : ∀ {p : List Int} {v : Int}, Way ps s p v → (∀ q, Way ps s q v → p.length ≤ q.length) → p.Nodup := by
    intro p v w
    induction w with
    | one => intro _; simp
    | snoc a b ih =>
      rename_i p u v
      intro mn
      have mp : ∀ q, Way ps s q u → p.length ≤ q.length := fun q hq => by
        have := mn _ (.snoc hq b)
        simp only [List.length_append, List.length_singleton] at this
        omega
      refine List.nodup_append.mpr ⟨ih mp, by simp, fun x hx y hy e => ?_⟩
      rw [List.mem_singleton.mp hy] at e
      subst e
      obtain ⟨q, h1, h2, _⟩ := a.cut x hx
      have := mn q h1
      simp only [List.length_append, List.length_singleton] at this
      omega
  exact key way fun q hq => by rcases mn q hq with h | ⟨h, _⟩ <;> omega
theorem Way.mem {p : List Int} {v : Int} (h : Way ps s p v) (good : ∀ q ∈ ps, 0 ≤ q.2 ∧ q.2 < n) (hs : 0 ≤ s ∧ s < n) : ∀ x ∈ p, 0 ≤ x ∧ x < n := by
  induction h with
  | one => intro x hx; rw [List.mem_singleton.mp hx]; exact hs
  | snoc a b ih =>
    intro x hx
    rcases List.mem_append.mp hx with h | h
    · exact ih x h
    · rw [List.mem_singleton.mp h]; exact good _ b
end
/-- no more than n distinct numbers lie below n -/
theorem nodup_bound : ∀ {n : Nat} {p : List Int}, p.Nodup → (∀ x ∈ p, 0 ≤ x ∧ x < (n : Int)) → p.length ≤ n
  | 0, [], _, _ => Nat.le_refl _
  | 0, x :: p, _, h => by have := h x (List.mem_cons_self ..); omega
  | n + 1, p, nd, h => by
    by_cases hm : (n : Int) ∈ p
    · have e1 := nodup_bound (n := n) (p := p.erase (n : Int)) (nd.erase _) fun x hx => by
        obtain ⟨h1, h2⟩ := (nd.mem_erase_iff).mp hx
        have := h x h2; omega
      rw [List.length_erase_of_mem hm] at e1
      omega
    · have := nodup_bound (n := n) nd fun x hx => by
        have := h x hx
        have : x ≠ n := fun z => hm (by rw [← z]; exact hx)
        omega
      omega
end Gr
set_option Elab.async false
set_option linter.all false
namespace Gr
/-! ### the search level by level -/
abbrev Fd := List (Int × List Int)
def look : Fd → Int → Option (List Int)
  | [], _ => none
  | (k, p) :: r, i => if k = i then some p else look r i
theorem look_mem : ∀ {A : Fd} {i : Int} {p : List Int}, look A i = some p → (i, p) ∈ A
  | [], _, _, h => by cases h
  | (k, q) :: r, i, p, h => by
    unfold look at h
    split at h
    · rename_i e
      cases h
      rw [e]
      exact List.mem_cons_self ..
    · exact List.mem_cons_of_mem _ (look_mem h)
theorem look_none : ∀ {A : Fd} {i : Int}, look A i = none ↔ i ∉ A.map (·.1)
  | [], i => by simp [look]
  | (k, q) :: r, i => by
    unfold look
    by_cases e : k = i
    · simp [e]
    · rw [if_neg e, look_none, List.map_cons, List.mem_cons, not_or]
      exact ⟨fun h => ⟨fun z => e z.symm, h⟩, fun h => h.2⟩
theorem look_of_mem {A : Fd} {i : Int} {p : List Int} (nd : (A.map (·.1)).Nodup) (h : (i, p) ∈ A) : look A i = some p := by
  induction A with
  | nil => cases h
  | cons x r ih =>
    obtain ⟨k, q⟩ := x
    obtain ⟨n1, n2⟩ := List.nodup_cons.mp (show (k :: r.map (·.1)).Nodup from nd)
    unfold look
    rcases List.mem_cons.mp h with e | e
    · injection e with e1 e2
      rw [if_pos e1.symm, e2]
    · have : k ≠ i := fun z => n1 (by rw [z]; exact List.mem_map.mpr ⟨_, e, rfl⟩)
      rw [if_neg this]
      exact ih n2 e
theorem look_app {A B : Fd} {i : Int} {p : List Int} (h : look A i = some p) : look (A ++ B) i = some p := by
  induction A with
  | nil => cases h
  | cons x r ih =>
    obtain ⟨k, q⟩ := x
    unfold look at h
    show look ((k, q) :: (r ++ B)) i = _
    unfold look
    split at h
    · rename_i e; rw [if_pos e]; exact h
    · rename_i e; rw [if_neg e]; exact ih h
/-- the signs told next, rising -/
def Rise : List Int → Prop := List.Pairwise (· < ·)
/-- one more sign seen -/
def stepE (st : Fd × List Int) (e : Int × Int) : Fd × List Int := match look st.1 e.2 with
  | some _ => st
  | none => (st.1 ++ [(e.2, (look st.1 e.1).getD [] ++ [e.2])], st.2 ++ [e.2])
def edges (succ : Int → List Int) (fresh : List Int) : List (Int × Int) := fresh.flatMap fun u => (succ u).map fun v => (u, v)
def level (succ : Int → List Int) (found : Fd) (fresh : List Int) : Fd × List Int := (edges succ fresh).foldl stepE (found, [])
structure At (ps : Ps) (s : Int) (L : Nat) (found : Fd) (fresh : List Int) : Prop where
  nd : (found.map (·.1)).Nodup
  best : ∀ v p, (v, p) ∈ found → Best ps s p v ∧ p.length ≤ L
  all : ∀ v q, Way ps s q v → q.length ≤ L → v ∈ found.map (·.1)
  fr : ∀ v, v ∈ fresh ↔ ∃ p, (v, p) ∈ found ∧ p.length = L
  ord : fresh.Pairwise fun u v => ∀ p q, look found u = some p → look found v = some q → slt p q
section
variable {ps : Ps} {s : Int} {L : Nat} {found : Fd} {fresh : List Int} {succ : Int → List Int}
def ext (found : Fd) (e : Int × Int) : List Int := (look found e.1).getD [] ++ [e.2]
/-- behind some of the edges -/
structure Mid (found : Fd) (E : List (Int × Int)) (st : Fd × List Int) : Prop where
  ex : ∃ N : Fd, st.1 = found ++ N ∧ st.2 = N.map (·.1) ∧ (∃ sub : List (Int × Int), sub.Sublist E ∧ N = sub.map fun e => (e.2, ext found e)) ∧ ((found ++ N).map (·.1)).Nodup ∧
    ∀ e ∈ E, e.2 ∈ found.map (·.1) ∨ ∃ p, (e.2, p) ∈ N ∧ lle p (ext found e)
theorem mid_fold (nd : (found.map (·.1)).Nodup) : ∀ (E2 E1 : List (Int × Int)) (st : Fd × List Int), Mid found E1 st → (∀ e ∈ E2, ∃ p, look found e.1 = some p) → (E1 ++ E2).Pairwise (fun e f => slt (ext found e) (ext found f)) → Mid found (E1 ++ E2) (E2.foldl stepE st)
  | [], E1, st, h, _, _ => by rw [List.append_nil]; exact h
  | e :: E2, E1, st, h, hs, pw => by
    have e0 : E1 ++ e :: E2 = (E1 ++ [e]) ++ E2 := by simp
    rw [e0] at pw ⊢
    refine mid_fold nd E2 (E1 ++ [e]) (stepE st e) ?_ (fun f hf => hs f (List.mem_cons_of_mem _ hf)) pw
    obtain ⟨N, h1, h2, ⟨sub, h3, h4⟩, h5, h6⟩ := h
    obtain ⟨p, hp⟩ := hs e (List.mem_cons_self ..)
    obtain ⟨F, l⟩ := st
    subst h1 h2
    have pe : ∀ f ∈ E1, slt (ext found f) (ext found e) := fun f hf => by
      have := (List.pairwise_append.mp (List.pairwise_append.mp pw).1).2.2 f hf e (List.mem_singleton.mpr rfl)
      exact this
    unfold stepE
    dsimp only
    cases hl : look (found ++ N) e.2 with
    | some q =>
      refine ⟨N, rfl, rfl, ⟨sub, h3.trans (List.sublist_append_left ..), h4⟩, h5, fun f hf => ?_⟩
      rcases List.mem_append.mp hf with z | z
      · exact h6 f z
      · rw [List.mem_singleton.mp z]
        have hm := look_mem hl
        rcases List.mem_append.mp hm with w | w
        · exact .inl (List.mem_map.mpr ⟨_, w, rfl⟩)
        · refine .inr ⟨q, w, ?_⟩
          rw [h4] at w
          obtain ⟨g, hg1, hg2⟩ := List.mem_map.mp w
          injection hg2 with _ hg3
          rw [← hg3]
          exact (pe g (h3.subset hg1)).1
    | none =>
      have hx : (look (found ++ N) e.1).getD [] ++ [e.2] = ext found e := by
        unfold ext
        rw [look_app hp, hp]
      rw [hx]
      have hn := look_none.mp hl
      refine ⟨N ++ [(e.2, ext found e)], by simp, by simp, ⟨sub ++ [e], h3.append (List.Sublist.refl _), by rw [h4]; simp⟩, ?_, fun f hf => ?_⟩
      · rw [← List.append_assoc, List.map_append, List.nodup_append]
        exact ⟨h5, by simp, fun a ha b hb z => hn (by rw [show e.2 = b from (List.mem_singleton.mp hb).symm, ← z]; exact ha)⟩
      · rcases List.mem_append.mp hf with z | z
        · exact (h6 f z).imp id fun ⟨p, a, b⟩ => ⟨p, List.mem_append_left _ a, b⟩
        · rw [List.mem_singleton.mp z]
          exact .inr ⟨_, List.mem_append_right _ (List.mem_singleton.mpr rfl), lle_refl _⟩
theorem edges_pw (h : At ps s L found fresh) (hs : ∀ u, Rise (succ u)) : (edges succ fresh).Pairwise fun e f => slt (ext found e) (ext found f) := by
  have hl : ∀ u ∈ fresh, ∃ p, look found u = some p ∧ p.length = L := fun u hu => by
    obtain ⟨p, h1, h2⟩ := (h.fr u).mp hu
    exact ⟨p, look_of_mem h.nd h1, h2⟩
  have key : ∀ fr : List Int, (∀ u ∈ fr, u ∈ fresh) → fr.Pairwise (fun u v => ∀ p q, look found u = some p → look found v = some q → slt p q) → (edges succ fr).Pairwise fun e f => slt (ext found e) (ext found f) := by
    intro fr
    induction fr with
    | nil => intro _ _; exact .nil
    | cons u fr ih =>
      intro hm pw
      obtain ⟨p1, p2⟩ := List.pairwise_cons.mp pw
      show ((succ u).map (fun v => (u, v)) ++ edges succ fr).Pairwise _
      refine List.pairwise_append.mpr ⟨?_, ih (fun x hx => hm x (List.mem_cons_of_mem _ hx)) p2, fun a ha b hb => ?_⟩
      · rw [List.pairwise_map]
        refine List.Pairwise.imp (fun {a b} hab => ?_) (hs u)
        refine ⟨lle_app _ _ rfl (lle_refl _) fun _ => .inl hab, fun e => ?_⟩
        have := (List.append_inj e rfl).2
        simp at this
        omega
      · obtain ⟨v, hv, rfl⟩ := List.mem_map.mp ha
        obtain ⟨w, hw, hb2⟩ := List.mem_flatMap.mp hb
        obtain ⟨x, hx, rfl⟩ := List.mem_map.mp hb2
        obtain ⟨pu, q1, q2⟩ := hl u (hm u (List.mem_cons_self ..))
        obtain ⟨pw', q3, q4⟩ := hl w (hm w (List.mem_cons_of_mem _ hw))
        have := p1 w hw pu pw' q1 q3
        show slt (ext found (u, v)) (ext found (w, x))
        unfold ext
        dsimp only
        rw [q1, q3]
        exact slt_app _ _ (by show pu.length = pw'.length; omega) this rfl
  exact key fresh (fun u h => h) h.ord
/-- one level more -/
theorem At.next (h : At ps s L found fresh) (hs : ∀ u, Rise (succ u)) (hm : ∀ u v, v ∈ succ u ↔ (u, v) ∈ ps) (hL : 1 ≤ L) : At ps s (L + 1) (level succ found fresh).1 (level succ found fresh).2 := by
  have hl : ∀ u ∈ fresh, ∃ p, look found u = some p ∧ p.length = L := fun u hu => by
    obtain ⟨p, h1, h2⟩ := (h.fr u).mp hu
    exact ⟨p, look_of_mem h.nd h1, h2⟩
  have pw := edges_pw h hs
  have mid := mid_fold h.nd (edges succ fresh) [] (found, []) ⟨[], by simp, rfl, ⟨[], List.Sublist.refl _, rfl⟩, by simpa using h.nd, fun e he => by cases he⟩ (fun e he => by
    obtain ⟨u, hu, h2⟩ := List.mem_flatMap.mp he
    obtain ⟨v, _, rfl⟩ := List.mem_map.mp h2
    obtain ⟨p, hp, _⟩ := hl u hu
    exact ⟨p, hp⟩) pw
  rw [List.nil_append] at mid
  obtain ⟨N, h1, h2, ⟨sub, h3, h4⟩, h5, h6⟩ := mid.ex
  have e1 : (level succ found fresh).1 = found ++ N := h1
  have e2 : (level succ found fresh).2 = N.map (·.1) := h2
  rw [e1, e2]
  have ine : ∀ u v, u ∈ fresh → (u, v) ∈ ps → (u, v) ∈ edges succ fresh := fun u v hu hv => List.mem_flatMap.mpr ⟨u, hu, List.mem_map.mpr ⟨v, (hm u v).mpr hv, rfl⟩⟩
  -- what is new
  have nw : ∀ v p, (v, p) ∈ N → Best ps s p v ∧ p.length = L + 1 := fun v p hp => by
    rw [h4] at hp
    obtain ⟨e, he, e3⟩ := List.mem_map.mp hp
    injection e3 with e4 e5
    have hE := h3.subset he
    obtain ⟨u, hu, h7⟩ := List.mem_flatMap.mp hE
    obtain ⟨x, hx, rfl⟩ := List.mem_map.mp h7
    dsimp only at e4 e5
    subst e4
    obtain ⟨pu, q1, q2⟩ := hl u hu
    obtain ⟨bu, _⟩ := h.best u pu (look_mem q1)
    have ep : p = pu ++ [x] := by
      rw [← e5]
      unfold ext
      dsimp only
      rw [q1]; rfl
    have notF : x ∉ found.map (·.1) := fun z => by
      have hxN : x ∈ N.map (·.1) := by
        rw [h4]
        exact List.mem_map.mpr ⟨(x, ext found (u, x)), List.mem_map.mpr ⟨(u, x), he, rfl⟩, rfl⟩
      rw [List.map_append] at h5
      exact (List.nodup_append.mp h5).2.2 x z x hxN rfl
    subst ep
    refine ⟨⟨.snoc bu.way ((hm u x).mp hx), fun q hq => ?_⟩, by rw [List.length_append, q2]; rfl⟩
    by_cases hlen : q.length ≤ L
    · exact absurd (h.all x q hq hlen) notF
    · by_cases hlt : L + 1 < q.length
      · exact .inl (by rw [List.length_append, q2]; exact hlt)
      · have hq1 : q.length = L + 1 := by omega
        rcases hq.split with ⟨z, _⟩ | ⟨r, w, rfl, hr, hw⟩
        · rw [z] at hq1
          simp at hq1
          omega
        · have hr1 : r.length = L := by simpa using hq1
          have hwk := h.all w r hr (by omega)
          obtain ⟨⟨w', pw'⟩, hw1, hw2⟩ := List.mem_map.mp hwk
          dsimp only at hw2
          subst hw2
          obtain ⟨bw, lw⟩ := h.best _ _ hw1
          have lw2 : pw'.length = L := by
            by_cases z : pw'.length = L
            · exact z
            · have w2 := Way.snoc bw.way hw
              exact absurd (h.all x _ w2 (by rw [List.length_append]; simp; omega)) notF
          have hwf : w' ∈ fresh := (h.fr w').mpr ⟨pw', hw1, lw2⟩
          rcases h6 (w', x) (ine w' x hwf hw) with z | ⟨p', hp', hle⟩
          · exact absurd z notF
          · have ep' : p' = pu ++ [x] := by
              have nd2 : (N.map (·.1)).Nodup := by
                rw [List.map_append] at h5
                exact (List.nodup_append.mp h5).2.1
              have := look_of_mem nd2 hp'
              have h8 := look_of_mem nd2 (show (x, pu ++ [x]) ∈ N from by
                have : ext found (u, x) = pu ++ [x] := by unfold ext; dsimp only; rw [q1]; rfl
                rw [h4, ← this]
                exact List.mem_map.mpr ⟨(u, x), he, rfl⟩)
              rw [this] at h8
              exact Option.some.inj h8
            rw [ep'] at hle
            have hext : ext found (w', x) = pw' ++ [x] := by unfold ext; dsimp only; rw [look_of_mem h.nd hw1]; rfl
            rw [hext] at hle
            refine .inr ⟨by rw [hq1, List.length_append, q2]; rfl, lle_trans hle (lle_app _ _ (by omega) ?_ fun _ => lle_refl _)⟩
            rcases bw.min r hr with z | ⟨_, z⟩
            · omega
            · exact z
  refine ⟨h5, fun v p hp => ?_, fun v q hq hlen => ?_, fun v => ?_, ?_⟩
  · rcases List.mem_append.mp hp with z | z
    · obtain ⟨a, b⟩ := h.best v p z
      exact ⟨a, by omega⟩
    · obtain ⟨a, b⟩ := nw v p z
      exact ⟨a, by omega⟩
  · rw [List.map_append]
    by_cases hl2 : q.length ≤ L
    · exact List.mem_append_left _ (h.all v q hq hl2)
    · rcases hq.split with ⟨z, _⟩ | ⟨r, w, rfl, hr, hw⟩
      · rw [z] at hl2; simp at hl2; omega
      · have hr1 : r.length = L := by
          rw [List.length_append] at hl2 hlen
          simp at hl2 hlen
          omega
        obtain ⟨⟨w', pw'⟩, hw1, hw2⟩ := List.mem_map.mp (h.all w r hr (by omega))
        dsimp only at hw2
        subst hw2
        obtain ⟨bw, lw⟩ := h.best _ _ hw1
        by_cases z : pw'.length = L
        · have hwf : w' ∈ fresh := (h.fr w').mpr ⟨pw', hw1, z⟩
          rcases h6 (w', v) (ine w' v hwf hw) with z | ⟨p', hp', _⟩
          · exact List.mem_append_left _ z
          · exact List.mem_append_right _ (List.mem_map.mpr ⟨_, hp', rfl⟩)
        · have w2 := Way.snoc bw.way hw
          exact List.mem_append_left _ (h.all v _ w2 (by rw [List.length_append]; simp; omega))
  · constructor
    · intro hv
      obtain ⟨⟨v', p⟩, h7, h8⟩ := List.mem_map.mp hv
      dsimp only at h8
      subst h8
      exact ⟨p, List.mem_append_right _ h7, (nw _ _ h7).2⟩
    · rintro ⟨p, hp, hlp⟩
      rcases List.mem_append.mp hp with z | z
      · have := (h.best v p z).2
        omega
      · exact List.mem_map.mpr ⟨_, z, rfl⟩
  · have nd2 : (N.map (·.1)).Nodup := by
      rw [List.map_append] at h5
      exact (List.nodup_append.mp h5).2.1
    have p1 : N.Pairwise fun a b => slt a.2 b.2 := by
      rw [h4, List.pairwise_map]
      exact pw.sublist h3
    rw [List.pairwise_map]
    refine List.Pairwise.imp_of_mem (fun {a b} ha hb hab p q hp hq => ?_) p1
    have e3 := look_of_mem h5 (List.mem_append_right found (show (a.1, a.2) ∈ N from ha))
    have e4 := look_of_mem h5 (List.mem_append_right found (show (b.1, b.2) ∈ N from hb))
    rw [e3] at hp
    rw [e4] at hq
    cases hp
    cases hq
    exact hab
end
end Gr
set_option Elab.async false
set_option linter.all false
namespace Gr
def bfs (succ : Int → List Int) : Nat → Fd → List Int → Fd
  | 0, f, _ => f
  | n + 1, f, fr => if fr = [] then f else bfs succ n (level succ f fr).1 (level succ f fr).2
structure Done (ps : Ps) (s : Int) (found : Fd) : Prop where
  nd : (found.map (·.1)).Nodup
  best : ∀ v p, (v, p) ∈ found → Best ps s p v
  all : ∀ v q, Way ps s q v → v ∈ found.map (·.1)
section
variable {ps : Ps} {s : Int} {L : Nat} {found : Fd} {fresh : List Int} {succ : Int → List Int}
theorem At.start (ps : Ps) (s : Int) : At ps s 1 [(s, [s])] [s] where
  nd := by simp
  best := fun v p h => by
    have e := List.mem_singleton.mp h
    injection e with e1 e2
    subst e1 e2
    refine ⟨⟨.one, fun q hq => ?_⟩, Nat.le_refl _⟩
    rcases Nat.lt_or_ge 1 q.length with h | h
    · exact .inl h
    · rcases hq.split with ⟨z, _⟩ | ⟨r, w, rfl, hr, _⟩
      · rw [z]; exact .inr ⟨rfl, lle_refl _⟩
      · have := hr.pos
        simp at h
        exact absurd (List.length_eq_zero_iff.mpr h) (by omega)
  all := fun v q hq hl => by
    rcases hq.split with ⟨_, z⟩ | ⟨r, w, rfl, hr, _⟩
    · simp [z]
    · have := hr.pos
      simp at hl
      exact absurd (List.length_eq_zero_iff.mpr hl) (by omega)
  fr := fun v => by
    constructor
    · intro h; rw [List.mem_singleton.mp h]; exact ⟨[s], List.mem_singleton.mpr rfl, rfl⟩
    · rintro ⟨p, hp, _⟩; have e := List.mem_singleton.mp hp; injection e with e1 _; rw [e1]; exact List.mem_singleton.mpr rfl
  ord := by simp
theorem At.done (h : At ps s L found []) (hL : 1 ≤ L) : Done ps s found where
  nd := h.nd
  best := fun v p hp => (h.best v p hp).1
  all := fun v q hq => by
    have key : ∀ {q : List Int} {v : Int}, Way ps s q v → 1 ≤ L → v ∈ found.map (·.1) := by
      intro q v w hL
      induction w with
      | one => exact h.all s [s] .one hL
      | snoc a b ih =>
        rename_i p u v
        obtain ⟨⟨u', pu⟩, h1, h2⟩ := List.mem_map.mp ih
        dsimp only at h2
        subst h2
        obtain ⟨bu, lu⟩ := h.best _ _ h1
        have : pu.length ≠ L := fun z => by
          have := (h.fr u').mpr ⟨pu, h1, z⟩
          cases this
        exact h.all v _ (.snoc bu.way b) (by rw [List.length_append]; simp; omega)
    exact key hq hL
theorem At.bound (h : At ps s L found fresh) (ne : fresh ≠ []) {n : Nat} (good : ∀ q ∈ ps, 0 ≤ q.2 ∧ q.2 < (n : Int)) (hs : 0 ≤ s ∧ s < (n : Int)) : L ≤ n := by
  obtain ⟨v, hv⟩ := List.exists_mem_of_ne_nil _ ne
  obtain ⟨p, hp, e⟩ := (h.fr v).mp hv
  have b := (h.best v p hp).1
  rw [← e]
  exact nodup_bound b.nodup (b.way.mem good hs)
theorem bfs_ok {n : Nat} (good : ∀ q ∈ ps, 0 ≤ q.2 ∧ q.2 < (n : Int)) (hs0 : 0 ≤ s ∧ s < (n : Int)) (hs : ∀ u, Rise (succ u)) (hm : ∀ u v, v ∈ succ u ↔ (u, v) ∈ ps) : ∀ (k L : Nat) (found : Fd) (fresh : List Int), n + 1 ≤ L + k → 1 ≤ L → At ps s L found fresh → Done ps s (bfs succ k found fresh)
  | 0, L, found, fresh, h1, h2, h => by
    have : fresh = [] := by
      by_cases e : fresh = []
      · exact e
      · have := h.bound e good hs0; omega
    subst this
    exact h.done h2
  | k + 1, L, found, fresh, h1, h2, h => by
    unfold bfs
    by_cases e : fresh = []
    · rw [if_pos e]; subst e; exact h.done h2
    · rw [if_neg e]
      exact bfs_ok good hs0 hs hm k (L + 1) _ _ (by omega) (by omega) (h.next hs hm h2)
end
/-! ### the dict of those told next -/
abbrev Nx := List (Int × List Int)
def putN : Nx → Int → Int → Nx
  | [], u, v => [(u, [v])]
  | (k, l) :: r, u, v => if k = u then (k, l ++ [v]) :: r else (k, l) :: putN r u v
theorem look_putN : ∀ (B : Nx) (u v i : Int), (look (putN B u v) i).getD [] = if i = u then (look B i).getD [] ++ [v] else (look B i).getD []
  | [], u, v, i => by
    show (look [(u, [v])] i).getD [] = _
    unfold look
    by_cases e : u = i
    · rw [if_pos e, if_pos e.symm]; rfl
    · rw [if_neg e, if_neg fun z => e z.symm]; rfl
  | (k, l) :: r, u, v, i => by
    unfold putN
    by_cases e : k = u
    · rw [if_pos e]
      unfold look
      by_cases e2 : k = i
      · rw [if_pos e2, if_pos e2, if_pos (by omega)]; rfl
      · rw [if_neg e2, if_neg e2, if_neg (by omega)]
    · rw [if_neg e]
      unfold look
      by_cases e2 : k = i
      · rw [if_pos e2, if_pos e2, if_neg (by omega)]
      · rw [if_neg e2, if_neg e2]; exact look_putN r u v i
theorem keys_putN : ∀ (B : Nx) (u v i : Int), i ∈ (putN B u v).map (·.1) ↔ i = u ∨ i ∈ B.map (·.1)
  | [], u, v, i => by simp [putN]
  | (k, l) :: r, u, v, i => by
    unfold putN
    by_cases e : k = u
    · rw [if_pos e]; simp [e]
    · rw [if_neg e]
      simp only [List.map_cons, List.mem_cons, keys_putN r u v i]
      constructor <;> (intro h; rcases h with h | h | h <;> simp [h])
theorem nd_putN : ∀ (B : Nx) (u v : Int), (B.map (·.1)).Nodup → ((putN B u v).map (·.1)).Nodup
  | [], u, v, _ => by simp [putN]
  | (k, l) :: r, u, v, h => by
    obtain ⟨h1, h2⟩ := List.nodup_cons.mp (show (k :: r.map (·.1)).Nodup from h)
    unfold putN
    by_cases e : k = u
    · rw [if_pos e]; exact h
    · rw [if_neg e]
      refine List.nodup_cons.mpr ⟨fun z => ?_, nd_putN r u v h2⟩
      rcases (keys_putN r u v k).mp z with w | w
      · exact e w
      · exact h1 w
def nxOf (ps : Ps) : Nx := ps.foldl (fun B p => putN B p.1 p.2) []
theorem nxOf_look (ps : Ps) (i : Int) : (look (nxOf ps) i).getD [] = (ps.filter fun p => p.1 = i).map (·.2) := by
  have key : ∀ (ps : Ps) (B : Nx), (look (ps.foldl (fun B p => putN B p.1 p.2) B) i).getD [] = (look B i).getD [] ++ (ps.filter fun p => p.1 = i).map (·.2) := by
    intro ps
    induction ps with
    | nil => intro B; simp
    | cons p ps ih =>
      intro B
      rw [List.foldl_cons, ih, look_putN]
      by_cases e : i = p.1
      · simp [e, List.append_assoc]
      · have : ¬ p.1 = i := fun z => e z.symm
        simp [e, this]
  exact (key ps []).trans rfl
theorem nxOf_nd (ps : Ps) : ((nxOf ps).map (·.1)).Nodup := by
  have key : ∀ (ps : Ps) (B : Nx), (B.map (·.1)).Nodup → ((ps.foldl (fun B p => putN B p.1 p.2) B).map (·.1)).Nodup := by
    intro ps
    induction ps with
    | nil => exact fun B h => h
    | cons p ps ih => exact fun B h => ih _ (nd_putN B _ _ h)
  exact key ps [] .nil
end Gr
set_option Elab.async false
set_option linter.all false
set_option maxRecDepth 100000
namespace Cm
open PySem De Gr
open L2 (Key)

/-! ### pairs of signs -/
structure Good (n : Nat) (ps : Ps) : Prop where
  n1 : 1 ≤ n
  n9 : n ≤ 9
  ok : ∀ p ∈ ps, 0 ≤ p.1 ∧ p.1 < (n : Int) ∧ 0 ≤ p.2 ∧ p.2 < (n : Int) ∧ p.1 ≠ p.2
  few : ps.length < 64
abbrev psD (ps : Ps) : List D := ps.map pD
theorem frz_dic (o : Bool) (ks : List Key) (ds : List D) : frz (.dic o ks ds) = .dic false ks (frzs ds) := rfl
theorem frz_pD (p : Int × Int) : frz (pD p) = pD p := rfl
theorem frzs_ps (ps : Ps) : frzs (psD ps) = psD ps := by rw [frzs_eq, List.map_map]; rfl
theorem afs_ps : ∀ ps : Ps, af.afs (psD ps) = true
  | [] => rfl
  | p :: ps => by show (af (pD p) && af.afs (psD ps)) = true; rw [afs_ps ps]; rfl
theorem pairsD_ps : ∀ ps : Ps, pairsD (psD ps) = some ps
  | [] => rfl
  | p :: ps => by show (pairsD (psD ps)).map (p :: ·) = _; rw [pairsD_ps ps]; rfl
theorem look_many_ok {n : Nat} (h1 : 1 ≤ n) (h9 : n ≤ 9) : F_look_many [.int n] = .ok .non := by
  have a1 : ¬ ((n : Int) < 1) := by omega
  have a2 : ¬ ((9 : Int) < (n : Int)) := by omega
  simp only [runF, env0, endF, seqS, asgS, retS, ifS, nilS, brkS, cntS, drpS, mutS, forS, unpS, parS, keepM, frzM, gApp, op2, op1, vr, cI, cS, cB, cN, cT, De.get, Res.bind, lift, tst, toB, andB, orB, notB, andV, orV, notV, ifV, chn, consA, nilA, lstA, tupA, calA, fnA, strM, tgetA, lcA, itm, rngA, prtN, prtE, prtI, slA, dI, g1, g2, frz, frz_lst, frz_tup, frz_rol, frzs, frzs_ints, frzs_strs, frzs_app, frzs_len, af, af.afs, afs_ints, afs_strs, frzs_bls, dAll_map, dAny_map, all_tt, List.map_cons, List.map_nil, List.length_cons, List.length_nil, List.cons_append, List.nil_append, List.replicate, List.getElem?_cons_zero, List.getElem?_cons_succ, List.set_cons_zero, List.set_cons_succ, List.set, if_true, if_false, Bool.or_true, Bool.true_or, Bool.or_false, Bool.false_or, Bool.and_true, Bool.true_and, Bool.and_false, Bool.false_and, Bool.not_true, Bool.not_false, Option.map_some, Option.map_none, Option.bind_some, Option.bind_none, List.length_map, reduceIte, itemsL, itemsT, Option.map, Option.bind, Tg.bind, setN, List.append_nil, Nat.sub_zero, Nat.zero_add, ite_true, ite_false, Nat.zero_le, Nat.reduceAdd, Nat.reduceLeDiff, Nat.reduceSub, Nat.reduceMul, Nat.reduceEqDiff, Int.reduceLT, Int.reduceLE, Bool.false_eq_true, reduceCtorEq, and_true, true_and, and_self, F_look_many, s_look_many, dLt, dGt, a1, a2, decide_false]
theorem look_pairs_ok {n : Nat} {ps : Ps} (G : Good n ps) : F_look_pairs [.int n, .lst false (psD ps)] = .ok .non := by
  have lm := look_many_ok G.n1 G.n9
  obtain ⟨ρ', e, x, y, rfl⟩ : ∃ ρ', forGo (.tup [2, 3]) b1_look_pairs (psD ps) [some (.int n), some (.lst false (psD ps)), none, none] = .nx ρ' ∧ ∃ x y, ρ' = [some (.int n), some (.lst false (psD ps)), x, y] := by
    refine forGo_all (fun _ ρ => ∃ x y, ρ = [some (.int n), some (.lst false (psD ps)), x, y]) (psD ps) ⟨none, none, rfl⟩ ?_
    rintro pre d post ρ ⟨x, y, rfl⟩ hall
    obtain ⟨p, hp, rfl⟩ := List.mem_map.mp (show d ∈ psD ps by rw [hall]; simp)
    obtain ⟨a1, a2, a3, a4, a5⟩ := G.ok p hp
    refine ⟨[some (.int n), some (.lst false (psD ps)), some (.int p.1), some (.int p.2)], [some (.int n), some (.lst false (psD ps)), some (.int p.1), some (.int p.2)], rfl, .inl ?_, _, _, rfl⟩
    have b1 : ¬ ((if p.2 < p.1 then p.2 else p.1) < 0) := by split <;> omega
    have b2 : ¬ ((n : Int) ≤ (if p.2 > p.1 then p.2 else p.1)) := by split <;> omega
    simp only [runF, env0, endF, seqS, asgS, retS, ifS, nilS, brkS, cntS, drpS, mutS, forS, unpS, parS, keepM, frzM, gApp, op2, op1, vr, cI, cS, cB, cN, cT, De.get, Res.bind, lift, tst, toB, andB, orB, notB, andV, orV, notV, ifV, chn, consA, nilA, lstA, tupA, calA, fnA, strM, tgetA, lcA, itm, rngA, prtN, prtE, prtI, slA, dI, g1, g2, frz, frz_lst, frz_tup, frz_rol, frzs, frzs_ints, frzs_strs, frzs_app, frzs_len, af, af.afs, afs_ints, afs_strs, frzs_bls, dAll_map, dAny_map, all_tt, List.map_cons, List.map_nil, List.length_cons, List.length_nil, List.cons_append, List.nil_append, List.replicate, List.getElem?_cons_zero, List.getElem?_cons_succ, List.set_cons_zero, List.set_cons_succ, List.set, if_true, if_false, Bool.or_true, Bool.true_or, Bool.or_false, Bool.false_or, Bool.and_true, Bool.true_and, Bool.and_false, Bool.false_and, Bool.not_true, Bool.not_false, Option.map_some, Option.map_none, Option.bind_some, Option.bind_none, List.length_map, reduceIte, itemsL, itemsT, Option.map, Option.bind, Tg.bind, setN, List.append_nil, Nat.sub_zero, Nat.zero_add, ite_true, ite_false, Nat.zero_le, Nat.reduceAdd, Nat.reduceLeDiff, Nat.reduceSub, Nat.reduceMul, Nat.reduceEqDiff, Int.reduceLT, Int.reduceLE, Bool.false_eq_true, reduceCtorEq, and_true, true_and, and_self, b1_look_pairs, dEq, dLt, dGe, dMin2, dMax2, a5, b1, b2, decide_false]
  simp only [runF, env0, endF, seqS, asgS, retS, ifS, nilS, brkS, cntS, drpS, mutS, forS, unpS, parS, keepM, frzM, gApp, op2, op1, vr, cI, cS, cB, cN, cT, De.get, Res.bind, lift, tst, toB, andB, orB, notB, andV, orV, notV, ifV, chn, consA, nilA, lstA, tupA, calA, fnA, strM, tgetA, lcA, itm, rngA, prtN, prtE, prtI, slA, dI, g1, g2, frz, frz_lst, frz_tup, frz_rol, frzs, frzs_ints, frzs_strs, frzs_app, frzs_len, af, af.afs, afs_ints, afs_strs, frzs_bls, dAll_map, dAny_map, all_tt, List.map_cons, List.map_nil, List.length_cons, List.length_nil, List.cons_append, List.nil_append, List.replicate, List.getElem?_cons_zero, List.getElem?_cons_succ, List.set_cons_zero, List.set_cons_succ, List.set, if_true, if_false, Bool.or_true, Bool.true_or, Bool.or_false, Bool.false_or, Bool.and_true, Bool.true_and, Bool.and_false, Bool.false_and, Bool.not_true, Bool.not_false, Option.map_some, Option.map_none, Option.bind_some, Option.bind_none, List.length_map, reduceIte, itemsL, itemsT, Option.map, Option.bind, Tg.bind, setN, List.append_nil, Nat.sub_zero, Nat.zero_add, ite_true, ite_false, Nat.zero_le, Nat.reduceAdd, Nat.reduceLeDiff, Nat.reduceSub, Nat.reduceMul, Nat.reduceEqDiff, Int.reduceLT, Int.reduceLE, Bool.false_eq_true, reduceCtorEq, and_true, true_and, and_self, F_look_pairs, s_look_pairs, lm, itD, frzs_ps, e]

/-! ### the dicts -/
abbrev kI (A : Fd) : List Key := A.map fun p => Sum.inl p.1
abbrev vI (o : Bool) (A : Fd) : List D := A.map fun p => D.lst o (p.2.map D.int)
theorem kI_nd {A : Fd} : (kI A).Nodup ↔ (A.map (·.1)).Nodup := by
  unfold List.Nodup
  rw [List.pairwise_map, List.pairwise_map]
  constructor
  · exact fun h => h.imp fun h z => h (by rw [z])
  · exact fun h => h.imp fun h z => h (by injection z)
theorem lk_look (o : Bool) (i : Int) : ∀ A : Fd, lkD (kI A) (vI o A) (.inl i) = (look A i).map fun p => D.lst o (p.map D.int)
  | [] => rfl
  | (k, p) :: r => by
    show lkD ((.inl k : Key) :: kI r) (D.lst o (p.map D.int) :: vI o r) (.inl i) = _
    unfold lkD look
    by_cases e : k = i
    · rw [if_pos (by rw [e]), if_pos e]; rfl
    · rw [if_neg (by intro z; injection z with z; exact e z), if_neg e]; exact lk_look o i r
theorem frzs_vI (o : Bool) (A : Fd) : frzs (vI o A) = vI false A := by
  rw [frzs_eq, List.map_map]
  refine List.map_congr_left fun p _ => ?_
  show D.lst false (frzs (p.2.map D.int)) = _
  rw [frzs_ints]
theorem afs_vI : ∀ A : Fd, af.afs (vI true A) = true
  | [] => rfl
  | p :: A => by show ((true && af.afs (p.2.map D.int)) && af.afs (vI true A)) = true; rw [afs_ints, afs_vI A]; rfl
theorem put_app {A : Fd} {i : Int} {d : D} {o : Bool} : look A i = none → putD (kI A) (vI o A) (.inl i) d = (kI A ++ [.inl i], vI o A ++ [d]) := by
  induction A with
  | nil => intro _; rfl
  | cons x r ih =>
    obtain ⟨k, p⟩ := x
    intro h
    unfold look at h
    split at h
    · cases h
    · rename_i e
      show putD ((.inl k : Key) :: kI r) (D.lst o (p.map D.int) :: vI o r) (.inl i) d = _
      unfold putD
      rw [if_neg (by intro z; injection z with z; exact e z), ih h]
      rfl
/-- the list at u grows -/
theorem app_put : ∀ {B : Nx} {u v : Int} {l : List Int}, look B u = some l → (∀ p ∈ B, p.2.length < 16777216) → appD (kI B) (vI true B) (.inl u) v = some (vI true (putN B u v)) ∧ kI (putN B u v) = kI B
  | [], _, _, _, h, _ => by cases h
  | (k, p) :: r, u, v, l, h, hz => by
    unfold look at h
    show appD ((.inl k : Key) :: kI r) (D.lst true (p.map D.int) :: vI true r) (.inl u) v = _ ∧ _
    unfold appD putN
    by_cases e : k = u
    · have hz1 : (p.map D.int).length < 16777216 := by rw [List.length_map]; exact hz (k, p) (List.mem_cons_self ..)
      rw [if_pos (by rw [e]), if_pos e]
      dsimp only
      rw [if_pos hz1]
      simp
    · rw [if_neg e] at h
      obtain ⟨h1, h2⟩ := app_put h fun q hq => hz q (List.mem_cons_of_mem _ hq)
      rw [if_neg (by intro z; injection z with z; exact e z), if_neg e, h1]
      refine ⟨rfl, ?_⟩
      show (.inl k : Key) :: kI (putN r u v) = (.inl k : Key) :: kI r
      rw [h2]
theorem putN_new {B : Nx} {u v : Int} : look B u = none → putN B u v = B ++ [(u, [v])] := by
  induction B with
  | nil => intro _; rfl
  | cons x r ih =>
    obtain ⟨k, p⟩ := x
    intro h
    unfold look at h
    split at h
    · cases h
    · rename_i e
      unfold putN
      rw [if_neg e, ih h]
      rfl
theorem putN_len : ∀ {B : Nx} {u v : Int} {n : Nat}, (∀ p ∈ B, p.2.length ≤ n) → ∀ p ∈ putN B u v, p.2.length ≤ n + 1
  | [], u, v, n, _, p, h => by rw [List.mem_singleton.mp h]; simp
  | (k, l) :: r, u, v, n, hz, p, h => by
    unfold putN at h
    split at h
    · rcases List.mem_cons.mp h with z | z
      · rw [z]; have := hz (k, l) (List.mem_cons_self ..); simp; omega
      · have := hz p (List.mem_cons_of_mem _ z); omega
    · rcases List.mem_cons.mp h with z | z
      · rw [z]; have := hz (k, l) (List.mem_cons_self ..); omega
      · exact putN_len (fun q hq => hz q (List.mem_cons_of_mem _ hq)) p z
theorem putN_size : ∀ (B : Nx) (u v : Int), (putN B u v).length ≤ B.length + 1
  | [], u, v => Nat.le_refl _
  | (k, l) :: r, u, v => by
    unfold putN
    split
    · simp
    · have := putN_size r u v
      simp; omega
/-- one turn of nexts -/
theorem nx_turn {B : Nx} {p : Int × Int} {a : Option D} (nd : (B.map (·.1)).Nodup) (h1 : B.length < 1000) (h2 : ∀ q ∈ B, q.2.length < 1000) :
    b1_nexts [a, some (.dic true (kI B) (vI true B)), some (.int p.1), some (.int p.2)] = .nx [a, some (.dic true (kI (putN B p.1 p.2)) (vI true (putN B p.1 p.2))), some (.int p.1), some (.int p.2)] := by
  have hk : (kI B).Nodup ∧ (kI B).length < 16777216 := ⟨kI_nd.mpr nd, by rw [List.length_map]; omega⟩
  have hl := lk_look true p.1 B
  have e2 : vr 2 [a, some (.dic true (kI B) (vI true B)), some (.int p.1), some (.int p.2)] = .ok (.int p.1) := rfl
  unfold b1_nexts dsapS
  rw [show ([a, some (.dic true (kI B) (vI true B)), some (.int p.1), some (.int p.2)] : De.Env)[1]? = some (some (.dic true (kI B) (vI true B))) from rfl, e2]
  dsimp only [keyD]
  rw [if_pos hk, hl]
  cases hq : look B p.1 with
  | some l =>
    obtain ⟨z1, z2⟩ := app_put (v := p.2) hq fun q hq => by have := h2 q hq; omega
    obtain ⟨z3, _⟩ := app_put (v := 0) hq fun q hq => by have := h2 q hq; omega
    simp only [Option.map_some]
    unfold dsap2
    rw [z3]
    rw [show vr 3 [a, some (.dic true (kI B) (vI true B)), some (.int p.1), some (.int p.2)] = .ok (.int p.2) from rfl]
    dsimp only
    rw [z1, z2]
    rfl
  | none =>
    have hp := put_app (d := .lst true []) (o := true) hq
    have e3 : (kI B ++ [.inl p.1], vI true B ++ [D.lst true []]) = (kI (B ++ [(p.1, [])]), vI true (B ++ [(p.1, [])])) := by simp
    have hb : look (B ++ [(p.1, [])]) p.1 = some [] := by
      have nd2 : ((B ++ [(p.1, ([] : List Int))]).map (·.1)).Nodup := by
        rw [List.map_append, List.nodup_append]
        exact ⟨nd, by simp, fun x hx y hy z => look_none.mp hq (by rw [show p.1 = y from (List.mem_singleton.mp hy).symm, ← z]; exact hx)⟩
      exact look_of_mem nd2 (List.mem_append_right _ (List.mem_singleton.mpr rfl))
    have hz : ∀ q ∈ B ++ [(p.1, ([] : List Int))], q.2.length < 16777216 := fun q hq => by
      rcases List.mem_append.mp hq with z | z
      · have := h2 q z; omega
      · rw [List.mem_singleton.mp z]; show 0 < 16777216; decide
    obtain ⟨z1, z2⟩ := app_put (v := p.2) hb hz
    obtain ⟨z3, _⟩ := app_put (v := 0) hb hz
    have e4 : putN (B ++ [(p.1, [])]) p.1 p.2 = putN B p.1 p.2 := by
      rw [putN_new hq]
      have key : ∀ B : Nx, look B p.1 = none → putN (B ++ [(p.1, [])]) p.1 p.2 = B ++ [(p.1, [p.2])] := by
        intro B
        induction B with
        | nil => intro _; show putN [(p.1, [])] p.1 p.2 = _; unfold putN; rw [if_pos rfl]; rfl
        | cons x r ih =>
          obtain ⟨k, q⟩ := x
          intro h
          unfold look at h
          split at h
          · cases h
          · rename_i e
            show putN ((k, q) :: (r ++ [(p.1, [])])) p.1 p.2 = _
            unfold putN
            rw [if_neg e, ih h]; rfl
      exact key B hq
    simp only [Option.map_none]
    rw [hp, e3]
    dsimp only
    unfold dsap2
    rw [z3]
    rw [show ([a, some (.dic true (kI B) (vI true B)), some (.int p.1), some (.int p.2)] : De.Env).set 1 (some (.dic true (kI (B ++ [(p.1, [])])) (vI true (B ++ [(p.1, [])])))) = [a, some (.dic true (kI (B ++ [(p.1, [])])) (vI true (B ++ [(p.1, [])]))), some (.int p.1), some (.int p.2)] from rfl]
    rw [show vr 3 [a, some (.dic true (kI (B ++ [(p.1, [])])) (vI true (B ++ [(p.1, [])]))), some (.int p.1), some (.int p.2)] = .ok (.int p.2) from rfl]
    dsimp only
    rw [z1, ← z2, e4]
    rfl
theorem small_ps {n : Nat} {ps : Ps} (G : Good n ps) : ps.all small63 = true := by
  rw [List.all_eq_true]
  intro p hp
  obtain ⟨a1, a2, a3, a4, a5⟩ := G.ok p hp
  have := G.n9
  unfold small63
  rw [decide_eq_true ⟨a1, by omega⟩, decide_eq_true ⟨a3, by omega⟩]; rfl
theorem sset_len : ∀ ps : Ps, (sset ps).length ≤ ps.length
  | [] => Nat.le_refl _
  | p :: ps => by
    have ih := sset_len ps
    have key : ∀ (l : Ps), (ins1 p l).length ≤ l.length + 1 := by
      intro l
      induction l with
      | nil => exact Nat.le_refl _
      | cons q r ih =>
        unfold ins1
        split
        · simp
        · split
          · simp
          · simp; omega
    show (ins1 p (sset ps)).length ≤ _
    have := key (sset ps)
    simp; omega
theorem nexts_ok {n : Nat} {ps : Ps} (G : Good n ps) : F_nexts [.lst false (psD ps)] = .ok (.dic false (kI (nxOf (sset ps))) (vI false (nxOf (sset ps)))) := by
  have hs := small_ps G
  have hf := G.few
  have hl : (sset ps).length < 64 := by have := sset_len ps; omega
  have key : ∀ (l : Ps) (B : Nx) (x y : Option D), (B.map (·.1)).Nodup → B.length + l.length < 1000 → (∀ q ∈ B, q.2.length + l.length < 1000) →
      ∃ x' y', forGo (.tup [2, 3]) b1_nexts (psD l) [some (.lst false (psD ps)), some (.dic true (kI B) (vI true B)), x, y] = .nx [some (.lst false (psD ps)), some (.dic true (kI (l.foldl (fun B p => putN B p.1 p.2) B)) (vI true (l.foldl (fun B p => putN B p.1 p.2) B))), x', y'] := by
    intro l
    induction l with
    | nil => intro B x y _ _ _; exact ⟨x, y, rfl⟩
    | cons p l ih =>
      intro B x y nd h1 h2
      have ht := nx_turn (B := B) (p := p) (a := some (.lst false (psD ps))) nd (by simp at h1; omega) fun q hq => by have := h2 q hq; simp at this; omega
      obtain ⟨x', y', e⟩ := ih (putN B p.1 p.2) (some (.int p.1)) (some (.int p.2)) (nd_putN B _ _ nd) (by have := putN_size B p.1 p.2; simp at h1; omega) fun q hq => by
        have hb : ∀ q ∈ B, q.2.length ≤ 1000 - (l.length + 1) - 1 := fun q hq => by have := h2 q hq; simp at this; omega
        have := putN_len hb q hq
        simp at h1
        omega
      refine ⟨x', y', ?_⟩
      show forGo _ _ (pD p :: psD l) _ = _
      unfold forGo
      rw [show (Tg.tup [2, 3]).bind (pD p) [some (.lst false (psD ps)), some (.dic true (kI B) (vI true B)), x, y] = some [some (.lst false (psD ps)), some (.dic true (kI B) (vI true B)), some (.int p.1), some (.int p.2)] from rfl]
      dsimp only
      rw [ht]
      exact e
  obtain ⟨x', y', e⟩ := key (sset ps) [] none none .nil (by simp; omega) fun q hq => by cases hq
  have e2 : dSset (.lst false (psD ps)) = some (.lst true (psD (sset ps))) := by
    unfold dSset itemsO
    dsimp only
    rw [pairsD_ps]
    dsimp only
    rw [if_pos ⟨hf, hs⟩]
  have e3 : (kI [] : List Key) = [] := rfl
  have e4 : (vI true [] : List D) = [] := rfl
  rw [e3, e4] at e
  simp only [runF, env0, endF, seqS, asgS, retS, ifS, nilS, brkS, cntS, drpS, mutS, forS, unpS, parS, keepM, frzM, gApp, op2, op1, vr, cI, cS, cB, cN, cT, De.get, Res.bind, lift, tst, toB, andB, orB, notB, andV, orV, notV, ifV, chn, consA, nilA, lstA, tupA, calA, fnA, strM, tgetA, lcA, itm, rngA, prtN, prtE, prtI, slA, dI, g1, g2, frz, frz_lst, frz_tup, frz_rol, frzs, frzs_ints, frzs_strs, frzs_app, frzs_len, af, af.afs, afs_ints, afs_strs, frzs_bls, dAll_map, dAny_map, all_tt, List.map_cons, List.map_nil, List.length_cons, List.length_nil, List.cons_append, List.nil_append, List.replicate, List.getElem?_cons_zero, List.getElem?_cons_succ, List.set_cons_zero, List.set_cons_succ, List.set, if_true, if_false, Bool.or_true, Bool.true_or, Bool.or_false, Bool.false_or, Bool.and_true, Bool.true_and, Bool.and_false, Bool.false_and, Bool.not_true, Bool.not_false, Option.map_some, Option.map_none, Option.bind_some, Option.bind_none, List.length_map, reduceIte, itemsL, itemsT, Option.map, Option.bind, Tg.bind, setN, List.append_nil, Nat.sub_zero, Nat.zero_add, ite_true, ite_false, Nat.zero_le, Nat.reduceAdd, Nat.reduceLeDiff, Nat.reduceSub, Nat.reduceMul, Nat.reduceEqDiff, Int.reduceLT, Int.reduceLE, Bool.false_eq_true, reduceCtorEq, and_true, true_and, and_self, F_nexts, s_nexts, frzs_ps, e2, itD, e, frzs_vI, frz_dic]
  rfl
end Cm
set_option Elab.async false
set_option linter.all false
set_option maxRecDepth 100000
namespace Cm
open PySem De Gr
open L2 (Key)

abbrev dicT (A : Fd) : D := .dic true (kI A) (vI true A)
abbrev dicF (A : Fd) : D := .dic false (kI A) (vI false A)
theorem nin_look (v : Int) (A : Fd) : dNotInD (.int v) (dicF A) = some (.bl (!(look A v).isSome)) := by
  show some (D.bl (!(lkD (kI A) (frzs (vI false A)) (.inl v)).isSome)) = _
  rw [frzs_vI, lk_look]
  cases look A v <;> rfl
theorem in_look (v : Int) (A : Fd) : dInD (.int v) (dicF A) = some (.bl (look A v).isSome) := by
  show some (D.bl ((lkD (kI A) (frzs (vI false A)) (.inl v)).isSome)) = _
  rw [frzs_vI, lk_look]
  cases look A v <;> rfl
theorem ix_look (v : Int) (A : Fd) : dIxD (dicF A) (.int v) = (look A v).map fun p => .lst false (p.map D.int) := by
  show lkD (kI A) (frzs (vI false A)) (.inl v) = _
  rw [frzs_vI, lk_look]
theorem frz_dicT (A : Fd) : frz (dicT A) = dicF A := by rw [frz_dic, frzs_vI]
theorem frz_dicF (A : Fd) : frz (dicF A) = dicF A := by rw [frz_dic, frzs_vI]
theorem dAdd_ints (o o2 : Bool) (a b : List Int) (h : a.length + b.length ≤ 16777216) (h1 : o = false) (h2 : o2 = false) : dAdd (.lst o (a.map .int)) (.lst o2 (b.map .int)) = some (.lst true ((a ++ b).map .int)) := by
  subst h1 h2
  show (if szOk ((a.map D.int).length + (b.map D.int).length) = true then some (D.lst true (a.map D.int ++ b.map D.int)) else none) = _
  rw [List.length_map, List.length_map, if_pos (szOk_of h), List.map_append]
theorem chain_turn {P S St fr : Option D} {A : Fd} {l p : List Int} {u v : Int} (hp : look A u = some p) (nd : (A.map (·.1)).Nodup) (h1 : A.length < 1000) (h2 : p.length < 1000) (h3 : l.length < 1000) :
    b1_chains_from [P, S, St, some (dicT A), fr, some (.lst true (l.map .int)), some (.int u), some (.int v)] = .nx [P, S, St, some (dicT (stepE (A, l) (u, v)).1), fr, some (.lst true ((stepE (A, l) (u, v)).2.map .int)), some (.int u), some (.int v)] := by
  have e1 := nin_look v A
  unfold stepE
  dsimp only
  cases hv : look A v with
  | some q =>
    rw [hv] at e1
    simp only [runF, env0, endF, seqS, asgS, retS, ifS, nilS, brkS, cntS, drpS, mutS, forS, unpS, parS, keepM, frzM, gApp, op2, op1, vr, cI, cS, cB, cN, cT, De.get, Res.bind, lift, tst, toB, andB, orB, notB, andV, orV, notV, ifV, chn, consA, nilA, lstA, tupA, calA, fnA, strM, tgetA, lcA, itm, rngA, prtN, prtE, prtI, slA, dI, g1, g2, frz, frz_lst, frz_tup, frz_rol, frzs, frzs_ints, frzs_strs, frzs_app, frzs_len, af, af.afs, afs_ints, afs_strs, frzs_bls, dAll_map, dAny_map, all_tt, List.map_cons, List.map_nil, List.length_cons, List.length_nil, List.cons_append, List.nil_append, List.replicate, List.getElem?_cons_zero, List.getElem?_cons_succ, List.set_cons_zero, List.set_cons_succ, List.set, if_true, if_false, Bool.or_true, Bool.true_or, Bool.or_false, Bool.false_or, Bool.and_true, Bool.true_and, Bool.and_false, Bool.false_and, Bool.not_true, Bool.not_false, Option.map_some, Option.map_none, Option.bind_some, Option.bind_none, List.length_map, reduceIte, itemsL, itemsT, Option.map, Option.bind, Tg.bind, setN, List.append_nil, Nat.sub_zero, Nat.zero_add, ite_true, ite_false, Nat.zero_le, Nat.reduceAdd, Nat.reduceLeDiff, Nat.reduceSub, Nat.reduceMul, Nat.reduceEqDiff, Int.reduceLT, Int.reduceLE, Bool.false_eq_true, reduceCtorEq, and_true, true_and, and_self, b1_chains_from, frzs_vI, e1, Option.isSome_some]
  | none =>
    rw [hv] at e1
    have e2 := ix_look u A
    rw [hp] at e2
    have e3 := dAdd_ints false false p [v] (by simp; omega) rfl rfl
    rw [show ([v].map D.int) = [D.int v] from rfl] at e3
    have hk : (kI A).Nodup ∧ (kI A).length < 16777216 := ⟨kI_nd.mpr nd, by rw [List.length_map]; omega⟩
    have hk2 : A.length < 16777216 := by omega
    have e4 := put_app (d := .lst true ((p ++ [v]).map .int)) (o := true) hv
    have h4 : l.length < 16777216 := by omega
    simp only [hp, Option.getD_some]
    obtain ⟨q, hq⟩ : ∃ q, q = p ++ [v] := ⟨_, rfl⟩
    rw [← hq] at e3 e4 ⊢
    simp only [runF, env0, endF, seqS, asgS, retS, ifS, nilS, brkS, cntS, drpS, mutS, forS, unpS, parS, keepM, frzM, gApp, op2, op1, vr, cI, cS, cB, cN, cT, De.get, Res.bind, lift, tst, toB, andB, orB, notB, andV, orV, notV, ifV, chn, consA, nilA, lstA, tupA, calA, fnA, strM, tgetA, lcA, itm, rngA, prtN, prtE, prtI, slA, dI, g1, g2, frz, frz_lst, frz_tup, frz_rol, frzs, frzs_ints, frzs_strs, frzs_app, frzs_len, af, af.afs, afs_ints, afs_strs, frzs_bls, dAll_map, dAny_map, all_tt, List.map_cons, List.map_nil, List.length_cons, List.length_nil, List.cons_append, List.nil_append, List.replicate, List.getElem?_cons_zero, List.getElem?_cons_succ, List.set_cons_zero, List.set_cons_succ, List.set, if_true, if_false, Bool.or_true, Bool.true_or, Bool.or_false, Bool.false_or, Bool.and_true, Bool.true_and, Bool.and_false, Bool.false_and, Bool.not_true, Bool.not_false, Option.map_some, Option.map_none, Option.bind_some, Option.bind_none, List.length_map, reduceIte, itemsL, itemsT, Option.map, Option.bind, Tg.bind, setN, List.append_nil, Nat.sub_zero, Nat.zero_add, ite_true, ite_false, Nat.zero_le, Nat.reduceAdd, Nat.reduceLeDiff, Nat.reduceSub, Nat.reduceMul, Nat.reduceEqDiff, Int.reduceLT, Int.reduceLE, Bool.false_eq_true, reduceCtorEq, and_true, true_and, and_self, b1_chains_from, frzs_vI, e1, Option.isSome_none, dputS, e2, e3, keyD, mutD, hk, hk2, e4, h4, and_self, List.map_append]
    rw [show dicT (A ++ [(v, q)]) = .dic true (kI A ++ [Sum.inl v]) (vI true A ++ [D.lst true (q.map D.int)]) from by simp [dicT, kI, vI]]
theorem stepE_nd {A : Fd} {l : List Int} {e : Int × Int} (nd : (A.map (·.1)).Nodup) : ((stepE (A, l) e).1.map (·.1)).Nodup := by
  unfold stepE
  dsimp only
  cases h : look A e.2 with
  | some q => exact nd
  | none =>
    rw [List.map_append, List.nodup_append]
    exact ⟨nd, by simp, fun x hx y hy z => look_none.mp h (by rw [show e.2 = y from (List.mem_singleton.mp hy).symm, ← z]; exact hx)⟩
theorem stepE_look {A : Fd} {l p : List Int} {i : Int} {e : Int × Int} (h : look A i = some p) : look (stepE (A, l) e).1 i = some p := by
  unfold stepE
  dsimp only
  cases look A e.2 with
  | some q => exact h
  | none => exact look_app h
theorem stepE_len (A : Fd) (l : List Int) (e : Int × Int) : (stepE (A, l) e).1.length ≤ A.length + 1 ∧ (stepE (A, l) e).2.length ≤ l.length + 1 := by
  unfold stepE
  dsimp only
  cases look A e.2 with
  | some q => exact ⟨Nat.le_succ _, Nat.le_succ _⟩
  | none => simp
theorem inner_ok {P S St fr : Option D} {u : Int} {p : List Int} (h2 : p.length < 1000) : ∀ (vs : List Int) (A : Fd) (l : List Int) (x : Option D), look A u = some p → (A.map (·.1)).Nodup → A.length + vs.length < 1000 → l.length + vs.length < 1000 →
    ∃ x', forGo (.one 7) b1_chains_from (vs.map .int) [P, S, St, some (dicT A), fr, some (.lst true (l.map .int)), some (.int u), x] =
      .nx [P, S, St, some (dicT ((vs.map fun v => (u, v)).foldl stepE (A, l)).1), fr, some (.lst true (((vs.map fun v => (u, v)).foldl stepE (A, l)).2.map .int)), some (.int u), x']
  | [], A, l, x, _, _, _, _ => ⟨x, rfl⟩
  | v :: vs, A, l, x, hp, nd, h1, h3 => by
    have ht := chain_turn (P := P) (S := S) (St := St) (fr := fr) (l := l) (v := v) hp nd (by simp at h1; omega) h2 (by simp at h3; omega)
    obtain ⟨g1, g2⟩ := stepE_len A l (u, v)
    obtain ⟨x', e⟩ := inner_ok h2 (P := P) (S := S) (St := St) (fr := fr) vs (stepE (A, l) (u, v)).1 (stepE (A, l) (u, v)).2 (some (.int v)) (stepE_look hp) (stepE_nd nd) (by simp at h1; omega) (by simp at h3; omega)
    refine ⟨x', ?_⟩
    show forGo _ _ (D.int v :: vs.map .int) _ = _
    unfold forGo
    rw [show (Tg.one 7).bind (.int v) [P, S, St, some (dicT A), fr, some (.lst true (l.map .int)), some (.int u), x] = some [P, S, St, some (dicT A), fr, some (.lst true (l.map .int)), some (.int u), some (.int v)] from rfl]
    dsimp only
    rw [ht]
    exact e
theorem fold_nd : ∀ (E : List (Int × Int)) (st : Fd × List Int), (st.1.map (·.1)).Nodup → ((E.foldl stepE st).1.map (·.1)).Nodup
  | [], _, h => h
  | e :: E, st, h => fold_nd E (stepE st e) (stepE_nd (A := st.1) (l := st.2) h)
theorem fold_look {i : Int} {p : List Int} : ∀ (E : List (Int × Int)) (st : Fd × List Int), look st.1 i = some p → look (E.foldl stepE st).1 i = some p
  | [], _, h => h
  | e :: E, st, h => fold_look E (stepE st e) (stepE_look (A := st.1) (l := st.2) h)
theorem fold_len : ∀ (E : List (Int × Int)) (st : Fd × List Int), (E.foldl stepE st).1.length ≤ st.1.length + E.length ∧ (E.foldl stepE st).2.length ≤ st.2.length + E.length
  | [], _ => ⟨Nat.le_refl _, Nat.le_refl _⟩
  | e :: E, (A, l) => by
    obtain ⟨a, b⟩ := fold_len E (stepE (A, l) e)
    obtain ⟨c, d⟩ := stepE_len A l e
    show ((e :: E).foldl stepE (A, l)).1.length ≤ A.length + _ ∧ _ ≤ l.length + _
    rw [List.foldl_cons, List.length_cons]
    exact ⟨by omega, by omega⟩
abbrev nxS (B : Nx) (u : Int) : List Int := (look B u).getD []
theorem outer_ok {P S fr : Option D} {B : Nx} : ∀ (us : List Int) (A : Fd) (l : List Int) (x6 x7 : Option D), (∀ u ∈ us, ∃ p, look A u = some p ∧ p.length < 1000) → (A.map (·.1)).Nodup → A.length + (edges (nxS B) us).length < 1000 → l.length + (edges (nxS B) us).length < 1000 →
    ∃ x6' x7', forGo (.one 6) b2_chains_from (us.map .int) [P, S, some (dicF B), some (dicT A), fr, some (.lst true (l.map .int)), x6, x7] =
      .nx [P, S, some (dicF B), some (dicT ((edges (nxS B) us).foldl stepE (A, l)).1), fr, some (.lst true (((edges (nxS B) us).foldl stepE (A, l)).2.map .int)), x6', x7']
  | [], A, l, x6, x7, _, _, _, _ => ⟨x6, x7, rfl⟩
  | u :: us, A, l, x6, x7, hu, nd, h1, h3 => by
    obtain ⟨p, hp, hpl⟩ := hu u (List.mem_cons_self ..)
    have el : edges (nxS B) (u :: us) = (nxS B u).map (fun v => (u, v)) ++ edges (nxS B) us := rfl
    have ell : (edges (nxS B) (u :: us)).length = (nxS B u).length + (edges (nxS B) us).length := by rw [el, List.length_append, List.length_map]
    obtain ⟨x', e⟩ := inner_ok hpl (P := P) (S := S) (St := some (dicF B)) (fr := fr) (nxS B u) A l x7 hp nd (by omega) (by omega)
    obtain ⟨g1, g2⟩ := fold_len ((nxS B u).map fun v => (u, v)) (A, l)
    rw [List.length_map] at g1 g2
    obtain ⟨x6', x7', e2⟩ := outer_ok (P := P) (S := S) (fr := fr) (B := B) us ((((nxS B u).map fun v => (u, v)).foldl stepE (A, l)).1) ((((nxS B u).map fun v => (u, v)).foldl stepE (A, l)).2) (some (.int u)) x'
      (fun w hw => by obtain ⟨q, h4, h5⟩ := hu w (List.mem_cons_of_mem _ hw); exact ⟨q, fold_look _ (A, l) h4, h5⟩) (fold_nd _ (A, l) nd) (by dsimp only at g1; omega) (by dsimp only at g2; omega)
    refine ⟨x6', x7', ?_⟩
    show forGo _ _ (D.int u :: us.map .int) _ = _
    unfold forGo
    rw [show (Tg.one 6).bind (.int u) [P, S, some (dicF B), some (dicT A), fr, some (.lst true (l.map .int)), x6, x7] = some [P, S, some (dicF B), some (dicT A), fr, some (.lst true (l.map .int)), some (.int u), x7] from rfl]
    dsimp only
    have hg : (lkD (kI B) (vI false B) (.inl u)).getD (.lst false []) = .lst false ((nxS B u).map .int) := by
      rw [lk_look]
      show _ = D.lst false (((look B u).getD []).map .int)
      cases look B u <;> rfl
    have hb : b2_chains_from [P, S, some (dicF B), some (dicT A), fr, some (.lst true (l.map .int)), some (.int u), x7] = .nx [P, S, some (dicF B), some (dicT ((((nxS B u).map fun v => (u, v)).foldl stepE (A, l)).1)), fr, some (.lst true ((((nxS B u).map fun v => (u, v)).foldl stepE (A, l)).2.map .int)), some (.int u), x'] := by
      simp only [runF, env0, endF, seqS, asgS, retS, ifS, nilS, brkS, cntS, drpS, mutS, forS, unpS, parS, keepM, frzM, gApp, op2, op1, vr, cI, cS, cB, cN, cT, De.get, Res.bind, lift, tst, toB, andB, orB, notB, andV, orV, notV, ifV, chn, consA, nilA, lstA, tupA, calA, fnA, strM, tgetA, lcA, itm, rngA, prtN, prtE, prtI, slA, dI, g1, g2, frz, frz_lst, frz_tup, frz_rol, frzs, frzs_ints, frzs_strs, frzs_app, frzs_len, af, af.afs, afs_ints, afs_strs, frzs_bls, dAll_map, dAny_map, all_tt, List.map_cons, List.map_nil, List.length_cons, List.length_nil, List.cons_append, List.nil_append, List.replicate, List.getElem?_cons_zero, List.getElem?_cons_succ, List.set_cons_zero, List.set_cons_succ, List.set, if_true, if_false, Bool.or_true, Bool.true_or, Bool.or_false, Bool.false_or, Bool.and_true, Bool.true_and, Bool.and_false, Bool.false_and, Bool.not_true, Bool.not_false, Option.map_some, Option.map_none, Option.bind_some, Option.bind_none, List.length_map, reduceIte, itemsL, itemsT, Option.map, Option.bind, Tg.bind, setN, List.append_nil, Nat.sub_zero, Nat.zero_add, ite_true, ite_false, Nat.zero_le, Nat.reduceAdd, Nat.reduceLeDiff, Nat.reduceSub, Nat.reduceMul, Nat.reduceEqDiff, Int.reduceLT, Int.reduceLE, Bool.false_eq_true, reduceCtorEq, and_true, true_and, and_self, b2_chains_from, frzs_vI, dget2A, isDic, keyD, hg, itD, e]
    rw [hb]
    dsimp only
    rw [e2, el, List.foldl_append]
end Cm
set_option Elab.async false
set_option linter.all false
set_option maxRecDepth 100000
namespace Cm
open PySem De Gr
open L2 (Key)

theorem lvs_ints (n : Nat) : ∀ l : List Int, lvs n (l.map D.int) = true
  | [] => rfl
  | a :: l => by show (lv n (.int a) && lvs n (l.map D.int)) = true; rw [lvs_ints n l]; cases n <;> rfl
theorem lv_ints (n : Nat) (o : Bool) (l : List Int) : lv (n + 1) (.lst o (l.map D.int)) = true := lvs_ints n l
theorem dNe_nil (l : List Int) : dNe (.lst false (l.map D.int)) (.lst false []) = some (.bl (decide (l ≠ []))) := by
  have e : dEqO (.lst false (l.map D.int)) (.lst false []) = some (.bl (decide (l = []))) := by
    unfold dEqO
    rw [lv_ints 19 false l, show lv 20 (.lst false []) = true from rfl]
    cases l with
    | nil => rfl
    | cons a l =>
      have : eqD (.lst false ((a :: l).map D.int)) (.lst false []) = false := by simp [eqD, toP, toPs, PyData.eqv, PyData.eqvAll]
      rw [this]; simp
  show (dEqO (.lst false (l.map D.int)) (.lst false [])).map notD = _
  rw [e]
  cases l <;> rfl
theorem nx_rise {ps : Ps} (u : Int) : Rise (nxS (nxOf (sset ps)) u) := by
  show List.Pairwise _ ((look (nxOf (sset ps)) u).getD [])
  rw [nxOf_look, List.pairwise_map]
  refine List.Pairwise.imp_of_mem (fun {a b} ha hb h => ?_) ((sset_ord ps).filter _)
  have h1 := (List.mem_filter.mp ha).2
  have h2 := (List.mem_filter.mp hb).2
  simp only [decide_eq_true_eq] at h1 h2
  rcases h with h | h <;> omega
theorem nx_mem {ps : Ps} (u v : Int) : v ∈ nxS (nxOf (sset ps)) u ↔ (u, v) ∈ ps := by
  show v ∈ (look (nxOf (sset ps)) u).getD [] ↔ _
  rw [nxOf_look]
  constructor
  · intro h
    obtain ⟨p, hp, e⟩ := List.mem_map.mp h
    obtain ⟨h1, h2⟩ := List.mem_filter.mp hp
    simp only [decide_eq_true_eq] at h2
    have := sset_mem.mp h1
    rw [show (u, v) = p from Prod.ext h2.symm e.symm]
    exact this
  · intro h
    exact List.mem_map.mpr ⟨(u, v), List.mem_filter.mpr ⟨sset_mem.mpr h, by simp⟩, rfl⟩
theorem At.len {n : Nat} {ps : Ps} {s : Int} {L : Nat} {A : Fd} {fr : List Int} (G : Good n ps) (hs : 0 ≤ s ∧ s < (n : Int)) (h : At ps s L A fr) : A.length ≤ n := by
  have := nodup_bound (n := n) (p := A.map (·.1)) h.nd fun x hx => by
    obtain ⟨⟨v, p⟩, hp, e⟩ := List.mem_map.mp hx
    dsimp only at e
    subst e
    have w := (h.best _ _ hp).1.way
    exact w.mem (fun q hq => by obtain ⟨_, _, c, d, _⟩ := G.ok q hq; exact ⟨c, d⟩) hs _ (List.mem_of_getLast? w.last)
  rwa [List.length_map] at this
theorem At.fresh_len {n : Nat} {ps : Ps} {s : Int} {L : Nat} {A : Fd} {fr : List Int} (G : Good n ps) (hs : 0 ≤ s ∧ s < (n : Int)) (h : At ps s L A fr) : fr.length ≤ n := by
  refine nodup_bound (n := n) ?_ fun x hx => ?_
  · refine List.Pairwise.imp_of_mem (fun {a b} ha hb hab e => ?_) h.ord
    subst e
    obtain ⟨p, hp, _⟩ := (h.fr a).mp ha
    have hl := look_of_mem h.nd hp
    exact (hab p p hl hl).2 rfl
  · obtain ⟨p, hp, _⟩ := (h.fr x).mp hx
    have w := (h.best _ _ hp).1.way
    exact w.mem (fun q hq => by obtain ⟨_, _, c, d, _⟩ := G.ok q hq; exact ⟨c, d⟩) hs _ (List.mem_of_getLast? w.last)
theorem nx_len {n : Nat} {ps : Ps} (G : Good n ps) (u : Int) : (nxS (nxOf (sset ps)) u).length ≤ 64 := by
  show ((look (nxOf (sset ps)) u).getD []).length ≤ 64
  rw [nxOf_look, List.length_map]
  have h1 := List.length_filter_le (fun p : Int × Int => decide (p.1 = u)) (sset ps)
  have h2 := sset_len ps
  have := G.few
  omega
theorem edges_len (f : Int → List Int) (hf : ∀ u, (f u).length ≤ 64) : ∀ us : List Int, (edges f us).length ≤ 64 * us.length
  | [] => Nat.le_refl _
  | u :: us => by
    show ((f u).map (fun v => (u, v)) ++ edges f us).length ≤ _
    have := edges_len f hf us
    have := hf u
    rw [List.length_append, List.length_map, List.length_cons]
    omega
theorem lv_turn {n : Nat} {ps : Ps} {s : Int} {L : Nat} {A : Fd} {fr : List Int} {P S x5 x6 x7 : Option D} {o : Bool} (G : Good n ps) (hs : 0 ≤ s ∧ s < (n : Int)) (h : At ps s L A fr) (hL : L ≤ 100) :
    ∃ y5 y6 y7, b3_chains_from [P, S, some (dicF (nxOf (sset ps))), some (dicT A), some (.lst o (fr.map .int)), x5, x6, x7] = .nx [P, S, some (dicF (nxOf (sset ps))), some (dicT (level (nxS (nxOf (sset ps))) A fr).1), some (.lst false ((level (nxS (nxOf (sset ps))) A fr).2.map .int)), y5, y6, y7] := by
  have a1 := At.len G hs h
  have a2 := At.fresh_len G hs h
  have a3 := edges_len (nxS (nxOf (sset ps))) (nx_len G) fr
  have := G.n9
  obtain ⟨y6, y7, e⟩ := outer_ok (P := P) (S := S) (fr := some (.lst false (fr.map .int))) (B := nxOf (sset ps)) fr A [] x6 x7 (fun u hu => by
    obtain ⟨p, hp, hl⟩ := (h.fr u).mp hu
    exact ⟨p, look_of_mem h.nd hp, by omega⟩) h.nd (by omega) (by simp; omega)
  rw [show ([] : List Int).map D.int = [] from rfl] at e
  have el : level (nxS (nxOf (sset ps))) A fr = (edges (nxS (nxOf (sset ps))) fr).foldl stepE (A, []) := rfl
  rw [el]
  refine ⟨some (.lst false (((edges (nxS (nxOf (sset ps))) fr).foldl stepE (A, [])).2.map .int)), y6, y7, ?_⟩
  simp only [runF, env0, endF, seqS, asgS, retS, ifS, nilS, brkS, cntS, drpS, mutS, forS, unpS, parS, keepM, frzM, gApp, op2, op1, vr, cI, cS, cB, cN, cT, De.get, Res.bind, lift, tst, toB, andB, orB, notB, andV, orV, notV, ifV, chn, consA, nilA, lstA, tupA, calA, fnA, strM, tgetA, lcA, itm, rngA, prtN, prtE, prtI, slA, dI, g1, g2, frz, frz_lst, frz_tup, frz_rol, frzs, frzs_ints, frzs_strs, frzs_app, frzs_len, af, af.afs, afs_ints, afs_strs, frzs_bls, dAll_map, dAny_map, all_tt, List.map_cons, List.map_nil, List.length_cons, List.length_nil, List.cons_append, List.nil_append, List.replicate, List.getElem?_cons_zero, List.getElem?_cons_succ, List.set_cons_zero, List.set_cons_succ, List.set, if_true, if_false, Bool.or_true, Bool.true_or, Bool.or_false, Bool.false_or, Bool.and_true, Bool.true_and, Bool.and_false, Bool.false_and, Bool.not_true, Bool.not_false, Option.map_some, Option.map_none, Option.bind_some, Option.bind_none, List.length_map, reduceIte, itemsL, itemsT, Option.map, Option.bind, Tg.bind, setN, List.append_nil, Nat.sub_zero, Nat.zero_add, ite_true, ite_false, Nat.zero_le, Nat.reduceAdd, Nat.reduceLeDiff, Nat.reduceSub, Nat.reduceMul, Nat.reduceEqDiff, Int.reduceLT, Int.reduceLE, Bool.false_eq_true, reduceCtorEq, and_true, true_and, and_self, b3_chains_from, itD, e]
theorem wh_ok {n : Nat} {ps : Ps} {s : Int} {P S : Option D} (G : Good n ps) (hs : 0 ≤ s ∧ s < (n : Int)) : ∀ (k L m : Nat) (A : Fd) (fr : List Int) (o : Bool) (x5 x6 x7 : Option D), n + 1 ≤ L + k → L ≤ n + 1 → k < m → At ps s L A fr → 1 ≤ L →
    ∃ x4 y5 y6 y7, whGo t4_chains_from b3_chains_from m [P, S, some (dicF (nxOf (sset ps))), some (dicT A), some (.lst o (fr.map .int)), x5, x6, x7] = .nx [P, S, some (dicF (nxOf (sset ps))), some (dicT (bfs (nxS (nxOf (sset ps))) k A fr)), x4, y5, y6, y7]
  | k, L, 0, _, _, _, _, _, _, _, _, h, _, _ => by omega
  | k, L, m + 1, A, fr, o, x5, x6, x7, h1, h2, h3, h, h4 => by
    have n9 := G.n9
    have good : ∀ q ∈ ps, 0 ≤ q.2 ∧ q.2 < (n : Int) := fun q hq => by obtain ⟨_, _, c, d, _⟩ := G.ok q hq; exact ⟨c, d⟩
    have ht : t4_chains_from [P, S, some (dicF (nxOf (sset ps))), some (dicT A), some (.lst o (fr.map .int)), x5, x6, x7] = .ok (decide (fr ≠ [])) := by
      have e := dNe_nil fr
      simp only [runF, env0, endF, seqS, asgS, retS, ifS, nilS, brkS, cntS, drpS, mutS, forS, unpS, parS, keepM, frzM, gApp, op2, op1, vr, cI, cS, cB, cN, cT, De.get, Res.bind, lift, tst, toB, andB, orB, notB, andV, orV, notV, ifV, chn, consA, nilA, lstA, tupA, calA, fnA, strM, tgetA, lcA, itm, rngA, prtN, prtE, prtI, slA, dI, g1, g2, frz, frz_lst, frz_tup, frz_rol, frzs, frzs_ints, frzs_strs, frzs_app, frzs_len, af, af.afs, afs_ints, afs_strs, frzs_bls, dAll_map, dAny_map, all_tt, List.map_cons, List.map_nil, List.length_cons, List.length_nil, List.cons_append, List.nil_append, List.replicate, List.getElem?_cons_zero, List.getElem?_cons_succ, List.set_cons_zero, List.set_cons_succ, List.set, if_true, if_false, Bool.or_true, Bool.true_or, Bool.or_false, Bool.false_or, Bool.and_true, Bool.true_and, Bool.and_false, Bool.false_and, Bool.not_true, Bool.not_false, Option.map_some, Option.map_none, Option.bind_some, Option.bind_none, List.length_map, reduceIte, itemsL, itemsT, Option.map, Option.bind, Tg.bind, setN, List.append_nil, Nat.sub_zero, Nat.zero_add, ite_true, ite_false, Nat.zero_le, Nat.reduceAdd, Nat.reduceLeDiff, Nat.reduceSub, Nat.reduceMul, Nat.reduceEqDiff, Int.reduceLT, Int.reduceLE, Bool.false_eq_true, reduceCtorEq, and_true, true_and, and_self, t4_chains_from, e]
    unfold whGo
    rw [ht]
    by_cases hf : fr = []
    · subst hf
      refine ⟨some (.lst o []), x5, x6, x7, ?_⟩
      rw [show decide (([] : List Int) ≠ []) = false from rfl]
      dsimp only
      have : bfs (nxS (nxOf (sset ps))) k A [] = A := by cases k <;> rfl
      rw [this]
      rfl
    · rw [decide_eq_true hf]
      dsimp only
      have hb := h.bound hf good hs
      obtain ⟨y5, y6, y7, e⟩ := lv_turn (P := P) (S := S) (x5 := x5) (x6 := x6) (x7 := x7) (o := o) G hs h (by omega)
      rw [e]
      dsimp only
      obtain ⟨k', rfl⟩ : ∃ k', k = k' + 1 := ⟨k - 1, by omega⟩
      have hx := h.next (succ := nxS (nxOf (sset ps))) nx_rise nx_mem h4
      obtain ⟨x4, z5, z6, z7, e2⟩ := wh_ok (P := P) (S := S) G hs k' (L + 1) m _ _ false y5 y6 y7 (by omega) (by omega) (by omega) hx (by omega)
      refine ⟨x4, z5, z6, z7, ?_⟩
      rw [e2]
      have : bfs (nxS (nxOf (sset ps))) (k' + 1) A fr = bfs (nxS (nxOf (sset ps))) k' (level (nxS (nxOf (sset ps))) A fr).1 (level (nxS (nxOf (sset ps))) A fr).2 := by
        show (if fr = [] then A else _) = _
        rw [if_neg hf]
      rw [this]
/-- the search from a sign: all it leads to, with the best way -/
theorem chains_ok {n : Nat} {ps : Ps} {s : Int} (G : Good n ps) (hs : 0 ≤ s ∧ s < (n : Int)) : ∃ A : Fd, F_chains_from [.lst false (psD ps), .int s] = .ok (dicF A) ∧ Done ps s A := by
  have good : ∀ q ∈ ps, 0 ≤ q.2 ∧ q.2 < (n : Int) := fun q hq => by obtain ⟨_, _, c, d, _⟩ := G.ok q hq; exact ⟨c, d⟩
  refine ⟨bfs (nxS (nxOf (sset ps))) n [(s, [s])] [s], ?_, bfs_ok good hs nx_rise nx_mem n 1 _ _ (by omega) (Nat.le_refl _) (At.start ps s)⟩
  have hn := nexts_ok G
  obtain ⟨x4, y5, y6, y7, e⟩ := wh_ok (P := some (.lst false (psD ps))) (S := some (.int s)) G hs n 1 1000 [(s, [s])] [s] true none none none (by omega) (by omega) (by have := G.n9; omega) (At.start ps s) (Nat.le_refl _)
  have e2 : dicT [(s, [s])] = .dic true [.inl s] [.lst true [.int s]] := rfl
  rw [e2] at e
  rw [show [s].map D.int = [D.int s] from rfl] at e
  simp only [runF, env0, endF, seqS, asgS, retS, ifS, nilS, brkS, cntS, drpS, mutS, forS, unpS, parS, keepM, frzM, gApp, op2, op1, vr, cI, cS, cB, cN, cT, De.get, Res.bind, lift, tst, toB, andB, orB, notB, andV, orV, notV, ifV, chn, consA, nilA, lstA, tupA, calA, fnA, strM, tgetA, lcA, itm, rngA, prtN, prtE, prtI, slA, dI, g1, g2, frz, frz_lst, frz_tup, frz_rol, frzs, frzs_ints, frzs_strs, frzs_app, frzs_len, af, af.afs, afs_ints, afs_strs, frzs_bls, dAll_map, dAny_map, all_tt, List.map_cons, List.map_nil, List.length_cons, List.length_nil, List.cons_append, List.nil_append, List.replicate, List.getElem?_cons_zero, List.getElem?_cons_succ, List.set_cons_zero, List.set_cons_succ, List.set, if_true, if_false, Bool.or_true, Bool.true_or, Bool.or_false, Bool.false_or, Bool.and_true, Bool.true_and, Bool.and_false, Bool.false_and, Bool.not_true, Bool.not_false, Option.map_some, Option.map_none, Option.bind_some, Option.bind_none, List.length_map, reduceIte, itemsL, itemsT, Option.map, Option.bind, Tg.bind, setN, List.append_nil, Nat.sub_zero, Nat.zero_add, ite_true, ite_false, Nat.zero_le, Nat.reduceAdd, Nat.reduceLeDiff, Nat.reduceSub, Nat.reduceMul, Nat.reduceEqDiff, Int.reduceLT, Int.reduceLE, Bool.false_eq_true, reduceCtorEq, and_true, true_and, and_self, F_chains_from, s_chains_from, frzs_ps, hn, frz_dic, disp1A, keyD, e, frzs_vI]
end Cm
set_option Elab.async false
set_option linter.all false
namespace Gr
/-! ### rings -/
def IsRing (ps : Ps) (row : List Int) : Prop := ∃ start one, (one, start) ∈ ps ∧ Way ps start row one
structure BestRing (ps : Ps) (row : List Int) : Prop where
  ring : IsRing ps row
  min : ∀ r, IsRing ps r → ble row r
theorem ble_total (p q : List Int) : ble p q ∨ ble q p := by
  rcases Nat.lt_trichotomy p.length q.length with h | h | h
  · exact .inl (.inl h)
  · rcases lle_total p q with z | z
    · exact .inl (.inr ⟨h, z⟩)
    · exact .inr (.inr ⟨h.symm, z⟩)
  · exact .inr (.inl h)
theorem lt_lle : ∀ xs ys : List Int, xs < ys ↔ ¬ lle ys xs
  | [], [] => by simp [lle]
  | [], y :: ys => by simp [lle]
  | x :: xs, [] => by simp [lle]
  | x :: xs, y :: ys => by
    rw [List.cons_lt_cons_iff, lt_lle xs ys]
    show _ ↔ ¬ (y < x ∨ (y = x ∧ lle ys xs))
    constructor
    · rintro (h | ⟨h1, h2⟩)
      · omega
      · rintro (h | ⟨_, h⟩)
        · omega
        · exact h2 h
    · intro h
      rcases Int.lt_trichotomy x y with z | z | z
      · exact .inl z
      · exact .inr ⟨z, fun w => h (.inr ⟨z.symm, w⟩)⟩
      · exact absurd (.inl z) h
/-- a best way behind a pair back is a ring; the least of these is the least ring -/
theorem best_ring {ps : Ps} {row : List Int} (h : ∃ start one, (one, start) ∈ ps ∧ Best ps start row one) (m : ∀ r, (∃ start one, (one, start) ∈ ps ∧ Best ps start r one) → ble row r) (ex : ∀ start one q, (one, start) ∈ ps → Way ps start q one → ∃ r, Best ps start r one) : BestRing ps row := by
  obtain ⟨s, o, h1, h2⟩ := h
  refine ⟨⟨s, o, h1, h2.way⟩, fun r ⟨s', o', h3, h4⟩ => ?_⟩
  obtain ⟨r', h5⟩ := ex s' o' r h3 h4
  exact ble_trans (m r' ⟨s', o', h3, h5⟩) (h5.min r h4)
theorem BestRing.nodup {ps : Ps} {row : List Int} (h : BestRing ps row) (ex : ∀ start one q, (one, start) ∈ ps → Way ps start q one → ∃ r, Best ps start r one) : row.Nodup := by
  obtain ⟨s, o, h1, h2⟩ := h.ring
  obtain ⟨r, hr⟩ := ex s o row h1 h2
  have e : row = r := ble_anti (h.min r ⟨s, o, h1, hr.way⟩) (hr.min row h2)
  rw [e]
  exact hr.nodup
end Gr
set_option Elab.async false
set_option linter.all false
set_option maxRecDepth 100000
namespace Cm
open PySem De Gr
open L2 (Key)

theorem lcGo_fm {α : Type} {tg : Tg} {tt : De.Env → Res Bool} {te : De.Env → Res D} {ρ : De.Env} (emb : α → D) (p : α → Bool) (g : α → D) (l : List α) (h : ∀ a ∈ l, ∃ ρ', tg.bind (emb a) ρ = some ρ' ∧ tt ρ' = .ok (p a) ∧ (p a = true → te ρ' = .ok (g a))) : lcGo tg tt te ρ (l.map emb) = some ((l.filter p).map g) := by
  induction l with
  | nil => rfl
  | cons d ds ih =>
    obtain ⟨ρ', h1, h2, h3⟩ := h d (List.mem_cons_self ..)
    rw [List.map_cons]
    unfold lcGo
    rw [h1]
    dsimp only
    rw [h2]
    cases hp : p d with
    | true =>
      dsimp only
      rw [h3 hp, ih fun a ha => h a (List.mem_cons_of_mem _ ha), List.filter_cons, if_pos hp]
      rfl
    | false =>
      dsimp only
      rw [ih fun a ha => h a (List.mem_cons_of_mem _ ha), List.filter_cons, if_neg (by rw [hp]; decide)]
abbrev rwD (r : List Int) : D := .lst false (r.map D.int)
theorem frz_rw (r : List Int) : frz (rwD r) = rwD r := by show D.lst false (frzs (r.map D.int)) = _; rw [frzs_ints]
theorem frzs_rw (l : List (List Int)) : frzs (l.map rwD) = l.map rwD := by
  rw [frzs_eq, List.map_map]
  exact List.map_congr_left fun r _ => frz_rw r
theorem Done.look {ps : Ps} {s v : Int} {A : Fd} (h : Done ps s A) : (∃ p, look A v = some p ∧ Best ps s p v) ∨ (look A v = none ∧ ∀ q, ¬ Way ps s q v) := by
  cases e : Gr.look A v with
  | some p => exact .inl ⟨p, rfl, h.best v p (look_mem e)⟩
  | none => exact .inr ⟨rfl, fun q hq => look_none.mp e (h.all v q hq)⟩
theorem Good.best {n : Nat} {ps : Ps} (G : Good n ps) : ∀ s o q, (o, s) ∈ ps → Way ps s q o → ∃ r, Best ps s r o := fun s o q hm hq => by
  obtain ⟨_, _, c, d, _⟩ := G.ok _ hm
  obtain ⟨A, _, hd⟩ := chains_ok G (s := s) ⟨c, d⟩
  rcases Done.look hd (v := o) with ⟨p, _, hb⟩ | ⟨_, hn⟩
  · exact ⟨p, hb⟩
  · exact absurd hq (hn q)
/-- the ways back to one start -/
theorem back_ok {n : Nat} {ps : Ps} {s : Int} {A : Fd} {a b c : Option D} (hd : Done ps s A) :
    ∃ rows : List (List Int), lcGo (.tup [5, 6]) t2_ring_in e1_ring_in [a, b, c, some (.int s), some (dicF A), none, none] (psD ps) = some (rows.map rwD) ∧ rows.length ≤ ps.length ∧ ∀ r, r ∈ rows ↔ ∃ o, (o, s) ∈ ps ∧ Best ps s r o := by
  refine ⟨(ps.filter fun p => decide (p.2 = s) && (look A p.1).isSome).map fun p => (look A p.1).getD [], ?_, by rw [List.length_map]; exact List.length_filter_le .., fun r => ?_⟩
  · rw [lcGo_fm pD (fun p => decide (p.2 = s) && (look A p.1).isSome) (fun p => rwD ((look A p.1).getD [])) ps, List.map_map]
    · rfl
    · intro p hp
      refine ⟨[a, b, c, some (.int s), some (dicF A), some (.int p.1), some (.int p.2)], rfl, ?_, fun hq => ?_⟩
      · have e1 := in_look p.1 A
        by_cases h : p.2 = s
        · simp only [runF, env0, endF, seqS, asgS, retS, ifS, nilS, brkS, cntS, drpS, mutS, forS, unpS, parS, keepM, frzM, gApp, op2, op1, vr, cI, cS, cB, cN, cT, De.get, Res.bind, lift, tst, toB, andB, orB, notB, andV, orV, notV, ifV, chn, consA, nilA, lstA, tupA, calA, fnA, strM, tgetA, lcA, itm, rngA, prtN, prtE, prtI, slA, dI, g1, g2, frz, frz_lst, frz_tup, frz_rol, frzs, frzs_ints, frzs_strs, frzs_app, frzs_len, af, af.afs, afs_ints, afs_strs, frzs_bls, dAll_map, dAny_map, all_tt, List.map_cons, List.map_nil, List.length_cons, List.length_nil, List.cons_append, List.nil_append, List.replicate, List.getElem?_cons_zero, List.getElem?_cons_succ, List.set_cons_zero, List.set_cons_succ, List.set, if_true, if_false, Bool.or_true, Bool.true_or, Bool.or_false, Bool.false_or, Bool.and_true, Bool.true_and, Bool.and_false, Bool.false_and, Bool.not_true, Bool.not_false, Option.map_some, Option.map_none, Option.bind_some, Option.bind_none, List.length_map, reduceIte, itemsL, itemsT, Option.map, Option.bind, Tg.bind, setN, List.append_nil, Nat.sub_zero, Nat.zero_add, ite_true, ite_false, Nat.zero_le, Nat.reduceAdd, Nat.reduceLeDiff, Nat.reduceSub, Nat.reduceMul, Nat.reduceEqDiff, Int.reduceLT, Int.reduceLE, Bool.false_eq_true, reduceCtorEq, and_true, true_and, and_self, t2_ring_in, dEq, h, decide_true, frzs_vI, e1]
        · simp only [runF, env0, endF, seqS, asgS, retS, ifS, nilS, brkS, cntS, drpS, mutS, forS, unpS, parS, keepM, frzM, gApp, op2, op1, vr, cI, cS, cB, cN, cT, De.get, Res.bind, lift, tst, toB, andB, orB, notB, andV, orV, notV, ifV, chn, consA, nilA, lstA, tupA, calA, fnA, strM, tgetA, lcA, itm, rngA, prtN, prtE, prtI, slA, dI, g1, g2, frz, frz_lst, frz_tup, frz_rol, frzs, frzs_ints, frzs_strs, frzs_app, frzs_len, af, af.afs, afs_ints, afs_strs, frzs_bls, dAll_map, dAny_map, all_tt, List.map_cons, List.map_nil, List.length_cons, List.length_nil, List.cons_append, List.nil_append, List.replicate, List.getElem?_cons_zero, List.getElem?_cons_succ, List.set_cons_zero, List.set_cons_succ, List.set, if_true, if_false, Bool.or_true, Bool.true_or, Bool.or_false, Bool.false_or, Bool.and_true, Bool.true_and, Bool.and_false, Bool.false_and, Bool.not_true, Bool.not_false, Option.map_some, Option.map_none, Option.bind_some, Option.bind_none, List.length_map, reduceIte, itemsL, itemsT, Option.map, Option.bind, Tg.bind, setN, List.append_nil, Nat.sub_zero, Nat.zero_add, ite_true, ite_false, Nat.zero_le, Nat.reduceAdd, Nat.reduceLeDiff, Nat.reduceSub, Nat.reduceMul, Nat.reduceEqDiff, Int.reduceLT, Int.reduceLE, Bool.false_eq_true, reduceCtorEq, and_true, true_and, and_self, t2_ring_in, dEq, h, decide_false]
      · have e2 := ix_look p.1 A
        simp only [Bool.and_eq_true] at hq
        obtain ⟨q, hl⟩ := Option.isSome_iff_exists.mp hq.2
        rw [hl] at e2 ⊢
        simp only [runF, env0, endF, seqS, asgS, retS, ifS, nilS, brkS, cntS, drpS, mutS, forS, unpS, parS, keepM, frzM, gApp, op2, op1, vr, cI, cS, cB, cN, cT, De.get, Res.bind, lift, tst, toB, andB, orB, notB, andV, orV, notV, ifV, chn, consA, nilA, lstA, tupA, calA, fnA, strM, tgetA, lcA, itm, rngA, prtN, prtE, prtI, slA, dI, g1, g2, frz, frz_lst, frz_tup, frz_rol, frzs, frzs_ints, frzs_strs, frzs_app, frzs_len, af, af.afs, afs_ints, afs_strs, frzs_bls, dAll_map, dAny_map, all_tt, List.map_cons, List.map_nil, List.length_cons, List.length_nil, List.cons_append, List.nil_append, List.replicate, List.getElem?_cons_zero, List.getElem?_cons_succ, List.set_cons_zero, List.set_cons_succ, List.set, if_true, if_false, Bool.or_true, Bool.true_or, Bool.or_false, Bool.false_or, Bool.and_true, Bool.true_and, Bool.and_false, Bool.false_and, Bool.not_true, Bool.not_false, Option.map_some, Option.map_none, Option.bind_some, Option.bind_none, List.length_map, reduceIte, itemsL, itemsT, Option.map, Option.bind, Tg.bind, setN, List.append_nil, Nat.sub_zero, Nat.zero_add, ite_true, ite_false, Nat.zero_le, Nat.reduceAdd, Nat.reduceLeDiff, Nat.reduceSub, Nat.reduceMul, Nat.reduceEqDiff, Int.reduceLT, Int.reduceLE, Bool.false_eq_true, reduceCtorEq, and_true, true_and, and_self, e1_ring_in, frzs_vI, e2, Option.getD_some]
  · constructor
    · intro h
      obtain ⟨p, hp, e⟩ := List.mem_map.mp h
      obtain ⟨h1, h2⟩ := List.mem_filter.mp hp
      simp only [Bool.and_eq_true, decide_eq_true_eq] at h2
      obtain ⟨q, hl⟩ := Option.isSome_iff_exists.mp h2.2
      rw [hl] at e
      refine ⟨p.1, by rw [← h2.1]; exact h1, ?_⟩
      rw [← e]
      exact hd.best _ _ (look_mem hl)
    · rintro ⟨o, h1, h2⟩
      refine List.mem_map.mpr ⟨(o, s), List.mem_filter.mpr ⟨h1, ?_⟩, ?_⟩
      · rcases Done.look hd (v := o) with ⟨p, hl, _⟩ | ⟨_, hn⟩
        · simp [hl]
        · exact absurd h2.way (hn _)
      · rcases Done.look hd (v := o) with ⟨p, hl, hb⟩ | ⟨_, hn⟩
        · show (look A o).getD [] = r
          rw [hl]
          exact hb.uniq h2
        · exact absurd h2.way (hn _)
theorem rows_ok {n : Nat} {ps : Ps} (G : Good n ps) : ∃ (rows : List (List Int)) (x3 x4 : Option D), forGo (.one 3) b3_ring_in (rngD 0 n) [some (.int n), some (.lst false (psD ps)), some (.lst true []), none, none, none, none] = .nx [some (.int n), some (.lst false (psD ps)), some (.lst true (rows.map rwD)), x3, x4, none, none] ∧
    rows.length ≤ 1000 ∧ ∀ r, r ∈ rows ↔ ∃ s o, (o, s) ∈ ps ∧ Best ps s r o := by
  let I : List D → De.Env → Prop := fun pre ρ => ∃ (rows : List (List Int)) (x3 x4 : Option D), ρ = [some (.int n), some (.lst false (psD ps)), some (.lst true (rows.map rwD)), x3, x4, none, none] ∧ rows.length ≤ pre.length * 64 ∧ ∀ r, r ∈ rows ↔ ∃ (i : Nat) (o : Int), i < pre.length ∧ (o, (i : Int)) ∈ ps ∧ Best ps i r o
  have n9 := G.n9
  have key : ∃ ρ', forGo (.one 3) b3_ring_in (rngD 0 n) [some (.int n), some (.lst false (psD ps)), some (.lst true []), none, none, none, none] = .nx ρ' ∧ I (rngD 0 n) ρ' := by
    refine forGo_all I (rngD 0 n) ⟨[], none, none, rfl, by simp, fun r => by simp⟩ ?_
    rintro pre d post ρ ⟨rows, x3, x4, rfl, hl, hm⟩ hall
    have hlen := congrArg List.length hall
    rw [rngD_len, List.length_append, List.length_cons] at hlen
    have hd : d = .int (pre.length : Nat) := by
      have : (rngD 0 n)[pre.length]? = some d := by rw [hall, List.getElem?_append_right (Nat.le_refl _), Nat.sub_self]; rfl
      unfold rngD at this
      rw [List.getElem?_map, List.getElem?_range (by omega)] at this
      have := Option.some.inj this
      rw [← this]
      show D.int (0 + _) = _
      rw [Int.zero_add]
    subst hd
    obtain ⟨A, hc, hdn⟩ := chains_ok G (s := (pre.length : Int)) ⟨by omega, by omega⟩
    obtain ⟨new, hb, hbl, hbm⟩ := back_ok (n := n) (a := some (.int n)) (b := some (.lst false (psD ps))) (c := some (.lst true (rows.map rwD))) hdn
    have hf := G.few
    have hz : rows.length + new.length ≤ 16777216 := by
      have : pre.length * 64 ≤ 9 * 64 := Nat.mul_le_mul_right _ (by omega)
      omega
    refine ⟨[some (.int n), some (.lst false (psD ps)), some (.lst true (rows.map rwD)), some (.int (pre.length : Nat)), x4, none, none], [some (.int n), some (.lst false (psD ps)), some (.lst true ((rows ++ new).map rwD)), some (.int (pre.length : Nat)), some (dicF A), none, none], rfl, .inl ?_, rows ++ new, _, _, rfl, ?_, fun r => ?_⟩
    · simp only [runF, env0, endF, seqS, asgS, retS, ifS, nilS, brkS, cntS, drpS, mutS, forS, unpS, parS, keepM, frzM, gApp, op2, op1, vr, cI, cS, cB, cN, cT, De.get, Res.bind, lift, tst, toB, andB, orB, notB, andV, orV, notV, ifV, chn, consA, nilA, lstA, tupA, calA, fnA, strM, tgetA, lcA, itm, rngA, prtN, prtE, prtI, slA, dI, g1, g2, frz, frz_lst, frz_tup, frz_rol, frzs, frzs_ints, frzs_strs, frzs_app, frzs_len, af, af.afs, afs_ints, afs_strs, frzs_bls, dAll_map, dAny_map, all_tt, List.map_cons, List.map_nil, List.length_cons, List.length_nil, List.cons_append, List.nil_append, List.replicate, List.getElem?_cons_zero, List.getElem?_cons_succ, List.set_cons_zero, List.set_cons_succ, List.set, if_true, if_false, Bool.or_true, Bool.true_or, Bool.or_false, Bool.false_or, Bool.and_true, Bool.true_and, Bool.and_false, Bool.false_and, Bool.not_true, Bool.not_false, Option.map_some, Option.map_none, Option.bind_some, Option.bind_none, List.length_map, reduceIte, itemsL, itemsT, Option.map, Option.bind, Tg.bind, setN, List.append_nil, Nat.sub_zero, Nat.zero_add, ite_true, ite_false, Nat.zero_le, Nat.reduceAdd, Nat.reduceLeDiff, Nat.reduceSub, Nat.reduceMul, Nat.reduceEqDiff, Int.reduceLT, Int.reduceLE, Bool.false_eq_true, reduceCtorEq, and_true, true_and, and_self, b3_ring_in, frzs_ps, hc, frz_dic, frzs_vI, itD, hb, List.map_append, gExt, hz]
      cases af.afs (new.map rwD) <;> rfl
    · rw [List.length_append, List.length_append, List.length_singleton]
      omega
    · rw [List.mem_append, hm, hbm, List.length_append, List.length_singleton]
      constructor
      · rintro (⟨i, o, h1, h2⟩ | ⟨o, h1, h2⟩)
        · exact ⟨i, o, by omega, h2⟩
        · exact ⟨pre.length, o, by omega, h1, h2⟩
      · rintro ⟨i, o, h1, h2, h3⟩
        by_cases h : i < pre.length
        · exact .inl ⟨i, o, h, h2, h3⟩
        · have : i = pre.length := by omega
          subst this
          exact .inr ⟨o, h2, h3⟩
  obtain ⟨ρ', e, rows, x3, x4, rfl, h1, h2⟩ := key
  rw [rngD_len] at h1
  refine ⟨rows, x3, x4, e, by omega, fun r => ?_⟩
  rw [h2, rngD_len]
  constructor
  · rintro ⟨i, o, _, h⟩; exact ⟨i, o, h⟩
  · rintro ⟨s, o, h3, h4⟩
    obtain ⟨_, _, c, d, _⟩ := G.ok _ h3
    refine ⟨s.toNat, o, by omega, ?_⟩
    rw [show ((s.toNat : Nat) : Int) = s by omega]
    exact ⟨h3, h4⟩
/-! ### the least by length, then as a list -/
theorem toP_ints : ∀ l : List Int, toPs (l.map D.int) = l.map PyData.int
  | [] => rfl
  | a :: l => by show PyData.int a :: toPs (l.map D.int) = _; rw [toP_ints l]; rfl
theorem dataLt_ils (a b : List Int) : PySem.W.dataLt (.list (a.map .int)) (.list (b.map .int)) = decide (a < b) := by
  rw [PySem.W.dataLt_list]
  exact PySem.W.dataLt_ints a b
theorem eqv_ils (a b : List Int) : PyData.eqv (.list (a.map .int)) (.list (b.map .int)) = decide (a = b) := by
  have key : ∀ a b : List Int, PyData.eqvAll (a.map .int) (b.map .int) = decide (a = b) := by
    intro a
    induction a with
    | nil => intro b; cases b <;> simp [PyData.eqvAll]
    | cons x a ih =>
      intro b
      cases b with
      | nil => simp [PyData.eqvAll]
      | cons y b =>
        simp only [List.map_cons, PyData.eqvAll, PyData.eqv, ih b]
        by_cases h1 : x = y
        · by_cases h2 : a = b <;> simp [h1, h2]
        · simp [h1]
  simp only [PyData.eqv]
  exact key a b
def keyD2 (r : List Int) : D := .tup [.int r.length, rwD r]
theorem keyD2_lt (p q : List Int) : PySem.W.dataLt (toP (keyD2 p)) (toP (keyD2 q)) = true ↔ ¬ ble q p := by
  show PySem.W.dataLt (.tuple [.int p.length, .list (toPs (p.map D.int))]) (.tuple [.int q.length, .list (toPs (q.map D.int))]) = true ↔ _
  rw [toP_ints, toP_ints, PySem.W.dataLt_pair (by simp [PySem.W.alike]) (by simp only [PySem.W.alike]; exact PySem.W.alike_ints p q), eqv_ils, dataLt_ils, PySem.W.dataLt_int]
  have e1 : PyData.eqv (.int (p.length : Int)) (.int (q.length : Int)) = decide (p.length = q.length) := by
    simp only [PyData.eqv]
    by_cases h : p.length = q.length
    · simp [h]
    · have : ¬ ((p.length : Int) = (q.length : Int)) := by omega
      simp only [h, decide_false]
      first | exact beq_eq_false_iff_ne.mpr this | simp [this] | exact decide_eq_false this
  rw [e1]
  unfold ble
  by_cases h : p.length = q.length
  · rw [if_pos (decide_eq_true h)]
    by_cases h2 : p = q
    · subst h2
      simp [lle_refl]
    · rw [if_neg (by simpa using h2), decide_eq_true_iff, lt_lle]
      constructor
      · rintro a (b | ⟨_, b⟩)
        · omega
        · exact a b
      · exact fun a b => a (.inr ⟨h.symm, b⟩)
  · rw [if_neg (by simpa using h), decide_eq_true_iff]
    constructor
    · rintro a (b | ⟨b, _⟩) <;> omega
    · intro a
      rcases Nat.lt_trichotomy p.length q.length with z | z | z
      · omega
      · exact absurd z h
      · exact absurd (.inl z) a
theorem argBest_min {α : Type} (f : Nat → α) (le : α → α → Prop) (bt : Nat → Nat → Bool) (tr : ∀ a b c, le a b → le b c → le a c) (tot : ∀ a b, le a b ∨ le b a) (hbt : ∀ i j, bt i j = true ↔ ¬ le (f j) (f i)) : ∀ k, argBest bt k ≤ k ∧ ∀ j, j ≤ k → le (f (argBest bt k)) (f j)
  | 0 => ⟨Nat.le_refl _, fun j hj => by rw [show j = 0 by omega]; exact (tot (f 0) (f 0)).elim id id⟩
  | k + 1 => by
    obtain ⟨h1, h2⟩ := argBest_min f le bt tr tot hbt k
    show (if bt (k + 1) (argBest bt k) = true then k + 1 else argBest bt k) ≤ k + 1 ∧ ∀ j, j ≤ k + 1 → le (f (if bt (k + 1) (argBest bt k) = true then k + 1 else argBest bt k)) (f j)
    by_cases h : bt (k + 1) (argBest bt k) = true
    · rw [if_pos h]
      have hn := (hbt _ _).mp h
      have hl := (tot (f (k + 1)) (f (argBest bt k))).resolve_right hn
      refine ⟨Nat.le_refl _, fun j hj => ?_⟩
      by_cases hk : j ≤ k
      · exact tr _ _ _ hl (h2 j hk)
      · rw [show j = k + 1 by omega]; exact (tot (f (k + 1)) (f (k + 1))).elim id id
    · rw [if_neg h]
      refine ⟨by omega, fun j hj => ?_⟩
      by_cases hk : j ≤ k
      · exact h2 j hk
      · rw [show j = k + 1 by omega]
        exact Classical.byContradiction fun z => h ((hbt _ _).mpr z)
theorem keys_rw (rows : List (List Int)) (hz : ∀ r ∈ rows, r.length ≤ 16777216) : keysO FL_ring_in_l1 [] (rows.map rwD) = some (rows.map keyD2) := by
  induction rows with
  | nil => rfl
  | cons r rows ih =>
    have z : szOk r.length = true := szOk_of (hz r (List.mem_cons_self ..))
    have hk : keyR FL_ring_in_l1 [] (rwD r) = some (keyD2 r) := by
      have e : FL_ring_in_l1 [rwD r] = .ok (.tup [.int r.length, rwD r]) := by
        simp only [runF, env0, endF, seqS, asgS, retS, ifS, nilS, brkS, cntS, drpS, mutS, forS, unpS, parS, keepM, frzM, gApp, op2, op1, vr, cI, cS, cB, cN, cT, De.get, Res.bind, lift, tst, toB, andB, orB, notB, andV, orV, notV, ifV, chn, consA, nilA, lstA, tupA, calA, fnA, strM, tgetA, lcA, itm, rngA, prtN, prtE, prtI, slA, dI, g1, g2, frz, frz_lst, frz_tup, frz_rol, frzs, frzs_ints, frzs_strs, frzs_app, frzs_len, af, af.afs, afs_ints, afs_strs, frzs_bls, dAll_map, dAny_map, all_tt, List.map_cons, List.map_nil, List.length_cons, List.length_nil, List.cons_append, List.nil_append, List.replicate, List.getElem?_cons_zero, List.getElem?_cons_succ, List.set_cons_zero, List.set_cons_succ, List.set, if_true, if_false, Bool.or_true, Bool.true_or, Bool.or_false, Bool.false_or, Bool.and_true, Bool.true_and, Bool.and_false, Bool.false_and, Bool.not_true, Bool.not_false, Option.map_some, Option.map_none, Option.bind_some, Option.bind_none, List.length_map, reduceIte, itemsL, itemsT, Option.map, Option.bind, Tg.bind, setN, List.append_nil, Nat.sub_zero, Nat.zero_add, ite_true, ite_false, Nat.zero_le, Nat.reduceAdd, Nat.reduceLeDiff, Nat.reduceSub, Nat.reduceMul, Nat.reduceEqDiff, Int.reduceLT, Int.reduceLE, Bool.false_eq_true, reduceCtorEq, and_true, true_and, and_self, FL_ring_in_l1, g_ring_in_l1, dLen, seqOf, z]
      unfold keyR
      rw [e]
      show some (D.tup (frzs [.int r.length, rwD r])) = _
      show some (D.tup [.int r.length, frz (rwD r)]) = _
      rw [frz_rw]; rfl
    rw [List.map_cons]
    unfold keysO
    rw [hk]
    dsimp only
    rw [ih fun r hr => hz r (List.mem_cons_of_mem _ hr)]
    rfl
theorem keysB_rw (rows : List (List Int)) : keysB (rows.map keyD2) = true := by
  unfold keysB
  simp only [Bool.and_eq_true, List.all_eq_true]
  refine ⟨⟨fun k hk => ?_, fun k hk k' hk' => ?_⟩, fun k hk => ?_⟩
  · obtain ⟨r, _, rfl⟩ := List.mem_map.mp hk
    show lvs 19 [.int r.length, rwD r] = true
    show (lv 19 (.int r.length) && (lv 19 (rwD r) && true)) = true
    rw [lv_ints 18 false r]; rfl
  · obtain ⟨r, _, rfl⟩ := List.mem_map.mp hk
    obtain ⟨q, _, rfl⟩ := List.mem_map.mp hk'
    show PySem.W.alike (.tuple [.int r.length, .list (toPs (r.map D.int))]) (.tuple [.int q.length, .list (toPs (q.map D.int))]) = true
    rw [toP_ints, toP_ints]
    simp only [PySem.W.alike, PySem.W.alikeAll, PySem.W.alike_ints, Bool.and_self]
  · obtain ⟨r, _, rfl⟩ := List.mem_map.mp hk; rfl
theorem ring_in_ok {n : Nat} {ps : Ps} (G : Good n ps) : (F_ring_in [.int n, .lst false (psD ps)] = .ok .non ∧ ∀ r, ¬ IsRing ps r) ∨ ∃ r, F_ring_in [.int n, .lst false (psD ps)] = .ok (.lst true (r.map .int)) ∧ BestRing ps r := by
  obtain ⟨rows, x3, x4, e, hl, hm⟩ := rows_ok G
  have n9 := G.n9
  have hn : (n : Int) ≤ 16777216 := by omega
  have hn2 : -(2 : Int) ^ 62 ≤ (n : Int) := by omega
  have good : ∀ q ∈ ps, 0 ≤ q.2 ∧ q.2 < (n : Int) := fun q hq => by obtain ⟨_, _, c, d, _⟩ := G.ok q hq; exact ⟨c, d⟩
  have hlen : ∀ r ∈ rows, r.length ≤ 16777216 := fun r hr => by
    obtain ⟨s, o, h1, h2⟩ := (hm r).mp hr
    obtain ⟨_, _, c, d, _⟩ := G.ok _ h1
    have := nodup_bound h2.nodup (h2.way.mem good ⟨c, d⟩)
    omega
  have hk := keys_rw rows hlen
  have main : runF s_ring_in 7 [.int n, .lst false (psD ps)] = minFin FL_ring_in_l1 (some []) (.lst false (rows.map rwD)) .non := by
    simp only [runF, env0, endF, seqS, asgS, retS, ifS, nilS, brkS, cntS, drpS, mutS, forS, unpS, parS, keepM, frzM, gApp, op2, op1, vr, cI, cS, cB, cN, cT, De.get, Res.bind, lift, tst, toB, andB, orB, notB, andV, orV, notV, ifV, chn, consA, nilA, lstA, tupA, calA, fnA, strM, tgetA, lcA, itm, rngA, prtN, prtE, prtI, slA, dI, g1, g2, frz, frz_lst, frz_tup, frz_rol, frzs, frzs_ints, frzs_strs, frzs_app, frzs_len, af, af.afs, afs_ints, afs_strs, frzs_bls, dAll_map, dAny_map, all_tt, List.map_cons, List.map_nil, List.length_cons, List.length_nil, List.cons_append, List.nil_append, List.replicate, List.getElem?_cons_zero, List.getElem?_cons_succ, List.set_cons_zero, List.set_cons_succ, List.set, if_true, if_false, Bool.or_true, Bool.true_or, Bool.or_false, Bool.false_or, Bool.and_true, Bool.true_and, Bool.and_false, Bool.false_and, Bool.not_true, Bool.not_false, Option.map_some, Option.map_none, Option.bind_some, Option.bind_none, List.length_map, reduceIte, itemsL, itemsT, Option.map, Option.bind, Tg.bind, setN, List.append_nil, Nat.sub_zero, Nat.zero_add, ite_true, ite_false, Nat.zero_le, Nat.reduceAdd, Nat.reduceLeDiff, Nat.reduceSub, Nat.reduceMul, Nat.reduceEqDiff, Int.reduceLT, Int.reduceLE, Bool.false_eq_true, reduceCtorEq, and_true, true_and, and_self, runF, s_ring_in, hn, hn2, and_self, frzs_ps, e, minKA, capD, frzs_rw, Int.toNat_natCast]
    generalize minFin FL_ring_in_l1 (some []) (.lst false (rows.map rwD)) .non = q
    cases q <;> rfl
  cases rows with
  | nil =>
    refine .inl ⟨?_, fun r ⟨s, o, h1, h2⟩ => ?_⟩
    · show upR _ (runF s_ring_in 7 _) = _
      rw [main]
      rfl
    · obtain ⟨q, hq⟩ := G.best s o r h1 h2
      have := (hm q).mpr ⟨s, o, h1, hq⟩
      cases this
  | cons r0 rest =>
    have gd : ∀ i, i < (r0 :: rest).length → ((r0 :: rest).map keyD2).getD i .non = keyD2 ((r0 :: rest).getD i []) := fun i hi => by
      rw [List.getD_eq_getElem?_getD, List.getD_eq_getElem?_getD, List.getElem?_map, List.getElem?_eq_getElem hi]; rfl
    have hb := argBest_min (fun i => (r0 :: rest).getD (min i rest.length) []) ble (fun i j => ltK ((r0 :: rest).map keyD2) (min i rest.length) (min j rest.length)) (fun a b c => ble_trans) ble_total (fun i j => by
      show PySem.W.dataLt (toP (((r0 :: rest).map keyD2).getD (min i rest.length) .non)) (toP (((r0 :: rest).map keyD2).getD (min j rest.length) .non)) = true ↔ _
      rw [gd _ (by rw [List.length_cons]; omega), gd _ (by rw [List.length_cons]; omega)]
      exact keyD2_lt _ _) (rest.length)
    have same : ∀ k, k ≤ rest.length → argBest (fun i j => ltK ((r0 :: rest).map keyD2) (min i rest.length) (min j rest.length)) k = argBest (ltK ((r0 :: rest).map keyD2)) k ∧ argBest (ltK ((r0 :: rest).map keyD2)) k ≤ k := by
      intro k
      induction k with
      | zero => exact fun _ => ⟨rfl, Nat.le_refl _⟩
      | succ k ih =>
        intro hk
        obtain ⟨e1, e2⟩ := ih (by omega)
        show (if ltK ((r0 :: rest).map keyD2) (min (k + 1) rest.length) (min (argBest _ k) rest.length) = true then k + 1 else argBest _ k) = (if ltK ((r0 :: rest).map keyD2) (k + 1) (argBest (ltK ((r0 :: rest).map keyD2)) k) = true then k + 1 else argBest (ltK ((r0 :: rest).map keyD2)) k) ∧ (if ltK ((r0 :: rest).map keyD2) (k + 1) (argBest (ltK ((r0 :: rest).map keyD2)) k) = true then k + 1 else argBest (ltK ((r0 :: rest).map keyD2)) k) ≤ k + 1
        rw [e1, Nat.min_eq_left hk, Nat.min_eq_left (by omega)]
        exact ⟨rfl, by split <;> omega⟩
    obtain ⟨q1, q2⟩ := same rest.length (Nat.le_refl _)
    rw [q1] at hb
    obtain ⟨b1, b2⟩ := hb
    have hi : argBest (ltK ((r0 :: rest).map keyD2)) rest.length < (r0 :: rest).length := by rw [List.length_cons]; omega
    have hmem := List.getElem_mem hi
    refine .inr ⟨(r0 :: rest)[argBest (ltK ((r0 :: rest).map keyD2)) rest.length], ?_, ?_⟩
    · show upR _ (runF s_ring_in 7 _) = _
      rw [main]
      have e3 : minFin FL_ring_in_l1 (some []) (.lst false ((r0 :: rest).map rwD)) .non = lift ((r0 :: rest).map rwD)[argBest (ltK ((r0 :: rest).map keyD2)) (((r0 :: rest).map rwD).length - 1)]? := by
        unfold minFin itemsO
        dsimp only
        rw [hk]
        dsimp only
        rw [if_pos (keysB_rw (r0 :: rest))]
        rfl
      rw [e3, List.length_map, List.length_cons, Nat.add_sub_cancel, List.getElem?_map, List.getElem?_eq_getElem hi]
      obtain ⟨s, o, h1, h2⟩ := (hm _).mp hmem
      have hp := h2.way.pos
      generalize (r0 :: rest)[argBest (ltK ((r0 :: rest).map keyD2)) rest.length] = r at hp
      have hps : noIs (psD ps) = true := by
        have key : ∀ l : Ps, noIs (psD l) = true := by
          intro l
          induction l with
          | nil => rfl
          | cons p l ih => show (noI (pD p) && noIs (psD l)) = true; rw [ih]; rfl
        exact key ps
      have hh : hdI (psD ps) = false := by cases ps <;> rfl
      have hal : (r.map D.int).all isI = true := by rw [List.all_map, List.all_eq_true]; intro x _; rfl
      have hdr : hdI (r.map D.int) = true := by
        cases r with
        | nil => simp at hp
        | cons x r => rfl
      have hno : noIs [.int (n : Int), .lst false (psD ps)] = true := by
        show (true && ((noIs (psD ps) && !(hdI (psD ps))) && true)) = true
        rw [hps, hh]; rfl
      show upR _ (.ok (.lst false (r.map .int))) = _
      unfold upR
      dsimp only
      rw [if_pos (by rw [hno, hdr, hal]; rfl)]
    · refine best_ring ((hm _).mp hmem) (fun r hr => ?_) G.best
      obtain ⟨j, hj, e⟩ := List.mem_iff_getElem.mp ((hm r).mpr hr)
      have := b2 j (by rw [List.length_cons] at hj; omega)
      rw [Nat.min_eq_left (by omega), Nat.min_eq_left (by rw [List.length_cons] at hj; omega)] at this
      rw [List.getD_eq_getElem?_getD, List.getD_eq_getElem?_getD, List.getElem?_eq_getElem hi, List.getElem?_eq_getElem hj, e] at this
      exact this
end Cm
set_option Elab.async false
set_option linter.all false
namespace Gr
/-! ### orders: sets as numbers -/
def free (ms : List Nat) (d : Nat) : List Nat := (List.range ms.length).filter fun s => !d.testBit s && decide (ms.getD s 0 &&& d = ms.getD s 0)
abbrev whole (ms : List Nat) : Nat := 2 ^ ms.length - 1
/-- a list goes on behind the set d to the whole, each sign free where it comes -/
def Go (ms : List Nat) : Nat → List Nat → Prop
  | d, [] => d = whole ms
  | d, s :: r => s ∈ free ms d ∧ Go ms (d ||| 2 ^ s) r
theorem free_mem {ms : List Nat} {d s : Nat} : s ∈ free ms d ↔ s < ms.length ∧ d.testBit s = false ∧ ms.getD s 0 &&& d = ms.getD s 0 := by
  unfold free
  rw [List.mem_filter, List.mem_range]
  simp only [Bool.and_eq_true, Bool.not_eq_true', decide_eq_true_eq]
theorem or_gt {d s : Nat} (h : d.testBit s = false) : d < d ||| 2 ^ s := by
  have h1 : d ≤ d ||| 2 ^ s := Nat.left_le_or
  have h2 : d ≠ d ||| 2 ^ s := fun e => by
    have : (d ||| 2 ^ s).testBit s = true := by rw [Nat.testBit_or, Nat.testBit_two_pow_self]; simp
    rw [← e, h] at this
    cases this
  omega
theorem or_lt {ms : List Nat} {d s : Nat} (hd : d < 2 ^ ms.length) (hs : s < ms.length) : d ||| 2 ^ s < 2 ^ ms.length := Nat.or_lt_two_pow hd (Nat.pow_lt_pow_right (by decide) hs)
theorem whole_bit {ms : List Nat} {s : Nat} : (whole ms).testBit s = decide (s < ms.length) := Nat.testBit_two_pow_sub_one ms.length s
theorem free_ne {ms : List Nat} {d s : Nat} (h : s ∈ free ms d) : d ≠ whole ms := fun e => by
  obtain ⟨h1, h2, _⟩ := free_mem.mp h
  rw [e, whole_bit, decide_eq_true h1] at h2
  cases h2
theorem two_pos (n : Nat) : 0 < 2 ^ n := Nat.two_pow_pos n
/-- all that go on behind d, in the order of lists -/
def exts (ms : List Nat) : Nat → Nat → List (List Nat)
  | 0, d => if d = whole ms then [[]] else []
  | k + 1, d => if d = whole ms then [[]] else (free ms d).flatMap fun s => (exts ms k (d ||| 2 ^ s)).map (s :: ·)
theorem exts_go {ms : List Nat} : ∀ (k d : Nat) (o : List Nat), o ∈ exts ms k d → Go ms d o
  | 0, d, o, h => by
    unfold exts at h
    split at h
    · rw [List.mem_singleton.mp h]; assumption
    · cases h
  | k + 1, d, o, h => by
    unfold exts at h
    split at h
    · rw [List.mem_singleton.mp h]; assumption
    · obtain ⟨s, hs, h2⟩ := List.mem_flatMap.mp h
      obtain ⟨r, hr, rfl⟩ := List.mem_map.mp h2
      exact ⟨hs, exts_go k _ r hr⟩
theorem go_exts {ms : List Nat} : ∀ (k d : Nat) (o : List Nat), d < 2 ^ ms.length → whole ms - d ≤ k → Go ms d o → o ∈ exts ms k d
  | 0, d, o, hd, hk, h => by
    have e : d = whole ms := by unfold whole at *; have := two_pos ms.length; omega
    unfold exts
    rw [if_pos e]
    cases o with
    | nil => simp
    | cons s r => exact absurd e (free_ne h.1)
  | k + 1, d, o, hd, hk, h => by
    unfold exts
    cases o with
    | nil => rw [if_pos (show d = whole ms from h)]; simp
    | cons s r =>
      rw [if_neg (free_ne h.1)]
      obtain ⟨h1, h2, _⟩ := free_mem.mp h.1
      have := or_gt h2
      exact List.mem_flatMap.mpr ⟨s, h.1, List.mem_map.mpr ⟨r, go_exts k _ r (or_lt hd h1) (by omega) h.2, rfl⟩⟩
/-- the numbers of ways on, as a table -/
structure IsWays (ms ws : List Nat) : Prop where
  len : ws.length = 2 ^ ms.length
  top : ws.getD (whole ms) 0 = 1
  sum : ∀ d, d < whole ms → ws.getD d 0 = ((free ms d).map fun s => ws.getD (d ||| 2 ^ s) 0).sum
theorem ways_len {ms ws : List Nat} (W : IsWays ms ws) : ∀ (k d : Nat), d < 2 ^ ms.length → whole ms - d ≤ k → ws.getD d 0 = (exts ms k d).length
  | 0, d, hd, hk => by
    have e : d = whole ms := by unfold whole at *; have := two_pos ms.length; omega
    unfold exts
    rw [if_pos e, e, W.top]; rfl
  | k + 1, d, hd, hk => by
    unfold exts
    by_cases e : d = whole ms
    · rw [if_pos e, e, W.top]; rfl
    · rw [if_neg e, W.sum d (by unfold whole at *; omega), List.length_flatMap]
      congr 1
      refine List.map_congr_left fun s hs => ?_
      obtain ⟨h1, h2, _⟩ := free_mem.mp hs
      have := or_gt h2
      rw [List.length_map]
      exact ways_len W k _ (or_lt hd h1) (by omega)
/-- the sign that comes next in the list of number k -/
def pickS (f : Nat → Nat) : List Nat → Nat → Option (Nat × Nat)
  | [], _ => none
  | s :: r, k => if k < f s then some (s, k) else pickS f r (k - f s)
theorem pick_some {α : Type} {f : Nat → Nat} {g : Nat → List α} : ∀ (l : List Nat) (k : Nat), (∀ s ∈ l, f s = (g s).length) → k < (l.flatMap g).length → ∃ s k', pickS f l k = some (s, k') ∧ s ∈ l ∧ k' < f s ∧ (l.flatMap g)[k]? = (g s)[k']?
  | [], k, _, h => by simp at h
  | s :: r, k, hf, h => by
    unfold pickS
    by_cases hk : k < f s
    · rw [if_pos hk]
      refine ⟨s, k, rfl, List.mem_cons_self .., hk, ?_⟩
      rw [List.flatMap_cons, List.getElem?_append_left (by rw [← hf s (List.mem_cons_self ..)]; exact hk)]
    · rw [if_neg hk]
      rw [List.flatMap_cons, List.length_append, ← hf s (List.mem_cons_self ..)] at h
      obtain ⟨s', k', h1, h2, h3, h4⟩ := pick_some r (k - f s) (fun x hx => hf x (List.mem_cons_of_mem _ hx)) (by omega)
      refine ⟨s', k', h1, List.mem_cons_of_mem _ h2, h3, ?_⟩
      rw [List.flatMap_cons, List.getElem?_append_right (by rw [← hf s (List.mem_cons_self ..)]; omega), ← hf s (List.mem_cons_self ..)]
      exact h4
theorem idx_ne {x y : Nat} {l : List Nat} (h : x ≠ y) : (x :: l).idxOf y = l.idxOf y + 1 := by
  rw [List.idxOf_cons, show (x == y) = false from beq_eq_false_iff_ne.mpr h]; rfl
/-! ### what such a list is -/
section
variable {ms : List Nat}
theorem go_props : ∀ (o : List Nat) (d : Nat), Go ms d o → o.Nodup ∧ (∀ s ∈ o, s < ms.length ∧ d.testBit s = false) ∧ (∀ s, s < ms.length → d.testBit s = true ∨ s ∈ o)
  | [], d, h => ⟨.nil, fun s hs => (by cases hs), fun s hs => .inl (by rw [show d = whole ms from h, whole_bit, decide_eq_true hs])⟩
  | s :: r, d, h => by
    obtain ⟨h1, h2⟩ := h
    obtain ⟨f1, f2, f3⟩ := free_mem.mp h1
    obtain ⟨g1, g2, g3⟩ := go_props r _ h2
    have bit : ∀ x, (d ||| 2 ^ s).testBit x = (d.testBit x || decide (s = x)) := fun x => by rw [Nat.testBit_or, Nat.testBit_two_pow]
    refine ⟨List.nodup_cons.mpr ⟨fun z => ?_, g1⟩, fun x hx => ?_, fun x hx => ?_⟩
    · have := (g2 s z).2
      rw [bit] at this
      simp at this
    · rcases List.mem_cons.mp hx with z | z
      · rw [z]; exact ⟨f1, f2⟩
      · obtain ⟨a, b⟩ := g2 x z
        rw [bit] at b
        simp only [Bool.or_eq_false_iff] at b
        exact ⟨a, b.1⟩
    · rcases g3 x hx with z | z
      · rw [bit] at z
        simp only [Bool.or_eq_true, decide_eq_true_eq] at z
        rcases z with z | z
        · exact .inl z
        · exact .inr (by rw [z]; exact List.mem_cons_self ..)
      · exact .inr (List.mem_cons_of_mem _ z)
theorem go_keeps : ∀ (o : List Nat) (d : Nat), Go ms d o → ∀ u v, v ∈ o → (ms.getD v 0).testBit u = true → d.testBit u = true ∨ (u ∈ o ∧ o.idxOf u < o.idxOf v)
  | [], d, h, u, v, hv, _ => by cases hv
  | s :: r, d, h, u, v, hv, hb => by
    obtain ⟨h1, h2⟩ := h
    obtain ⟨f1, f2, f3⟩ := free_mem.mp h1
    by_cases e : s = v
    · subst e
      refine .inl ?_
      have := congrArg (fun m => Nat.testBit m u) f3
      simp only [Nat.testBit_and, hb, Bool.true_and] at this
      exact this
    · have hv' : v ∈ r := (List.mem_cons.mp hv).resolve_left fun z => e z.symm
      by_cases e2 : s = u
      · subst e2
        refine .inr ⟨List.mem_cons_self .., ?_⟩
        rw [List.idxOf_cons_self, idx_ne e]
        omega
      · rcases go_keeps r _ h2 u v hv' hb with z | ⟨z1, z2⟩
        · rw [Nat.testBit_or, Nat.testBit_two_pow] at z
          simp only [Bool.or_eq_true, decide_eq_true_eq] at z
          exact .inl (z.resolve_right e2)
        · refine .inr ⟨List.mem_cons_of_mem _ z1, ?_⟩
          rw [idx_ne e2, idx_ne e]
          omega
end
/-- the masks of pairs -/
structure Masks (n : Nat) (ps : Ps) (ms : List Nat) : Prop where
  len : ms.length = n
  bit : ∀ v u, v < n → ((ms.getD v 0).testBit u = true ↔ ((u : Int), (v : Int)) ∈ ps)
structure Keeps (n : Nat) (ps : Ps) (o : List Nat) : Prop where
  nd : o.Nodup
  lt : ∀ s ∈ o, s < n
  all : ∀ s, s < n → s ∈ o
  ord : ∀ u v : Nat, ((u : Int), (v : Int)) ∈ ps → o.idxOf u < o.idxOf v
section
variable {n : Nat} {ps : Ps} {ms : List Nat}
theorem Go.keeps (M : Masks n ps ms) (good : ∀ p ∈ ps, 0 ≤ p.1 ∧ p.1 < (n : Int) ∧ 0 ≤ p.2 ∧ p.2 < (n : Int)) {o : List Nat} (h : Go ms 0 o) : Keeps n ps o := by
  obtain ⟨h1, h2, h3⟩ := go_props o 0 h
  have all : ∀ s, s < n → s ∈ o := fun s hs => (h3 s (by rw [M.len]; exact hs)).resolve_left (by simp)
  refine ⟨h1, fun s hs => by rw [← M.len]; exact (h2 s hs).1, all, fun u v hp => ?_⟩
  obtain ⟨_, _, c, d⟩ := good _ hp
  have hv : v < n := by dsimp only at d; omega
  rcases go_keeps o 0 h u v (all v hv) ((M.bit v u hv).mpr hp) with z | ⟨_, z⟩
  · simp at z
  · exact z
theorem way_idx {o : List Nat} (K : Keeps n ps o) (good : ∀ p ∈ ps, 0 ≤ p.1 ∧ p.1 < (n : Int) ∧ 0 ≤ p.2 ∧ p.2 < (n : Int)) {s v : Int} {p : List Int} (h : Way ps s p v) : o.idxOf s.toNat ≤ o.idxOf v.toNat := by
  induction h with
  | one => exact Nat.le_refl _
  | snoc a b ih =>
    rename_i p u v
    obtain ⟨h1, h2, h3, h4⟩ := good _ b
    have := K.ord u.toNat v.toNat (by rw [show ((u.toNat : Nat) : Int) = u by omega, show ((v.toNat : Nat) : Int) = v by omega]; exact b)
    omega
/-- an order that keeps the pairs leaves no ring -/
theorem Keeps.noRing {o : List Nat} (K : Keeps n ps o) (good : ∀ p ∈ ps, 0 ≤ p.1 ∧ p.1 < (n : Int) ∧ 0 ≤ p.2 ∧ p.2 < (n : Int)) (r : List Int) : ¬ IsRing ps r := fun ⟨s, v, h1, h2⟩ => by
  have a := way_idx K good h2
  have b := way_idx K good (Way.snoc .one h1)
  obtain ⟨g1, g2, g3, g4⟩ := good _ h1
  have := K.ord v.toNat s.toNat (by rw [show ((v.toNat : Nat) : Int) = v by omega, show ((s.toNat : Nat) : Int) = s by omega]; exact h1)
  omega
theorem Way.cons {u s v : Int} {p : List Int} (hp : (u, s) ∈ ps) (h : Way ps s p v) : Way ps u (u :: p) v := by
  induction h with
  | one => exact Way.snoc (p := [u]) .one hp
  | snoc a b ih => exact .snoc ih b
theorem Way.suffix {s v : Int} {p : List Int} (h : Way ps s p v) : ∀ x ∈ p, ∃ q, Way ps x q v := by
  induction h with
  | one => intro x hx; rw [List.mem_singleton.mp hx]; exact ⟨_, .one⟩
  | snoc a b ih =>
    intro x hx
    rcases List.mem_append.mp hx with z | z
    · obtain ⟨q, hq⟩ := ih x z
      exact ⟨_, .snoc hq b⟩
    · rw [List.mem_singleton.mp z]; exact ⟨_, .one⟩
theorem Way.ring {s v : Int} {p : List Int} (h : Way ps s p v) : ¬ p.Nodup → ∃ r, IsRing ps r := by
  induction h with
  | one => intro z; exact absurd (by simp) z
  | snoc a b ih =>
    rename_i p u v
    intro z
    by_cases hp : p.Nodup
    · have hv : v ∈ p := Classical.byContradiction fun w => z (List.nodup_append.mpr ⟨hp, by simp, fun x hx y hy e => w (by rw [show v = y from (List.mem_singleton.mp hy).symm, ← e]; exact hx)⟩)
      obtain ⟨q, hq⟩ := a.suffix v hv
      exact ⟨q, v, u, b, hq⟩
    · exact ih hp
/-- without a ring some sign is free behind each set -/
theorem free_some (M : Masks n ps ms) (good : ∀ p ∈ ps, 0 ≤ p.1 ∧ p.1 < (n : Int) ∧ 0 ≤ p.2 ∧ p.2 < (n : Int)) (nr : ∀ r, ¬ IsRing ps r) {d : Nat} (hd : d < 2 ^ ms.length) (ne : d ≠ whole ms) : ∃ s, s ∈ free ms d := by
  refine Classical.byContradiction fun no => ?_
  have no : ∀ s, s ∉ free ms d := fun s h => no ⟨s, h⟩
  have back : ∀ v : Nat, v < n → d.testBit v = false → ∃ u : Nat, u < n ∧ d.testBit u = false ∧ ((u : Int), (v : Int)) ∈ ps := fun v hv hb => by
    have h := no v
    rw [free_mem] at h
    have hm : ¬ (ms.getD v 0 &&& d = ms.getD v 0) := fun z => h ⟨by rw [M.len]; exact hv, hb, z⟩
    refine Classical.byContradiction fun w => hm (Nat.eq_of_testBit_eq fun u => ?_)
    rw [Nat.testBit_and]
    cases hu : (ms.getD v 0).testBit u with
    | false => rfl
    | true =>
      have hp := (M.bit v u hv).mp hu
      obtain ⟨_, g2, _, _⟩ := good _ hp
      dsimp only at g2
      cases hd2 : d.testBit u with
      | true => rfl
      | false => exact absurd ⟨u, by omega, hd2, hp⟩ w
  have hv0 : ∃ v, v < n ∧ d.testBit v = false := Classical.byContradiction fun w => ne (Nat.eq_of_testBit_eq fun u => by
    rw [whole_bit]
    by_cases hu : u < ms.length
    · rw [decide_eq_true hu]
      cases h : d.testBit u with
      | true => rfl
      | false => exact absurd ⟨u, by rw [← M.len]; exact hu, h⟩ w
    · rw [decide_eq_false hu]
      exact Nat.testBit_lt_two_pow (Nat.lt_of_lt_of_le hd (Nat.pow_le_pow_right (by decide) (by omega))))
  have long : ∀ k : Nat, ∃ (s : Nat) (p : List Int) (v : Int), s < n ∧ d.testBit s = false ∧ Way ps s p v ∧ p.length = k + 1 := by
    intro k
    induction k with
    | zero =>
      obtain ⟨v, h1, h2⟩ := hv0
      exact ⟨v, [(v : Int)], v, h1, h2, .one, rfl⟩
    | succ k ih =>
      obtain ⟨s, p, v, h1, h2, h3, h4⟩ := ih
      obtain ⟨u, g1, g2, g3⟩ := back s h1 h2
      exact ⟨u, (u : Int) :: p, v, g1, g2, h3.cons g3, by simp [h4]⟩
  obtain ⟨s, p, v, h1, _, h3, h4⟩ := long n
  have : ¬ p.Nodup := fun nd => by
    have := nodup_bound nd (h3.mem (fun q hq => by obtain ⟨_, _, c, d⟩ := good q hq; exact ⟨c, d⟩) ⟨by omega, by omega⟩)
    omega
  obtain ⟨r, hr⟩ := h3.ring this
  exact nr r hr
theorem go_some (M : Masks n ps ms) (good : ∀ p ∈ ps, 0 ≤ p.1 ∧ p.1 < (n : Int) ∧ 0 ≤ p.2 ∧ p.2 < (n : Int)) (nr : ∀ r, ¬ IsRing ps r) : ∀ (k d : Nat), d < 2 ^ ms.length → whole ms - d ≤ k → ∃ o, Go ms d o
  | 0, d, hd, hk => ⟨[], by show d = whole ms; unfold whole at *; have := two_pos ms.length; omega⟩
  | k + 1, d, hd, hk => by
    by_cases e : d = whole ms
    · exact ⟨[], e⟩
    · obtain ⟨s, hs⟩ := free_some M good nr hd e
      obtain ⟨h1, h2, _⟩ := free_mem.mp hs
      have := or_gt h2
      obtain ⟨o, ho⟩ := go_some M good nr k (d ||| 2 ^ s) (or_lt hd h1) (by omega)
      exact ⟨s :: o, hs, ho⟩
end
end Gr
set_option Elab.async false
set_option linter.all false
namespace Bm
open PySem
theorem b_and (a b : Nat) : Builtin.bitAnd (a : Int) (b : Int) = ((a &&& b : Nat) : Int) := by
  rw [PyProof.Rows.bitAnd_pp (by omega) (by omega)]
  simp
theorem b_or (a b : Nat) : Builtin.bitOr (a : Int) (b : Int) = ((a ||| b : Nat) : Int) := by
  unfold Builtin.bitOr
  have h1 : ¬ (0 : Int) ≤ Builtin.bitNot (a : Int) := by unfold Builtin.bitNot; omega
  have h2 : ¬ (0 : Int) ≤ Builtin.bitNot (b : Int) := by unfold Builtin.bitNot; omega
  rw [PyProof.Rows.bitAnd_nn h1 h2]
  unfold Builtin.bitNot
  have e : ∀ x : Int, -(-x - 1) - 1 = x := fun x => by omega
  rw [e, e, e]
  simp
theorem b_andnot (m d : Nat) : (Builtin.bitAnd (m : Int) (Builtin.bitNot (d : Int)) = 0) ↔ (m &&& d = m) := by
  rw [PyProof.Rows.bitAnd_not, b_and]
  omega
theorem b_and1 (a : Nat) : Builtin.bitAnd (a : Int) 1 = ((a % 2 : Nat) : Int) := by
  have := b_and a 1
  rw [Nat.and_one_is_mod] at this
  exact this
theorem shr_bit (d s : Nat) : (Builtin.bitAnd ((d : Int) / 2 ^ s) 1 = 0) ↔ d.testBit s = false := by
  have e : ((d : Int) / 2 ^ s) = ((d / 2 ^ s : Nat) : Int) := by norm_cast
  rw [e, b_and1, Nat.testBit_eq_decide_div_mod_eq]
  constructor
  · intro h
    have : d / 2 ^ s % 2 = 0 := by exact_mod_cast h
    simp [this]
  · intro h
    have h2 : ¬ (d / 2 ^ s % 2 = 1) := by simpa using h
    have : d / 2 ^ s % 2 = 0 := by omega
    exact_mod_cast this
end Bm
set_option Elab.async false
set_option linter.all false
set_option maxRecDepth 100000
namespace Cm
open PySem De Gr Bm
open L2 (Key)

abbrev nD (m : Nat) : D := .int (m : Int)
theorem frzs_nD (l : List Nat) : frzs (l.map nD) = l.map nD := by rw [frzs_eq, List.map_map]; rfl
theorem afs_nD : ∀ l : List Nat, af.afs (l.map nD) = true
  | [] => rfl
  | a :: l => by show (true && af.afs (l.map nD)) = true; rw [afs_nD l]; rfl
theorem atI_nD {l : List Nat} {j : Nat} (h : j < l.length) : L2.atI (l.map nD) (j : Int) = some (nD (l.getD j 0)) := atI_nat' (by rw [List.getElem?_map, List.getElem?_eq_getElem h, List.getD_eq_getElem?_getD, List.getElem?_eq_getElem h]; rfl)
theorem ix_nD {l : List Nat} {j : Nat} (h : j < l.length) : dIx (.lst false (l.map nD)) (.int (j : Int)) = some (nD (l.getD j 0)) := atI_nD h
theorem shl_ok {s : Nat} (h : s ≤ 1000000) : dShl (.int 1) (.int (s : Int)) = some (nD (2 ^ s)) := by
  show (if (0 : Int) ≤ s ∧ (s : Int) ≤ 1000000 ∧ (1 : Int).natAbs < 18446744073709551616 then some (D.int (1 * 2 ^ (s : Int).toNat)) else none) = _
  rw [if_pos ⟨by omega, by omega, by decide⟩, Int.one_mul, Int.toNat_natCast]
  show some (D.int ((2 : Int) ^ s)) = some (D.int ((2 ^ s : Nat) : Int))
  rw [Int.natCast_pow]; rfl
theorem bor_nD (a b : Nat) : dBor (nD a) (nD b) = some (nD (a ||| b)) := by
  show some (D.int (Builtin.bitOr a b)) = _
  rw [b_or]
/-! ### needs -/
theorem mul0_ok {n : Nat} (n9 : n ≤ 1000) : dMul (.lst false [.int 0]) (.int (n : Int)) = some (.lst true ((List.replicate n 0).map nD)) := by
  have h1 : De.small64 (2 * (n : Int)) = true := small_of (by omega) (by omega)
  have h2 : szOk (([.int 0] : List D).length * (n : Int).toNat) = true := szOk_of (by rw [Int.toNat_natCast, List.length_singleton]; omega)
  simp only [dMul, h1, h2, Bool.and_self, if_true]
  rw [Int.toNat_natCast]
  have : ∀ k : Nat, (List.replicate k [D.int 0]).flatten = (List.replicate k 0).map nD := by
    intro k
    induction k with
    | zero => rfl
    | succ k ih => rw [List.replicate_succ, List.replicate_succ, List.flatten_cons, ih]; rfl
  rw [this]
theorem needs_end {n : Int} {P z Q : List D} {x y} (hm : dMul (.lst false [.int 0]) (.int n) = some (.lst true z)) (ha : af.afs z = true) (hp : frzs P = P) (hq : frzs Q = Q)
  (e : forGo (.tup [3, 4]) b1_needs P [some (.int n), some (.lst false P), some (.lst true z), none, none] = .nx [some (.int n), some (.lst false P), some (.lst true Q), x, y]) : 
  F_needs [.int n, .lst false P] = .ok (.lst false Q) := by
  simp only [runF, env0, endF, seqS, asgS, retS, ifS, nilS, brkS, cntS, drpS, mutS, forS, unpS, parS, keepM, frzM, gApp, op2, op1, vr, cI, cS, cB, cN, cT, De.get, Res.bind, lift, tst, toB, andB, orB, notB, andV, orV, notV, ifV, chn, consA, nilA, lstA, tupA, calA, fnA, strM, tgetA, lcA, itm, rngA, prtN, prtE, prtI, slA, dI, g1, g2, frz, frz_lst, frz_tup, frz_rol, frzs, frzs_ints, frzs_strs, frzs_app, frzs_len, af, af.afs, afs_ints, afs_strs, frzs_bls, dAll_map, dAny_map, all_tt, List.map_cons, List.map_nil, List.length_cons, List.length_nil, List.cons_append, List.nil_append, List.replicate, List.getElem?_cons_zero, List.getElem?_cons_succ, List.set_cons_zero, List.set_cons_succ, List.set, if_true, if_false, Bool.or_true, Bool.true_or, Bool.or_false, Bool.false_or, Bool.and_true, Bool.true_and, Bool.and_false, Bool.false_and, Bool.not_true, Bool.not_false, Option.map_some, Option.map_none, Option.bind_some, Option.bind_none, List.length_map, reduceIte, itemsL, itemsT, Option.map, Option.bind, Tg.bind, setN, List.append_nil, Nat.sub_zero, Nat.zero_add, ite_true, ite_false, Nat.zero_le, Nat.reduceAdd, Nat.reduceLeDiff, Nat.reduceSub, Nat.reduceMul, Nat.reduceEqDiff, Int.reduceLT, Int.reduceLE, Bool.false_eq_true, reduceCtorEq, and_true, true_and, and_self, F_needs, s_needs, itD, hm, ha, hp, e, hq]
theorem needs_ok {n : Nat} {ps : Ps} (G : Good n ps) : ∃ ms : List Nat, F_needs [.int n, .lst false (psD ps)] = .ok (.lst false (ms.map nD)) ∧ Masks n ps ms ∧ ∀ m ∈ ms, m < 2 ^ n := by
  have n9 := G.n9
  let I : List D → De.Env → Prop := fun pre ρ => ∃ (qs : Ps) (ms : List Nat) (x y : Option D), pre = psD qs ∧ ρ = [some (.int n), some (.lst false (psD ps)), some (.lst true (ms.map nD)), x, y] ∧ Masks n qs ms ∧ ∀ m ∈ ms, m < 2 ^ n
  have key : ∃ ρ', forGo (.tup [3, 4]) b1_needs (psD ps) [some (.int n), some (.lst false (psD ps)), some (.lst true ((List.replicate n 0).map nD)), none, none] = .nx ρ' ∧ I (psD ps) ρ' := by
    refine forGo_all I (psD ps) ⟨[], List.replicate n 0, none, none, rfl, rfl, ⟨by simp, fun v u hv => ?_⟩, fun m hm => by rw [List.eq_of_mem_replicate hm]; exact two_pos n⟩ ?_
    · rw [List.getD_eq_getElem?_getD, List.getElem?_replicate, if_pos hv]
      simp
    · rintro pre d post ρ ⟨qs, ms, x, y, rfl, rfl, M, hb⟩ hall
      obtain ⟨p, hp, rfl⟩ := List.mem_map.mp (show d ∈ psD ps by rw [hall]; simp)
      obtain ⟨a1, a2, a3, a4, a5⟩ := G.ok p hp
      obtain ⟨u, hu⟩ : ∃ u : Nat, p.1 = u := ⟨p.1.toNat, by omega⟩
      obtain ⟨v, hv⟩ : ∃ v : Nat, p.2 = v := ⟨p.2.toNat, by omega⟩
      have e1 := shl_ok (s := u) (by omega)
      have hvn : v < ms.length := by rw [M.len]; omega
      have e2 : (ms.map nD)[v]? = some (nD (ms.getD v 0)) := by rw [List.getElem?_map, List.getElem?_eq_getElem hvn, List.getD_eq_getElem?_getD, List.getElem?_eq_getElem hvn]; rfl
      have e3 := bor_nD (ms.getD v 0) (2 ^ u)
      have e4 : (ms.map nD).set v (nD (ms.getD v 0 ||| 2 ^ u)) = (ms.set v (ms.getD v 0 ||| 2 ^ u)).map nD := by rw [List.map_set]
      have h0 : (0 : Int) ≤ (v : Int) := by omega
      refine ⟨[some (.int n), some (.lst false (psD ps)), some (.lst true (ms.map nD)), some (.int p.1), some (.int p.2)], [some (.int n), some (.lst false (psD ps)), some (.lst true ((ms.set v (ms.getD v 0 ||| 2 ^ u)).map nD)), some (.int p.1), some (.int p.2)], rfl, .inl ?_, qs ++ [p], ms.set v (ms.getD v 0 ||| 2 ^ u), some (.int p.1), some (.int p.2), by simp, rfl, ⟨by rw [List.length_set]; exact M.len, fun v' u' hv' => ?_⟩, fun m hm => ?_⟩
      · rw [hu, hv]
        simp only [runF, env0, endF, seqS, asgS, retS, ifS, nilS, brkS, cntS, drpS, mutS, forS, unpS, parS, keepM, frzM, gApp, op2, op1, vr, cI, cS, cB, cN, cT, De.get, Res.bind, lift, tst, toB, andB, orB, notB, andV, orV, notV, ifV, chn, consA, nilA, lstA, tupA, calA, fnA, strM, tgetA, lcA, itm, rngA, prtN, prtE, prtI, slA, dI, g1, g2, frz, frz_lst, frz_tup, frz_rol, frzs, frzs_ints, frzs_strs, frzs_app, frzs_len, af, af.afs, afs_ints, afs_strs, frzs_bls, dAll_map, dAny_map, all_tt, List.map_cons, List.map_nil, List.length_cons, List.length_nil, List.cons_append, List.nil_append, List.replicate, List.getElem?_cons_zero, List.getElem?_cons_succ, List.set_cons_zero, List.set_cons_succ, List.set, if_true, if_false, Bool.or_true, Bool.true_or, Bool.or_false, Bool.false_or, Bool.and_true, Bool.true_and, Bool.and_false, Bool.false_and, Bool.not_true, Bool.not_false, Option.map_some, Option.map_none, Option.bind_some, Option.bind_none, List.length_map, reduceIte, itemsL, itemsT, Option.map, Option.bind, Tg.bind, setN, List.append_nil, Nat.sub_zero, Nat.zero_add, ite_true, ite_false, Nat.zero_le, Nat.reduceAdd, Nat.reduceLeDiff, Nat.reduceSub, Nat.reduceMul, Nat.reduceEqDiff, Int.reduceLT, Int.reduceLE, Bool.false_eq_true, reduceCtorEq, and_true, true_and, and_self, b1_needs, aug2S, h0, Int.toNat_natCast, e1, e2, e3, e4]
      · rw [List.getD_eq_getElem?_getD, List.mem_append, List.mem_singleton]
        by_cases e : v = v'
        · subst e
          rw [List.getElem?_set_self hvn]
          show (ms.getD v 0 ||| 2 ^ u).testBit u' = true ↔ _
          rw [Nat.testBit_or, Nat.testBit_two_pow]
          simp only [Bool.or_eq_true, decide_eq_true_eq]
          rw [M.bit v u' hv']
          constructor
          · rintro (h | h)
            · exact .inl h
            · exact .inr (Prod.ext (by rw [hu, h]) hv.symm)
          · rintro (h | h)
            · exact .inl h
            · have := congrArg Prod.fst h
              dsimp only at this
              exact .inr (by omega)
        · rw [List.getElem?_set_ne e, ← List.getD_eq_getElem?_getD, M.bit v' u' hv']
          constructor
          · exact .inl
          · rintro (h | h)
            · exact h
            · have := congrArg Prod.snd h
              dsimp only at this
              exact absurd (by omega) e
      · rcases List.mem_or_eq_of_mem_set hm with h | h
        · exact hb m h
        · rw [h]
          refine Nat.or_lt_two_pow ?_ (Nat.pow_lt_pow_right (by decide) (by omega))
          rw [List.getD_eq_getElem?_getD, List.getElem?_eq_getElem hvn]
          exact hb _ (List.getElem_mem hvn)
  obtain ⟨ρ', e, qs, ms, x, y, hq, rfl, M, hb⟩ := key
  have eq : qs = ps := by
    have inj : ∀ a b : Ps, psD a = psD b → a = b := by
      intro a b h
      have := congrArg pairsD h
      rw [pairsD_ps, pairsD_ps] at this
      exact Option.some.inj this
    exact (inj _ _ hq).symm
  subst eq
  refine ⟨ms, ?_, M, hb⟩
  exact needs_end (mul0_ok (show n ≤ 1000 by omega)) (afs_nD _) (frzs_ps _) (frzs_nD _) e
/-! ### free_signs -/
theorem numD_nD : ∀ (l : List Nat) (i : Nat), numD i (l.map nD) = (List.range l.length).map fun j => .tup [.int ((i + j : Nat) : Int), nD (l.getD j 0)]
  | [], i => rfl
  | a :: l, i => by
    show D.tup [.int (i : Nat), nD a] :: numD (i + 1) (l.map nD) = _
    rw [numD_nD l (i + 1), List.length_cons, List.range_succ_eq_map, List.map_cons, List.map_map]
    have : ∀ (a : D) (x y : List D), x = y → a :: x = a :: y := fun a x y h => by rw [h]
    refine this _ _ _ (List.map_congr_left fun j _ => ?_)
    show D.tup [.int ((i + 1 + j : Nat) : Int), nD (l.getD j 0)] = D.tup [.int ((i + (j + 1) : Nat) : Int), nD (l.getD j 0)]
    rw [show i + 1 + j = i + (j + 1) by omega]
theorem free_ok {ms : List Nat} (hl : ms.length ≤ 1000) (d : Nat) : F_free_signs [.lst false (ms.map nD), .int (d : Int)] = .ok (.lst true ((free ms d).map nD)) := by
  have hz : ms.length ≤ 16777216 := by omega
  have lc : lcGo (.tup [2, 3]) t2_free_signs e1_free_signs [some (.lst false (ms.map nD)), some (.int (d : Int)), none, none] ((List.range ms.length).map fun j => .tup [.int ((0 + j : Nat) : Int), nD (ms.getD j 0)]) = some ((free ms d).map nD) := by
    unfold free
    refine lcGo_fm (fun j : Nat => D.tup [.int ((0 + j : Nat) : Int), nD (ms.getD j 0)]) (fun s => !d.testBit s && decide (ms.getD s 0 &&& d = ms.getD s 0)) nD (List.range ms.length) fun j hj => ?_
    have h0 : (0 : Int) ≤ ((0 + j : Nat) : Int) := by omega
    refine ⟨[some (.lst false (ms.map nD)), some (.int (d : Int)), some (.int ((0 + j : Nat) : Int)), some (nD (ms.getD j 0))], rfl, ?_, fun _ => ?_⟩
    · have hb := shr_bit d (0 + j)
      rw [Nat.zero_add] at hb h0 ⊢
      have ha := b_andnot (ms.getD j 0) d
      by_cases h1 : d.testBit j = false
      · have h2 := hb.mpr h1
        by_cases h3 : ms.getD j 0 &&& d = ms.getD j 0
        · have h4 := ha.mpr h3
          simp only [runF, env0, endF, seqS, asgS, retS, ifS, nilS, brkS, cntS, drpS, mutS, forS, unpS, parS, keepM, frzM, gApp, op2, op1, vr, cI, cS, cB, cN, cT, De.get, Res.bind, lift, tst, toB, andB, orB, notB, andV, orV, notV, ifV, chn, consA, nilA, lstA, tupA, calA, fnA, strM, tgetA, lcA, itm, rngA, prtN, prtE, prtI, slA, dI, g1, g2, frz, frz_lst, frz_tup, frz_rol, frzs, frzs_ints, frzs_strs, frzs_app, frzs_len, af, af.afs, afs_ints, afs_strs, frzs_bls, dAll_map, dAny_map, all_tt, List.map_cons, List.map_nil, List.length_cons, List.length_nil, List.cons_append, List.nil_append, List.replicate, List.getElem?_cons_zero, List.getElem?_cons_succ, List.set_cons_zero, List.set_cons_succ, List.set, if_true, if_false, Bool.or_true, Bool.true_or, Bool.or_false, Bool.false_or, Bool.and_true, Bool.true_and, Bool.and_false, Bool.false_and, Bool.not_true, Bool.not_false, Option.map_some, Option.map_none, Option.bind_some, Option.bind_none, List.length_map, reduceIte, itemsL, itemsT, Option.map, Option.bind, Tg.bind, setN, List.append_nil, Nat.sub_zero, Nat.zero_add, ite_true, ite_false, Nat.zero_le, Nat.reduceAdd, Nat.reduceLeDiff, Nat.reduceSub, Nat.reduceMul, Nat.reduceEqDiff, Int.reduceLT, Int.reduceLE, Bool.false_eq_true, reduceCtorEq, and_true, true_and, and_self, t2_free_signs, dShr, h0, Int.toNat_natCast, dBand, h2, dEq, decide_true, dInv, h4, h1, h3, Bool.not_false]
        · have h4 : ¬ _ := fun z => h3 (ha.mp z)
          simp only [runF, env0, endF, seqS, asgS, retS, ifS, nilS, brkS, cntS, drpS, mutS, forS, unpS, parS, keepM, frzM, gApp, op2, op1, vr, cI, cS, cB, cN, cT, De.get, Res.bind, lift, tst, toB, andB, orB, notB, andV, orV, notV, ifV, chn, consA, nilA, lstA, tupA, calA, fnA, strM, tgetA, lcA, itm, rngA, prtN, prtE, prtI, slA, dI, g1, g2, frz, frz_lst, frz_tup, frz_rol, frzs, frzs_ints, frzs_strs, frzs_app, frzs_len, af, af.afs, afs_ints, afs_strs, frzs_bls, dAll_map, dAny_map, all_tt, List.map_cons, List.map_nil, List.length_cons, List.length_nil, List.cons_append, List.nil_append, List.replicate, List.getElem?_cons_zero, List.getElem?_cons_succ, List.set_cons_zero, List.set_cons_succ, List.set, if_true, if_false, Bool.or_true, Bool.true_or, Bool.or_false, Bool.false_or, Bool.and_true, Bool.true_and, Bool.and_false, Bool.false_and, Bool.not_true, Bool.not_false, Option.map_some, Option.map_none, Option.bind_some, Option.bind_none, List.length_map, reduceIte, itemsL, itemsT, Option.map, Option.bind, Tg.bind, setN, List.append_nil, Nat.sub_zero, Nat.zero_add, ite_true, ite_false, Nat.zero_le, Nat.reduceAdd, Nat.reduceLeDiff, Nat.reduceSub, Nat.reduceMul, Nat.reduceEqDiff, Int.reduceLT, Int.reduceLE, Bool.false_eq_true, reduceCtorEq, and_true, true_and, and_self, t2_free_signs, dShr, h0, Int.toNat_natCast, dBand, h2, dEq, decide_true, dInv, h4, decide_false, h1, h3, Bool.not_false]
      · have h2 : ¬ _ := fun z => h1 (hb.mp z)
        have h5 : d.testBit j = true := by cases h : d.testBit j with | true => rfl | false => exact absurd h h1
        simp only [runF, env0, endF, seqS, asgS, retS, ifS, nilS, brkS, cntS, drpS, mutS, forS, unpS, parS, keepM, frzM, gApp, op2, op1, vr, cI, cS, cB, cN, cT, De.get, Res.bind, lift, tst, toB, andB, orB, notB, andV, orV, notV, ifV, chn, consA, nilA, lstA, tupA, calA, fnA, strM, tgetA, lcA, itm, rngA, prtN, prtE, prtI, slA, dI, g1, g2, frz, frz_lst, frz_tup, frz_rol, frzs, frzs_ints, frzs_strs, frzs_app, frzs_len, af, af.afs, afs_ints, afs_strs, frzs_bls, dAll_map, dAny_map, all_tt, List.map_cons, List.map_nil, List.length_cons, List.length_nil, List.cons_append, List.nil_append, List.replicate, List.getElem?_cons_zero, List.getElem?_cons_succ, List.set_cons_zero, List.set_cons_succ, List.set, if_true, if_false, Bool.or_true, Bool.true_or, Bool.or_false, Bool.false_or, Bool.and_true, Bool.true_and, Bool.and_false, Bool.false_and, Bool.not_true, Bool.not_false, Option.map_some, Option.map_none, Option.bind_some, Option.bind_none, List.length_map, reduceIte, itemsL, itemsT, Option.map, Option.bind, Tg.bind, setN, List.append_nil, Nat.sub_zero, Nat.zero_add, ite_true, ite_false, Nat.zero_le, Nat.reduceAdd, Nat.reduceLeDiff, Nat.reduceSub, Nat.reduceMul, Nat.reduceEqDiff, Int.reduceLT, Int.reduceLE, Bool.false_eq_true, reduceCtorEq, and_true, true_and, and_self, t2_free_signs, dShr, h0, Int.toNat_natCast, dBand, h2, dEq, decide_false, h5, Bool.not_true]
    · rw [Nat.zero_add]; rfl
  simp only [Nat.zero_add] at lc
  simp only [runF, env0, endF, seqS, asgS, retS, ifS, nilS, brkS, cntS, drpS, mutS, forS, unpS, parS, keepM, frzM, gApp, op2, op1, vr, cI, cS, cB, cN, cT, De.get, Res.bind, lift, tst, toB, andB, orB, notB, andV, orV, notV, ifV, chn, consA, nilA, lstA, tupA, calA, fnA, strM, tgetA, lcA, itm, rngA, prtN, prtE, prtI, slA, dI, g1, g2, frz, frz_lst, frz_tup, frz_rol, frzs, frzs_ints, frzs_strs, frzs_app, frzs_len, af, af.afs, afs_ints, afs_strs, frzs_bls, dAll_map, dAny_map, all_tt, List.map_cons, List.map_nil, List.length_cons, List.length_nil, List.cons_append, List.nil_append, List.replicate, List.getElem?_cons_zero, List.getElem?_cons_succ, List.set_cons_zero, List.set_cons_succ, List.set, if_true, if_false, Bool.or_true, Bool.true_or, Bool.or_false, Bool.false_or, Bool.and_true, Bool.true_and, Bool.and_false, Bool.false_and, Bool.not_true, Bool.not_false, Option.map_some, Option.map_none, Option.bind_some, Option.bind_none, List.length_map, reduceIte, itemsL, itemsT, Option.map, Option.bind, Tg.bind, setN, List.append_nil, Nat.sub_zero, Nat.zero_add, ite_true, ite_false, Nat.zero_le, Nat.reduceAdd, Nat.reduceLeDiff, Nat.reduceSub, Nat.reduceMul, Nat.reduceEqDiff, Int.reduceLT, Int.reduceLE, Bool.false_eq_true, reduceCtorEq, and_true, true_and, and_self, F_free_signs, s_free_signs, enA, enD, frzs_nD, hz, numD_nD, lc]
end Cm
set_option Elab.async false
set_option linter.all false
set_option maxRecDepth 100000
namespace Cm
open PySem De Gr Bm
open L2 (Key)

theorem intsD_nD : ∀ l : List Nat, intsD (l.map nD) = some (l.map fun x : Nat => (x : Int))
  | [] => rfl
  | a :: l => by show (intsD (l.map nD)).map ((a : Int) :: ·) = _; rw [intsD_nD l]; rfl
theorem sum_cast : ∀ l : List Nat, (l.map fun x : Nat => (x : Int)).sum = (l.sum : Nat)
  | [] => rfl
  | a :: l => by rw [List.map_cons, List.sum_cons, sum_cast l, List.sum_cons]; omega
theorem dSum_nD (b : Bool) (l : List Nat) : dSum (.lst b (l.map nD)) = some (nD l.sum) := by
  show (intsD (l.map nD)).map (fun ns => D.int ns.sum) = _
  rw [intsD_nD]
  show some (D.int _) = _
  rw [sum_cast]
theorem gSet_nD {l : List Nat} {j : Nat} {v : Nat} (h : j < l.length) : gSet (j : Int) (l.map nD) (nD v) = some ((l.set j v).map nD) := by
  unfold gSet L2.ixN
  rw [List.length_map]
  have h0 : ¬ ((j : Int) < 0) := by omega
  have h1 : (0 : Int) ≤ j := by omega
  simp [h0, h, List.map_set]
theorem wsub (n : Nat) : dSub (nD (2 ^ n)) (.int 1) = some (nD (2 ^ n - 1)) := by
  have := two_pos n
  show some (D.int (((2 ^ n : Nat) : Int) - 1)) = _
  rw [show ((2 ^ n : Nat) : Int) - 1 = ((2 ^ n - 1 : Nat) : Int) by omega]
section
variable {ms : List Nat} (h9 : ms.length ≤ 9)
include h9 in
theorem on_lc {ws : List Nat} (hl : ws.length = 2 ^ ms.length) {d : Nat} (hd : d < 2 ^ ms.length) {W : Option D} {x : Option D} : lcGo (.one 4) yesB e1_ways_on [some (.lst false (ms.map nD)), W, some (.lst true (ws.map nD)), some (nD d), x] ((free ms d).map nD) = some (((free ms d).map fun s => ws.getD (d ||| 2 ^ s) 0).map nD) := by
  have h := lcGo_fm (tg := .one 4) (tt := yesB) (te := e1_ways_on) (ρ := [some (.lst false (ms.map nD)), W, some (.lst true (ws.map nD)), some (nD d), x]) nD (fun _ => true) (fun s => nD (ws.getD (d ||| 2 ^ s) 0)) (free ms d) fun s hs => ?_
  · rw [h, List.map_map, List.filter_eq_self.mpr fun _ _ => rfl]; rfl
  · obtain ⟨f1, f2, f3⟩ := free_mem.mp hs
    refine ⟨[some (.lst false (ms.map nD)), W, some (.lst true (ws.map nD)), some (nD d), some (nD s)], rfl, rfl, fun _ => ?_⟩
    have e1 := shl_ok (s := s) (by omega)
    have e2 := bor_nD d (2 ^ s)
    have e3 := ix_nD (l := ws) (j := d ||| 2 ^ s) (by rw [hl]; exact or_lt hd f1)
    simp only [runF, env0, endF, seqS, asgS, retS, ifS, nilS, brkS, cntS, drpS, mutS, forS, unpS, parS, keepM, frzM, gApp, op2, op1, vr, cI, cS, cB, cN, cT, De.get, Res.bind, lift, tst, toB, andB, orB, notB, andV, orV, notV, ifV, chn, consA, nilA, lstA, tupA, calA, fnA, strM, tgetA, lcA, itm, rngA, prtN, prtE, prtI, slA, dI, g1, g2, frz, frz_lst, frz_tup, frz_rol, frzs, frzs_ints, frzs_strs, frzs_app, frzs_len, af, af.afs, afs_ints, afs_strs, frzs_bls, dAll_map, dAny_map, all_tt, List.map_cons, List.map_nil, List.length_cons, List.length_nil, List.cons_append, List.nil_append, List.replicate, List.getElem?_cons_zero, List.getElem?_cons_succ, List.set_cons_zero, List.set_cons_succ, List.set, if_true, if_false, Bool.or_true, Bool.true_or, Bool.or_false, Bool.false_or, Bool.and_true, Bool.true_and, Bool.and_false, Bool.false_and, Bool.not_true, Bool.not_false, Option.map_some, Option.map_none, Option.bind_some, Option.bind_none, List.length_map, reduceIte, itemsL, itemsT, Option.map, Option.bind, Tg.bind, setN, List.append_nil, Nat.sub_zero, Nat.zero_add, ite_true, ite_false, Nat.zero_le, Nat.reduceAdd, Nat.reduceLeDiff, Nat.reduceSub, Nat.reduceMul, Nat.reduceEqDiff, Int.reduceLT, Int.reduceLE, Bool.false_eq_true, reduceCtorEq, and_true, true_and, and_self, e1_ways_on, frzs_nD, e1, e2, e3]
include h9 in
theorem on_turn {ws : List Nat} (hl : ws.length = 2 ^ ms.length) {d : Nat} (hd : d < 2 ^ ms.length) {W : Option D} {x : Option D} : b2_ways_on [some (.lst false (ms.map nD)), W, some (.lst true (ws.map nD)), some (nD d), x] = .nx [some (.lst false (ms.map nD)), W, some (.lst true ((ws.set d ((free ms d).map fun s => ws.getD (d ||| 2 ^ s) 0).sum).map nD)), some (nD d), x] := by
  have e1 := free_ok (ms := ms) (by omega) d
  have e2 := on_lc h9 hl hd (W := W) (x := x)
  have e3 := gSet_nD (l := ws) (j := d) (v := ((free ms d).map fun s => ws.getD (d ||| 2 ^ s) 0).sum) (by omega)
  have e4 := dSum_nD false ((free ms d).map fun s => ws.getD (d ||| 2 ^ s) 0)
  generalize ((free ms d).map fun s => ws.getD (d ||| 2 ^ s) 0) = L at e2 e3 e4 ⊢
  simp only [runF, env0, endF, seqS, asgS, retS, ifS, nilS, brkS, cntS, drpS, mutS, forS, unpS, parS, keepM, frzM, gApp, op2, op1, vr, cI, cS, cB, cN, cT, De.get, Res.bind, lift, tst, toB, andB, orB, notB, andV, orV, notV, ifV, chn, consA, nilA, lstA, tupA, calA, fnA, strM, tgetA, lcA, itm, rngA, prtN, prtE, prtI, slA, dI, g1, g2, frz, frz_lst, frz_tup, frz_rol, frzs, frzs_ints, frzs_strs, frzs_app, frzs_len, af, af.afs, afs_ints, afs_strs, frzs_bls, dAll_map, dAny_map, all_tt, List.map_cons, List.map_nil, List.length_cons, List.length_nil, List.cons_append, List.nil_append, List.replicate, List.getElem?_cons_zero, List.getElem?_cons_succ, List.set_cons_zero, List.set_cons_succ, List.set, if_true, if_false, Bool.or_true, Bool.true_or, Bool.or_false, Bool.false_or, Bool.and_true, Bool.true_and, Bool.and_false, Bool.false_and, Bool.not_true, Bool.not_false, Option.map_some, Option.map_none, Option.bind_some, Option.bind_none, List.length_map, reduceIte, itemsL, itemsT, Option.map, Option.bind, Tg.bind, setN, List.append_nil, Nat.sub_zero, Nat.zero_add, ite_true, ite_false, Nat.zero_le, Nat.reduceAdd, Nat.reduceLeDiff, Nat.reduceSub, Nat.reduceMul, Nat.reduceEqDiff, Int.reduceLT, Int.reduceLE, Bool.false_eq_true, reduceCtorEq, and_true, true_and, and_self, b2_ways_on, stoS, itD, frzs_nD, e1, e2, e4, mutE, e3]
include h9 in
theorem on_loop {W x : Option D} : ∀ (k : Nat) (ws : List Nat) (y : Option D), k ≤ whole ms → ws.length = 2 ^ ms.length → ws.getD (whole ms) 0 = 1 → (∀ d, k ≤ d → d < whole ms → ws.getD d 0 = ((free ms d).map fun s => ws.getD (d ||| 2 ^ s) 0).sum) →
    ∃ ws' y', forGo (.one 3) b2_ways_on (dwnD ((k : Int) - 1) k) [some (.lst false (ms.map nD)), W, some (.lst true (ws.map nD)), y, x] = .nx [some (.lst false (ms.map nD)), W, some (.lst true (ws'.map nD)), y', x] ∧ IsWays ms ws'
  | 0, ws, y, hk, hl, ht, hs => ⟨ws, y, rfl, hl, ht, fun d hd => hs d (Nat.zero_le _) hd⟩
  | k + 1, ws, y, hk, hl, ht, hs => by
    have hp := two_pos ms.length
    have hkW : k < 2 ^ ms.length := by unfold whole at hk; omega
    have ed : dwnD (((k + 1 : Nat) : Int) - 1) (k + 1) = nD k :: dwnD ((k : Int) - 1) k := by
      unfold dwnD
      rw [List.range_succ_eq_map, List.map_cons, List.map_map]
      have : ∀ (a b : D) (x y : List D), a = b → x = y → a :: x = b :: y := fun a b x y h g => by rw [h, g]
      refine this _ _ _ _ ?_ (List.map_congr_left fun i _ => ?_)
      · show D.int _ = D.int _
        congr 1; omega
      · show D.int _ = D.int _
        congr 1; omega
    obtain ⟨ws', y', e, I⟩ := on_loop (W := W) (x := x) k (ws.set k ((free ms k).map fun s => ws.getD (k ||| 2 ^ s) 0).sum) (some (nD k)) (by omega) (by rw [List.length_set]; exact hl) (by
        rw [List.getD_eq_getElem?_getD, List.getElem?_set_ne (by omega), ← List.getD_eq_getElem?_getD]; exact ht) fun d h1 h2 => by
      have big : ∀ s ∈ free ms d, (ws.set k ((free ms k).map fun s => ws.getD (k ||| 2 ^ s) 0).sum).getD (d ||| 2 ^ s) 0 = ws.getD (d ||| 2 ^ s) 0 := fun s hs' => by
        have := or_gt (free_mem.mp hs').2.1
        rw [List.getD_eq_getElem?_getD, List.getElem?_set_ne (by omega), ← List.getD_eq_getElem?_getD]
      rw [List.map_congr_left big]
      by_cases e : d = k
      · subst e
        rw [List.getD_eq_getElem?_getD, List.getElem?_set_self (by omega)]; rfl
      · rw [List.getD_eq_getElem?_getD, List.getElem?_set_ne (by omega), ← List.getD_eq_getElem?_getD]
        exact hs d (by omega) h2
    refine ⟨ws', y', ?_, I⟩
    rw [ed]
    unfold forGo
    rw [show Tg.bind (.one 3) (nD k) [some (.lst false (ms.map nD)), W, some (.lst true (ws.map nD)), y, x] = some [some (.lst false (ms.map nD)), W, some (.lst true (ws.map nD)), some (nD k), x] from rfl]
    dsimp only
    rw [on_turn h9 hl hkW]
    exact e
end
theorem on_end {A P z Q : List D} {k W y : Int} {y' x'} {l : List D} (h1 : dShl (.int 1) (.int A.length) = some (.int k)) (h2 : dSub (.int k) (.int 1) = some (.int W)) (hm : dMul (.lst false [.int 0]) (.int W) = some (.lst true P)) (ha : dAdd (.lst false (frzs P)) (.lst false [.int 1]) = some (.lst true z)) (haz : af.afs z = true)
  (h3 : dSub (.int W) (.int 1) = some (.int y)) (hd : (if -(2 ^ 62) ≤ y ∧ y < 2 ^ 62 ∧ -(2 ^ 62) ≤ (-1 : Int) ∧ (-1 : Int) < 2 ^ 62 ∧ (y - -1).toNat ≤ 16777216 then Res.ok (dwnD y (y - -1).toNat) else .bad) = .ok l) (hA : frzs A = A) (haA : af.afs A = true) (hq : frzs Q = Q)
  (e : forGo (.one 3) b2_ways_on l [some (.lst false A), some (.int W), some (.lst true z), none, none] = .nx [some (.lst false A), some (.int W), some (.lst true Q), y', x']) : 
  F_ways_on [.lst false A] = .ok (.lst false Q) := by
  simp only [runF, env0, endF, seqS, asgS, retS, ifS, nilS, brkS, cntS, drpS, mutS, forS, unpS, parS, keepM, frzM, gApp, op2, op1, vr, cI, cS, cB, cN, cT, De.get, Res.bind, lift, tst, toB, andB, orB, notB, andV, orV, notV, ifV, chn, consA, nilA, lstA, tupA, calA, fnA, strM, tgetA, lcA, itm, rngA, prtN, prtE, prtI, slA, dI, g1, g2, frz, frz_lst, frz_tup, frz_rol, frzs, frzs_ints, frzs_strs, frzs_app, frzs_len, af, af.afs, afs_ints, afs_strs, frzs_bls, dAll_map, dAny_map, all_tt, List.map_cons, List.map_nil, List.length_cons, List.length_nil, List.cons_append, List.nil_append, List.replicate, List.getElem?_cons_zero, List.getElem?_cons_succ, List.set_cons_zero, List.set_cons_succ, List.set, if_true, if_false, Bool.or_true, Bool.true_or, Bool.or_false, Bool.false_or, Bool.and_true, Bool.true_and, Bool.and_false, Bool.false_and, Bool.not_true, Bool.not_false, Option.map_some, Option.map_none, Option.bind_some, Option.bind_none, List.length_map, reduceIte, itemsL, itemsT, Option.map, Option.bind, Tg.bind, setN, List.append_nil, Nat.sub_zero, Nat.zero_add, ite_true, ite_false, Nat.zero_le, Nat.reduceAdd, Nat.reduceLeDiff, Nat.reduceSub, Nat.reduceMul, Nat.reduceEqDiff, Int.reduceLT, Int.reduceLE, Bool.false_eq_true, reduceCtorEq, and_true, true_and, and_self, F_ways_on, s_ways_on, dLen, h1, h2, hm, ha, haz, dNeg, h3, hA, dwnA, hd, e, hq]
theorem ways_on_ok {ms : List Nat} (h1 : 1 ≤ ms.length) (h9 : ms.length ≤ 9) : ∃ ws : List Nat, F_ways_on [.lst false (ms.map nD)] = .ok (.lst false (ws.map nD)) ∧ IsWays ms ws := by
  have hp := two_pos ms.length
  have hle : 2 ^ ms.length ≤ 2 ^ 9 := Nat.pow_le_pow_right (by decide) h9
  have hW : whole ms ≤ 511 := by unfold whole; omega
  have hl : (List.replicate (whole ms) 0 ++ [1]).length = 2 ^ ms.length := by rw [List.length_append, List.length_replicate]; show whole ms + 1 = _; unfold whole; omega
  obtain ⟨ws, y, e, I⟩ := on_loop h9 (W := some (nD (whole ms))) (x := none) (whole ms) (List.replicate (whole ms) 0 ++ [1]) none (Nat.le_refl _) hl (by
    rw [List.getD_eq_getElem?_getD, List.getElem?_append_right (by simp)]; simp) fun d h1 h2 => absurd h2 (by omega)
  refine ⟨ws, ?_, I⟩
  refine on_end (k := (2 ^ ms.length : Nat)) (W := (whole ms : Nat)) (P := (List.replicate (whole ms) 0).map nD) (z := (List.replicate (whole ms) 0 ++ [1]).map nD) (y := (whole ms : Int) - 1) (l := dwnD ((whole ms : Int) - 1) (whole ms)) ?_ (wsub _) (mul0_ok (by omega)) ?_ (afs_nD _) rfl ?_ (frzs_nD _) (afs_nD _) (frzs_nD _) e
  · rw [List.length_map]; exact shl_ok (by omega)
  · rw [frzs_nD]
    have hz : szOk (((List.replicate (whole ms) 0).map nD).length + [D.int 1].length) = true := szOk_of (by rw [List.length_map, List.length_replicate]; show whole ms + 1 ≤ _; omega)
    simp only [dAdd, hz, if_true]
    rw [List.map_append]; rfl
  · have : (((whole ms : Int) - 1) - -1).toNat = whole ms := by omega
    rw [this, if_pos ⟨by omega, by omega, by omega, by omega, by omega⟩]
end Cm
set_option Elab.async false
set_option linter.all false
set_option maxRecDepth 100000
namespace Cm
open PySem De Gr Bm
open L2 (Key)

theorem atI_last {l : List D} {a : D} : L2.atI (l ++ [a]) (-1) = some a := by
  unfold L2.atI L2.ixN
  have h1 : ¬ ((0 : Int) ≤ -1) := by decide
  have h2 : -(((l ++ [a]).length : Nat) : Int) ≤ -1 := by rw [List.length_append, List.length_singleton]; omega
  rw [if_neg h1, if_pos h2, show (-1 + (((l ++ [a]).length : Nat) : Int)).toNat = l.length by rw [List.length_append, List.length_singleton]; omega]
  simp
theorem ix_last (o : List Nat) (s : Nat) : dIx (.lst false ((o ++ [s]).map nD)) (.int (-1)) = some (nD s) := by
  rw [List.map_append]
  exact atI_last
section
variable {ms : List Nat} (h9 : ms.length ≤ 9) {ws : List Nat} (W : IsWays ms ws)
include h9 W
abbrev oE (ms ws o : List Nat) (k d : Nat) (x y : Option D) : De.Env := [some (.lst false (ms.map nD)), some (nD k), some (.lst false (ws.map nD)), some (.lst true (o.map nD)), some (nD d), x, y]
theorem ord_for {o : List Nat} {d : Nat} (hd : d < 2 ^ ms.length) (ho : o.length ≤ 9) : ∀ (l : List Nat) (k : Nat) (x y : Option D) (s k' : Nat), (∀ s ∈ l, s ∈ free ms d) → pickS (fun s => ws.getD (d ||| 2 ^ s) 0) l k = some (s, k') →
    ∃ x' y', forGo (.one 5) b1_ordered (l.map nD) (oE ms ws o k d x y) = .nx (oE ms ws (o ++ [s]) k' d x' y')
  | [], k, x, y, s, k', hl, h => by cases h
  | t :: l, k, x, y, s, k', hl, h => by
    obtain ⟨f1, f2, f3⟩ := free_mem.mp (hl t (List.mem_cons_self ..))
    have e1 := shl_ok (s := t) (by omega)
    have e2 := bor_nD d (2 ^ t)
    have e3 := ix_nD (l := ws) (j := d ||| 2 ^ t) (by rw [W.len]; exact or_lt hd f1)
    have hz : o.length < 16777216 := by omega
    unfold pickS at h
    generalize hf : ws.getD (d ||| 2 ^ t) 0 = f at e3 h
    rw [List.map_cons]
    unfold forGo
    rw [show Tg.bind (.one 5) (nD t) (oE ms ws o k d x y) = some (oE ms ws o k d (some (nD t)) y) from rfl]
    dsimp only
    by_cases hk : k < f
    · rw [if_pos hk] at h
      obtain ⟨rfl, rfl⟩ := Prod.mk.inj (Option.some.inj h)
      have hk' : ((k : Int) < (f : Int)) := by omega
      have hb : b1_ordered (oE ms ws o k d (some (nD t)) y) = .bk (oE ms ws (o ++ [t]) k d (some (nD t)) (some (nD f))) := by
        have ea : (o ++ [t]).map nD = o.map nD ++ [nD t] := by rw [List.map_append]; rfl
        unfold oE
        rw [ea]
        simp only [runF, env0, endF, seqS, asgS, retS, ifS, nilS, brkS, cntS, drpS, mutS, forS, unpS, parS, keepM, frzM, gApp, op2, op1, vr, cI, cS, cB, cN, cT, De.get, Res.bind, lift, tst, toB, andB, orB, notB, andV, orV, notV, ifV, chn, consA, nilA, lstA, tupA, calA, fnA, strM, tgetA, lcA, itm, rngA, prtN, prtE, prtI, slA, dI, g1, g2, frz, frz_lst, frz_tup, frz_rol, frzs, frzs_ints, frzs_strs, frzs_app, frzs_len, af, af.afs, afs_ints, afs_strs, frzs_bls, dAll_map, dAny_map, all_tt, List.map_cons, List.map_nil, List.length_cons, List.length_nil, List.cons_append, List.nil_append, List.replicate, List.getElem?_cons_zero, List.getElem?_cons_succ, List.set_cons_zero, List.set_cons_succ, List.set, if_true, if_false, Bool.or_true, Bool.true_or, Bool.or_false, Bool.false_or, Bool.and_true, Bool.true_and, Bool.and_false, Bool.false_and, Bool.not_true, Bool.not_false, Option.map_some, Option.map_none, Option.bind_some, Option.bind_none, List.length_map, reduceIte, itemsL, itemsT, Option.map, Option.bind, Tg.bind, setN, List.append_nil, Nat.sub_zero, Nat.zero_add, ite_true, ite_false, Nat.zero_le, Nat.reduceAdd, Nat.reduceLeDiff, Nat.reduceSub, Nat.reduceMul, Nat.reduceEqDiff, Int.reduceLT, Int.reduceLE, Bool.false_eq_true, reduceCtorEq, and_true, true_and, and_self, b1_ordered, frzs_nD, e1, e2, e3, dLt, hk', decide_true, keepM, hz]
      rw [hb]
      exact ⟨_, _, rfl⟩
    · rw [if_neg hk] at h
      have hk' : ¬ ((k : Int) < (f : Int)) := by omega
      have hs : ((k : Int) - (f : Int)) = ((k - f : Nat) : Int) := by omega
      have hb : b1_ordered (oE ms ws o k d (some (nD t)) y) = .nx (oE ms ws o (k - f) d (some (nD t)) (some (nD f))) := by
        unfold oE
        simp only [runF, env0, endF, seqS, asgS, retS, ifS, nilS, brkS, cntS, drpS, mutS, forS, unpS, parS, keepM, frzM, gApp, op2, op1, vr, cI, cS, cB, cN, cT, De.get, Res.bind, lift, tst, toB, andB, orB, notB, andV, orV, notV, ifV, chn, consA, nilA, lstA, tupA, calA, fnA, strM, tgetA, lcA, itm, rngA, prtN, prtE, prtI, slA, dI, g1, g2, frz, frz_lst, frz_tup, frz_rol, frzs, frzs_ints, frzs_strs, frzs_app, frzs_len, af, af.afs, afs_ints, afs_strs, frzs_bls, dAll_map, dAny_map, all_tt, List.map_cons, List.map_nil, List.length_cons, List.length_nil, List.cons_append, List.nil_append, List.replicate, List.getElem?_cons_zero, List.getElem?_cons_succ, List.set_cons_zero, List.set_cons_succ, List.set, if_true, if_false, Bool.or_true, Bool.true_or, Bool.or_false, Bool.false_or, Bool.and_true, Bool.true_and, Bool.and_false, Bool.false_and, Bool.not_true, Bool.not_false, Option.map_some, Option.map_none, Option.bind_some, Option.bind_none, List.length_map, reduceIte, itemsL, itemsT, Option.map, Option.bind, Tg.bind, setN, List.append_nil, Nat.sub_zero, Nat.zero_add, ite_true, ite_false, Nat.zero_le, Nat.reduceAdd, Nat.reduceLeDiff, Nat.reduceSub, Nat.reduceMul, Nat.reduceEqDiff, Int.reduceLT, Int.reduceLE, Bool.false_eq_true, reduceCtorEq, and_true, true_and, and_self, b1_ordered, frzs_nD, e1, e2, e3, dLt, hk', decide_false, dSub, hs]
      rw [hb]
      exact ord_for hd ho l (k - f) _ _ s k' (fun a ha => hl a (List.mem_cons_of_mem _ ha)) h
theorem ord_wh : ∀ (r : List Nat) (K k d F : Nat) (o : List Nat) (x y : Option D), d < 2 ^ ms.length → whole ms - d ≤ K → (exts ms K d)[k]? = some r → o.length + r.length = ms.length → r.length < F →
    ∃ k' d' x' y', whGo t3_ordered b2_ordered F (oE ms ws o k d x y) = .nx (oE ms ws (o ++ r) k' d' x' y')
  | _, _, _, _, 0, _, _, _, _, _, _, _, h => by omega
  | [], K, k, d, F + 1, o, x, y, hd, hK, hr, ho, hF => by
    refine ⟨k, d, x, y, ?_⟩
    have hc : t3_ordered (oE ms ws o k d x y) = .ok false := by
      have : ¬ ((o.length : Int) < (ms.length : Int)) := by simp only [List.length_nil] at ho; omega
      unfold oE
      simp only [runF, env0, endF, seqS, asgS, retS, ifS, nilS, brkS, cntS, drpS, mutS, forS, unpS, parS, keepM, frzM, gApp, op2, op1, vr, cI, cS, cB, cN, cT, De.get, Res.bind, lift, tst, toB, andB, orB, notB, andV, orV, notV, ifV, chn, consA, nilA, lstA, tupA, calA, fnA, strM, tgetA, lcA, itm, rngA, prtN, prtE, prtI, slA, dI, g1, g2, frz, frz_lst, frz_tup, frz_rol, frzs, frzs_ints, frzs_strs, frzs_app, frzs_len, af, af.afs, afs_ints, afs_strs, frzs_bls, dAll_map, dAny_map, all_tt, List.map_cons, List.map_nil, List.length_cons, List.length_nil, List.cons_append, List.nil_append, List.replicate, List.getElem?_cons_zero, List.getElem?_cons_succ, List.set_cons_zero, List.set_cons_succ, List.set, if_true, if_false, Bool.or_true, Bool.true_or, Bool.or_false, Bool.false_or, Bool.and_true, Bool.true_and, Bool.and_false, Bool.false_and, Bool.not_true, Bool.not_false, Option.map_some, Option.map_none, Option.bind_some, Option.bind_none, List.length_map, reduceIte, itemsL, itemsT, Option.map, Option.bind, Tg.bind, setN, List.append_nil, Nat.sub_zero, Nat.zero_add, ite_true, ite_false, Nat.zero_le, Nat.reduceAdd, Nat.reduceLeDiff, Nat.reduceSub, Nat.reduceMul, Nat.reduceEqDiff, Int.reduceLT, Int.reduceLE, Bool.false_eq_true, reduceCtorEq, and_true, true_and, and_self, t3_ordered, dLen, frzs_nD, dLt, this, decide_false]
    unfold whGo
    rw [hc, List.append_nil]
  | s :: r, K, k, d, F + 1, o, x, y, hd, hK, hr, ho, hF => by
    have hlen : (s :: r).length = r.length + 1 := rfl
    have hc : t3_ordered (oE ms ws o k d x y) = .ok true := by
      have : ((o.length : Int) < (ms.length : Int)) := by omega
      unfold oE
      simp only [runF, env0, endF, seqS, asgS, retS, ifS, nilS, brkS, cntS, drpS, mutS, forS, unpS, parS, keepM, frzM, gApp, op2, op1, vr, cI, cS, cB, cN, cT, De.get, Res.bind, lift, tst, toB, andB, orB, notB, andV, orV, notV, ifV, chn, consA, nilA, lstA, tupA, calA, fnA, strM, tgetA, lcA, itm, rngA, prtN, prtE, prtI, slA, dI, g1, g2, frz, frz_lst, frz_tup, frz_rol, frzs, frzs_ints, frzs_strs, frzs_app, frzs_len, af, af.afs, afs_ints, afs_strs, frzs_bls, dAll_map, dAny_map, all_tt, List.map_cons, List.map_nil, List.length_cons, List.length_nil, List.cons_append, List.nil_append, List.replicate, List.getElem?_cons_zero, List.getElem?_cons_succ, List.set_cons_zero, List.set_cons_succ, List.set, if_true, if_false, Bool.or_true, Bool.true_or, Bool.or_false, Bool.false_or, Bool.and_true, Bool.true_and, Bool.and_false, Bool.false_and, Bool.not_true, Bool.not_false, Option.map_some, Option.map_none, Option.bind_some, Option.bind_none, List.length_map, reduceIte, itemsL, itemsT, Option.map, Option.bind, Tg.bind, setN, List.append_nil, Nat.sub_zero, Nat.zero_add, ite_true, ite_false, Nat.zero_le, Nat.reduceAdd, Nat.reduceLeDiff, Nat.reduceSub, Nat.reduceMul, Nat.reduceEqDiff, Int.reduceLT, Int.reduceLE, Bool.false_eq_true, reduceCtorEq, and_true, true_and, and_self, t3_ordered, dLen, frzs_nD, dLt, this, decide_true]
    have hg := exts_go K d (s :: r) (List.mem_of_getElem? hr)
    have hne := free_ne hg.1
    have hW : d < whole ms := by unfold whole at *; omega
    cases K with
    | zero => omega
    | succ K =>
      unfold exts at hr
      rw [if_neg hne] at hr
      obtain ⟨hk, _⟩ := List.getElem?_eq_some_iff.mp hr
      obtain ⟨t, k', p1, p2, p3, p4⟩ := pick_some (f := fun s => ws.getD (d ||| 2 ^ s) 0) (g := fun s => (exts ms K (d ||| 2 ^ s)).map (s :: ·)) (free ms d) k (fun a ha => by
        obtain ⟨f1, f2, _⟩ := free_mem.mp ha
        have := or_gt f2
        show ws.getD (d ||| 2 ^ a) 0 = _
        rw [List.length_map]
        exact ways_len W K _ (or_lt hd f1) (by omega)) hk
      rw [p4, List.getElem?_map] at hr
      obtain ⟨r', hr', e⟩ := Option.map_eq_some_iff.mp hr
      obtain ⟨rfl, rfl⟩ := List.cons.inj e
      obtain ⟨f1, f2, f3⟩ := free_mem.mp hg.1
      have := or_gt f2
      obtain ⟨x1, y1, q⟩ := ord_for h9 W (o := o) hd (by omega) (free ms d) k x y t k' (fun _ h => h) p1
      have e0 := free_ok (ms := ms) (by omega) d
      have e1 := shl_ok (s := t) (by omega)
      have e2 := bor_nD d (2 ^ t)
      have e3 := ix_last o t
      have hb : b2_ordered (oE ms ws o k d x y) = .nx (oE ms ws (o ++ [t]) k' (d ||| 2 ^ t) x1 y1) := by
        generalize o ++ [t] = O at q e3 ⊢
        unfold oE at q ⊢
        simp only [runF, env0, endF, seqS, asgS, retS, ifS, nilS, brkS, cntS, drpS, mutS, forS, unpS, parS, keepM, frzM, gApp, op2, op1, vr, cI, cS, cB, cN, cT, De.get, Res.bind, lift, tst, toB, andB, orB, notB, andV, orV, notV, ifV, chn, consA, nilA, lstA, tupA, calA, fnA, strM, tgetA, lcA, itm, rngA, prtN, prtE, prtI, slA, dI, g1, g2, frz, frz_lst, frz_tup, frz_rol, frzs, frzs_ints, frzs_strs, frzs_app, frzs_len, af, af.afs, afs_ints, afs_strs, frzs_bls, dAll_map, dAny_map, all_tt, List.map_cons, List.map_nil, List.length_cons, List.length_nil, List.cons_append, List.nil_append, List.replicate, List.getElem?_cons_zero, List.getElem?_cons_succ, List.set_cons_zero, List.set_cons_succ, List.set, if_true, if_false, Bool.or_true, Bool.true_or, Bool.or_false, Bool.false_or, Bool.and_true, Bool.true_and, Bool.and_false, Bool.false_and, Bool.not_true, Bool.not_false, Option.map_some, Option.map_none, Option.bind_some, Option.bind_none, List.length_map, reduceIte, itemsL, itemsT, Option.map, Option.bind, Tg.bind, setN, List.append_nil, Nat.sub_zero, Nat.zero_add, ite_true, ite_false, Nat.zero_le, Nat.reduceAdd, Nat.reduceLeDiff, Nat.reduceSub, Nat.reduceMul, Nat.reduceEqDiff, Int.reduceLT, Int.reduceLE, Bool.false_eq_true, reduceCtorEq, and_true, true_and, and_self, b2_ordered, frzs_nD, itD, e0, q, e1, e2, e3, dNeg]
      obtain ⟨k2, d2, x2, y2, z⟩ := ord_wh r' K k' (d ||| 2 ^ t) F (o ++ [t]) x1 y1 (or_lt hd f1) (by omega) hr' (by rw [List.length_append, List.length_singleton]; omega) (by omega)
      refine ⟨k2, d2, x2, y2, ?_⟩
      unfold whGo
      rw [hc]
      dsimp only
      rw [hb]
      dsimp only
      rw [z, List.append_assoc]; rfl
end
theorem nodup_full {o : List Nat} {n : Nat} (nd : o.Nodup) (lt : ∀ s ∈ o, s < n) (all : ∀ s, s < n → s ∈ o) : o.length = n := by
  have h1 : (o.map fun s : Nat => (s : Int)).Nodup := by
    unfold List.Nodup
    rw [List.pairwise_map]
    exact nd.imp fun h z => h (by omega)
  have h2 := nodup_bound h1 (n := n) fun x hx => by
    obtain ⟨s, hs, rfl⟩ := List.mem_map.mp hx
    have := lt s hs
    omega
  rw [List.length_map] at h2
  have h3 : (List.range n).length ≤ o.length := by
    refine List.Nodup.length_le_of_subset List.nodup_range fun s hs => all s (List.mem_range.mp hs)
  rw [List.length_range] at h3
  omega
theorem ord_end {A B C : List D} {k : Int} {x1 x2 x3 x4 : Option D} (e2 : frzs A = A) (e : F_ways_on [.lst false A] = .ok (.lst false C)) (e5 : af.afs C = true) (e3 : frzs B = B) (q : whGo t3_ordered b2_ordered 1000 [some (.lst false A), some (.int k), some (.lst false C), some (.lst true []), some (.int 0), none, none] = .nx [some (.lst false A), x1, some (.lst false C), some (.lst true B), x2, x3, x4]) : F_ordered [.lst false A, .int k] = .ok (.lst false B) := by
  simp only [runF, env0, endF, seqS, asgS, retS, ifS, nilS, brkS, cntS, drpS, mutS, forS, unpS, parS, keepM, frzM, gApp, op2, op1, vr, cI, cS, cB, cN, cT, De.get, Res.bind, lift, tst, toB, andB, orB, notB, andV, orV, notV, ifV, chn, consA, nilA, lstA, tupA, calA, fnA, strM, tgetA, lcA, itm, rngA, prtN, prtE, prtI, slA, dI, g1, g2, frz, frz_lst, frz_tup, frz_rol, frzs, frzs_ints, frzs_strs, frzs_app, frzs_len, af, af.afs, afs_ints, afs_strs, frzs_bls, dAll_map, dAny_map, all_tt, List.map_cons, List.map_nil, List.length_cons, List.length_nil, List.cons_append, List.nil_append, List.replicate, List.getElem?_cons_zero, List.getElem?_cons_succ, List.set_cons_zero, List.set_cons_succ, List.set, if_true, if_false, Bool.or_true, Bool.true_or, Bool.or_false, Bool.false_or, Bool.and_true, Bool.true_and, Bool.and_false, Bool.false_and, Bool.not_true, Bool.not_false, Option.map_some, Option.map_none, Option.bind_some, Option.bind_none, List.length_map, reduceIte, itemsL, itemsT, Option.map, Option.bind, Tg.bind, setN, List.append_nil, Nat.sub_zero, Nat.zero_add, ite_true, ite_false, Nat.zero_le, Nat.reduceAdd, Nat.reduceLeDiff, Nat.reduceSub, Nat.reduceMul, Nat.reduceEqDiff, Int.reduceLT, Int.reduceLE, Bool.false_eq_true, reduceCtorEq, and_true, true_and, and_self, F_ordered, s_ordered, e2, e, e5, q, e3]
theorem many_end {n w : Int} {P A C : List D} (e5 : frzs P = P) (e6 : frzs A = A) (e7 : frzs C = C) (e4 : F_look_pairs [.int n, .lst false P] = .ok .non) (e1 : F_needs [.int n, .lst false P] = .ok (.lst false A)) (e2 : F_ways_on [.lst false A] = .ok (.lst false C)) (e3 : dIx (.lst false C) (.int 0) = some (.int w)) : F_how_many [.int n, .lst false P] = .ok (.int w) := by
  simp only [runF, env0, endF, seqS, asgS, retS, ifS, nilS, brkS, cntS, drpS, mutS, forS, unpS, parS, keepM, frzM, gApp, op2, op1, vr, cI, cS, cB, cN, cT, De.get, Res.bind, lift, tst, toB, andB, orB, notB, andV, orV, notV, ifV, chn, consA, nilA, lstA, tupA, calA, fnA, strM, tgetA, lcA, itm, rngA, prtN, prtE, prtI, slA, dI, g1, g2, frz, frz_lst, frz_tup, frz_rol, frzs, frzs_ints, frzs_strs, frzs_app, frzs_len, af, af.afs, afs_ints, afs_strs, frzs_bls, dAll_map, dAny_map, all_tt, List.map_cons, List.map_nil, List.length_cons, List.length_nil, List.cons_append, List.nil_append, List.replicate, List.getElem?_cons_zero, List.getElem?_cons_succ, List.set_cons_zero, List.set_cons_succ, List.set, if_true, if_false, Bool.or_true, Bool.true_or, Bool.or_false, Bool.false_or, Bool.and_true, Bool.true_and, Bool.and_false, Bool.false_and, Bool.not_true, Bool.not_false, Option.map_some, Option.map_none, Option.bind_some, Option.bind_none, List.length_map, reduceIte, itemsL, itemsT, Option.map, Option.bind, Tg.bind, setN, List.append_nil, Nat.sub_zero, Nat.zero_add, ite_true, ite_false, Nat.zero_le, Nat.reduceAdd, Nat.reduceLeDiff, Nat.reduceSub, Nat.reduceMul, Nat.reduceEqDiff, Int.reduceLT, Int.reduceLE, Bool.false_eq_true, reduceCtorEq, and_true, true_and, and_self, F_how_many, s_how_many, F_count_in, s_count_in, e5, e4, e1, e6, e2, e7, e3]
theorem least_end0 {n : Int} {P A C : List D} (e5 : frzs P = P) (e6 : frzs A = A) (e7 : frzs C = C) (e8 : af.afs A = true) (e4 : F_look_pairs [.int n, .lst false P] = .ok .non) (e1 : F_needs [.int n, .lst false P] = .ok (.lst false A)) (e2 : F_ways_on [.lst false A] = .ok (.lst false C)) (e3 : dIx (.lst false C) (.int 0) = some (.int 0)) : F_least_order [.int n, .lst false P] = .ok .non := by
  simp only [runF, env0, endF, seqS, asgS, retS, ifS, nilS, brkS, cntS, drpS, mutS, forS, unpS, parS, keepM, frzM, gApp, op2, op1, vr, cI, cS, cB, cN, cT, De.get, Res.bind, lift, tst, toB, andB, orB, notB, andV, orV, notV, ifV, chn, consA, nilA, lstA, tupA, calA, fnA, strM, tgetA, lcA, itm, rngA, prtN, prtE, prtI, slA, dI, g1, g2, frz, frz_lst, frz_tup, frz_rol, frzs, frzs_ints, frzs_strs, frzs_app, frzs_len, af, af.afs, afs_ints, afs_strs, frzs_bls, dAll_map, dAny_map, all_tt, List.map_cons, List.map_nil, List.length_cons, List.length_nil, List.cons_append, List.nil_append, List.replicate, List.getElem?_cons_zero, List.getElem?_cons_succ, List.set_cons_zero, List.set_cons_succ, List.set, if_true, if_false, Bool.or_true, Bool.true_or, Bool.or_false, Bool.false_or, Bool.and_true, Bool.true_and, Bool.and_false, Bool.false_and, Bool.not_true, Bool.not_false, Option.map_some, Option.map_none, Option.bind_some, Option.bind_none, List.length_map, reduceIte, itemsL, itemsT, Option.map, Option.bind, Tg.bind, setN, List.append_nil, Nat.sub_zero, Nat.zero_add, ite_true, ite_false, Nat.zero_le, Nat.reduceAdd, Nat.reduceLeDiff, Nat.reduceSub, Nat.reduceMul, Nat.reduceEqDiff, Int.reduceLT, Int.reduceLE, Bool.false_eq_true, reduceCtorEq, and_true, true_and, and_self, F_least_order, s_least_order, F_least_in, s_least_in, e5, e4, e1, e6, e8, e2, e7, e3, dEq, decide_true]
theorem least_end1 {n w : Int} {P A B C : List D} (e5 : frzs P = P) (e6 : frzs A = A) (e7 : frzs C = C) (e8 : af.afs A = true) (e9 : frzs B = B) (e4 : F_look_pairs [.int n, .lst false P] = .ok .non) (e1 : F_needs [.int n, .lst false P] = .ok (.lst false A)) (e2 : F_ways_on [.lst false A] = .ok (.lst false C)) (e3 : dIx (.lst false C) (.int 0) = some (.int w)) (hne : ¬ w = 0) (q : F_ordered [.lst false A, .int 0] = .ok (.lst false B)) : F_least_order [.int n, .lst false P] = .ok (.lst false B) := by
  simp only [runF, env0, endF, seqS, asgS, retS, ifS, nilS, brkS, cntS, drpS, mutS, forS, unpS, parS, keepM, frzM, gApp, op2, op1, vr, cI, cS, cB, cN, cT, De.get, Res.bind, lift, tst, toB, andB, orB, notB, andV, orV, notV, ifV, chn, consA, nilA, lstA, tupA, calA, fnA, strM, tgetA, lcA, itm, rngA, prtN, prtE, prtI, slA, dI, g1, g2, frz, frz_lst, frz_tup, frz_rol, frzs, frzs_ints, frzs_strs, frzs_app, frzs_len, af, af.afs, afs_ints, afs_strs, frzs_bls, dAll_map, dAny_map, all_tt, List.map_cons, List.map_nil, List.length_cons, List.length_nil, List.cons_append, List.nil_append, List.replicate, List.getElem?_cons_zero, List.getElem?_cons_succ, List.set_cons_zero, List.set_cons_succ, List.set, if_true, if_false, Bool.or_true, Bool.true_or, Bool.or_false, Bool.false_or, Bool.and_true, Bool.true_and, Bool.and_false, Bool.false_and, Bool.not_true, Bool.not_false, Option.map_some, Option.map_none, Option.bind_some, Option.bind_none, List.length_map, reduceIte, itemsL, itemsT, Option.map, Option.bind, Tg.bind, setN, List.append_nil, Nat.sub_zero, Nat.zero_add, ite_true, ite_false, Nat.zero_le, Nat.reduceAdd, Nat.reduceLeDiff, Nat.reduceSub, Nat.reduceMul, Nat.reduceEqDiff, Int.reduceLT, Int.reduceLE, Bool.false_eq_true, reduceCtorEq, and_true, true_and, and_self, F_least_order, s_least_order, F_least_in, s_least_in, e5, e4, e1, e6, e8, e2, e7, e3, dEq, hne, decide_false, q, e9]
/-- ordered(masks, 0) is the first of all -/
theorem ordered_ok {ms : List Nat} (h1 : 1 ≤ ms.length) (h9 : ms.length ≤ 9) {k : Nat} {r : List Nat} (hr : (exts ms (whole ms) 0)[k]? = some r) : F_ordered [.lst false (ms.map nD), .int (k : Int)] = .ok (.lst false (r.map nD)) ∧ Go ms 0 r := by
  have hg := exts_go _ _ r (List.mem_of_getElem? hr)
  obtain ⟨g1, g2, g3⟩ := go_props r 0 hg
  have hl := nodup_full g1 (fun s hs => (g2 s hs).1) fun s hs => (g3 s hs).resolve_left (by simp)
  obtain ⟨ws, e, W⟩ := ways_on_ok h1 h9
  obtain ⟨k', d', x', y', q⟩ := ord_wh h9 W r (whole ms) k 0 1000 [] none none (two_pos _) (by omega) hr (by simpa using hl) (by omega)
  refine ⟨?_, hg⟩
  rw [List.nil_append] at q
  unfold oE at q
  exact ord_end (frzs_nD ms) e (afs_nD ws) (frzs_nD r) q
section
variable {n : Nat} {ps : Ps} (G : Good n ps)
include G
theorem Good.rng : ∀ p ∈ ps, 0 ≤ p.1 ∧ p.1 < (n : Int) ∧ 0 ≤ p.2 ∧ p.2 < (n : Int) := fun p hp => let ⟨a, b, c, d, _⟩ := G.ok p hp; ⟨a, b, c, d⟩
/-- how many orders keep the pairs: none behind a ring -/
theorem ways_zero {ms ws : List Nat} (M : Masks n ps ms) (W : IsWays ms ws) : ws.getD 0 0 = (exts ms (whole ms) 0).length := ways_len W (whole ms) 0 (two_pos _) (by omega)
theorem exts_none {ms : List Nat} (M : Masks n ps ms) {r : List Int} (hr : IsRing ps r) : exts ms (whole ms) 0 = [] := by
  cases e : exts ms (whole ms) 0 with
  | nil => rfl
  | cons o l =>
    have hg := exts_go (ms := ms) (whole ms) 0 o (by rw [e]; exact List.mem_cons_self ..)
    exact absurd hr ((hg.keeps M G.rng).noRing G.rng r)
theorem exts_some {ms : List Nat} (M : Masks n ps ms) (nr : ∀ r, ¬ IsRing ps r) : ∃ o, (exts ms (whole ms) 0)[0]? = some o := by
  obtain ⟨o, ho⟩ := go_some M G.rng nr (whole ms) 0 (two_pos _) (by omega)
  have := go_exts (whole ms) 0 o (two_pos _) (by omega) ho
  cases e : exts ms (whole ms) 0 with
  | nil => rw [e] at this; cases this
  | cons o l => exact ⟨o, rfl⟩
theorem how_many_ok : ∃ c : Nat, F_how_many [.int n, .lst false (psD ps)] = .ok (.int c) ∧ ((∃ r, IsRing ps r) → c = 0) ∧ ((∀ r, ¬ IsRing ps r) → 1 ≤ c) := by
  obtain ⟨ms, e1, M, _⟩ := needs_ok G
  obtain ⟨ws, e2, W⟩ := ways_on_ok (ms := ms) (by rw [M.len]; exact G.n1) (by rw [M.len]; exact G.n9)
  have e3 := ix_nD (l := ws) (j := 0) (by rw [W.len]; exact two_pos _)
  refine ⟨ws.getD 0 0, many_end (frzs_ps ps) (frzs_nD ms) (frzs_nD ws) (look_pairs_ok G) e1 e2 e3, fun ⟨r, hr⟩ => ?_, fun nr => ?_⟩
  · rw [ways_zero G M W, exts_none G M hr]; rfl
  · obtain ⟨o, ho⟩ := exts_some G M nr
    have := (List.getElem?_eq_some_iff.mp ho).1
    rw [ways_zero G M W]
    omega
theorem least_order_none {r : List Int} (hr : IsRing ps r) : F_least_order [.int n, .lst false (psD ps)] = .ok .non := by
  obtain ⟨ms, e1, M, _⟩ := needs_ok G
  obtain ⟨ws, e2, W⟩ := ways_on_ok (ms := ms) (by rw [M.len]; exact G.n1) (by rw [M.len]; exact G.n9)
  have e3 := ix_nD (l := ws) (j := 0) (by rw [W.len]; exact two_pos _)
  rw [ways_zero G M W, exts_none G M hr] at e3
  exact least_end0 (frzs_ps ps) (frzs_nD ms) (frzs_nD ws) (afs_nD ms) (look_pairs_ok G) e1 e2 e3
theorem least_order_some (nr : ∀ r, ¬ IsRing ps r) : ∃ o : List Nat, F_least_order [.int n, .lst false (psD ps)] = .ok (.lst false (o.map nD)) ∧ Keeps n ps o := by
  obtain ⟨ms, e1, M, _⟩ := needs_ok G
  have l1 : 1 ≤ ms.length := by rw [M.len]; exact G.n1
  have l9 : ms.length ≤ 9 := by rw [M.len]; exact G.n9
  obtain ⟨ws, e2, W⟩ := ways_on_ok l1 l9
  have e3 := ix_nD (l := ws) (j := 0) (by rw [W.len]; exact two_pos _)
  obtain ⟨o, ho⟩ := exts_some G M nr
  have hz := ways_zero G M W
  have hlt := (List.getElem?_eq_some_iff.mp ho).1
  obtain ⟨q, hg⟩ := ordered_ok l1 l9 ho
  refine ⟨o, ?_, hg.keeps M G.rng⟩
  have hne : ¬ (((ws.getD 0 0 : Nat) : Int) = 0) := by omega
  exact least_end1 (frzs_ps ps) (frzs_nD ms) (frzs_nD ws) (afs_nD ms) (frzs_nD o) (look_pairs_ok G) e1 e2 e3 hne q
end
end Cm
set_option Elab.async false
set_option linter.all false
set_option maxRecDepth 100000
namespace Cm
open PySem De Gr Bm
open L2 (Key)

/-! ### the law's helpers -/
theorem forGo_rng {tg : Tg} {body : De.Env → Out} (I : Nat → De.Env → Prop) (n : Nat) {ρ : De.Env} (h0 : I 0 ρ) (st : ∀ (k : Nat) (ρ : De.Env), k < n → I k ρ → ∃ ρ1 ρ2, tg.bind (.int (k : Int)) ρ = some ρ1 ∧ (body ρ1 = .nx ρ2 ∨ body ρ1 = .ct ρ2) ∧ I (k + 1) ρ2) : ∃ ρ', forGo tg body (rngD 0 n) ρ = .nx ρ' ∧ I n ρ' := by
  obtain ⟨ρ', e, h⟩ := forGo_all (tg := tg) (body := body) (fun pre ρ => I pre.length ρ) (rngD 0 n) (ρ := ρ) h0 fun pre d post ρ hi hall => by
    have hlen := congrArg List.length hall
    rw [rngD_len, List.length_append, List.length_cons] at hlen
    have hk : pre.length < n := by omega
    have hd : d = .int ((pre.length : Nat) : Int) := by
      have : (rngD 0 n)[pre.length]? = some d := by rw [hall, List.getElem?_append_right (Nat.le_refl _), Nat.sub_self]; rfl
      unfold rngD at this
      rw [List.getElem?_map, List.getElem?_range hk] at this
      rw [← Option.some.inj this]
      show D.int (0 + ((pre.length : Nat) : Int)) = _
      rw [Int.zero_add]
    subst hd
    obtain ⟨ρ1, ρ2, a, b, c⟩ := st pre.length ρ hk hi
    exact ⟨ρ1, ρ2, a, b, by rw [List.length_append]; exact c⟩
  exact ⟨ρ', e, by rw [← rngD_len 0 n]; exact h⟩
theorem ix_int {ds : List Int} {j : Nat} {v : Int} (h : ds[j]? = some v) : dIx (.lst false (ds.map .int)) (.int (j : Int)) = some (.int v) := atI_nat' (by rw [List.getElem?_map, h]; rfl)
theorem ix_get {ds : List Int} {j : Nat} (h : j < ds.length) : ∃ v, dIx (.lst false (ds.map .int)) (.int (j : Int)) = some (.int v) := ⟨ds[j], ix_int (List.getElem?_eq_getElem h)⟩
theorem idx_int {o : List Int} {i : Int} (h : i ∈ o) : dIdx (o.map .int) (.int i) = some (.int (o.idxOf i : Nat)) := by
  unfold dIdx
  dsimp only
  rw [intsD_map]
  show (o.findIdx? (· == i)).map _ = _
  have : o.findIdx? (· == i) = some (o.idxOf i) := by
    unfold List.idxOf
    rw [List.findIdx?_eq_some_iff_findIdx_eq]
    exact ⟨List.idxOf_lt_length_of_mem h, rfl⟩
  rw [this]; rfl
theorem ming_turn {ds : List Int} {many : D} {k v : Int} {F : List D} {F' : List D} (hx : dIx (.lst false (ds.map .int)) (.int k) = some (.int v)) (hk : 0 < k + 1) (hg : gIns (v % (k + 1)) F (.int k) = some F') : b1__law_mingled [some (.lst false (ds.map .int)), some many, some (.lst true F), some (.int k)] = .nx [some (.lst false (ds.map .int)), some many, some (.lst true F'), some (.int k)] := by
  simp only [runF, env0, endF, seqS, asgS, retS, ifS, nilS, brkS, cntS, drpS, mutS, forS, unpS, parS, keepM, frzM, gApp, op2, op1, vr, cI, cS, cB, cN, cT, De.get, Res.bind, lift, tst, toB, andB, orB, notB, andV, orV, notV, ifV, chn, consA, nilA, lstA, tupA, calA, fnA, strM, tgetA, lcA, itm, rngA, prtN, prtE, prtI, slA, dI, g1, g2, frz, frz_lst, frz_tup, frz_rol, frzs, frzs_ints, frzs_strs, frzs_app, frzs_len, af, af.afs, afs_ints, afs_strs, frzs_bls, dAll_map, dAny_map, all_tt, List.map_cons, List.map_nil, List.length_cons, List.length_nil, List.cons_append, List.nil_append, List.replicate, List.getElem?_cons_zero, List.getElem?_cons_succ, List.set_cons_zero, List.set_cons_succ, List.set, if_true, if_false, Bool.or_true, Bool.true_or, Bool.or_false, Bool.false_or, Bool.and_true, Bool.true_and, Bool.and_false, Bool.false_and, Bool.not_true, Bool.not_false, Option.map_some, Option.map_none, Option.bind_some, Option.bind_none, List.length_map, reduceIte, itemsL, itemsT, Option.map, Option.bind, Tg.bind, setN, List.append_nil, Nat.sub_zero, Nat.zero_add, ite_true, ite_false, Nat.zero_le, Nat.reduceAdd, Nat.reduceLeDiff, Nat.reduceSub, Nat.reduceMul, Nat.reduceEqDiff, Int.reduceLT, Int.reduceLE, Bool.false_eq_true, reduceCtorEq, and_true, true_and, and_self, b1__law_mingled, mut2S, hx, dAdd, dMod, hk, mutE, hg]
theorem ming_end {ds : List Int} {n : Int} {l : List D} {o : List Int} {x : Option D} (h1 : n ≤ 16777216 ∧ -(2 ^ 62) ≤ n) (e : forGo (.one 3) b1__law_mingled (rngD 0 n.toNat) [some (.lst false (ds.map .int)), some (.int n), some (.lst true []), none] = .nx [some (.lst false (ds.map .int)), some (.int n), some (.lst true (o.map .int)), x]) : F__law_mingled [.lst false (ds.map .int), .int n] = .ok (.lst false (o.map .int)) := by
  simp only [runF, env0, endF, seqS, asgS, retS, ifS, nilS, brkS, cntS, drpS, mutS, forS, unpS, parS, keepM, frzM, gApp, op2, op1, vr, cI, cS, cB, cN, cT, De.get, Res.bind, lift, tst, toB, andB, orB, notB, andV, orV, notV, ifV, chn, consA, nilA, lstA, tupA, calA, fnA, strM, tgetA, lcA, itm, rngA, prtN, prtE, prtI, slA, dI, g1, g2, frz, frz_lst, frz_tup, frz_rol, frzs, frzs_ints, frzs_strs, frzs_app, frzs_len, af, af.afs, afs_ints, afs_strs, frzs_bls, dAll_map, dAny_map, all_tt, List.map_cons, List.map_nil, List.length_cons, List.length_nil, List.cons_append, List.nil_append, List.replicate, List.getElem?_cons_zero, List.getElem?_cons_succ, List.set_cons_zero, List.set_cons_succ, List.set, if_true, if_false, Bool.or_true, Bool.true_or, Bool.or_false, Bool.false_or, Bool.and_true, Bool.true_and, Bool.and_false, Bool.false_and, Bool.not_true, Bool.not_false, Option.map_some, Option.map_none, Option.bind_some, Option.bind_none, List.length_map, reduceIte, itemsL, itemsT, Option.map, Option.bind, Tg.bind, setN, List.append_nil, Nat.sub_zero, Nat.zero_add, ite_true, ite_false, Nat.zero_le, Nat.reduceAdd, Nat.reduceLeDiff, Nat.reduceSub, Nat.reduceMul, Nat.reduceEqDiff, Int.reduceLT, Int.reduceLE, Bool.false_eq_true, reduceCtorEq, and_true, true_and, and_self, F__law_mingled, s__law_mingled, h1, and_self, e]
theorem mingled_ok {ds : List Int} {n : Nat} (hn : n ≤ 1000) (hd : n ≤ ds.length) : ∃ o : List Int, F__law_mingled [.lst false (ds.map .int), .int (n : Int)] = .ok (.lst false (o.map .int)) ∧ ∀ j : Nat, j < n → (j : Int) ∈ o := by
  obtain ⟨ρ', e, o, x, rfl, _, ho⟩ := forGo_rng (tg := .one 3) (body := b1__law_mingled) (fun k ρ => ∃ (o : List Int) (x : Option D), ρ = [some (.lst false (ds.map .int)), some (.int (n : Int)), some (.lst true (o.map .int)), x] ∧ o.length = k ∧ ∀ j : Nat, j < k → (j : Int) ∈ o) n ⟨[], none, rfl, rfl, fun j h => absurd h (by omega)⟩ fun k ρ hk ⟨o, x, e, hl, ho⟩ => by
    subst e
    obtain ⟨v, hv⟩ := ix_get (ds := ds) (j := k) (by omega)
    have h0 := Int.emod_nonneg v (show ((k : Int) + 1) ≠ 0 by omega)
    have h1 := Int.emod_lt_of_pos v (show (0 : Int) < (k : Int) + 1 by omega)
    obtain ⟨p, hp⟩ : ∃ p : Nat, v % ((k : Int) + 1) = p := ⟨(v % ((k : Int) + 1)).toNat, by omega⟩
    have hg : gIns (v % ((k : Int) + 1)) (o.map D.int) (.int (k : Int)) = some ((o.take p ++ [(k : Int)] ++ o.drop p).map D.int) := by
      unfold gIns
      rw [if_pos ⟨h0, by omega, by rw [List.length_map]; omega⟩, hp, Int.toNat_natCast, List.map_append, List.map_append, List.map_take, List.map_drop]; rfl
    refine ⟨[some (.lst false (ds.map .int)), some (.int (n : Int)), some (.lst true (o.map .int)), some (.int (k : Int))], [some (.lst false (ds.map .int)), some (.int (n : Int)), some (.lst true ((o.take p ++ [(k : Int)] ++ o.drop p).map D.int)), some (.int (k : Int))], rfl, .inl (ming_turn hv (by omega) hg), _, _, rfl, ?_, fun j hj => ?_⟩
    · rw [List.length_append, List.length_append, List.length_take, List.length_drop, List.length_singleton]
      omega
    · rw [List.mem_append, List.mem_append, List.mem_singleton]
      by_cases e : j = k
      · exact .inl (.inr (by rw [e]))
      · have := ho j (by omega)
        rw [← List.take_append_drop p o, List.mem_append] at this
        exact this.elim (fun z => .inl (.inl z)) .inr
  exact ⟨o, ming_end (l := []) (x := x) ⟨by omega, by omega⟩ (by rw [Int.toNat_natCast]; exact e), ho⟩
/-! ### some pairs -/
theorem psD_app (ps : Ps) (s t : Int) : psD (ps ++ [(s, t)]) = psD ps ++ [.tup [.int s, .int t]] := by
  unfold psD
  rw [List.map_append]; rfl
theorem pair_turn {ds o : List Int} {n k a b c i j : Int} {F : List D} {x y : Option D} (n1 : 1 < n) (h2 : dIx (.lst false (ds.map .int)) (.int 2) = some (.int c)) (h12 : dIx (.lst false (ds.map .int)) (.int (12 + 2 * k)) = some (.int a)) (h13 : dIx (.lst false (ds.map .int)) (.int (13 + 2 * k)) = some (.int b))
    (hi : dIdx (o.map .int) (.int (a % n)) = some (.int i)) (hj : dIdx (o.map .int) (.int ((a % n + 1 + b % (n - 1)) % n)) = some (.int j)) (hF : F.length < 16777216) :
    ∃ u v, b1__law_some_pairs [some (.lst false (ds.map .int)), some (.int n), some (.lst false (o.map .int)), some (.lst true F), some (.int k), x, y] = .nx [some (.lst false (ds.map .int)), some (.int n), some (.lst false (o.map .int)), some (.lst true (F ++ [.tup [.int u, .int v]])), some (.int k), some (.int u), some (.int v)] ∧
      ((u = a % n ∧ v = (a % n + 1 + b % (n - 1)) % n) ∨ (v = a % n ∧ u = (a % n + 1 + b % (n - 1)) % n)) := by
  have s2 : De.small64 2 = true := by decide
  have n0 : 0 < n := by omega
  have n2 : 0 < n - 1 := by omega
  have p5 : (0 : Int) < 5 := by decide
  by_cases h1 : 0 < c % 5
  · by_cases h3 : j < i
    · refine ⟨(a % n + 1 + b % (n - 1)) % n, a % n, ?_, .inr ⟨rfl, rfl⟩⟩
      simp only [runF, env0, endF, seqS, asgS, retS, ifS, nilS, brkS, cntS, drpS, mutS, forS, unpS, parS, keepM, frzM, gApp, op2, op1, vr, cI, cS, cB, cN, cT, De.get, Res.bind, lift, tst, toB, andB, orB, notB, andV, orV, notV, ifV, chn, consA, nilA, lstA, tupA, calA, fnA, strM, tgetA, lcA, itm, rngA, prtN, prtE, prtI, slA, dI, g1, g2, frz, frz_lst, frz_tup, frz_rol, frzs, frzs_ints, frzs_strs, frzs_app, frzs_len, af, af.afs, afs_ints, afs_strs, frzs_bls, dAll_map, dAny_map, all_tt, List.map_cons, List.map_nil, List.length_cons, List.length_nil, List.cons_append, List.nil_append, List.replicate, List.getElem?_cons_zero, List.getElem?_cons_succ, List.set_cons_zero, List.set_cons_succ, List.set, if_true, if_false, Bool.or_true, Bool.true_or, Bool.or_false, Bool.false_or, Bool.and_true, Bool.true_and, Bool.and_false, Bool.false_and, Bool.not_true, Bool.not_false, Option.map_some, Option.map_none, Option.bind_some, Option.bind_none, List.length_map, reduceIte, itemsL, itemsT, Option.map, Option.bind, Tg.bind, setN, List.append_nil, Nat.sub_zero, Nat.zero_add, ite_true, ite_false, Nat.zero_le, Nat.reduceAdd, Nat.reduceLeDiff, Nat.reduceSub, Nat.reduceMul, Nat.reduceEqDiff, Int.reduceLT, Int.reduceLE, Bool.false_eq_true, reduceCtorEq, and_true, true_and, and_self, b1__law_some_pairs, dMul, s2, dAdd, h12, h13, h2, dMod, n0, n2, dSub, dGt, p5, h1, decide_true, idxA, isLst, hi, hj, h3, hF]
    · refine ⟨a % n, (a % n + 1 + b % (n - 1)) % n, ?_, .inl ⟨rfl, rfl⟩⟩
      simp only [runF, env0, endF, seqS, asgS, retS, ifS, nilS, brkS, cntS, drpS, mutS, forS, unpS, parS, keepM, frzM, gApp, op2, op1, vr, cI, cS, cB, cN, cT, De.get, Res.bind, lift, tst, toB, andB, orB, notB, andV, orV, notV, ifV, chn, consA, nilA, lstA, tupA, calA, fnA, strM, tgetA, lcA, itm, rngA, prtN, prtE, prtI, slA, dI, g1, g2, frz, frz_lst, frz_tup, frz_rol, frzs, frzs_ints, frzs_strs, frzs_app, frzs_len, af, af.afs, afs_ints, afs_strs, frzs_bls, dAll_map, dAny_map, all_tt, List.map_cons, List.map_nil, List.length_cons, List.length_nil, List.cons_append, List.nil_append, List.replicate, List.getElem?_cons_zero, List.getElem?_cons_succ, List.set_cons_zero, List.set_cons_succ, List.set, if_true, if_false, Bool.or_true, Bool.true_or, Bool.or_false, Bool.false_or, Bool.and_true, Bool.true_and, Bool.and_false, Bool.false_and, Bool.not_true, Bool.not_false, Option.map_some, Option.map_none, Option.bind_some, Option.bind_none, List.length_map, reduceIte, itemsL, itemsT, Option.map, Option.bind, Tg.bind, setN, List.append_nil, Nat.sub_zero, Nat.zero_add, ite_true, ite_false, Nat.zero_le, Nat.reduceAdd, Nat.reduceLeDiff, Nat.reduceSub, Nat.reduceMul, Nat.reduceEqDiff, Int.reduceLT, Int.reduceLE, Bool.false_eq_true, reduceCtorEq, and_true, true_and, and_self, b1__law_some_pairs, dMul, s2, dAdd, h12, h13, h2, dMod, n0, n2, dSub, dGt, p5, h1, decide_true, idxA, isLst, hi, hj, h3, hF, decide_false]
  · refine ⟨a % n, (a % n + 1 + b % (n - 1)) % n, ?_, .inl ⟨rfl, rfl⟩⟩
    simp only [runF, env0, endF, seqS, asgS, retS, ifS, nilS, brkS, cntS, drpS, mutS, forS, unpS, parS, keepM, frzM, gApp, op2, op1, vr, cI, cS, cB, cN, cT, De.get, Res.bind, lift, tst, toB, andB, orB, notB, andV, orV, notV, ifV, chn, consA, nilA, lstA, tupA, calA, fnA, strM, tgetA, lcA, itm, rngA, prtN, prtE, prtI, slA, dI, g1, g2, frz, frz_lst, frz_tup, frz_rol, frzs, frzs_ints, frzs_strs, frzs_app, frzs_len, af, af.afs, afs_ints, afs_strs, frzs_bls, dAll_map, dAny_map, all_tt, List.map_cons, List.map_nil, List.length_cons, List.length_nil, List.cons_append, List.nil_append, List.replicate, List.getElem?_cons_zero, List.getElem?_cons_succ, List.set_cons_zero, List.set_cons_succ, List.set, if_true, if_false, Bool.or_true, Bool.true_or, Bool.or_false, Bool.false_or, Bool.and_true, Bool.true_and, Bool.and_false, Bool.false_and, Bool.not_true, Bool.not_false, Option.map_some, Option.map_none, Option.bind_some, Option.bind_none, List.length_map, reduceIte, itemsL, itemsT, Option.map, Option.bind, Tg.bind, setN, List.append_nil, Nat.sub_zero, Nat.zero_add, ite_true, ite_false, Nat.zero_le, Nat.reduceAdd, Nat.reduceLeDiff, Nat.reduceSub, Nat.reduceMul, Nat.reduceEqDiff, Int.reduceLT, Int.reduceLE, Bool.false_eq_true, reduceCtorEq, and_true, true_and, and_self, b1__law_some_pairs, dMul, s2, dAdd, h12, h13, h2, dMod, n0, n2, dSub, dGt, p5, h1, decide_false, idxA, isLst, hi, hj, hF]
theorem pair_end {ds o e : List Int} {n m a b : Int} {P : List D} {x1 x2 x3 : Option D} (n1 : ¬ n < 2) (h0 : dIx (.lst false (ds.map .int)) (.int 0) = some (.int a)) (h1 : dIx (.lst false (ds.map .int)) (.int 1) = some (.int b)) (hs : cutL (ds.map D.int) (some 3) none = e.map D.int) (hm : F__law_mingled [.lst false (e.map .int), .int n] = .ok (.lst false (o.map .int)))
    (hc : dIx (.lst false [.int (a % 4), .int (a % 9), .int (a % 17)]) (.int (b % 3)) = some (.int m)) (hr : m ≤ 16777216 ∧ -(2 ^ 62) ≤ m) (hP : frzs P = P) (q : forGo (.one 4) b1__law_some_pairs (rngD 0 m.toNat) [some (.lst false (ds.map .int)), some (.int n), some (.lst false (o.map .int)), some (.lst true []), none, none, none] = .nx [some (.lst false (ds.map .int)), some (.int n), some (.lst false (o.map .int)), some (.lst true P), x1, x2, x3]) :
    F__law_some_pairs [.lst false (ds.map .int), .int n] = .ok (.lst false P) := by
  have p3 : (0 : Int) < 3 := by decide
  have p4 : (0 : Int) < 4 := by decide
  have p9 : (0 : Int) < 9 := by decide
  have p17 : (0 : Int) < 17 := by decide
  simp only [runF, env0, endF, seqS, asgS, retS, ifS, nilS, brkS, cntS, drpS, mutS, forS, unpS, parS, keepM, frzM, gApp, op2, op1, vr, cI, cS, cB, cN, cT, De.get, Res.bind, lift, tst, toB, andB, orB, notB, andV, orV, notV, ifV, chn, consA, nilA, lstA, tupA, calA, fnA, strM, tgetA, lcA, itm, rngA, prtN, prtE, prtI, slA, dI, g1, g2, frz, frz_lst, frz_tup, frz_rol, frzs, frzs_ints, frzs_strs, frzs_app, frzs_len, af, af.afs, afs_ints, afs_strs, frzs_bls, dAll_map, dAny_map, all_tt, List.map_cons, List.map_nil, List.length_cons, List.length_nil, List.cons_append, List.nil_append, List.replicate, List.getElem?_cons_zero, List.getElem?_cons_succ, List.set_cons_zero, List.set_cons_succ, List.set, if_true, if_false, Bool.or_true, Bool.true_or, Bool.or_false, Bool.false_or, Bool.and_true, Bool.true_and, Bool.and_false, Bool.false_and, Bool.not_true, Bool.not_false, Option.map_some, Option.map_none, Option.bind_some, Option.bind_none, List.length_map, reduceIte, itemsL, itemsT, Option.map, Option.bind, Tg.bind, setN, List.append_nil, Nat.sub_zero, Nat.zero_add, ite_true, ite_false, Nat.zero_le, Nat.reduceAdd, Nat.reduceLeDiff, Nat.reduceSub, Nat.reduceMul, Nat.reduceEqDiff, Int.reduceLT, Int.reduceLE, Bool.false_eq_true, reduceCtorEq, and_true, true_and, and_self, F__law_some_pairs, s__law_some_pairs, dLt, n1, decide_false, dSl, hs, hm, h0, h1, dMod, p3, p4, p9, p17, hc, hr, and_self, q, hP]
theorem pair_none {d : D} {n : Int} (n1 : n < 2) : F__law_some_pairs [d, .int n] = .ok (.lst true []) := by
  simp only [runF, env0, endF, seqS, asgS, retS, ifS, nilS, brkS, cntS, drpS, mutS, forS, unpS, parS, keepM, frzM, gApp, op2, op1, vr, cI, cS, cB, cN, cT, De.get, Res.bind, lift, tst, toB, andB, orB, notB, andV, orV, notV, ifV, chn, consA, nilA, lstA, tupA, calA, fnA, strM, tgetA, lcA, itm, rngA, prtN, prtE, prtI, slA, dI, g1, g2, frz, frz_lst, frz_tup, frz_rol, frzs, frzs_ints, frzs_strs, frzs_app, frzs_len, af, af.afs, afs_ints, afs_strs, frzs_bls, dAll_map, dAny_map, all_tt, List.map_cons, List.map_nil, List.length_cons, List.length_nil, List.cons_append, List.nil_append, List.replicate, List.getElem?_cons_zero, List.getElem?_cons_succ, List.set_cons_zero, List.set_cons_succ, List.set, if_true, if_false, Bool.or_true, Bool.true_or, Bool.or_false, Bool.false_or, Bool.and_true, Bool.true_and, Bool.and_false, Bool.false_and, Bool.not_true, Bool.not_false, Option.map_some, Option.map_none, Option.bind_some, Option.bind_none, List.length_map, reduceIte, itemsL, itemsT, Option.map, Option.bind, Tg.bind, setN, List.append_nil, Nat.sub_zero, Nat.zero_add, ite_true, ite_false, Nat.zero_le, Nat.reduceAdd, Nat.reduceLeDiff, Nat.reduceSub, Nat.reduceMul, Nat.reduceEqDiff, Int.reduceLT, Int.reduceLE, Bool.false_eq_true, reduceCtorEq, and_true, true_and, and_self, F__law_some_pairs, s__law_some_pairs, dLt, n1, decide_true]
def ls44 : List Int := [1224, 3, 5] ++ List.replicate 9 27720 ++ List.replicate 32 27720
theorem some_pairs_ok {ds : List Int} (hb : Bd ds ls44) {n : Nat} (n1 : 1 ≤ n) (n9 : n ≤ 9) : ∃ (b : Bool) (ps : Ps), F__law_some_pairs [.lst false (ds.map .int), .int (n : Int)] = .ok (.lst b (psD ps)) ∧ Good n ps ∧ ps.length ≤ 16 := by
  by_cases h2 : n < 2
  · exact ⟨true, [], pair_none (by omega), ⟨n1, n9, fun p hp => (by cases hp), by decide⟩, by decide⟩
  · have hlen : ds.length = 44 := hb.1
    obtain ⟨a, ha⟩ := ix_get (ds := ds) (j := 0) (by omega)
    obtain ⟨b, hb1⟩ := ix_get (ds := ds) (j := 1) (by omega)
    obtain ⟨c, hc⟩ := ix_get (ds := ds) (j := 2) (by omega)
    have hcut : cutL (ds.map D.int) (some 3) none = (ds.drop 3).map D.int := by
      unfold cutL
      have : HT.sIx (ds.map D.int).length 0 (some 3) = 3 := by rw [List.length_map, hlen]; rfl
      have h4 : HT.sIx (ds.map D.int).length (ds.map D.int).length none = 44 := by rw [List.length_map, hlen]; rfl
      rw [this, h4, ← List.map_drop, List.take_of_length_le (by rw [List.length_map, List.length_drop]; omega)]
    obtain ⟨o, hm, ho⟩ := mingled_ok (ds := ds.drop 3) (n := n) (by omega) (by rw [List.length_drop]; omega)
    have m4 := Int.emod_nonneg a (show (4 : Int) ≠ 0 by decide)
    have m9 := Int.emod_nonneg a (show (9 : Int) ≠ 0 by decide)
    have m17 := Int.emod_nonneg a (show (17 : Int) ≠ 0 by decide)
    obtain ⟨m, hm1, hm2⟩ : ∃ m : Nat, dIx (.lst false [.int (a % 4), .int (a % 9), .int (a % 17)]) (.int (b % 3)) = some (.int (m : Int)) ∧ m ≤ 16 := by
      have c3 : b % 3 = ((0 : Nat) : Int) ∨ b % 3 = ((1 : Nat) : Int) ∨ b % 3 = ((2 : Nat) : Int) := by omega
      rcases c3 with e | e | e
      · exact ⟨(a % 4).toNat, by rw [e, Int.toNat_of_nonneg m4]; exact L2.atI_nat (xs := [D.int (a % 4), .int (a % 9), .int (a % 17)]) (j := 0) rfl, by omega⟩
      · exact ⟨(a % 9).toNat, by rw [e, Int.toNat_of_nonneg m9]; exact L2.atI_nat (xs := [D.int (a % 4), .int (a % 9), .int (a % 17)]) (j := 1) rfl, by omega⟩
      · exact ⟨(a % 17).toNat, by rw [e, Int.toNat_of_nonneg m17]; exact L2.atI_nat (xs := [D.int (a % 4), .int (a % 9), .int (a % 17)]) (j := 2) rfl, by omega⟩
    have mo : ∀ z : Int, 0 ≤ z → z < (n : Int) → z ∈ o := fun z h1 h2 => by
      have := ho z.toNat (by omega)
      rwa [Int.toNat_of_nonneg h1] at this
    obtain ⟨ρ', q, ps, x1, x2, x3, rfl, hl, hok⟩ := forGo_rng (tg := .one 4) (body := b1__law_some_pairs) (fun k ρ => ∃ (ps : Ps) (x1 x2 x3 : Option D), ρ = [some (.lst false (ds.map .int)), some (.int (n : Int)), some (.lst false (o.map .int)), some (.lst true (psD ps)), x1, x2, x3] ∧ ps.length = k ∧ ∀ p ∈ ps, 0 ≤ p.1 ∧ p.1 < (n : Int) ∧ 0 ≤ p.2 ∧ p.2 < (n : Int) ∧ p.1 ≠ p.2) m ⟨[], none, none, none, rfl, rfl, fun p hp => by cases hp⟩ fun k ρ hk ⟨ps, x1, x2, x3, e, hl, hok⟩ => by
      subst e
      obtain ⟨u, hu⟩ := ix_get (ds := ds) (j := 12 + 2 * k) (by omega)
      obtain ⟨v, hv⟩ := ix_get (ds := ds) (j := 13 + 2 * k) (by omega)
      have u0 := Int.emod_nonneg u (show (n : Int) ≠ 0 by omega)
      have u1 := Int.emod_lt_of_pos u (show (0 : Int) < (n : Int) by omega)
      have v0 := Int.emod_nonneg v (show (n : Int) - 1 ≠ 0 by omega)
      have v1 := Int.emod_lt_of_pos v (show (0 : Int) < (n : Int) - 1 by omega)
      have w0 := Int.emod_nonneg (u % n + 1 + v % (n - 1)) (show (n : Int) ≠ 0 by omega)
      have w1 := Int.emod_lt_of_pos (u % n + 1 + v % (n - 1)) (show (0 : Int) < (n : Int) by omega)
      have ne : u % n ≠ (u % n + 1 + v % (n - 1)) % n := by
        by_cases h : u % n + 1 + v % (n - 1) < n
        · rw [Int.emod_eq_of_lt (a := u % n + 1 + v % (n - 1)) (by omega) h]; omega
        · rw [show u % (n : Int) + 1 + v % ((n : Int) - 1) = (u % n + 1 + v % (n - 1) - n) + n by omega, Int.add_emod_right, Int.emod_eq_of_lt (a := u % n + 1 + v % (n - 1) - n) (by omega) (by omega)]
          omega
      obtain ⟨s, t, e, z⟩ := pair_turn (n := (n : Int)) (k := (k : Int)) (x := x2) (y := x3) (F := psD ps) (by omega) hc (by exact_mod_cast hu) (by exact_mod_cast hv) (idx_int (mo _ u0 u1)) (idx_int (mo _ w0 w1)) (by rw [List.length_map, hl]; omega)
      refine ⟨_, _, rfl, .inl e, ps ++ [(s, t)], _, _, _, by rw [psD_app], by rw [List.length_append, hl]; rfl, fun p hp => ?_⟩
      rcases List.mem_append.mp hp with hp | hp
      · exact hok p hp
      · rw [List.mem_singleton.mp hp]
        dsimp only
        rcases z with ⟨rfl, rfl⟩ | ⟨rfl, rfl⟩
        · exact ⟨u0, u1, w0, w1, ne⟩
        · exact ⟨w0, w1, u0, u1, ne.symm⟩
    exact ⟨false, ps, pair_end (by omega) ha hb1 hcut hm hm1 ⟨by omega, by omega⟩ (frzs_ps ps) (by rw [Int.toNat_natCast]; exact q), ⟨n1, n9, hok, by omega⟩, by omega⟩
end Cm
set_option Elab.async false
set_option linter.all false
set_option maxRecDepth 100000
namespace Cm
open PySem De Gr Bm
open L2 (Key)

theorem dNe_ints (a b : Bool) (l : List Int) : dNe (.lst a (l.map .int)) (.lst b (l.map .int)) = some (.bl false) := by
  show ((dEqO (.lst a (l.map D.int)) (.lst b (l.map D.int))).map notD) = _
  unfold dEqO eqD
  rw [lv_ints 19 a l, lv_ints 19 b l]
  show Option.map notD (some (D.bl ((PyData.list (toPs (l.map D.int))).eqv (.list (toPs (l.map D.int)))))) = _
  rw [toP_ints, eqv_ils, decide_eq_true rfl]; rfl
theorem eqD_pair (p q : Int × Int) : eqD (pD p) (pD q) = decide (p = q) := by
  obtain ⟨a, b⟩ := p
  obtain ⟨c, d⟩ := q
  simp only [eqD, pD, toP, toPs, PyData.eqv, PyData.eqvAll, Bool.and_true, Prod.mk.injEq, Bool.decide_and]
  rfl
theorem lvs_ps (n : Nat) : ∀ ps : Ps, lvs (n + 1) (psD ps) = true
  | [] => rfl
  | p :: ps => by show (lv (n + 1) (pD p) && lvs (n + 1) (psD ps)) = true; rw [lvs_ps n ps]; rfl
theorem inX_pair {p : Int × Int} {ps : Ps} (h : p ∈ ps) : dInX (pD p) (.lst false (psD ps)) = some (.bl true) := by
  unfold dInX inDeep
  dsimp only
  rw [lvs_ps 19 ps, show lv 20 (pD p) = true from rfl, if_pos (by rfl)]
  have : ((psD ps).any fun z => eqD z (pD p)) = true := List.any_eq_true.mpr ⟨pD p, List.mem_map.mpr ⟨p, h, rfl⟩, by rw [eqD_pair]; exact decide_eq_true rfl⟩
  rw [this]; rfl
theorem bls_true {α : Type} : ∀ l : List α, bls (l.map fun _ => D.bl true) = some (l.map fun _ => true)
  | [] => rfl
  | a :: l => by show (bls (l.map fun _ => D.bl true)).map (true :: ·) = _; rw [bls_true l]; rfl
theorem dAll_true {α : Type} (b : Bool) (l : List α) : dAll (.lst b (l.map fun _ => D.bl true)) = some (.bl true) := by
  show (bls (l.map fun _ => D.bl true)).map (fun bs => D.bl (bs.all id)) = _
  rw [bls_true]
  have : (l.map fun _ => true).all id = true := by induction l with
    | nil => rfl
    | cons a l ih => rw [List.map_cons, List.all_cons, ih]; rfl
  show some (D.bl _) = _
  rw [this]
theorem frzs_bl {α : Type} (l : List α) : frzs (l.map fun _ => D.bl true) = l.map fun _ => D.bl true := by rw [frzs_eq, List.map_map]; rfl
/-! ### an order keeps the pairs -/
def oI (o : List Nat) : List Int := o.map fun s : Nat => (s : Int)
theorem oI_nD (o : List Nat) : o.map nD = (oI o).map .int := by unfold oI; rw [List.map_map]; rfl
theorem oI_idx {o : List Nat} {s : Nat} (h : s ∈ o) : dIdx (o.map nD) (.int (s : Int)) = some (.int (o.idxOf s : Nat)) := by
  rw [oI_nD, idx_int (o := oI o) (List.mem_map.mpr ⟨s, h, rfl⟩)]
  have : ∀ o : List Nat, (oI o).idxOf (s : Int) = o.idxOf s := by
    intro o
    induction o with
    | nil => rfl
    | cons a o ih =>
      show ((a : Int) :: oI o).idxOf (s : Int) = _
      rw [List.idxOf_cons, List.idxOf_cons, ih]
      by_cases e : a = s
      · rw [e]; simp
      · rw [show ((a : Int) == (s : Int)) = false from beq_eq_false_iff_ne.mpr (by omega), show (a == s) = false from beq_eq_false_iff_ne.mpr e]
  rw [this]
theorem keeps_end {A P L : List D} (hP : frzs P = P) (hL : frzs L = L) (lc : lcGo (.tup [2, 3]) yesB e1__law_keeps [some (.lst false A), some (.lst false P), none, none] P = some L) (ha : dAll (.lst false L) = some (.bl true)) : F__law_keeps [.lst false A, .lst false P] = .ok (.bl true) := by
  simp only [runF, env0, endF, seqS, asgS, retS, ifS, nilS, brkS, cntS, drpS, mutS, forS, unpS, parS, keepM, frzM, gApp, op2, op1, vr, cI, cS, cB, cN, cT, De.get, Res.bind, lift, tst, toB, andB, orB, notB, andV, orV, notV, ifV, chn, consA, nilA, lstA, tupA, calA, fnA, strM, tgetA, lcA, itm, rngA, prtN, prtE, prtI, slA, dI, g1, g2, frz, frz_lst, frz_tup, frz_rol, frzs, frzs_ints, frzs_strs, frzs_app, frzs_len, af, af.afs, afs_ints, afs_strs, frzs_bls, dAll_map, dAny_map, all_tt, List.map_cons, List.map_nil, List.length_cons, List.length_nil, List.cons_append, List.nil_append, List.replicate, List.getElem?_cons_zero, List.getElem?_cons_succ, List.set_cons_zero, List.set_cons_succ, List.set, if_true, if_false, Bool.or_true, Bool.true_or, Bool.or_false, Bool.false_or, Bool.and_true, Bool.true_and, Bool.and_false, Bool.false_and, Bool.not_true, Bool.not_false, Option.map_some, Option.map_none, Option.bind_some, Option.bind_none, List.length_map, reduceIte, itemsL, itemsT, Option.map, Option.bind, Tg.bind, setN, List.append_nil, Nat.sub_zero, Nat.zero_add, ite_true, ite_false, Nat.zero_le, Nat.reduceAdd, Nat.reduceLeDiff, Nat.reduceSub, Nat.reduceMul, Nat.reduceEqDiff, Int.reduceLT, Int.reduceLE, Bool.false_eq_true, reduceCtorEq, and_true, true_and, and_self, F__law_keeps, s__law_keeps, itD, hP, lc, hL, ha]
theorem keeps_turn {A P : List D} {u v i j : Int} (h1 : dIdx A (.int u) = some (.int i)) (h2 : dIdx A (.int v) = some (.int j)) (h : i < j) (hA : frzs A = A) : e1__law_keeps [some (.lst false A), some (.lst false P), some (.int u), some (.int v)] = .ok (.bl true) := by
  simp only [runF, env0, endF, seqS, asgS, retS, ifS, nilS, brkS, cntS, drpS, mutS, forS, unpS, parS, keepM, frzM, gApp, op2, op1, vr, cI, cS, cB, cN, cT, De.get, Res.bind, lift, tst, toB, andB, orB, notB, andV, orV, notV, ifV, chn, consA, nilA, lstA, tupA, calA, fnA, strM, tgetA, lcA, itm, rngA, prtN, prtE, prtI, slA, dI, g1, g2, frz, frz_lst, frz_tup, frz_rol, frzs, frzs_ints, frzs_strs, frzs_app, frzs_len, af, af.afs, afs_ints, afs_strs, frzs_bls, dAll_map, dAny_map, all_tt, List.map_cons, List.map_nil, List.length_cons, List.length_nil, List.cons_append, List.nil_append, List.replicate, List.getElem?_cons_zero, List.getElem?_cons_succ, List.set_cons_zero, List.set_cons_succ, List.set, if_true, if_false, Bool.or_true, Bool.true_or, Bool.or_false, Bool.false_or, Bool.and_true, Bool.true_and, Bool.and_false, Bool.false_and, Bool.not_true, Bool.not_false, Option.map_some, Option.map_none, Option.bind_some, Option.bind_none, List.length_map, reduceIte, itemsL, itemsT, Option.map, Option.bind, Tg.bind, setN, List.append_nil, Nat.sub_zero, Nat.zero_add, ite_true, ite_false, Nat.zero_le, Nat.reduceAdd, Nat.reduceLeDiff, Nat.reduceSub, Nat.reduceMul, Nat.reduceEqDiff, Int.reduceLT, Int.reduceLE, Bool.false_eq_true, reduceCtorEq, and_true, true_and, and_self, e1__law_keeps, idxA, isLst, hA, h1, h2, dLt, h, decide_true]
theorem keeps_ok {n : Nat} {ps : Ps} (G : Good n ps) {o : List Nat} (K : Keeps n ps o) : F__law_keeps [.lst false (o.map nD), .lst false (psD ps)] = .ok (.bl true) := by
  refine keeps_end (L := ps.map fun _ => .bl true) (frzs_ps ps) (frzs_bl ps) ?_ (dAll_true _ _)
  have h := lcGo_fm (tg := .tup [2, 3]) (tt := yesB) (te := e1__law_keeps) (ρ := [some (.lst false (o.map nD)), some (.lst false (psD ps)), none, none]) pD (fun _ => true) (fun _ => D.bl true) ps fun p hp => ?_
  · rw [h, List.filter_eq_self.mpr fun _ _ => rfl]
  · obtain ⟨a1, a2, a3, a4, _⟩ := G.ok p hp
    obtain ⟨u, v⟩ := p
    dsimp only at a1 a2 a3 a4
    obtain ⟨u, rfl⟩ := Int.eq_ofNat_of_zero_le a1
    obtain ⟨v, rfl⟩ := Int.eq_ofNat_of_zero_le a3
    have hlt := K.ord u v hp
    exact ⟨[some (.lst false (o.map nD)), some (.lst false (psD ps)), some (.int (u : Int)), some (.int (v : Int))], rfl, rfl, fun _ => keeps_turn (oI_idx (K.all u (by omega))) (oI_idx (K.all v (by omega))) (by omega) (frzs_nD o)⟩
theorem sort_keeps {n : Nat} {ps : Ps} {o : List Nat} (K : Keeps n ps o) (h9 : n ≤ 1000) : ∃ l : List Int, dSortI (.lst false (o.map nD)) = some (.lst true (l.map .int)) ∧ dLrng (.int (n : Int)) = some (.lst true (l.map .int)) := by
  have perm : (oI o).Perm (oI (List.range n)) := by
    unfold oI
    refine List.Perm.map _ ?_
    rw [List.perm_ext_iff_of_nodup K.nd List.nodup_range]
    intro a
    rw [List.mem_range]
    exact ⟨K.lt a, K.all a⟩
  have srt : (oI (List.range n)).Pairwise (· ≤ ·) := by
    unfold oI
    rw [List.pairwise_map]
    exact (List.pairwise_lt_range (n := n)).imp fun h => by omega
  refine ⟨oI (List.range n), ?_, ?_⟩
  · show (intsD (o.map nD)).map (fun ns => D.lst true ((sortI ns).map .int)) = _
    rw [intsD_nD]
    show some (D.lst true ((sortI (oI o)).map .int)) = _
    rw [sorted_uniq ((sortI_perm (oI o)).trans perm) (sortI_sorted _) srt]
  · unfold dLrng rngD
    dsimp only
    rw [if_pos ⟨by omega, by omega⟩, Int.toNat_natCast]
    unfold oI
    rw [List.map_map]
    congr 2
    refine List.map_congr_left fun i _ => ?_
    show D.int (0 + (i : Int)) = D.int (i : Int)
    rw [Int.zero_add]
/-! ### a ring goes round -/
theorem way_step {ps : Ps} {s v : Int} {p : List Int} (h : Way ps s p v) : (∃ q, p = s :: q) ∧ p.getLast? = some v ∧ ∀ (i : Nat) a b, p[i]? = some a → p[i + 1]? = some b → (a, b) ∈ ps := by
  induction h with
  | one => exact ⟨⟨[], rfl⟩, rfl, fun i a b h1 h2 => by simp at h2⟩
  | snoc w hm ih =>
    rename_i p u v
    obtain ⟨⟨q, hq⟩, h2, h3⟩ := ih
    refine ⟨⟨q ++ [v], by rw [hq]; rfl⟩, by simp, fun i a b ha hb => ?_⟩
    by_cases hi : i + 1 < p.length
    · rw [List.getElem?_append_left (by omega)] at ha
      rw [List.getElem?_append_left hi] at hb
      exact h3 i a b ha hb
    · have hlt : i + 1 < (p ++ [v]).length := (List.getElem?_eq_some_iff.mp hb).1
      rw [List.length_append, List.length_singleton] at hlt
      have e : i + 1 = p.length := by omega
      rw [List.getElem?_append_right (by omega), e, Nat.sub_self] at hb
      rw [List.getElem?_append_left (by omega)] at ha
      have hb : v = b := by simpa using hb
      have : p.getLast? = some a := by rw [List.getLast?_eq_getElem?, ← ha]; congr 1; omega
      rw [h2] at this
      rw [← hb, ← Option.some.inj this]
      exact hm
theorem ring_round {ps : Ps} {r : List Int} (h : IsRing ps r) : ∀ k : Nat, k < r.length → ∃ a b, L2.atI (r.map D.int) ((k : Int) - 1) = some (.int a) ∧ L2.atI (r.map D.int) (k : Int) = some (.int b) ∧ (a, b) ∈ ps := by
  obtain ⟨s, v, hm, w⟩ := h
  obtain ⟨⟨q, hq⟩, hl, hs⟩ := way_step w
  intro k hk
  cases k with
  | zero =>
    refine ⟨v, s, ?_, atI_nat' (j := 0) (by rw [hq]; rfl), hm⟩
    obtain ⟨z, hz⟩ : ∃ z, r = z ++ [v] := by
      refine ⟨r.dropLast, ?_⟩
      have hne : r ≠ [] := by rw [hq]; simp
      rw [List.getLast?_eq_some_getLast hne] at hl
      rw [← Option.some.inj hl, List.dropLast_concat_getLast]
    rw [hz, List.map_append]
    exact atI_last
  | succ k =>
    refine ⟨r[k], r[k + 1], ?_, atI_nat' (by rw [List.getElem?_map, List.getElem?_eq_getElem hk]; rfl), hs k _ _ (List.getElem?_eq_getElem (by omega)) (List.getElem?_eq_getElem hk)⟩
    rw [show ((k + 1 : Nat) : Int) - 1 = (k : Int) by omega]
    exact atI_nat' (by rw [List.getElem?_map, List.getElem?_eq_getElem (by omega)]; rfl)
theorem ring_two {n : Nat} {ps : Ps} (G : Good n ps) {r : List Int} (h : IsRing ps r) : 2 ≤ r.length := by
  obtain ⟨s, v, hm, w⟩ := h
  cases w with
  | one => exact absurd rfl (G.ok _ hm).2.2.2.2
  | snoc w _ =>
    obtain ⟨⟨q, hq⟩, _⟩ := way_step w
    rw [hq, List.length_append]
    simp
theorem way_in {n : Nat} {ps : Ps} (G : Good n ps) {r : List Int} (h : IsRing ps r) : ∀ x ∈ r, 0 ≤ x ∧ x < (n : Int) := by
  obtain ⟨s, v, hm, w⟩ := h
  obtain ⟨_, _, c, d⟩ := G.rng _ hm
  exact w.mem (fun q hq => by obtain ⟨_, _, c, d⟩ := G.rng q hq; exact ⟨c, d⟩) ⟨c, d⟩
theorem lenSet_ok {n : Nat} {ps : Ps} (G : Good n ps) {r : List Int} (h : BestRing ps r) (b : Bool) : dLenSet (.lst b (r.map .int)) = some (.int (r.length : Nat)) := by
  have nd := h.nodup G.best
  have := nodup_bound nd (way_in G h.ring)
  have n9 := G.n9
  show (intsD (r.map .int)).bind _ = _
  rw [intsD_map]
  exact if_pos ⟨nd, by omega⟩
theorem dEq_bl (a b : Bool) : dEq (.bl a) (.bl b) = some (.bl (a == b)) := by cases a <;> cases b <;> rfl
theorem dNe_bl (a b : Bool) : dNe (.bl a) (.bl b) = some (.bl (!(a == b))) := by cases a <;> cases b <;> rfl
/-! ### pairs of a cell -/
def ls27 (k : Nat) : List Int := List.replicate k 27720
theorem ls_9 : dMul (.lst false [.int 27720]) (.int 9) = some (.lst true ((ls27 9).map .int)) := by rfl
theorem ls_32 : dMul (.lst false [.int 27720]) (.int 32) = some (.lst true ((ls27 32).map .int)) := by rfl
def ls12 : List Int := [1224, 3, 5] ++ ls27 9
theorem ls_a : dAdd (.lst false [.int 1224, .int 3, .int 5]) (.lst false ((ls27 9).map .int)) = some (.lst true (ls12.map .int)) := by rfl
theorem ls_b : dAdd (.lst false (ls12.map .int)) (.lst false ((ls27 32).map .int)) = some (.lst true (ls44.map .int)) := by rfl
theorem ls44_ok : ∀ l ∈ ls44, 0 < l ∧ l < 1073741824 := by decide
theorem cell_end {N : List D} {k c n : Int} {a b e L : List D} {ds : List D} {r : Res D} (hc : F__law_cell [.rol N, .int k] = .ok (.int c)) (h9 : dMul (.lst false [.int 27720]) (.int 9) = some (.lst true a)) (h32 : dMul (.lst false [.int 27720]) (.int 32) = some (.lst true b)) (ha : dAdd (.lst false [.int 1224, .int 3, .int 5]) (.lst false a) = some (.lst true e)) (hb : dAdd (.lst false e) (.lst false b) = some (.lst true L))
    (f1 : frzs a = a) (f2 : frzs b = b) (f3 : frzs e = e) (f4 : frzs L = L) (f5 : frzs ds = ds) (hN : frzs N = N) (hd : F__law_draw [.int c, .lst false L] = .ok (.lst false ds)) (hr : F__law_some_pairs [.lst false ds, .int n] = r) {d : D} (he : r = .ok d) : F__law_pairs_cell [.rol N, .int k, .int n] = .ok d := by
  subst he
  simp only [runF, env0, endF, seqS, asgS, retS, ifS, nilS, brkS, cntS, drpS, mutS, forS, unpS, parS, keepM, frzM, gApp, op2, op1, vr, cI, cS, cB, cN, cT, De.get, Res.bind, lift, tst, toB, andB, orB, notB, andV, orV, notV, ifV, chn, consA, nilA, lstA, tupA, calA, fnA, strM, tgetA, lcA, itm, rngA, prtN, prtE, prtI, slA, dI, g1, g2, frz, frz_lst, frz_tup, frz_rol, frzs, frzs_ints, frzs_strs, frzs_app, frzs_len, af, af.afs, afs_ints, afs_strs, frzs_bls, dAll_map, dAny_map, all_tt, List.map_cons, List.map_nil, List.length_cons, List.length_nil, List.cons_append, List.nil_append, List.replicate, List.getElem?_cons_zero, List.getElem?_cons_succ, List.set_cons_zero, List.set_cons_succ, List.set, if_true, if_false, Bool.or_true, Bool.true_or, Bool.or_false, Bool.false_or, Bool.and_true, Bool.true_and, Bool.and_false, Bool.false_and, Bool.not_true, Bool.not_false, Option.map_some, Option.map_none, Option.bind_some, Option.bind_none, List.length_map, reduceIte, itemsL, itemsT, Option.map, Option.bind, Tg.bind, setN, List.append_nil, Nat.sub_zero, Nat.zero_add, ite_true, ite_false, Nat.zero_le, Nat.reduceAdd, Nat.reduceLeDiff, Nat.reduceSub, Nat.reduceMul, Nat.reduceEqDiff, Int.reduceLT, Int.reduceLE, Bool.false_eq_true, reduceCtorEq, and_true, true_and, and_self, F__law_pairs_cell, s__law_pairs_cell, hN, hc, h9, h32, f1, f2, ha, f3, hb, f4, hd, f5, hr]
theorem pairs_cell_len (ns : List Int) (k : Nat) (hl : ns.length ≤ 16777216) (hk : k < 1000000) {n : Nat} (n1 : 1 ≤ n) (n9 : n ≤ 9) : ∃ (b : Bool) (ps : Ps), F__law_pairs_cell [.rol (ns.map .int), .int (k : Int), .int (n : Int)] = .ok (.lst b (psD ps)) ∧ Good n ps ∧ ps.length ≤ 16 := by
  obtain ⟨c, hc⟩ := cell_ok ns k hl hk
  obtain ⟨ds, hd, hb⟩ := draw_ok c ls44 ls44_ok (by decide)
  obtain ⟨b, ps, e, G⟩ := some_pairs_ok hb n1 n9
  exact ⟨b, ps, cell_end hc ls_9 ls_32 ls_a ls_b (frzs_ints _) (frzs_ints _) (frzs_ints _) (frzs_ints _) (frzs_ints _) (frzs_ints _) hd e rfl, G⟩
theorem pairs_cell_ok (ns : List Int) (k : Nat) (hl : ns.length ≤ 16777216) (hk : k < 1000000) {n : Nat} (n1 : 1 ≤ n) (n9 : n ≤ 9) : ∃ (b : Bool) (ps : Ps), F__law_pairs_cell [.rol (ns.map .int), .int (k : Int), .int (n : Int)] = .ok (.lst b (psD ps)) ∧ Good n ps := by
  obtain ⟨b, ps, e, G, _⟩ := pairs_cell_len ns k hl hk n1 n9
  exact ⟨b, ps, e, G⟩
end Cm
set_option Elab.async false
set_option linter.all false
namespace Gr
/-! ### walks with their ends, distances in a table -/
def Wl (ps : Ps) (t : Int) : List Int → Prop
  | [] => False
  | [x] => (x, t) ∈ ps
  | x :: y :: r => (x, y) ∈ ps ∧ Wl ps t (y :: r)
theorem Wl.cut {ps : Ps} {t m : Int} {q : List Int} : ∀ {p : List Int}, p ≠ [] → Wl ps t (p ++ m :: q) → Wl ps m p ∧ Wl ps t (m :: q)
  | [], h, _ => absurd rfl h
  | [x], _, h => ⟨h.1, h.2⟩
  | x :: y :: r, _, h => by
    have := Wl.cut (p := y :: r) (by simp) h.2
    exact ⟨⟨h.1, this.1⟩, this.2⟩
theorem Wl.join {ps : Ps} {t m : Int} {q : List Int} : ∀ {p : List Int}, Wl ps m p → Wl ps t (m :: q) → Wl ps t (p ++ m :: q)
  | [], h, _ => h.elim
  | [x], h, h2 => ⟨h, h2⟩
  | x :: y :: r, h, h2 => ⟨h.1, Wl.join (p := y :: r) h.2 h2⟩
theorem Wl.ne {ps : Ps} {t : Int} {p : List Int} (h : Wl ps t p) : p ≠ [] := fun e => by rw [e] at h; exact h
theorem Wl.way {ps : Ps} {t : Int} : ∀ {r : List Int} {s : Int}, Wl ps t (s :: r) → ∃ w, Way ps s (s :: r) w ∧ (w, t) ∈ ps := by
  have key : ∀ (r : List Int) (s : Int) (a : Int) (p : List Int), Way ps a p s → Wl ps t (s :: r) → ∃ w, Way ps a (p ++ r) w ∧ (w, t) ∈ ps := by
    intro r
    induction r with
    | nil => intro s a p w h; exact ⟨s, by rw [List.append_nil]; exact w, h⟩
    | cons y r ih =>
      intro s a p w h
      obtain ⟨v, h1, h2⟩ := ih y a (p ++ [y]) (.snoc w h.1) h.2
      exact ⟨v, by rw [List.append_assoc] at h1; exact h1, h2⟩
  intro r s h
  obtain ⟨w, h1, h2⟩ := key r s s [s] .one h
  exact ⟨w, h1, h2⟩
theorem way_wl {ps : Ps} {s v : Int} {p : List Int} (h : Way ps s p v) : ∀ t, (v, t) ∈ ps → Wl ps t p := by
  induction h with
  | one => exact fun t ht => ht
  | snoc a b ih => exact fun t ht => Wl.join (q := []) (ih _ b) ht
theorem ring_wl {ps : Ps} {r : List Int} (h : IsRing ps r) : ∃ s q, r = s :: q ∧ Wl ps s r := by
  obtain ⟨s, v, hm, w⟩ := h
  have hw := way_wl w s hm
  cases w with
  | one => exact ⟨_, _, rfl, hw⟩
  | snoc a b =>
    rename_i p u
    have : ∀ {p : List Int} {u : Int}, Way ps s p u → ∃ q, p = s :: q := by
      intro p u a
      induction a with
      | one => exact ⟨[], rfl⟩
      | snoc a b ih => obtain ⟨q, hq⟩ := ih; exact ⟨_, by rw [hq]; rfl⟩
    obtain ⟨q, hq⟩ := this a
    exact ⟨s, q ++ [v], by rw [hq]; rfl, hw⟩
theorem wl_ring {ps : Ps} {s : Int} {q : List Int} (h : Wl ps s (s :: q)) : IsRing ps (s :: q) := by
  obtain ⟨w, h1, h2⟩ := h.way
  exact ⟨s, w, h2, h1⟩
/-- the last m of a walk -/
theorem Wl.last {ps : Ps} {t m : Int} : ∀ (k : Nat) (q : List Int), q.length ≤ k → Wl ps t (m :: q) → ∃ q', Wl ps t (m :: q') ∧ m ∉ q' ∧ q'.length ≤ q.length ∧ ∀ x ∈ q', x ∈ q
  | 0, q, hk, h => ⟨q, h, by rw [List.length_eq_zero_iff.mp (show q.length = 0 by omega)]; simp, Nat.le_refl _, fun _ h => h⟩
  | k + 1, q, hk, h => by
    by_cases hm : m ∈ q
    · obtain ⟨a, b, hq, _⟩ := List.append_of_mem hm |>.elim fun a h => h.elim fun b h => (⟨a, b, h, trivial⟩ : ∃ a b, q = a ++ m :: b ∧ True)
      have hl := congrArg List.length hq
      rw [List.length_append, List.length_cons] at hl
      have h2 := (Wl.cut (p := m :: a) (q := b) (by simp) (by rw [List.cons_append, ← hq]; exact h)).2
      obtain ⟨q', g1, g2, g3, g4⟩ := Wl.last k b (by omega) h2
      exact ⟨q', g1, g2, by omega, fun x hx => by rw [hq]; exact List.mem_append_right _ (List.mem_cons_of_mem _ (g4 x hx))⟩
    · exact ⟨q, h, hm, Nat.le_refl _, fun _ h => h⟩
/-! ### the table -/
abbrev Tab := List (List Int)
def at2 (A : Tab) (u v : Nat) : Int := (A.getD u []).getD v 0
def set2 (A : Tab) (u v : Nat) (z : Int) : Tab := A.set u ((A.getD u []).set v z)
structure Sq (n : Nat) (A : Tab) : Prop where
  len : A.length = n
  row : ∀ u, u < n → (A.getD u []).length = n
theorem Sq.set {n : Nat} {A : Tab} (h : Sq n A) {u v : Nat} {z : Int} (hu : u < n) : Sq n (set2 A u v z) where
  len := by unfold set2; rw [List.length_set]; exact h.len
  row := fun x hx => by
    unfold set2
    rw [List.getD_eq_getElem?_getD]
    by_cases e : u = x
    · subst e
      rw [List.getElem?_set_self (by rw [h.len]; exact hu)]
      show ((A.getD u []).set v z).length = n
      rw [List.length_set]; exact h.row u hu
    · rw [List.getElem?_set_ne e, ← List.getD_eq_getElem?_getD]; exact h.row x hx
theorem at2_set {n : Nat} {A : Tab} (h : Sq n A) {u v : Nat} {z : Int} (hu : u < n) (hv : v < n) (x y : Nat) : at2 (set2 A u v z) x y = if x = u ∧ y = v then z else at2 A x y := by
  unfold at2 set2
  rw [List.getD_eq_getElem?_getD (l := A.set _ _)]
  by_cases e : u = x
  · subst e
    rw [List.getElem?_set_self (by rw [h.len]; exact hu)]
    show ((A.getD u []).set v z).getD y 0 = _
    rw [List.getD_eq_getElem?_getD]
    by_cases e2 : v = y
    · subst e2
      rw [List.getElem?_set_self (by rw [h.row u hu]; exact hv), if_pos ⟨rfl, rfl⟩]; rfl
    · rw [List.getElem?_set_ne e2, if_neg (fun z => e2 z.2.symm), ← List.getD_eq_getElem?_getD]
  · rw [List.getElem?_set_ne e, if_neg (fun z => e z.1.symm), ← List.getD_eq_getElem?_getD]
/-- what stands in the table is the length of a walk, or 99 -/
structure Snd (n : Nat) (ps : Ps) (A : Tab) : Prop where
  sq : Sq n A
  le : ∀ u v, u < n → v < n → at2 A u v ≤ 99
  real : ∀ u v, u < n → v < n → at2 A u v = 99 ∨ ∃ q : List Int, Wl ps v ((u : Int) :: q) ∧ at2 A u v = (q.length : Int) + 1
/-- no walk whose steps between lie below m is shorter -/
def MidT (n : Nat) (ps : Ps) (m : Nat) (A : Tab) : Prop := ∀ (u v : Nat) (q : List Int), u < n → v < n → Wl ps v ((u : Int) :: q) → (∀ x ∈ q, x < (m : Int)) → at2 A u v ≤ (q.length : Int) + 1
theorem Snd.pos {n : Nat} {ps : Ps} {A : Tab} (S : Snd n ps A) {u v : Nat} (hu : u < n) (hv : v < n) : 1 ≤ at2 A u v := by
  rcases S.real u v hu hv with h | ⟨q, _, h⟩ <;> omega
theorem Snd.step {n : Nat} {ps : Ps} {A : Tab} (S : Snd n ps A) {m u v : Nat} (hm : m < n) (hu : u < n) (hv : v < n) : Snd n ps (set2 A u v (min (at2 A u v) (at2 A u m + at2 A m v))) where
  sq := S.sq.set hu
  le := fun x y hx hy => by
    rw [at2_set S.sq hu hv]
    split
    · have := S.le u v hu hv; omega
    · exact S.le x y hx hy
  real := fun x y hx hy => by
    rw [at2_set S.sq hu hv]
    split
    · rename_i e
      obtain ⟨rfl, rfl⟩ := e
      by_cases h : at2 A x y ≤ at2 A x m + at2 A m y
      · rw [Int.min_eq_left h]; exact S.real x y hx hy
      · rw [Int.min_eq_right (by omega)]
        have p1 := S.pos hx hm
        have p2 := S.pos hm hy
        have l := S.le x y hx hy
        rcases S.real x m hx hm with a | ⟨q1, w1, a⟩
        · omega
        · rcases S.real m y hm hy with b | ⟨q2, w2, b⟩
          · omega
          · refine .inr ⟨q1 ++ (m : Int) :: q2, by rw [← List.cons_append]; exact w1.join w2, ?_⟩
            rw [List.length_append, List.length_cons]
            omega
    · exact S.real x y hx hy
/-- the table A is what one turn of m makes of A0 -/
structure Turn (n : Nat) (ps : Ps) (m : Nat) (A0 A : Tab) (P : Nat → Nat → Prop) : Prop where
  snd : Snd n ps A
  le : ∀ x y, x < n → y < n → at2 A x y ≤ at2 A0 x y
  mid : ∀ x y, x < n → y < n → P x y → at2 A x y ≤ at2 A0 x m + at2 A0 m y
theorem Turn.step {n : Nat} {ps : Ps} {m : Nat} {A0 A : Tab} {P Q : Nat → Nat → Prop} (T : Turn n ps m A0 A P) {u v : Nat} (hm : m < n) (hu : u < n) (hv : v < n) (hQ : ∀ x y, Q x y → P x y ∨ (x = u ∧ y = v)) :
    Turn n ps m A0 (set2 A u v (min (at2 A u v) (at2 A u m + at2 A m v))) Q where
  snd := T.snd.step hm hu hv
  le := fun x y hx hy => by
    rw [at2_set T.snd.sq hu hv]
    split
    · rename_i e
      obtain ⟨rfl, rfl⟩ := e
      have := T.le x y hx hy
      omega
    · exact T.le x y hx hy
  mid := fun x y hx hy hq => by
    rw [at2_set T.snd.sq hu hv]
    split
    · rename_i e
      obtain ⟨rfl, rfl⟩ := e
      have := T.le x m hx hm
      have := T.le m y hm hy
      omega
    · rename_i e
      exact T.mid x y hx hy ((hQ x y hq).resolve_right e)
theorem Turn.done {n : Nat} {ps : Ps} {m : Nat} {A0 A : Tab} (hm : m < n) (M : MidT n ps m A0) (T : Turn n ps m A0 A fun _ _ => True) : MidT n ps (m + 1) A := by
  intro u v q hu hv h hq
  by_cases hmq : (m : Int) ∈ q
  · have ⟨a, b, hab, na⟩ : ∃ a b, q = a ++ (m : Int) :: b ∧ (m : Int) ∉ a := by
      have : ∀ q : List Int, (m : Int) ∈ q → ∃ a b, q = a ++ (m : Int) :: b ∧ (m : Int) ∉ a := by
        intro q
        induction q with
        | nil => intro h; cases h
        | cons x q ih =>
          intro h
          by_cases e : x = (m : Int)
          · exact ⟨[], q, by rw [e]; rfl, by simp⟩
          · obtain ⟨a, b, h1, h2⟩ := ih ((List.mem_cons.mp h).resolve_left fun z => e z.symm)
            refine ⟨x :: a, b, by rw [h1]; rfl, fun z => ?_⟩
            exact (List.mem_cons.mp z).elim (fun z => e z.symm) h2
      exact this q hmq
    have hl := congrArg List.length hab
    rw [List.length_append, List.length_cons] at hl
    obtain ⟨w1, w2⟩ := Wl.cut (p := (u : Int) :: a) (q := b) (by simp) (by rw [List.cons_append, ← hab]; exact h)
    obtain ⟨c, w3, nc, lc, sc⟩ := w2.last b.length b (Nat.le_refl _)
    have h1 := M u m a hu hm w1 fun x hx => by
      have := hq x (by rw [hab]; exact List.mem_append_left _ hx)
      have : x ≠ (m : Int) := fun e => na (by rw [← e]; exact hx)
      omega
    have h2 := M m v c hm hv w3 fun x hx => by
      have := hq x (by rw [hab]; exact List.mem_append_right _ (List.mem_cons_of_mem _ (sc x hx)))
      have : x ≠ (m : Int) := fun e => nc (by rw [← e]; exact hx)
      omega
    have := T.mid u v hu hv trivial
    omega
  · have h1 := M u v q hu hv h fun x hx => by
      have := hq x hx
      have : x ≠ (m : Int) := fun e => hmq (by rw [← e]; exact hx)
      omega
    have := T.le u v hu hv
    omega
end Gr
set_option Elab.async false
set_option linter.all false
namespace Gr
theorem Wl.tgt {ps : Ps} {t : Int} : ∀ {q : List Int} {x : Int}, Wl ps t (x :: q) → ∀ y ∈ q, ∃ z, (z, y) ∈ ps
  | [], x, _, y, hy => by cases hy
  | z :: q, x, h, y, hy => by
    rcases List.mem_cons.mp hy with e | e
    · exact ⟨x, by rw [e]; exact h.1⟩
    · exact Wl.tgt h.2 y e
theorem Wl.endp {ps : Ps} {t : Int} : ∀ {p : List Int}, Wl ps t p → ∃ z, (z, t) ∈ ps
  | [], h => h.elim
  | [x], h => ⟨x, h⟩
  | _ :: y :: r, h => Wl.endp (p := y :: r) h.2
abbrev Rng (n : Nat) (ps : Ps) : Prop := ∀ p ∈ ps, 0 ≤ p.1 ∧ p.1 < (n : Int) ∧ 0 ≤ p.2 ∧ p.2 < (n : Int)
/-- the first table -/
def tab0 (n : Nat) (ps : Ps) : Tab := (List.range n).map fun u : Nat => (List.range n).map fun v : Nat => if ((u : Int), (v : Int)) ∈ ps then 1 else 99
theorem tab0_row {n : Nat} {ps : Ps} {u : Nat} (hu : u < n) : (tab0 n ps).getD u [] = (List.range n).map fun v : Nat => if ((u : Int), (v : Int)) ∈ ps then 1 else 99 := by
  unfold tab0
  rw [List.getD_eq_getElem?_getD, List.getElem?_map, List.getElem?_range hu]; rfl
theorem at2_tab0 {n : Nat} {ps : Ps} {u v : Nat} (hu : u < n) (hv : v < n) : at2 (tab0 n ps) u v = if ((u : Int), (v : Int)) ∈ ps then 1 else 99 := by
  unfold at2
  rw [tab0_row hu, List.getD_eq_getElem?_getD, List.getElem?_map, List.getElem?_range hv]; rfl
theorem snd0 (n : Nat) (ps : Ps) : Snd n ps (tab0 n ps) where
  sq := ⟨by unfold tab0; rw [List.length_map, List.length_range], fun u hu => by rw [tab0_row hu, List.length_map, List.length_range]⟩
  le := fun u v hu hv => by rw [at2_tab0 hu hv]; split <;> omega
  real := fun u v hu hv => by
    rw [at2_tab0 hu hv]
    split
    · rename_i h; exact .inr ⟨[], h, rfl⟩
    · exact .inl rfl
theorem mid0 {n : Nat} {ps : Ps} (R : Rng n ps) : MidT n ps 0 (tab0 n ps) := fun u v q hu hv h hq => by
  cases q with
  | nil =>
    rw [at2_tab0 hu hv, if_pos (show ((u : Int), (v : Int)) ∈ ps from h)]
    simp
  | cons y q =>
    obtain ⟨_, _, a, _⟩ := R _ h.1
    have := hq y (List.mem_cons_self ..)
    dsimp only at a
    omega
structure Dst (n : Nat) (ps : Ps) (A : Tab) : Prop where
  snd : Snd n ps A
  mid : MidT n ps n A
section
variable {n : Nat} {ps : Ps} {A : Tab}
theorem Dst.le (D : Dst n ps A) (R : Rng n ps) {u v : Nat} {q : List Int} (hu : u < n) (hv : v < n) (h : Wl ps v ((u : Int) :: q)) : at2 A u v ≤ (q.length : Int) + 1 :=
  D.mid u v q hu hv h fun x hx => by obtain ⟨z, hz⟩ := h.tgt x hx; exact (R _ hz).2.2.2
/-- one step nearer -/
theorem Dst.near (D : Dst n ps A) (R : Rng n ps) {x t : Nat} {z : Int} {r : List Int} (hx : x < n) (ht : t < n) (h : Wl ps t ((x : Int) :: z :: r)) (hl : at2 A x t = (r.length : Int) + 2) (small : at2 A x t < 99) :
    ∃ y : Nat, z = y ∧ y < n ∧ ((x : Int), z) ∈ ps ∧ at2 A y t = at2 A x t - 1 := by
  obtain ⟨_, _, a, b⟩ := R _ h.1
  dsimp only at a b
  obtain ⟨y, rfl⟩ := Int.eq_ofNat_of_zero_le a
  have hy : y < n := by omega
  refine ⟨y, rfl, hy, h.1, ?_⟩
  have h1 := D.le R hy ht h.2
  rcases D.snd.real y t hy ht with e | ⟨q, w, e⟩
  · omega
  · have h2 := D.le R hx ht (q := (y : Int) :: q) ⟨h.1, w⟩
    rw [List.length_cons] at h2
    omega
/-- the first shortest walk, grown so far: g, then x -/
structure Gdy (n : Nat) (ps : Ps) (A : Tab) (s t : Nat) (L : Nat) (g : List Int) (x : Nat) : Prop where
  lt : x < n
  hd : (g ++ [(x : Int)]).head? = some (s : Int)
  dist : at2 A x t + g.length = L
  join : ∀ q, Wl ps t ((x : Int) :: q) → Wl ps t (g ++ (x : Int) :: q)
  le : ∀ p : List Int, p.head? = some (s : Int) → Wl ps t p → p.length = L → lle (g ++ [(x : Int)]) p
theorem lle_snoc {y : Int} : ∀ {f p : List Int}, lle f p → f.length < p.length → (∀ z r, p = f ++ z :: r → y ≤ z) → lle (f ++ [y]) p
  | [], [], _, h, _ => absurd h (by simp)
  | [], z :: r, _, _, h => by
    have := h z r rfl
    show y < z ∨ (y = z ∧ True)
    rcases Int.lt_or_eq_of_le this with e | e
    · exact .inl e
    · exact .inr ⟨e, trivial⟩
  | a :: f, [], h, _, _ => h.elim
  | a :: f, b :: p, h, hl, hz => by
    rcases h with h | ⟨rfl, h⟩
    · exact .inl h
    · exact .inr ⟨rfl, lle_snoc h (by simpa using hl) fun z r e => hz z r (by rw [e]; rfl)⟩
theorem Gdy.first {s t L : Nat} (hs : s < n) (hL : at2 A s t = L) : Gdy n ps A s t L [] s where
  lt := hs
  hd := rfl
  dist := by simpa using hL
  join := fun q h => h
  le := fun p hp _ _ => by
    cases p with
    | nil => cases hp
    | cons a p => exact .inr ⟨(Option.some.inj hp).symm, trivial⟩
theorem Gdy.some (D : Dst n ps A) (R : Rng n ps) {s t L : Nat} {g : List Int} {x : Nat} (G : Gdy n ps A s t L g x) (ht : t < n) (hL : L ≤ 9) (h2 : 2 ≤ at2 A x t) : ∃ y : Nat, y < n ∧ ((x : Int), (y : Int)) ∈ ps ∧ at2 A y t = at2 A x t - 1 := by
  have hd := G.dist
  rcases D.snd.real x t G.lt ht with e | ⟨q, w, e⟩
  · omega
  · cases q with
    | nil => rw [e] at h2; simp at h2
    | cons z r =>
      rw [List.length_cons] at e
      obtain ⟨y, rfl, hy, h3, h4⟩ := D.near R G.lt ht w (by omega) (by omega)
      exact ⟨y, hy, h3, h4⟩
theorem Gdy.next (D : Dst n ps A) (R : Rng n ps) {s t L : Nat} {g : List Int} {x y : Nat} (G : Gdy n ps A s t L g x) (ht : t < n) (hL : L ≤ 9) (h2 : 2 ≤ at2 A x t) (hy : y < n) (hp : ((x : Int), (y : Int)) ∈ ps) (hd : at2 A y t = at2 A x t - 1)
    (mn : ∀ z : Nat, z < n → ((x : Int), (z : Int)) ∈ ps → at2 A z t = at2 A x t - 1 → y ≤ z) : Gdy n ps A s t L (g ++ [(x : Int)]) y where
  lt := hy
  hd := by
    have := G.hd
    cases g with
    | nil => exact this
    | cons a g => exact this
  dist := by have := G.dist; rw [List.length_append, List.length_singleton]; omega
  join := fun q h => by
    have := G.join ((y : Int) :: q) ⟨hp, h⟩
    rw [List.append_assoc]; exact this
  le := fun p h1 h3 h4 => by
    have dist := G.dist
    refine lle_snoc (G.le p h1 h3 h4) (by rw [List.length_append, List.length_singleton]; omega) fun z r e => ?_
    have e2 : p = g ++ (x : Int) :: z :: r := by rw [e, List.append_assoc]; rfl
    have w : Wl ps t ((x : Int) :: z :: r) := by
      by_cases hg : g = []
      · rw [hg] at e2; rw [e2] at h3; exact h3
      · rw [e2] at h3; exact (Wl.cut hg h3).2
    have hl := congrArg List.length e2
    rw [List.length_append, List.length_cons, List.length_cons] at hl
    obtain ⟨z', rfl, hz, h5, h6⟩ := D.near R G.lt ht w (by omega) (by omega)
    have := mn z' hz h5 h6
    omega
theorem Gdy.end (D : Dst n ps A) {s t L : Nat} {g : List Int} {x : Nat} (G : Gdy n ps A s t L g x) (ht : t < n) (h1 : at2 A x t = 1) : Wl ps t (g ++ [(x : Int)]) ∧ (g ++ [(x : Int)]).length = L := by
  have dist := G.dist
  refine ⟨?_, by rw [List.length_append, List.length_singleton]; omega⟩
  rcases D.snd.real x t G.lt ht with e | ⟨q, w, e⟩
  · omega
  · cases q with
    | nil => exact G.join [] w
    | cons z r => rw [List.length_cons] at e; omega
theorem best_of (D : Dst n ps A) (R : Rng n ps) {s L : Nat} {f : List Int} (hs : s < n) (low : ∀ v, v < n → (L : Int) ≤ at2 A v v) (fst : ∀ v, v < s → at2 A v v ≠ L) (hd : f.head? = some (s : Int)) (w : Wl ps s f) (hl : f.length = L)
    (le : ∀ p : List Int, p.head? = some (s : Int) → Wl ps s p → p.length = L → lle f p) : BestRing ps f where
  ring := by
    cases f with
    | nil => cases hd
    | cons a q =>
      have : a = (s : Int) := Option.some.inj hd
      rw [this] at w ⊢
      exact wl_ring w
  min := fun r hr => by
    obtain ⟨v, q, rfl, wr⟩ := ring_wl hr
    obtain ⟨z, hz⟩ := wr.endp
    obtain ⟨_, _, a, b⟩ := R _ hz
    dsimp only at a b
    obtain ⟨v, rfl⟩ := Int.eq_ofNat_of_zero_le a
    have hv : v < n := by omega
    have h1 := D.le R hv hv wr
    have h2 := low v hv
    have h3 : ((v : Int) :: q).length = q.length + 1 := rfl
    by_cases h4 : L < q.length + 1
    · exact .inl (by rw [h3, hl]; exact h4)
    · refine .inr ⟨by rw [h3, hl]; omega, ?_⟩
      have hve : at2 A v v = L := by omega
      by_cases e : v < s
      · exact absurd hve (fst v e)
      · by_cases e2 : s = v
        · subst e2
          exact le _ rfl wr (by omega)
        · cases f with
          | nil => cases hd
          | cons c f =>
            have : c = (s : Int) := Option.some.inj hd
            exact .inl (by rw [this]; omega)
end
theorem best_uniq {ps : Ps} {p q : List Int} (h1 : BestRing ps p) (h2 : BestRing ps q) : p = q := by
  rcases h1.min q h2.ring with a | ⟨a, b⟩
  · rcases h2.min p h1.ring with c | ⟨c, _⟩ <;> omega
  · rcases h2.min p h1.ring with c | ⟨_, d⟩
    · omega
    · exact lle_anti b d
end Gr
set_option Elab.async false
set_option linter.all false
set_option maxRecDepth 100000
namespace Cm
open PySem De Gr Bm
open L2 (Key)

/-! ### the table of distances -/
abbrev tT (A : Tab) : List D := A.map fun r => D.lst true (r.map .int)
abbrev tF (A : Tab) : List D := A.map fun r => D.lst false (r.map .int)
theorem frzs_tT (A : Tab) : frzs (tT A) = tF A := by
  rw [frzs_eq, List.map_map]
  refine List.map_congr_left fun r _ => ?_
  show frz (D.lst true (r.map .int)) = _
  rw [frz_lst, frzs_ints]
theorem frzs_tF (A : Tab) : frzs (tF A) = tF A := by
  rw [frzs_eq, List.map_map]
  refine List.map_congr_left fun r _ => ?_
  show frz (D.lst false (r.map .int)) = _
  rw [frz_lst, frzs_ints]
theorem afs_tT : ∀ A : Tab, af.afs (tT A) = true
  | [] => rfl
  | r :: A => by
    show ((true && af.afs (r.map D.int)) && af.afs (tT A)) = true
    rw [afs_tT A, afs_ints]; rfl
theorem ix_row {A : Tab} {u : Nat} (hu : u < A.length) : dIx (.lst false (tF A)) (.int (u : Int)) = some (.lst false ((A.getD u []).map .int)) := atI_nat' (by rw [List.getElem?_map, List.getElem?_eq_getElem hu, List.getD_eq_getElem?_getD, List.getElem?_eq_getElem hu]; rfl)
theorem ix_cell {r : List Int} {v : Nat} (hv : v < r.length) : dIx (.lst false (r.map .int)) (.int (v : Int)) = some (.int (r.getD v 0)) := ix_int (by rw [List.getElem?_eq_getElem hv, List.getD_eq_getElem?_getD, List.getElem?_eq_getElem hv]; rfl)
theorem ixN_nat {n u : Nat} (h : u < n) : L2.ixN n (u : Int) = some u := by
  unfold L2.ixN
  rw [if_pos (by omega), if_pos (by omega), Int.toNat_natCast]
theorem inX_dec (p : Int × Int) (ps : Ps) : dInX (pD p) (.lst false (psD ps)) = some (.bl (decide (p ∈ ps))) := by
  unfold dInX inDeep
  dsimp only
  rw [lvs_ps 19 ps, show lv 20 (pD p) = true from rfl, if_pos (by rfl)]
  have : ((psD ps).any fun z => eqD z (pD p)) = decide (p ∈ ps) := by
    by_cases h : p ∈ ps
    · rw [decide_eq_true h]
      exact List.any_eq_true.mpr ⟨pD p, List.mem_map.mpr ⟨p, h, rfl⟩, by rw [eqD_pair]; exact decide_eq_true rfl⟩
    · rw [decide_eq_false h]
      rw [List.any_eq_false]
      intro x hx
      obtain ⟨q, hq, rfl⟩ := List.mem_map.mp hx
      rw [eqD_pair]
      intro e
      have := of_decide_eq_true e
      exact h (by rw [← this]; exact hq)
  rw [this]; rfl
/-! ### one cell -/
theorem far_cell {T F P es : List D} {ru rm : List D} {n m u v a b c : Int} {j l : Nat} (hF : frzs T = F) (hG : frzs F = F) (r1 : dIx (.lst false F) (.int u) = some (.lst false ru)) (r2 : dIx (.lst false F) (.int m) = some (.lst false rm)) (f1 : frzs ru = ru) (f2 : frzs rm = rm)
    (h1 : dIx (.lst false ru) (.int v) = some (.int a)) (h2 : dIx (.lst false ru) (.int m) = some (.int b)) (h3 : dIx (.lst false rm) (.int v) = some (.int c)) (k1 : L2.ixN T.length u = some j) (k2 : T[j]? = some (.lst true es)) (k3 : L2.ixN es.length v = some l) :
    b1__law_far_apart [some (.int n), some (.lst false P), some (.lst true T), some (.int m), some (.int u), some (.int v)] = .nx [some (.int n), some (.lst false P), some (.lst true (T.set j (.lst true (es.set l (.int (if b + c < a then b + c else a)))))), some (.int m), some (.int u), some (.int v)] := by
  simp only [runF, env0, endF, seqS, asgS, retS, ifS, nilS, brkS, cntS, drpS, mutS, forS, unpS, parS, keepM, frzM, gApp, op2, op1, vr, cI, cS, cB, cN, cT, De.get, Res.bind, lift, tst, toB, andB, orB, notB, andV, orV, notV, ifV, chn, consA, nilA, lstA, tupA, calA, fnA, strM, tgetA, lcA, itm, rngA, prtN, prtE, prtI, slA, dI, g1, g2, frz, frz_lst, frz_tup, frz_rol, frzs, frzs_ints, frzs_strs, frzs_app, frzs_len, af, af.afs, afs_ints, afs_strs, frzs_bls, dAll_map, dAny_map, all_tt, List.map_cons, List.map_nil, List.length_cons, List.length_nil, List.cons_append, List.nil_append, List.replicate, List.getElem?_cons_zero, List.getElem?_cons_succ, List.set_cons_zero, List.set_cons_succ, List.set, if_true, if_false, Bool.or_true, Bool.true_or, Bool.or_false, Bool.false_or, Bool.and_true, Bool.true_and, Bool.and_false, Bool.false_and, Bool.not_true, Bool.not_false, Option.map_some, Option.map_none, Option.bind_some, Option.bind_none, List.length_map, reduceIte, itemsL, itemsT, Option.map, Option.bind, Tg.bind, setN, List.append_nil, Nat.sub_zero, Nat.zero_add, ite_true, ite_false, Nat.zero_le, Nat.reduceAdd, Nat.reduceLeDiff, Nat.reduceSub, Nat.reduceMul, Nat.reduceEqDiff, Int.reduceLT, Int.reduceLE, Bool.false_eq_true, reduceCtorEq, and_true, true_and, and_self, b1__law_far_apart, sto2S, hF, hG, r1, r2, f1, f2, h1, h2, h3, dAdd, dMin2, k1, k2, k3]
theorem far_turn {n : Nat} {A : Tab} {P : List D} (S : Sq n A) {m u v : Nat} (hm : m < n) (hu : u < n) (hv : v < n) :
    b1__law_far_apart [some (.int (n : Int)), some (.lst false P), some (.lst true (tT A)), some (.int (m : Int)), some (.int (u : Int)), some (.int (v : Int))] = .nx [some (.int (n : Int)), some (.lst false P), some (.lst true (tT (set2 A u v (min (at2 A u v) (at2 A u m + at2 A m v))))), some (.int (m : Int)), some (.int (u : Int)), some (.int (v : Int))] := by
  have hul : u < A.length := by rw [S.len]; exact hu
  have hml : m < A.length := by rw [S.len]; exact hm
  have e := far_cell (T := tT A) (F := tF A) (P := P) (n := (n : Int)) (u := (u : Int)) (v := (v : Int)) (m := (m : Int)) (j := u) (l := v) (es := (A.getD u []).map .int) (frzs_tT A) (frzs_tF A) (ix_row hul) (ix_row hml) (frzs_ints _) (frzs_ints _) (ix_cell (by rw [S.row u hu]; exact hv)) (ix_cell (by rw [S.row u hu]; exact hm)) (ix_cell (by rw [S.row m hm]; exact hv))
    (ixN_nat (by rw [List.length_map]; exact hul)) (by rw [List.getElem?_map, List.getElem?_eq_getElem hul, List.getD_eq_getElem?_getD, List.getElem?_eq_getElem hul]; rfl) (ixN_nat (by rw [List.length_map, S.row u hu]; exact hv))
  rw [e]
  have ez : (if (A.getD u []).getD m 0 + (A.getD m []).getD v 0 < (A.getD u []).getD v 0 then (A.getD u []).getD m 0 + (A.getD m []).getD v 0 else (A.getD u []).getD v 0) = min (at2 A u v) (at2 A u m + at2 A m v) := by
    unfold at2
    split <;> omega
  rw [ez]
  have : (tT A).set u (D.lst true (((A.getD u []).map D.int).set v (.int (min (at2 A u v) (at2 A u m + at2 A m v))))) = tT (set2 A u v (min (at2 A u v) (at2 A u m + at2 A m v))) := by
    unfold set2 tT
    rw [List.map_set, List.map_set]
  rw [this]
theorem Turn.imp {n : Nat} {ps : Ps} {m : Nat} {A0 A : Tab} {P Q : Nat → Nat → Prop} (T : Turn n ps m A0 A P) (h : ∀ x y, x < n → y < n → Q x y → P x y) : Turn n ps m A0 A Q := ⟨T.snd, T.le, fun x y hx hy q => T.mid x y hx hy (h x y hx hy q)⟩
theorem for_end {M : List Nat} {n : Nat} {tg : Tg} {body : De.Env → Out} {ρ ρ' : De.Env} {f : De.Env → Res D} (hn : n ≤ 1000) (hf : f ρ = .ok (.int (n : Int))) (hM : frzM M ρ = ρ) (e : forGo tg body (rngD 0 n) ρ = .nx ρ') : forS M (rngA (consA f nilA)) tg body ρ = .nx ρ' := by
  have h1 : (n : Int) ≤ 16777216 ∧ -(2 ^ 62) ≤ (n : Int) := ⟨by omega, by omega⟩
  have h2 : rngA (consA f nilA) ρ = .ok (rngD 0 n) := by
    simp only [runF, env0, endF, seqS, asgS, retS, ifS, nilS, brkS, cntS, drpS, mutS, forS, unpS, parS, keepM, frzM, gApp, op2, op1, vr, cI, cS, cB, cN, cT, De.get, Res.bind, lift, tst, toB, andB, orB, notB, andV, orV, notV, ifV, chn, consA, nilA, lstA, tupA, calA, fnA, strM, tgetA, lcA, itm, rngA, prtN, prtE, prtI, slA, dI, g1, g2, frz, frz_lst, frz_tup, frz_rol, frzs, frzs_ints, frzs_strs, frzs_app, frzs_len, af, af.afs, afs_ints, afs_strs, frzs_bls, dAll_map, dAny_map, all_tt, List.map_cons, List.map_nil, List.length_cons, List.length_nil, List.cons_append, List.nil_append, List.replicate, List.getElem?_cons_zero, List.getElem?_cons_succ, List.set_cons_zero, List.set_cons_succ, List.set, if_true, if_false, Bool.or_true, Bool.true_or, Bool.or_false, Bool.false_or, Bool.and_true, Bool.true_and, Bool.and_false, Bool.false_and, Bool.not_true, Bool.not_false, Option.map_some, Option.map_none, Option.bind_some, Option.bind_none, List.length_map, reduceIte, itemsL, itemsT, Option.map, Option.bind, Tg.bind, setN, List.append_nil, Nat.sub_zero, Nat.zero_add, ite_true, ite_false, Nat.zero_le, Nat.reduceAdd, Nat.reduceLeDiff, Nat.reduceSub, Nat.reduceMul, Nat.reduceEqDiff, Int.reduceLT, Int.reduceLE, Bool.false_eq_true, reduceCtorEq, and_true, true_and, and_self, rngA, hf, h1, and_self, Int.toNat_natCast]
  unfold forS
  rw [h2, hM]
  exact e
section
variable {n : Nat} {ps : Ps} (h9 : n ≤ 9)
include h9
theorem far_in {m u : Nat} {A0 A : Tab} {P : List D} {x5 : Option D} (hm : m < n) (hu : u < n) (T : Turn n ps m A0 A fun x _ => x < u) : ∃ A' x5', b2__law_far_apart [some (.int (n : Int)), some (.lst false P), some (.lst true (tT A)), some (.int (m : Int)), some (.int (u : Int)), x5] = .nx [some (.int (n : Int)), some (.lst false P), some (.lst true (tT A')), some (.int (m : Int)), some (.int (u : Int)), x5'] ∧ Turn n ps m A0 A' fun x _ => x < u + 1 := by
  obtain ⟨ρ', e, A', x, rfl, T'⟩ := forGo_rng (tg := .one 5) (body := b1__law_far_apart) (ρ := [some (.int (n : Int)), some (.lst false P), some (.lst true (tT A)), some (.int (m : Int)), some (.int (u : Int)), x5]) (fun v ρ => ∃ (A : Tab) (x : Option D), ρ = [some (.int (n : Int)), some (.lst false P), some (.lst true (tT A)), some (.int (m : Int)), some (.int (u : Int)), x] ∧ Turn n ps m A0 A fun x y => x < u ∨ (x = u ∧ y < v)) n ⟨A, x5, rfl, Turn.imp T fun x y _ _ q => by omega⟩ fun v ρ hv ⟨A, x, hρ, T⟩ => by
    subst hρ
    exact ⟨_, _, rfl, .inl (far_turn T.snd.sq hm hu hv), _, _, rfl, T.step hm hu hv fun x y q => by omega⟩
  exact ⟨A', x, for_end (by omega) rfl rfl e, Turn.imp T' fun x y hx hy q => by omega⟩
theorem far_mid {m : Nat} {A : Tab} {P : List D} {x4 x5 : Option D} (hm : m < n) (S : Snd n ps A) (M : MidT n ps m A) : ∃ A' x4' x5', b3__law_far_apart [some (.int (n : Int)), some (.lst false P), some (.lst true (tT A)), some (.int (m : Int)), x4, x5] = .nx [some (.int (n : Int)), some (.lst false P), some (.lst true (tT A')), some (.int (m : Int)), x4', x5'] ∧ Snd n ps A' ∧ MidT n ps (m + 1) A' := by
  obtain ⟨ρ', e, A', x4', x5', rfl, T'⟩ := forGo_rng (tg := .one 4) (body := b2__law_far_apart) (ρ := [some (.int (n : Int)), some (.lst false P), some (.lst true (tT A)), some (.int (m : Int)), x4, x5]) (fun u ρ => ∃ (B : Tab) (x4 x5 : Option D), ρ = [some (.int (n : Int)), some (.lst false P), some (.lst true (tT B)), some (.int (m : Int)), x4, x5] ∧ Turn n ps m A B fun x _ => x < u) n ⟨A, x4, x5, rfl, S, fun _ _ _ _ => Int.le_refl _, fun x y _ _ q => absurd q (by omega)⟩ fun u ρ hu ⟨B, x4, x5, hρ, T⟩ => by
    subst hρ
    obtain ⟨A', x5', e, T'⟩ := far_in h9 (P := P) (x5 := x5) hm hu T
    exact ⟨_, _, rfl, .inl e, _, _, _, rfl, T'⟩
  exact ⟨A', x4', x5', for_end (by omega) rfl rfl e, T'.snd, Turn.done hm M (Turn.imp T' fun x y hx _ _ => hx)⟩
theorem far_loop {P : List D} {x3 x4 x5 : Option D} (R : Rng n ps) : ∃ A' x3' x4' x5', forGo (.one 3) b3__law_far_apart (rngD 0 n) [some (.int (n : Int)), some (.lst false P), some (.lst true (tT (tab0 n ps))), x3, x4, x5] = .nx [some (.int (n : Int)), some (.lst false P), some (.lst true (tT A')), x3', x4', x5'] ∧ Dst n ps A' := by
  obtain ⟨ρ', e, A', x3', x4', x5', rfl, S, M⟩ := forGo_rng (tg := .one 3) (body := b3__law_far_apart) (ρ := [some (.int (n : Int)), some (.lst false P), some (.lst true (tT (tab0 n ps))), x3, x4, x5]) (fun m ρ => ∃ (B : Tab) (x3 x4 x5 : Option D), ρ = [some (.int (n : Int)), some (.lst false P), some (.lst true (tT B)), x3, x4, x5] ∧ Snd n ps B ∧ MidT n ps m B) n ⟨_, x3, x4, x5, rfl, snd0 n ps, mid0 R⟩ fun m ρ hm ⟨B, x3, x4, x5, hρ, S, M⟩ => by
    subst hρ
    obtain ⟨A', x4', x5', e, S', M'⟩ := far_mid h9 (P := P) (x4 := x4) (x5 := x5) hm S M
    exact ⟨_, _, rfl, .inl e, _, _, _, _, rfl, S', M'⟩
  exact ⟨A', x3', x4', x5', e, S, M⟩
end
theorem far_bit {P ru : List D} {n u v : Int} {x2 x3 : Option D} {b : Bool} (hP : frzs P = P) (h : dInX (.tup [.int u, .int v]) (.lst false P) = some (.bl b)) : e4__law_far_apart [some (.int n), some (.lst false P), x2, x3, some (.int u), some (.int v)] = .ok (.int (if b = true then 1 else 99)) := by
  have i0 : dIx (.lst false [.int 99, .int 1]) (.int 0) = some (.int 99) := ix_int (ds := [99, 1]) (j := 0) rfl
  have i1 : dIx (.lst false [.int 99, .int 1]) (.int 1) = some (.int 1) := ix_int (ds := [99, 1]) (j := 1) rfl
  cases b
  · simp only [runF, env0, endF, seqS, asgS, retS, ifS, nilS, brkS, cntS, drpS, mutS, forS, unpS, parS, keepM, frzM, gApp, op2, op1, vr, cI, cS, cB, cN, cT, De.get, Res.bind, lift, tst, toB, andB, orB, notB, andV, orV, notV, ifV, chn, consA, nilA, lstA, tupA, calA, fnA, strM, tgetA, lcA, itm, rngA, prtN, prtE, prtI, slA, dI, g1, g2, frz, frz_lst, frz_tup, frz_rol, frzs, frzs_ints, frzs_strs, frzs_app, frzs_len, af, af.afs, afs_ints, afs_strs, frzs_bls, dAll_map, dAny_map, all_tt, List.map_cons, List.map_nil, List.length_cons, List.length_nil, List.cons_append, List.nil_append, List.replicate, List.getElem?_cons_zero, List.getElem?_cons_succ, List.set_cons_zero, List.set_cons_succ, List.set, if_true, if_false, Bool.or_true, Bool.true_or, Bool.or_false, Bool.false_or, Bool.and_true, Bool.true_and, Bool.and_false, Bool.false_and, Bool.not_true, Bool.not_false, Option.map_some, Option.map_none, Option.bind_some, Option.bind_none, List.length_map, reduceIte, itemsL, itemsT, Option.map, Option.bind, Tg.bind, setN, List.append_nil, Nat.sub_zero, Nat.zero_add, ite_true, ite_false, Nat.zero_le, Nat.reduceAdd, Nat.reduceLeDiff, Nat.reduceSub, Nat.reduceMul, Nat.reduceEqDiff, Int.reduceLT, Int.reduceLE, Bool.false_eq_true, reduceCtorEq, and_true, true_and, and_self, e4__law_far_apart, hP, h, dInt1, i0]
  · simp only [runF, env0, endF, seqS, asgS, retS, ifS, nilS, brkS, cntS, drpS, mutS, forS, unpS, parS, keepM, frzM, gApp, op2, op1, vr, cI, cS, cB, cN, cT, De.get, Res.bind, lift, tst, toB, andB, orB, notB, andV, orV, notV, ifV, chn, consA, nilA, lstA, tupA, calA, fnA, strM, tgetA, lcA, itm, rngA, prtN, prtE, prtI, slA, dI, g1, g2, frz, frz_lst, frz_tup, frz_rol, frzs, frzs_ints, frzs_strs, frzs_app, frzs_len, af, af.afs, afs_ints, afs_strs, frzs_bls, dAll_map, dAny_map, all_tt, List.map_cons, List.map_nil, List.length_cons, List.length_nil, List.cons_append, List.nil_append, List.replicate, List.getElem?_cons_zero, List.getElem?_cons_succ, List.set_cons_zero, List.set_cons_succ, List.set, if_true, if_false, Bool.or_true, Bool.true_or, Bool.or_false, Bool.false_or, Bool.and_true, Bool.true_and, Bool.and_false, Bool.false_and, Bool.not_true, Bool.not_false, Option.map_some, Option.map_none, Option.bind_some, Option.bind_none, List.length_map, reduceIte, itemsL, itemsT, Option.map, Option.bind, Tg.bind, setN, List.append_nil, Nat.sub_zero, Nat.zero_add, ite_true, ite_false, Nat.zero_le, Nat.reduceAdd, Nat.reduceLeDiff, Nat.reduceSub, Nat.reduceMul, Nat.reduceEqDiff, Int.reduceLT, Int.reduceLE, Bool.false_eq_true, reduceCtorEq, and_true, true_and, and_self, e4__law_far_apart, hP, h, dInt1, i1]
theorem rng_lc {n : Nat} {f : De.Env → Res D} {ρ : De.Env} {tg : Tg} {tt : De.Env → Res Bool} {te : De.Env → Res D} {l : List D} (hn : n ≤ 1000) (hf : f ρ = .ok (.int (n : Int))) (e : lcGo tg tt te ρ (rngD 0 n) = some l) : lcA (rngA (consA f nilA)) tg tt te ρ = .ok (.lst true l) := by
  have h1 : (n : Int) ≤ 16777216 ∧ -(2 ^ 62) ≤ (n : Int) := ⟨by omega, by omega⟩
  have h2 : rngA (consA f nilA) ρ = .ok (rngD 0 n) := by
    simp only [runF, env0, endF, seqS, asgS, retS, ifS, nilS, brkS, cntS, drpS, mutS, forS, unpS, parS, keepM, frzM, gApp, op2, op1, vr, cI, cS, cB, cN, cT, De.get, Res.bind, lift, tst, toB, andB, orB, notB, andV, orV, notV, ifV, chn, consA, nilA, lstA, tupA, calA, fnA, strM, tgetA, lcA, itm, rngA, prtN, prtE, prtI, slA, dI, g1, g2, frz, frz_lst, frz_tup, frz_rol, frzs, frzs_ints, frzs_strs, frzs_app, frzs_len, af, af.afs, afs_ints, afs_strs, frzs_bls, dAll_map, dAny_map, all_tt, List.map_cons, List.map_nil, List.length_cons, List.length_nil, List.cons_append, List.nil_append, List.replicate, List.getElem?_cons_zero, List.getElem?_cons_succ, List.set_cons_zero, List.set_cons_succ, List.set, if_true, if_false, Bool.or_true, Bool.true_or, Bool.or_false, Bool.false_or, Bool.and_true, Bool.true_and, Bool.and_false, Bool.false_and, Bool.not_true, Bool.not_false, Option.map_some, Option.map_none, Option.bind_some, Option.bind_none, List.length_map, reduceIte, itemsL, itemsT, Option.map, Option.bind, Tg.bind, setN, List.append_nil, Nat.sub_zero, Nat.zero_add, ite_true, ite_false, Nat.zero_le, Nat.reduceAdd, Nat.reduceLeDiff, Nat.reduceSub, Nat.reduceMul, Nat.reduceEqDiff, Int.reduceLT, Int.reduceLE, Bool.false_eq_true, reduceCtorEq, and_true, true_and, and_self, rngA, hf, h1, and_self, Int.toNat_natCast]
  unfold lcA
  rw [h2]
  show lift ((lcGo tg tt te ρ (rngD 0 n)).map (D.lst true)) = _
  rw [e]; rfl
theorem far_row {n : Nat} {ps : Ps} (h9 : n ≤ 9) {u : Nat} {x2 x3 x5 : Option D} : e5__law_far_apart [some (.int (n : Int)), some (.lst false (psD ps)), x2, x3, some (.int (u : Int)), x5] = .ok (.lst true (((List.range n).map fun v : Nat => if ((u : Int), (v : Int)) ∈ ps then (1 : Int) else 99).map .int)) := by
  refine rng_lc (n := n) (by omega) rfl ?_
  have h := lcGo_fm (tg := .one 5) (tt := yesB) (te := e4__law_far_apart) (ρ := [some (.int (n : Int)), some (.lst false (psD ps)), x2, x3, some (.int (u : Int)), x5]) (fun i : Nat => D.int (0 + (i : Int))) (fun _ => true) (fun v : Nat => D.int (if ((u : Int), (v : Int)) ∈ ps then (1 : Int) else 99)) (List.range n) fun v hv => ?_
  · unfold rngD
    rw [h, List.filter_eq_self.mpr fun _ _ => rfl, List.map_map]; rfl
  · refine ⟨[some (.int (n : Int)), some (.lst false (psD ps)), x2, x3, some (.int (u : Int)), some (.int (0 + (v : Int)))], rfl, rfl, fun _ => ?_⟩
    rw [Int.zero_add, far_bit (ru := []) (frzs_ps ps) (inX_dec ((u : Int), (v : Int)) ps)]
    simp only [decide_eq_true_eq]
theorem far_end {n : Nat} {P T Q Q' : List D} {x3 x4 x5 : Option D} (h9 : n ≤ 9) (aT : af.afs T = true) (hQ : frzs Q = Q') (lc : lcA (rngA (consA (vr 0) nilA)) (.one 4) yesB e5__law_far_apart [some (.int (n : Int)), some (.lst false P), none, none, none, none] = .ok (.lst true T))
    (e : forGo (.one 3) b3__law_far_apart (rngD 0 n) [some (.int (n : Int)), some (.lst false P), some (.lst true T), none, none, none] = .nx [some (.int (n : Int)), some (.lst false P), some (.lst true Q), x3, x4, x5]) : F__law_far_apart [.int (n : Int), .lst false P] = .ok (.lst false Q') := by
  have fe := for_end (M := [0]) (n := n) (f := vr 0) (by omega) rfl rfl e
  unfold F__law_far_apart s__law_far_apart
  generalize lcA (rngA (consA (vr 0) nilA)) (.one 4) yesB e5__law_far_apart = f1 at *
  generalize forS [0] (rngA (consA (vr 0) nilA)) (.one 3) b3__law_far_apart = f2 at *
  simp only [runF, env0, endF, seqS, asgS, retS, ifS, nilS, brkS, cntS, drpS, mutS, forS, unpS, parS, keepM, frzM, gApp, op2, op1, vr, cI, cS, cB, cN, cT, De.get, Res.bind, lift, tst, toB, andB, orB, notB, andV, orV, notV, ifV, chn, consA, nilA, lstA, tupA, calA, fnA, strM, tgetA, lcA, itm, rngA, prtN, prtE, prtI, slA, dI, g1, g2, frz, frz_lst, frz_tup, frz_rol, frzs, frzs_ints, frzs_strs, frzs_app, frzs_len, af, af.afs, afs_ints, afs_strs, frzs_bls, dAll_map, dAny_map, all_tt, List.map_cons, List.map_nil, List.length_cons, List.length_nil, List.cons_append, List.nil_append, List.replicate, List.getElem?_cons_zero, List.getElem?_cons_succ, List.set_cons_zero, List.set_cons_succ, List.set, if_true, if_false, Bool.or_true, Bool.true_or, Bool.or_false, Bool.false_or, Bool.and_true, Bool.true_and, Bool.and_false, Bool.false_and, Bool.not_true, Bool.not_false, Option.map_some, Option.map_none, Option.bind_some, Option.bind_none, List.length_map, reduceIte, itemsL, itemsT, Option.map, Option.bind, Tg.bind, setN, List.append_nil, Nat.sub_zero, Nat.zero_add, ite_true, ite_false, Nat.zero_le, Nat.reduceAdd, Nat.reduceLeDiff, Nat.reduceSub, Nat.reduceMul, Nat.reduceEqDiff, Int.reduceLT, Int.reduceLE, Bool.false_eq_true, reduceCtorEq, and_true, true_and, and_self, lc, aT, fe, hQ]
theorem far_ok {n : Nat} {ps : Ps} (G : Good n ps) : ∃ A : Tab, F__law_far_apart [.int (n : Int), .lst false (psD ps)] = .ok (.lst false (tF A)) ∧ Dst n ps A := by
  have h9 := G.n9
  obtain ⟨A, x3, x4, x5, e, Ds⟩ := far_loop h9 (P := psD ps) (x3 := none) (x4 := none) (x5 := none) G.rng
  refine ⟨A, far_end h9 (afs_tT (tab0 n ps)) (frzs_tT A) (rng_lc (n := n) (by omega) rfl ?_) e, Ds⟩
  have h := lcGo_fm (tg := .one 4) (tt := yesB) (te := e5__law_far_apart) (ρ := [some (.int (n : Int)), some (.lst false (psD ps)), none, none, none, none]) (fun i : Nat => D.int (0 + (i : Int))) (fun _ => true) (fun u : Nat => D.lst true (((List.range n).map fun v : Nat => if ((u : Int), (v : Int)) ∈ ps then (1 : Int) else 99).map .int)) (List.range n) fun v hv => ?_
  · unfold rngD tab0
    rw [h, List.filter_eq_self.mpr fun _ _ => rfl]
    unfold tT
    rw [List.map_map]; rfl
  · refine ⟨[some (.int (n : Int)), some (.lst false (psD ps)), none, none, some (.int (0 + (v : Int))), none], rfl, rfl, fun _ => ?_⟩
    rw [Int.zero_add]
    exact far_row h9
end Cm
set_option Elab.async false
set_option linter.all false
set_option maxRecDepth 100000
namespace Cm
open PySem De Gr Bm
open L2 (Key)

theorem min_ex : ∀ {l : List Int}, l ≠ [] → ∃ y ∈ l, ∀ z ∈ l, y ≤ z
  | [], h => absurd rfl h
  | [a], _ => ⟨a, List.mem_cons_self .., fun z hz => by rw [List.mem_singleton.mp hz]; exact Int.le_refl _⟩
  | a :: b :: l, _ => by
    obtain ⟨y, h1, h2⟩ := min_ex (l := b :: l) (by simp)
    by_cases h : a ≤ y
    · refine ⟨a, List.mem_cons_self .., fun z hz => ?_⟩
      rcases List.mem_cons.mp hz with e | e
      · rw [e]; exact Int.le_refl _
      · have := h2 z e; omega
    · refine ⟨y, List.mem_cons_of_mem _ h1, fun z hz => ?_⟩
      rcases List.mem_cons.mp hz with e | e
      · rw [e]; omega
      · exact h2 z e
theorem minL_ints {l : List Int} (h : l ≠ []) (b : Bool) : ∃ y ∈ l, (∀ z ∈ l, y ≤ z) ∧ dMinL (.lst b (l.map .int)) = some (.int y) := by
  obtain ⟨y, h1, h2⟩ := min_ex h
  refine ⟨y, h1, h2, ?_⟩
  show (intsD (l.map .int)).bind _ = _
  rw [intsD_map]
  show (leastI l).map D.int = _
  cases e : leastI l with
  | none =>
    cases l with
    | nil => exact absurd rfl h
    | cons a l => cases e
  | some m => rw [leastI_is e h1 h2]; rfl
/-! ### steps -/
abbrev stE (n : Nat) (P : List D) (s t : Int) (F : List D) (f : List D) (k : Option D) (a b c : Option D) : De.Env := [some (.int (n : Int)), some (.lst false P), some (.int s), some (.int t), some (.lst false F), some (.lst true f), k, a, b, c]
theorem st_turn {n : Nat} {P F N C rs f : List D} {s t k d y : Int} {x7 x8 x9 : Option D} (hF : frzs F = F) (r1 : dIx (.lst false F) (.int s) = some (.lst false rs)) (fr : frzs rs = rs) (h1 : dIx (.lst false rs) (.int t) = some (.int d))
    (lc1 : lcA (rngA (consA (vr 0) nilA)) (.one 9) t4__law_steps e3__law_steps (stE n P s t F f (some (.int k)) (some (.int (d - 1 - k))) x8 x9) = .ok (.lst true N)) (aN : af.afs N = true) (fN : frzs N = N)
    (lc2 : lcGo (.one 9) t2__law_steps e1__law_steps (stE n P s t F f (some (.int k)) (some (.int (d - 1 - k))) (some (.lst true N)) x9) N = some C) (fC : frzs C = C) (hm : dMinL (.lst false C) = some (.int y)) (hl : f.length < 16777216) :
    b5__law_steps (stE n P s t F f (some (.int k)) x7 x8 x9) = .nx (stE n P s t F (f ++ [.int y]) (some (.int k)) (some (.int (d - 1 - k))) (some (.lst true N)) x9) := by
  unfold b5__law_steps
  unfold stE at *
  generalize lcA (rngA (consA (vr 0) nilA)) (.one 9) t4__law_steps e3__law_steps = f1 at *
  simp only [runF, env0, endF, seqS, asgS, retS, ifS, nilS, brkS, cntS, drpS, mutS, forS, unpS, parS, keepM, frzM, gApp, op2, op1, vr, cI, cS, cB, cN, cT, De.get, Res.bind, lift, tst, toB, andB, orB, notB, andV, orV, notV, ifV, chn, consA, nilA, lstA, tupA, calA, fnA, strM, tgetA, lcA, itm, rngA, prtN, prtE, prtI, slA, dI, g1, g2, frz, frz_lst, frz_tup, frz_rol, frzs, frzs_ints, frzs_strs, frzs_app, frzs_len, af, af.afs, afs_ints, afs_strs, frzs_bls, dAll_map, dAny_map, all_tt, List.map_cons, List.map_nil, List.length_cons, List.length_nil, List.cons_append, List.nil_append, List.replicate, List.getElem?_cons_zero, List.getElem?_cons_succ, List.set_cons_zero, List.set_cons_succ, List.set, if_true, if_false, Bool.or_true, Bool.true_or, Bool.or_false, Bool.false_or, Bool.and_true, Bool.true_and, Bool.and_false, Bool.false_and, Bool.not_true, Bool.not_false, Option.map_some, Option.map_none, Option.bind_some, Option.bind_none, List.length_map, reduceIte, itemsL, itemsT, Option.map, Option.bind, Tg.bind, setN, List.append_nil, Nat.sub_zero, Nat.zero_add, ite_true, ite_false, Nat.zero_le, Nat.reduceAdd, Nat.reduceLeDiff, Nat.reduceSub, Nat.reduceMul, Nat.reduceEqDiff, Int.reduceLT, Int.reduceLE, Bool.false_eq_true, reduceCtorEq, and_true, true_and, and_self, hF, r1, fr, h1, dSub, lc1, aN, itD, fN, lc2, fC, hm, hl]
theorem near_bit {n : Nat} {P F f : List D} {s t v x : Int} {k a b : Option D} {q : Bool} (hP : frzs P = P) (hf : frzs f = f) (hl : dIx (.lst false f) (.int (-1)) = some (.int x)) (h : dInX (.tup [.int x, .int v]) (.lst false P) = some (.bl q)) : t4__law_steps (stE n P s t F f k a b (some (.int v))) = .ok q := by
  simp only [runF, env0, endF, seqS, asgS, retS, ifS, nilS, brkS, cntS, drpS, mutS, forS, unpS, parS, keepM, frzM, gApp, op2, op1, vr, cI, cS, cB, cN, cT, De.get, Res.bind, lift, tst, toB, andB, orB, notB, andV, orV, notV, ifV, chn, consA, nilA, lstA, tupA, calA, fnA, strM, tgetA, lcA, itm, rngA, prtN, prtE, prtI, slA, dI, g1, g2, frz, frz_lst, frz_tup, frz_rol, frzs, frzs_ints, frzs_strs, frzs_app, frzs_len, af, af.afs, afs_ints, afs_strs, frzs_bls, dAll_map, dAny_map, all_tt, List.map_cons, List.map_nil, List.length_cons, List.length_nil, List.cons_append, List.nil_append, List.replicate, List.getElem?_cons_zero, List.getElem?_cons_succ, List.set_cons_zero, List.set_cons_succ, List.set, if_true, if_false, Bool.or_true, Bool.true_or, Bool.or_false, Bool.false_or, Bool.and_true, Bool.true_and, Bool.and_false, Bool.false_and, Bool.not_true, Bool.not_false, Option.map_some, Option.map_none, Option.bind_some, Option.bind_none, List.length_map, reduceIte, itemsL, itemsT, Option.map, Option.bind, Tg.bind, setN, List.append_nil, Nat.sub_zero, Nat.zero_add, ite_true, ite_false, Nat.zero_le, Nat.reduceAdd, Nat.reduceLeDiff, Nat.reduceSub, Nat.reduceMul, Nat.reduceEqDiff, Int.reduceLT, Int.reduceLE, Bool.false_eq_true, reduceCtorEq, and_true, true_and, and_self, t4__law_steps, hP, hf, dNeg, hl, h]
theorem left_bit {n : Nat} {P F f r : List D} {s t v d l : Int} {k b : Option D} (hF : frzs F = F) (h1 : dIx (.lst false F) (.int v) = some (.lst false r)) (fr : frzs r = r) (h2 : dIx (.lst false r) (.int t) = some (.int d)) : t2__law_steps (stE n P s t F f k (some (.int l)) b (some (.int v))) = .ok (decide (d = l)) := by
  simp only [runF, env0, endF, seqS, asgS, retS, ifS, nilS, brkS, cntS, drpS, mutS, forS, unpS, parS, keepM, frzM, gApp, op2, op1, vr, cI, cS, cB, cN, cT, De.get, Res.bind, lift, tst, toB, andB, orB, notB, andV, orV, notV, ifV, chn, consA, nilA, lstA, tupA, calA, fnA, strM, tgetA, lcA, itm, rngA, prtN, prtE, prtI, slA, dI, g1, g2, frz, frz_lst, frz_tup, frz_rol, frzs, frzs_ints, frzs_strs, frzs_app, frzs_len, af, af.afs, afs_ints, afs_strs, frzs_bls, dAll_map, dAny_map, all_tt, List.map_cons, List.map_nil, List.length_cons, List.length_nil, List.cons_append, List.nil_append, List.replicate, List.getElem?_cons_zero, List.getElem?_cons_succ, List.set_cons_zero, List.set_cons_succ, List.set, if_true, if_false, Bool.or_true, Bool.true_or, Bool.or_false, Bool.false_or, Bool.and_true, Bool.true_and, Bool.and_false, Bool.false_and, Bool.not_true, Bool.not_false, Option.map_some, Option.map_none, Option.bind_some, Option.bind_none, List.length_map, reduceIte, itemsL, itemsT, Option.map, Option.bind, Tg.bind, setN, List.append_nil, Nat.sub_zero, Nat.zero_add, ite_true, ite_false, Nat.zero_le, Nat.reduceAdd, Nat.reduceLeDiff, Nat.reduceSub, Nat.reduceMul, Nat.reduceEqDiff, Int.reduceLT, Int.reduceLE, Bool.false_eq_true, reduceCtorEq, and_true, true_and, and_self, t2__law_steps, hF, h1, fr, h2, dEq]
theorem nD_int (l : List Nat) : l.map nD = (oI l).map .int := oI_nD l
section
variable {n : Nat} {ps : Ps} (G : Good n ps) {A : Tab} (Ds : Dst n ps A)
include G Ds
theorem cell_at {u v : Nat} (hu : u < n) (hv : v < n) : dIx (.lst false (tF A)) (.int (u : Int)) = some (.lst false ((A.getD u []).map .int)) ∧ dIx (.lst false ((A.getD u []).map .int)) (.int (v : Int)) = some (.int (at2 A u v)) :=
  ⟨ix_row (by rw [Ds.snd.sq.len]; exact hu), ix_cell (by rw [Ds.snd.sq.row u hu]; exact hv)⟩
theorem st_step {s t L k : Nat} {g : List Int} {x : Nat} (Y : Gdy n ps A s t L g x) (hs : s < n) (ht : t < n) (hd : at2 A s t = L) (hL : L ≤ 9) (hk : g.length = k) (hk2 : k < L - 1) {x7 x8 x9 : Option D} :
    ∃ (y : Nat) (x7' x8' : Option D), b5__law_steps (stE n (psD ps) s t (tF A) ((g ++ [(x : Int)]).map .int) (some (.int (k : Int))) x7 x8 x9) = .nx (stE n (psD ps) s t (tF A) ((g ++ [(x : Int)] ++ [(y : Int)]).map .int) (some (.int (k : Int))) x7' x8' x9) ∧ Gdy n ps A s t L (g ++ [(x : Int)]) y := by
  have dist := Y.dist
  have h2 : 2 ≤ at2 A x t := by omega
  have hleft : (L : Int) - 1 - k = at2 A x t - 1 := by omega
  let N : List Nat := (List.range n).filter fun v => decide (((x : Int), (v : Int)) ∈ ps)
  let C : List Nat := N.filter fun v => decide (at2 A v t = (L : Int) - 1 - k)
  have memC : ∀ z : Nat, z ∈ C ↔ z < n ∧ ((x : Int), (z : Int)) ∈ ps ∧ at2 A z t = at2 A x t - 1 := fun z => by
    show z ∈ (N.filter _) ↔ _
    rw [List.mem_filter, List.mem_filter, List.mem_range, decide_eq_true_eq, decide_eq_true_eq, hleft]
    exact ⟨fun h => ⟨h.1.1, h.1.2, h.2⟩, fun h => ⟨⟨h.1, h.2.1⟩, h.2.2⟩⟩
  obtain ⟨y0, c1, c2, c3⟩ := Y.some Ds G.rng ht hL h2
  have hC : oI C ≠ [] := fun e => by
    have : (y0 : Int) ∈ oI C := List.mem_map.mpr ⟨y0, (memC y0).mpr ⟨c1, c2, c3⟩, rfl⟩
    rw [e] at this
    cases this
  obtain ⟨y1, m1, m2, m3⟩ := minL_ints hC false
  obtain ⟨y, hy, rfl⟩ := List.mem_map.mp m1
  obtain ⟨hy1, hy2, hy3⟩ := (memC y).mp hy
  obtain ⟨q1, q2⟩ := cell_at G Ds hs ht
  rw [hd] at q2
  have hlast : dIx (.lst false ((g ++ [(x : Int)]).map .int)) (.int (-1)) = some (.int (x : Int)) := by rw [List.map_append]; exact atI_last
  have lc1 : lcA (rngA (consA (vr 0) nilA)) (.one 9) t4__law_steps e3__law_steps (stE n (psD ps) s t (tF A) ((g ++ [(x : Int)]).map .int) (some (.int (k : Int))) (some (.int ((L : Int) - 1 - k))) x8 x9) = .ok (.lst true ((oI N).map .int)) := by
    refine rng_lc (n := n) (by have := G.n9; omega) rfl ?_
    rw [← nD_int]
    unfold rngD
    refine lcGo_fm (fun i : Nat => D.int (0 + (i : Int))) (fun v => decide (((x : Int), (v : Int)) ∈ ps)) nD (List.range n) fun v hv => ?_
    refine ⟨stE n (psD ps) s t (tF A) ((g ++ [(x : Int)]).map .int) (some (.int (k : Int))) (some (.int ((L : Int) - 1 - k))) x8 (some (.int (0 + (v : Int)))), rfl, ?_, fun _ => ?_⟩
    · rw [Int.zero_add]
      exact near_bit (frzs_ps ps) (frzs_ints _) hlast (inX_dec ((x : Int), (v : Int)) ps)
    · rw [Int.zero_add]; rfl
  have lc2 : lcGo (.one 9) t2__law_steps e1__law_steps (stE n (psD ps) s t (tF A) ((g ++ [(x : Int)]).map .int) (some (.int (k : Int))) (some (.int ((L : Int) - 1 - k))) (some (.lst true ((oI N).map .int))) x9) ((oI N).map .int) = some ((oI C).map .int) := by
    rw [← nD_int, ← nD_int]
    refine lcGo_fm nD (fun v => decide (at2 A v t = (L : Int) - 1 - k)) nD N fun v hv => ?_
    have hvn : v < n := by
      have := (List.mem_filter.mp hv).1
      exact List.mem_range.mp this
    obtain ⟨w1, w2⟩ := cell_at G Ds hvn ht
    refine ⟨stE n (psD ps) s t (tF A) ((g ++ [(x : Int)]).map .int) (some (.int (k : Int))) (some (.int ((L : Int) - 1 - k))) (some (.lst true (N.map nD))) (some (.int (v : Int))), rfl, ?_, fun _ => rfl⟩
    exact left_bit (frzs_tF A) w1 (frzs_ints _) w2
  have e := st_turn (x7 := x7) (frzs_tF A) q1 (frzs_ints _) q2 lc1 (afs_ints _) (frzs_ints _) lc2 (frzs_ints _) m3 (by rw [List.length_map, List.length_append, List.length_singleton]; omega)
  refine ⟨y, some (.int ((L : Int) - 1 - k)), some (.lst true ((oI N).map .int)), ?_, Y.next Ds G.rng ht hL h2 hy1 hy2 hy3 fun z hz1 hz2 hz3 => ?_⟩
  · rw [e, List.map_append (l₁ := g ++ [(x : Int)])]; rfl
  · have := m2 (z : Int) (List.mem_map.mpr ⟨z, (memC z).mpr ⟨hz1, hz2, hz3⟩, rfl⟩)
    omega
theorem st_loop {s t L : Nat} (hs : s < n) (ht : t < n) (hd : at2 A s t = L) (hL : L ≤ 9) : ∃ (f : List Int) (k x7 x8 : Option D), forGo (.one 6) b5__law_steps (rngD 0 (L - 1)) (stE n (psD ps) s t (tF A) [.int (s : Int)] none none none none) = .nx (stE n (psD ps) s t (tF A) (f.map .int) k x7 x8 none) ∧
    Wl ps t f ∧ f.length = L ∧ f.head? = some (s : Int) ∧ ∀ p : List Int, p.head? = some (s : Int) → Wl ps t p → p.length = L → lle f p := by
  have pos := Ds.snd.pos hs ht
  obtain ⟨ρ', e, g, x, k, x7, x8, rfl, Y, hl⟩ := forGo_rng (tg := .one 6) (body := b5__law_steps) (ρ := stE n (psD ps) s t (tF A) [.int (s : Int)] none none none none) (fun k ρ => ∃ (g : List Int) (x : Nat) (y x7 x8 : Option D), ρ = stE n (psD ps) s t (tF A) ((g ++ [(x : Int)]).map .int) y x7 x8 none ∧ Gdy n ps A s t L g x ∧ g.length = k) (L - 1) ⟨[], s, none, none, none, rfl, Gdy.first hs hd, rfl⟩ fun k ρ hk ⟨g, x, y, x7, x8, hρ, Y, hl⟩ => by
    subst hρ
    obtain ⟨z, x7', x8', e, Y'⟩ := st_step G Ds Y hs ht hd hL hl hk (x7 := x7) (x8 := x8) (x9 := none)
    exact ⟨_, _, rfl, .inl e, _, z, _, _, _, rfl, Y', by rw [List.length_append, hl]; rfl⟩
  have dist := Y.dist
  obtain ⟨w, wl⟩ := Y.end Ds ht (by omega)
  exact ⟨_, k, x7, x8, e, w, wl, Y.hd, Y.le⟩
end
theorem st_end {n : Nat} {P F rs f : List D} {s t : Int} {L : Nat} {k x7 x8 : Option D} (hF : frzs F = F) (hP : frzs P = P) (r1 : dIx (.lst false F) (.int s) = some (.lst false rs)) (fr : frzs rs = rs) (h1 : dIx (.lst false rs) (.int t) = some (.int (L : Int))) (hL : 1 ≤ L ∧ L ≤ 9) (hf : frzs f = f) (hl : f.length ≤ 1000)
    (e : forGo (.one 6) b5__law_steps (rngD 0 (L - 1)) (stE n P s t F [.int s] none none none none) = .nx (stE n P s t F f k x7 x8 none)) : F__law_steps [.int (n : Int), .lst false P, .int s, .int t, .lst false F] = .ok (.lst true (f ++ [.int t])) := by
  have h2 : (L : Int) - 1 ≤ 16777216 ∧ -(2 ^ 62) ≤ (L : Int) - 1 := ⟨by omega, by omega⟩
  have h3 : ((L : Int) - 1).toNat = L - 1 := by omega
  have hz : szOk (f.length + [D.int t].length) = true := szOk_of (by rw [List.length_singleton]; omega)
  have ha : dAdd (.lst false f) (.lst false [.int t]) = some (.lst true (f ++ [.int t])) := by simp only [dAdd, hz, if_true]
  unfold stE at e
  simp only [runF, env0, endF, seqS, asgS, retS, ifS, nilS, brkS, cntS, drpS, mutS, forS, unpS, parS, keepM, frzM, gApp, op2, op1, vr, cI, cS, cB, cN, cT, De.get, Res.bind, lift, tst, toB, andB, orB, notB, andV, orV, notV, ifV, chn, consA, nilA, lstA, tupA, calA, fnA, strM, tgetA, lcA, itm, rngA, prtN, prtE, prtI, slA, dI, g1, g2, frz, frz_lst, frz_tup, frz_rol, frzs, frzs_ints, frzs_strs, frzs_app, frzs_len, af, af.afs, afs_ints, afs_strs, frzs_bls, dAll_map, dAny_map, all_tt, List.map_cons, List.map_nil, List.length_cons, List.length_nil, List.cons_append, List.nil_append, List.replicate, List.getElem?_cons_zero, List.getElem?_cons_succ, List.set_cons_zero, List.set_cons_succ, List.set, if_true, if_false, Bool.or_true, Bool.true_or, Bool.or_false, Bool.false_or, Bool.and_true, Bool.true_and, Bool.and_false, Bool.false_and, Bool.not_true, Bool.not_false, Option.map_some, Option.map_none, Option.bind_some, Option.bind_none, List.length_map, reduceIte, itemsL, itemsT, Option.map, Option.bind, Tg.bind, setN, List.append_nil, Nat.sub_zero, Nat.zero_add, ite_true, ite_false, Nat.zero_le, Nat.reduceAdd, Nat.reduceLeDiff, Nat.reduceSub, Nat.reduceMul, Nat.reduceEqDiff, Int.reduceLT, Int.reduceLE, Bool.false_eq_true, reduceCtorEq, and_true, true_and, and_self, F__law_steps, s__law_steps, hF, r1, fr, h1, dSub, h2, and_self, h3, e, hf, ha]
theorem ring_none {n : Int} {P F S : List D} {m : Int} (hP : frzs P = P) (hF : frzs F = F) (hS : frzs S = S) (aS : af.afs S = true) (e1 : F__law_far_apart [.int n, .lst false P] = .ok (.lst false F)) (e2 : lcA (rngA (consA (vr 0) nilA)) (.one 4) yesB e1__law_ring [some (.int n), some (.lst false P), some (.lst false F), none, none] = .ok (.lst true S)) (e3 : dMinL (.lst false S) = some (.int m)) (h : 9 < m) : F__law_ring [.int n, .lst false P] = .ok .non := by
  unfold F__law_ring s__law_ring
  generalize lcA (rngA (consA (vr 0) nilA)) (.one 4) yesB e1__law_ring = f1 at *
  simp only [runF, env0, endF, seqS, asgS, retS, ifS, nilS, brkS, cntS, drpS, mutS, forS, unpS, parS, keepM, frzM, gApp, op2, op1, vr, cI, cS, cB, cN, cT, De.get, Res.bind, lift, tst, toB, andB, orB, notB, andV, orV, notV, ifV, chn, consA, nilA, lstA, tupA, calA, fnA, strM, tgetA, lcA, itm, rngA, prtN, prtE, prtI, slA, dI, g1, g2, frz, frz_lst, frz_tup, frz_rol, frzs, frzs_ints, frzs_strs, frzs_app, frzs_len, af, af.afs, afs_ints, afs_strs, frzs_bls, dAll_map, dAny_map, all_tt, List.map_cons, List.map_nil, List.length_cons, List.length_nil, List.cons_append, List.nil_append, List.replicate, List.getElem?_cons_zero, List.getElem?_cons_succ, List.set_cons_zero, List.set_cons_succ, List.set, if_true, if_false, Bool.or_true, Bool.true_or, Bool.or_false, Bool.false_or, Bool.and_true, Bool.true_and, Bool.and_false, Bool.false_and, Bool.not_true, Bool.not_false, Option.map_some, Option.map_none, Option.bind_some, Option.bind_none, List.length_map, reduceIte, itemsL, itemsT, Option.map, Option.bind, Tg.bind, setN, List.append_nil, Nat.sub_zero, Nat.zero_add, ite_true, ite_false, Nat.zero_le, Nat.reduceAdd, Nat.reduceLeDiff, Nat.reduceSub, Nat.reduceMul, Nat.reduceEqDiff, Int.reduceLT, Int.reduceLE, Bool.false_eq_true, reduceCtorEq, and_true, true_and, and_self, hP, e1, hF, e2, aS, hS, e3, dGt, h, decide_true]
theorem ring_some {n : Int} {P F S f : List D} {m s t : Int} (hP : frzs P = P) (hF : frzs F = F) (hS : frzs S = S) (aS : af.afs S = true) (e1 : F__law_far_apart [.int n, .lst false P] = .ok (.lst false F)) (e2 : lcA (rngA (consA (vr 0) nilA)) (.one 4) yesB e1__law_ring [some (.int n), some (.lst false P), some (.lst false F), none, none] = .ok (.lst true S)) (e3 : dMinL (.lst false S) = some (.int m)) (h : ¬ 9 < m)
    (e4 : dIdx S (.int m) = some (.int s)) (e5 : F__law_steps [.int n, .lst false P, .int s, .int s, .lst false F] = .ok (.lst true (f ++ [.int t]))) (hf : frzs (f ++ [.int t]) = f ++ [.int t]) (hc : cutL (f ++ [.int t]) none (some (-1)) = f) : F__law_ring [.int n, .lst false P] = .ok (.lst true f) := by
  unfold F__law_ring s__law_ring
  generalize lcA (rngA (consA (vr 0) nilA)) (.one 4) yesB e1__law_ring = f1 at *
  generalize f ++ [.int t] = fz at *
  simp only [runF, env0, endF, seqS, asgS, retS, ifS, nilS, brkS, cntS, drpS, mutS, forS, unpS, parS, keepM, frzM, gApp, op2, op1, vr, cI, cS, cB, cN, cT, De.get, Res.bind, lift, tst, toB, andB, orB, notB, andV, orV, notV, ifV, chn, consA, nilA, lstA, tupA, calA, fnA, strM, tgetA, lcA, itm, rngA, prtN, prtE, prtI, slA, dI, g1, g2, frz, frz_lst, frz_tup, frz_rol, frzs, frzs_ints, frzs_strs, frzs_app, frzs_len, af, af.afs, afs_ints, afs_strs, frzs_bls, dAll_map, dAny_map, all_tt, List.map_cons, List.map_nil, List.length_cons, List.length_nil, List.cons_append, List.nil_append, List.replicate, List.getElem?_cons_zero, List.getElem?_cons_succ, List.set_cons_zero, List.set_cons_succ, List.set, if_true, if_false, Bool.or_true, Bool.true_or, Bool.or_false, Bool.false_or, Bool.and_true, Bool.true_and, Bool.and_false, Bool.false_and, Bool.not_true, Bool.not_false, Option.map_some, Option.map_none, Option.bind_some, Option.bind_none, List.length_map, reduceIte, itemsL, itemsT, Option.map, Option.bind, Tg.bind, setN, List.append_nil, Nat.sub_zero, Nat.zero_add, ite_true, ite_false, Nat.zero_le, Nat.reduceAdd, Nat.reduceLeDiff, Nat.reduceSub, Nat.reduceMul, Nat.reduceEqDiff, Int.reduceLT, Int.reduceLE, Bool.false_eq_true, reduceCtorEq, and_true, true_and, and_self, hP, e1, hF, e2, aS, hS, e3, dGt, h, decide_false, idxA, isLst, e4, e5, hf, dNeg, dSl, hc]
theorem cut_last (f : List D) (a : D) : cutL (f ++ [a]) none (some (-1)) = f := by
  unfold cutL
  have h1 : HT.sIx (f ++ [a]).length 0 none = 0 := rfl
  have h2 : HT.sIx (f ++ [a]).length (f ++ [a]).length (some (-1)) = f.length := by
    show (if (-1 : Int) < 0 then ((-1 : Int) + ((f ++ [a]).length : Nat)).toNat else min (-1 : Int).toNat (f ++ [a]).length) = _
    rw [if_pos (by decide), List.length_append, List.length_singleton]
    omega
  rw [h1, h2]
  simp
/-- the ring that the law reckons -/
theorem law_ring_ok {n : Nat} {ps : Ps} (G : Good n ps) : (F__law_ring [.int (n : Int), .lst false (psD ps)] = .ok .non ∧ ∀ r, ¬ IsRing ps r) ∨ ∃ f : List Int, F__law_ring [.int (n : Int), .lst false (psD ps)] = .ok (.lst true (f.map .int)) ∧ BestRing ps f := by
  obtain ⟨A, e1, Ds⟩ := far_ok G
  have n9 := G.n9
  have n1 := G.n1
  have e2 : lcA (rngA (consA (vr 0) nilA)) (.one 4) yesB e1__law_ring [some (.int (n : Int)), some (.lst false (psD ps)), some (.lst false (tF A)), none, none] = .ok (.lst true (((List.range n).map fun v => at2 A v v).map .int)) := by
    refine rng_lc (n := n) (by omega) rfl ?_
    have h := lcGo_fm (tg := .one 4) (tt := yesB) (te := e1__law_ring) (ρ := [some (.int (n : Int)), some (.lst false (psD ps)), some (.lst false (tF A)), none, none]) (fun i : Nat => D.int (0 + (i : Int))) (fun _ => true) (fun v : Nat => D.int (at2 A v v)) (List.range n) fun v hv => ?_
    · unfold rngD
      rw [h, List.filter_eq_self.mpr fun _ _ => rfl, List.map_map]; rfl
    · refine ⟨[some (.int (n : Int)), some (.lst false (psD ps)), some (.lst false (tF A)), none, some (.int (0 + (v : Int)))], rfl, rfl, fun _ => ?_⟩
      rw [Int.zero_add]
      have hvn := List.mem_range.mp hv
      obtain ⟨w1, w2⟩ := cell_at G Ds hvn hvn
      have hF := frzs_tF A
      have fr := frzs_ints (A.getD v [])
      generalize tF A = F at *
      generalize (A.getD v []).map D.int = R at *
      simp only [runF, env0, endF, seqS, asgS, retS, ifS, nilS, brkS, cntS, drpS, mutS, forS, unpS, parS, keepM, frzM, gApp, op2, op1, vr, cI, cS, cB, cN, cT, De.get, Res.bind, lift, tst, toB, andB, orB, notB, andV, orV, notV, ifV, chn, consA, nilA, lstA, tupA, calA, fnA, strM, tgetA, lcA, itm, rngA, prtN, prtE, prtI, slA, dI, g1, g2, frz, frz_lst, frz_tup, frz_rol, frzs, frzs_ints, frzs_strs, frzs_app, frzs_len, af, af.afs, afs_ints, afs_strs, frzs_bls, dAll_map, dAny_map, all_tt, List.map_cons, List.map_nil, List.length_cons, List.length_nil, List.cons_append, List.nil_append, List.replicate, List.getElem?_cons_zero, List.getElem?_cons_succ, List.set_cons_zero, List.set_cons_succ, List.set, if_true, if_false, Bool.or_true, Bool.true_or, Bool.or_false, Bool.false_or, Bool.and_true, Bool.true_and, Bool.and_false, Bool.false_and, Bool.not_true, Bool.not_false, Option.map_some, Option.map_none, Option.bind_some, Option.bind_none, List.length_map, reduceIte, itemsL, itemsT, Option.map, Option.bind, Tg.bind, setN, List.append_nil, Nat.sub_zero, Nat.zero_add, ite_true, ite_false, Nat.zero_le, Nat.reduceAdd, Nat.reduceLeDiff, Nat.reduceSub, Nat.reduceMul, Nat.reduceEqDiff, Int.reduceLT, Int.reduceLE, Bool.false_eq_true, reduceCtorEq, and_true, true_and, and_self, e1__law_ring, hF, w1, fr, w2]
  have hne : ((List.range n).map fun v => at2 A v v) ≠ [] := fun z => by
    have := congrArg List.length z
    rw [List.length_map, List.length_range] at this
    simp at this
    omega
  obtain ⟨m, m1, m2, m3⟩ := minL_ints hne false
  obtain ⟨s0, hs0, es0⟩ := List.mem_map.mp m1
  have hs0 := List.mem_range.mp hs0
  by_cases h9 : 9 < m
  · refine .inl ⟨ring_none (frzs_ps ps) (frzs_tF A) (frzs_ints _) (afs_ints _) e1 e2 m3 h9, fun r hr => ?_⟩
    rcases ring_in_ok G with ⟨_, nr⟩ | ⟨b, _, B⟩
    · exact nr r hr
    · obtain ⟨v, q, rfl, wr⟩ := ring_wl B.ring
      obtain ⟨z, hz⟩ := wr.endp
      obtain ⟨_, _, c, d⟩ := G.rng _ hz
      dsimp only at c d
      obtain ⟨v, rfl⟩ := Int.eq_ofNat_of_zero_le c
      have hv : v < n := by omega
      have h1 := Ds.le G.rng hv hv wr
      have h2 := nodup_bound (B.nodup G.best) (way_in G B.ring)
      have h3 := m2 _ (List.mem_map.mpr ⟨v, List.mem_range.mpr hv, rfl⟩)
      rw [List.length_cons] at h2
      omega
  · have mpos := Ds.snd.pos hs0 hs0
    obtain ⟨L, rfl⟩ := Int.eq_ofNat_of_zero_le (show 0 ≤ m by omega)
    have hidx := idx_int m1
    generalize hs : ((List.range n).map fun v => at2 A v v).idxOf (L : Int) = s at hidx
    have hsl : s < ((List.range n).map fun v => at2 A v v).length := by rw [← hs]; exact List.idxOf_lt_length_of_mem m1
    have hsn : s < n := by rw [List.length_map, List.length_range] at hsl; exact hsl
    have hval : at2 A s s = L := by
      have h1 : ((List.range n).map fun v => at2 A v v)[s]'hsl = (L : Int) := by
        have := List.getElem_idxOf (xs := (List.range n).map fun v => at2 A v v) (x := (L : Int)) (by rw [hs]; exact hsl)
        simp only [hs] at this
        exact this
      rw [List.getElem_map, List.getElem_range] at h1
      exact h1
    have hfst : ∀ v, v < s → at2 A v v ≠ L := fun v hv e => by
      have hvn : v < n := by omega
      have h1 : ((List.range n).map fun v => at2 A v v)[v]? = some (L : Int) := by rw [List.getElem?_map, List.getElem?_range hvn, ← e]; rfl
      have : ∀ (l : List Int) (v : Nat) (a : Int), l[v]? = some a → l.idxOf a ≤ v := by
        intro l
        induction l with
        | nil => intro v a h; simp at h
        | cons b l ih =>
          intro v a h
          rw [List.idxOf_cons]
          by_cases eb : b = a
          · rw [eb]; simp
          · rw [show (b == a) = false from beq_eq_false_iff_ne.mpr eb]
            cases v with
            | zero => exact absurd (Option.some.inj h) eb
            | succ v =>
              have := ih v a h
              show l.idxOf a + 1 ≤ v + 1
              omega
      have := this _ v _ h1
      omega
    obtain ⟨f, k, x7, x8, q, w, wl, hd, le⟩ := st_loop G Ds hsn hsn hval (by omega)
    obtain ⟨c1, c2⟩ := cell_at G Ds hsn hsn
    rw [hval] at c2
    have e5 := st_end (frzs_tF A) (frzs_ps ps) c1 (frzs_ints _) c2 ⟨by omega, by omega⟩ (frzs_ints f) (by rw [List.length_map]; omega) q
    refine .inr ⟨f, ring_some (t := (s : Int)) (frzs_ps ps) (frzs_tF A) (frzs_ints _) (afs_ints _) e1 e2 m3 h9 hidx e5 ?_ (cut_last _ _), ?_⟩
    · have := frzs_ints (f ++ [(s : Int)])
      rw [List.map_append] at this
      exact this
    · exact best_of Ds G.rng hsn (fun v hv => m2 _ (List.mem_map.mpr ⟨v, List.mem_range.mpr hv, rfl⟩)) hfst hd w wl le
end Cm
set_option Elab.async false
set_option linter.all false
set_option maxRecDepth 100000
namespace Cm
open PySem De

/-! ### _law_same of a thing and itself -/
def flat : D → Bool
  | .non => true
  | .bl _ => true
  | .int _ => true
  | .str _ => true
  | _ => false
def rf : Nat → D → Prop
  | 0, d => flat d = true
  | n + 1, d => flat d = true ∨ ∃ ds, (d = .lst false ds ∨ d = .tup ds) ∧ ds.length ≤ 16777216 ∧ ∀ x ∈ ds, rf n x
theorem flat_frz {d : D} (h : flat d = true) : frz d = d := by cases d <;> first | rfl | cases h
theorem map_id {f : D → D} : ∀ {ds : List D}, (∀ x ∈ ds, f x = x) → ds.map f = ds
  | [], _ => rfl
  | d :: ds, h => by rw [List.map_cons, h d (List.mem_cons_self ..), map_id fun x hx => h x (List.mem_cons_of_mem _ hx)]
theorem rf_frz : ∀ (n : Nat) (d : D), rf n d → frz d = d
  | 0, d, h => flat_frz h
  | n + 1, d, h => by
    rcases h with h | ⟨ds, h, _, hs⟩
    · exact flat_frz h
    · have e : frzs ds = ds := by rw [frzs_eq]; exact map_id fun x hx => rf_frz n x (hs x hx)
      rcases h with rfl | rfl
      · rw [frz_lst, e]
      · rw [frz_tup, e]
theorem num_int (i : Int) : F__law_num [.int i] = .ok (.bl true) := by
  have h1 : dIsi (.int i) (.ty "int") = some (.bl true) := rfl
  have h2 : dIsi (.int i) (.ty "bool") = some (.bl false) := rfl
  simp only [runF, env0, endF, seqS, asgS, retS, ifS, nilS, brkS, cntS, drpS, mutS, forS, unpS, parS, keepM, frzM, gApp, op2, op1, vr, cI, cS, cB, cN, cT, De.get, Res.bind, lift, tst, toB, andB, orB, notB, andV, orV, notV, ifV, chn, consA, nilA, lstA, tupA, calA, fnA, strM, tgetA, lcA, itm, rngA, prtN, prtE, prtI, slA, dI, g1, g2, frz, frz_lst, frz_tup, frz_rol, frzs, frzs_ints, frzs_strs, frzs_app, frzs_len, af, af.afs, afs_ints, afs_strs, frzs_bls, dAll_map, dAny_map, all_tt, List.map_cons, List.map_nil, List.length_cons, List.length_nil, List.cons_append, List.nil_append, List.replicate, List.getElem?_cons_zero, List.getElem?_cons_succ, List.set_cons_zero, List.set_cons_succ, List.set, if_true, if_false, Bool.or_true, Bool.true_or, Bool.or_false, Bool.false_or, Bool.and_true, Bool.true_and, Bool.and_false, Bool.false_and, Bool.not_true, Bool.not_false, Option.map_some, Option.map_none, Option.bind_some, Option.bind_none, List.length_map, reduceIte, itemsL, itemsT, Option.map, Option.bind, Tg.bind, setN, List.append_nil, Nat.sub_zero, Nat.zero_add, ite_true, ite_false, Nat.zero_le, Nat.reduceAdd, Nat.reduceLeDiff, Nat.reduceSub, Nat.reduceMul, Nat.reduceEqDiff, Int.reduceLT, Int.reduceLE, Bool.false_eq_true, reduceCtorEq, and_true, true_and, and_self, F__law_num, s__law_num, h1, h2]
theorem eqd_bl (b : Bool) : dEq (.bl b) (.bl b) = some (.bl true) := by cases b <;> rfl
theorem same_refl : ∀ (n : Nat) (d : D), rf n d → ∀ k, n < k → recF s__law_same 3 k [d, d] = .ok (.bl true)
  | n, d, h, 0, hk => absurd hk (by omega)
  | n, d, h, k + 1, hk => by
    have fl : flat d = true → recF s__law_same 3 (k + 1) [d, d] = .ok (.bl true) := by
      intro hf
      show runF (s__law_same (recF s__law_same 3 k)) 3 [d, d] = _
      cases d with
      | non =>
        have h1 : dIsN .non .non = some (.bl true) := rfl
        simp only [runF, env0, endF, seqS, asgS, retS, ifS, nilS, brkS, cntS, drpS, mutS, forS, unpS, parS, keepM, frzM, gApp, op2, op1, vr, cI, cS, cB, cN, cT, De.get, Res.bind, lift, tst, toB, andB, orB, notB, andV, orV, notV, ifV, chn, consA, nilA, lstA, tupA, calA, fnA, strM, tgetA, lcA, itm, rngA, prtN, prtE, prtI, slA, dI, g1, g2, frz, frz_lst, frz_tup, frz_rol, frzs, frzs_ints, frzs_strs, frzs_app, frzs_len, af, af.afs, afs_ints, afs_strs, frzs_bls, dAll_map, dAny_map, all_tt, List.map_cons, List.map_nil, List.length_cons, List.length_nil, List.cons_append, List.nil_append, List.replicate, List.getElem?_cons_zero, List.getElem?_cons_succ, List.set_cons_zero, List.set_cons_succ, List.set, if_true, if_false, Bool.or_true, Bool.true_or, Bool.or_false, Bool.false_or, Bool.and_true, Bool.true_and, Bool.and_false, Bool.false_and, Bool.not_true, Bool.not_false, Option.map_some, Option.map_none, Option.bind_some, Option.bind_none, List.length_map, reduceIte, itemsL, itemsT, Option.map, Option.bind, Tg.bind, setN, List.append_nil, Nat.sub_zero, Nat.zero_add, ite_true, ite_false, Nat.zero_le, Nat.reduceAdd, Nat.reduceLeDiff, Nat.reduceSub, Nat.reduceMul, Nat.reduceEqDiff, Int.reduceLT, Int.reduceLE, Bool.false_eq_true, reduceCtorEq, and_true, true_and, and_self, s__law_same, h1]
      | bl b =>
        have h1 : dIsN (.bl b) .non = some (.bl false) := rfl
        have h2 : dIsi (.bl b) (.ty "bool") = some (.bl true) := rfl
        simp only [runF, env0, endF, seqS, asgS, retS, ifS, nilS, brkS, cntS, drpS, mutS, forS, unpS, parS, keepM, frzM, gApp, op2, op1, vr, cI, cS, cB, cN, cT, De.get, Res.bind, lift, tst, toB, andB, orB, notB, andV, orV, notV, ifV, chn, consA, nilA, lstA, tupA, calA, fnA, strM, tgetA, lcA, itm, rngA, prtN, prtE, prtI, slA, dI, g1, g2, frz, frz_lst, frz_tup, frz_rol, frzs, frzs_ints, frzs_strs, frzs_app, frzs_len, af, af.afs, afs_ints, afs_strs, frzs_bls, dAll_map, dAny_map, all_tt, List.map_cons, List.map_nil, List.length_cons, List.length_nil, List.cons_append, List.nil_append, List.replicate, List.getElem?_cons_zero, List.getElem?_cons_succ, List.set_cons_zero, List.set_cons_succ, List.set, if_true, if_false, Bool.or_true, Bool.true_or, Bool.or_false, Bool.false_or, Bool.and_true, Bool.true_and, Bool.and_false, Bool.false_and, Bool.not_true, Bool.not_false, Option.map_some, Option.map_none, Option.bind_some, Option.bind_none, List.length_map, reduceIte, itemsL, itemsT, Option.map, Option.bind, Tg.bind, setN, List.append_nil, Nat.sub_zero, Nat.zero_add, ite_true, ite_false, Nat.zero_le, Nat.reduceAdd, Nat.reduceLeDiff, Nat.reduceSub, Nat.reduceMul, Nat.reduceEqDiff, Int.reduceLT, Int.reduceLE, Bool.false_eq_true, reduceCtorEq, and_true, true_and, and_self, s__law_same, h1, h2, eqd_bl]
      | int i =>
        have h1 : dIsN (.int i) .non = some (.bl false) := rfl
        have h2 : dIsi (.int i) (.ty "bool") = some (.bl false) := rfl
        have h3 : dIsi (.int i) (.ty "int") = some (.bl true) := rfl
        simp only [runF, env0, endF, seqS, asgS, retS, ifS, nilS, brkS, cntS, drpS, mutS, forS, unpS, parS, keepM, frzM, gApp, op2, op1, vr, cI, cS, cB, cN, cT, De.get, Res.bind, lift, tst, toB, andB, orB, notB, andV, orV, notV, ifV, chn, consA, nilA, lstA, tupA, calA, fnA, strM, tgetA, lcA, itm, rngA, prtN, prtE, prtI, slA, dI, g1, g2, frz, frz_lst, frz_tup, frz_rol, frzs, frzs_ints, frzs_strs, frzs_app, frzs_len, af, af.afs, afs_ints, afs_strs, frzs_bls, dAll_map, dAny_map, all_tt, List.map_cons, List.map_nil, List.length_cons, List.length_nil, List.cons_append, List.nil_append, List.replicate, List.getElem?_cons_zero, List.getElem?_cons_succ, List.set_cons_zero, List.set_cons_succ, List.set, if_true, if_false, Bool.or_true, Bool.true_or, Bool.or_false, Bool.false_or, Bool.and_true, Bool.true_and, Bool.and_false, Bool.false_and, Bool.not_true, Bool.not_false, Option.map_some, Option.map_none, Option.bind_some, Option.bind_none, List.length_map, reduceIte, itemsL, itemsT, Option.map, Option.bind, Tg.bind, setN, List.append_nil, Nat.sub_zero, Nat.zero_add, ite_true, ite_false, Nat.zero_le, Nat.reduceAdd, Nat.reduceLeDiff, Nat.reduceSub, Nat.reduceMul, Nat.reduceEqDiff, Int.reduceLT, Int.reduceLE, Bool.false_eq_true, reduceCtorEq, and_true, true_and, and_self, s__law_same, h1, h2, h3, num_int, dEq, decide_true]
      | str s =>
        have h1 : dIsN (.str s) .non = some (.bl false) := rfl
        have h2 : dIsi (.str s) (.ty "bool") = some (.bl false) := rfl
        have h3 : dIsi (.str s) (.ty "int") = some (.bl false) := rfl
        have h4 : dIsi (.str s) (.ty "str") = some (.bl true) := rfl
        simp only [runF, env0, endF, seqS, asgS, retS, ifS, nilS, brkS, cntS, drpS, mutS, forS, unpS, parS, keepM, frzM, gApp, op2, op1, vr, cI, cS, cB, cN, cT, De.get, Res.bind, lift, tst, toB, andB, orB, notB, andV, orV, notV, ifV, chn, consA, nilA, lstA, tupA, calA, fnA, strM, tgetA, lcA, itm, rngA, prtN, prtE, prtI, slA, dI, g1, g2, frz, frz_lst, frz_tup, frz_rol, frzs, frzs_ints, frzs_strs, frzs_app, frzs_len, af, af.afs, afs_ints, afs_strs, frzs_bls, dAll_map, dAny_map, all_tt, List.map_cons, List.map_nil, List.length_cons, List.length_nil, List.cons_append, List.nil_append, List.replicate, List.getElem?_cons_zero, List.getElem?_cons_succ, List.set_cons_zero, List.set_cons_succ, List.set, if_true, if_false, Bool.or_true, Bool.true_or, Bool.or_false, Bool.false_or, Bool.and_true, Bool.true_and, Bool.and_false, Bool.false_and, Bool.not_true, Bool.not_false, Option.map_some, Option.map_none, Option.bind_some, Option.bind_none, List.length_map, reduceIte, itemsL, itemsT, Option.map, Option.bind, Tg.bind, setN, List.append_nil, Nat.sub_zero, Nat.zero_add, ite_true, ite_false, Nat.zero_le, Nat.reduceAdd, Nat.reduceLeDiff, Nat.reduceSub, Nat.reduceMul, Nat.reduceEqDiff, Int.reduceLT, Int.reduceLE, Bool.false_eq_true, reduceCtorEq, and_true, true_and, and_self, s__law_same, h1, h2, h3, h4, dEq, decide_true]
      | _ => cases hf
    cases n with
    | zero => exact fl h
    | succ n =>
      rcases h with h | ⟨ds, hd, hz, hs⟩
      · exact fl h
      · have hk2 : n < k := by omega
        have fz := rf_frz (n + 1) d (.inr ⟨ds, hd, hz, hs⟩)
        have lc : lcGo (.one 2) yesB (e1__law_same (recF s__law_same 3 k)) [some d, some d, none] (rngD 0 ds.length) = some ((rngD 0 ds.length).map fun _ => .bl true) := by
          refine lcGo_map (fun _ => .bl true) _ fun x hx => ?_
          obtain ⟨i, hi, rfl⟩ := List.mem_map.mp hx
          have hi := List.mem_range.mp hi
          have ih := same_refl n ds[i] (hs _ (List.getElem_mem hi)) k hk2
          have fi := rf_frz n ds[i] (hs _ (List.getElem_mem hi))
          refine ⟨_, rfl, rfl, ?_⟩
          have h4 : L2.atI ds (0 + (i : Int)) = some ds[i] := by
            rw [Int.zero_add]; exact atI_nat' (List.getElem?_eq_getElem hi)
          rcases hd with rfl | rfl
          · have e : frzs ds = ds := by rw [frz_lst] at fz; exact (D.lst.inj fz).2
            simp only [runF, env0, endF, seqS, asgS, retS, ifS, nilS, brkS, cntS, drpS, mutS, forS, unpS, parS, keepM, frzM, gApp, op2, op1, vr, cI, cS, cB, cN, cT, De.get, Res.bind, lift, tst, toB, andB, orB, notB, andV, orV, notV, ifV, chn, consA, nilA, lstA, tupA, calA, fnA, strM, tgetA, lcA, itm, rngA, prtN, prtE, prtI, slA, dI, g1, g2, frz, frz_lst, frz_tup, frz_rol, frzs, frzs_ints, frzs_strs, frzs_app, frzs_len, af, af.afs, afs_ints, afs_strs, frzs_bls, dAll_map, dAny_map, all_tt, List.map_cons, List.map_nil, List.length_cons, List.length_nil, List.cons_append, List.nil_append, List.replicate, List.getElem?_cons_zero, List.getElem?_cons_succ, List.set_cons_zero, List.set_cons_succ, List.set, if_true, if_false, Bool.or_true, Bool.true_or, Bool.or_false, Bool.false_or, Bool.and_true, Bool.true_and, Bool.and_false, Bool.false_and, Bool.not_true, Bool.not_false, Option.map_some, Option.map_none, Option.bind_some, Option.bind_none, List.length_map, reduceIte, itemsL, itemsT, Option.map, Option.bind, Tg.bind, setN, List.append_nil, Nat.sub_zero, Nat.zero_add, ite_true, ite_false, Nat.zero_le, Nat.reduceAdd, Nat.reduceLeDiff, Nat.reduceSub, Nat.reduceMul, Nat.reduceEqDiff, Int.reduceLT, Int.reduceLE, Bool.false_eq_true, reduceCtorEq, and_true, true_and, and_self, e1__law_same, e, dIx, seqOf, h4, fi, ih]
          · have e : frzs ds = ds := by rw [frz_tup] at fz; exact D.tup.inj fz
            simp only [runF, env0, endF, seqS, asgS, retS, ifS, nilS, brkS, cntS, drpS, mutS, forS, unpS, parS, keepM, frzM, gApp, op2, op1, vr, cI, cS, cB, cN, cT, De.get, Res.bind, lift, tst, toB, andB, orB, notB, andV, orV, notV, ifV, chn, consA, nilA, lstA, tupA, calA, fnA, strM, tgetA, lcA, itm, rngA, prtN, prtE, prtI, slA, dI, g1, g2, frz, frz_lst, frz_tup, frz_rol, frzs, frzs_ints, frzs_strs, frzs_app, frzs_len, af, af.afs, afs_ints, afs_strs, frzs_bls, dAll_map, dAny_map, all_tt, List.map_cons, List.map_nil, List.length_cons, List.length_nil, List.cons_append, List.nil_append, List.replicate, List.getElem?_cons_zero, List.getElem?_cons_succ, List.set_cons_zero, List.set_cons_succ, List.set, if_true, if_false, Bool.or_true, Bool.true_or, Bool.or_false, Bool.false_or, Bool.and_true, Bool.true_and, Bool.and_false, Bool.false_and, Bool.not_true, Bool.not_false, Option.map_some, Option.map_none, Option.bind_some, Option.bind_none, List.length_map, reduceIte, itemsL, itemsT, Option.map, Option.bind, Tg.bind, setN, List.append_nil, Nat.sub_zero, Nat.zero_add, ite_true, ite_false, Nat.zero_le, Nat.reduceAdd, Nat.reduceLeDiff, Nat.reduceSub, Nat.reduceMul, Nat.reduceEqDiff, Int.reduceLT, Int.reduceLE, Bool.false_eq_true, reduceCtorEq, and_true, true_and, and_self, e1__law_same, e, dIx, seqOf, h4, fi, ih]
        have hj : (((ds.length : Nat) : Int) ≤ 16777216 ∧ -(2 ^ 62) ≤ ((ds.length : Nat) : Int)) = True := eq_true ⟨by omega, by omega⟩
        have ha : dAll (.lst false (frzs ((rngD 0 ds.length).map fun _ => D.bl true))) = some (.bl true) := by
          rw [frzs_bls, dAll_map]
          simp
        show runF (s__law_same (recF s__law_same 3 k)) 3 [d, d] = _
        rcases hd with rfl | rfl
        · have e : frzs ds = ds := by rw [frz_lst] at fz; exact (D.lst.inj fz).2
          have h1 : dIsN (.lst false ds) .non = some (.bl false) := rfl
          have h2 : dIsi (.lst false ds) (.ty "bool") = some (.bl false) := rfl
          have h3 : dIsi (.lst false ds) (.ty "int") = some (.bl false) := rfl
          have h4 : dIsi (.lst false ds) (.ty "str") = some (.bl false) := rfl
          have h5 : dIsi (.lst false ds) (.ty "tuple") = some (.bl false) := rfl
          have h6 : dIsi (.lst false ds) (.ty "list") = some (.bl true) := rfl
          simp only [runF, env0, endF, seqS, asgS, retS, ifS, nilS, brkS, cntS, drpS, mutS, forS, unpS, parS, keepM, frzM, gApp, op2, op1, vr, cI, cS, cB, cN, cT, De.get, Res.bind, lift, tst, toB, andB, orB, notB, andV, orV, notV, ifV, chn, consA, nilA, lstA, tupA, calA, fnA, strM, tgetA, lcA, itm, rngA, prtN, prtE, prtI, slA, dI, g1, g2, frz, frz_lst, frz_tup, frz_rol, frzs, frzs_ints, frzs_strs, frzs_app, frzs_len, af, af.afs, afs_ints, afs_strs, frzs_bls, dAll_map, dAny_map, all_tt, List.map_cons, List.map_nil, List.length_cons, List.length_nil, List.cons_append, List.nil_append, List.replicate, List.getElem?_cons_zero, List.getElem?_cons_succ, List.set_cons_zero, List.set_cons_succ, List.set, if_true, if_false, Bool.or_true, Bool.true_or, Bool.or_false, Bool.false_or, Bool.and_true, Bool.true_and, Bool.and_false, Bool.false_and, Bool.not_true, Bool.not_false, Option.map_some, Option.map_none, Option.bind_some, Option.bind_none, List.length_map, reduceIte, itemsL, itemsT, Option.map, Option.bind, Tg.bind, setN, List.append_nil, Nat.sub_zero, Nat.zero_add, ite_true, ite_false, Nat.zero_le, Nat.reduceAdd, Nat.reduceLeDiff, Nat.reduceSub, Nat.reduceMul, Nat.reduceEqDiff, Int.reduceLT, Int.reduceLE, Bool.false_eq_true, reduceCtorEq, and_true, true_and, and_self, s__law_same, h1, h2, h3, h4, h5, h6, e, dLen, dEq, decide_true, hj, Int.toNat_natCast, lc, ha]
        · have e : frzs ds = ds := by rw [frz_tup] at fz; exact D.tup.inj fz
          have h1 : dIsN (.tup ds) .non = some (.bl false) := rfl
          have h2 : dIsi (.tup ds) (.ty "bool") = some (.bl false) := rfl
          have h3 : dIsi (.tup ds) (.ty "int") = some (.bl false) := rfl
          have h4 : dIsi (.tup ds) (.ty "str") = some (.bl false) := rfl
          have h5 : dIsi (.tup ds) (.ty "tuple") = some (.bl true) := rfl
          have h6 : dIsi (.tup ds) (.ty "list") = some (.bl false) := rfl
          simp only [runF, env0, endF, seqS, asgS, retS, ifS, nilS, brkS, cntS, drpS, mutS, forS, unpS, parS, keepM, frzM, gApp, op2, op1, vr, cI, cS, cB, cN, cT, De.get, Res.bind, lift, tst, toB, andB, orB, notB, andV, orV, notV, ifV, chn, consA, nilA, lstA, tupA, calA, fnA, strM, tgetA, lcA, itm, rngA, prtN, prtE, prtI, slA, dI, g1, g2, frz, frz_lst, frz_tup, frz_rol, frzs, frzs_ints, frzs_strs, frzs_app, frzs_len, af, af.afs, afs_ints, afs_strs, frzs_bls, dAll_map, dAny_map, all_tt, List.map_cons, List.map_nil, List.length_cons, List.length_nil, List.cons_append, List.nil_append, List.replicate, List.getElem?_cons_zero, List.getElem?_cons_succ, List.set_cons_zero, List.set_cons_succ, List.set, if_true, if_false, Bool.or_true, Bool.true_or, Bool.or_false, Bool.false_or, Bool.and_true, Bool.true_and, Bool.and_false, Bool.false_and, Bool.not_true, Bool.not_false, Option.map_some, Option.map_none, Option.bind_some, Option.bind_none, List.length_map, reduceIte, itemsL, itemsT, Option.map, Option.bind, Tg.bind, setN, List.append_nil, Nat.sub_zero, Nat.zero_add, ite_true, ite_false, Nat.zero_le, Nat.reduceAdd, Nat.reduceLeDiff, Nat.reduceSub, Nat.reduceMul, Nat.reduceEqDiff, Int.reduceLT, Int.reduceLE, Bool.false_eq_true, reduceCtorEq, and_true, true_and, and_self, s__law_same, h1, h2, h3, h4, h5, h6, e, dLen, dEq, decide_true, hj, Int.toNat_natCast, lc, ha]
theorem same_ok {d : D} (h : rf 7 d) : F__law_same [d, d] = .ok (.bl true) := same_refl 7 d h 8 (by decide)
end Cm
set_option Elab.async false
set_option linter.all false
set_option maxRecDepth 100000
namespace K08
open PySem PySem.Spec PyProof.Rows L2 De Cm Gr

/-! ### pairs, some more of them -/
def growS : De.Env → Out := (ifS (andB (tst (op2 dEq (op2 dMod (vr 1) (cI 2)) (cI 1))) (tst (op2 dNe (vr 3) (lstA nilA)))) (asgS [1, 3] 3 (op2 dAdd (op2 dAdd (vr 3) (op2 dMul (lstA (consA (op1 dRevP (op2 dIx (vr 3) (op2 dFdv (calA (g1 dLen) (consA (vr 3) nilA)) (cI 2)))) nilA)) (op2 dFdv (vr 1) (cI 2)))) (op2 dMul (lstA (consA (tupA (consA (op2 dIx (op2 dIx (vr 3) (op1 dNeg (cI 1))) (cI 1)) (consA (op2 dIx (op2 dIx (vr 3) (cI 0)) (cI 0)) nilA))) nilA)) (op2 dFdv (vr 1) (cI 2))))) nilS)
theorem mul_1 (d : D) : dMul (.lst false [d]) (.int 1) = some (.lst true [d]) := by rfl
theorem mul_0 (d : D) : dMul (.lst false [d]) (.int 0) = some (.lst true []) := by rfl
theorem ixT0 (u v : Int) : dIx (.tup [.int u, .int v]) (.int 0) = some (.int u) := rfl
theorem ixT1 (u v : Int) : dIx (.tup [.int u, .int v]) (.int 1) = some (.int v) := rfl
theorem add_ps (p q : Ps) (h : p.length + q.length ≤ 1000) : dAdd (.lst false (psD p)) (.lst false (psD q)) = some (.lst true (psD (p ++ q))) := by
  have hz : szOk ((psD p).length + (psD q).length) = true := szOk_of (by rw [List.length_map, List.length_map]; omega)
  simp only [dAdd, hz, if_true]
  show some (D.lst true (p.map pD ++ q.map pD)) = some (D.lst true ((p ++ q).map pD))
  rw [List.map_append]
theorem ne_nil (ps : Ps) : dNe (.lst false (psD ps)) (.lst false []) = some (.bl (!decide (ps = []))) := by
  show ((dEqO (.lst false (psD ps)) (.lst false [])).map notD) = _
  unfold dEqO
  rw [show lv 20 (.lst false (psD ps)) = true from lvs_ps 18 ps]
  cases ps with
  | nil => rfl
  | cons p ps => rfl
theorem eqv_ps : ∀ ps : Ps, PyData.eqvAll (toPs (psD ps)) (toPs (psD ps)) = true
  | [] => rfl
  | p :: ps => by
    show (PyData.eqv (toP (pD p)) (toP (pD p)) && PyData.eqvAll (toPs (psD ps)) (toPs (psD ps))) = true
    rw [eqv_ps ps, show PyData.eqv (toP (pD p)) (toP (pD p)) = decide (p = p) from eqD_pair p p, decide_eq_true rfl]; rfl
theorem dNe_ps (ps : Ps) : dNe (.lst false (psD ps)) (.lst false (psD ps)) = some (.bl false) := by
  show ((dEqO (.lst false (psD ps)) (.lst false (psD ps))).map notD) = _
  unfold dEqO
  rw [show lv 20 (.lst false (psD ps)) = true from lvs_ps 18 ps]
  show Option.map notD (some (D.bl (PyData.eqvAll (toPs (psD ps)) (toPs (psD ps))))) = _
  rw [eqv_ps]; rfl
abbrev gE (N : List D) (k n : Int) (b : Bool) (P : List D) (x4 x5 x6 x7 x8 : Option D) : De.Env := [some (.rol N), some (.int k), some (.int n), some (.lst b P), x4, x5, x6, x7, x8]
theorem grow_even {N P : List D} {k n : Int} {b : Bool} {x4 x5 x6 x7 x8 : Option D} (h : ¬ k % 2 = 1) : growS (gE N k n b P x4 x5 x6 x7 x8) = .nx (gE N k n b P x4 x5 x6 x7 x8) := by
  have p2 : (0 : Int) < 2 := by decide
  simp only [runF, env0, endF, seqS, asgS, retS, ifS, nilS, brkS, cntS, drpS, mutS, forS, unpS, parS, keepM, frzM, gApp, op2, op1, vr, cI, cS, cB, cN, cT, De.get, Res.bind, lift, tst, toB, andB, orB, notB, andV, orV, notV, ifV, chn, consA, nilA, lstA, tupA, calA, fnA, strM, tgetA, lcA, itm, rngA, prtN, prtE, prtI, slA, dI, g1, g2, frz, frz_lst, frz_tup, frz_rol, frzs, frzs_ints, frzs_strs, frzs_app, frzs_len, af, af.afs, afs_ints, afs_strs, frzs_bls, dAll_map, dAny_map, all_tt, List.map_cons, List.map_nil, List.length_cons, List.length_nil, List.cons_append, List.nil_append, List.replicate, List.getElem?_cons_zero, List.getElem?_cons_succ, List.set_cons_zero, List.set_cons_succ, List.set, if_true, if_false, Bool.or_true, Bool.true_or, Bool.or_false, Bool.false_or, Bool.and_true, Bool.true_and, Bool.and_false, Bool.false_and, Bool.not_true, Bool.not_false, Option.map_some, Option.map_none, Option.bind_some, Option.bind_none, List.length_map, reduceIte, itemsL, itemsT, Option.map, Option.bind, Tg.bind, setN, List.append_nil, Nat.sub_zero, Nat.zero_add, ite_true, ite_false, Nat.zero_le, Nat.reduceAdd, Nat.reduceLeDiff, Nat.reduceSub, Nat.reduceMul, Nat.reduceEqDiff, Int.reduceLT, Int.reduceLE, Bool.false_eq_true, reduceCtorEq, and_true, true_and, and_self, growS, dMod, p2, dEq, h, decide_false]
theorem grow_nil {N P : List D} {k n : Int} {b : Bool} {x4 x5 x6 x7 x8 : Option D} (h : k % 2 = 1) (hP : frzs P = P) (e : dNe (.lst false P) (.lst false []) = some (.bl false)) : growS (gE N k n b P x4 x5 x6 x7 x8) = .nx (gE N k n b P x4 x5 x6 x7 x8) := by
  have p2 : (0 : Int) < 2 := by decide
  simp only [runF, env0, endF, seqS, asgS, retS, ifS, nilS, brkS, cntS, drpS, mutS, forS, unpS, parS, keepM, frzM, gApp, op2, op1, vr, cI, cS, cB, cN, cT, De.get, Res.bind, lift, tst, toB, andB, orB, notB, andV, orV, notV, ifV, chn, consA, nilA, lstA, tupA, calA, fnA, strM, tgetA, lcA, itm, rngA, prtN, prtE, prtI, slA, dI, g1, g2, frz, frz_lst, frz_tup, frz_rol, frzs, frzs_ints, frzs_strs, frzs_app, frzs_len, af, af.afs, afs_ints, afs_strs, frzs_bls, dAll_map, dAny_map, all_tt, List.map_cons, List.map_nil, List.length_cons, List.length_nil, List.cons_append, List.nil_append, List.replicate, List.getElem?_cons_zero, List.getElem?_cons_succ, List.set_cons_zero, List.set_cons_succ, List.set, if_true, if_false, Bool.or_true, Bool.true_or, Bool.or_false, Bool.false_or, Bool.and_true, Bool.true_and, Bool.and_false, Bool.false_and, Bool.not_true, Bool.not_false, Option.map_some, Option.map_none, Option.bind_some, Option.bind_none, List.length_map, reduceIte, itemsL, itemsT, Option.map, Option.bind, Tg.bind, setN, List.append_nil, Nat.sub_zero, Nat.zero_add, ite_true, ite_false, Nat.zero_le, Nat.reduceAdd, Nat.reduceLeDiff, Nat.reduceSub, Nat.reduceMul, Nat.reduceEqDiff, Int.reduceLT, Int.reduceLE, Bool.false_eq_true, reduceCtorEq, and_true, true_and, and_self, growS, dMod, p2, dEq, h, decide_true, hP, e]
theorem grow_more {N P P1 P2 R S : List D} {k n q l u v c d e f : Int} {b : Bool} {x4 x5 x6 x7 x8 : Option D} (h : k % 2 = 1) (hk : k / 2 = q) (hP : frzs P = P) (ne : dNe (.lst false P) (.lst false []) = some (.bl true)) (hl : (P.length : Int) / 2 = l) (h1 : dIx (.lst false P) (.int l) = some (.tup [.int u, .int v])) (h2 : dIx (.lst false P) (.int (-1)) = some (.tup [.int c, .int d])) (h3 : dIx (.lst false P) (.int 0) = some (.tup [.int e, .int f]))
    (t1 : dIx (.tup [.int c, .int d]) (.int 1) = some (.int d)) (t0 : dIx (.tup [.int e, .int f]) (.int 0) = some (.int e)) (m1 : dMul (.lst false [.tup [.int v, .int u]]) (.int q) = some (.lst true R)) (m2 : dMul (.lst false [.tup [.int d, .int e]]) (.int q) = some (.lst true S)) (fR : frzs R = R) (fS : frzs S = S) (a1 : dAdd (.lst false P) (.lst false R) = some (.lst true P1)) (f1 : frzs P1 = P1) (a2 : dAdd (.lst false P1) (.lst false S) = some (.lst true P2)) (g2 : af.afs P2 = true) :
    growS (gE N k n b P x4 x5 x6 x7 x8) = .nx (gE N k n true P2 x4 x5 x6 x7 x8) := by
  have p2 : (0 : Int) < 2 := by decide
  have p3 : (0 : Int) < 2 ∧ (2 : Int) < 1073741824 := by decide
  simp only [runF, env0, endF, seqS, asgS, retS, ifS, nilS, brkS, cntS, drpS, mutS, forS, unpS, parS, keepM, frzM, gApp, op2, op1, vr, cI, cS, cB, cN, cT, De.get, Res.bind, lift, tst, toB, andB, orB, notB, andV, orV, notV, ifV, chn, consA, nilA, lstA, tupA, calA, fnA, strM, tgetA, lcA, itm, rngA, prtN, prtE, prtI, slA, dI, g1, g2, frz, frz_lst, frz_tup, frz_rol, frzs, frzs_ints, frzs_strs, frzs_app, frzs_len, af, af.afs, afs_ints, afs_strs, frzs_bls, dAll_map, dAny_map, all_tt, List.map_cons, List.map_nil, List.length_cons, List.length_nil, List.cons_append, List.nil_append, List.replicate, List.getElem?_cons_zero, List.getElem?_cons_succ, List.set_cons_zero, List.set_cons_succ, List.set, if_true, if_false, Bool.or_true, Bool.true_or, Bool.or_false, Bool.false_or, Bool.and_true, Bool.true_and, Bool.and_false, Bool.false_and, Bool.not_true, Bool.not_false, Option.map_some, Option.map_none, Option.bind_some, Option.bind_none, List.length_map, reduceIte, itemsL, itemsT, Option.map, Option.bind, Tg.bind, setN, List.append_nil, Nat.sub_zero, Nat.zero_add, ite_true, ite_false, Nat.zero_le, Nat.reduceAdd, Nat.reduceLeDiff, Nat.reduceSub, Nat.reduceMul, Nat.reduceEqDiff, Int.reduceLT, Int.reduceLE, Bool.false_eq_true, reduceCtorEq, and_true, true_and, and_self, growS, dMod, p2, dEq, h, decide_true, hP, ne, dLen, dFdv, p3, and_self, hl, h1, dRevP, hk, m1, fR, a1, f1, dNeg, h2, h3, t1, t0, m2, fS, a2, g2]
theorem grow_ok {n : Nat} {ps : Ps} (G : Cm.Good n ps) (h16 : ps.length ≤ 16) {k : Nat} (hk : k < 4) {N : List D} {b : Bool} {x4 x5 x6 x7 x8 : Option D} : ∃ (b' : Bool) (qs : Ps), growS (gE N (k : Int) (n : Int) b (psD ps) x4 x5 x6 x7 x8) = .nx (gE N (k : Int) (n : Int) b' (psD qs) x4 x5 x6 x7 x8) ∧ Rng n qs ∧ qs.length ≤ 18 := by
  by_cases h : ((k : Int) % 2 = 1)
  · by_cases e : ps = []
    · exact ⟨b, ps, grow_nil h (frzs_ps ps) (by rw [ne_nil, decide_eq_true e]; rfl), G.rng, by omega⟩
    · have hne : dNe (.lst false (psD ps)) (.lst false []) = some (.bl true) := by rw [ne_nil, decide_eq_false e]; rfl
      have hlen : 0 < ps.length := List.length_pos_iff.mpr e
      obtain ⟨z, l, hz⟩ : ∃ z l, ps = z ++ [l] := ⟨_, _, (List.dropLast_concat_getLast e).symm⟩
      have hmid : ps.length / 2 < ps.length := by omega
      have i1 : dIx (.lst false (psD ps)) (.int ((ps.length / 2 : Nat) : Int)) = some (pD ps[ps.length / 2]) := atI_nat' (by rw [List.getElem?_map, List.getElem?_eq_getElem hmid]; rfl)
      have i2 : dIx (.lst false (psD ps)) (.int (-1)) = some (pD l) := by
        rw [hz]
        show L2.atI ((z ++ [l]).map pD) (-1) = _
        rw [List.map_append]
        exact atI_last
      have i3 : dIx (.lst false (psD ps)) (.int ((0 : Nat) : Int)) = some (pD ps[0]) := atI_nat' (by rw [List.getElem?_map, List.getElem?_eq_getElem hlen]; rfl)
      have r1 := G.rng _ (List.getElem_mem hmid)
      have r2 := G.rng l (by rw [hz]; simp)
      have r3 := G.rng _ (List.getElem_mem hlen)
      have c : k = 1 ∨ k = 3 := by omega
      rcases c with rfl | rfl
      · have a1 := add_ps ps [] (by simp; omega)
        rw [List.append_nil] at a1
        exact ⟨true, ps, grow_more (q := 0) (P1 := psD ps) (P2 := psD ps) h rfl (frzs_ps ps) hne (by rw [List.length_map]; omega) i1 i2 i3 (ixT1 _ _) (ixT0 _ _) (mul_0 _) (mul_0 _) rfl rfl a1 (frzs_ps _) a1 (afs_ps _), G.rng, by omega⟩
      · have a1 := add_ps ps [((ps[ps.length / 2]).2, (ps[ps.length / 2]).1)] (by rw [List.length_singleton]; omega)
        have a2 := add_ps (ps ++ [((ps[ps.length / 2]).2, (ps[ps.length / 2]).1)]) [(l.2, (ps[0]).1)] (by rw [List.length_append, List.length_singleton, List.length_singleton]; omega)
        refine ⟨true, _, grow_more (q := 1) h rfl (frzs_ps ps) hne (by rw [List.length_map]; omega) i1 i2 i3 (ixT1 _ _) (ixT0 _ _) (mul_1 _) (mul_1 _) rfl rfl a1 (frzs_ps _) a2 (afs_ps _), fun p hp => ?_, by rw [List.length_append, List.length_append, List.length_singleton, List.length_singleton]; omega⟩
        rcases List.mem_append.mp hp with hp | hp
        · rcases List.mem_append.mp hp with hp | hp
          · exact G.rng p hp
          · rw [List.mem_singleton.mp hp]; exact ⟨r1.2.2.1, r1.2.2.2, r1.1, r1.2.1⟩
        · rw [List.mem_singleton.mp hp]; exact ⟨r2.2.2.1, r2.2.2.2, r3.1, r3.2.1⟩
  · exact ⟨b, ps, grow_even h, G.rng, by omega⟩
/-! ### the unlike ones -/
theorem un_bit {p : Int × Int} {x0 x1 x2 x3 x4 x5 x6 x7 : Option D} : t3_law [x0, x1, x2, x3, x4, x5, x6, x7, some (pD p)] = .ok (!decide (p.1 = p.2)) := by
  obtain ⟨u, v⟩ := p
  have t0 := ixT0 u v
  have t1 := ixT1 u v
  have e : dNe (.int u) (.int v) = some (.bl (!decide (u = v))) := rfl
  show t3_law [x0, x1, x2, x3, x4, x5, x6, x7, some (.tup [.int u, .int v])] = _
  simp only [runF, env0, endF, seqS, asgS, retS, ifS, nilS, brkS, cntS, drpS, mutS, forS, unpS, parS, keepM, frzM, gApp, op2, op1, vr, cI, cS, cB, cN, cT, De.get, Res.bind, lift, tst, toB, andB, orB, notB, andV, orV, notV, ifV, chn, consA, nilA, lstA, tupA, calA, fnA, strM, tgetA, lcA, itm, rngA, prtN, prtE, prtI, slA, dI, g1, g2, frz, frz_lst, frz_tup, frz_rol, frzs, frzs_ints, frzs_strs, frzs_app, frzs_len, af, af.afs, afs_ints, afs_strs, frzs_bls, dAll_map, dAny_map, all_tt, List.map_cons, List.map_nil, List.length_cons, List.length_nil, List.cons_append, List.nil_append, List.replicate, List.getElem?_cons_zero, List.getElem?_cons_succ, List.set_cons_zero, List.set_cons_succ, List.set, if_true, if_false, Bool.or_true, Bool.true_or, Bool.or_false, Bool.false_or, Bool.and_true, Bool.true_and, Bool.and_false, Bool.false_and, Bool.not_true, Bool.not_false, Option.map_some, Option.map_none, Option.bind_some, Option.bind_none, List.length_map, reduceIte, itemsL, itemsT, Option.map, Option.bind, Tg.bind, setN, List.append_nil, Nat.sub_zero, Nat.zero_add, ite_true, ite_false, Nat.zero_le, Nat.reduceAdd, Nat.reduceLeDiff, Nat.reduceSub, Nat.reduceMul, Nat.reduceEqDiff, Int.reduceLT, Int.reduceLE, Bool.false_eq_true, reduceCtorEq, and_true, true_and, and_self, t3_law, t0, t1, e]
theorem un_ok {ps : Ps} {N : List D} {k n : Int} {b : Bool} {x4 x5 x6 x7 : Option D} : asgS [3] 3 (lcA (itm itD (vr 3)) (.one 8) t3_law e2_law) (gE N k n b (psD ps) x4 x5 x6 x7 none) = .nx (gE N k n true (psD (ps.filter fun p => !decide (p.1 = p.2))) x4 x5 x6 x7 none) := by
  have lc : lcGo (.one 8) t3_law e2_law (gE N k n b (psD ps) x4 x5 x6 x7 none) (psD ps) = some (psD (ps.filter fun p => !decide (p.1 = p.2))) := by
    refine lcGo_fm pD (fun p => !decide (p.1 = p.2)) pD ps fun p hp => ?_
    exact ⟨gE N k n b (psD ps) x4 x5 x6 x7 (some (pD p)), rfl, un_bit, fun _ => rfl⟩
  have key : ∀ {P Q : List D} (hP : frzs P = P) (aQ : af.afs Q = true) (lc : lcGo (.one 8) t3_law e2_law (gE N k n b P x4 x5 x6 x7 none) P = some Q), asgS [3] 3 (lcA (itm itD (vr 3)) (.one 8) t3_law e2_law) (gE N k n b P x4 x5 x6 x7 none) = .nx (gE N k n true Q x4 x5 x6 x7 none) := by
    intro P Q hP aQ lc
    unfold gE at lc ⊢
    simp only [runF, env0, endF, seqS, asgS, retS, ifS, nilS, brkS, cntS, drpS, mutS, forS, unpS, parS, keepM, frzM, gApp, op2, op1, vr, cI, cS, cB, cN, cT, De.get, Res.bind, lift, tst, toB, andB, orB, notB, andV, orV, notV, ifV, chn, consA, nilA, lstA, tupA, calA, fnA, strM, tgetA, lcA, itm, rngA, prtN, prtE, prtI, slA, dI, g1, g2, frz, frz_lst, frz_tup, frz_rol, frzs, frzs_ints, frzs_strs, frzs_app, frzs_len, af, af.afs, afs_ints, afs_strs, frzs_bls, dAll_map, dAny_map, all_tt, List.map_cons, List.map_nil, List.length_cons, List.length_nil, List.cons_append, List.nil_append, List.replicate, List.getElem?_cons_zero, List.getElem?_cons_succ, List.set_cons_zero, List.set_cons_succ, List.set, if_true, if_false, Bool.or_true, Bool.true_or, Bool.or_false, Bool.false_or, Bool.and_true, Bool.true_and, Bool.and_false, Bool.false_and, Bool.not_true, Bool.not_false, Option.map_some, Option.map_none, Option.bind_some, Option.bind_none, List.length_map, reduceIte, itemsL, itemsT, Option.map, Option.bind, Tg.bind, setN, List.append_nil, Nat.sub_zero, Nat.zero_add, ite_true, ite_false, Nat.zero_le, Nat.reduceAdd, Nat.reduceLeDiff, Nat.reduceSub, Nat.reduceMul, Nat.reduceEqDiff, Int.reduceLT, Int.reduceLE, Bool.false_eq_true, reduceCtorEq, and_true, true_and, and_self, itD, hP, lc, aQ]
  exact key (frzs_ps ps) (afs_ps _) lc
theorem Good.un {n : Nat} {ps : Ps} (n1 : 1 ≤ n) (n9 : n ≤ 9) (R : Rng n ps) (h : ps.length ≤ 18) : Cm.Good n (ps.filter fun p => !decide (p.1 = p.2)) where
  n1 := n1
  n9 := n9
  ok := fun p hp => by
    obtain ⟨h1, h2⟩ := List.mem_filter.mp hp
    obtain ⟨a, b, c, d⟩ := R p h1
    exact ⟨a, b, c, d, fun e => by rw [decide_eq_true e] at h2; cases h2⟩
  few := by have := List.length_filter_le (fun p : Int × Int => !decide (p.1 = p.2)) ps; omega
/-! ### asked twice -/
theorem ask_none {N P : List D} {k n : Int} {x6 x7 x8 : Option D} (hP : frzs P = P) (hr : F_ring [.int n, .lst false P] = .ok .non) (hs : F__law_same [.non, .non] = .ok (.bl true)) (hne : dNe (.lst false P) (.lst false P) = some (.bl false)) :
    b1_law (gE N k n true P (some (.lst true P)) (some .non) x6 x7 x8) = .nx (gE N k n true P (some (.lst true P)) (some .non) x6 (some .non) x8) := by
  simp only [runF, env0, endF, seqS, asgS, retS, ifS, nilS, brkS, cntS, drpS, mutS, forS, unpS, parS, keepM, frzM, gApp, op2, op1, vr, cI, cS, cB, cN, cT, De.get, Res.bind, lift, tst, toB, andB, orB, notB, andV, orV, notV, ifV, chn, consA, nilA, lstA, tupA, calA, fnA, strM, tgetA, lcA, itm, rngA, prtN, prtE, prtI, slA, dI, g1, g2, frz, frz_lst, frz_tup, frz_rol, frzs, frzs_ints, frzs_strs, frzs_app, frzs_len, af, af.afs, afs_ints, afs_strs, frzs_bls, dAll_map, dAny_map, all_tt, List.map_cons, List.map_nil, List.length_cons, List.length_nil, List.cons_append, List.nil_append, List.replicate, List.getElem?_cons_zero, List.getElem?_cons_succ, List.set_cons_zero, List.set_cons_succ, List.set, if_true, if_false, Bool.or_true, Bool.true_or, Bool.or_false, Bool.false_or, Bool.and_true, Bool.true_and, Bool.and_false, Bool.false_and, Bool.not_true, Bool.not_false, Option.map_some, Option.map_none, Option.bind_some, Option.bind_none, List.length_map, reduceIte, itemsL, itemsT, Option.map, Option.bind, Tg.bind, setN, List.append_nil, Nat.sub_zero, Nat.zero_add, ite_true, ite_false, Nat.zero_le, Nat.reduceAdd, Nat.reduceLeDiff, Nat.reduceSub, Nat.reduceMul, Nat.reduceEqDiff, Int.reduceLT, Int.reduceLE, Bool.false_eq_true, reduceCtorEq, and_true, true_and, and_self, b1_law, hP, hr, hs, hne, dNotN, De.isNon]
theorem ask_some {N P R : List D} {k n : Int} {x6 x7 x8 : Option D} (hP : frzs P = P) (hR : frzs R = R) (aR : af.afs R = true) (hr : F_ring [.int n, .lst false P] = .ok (.lst true R)) (hs : F__law_same [.lst false R, .lst false R] = .ok (.bl true)) (hne : dNe (.lst false P) (.lst false P) = some (.bl false)) (hl : R.length < 16777216) :
    b1_law (gE N k n true P (some (.lst true P)) (some (.lst true R)) x6 x7 x8) = .nx (gE N k n true P (some (.lst true P)) (some (.lst true R)) x6 (some (.lst true (R ++ [.int 0]))) x8) := by
  simp only [runF, env0, endF, seqS, asgS, retS, ifS, nilS, brkS, cntS, drpS, mutS, forS, unpS, parS, keepM, frzM, gApp, op2, op1, vr, cI, cS, cB, cN, cT, De.get, Res.bind, lift, tst, toB, andB, orB, notB, andV, orV, notV, ifV, chn, consA, nilA, lstA, tupA, calA, fnA, strM, tgetA, lcA, itm, rngA, prtN, prtE, prtI, slA, dI, g1, g2, frz, frz_lst, frz_tup, frz_rol, frzs, frzs_ints, frzs_strs, frzs_app, frzs_len, af, af.afs, afs_ints, afs_strs, frzs_bls, dAll_map, dAny_map, all_tt, List.map_cons, List.map_nil, List.length_cons, List.length_nil, List.cons_append, List.nil_append, List.replicate, List.getElem?_cons_zero, List.getElem?_cons_succ, List.set_cons_zero, List.set_cons_succ, List.set, if_true, if_false, Bool.or_true, Bool.true_or, Bool.or_false, Bool.false_or, Bool.and_true, Bool.true_and, Bool.and_false, Bool.false_and, Bool.not_true, Bool.not_false, Option.map_some, Option.map_none, Option.bind_some, Option.bind_none, List.length_map, reduceIte, itemsL, itemsT, Option.map, Option.bind, Tg.bind, setN, List.append_nil, Nat.sub_zero, Nat.zero_add, ite_true, ite_false, Nat.zero_le, Nat.reduceAdd, Nat.reduceLeDiff, Nat.reduceSub, Nat.reduceMul, Nat.reduceEqDiff, Int.reduceLT, Int.reduceLE, Bool.false_eq_true, reduceCtorEq, and_true, true_and, and_self, b1_law, hP, hR, aR, hr, hs, hne, dNotN, De.isNon, keepM, hl]
theorem ring_ok {n : Nat} {ps : Ps} (G : Cm.Good n ps) {d : D} (e : F_ring_in [.int n, .lst false (psD ps)] = .ok d) : F_ring [.int n, .lst false (psD ps)] = .ok d := by
  have key : ∀ {P : List D} {n : Int} (hP : frzs P = P) (h1 : F_look_pairs [.int n, .lst false P] = .ok .non) (h2 : F_ring_in [.int n, .lst false P] = .ok d), F_ring [.int n, .lst false P] = .ok d := by
    intro P n hP h1 h2
    simp only [runF, env0, endF, seqS, asgS, retS, ifS, nilS, brkS, cntS, drpS, mutS, forS, unpS, parS, keepM, frzM, gApp, op2, op1, vr, cI, cS, cB, cN, cT, De.get, Res.bind, lift, tst, toB, andB, orB, notB, andV, orV, notV, ifV, chn, consA, nilA, lstA, tupA, calA, fnA, strM, tgetA, lcA, itm, rngA, prtN, prtE, prtI, slA, dI, g1, g2, frz, frz_lst, frz_tup, frz_rol, frzs, frzs_ints, frzs_strs, frzs_app, frzs_len, af, af.afs, afs_ints, afs_strs, frzs_bls, dAll_map, dAny_map, all_tt, List.map_cons, List.map_nil, List.length_cons, List.length_nil, List.cons_append, List.nil_append, List.replicate, List.getElem?_cons_zero, List.getElem?_cons_succ, List.set_cons_zero, List.set_cons_succ, List.set, if_true, if_false, Bool.or_true, Bool.true_or, Bool.or_false, Bool.false_or, Bool.and_true, Bool.true_and, Bool.and_false, Bool.false_and, Bool.not_true, Bool.not_false, Option.map_some, Option.map_none, Option.bind_some, Option.bind_none, List.length_map, reduceIte, itemsL, itemsT, Option.map, Option.bind, Tg.bind, setN, List.append_nil, Nat.sub_zero, Nat.zero_add, ite_true, ite_false, Nat.zero_le, Nat.reduceAdd, Nat.reduceLeDiff, Nat.reduceSub, Nat.reduceMul, Nat.reduceEqDiff, Int.reduceLT, Int.reduceLE, Bool.false_eq_true, reduceCtorEq, and_true, true_and, and_self, F_ring, s_ring, hP, h1, h2]
  exact key (frzs_ps ps) (look_pairs_ok G) e
theorem twice {N P : List D} {k n : Int} {d : D} {x7 x8 : Option D} {x6 : Option D} (st : ∀ x6 x7, ∃ x7', b1_law (gE N k n true P (some (.lst true P)) (some d) x6 x7 x8) = .nx (gE N k n true P (some (.lst true P)) (some d) x6 x7' x8)) : ∃ x6' x7', forS [] (rngA (consA (cI 2) nilA)) (.one 6) b1_law (gE N k n true P (some (.lst true P)) (some d) x6 x7 x8) = .nx (gE N k n true P (some (.lst true P)) (some d) x6' x7' x8) := by
  obtain ⟨ρ', e, y6, y7, rfl⟩ := forGo_rng (tg := .one 6) (body := b1_law) (ρ := gE N k n true P (some (.lst true P)) (some d) x6 x7 x8) (fun _ ρ => ∃ x6 x7, ρ = gE N k n true P (some (.lst true P)) (some d) x6 x7 x8) 2 ⟨_, _, rfl⟩ fun t ρ ht ⟨x6, x7, hρ⟩ => by
    subst hρ
    obtain ⟨x7', e⟩ := st (some (.int (t : Int))) x7
    exact ⟨_, _, rfl, .inl e, _, _, rfl⟩
  exact ⟨y6, y7, for_end (n := 2) (by decide) rfl rfl e⟩
theorem seq_nx {s t : De.Env → Out} {ρ ρ' : De.Env} (h : s ρ = .nx ρ') : seqS s t ρ = t ρ' := by unfold seqS; rw [h]
theorem first_ok {N ds : List D} {k c m : Int} {x2 x3 x4 x5 x6 x7 x8 : Option D} (hN : frzs N = N) (hD : frzs ds = ds) (hc : F__law_cell [.rol N, .int (2 * k)] = .ok (.int c)) (hd : F__law_draw [.int c, .lst false [.int 9]] = .ok (.lst false ds)) (h0 : dIx (.lst false ds) (.int 0) = some (.int m)) :
    asgS [0, 1] 2 (op2 dAdd (cI 1) (op2 dIx (fnA F__law_draw [] (consA (fnA F__law_cell [] (consA (vr 0) (consA (op2 dMul (cI 2) (vr 1)) nilA))) (consA (lstA (consA (cI 9) nilA)) nilA))) (cI 0))) [some (.rol N), some (.int k), x2, x3, x4, x5, x6, x7, x8] = .nx [some (.rol N), some (.int k), some (.int (1 + m)), x3, x4, x5, x6, x7, x8] := by
  have s2 : De.small64 2 = true := by decide
  simp only [runF, env0, endF, seqS, asgS, retS, ifS, nilS, brkS, cntS, drpS, mutS, forS, unpS, parS, keepM, frzM, gApp, op2, op1, vr, cI, cS, cB, cN, cT, De.get, Res.bind, lift, tst, toB, andB, orB, notB, andV, orV, notV, ifV, chn, consA, nilA, lstA, tupA, calA, fnA, strM, tgetA, lcA, itm, rngA, prtN, prtE, prtI, slA, dI, g1, g2, frz, frz_lst, frz_tup, frz_rol, frzs, frzs_ints, frzs_strs, frzs_app, frzs_len, af, af.afs, afs_ints, afs_strs, frzs_bls, dAll_map, dAny_map, all_tt, List.map_cons, List.map_nil, List.length_cons, List.length_nil, List.cons_append, List.nil_append, List.replicate, List.getElem?_cons_zero, List.getElem?_cons_succ, List.set_cons_zero, List.set_cons_succ, List.set, if_true, if_false, Bool.or_true, Bool.true_or, Bool.or_false, Bool.false_or, Bool.and_true, Bool.true_and, Bool.and_false, Bool.false_and, Bool.not_true, Bool.not_false, Option.map_some, Option.map_none, Option.bind_some, Option.bind_none, List.length_map, reduceIte, itemsL, itemsT, Option.map, Option.bind, Tg.bind, setN, List.append_nil, Nat.sub_zero, Nat.zero_add, ite_true, ite_false, Nat.zero_le, Nat.reduceAdd, Nat.reduceLeDiff, Nat.reduceSub, Nat.reduceMul, Nat.reduceEqDiff, Int.reduceLT, Int.reduceLE, Bool.false_eq_true, reduceCtorEq, and_true, true_and, and_self, hN, dMul, s2, hc, hd, hD, h0, dAdd]
theorem second_ok {N P : List D} {k n : Int} {b : Bool} {x3 x4 x5 x6 x7 x8 : Option D} (hN : frzs N = N) (aP : af.afs P = true) (hp : F__law_pairs_cell [.rol N, .int (2 * k + 1), .int n] = .ok (.lst b P)) :
    ∃ b', asgS [0, 1, 2] 3 (fnA F__law_pairs_cell [] (consA (vr 0) (consA (op2 dAdd (op2 dMul (cI 2) (vr 1)) (cI 1)) (consA (vr 2) nilA)))) [some (.rol N), some (.int k), some (.int n), x3, x4, x5, x6, x7, x8] = .nx (gE N k n b' P x4 x5 x6 x7 x8) := by
  have s2 : De.small64 2 = true := by decide
  cases b
  · refine ⟨false, ?_⟩
    simp only [runF, env0, endF, seqS, asgS, retS, ifS, nilS, brkS, cntS, drpS, mutS, forS, unpS, parS, keepM, frzM, gApp, op2, op1, vr, cI, cS, cB, cN, cT, De.get, Res.bind, lift, tst, toB, andB, orB, notB, andV, orV, notV, ifV, chn, consA, nilA, lstA, tupA, calA, fnA, strM, tgetA, lcA, itm, rngA, prtN, prtE, prtI, slA, dI, g1, g2, frz, frz_lst, frz_tup, frz_rol, frzs, frzs_ints, frzs_strs, frzs_app, frzs_len, af, af.afs, afs_ints, afs_strs, frzs_bls, dAll_map, dAny_map, all_tt, List.map_cons, List.map_nil, List.length_cons, List.length_nil, List.cons_append, List.nil_append, List.replicate, List.getElem?_cons_zero, List.getElem?_cons_succ, List.set_cons_zero, List.set_cons_succ, List.set, if_true, if_false, Bool.or_true, Bool.true_or, Bool.or_false, Bool.false_or, Bool.and_true, Bool.true_and, Bool.and_false, Bool.false_and, Bool.not_true, Bool.not_false, Option.map_some, Option.map_none, Option.bind_some, Option.bind_none, List.length_map, reduceIte, itemsL, itemsT, Option.map, Option.bind, Tg.bind, setN, List.append_nil, Nat.sub_zero, Nat.zero_add, ite_true, ite_false, Nat.zero_le, Nat.reduceAdd, Nat.reduceLeDiff, Nat.reduceSub, Nat.reduceMul, Nat.reduceEqDiff, Int.reduceLT, Int.reduceLE, Bool.false_eq_true, reduceCtorEq, and_true, true_and, and_self, hN, dMul, s2, dAdd, hp, aP]
  · refine ⟨true, ?_⟩
    simp only [runF, env0, endF, seqS, asgS, retS, ifS, nilS, brkS, cntS, drpS, mutS, forS, unpS, parS, keepM, frzM, gApp, op2, op1, vr, cI, cS, cB, cN, cT, De.get, Res.bind, lift, tst, toB, andB, orB, notB, andV, orV, notV, ifV, chn, consA, nilA, lstA, tupA, calA, fnA, strM, tgetA, lcA, itm, rngA, prtN, prtE, prtI, slA, dI, g1, g2, frz, frz_lst, frz_tup, frz_rol, frzs, frzs_ints, frzs_strs, frzs_app, frzs_len, af, af.afs, afs_ints, afs_strs, frzs_bls, dAll_map, dAny_map, all_tt, List.map_cons, List.map_nil, List.length_cons, List.length_nil, List.cons_append, List.nil_append, List.replicate, List.getElem?_cons_zero, List.getElem?_cons_succ, List.set_cons_zero, List.set_cons_succ, List.set, if_true, if_false, Bool.or_true, Bool.true_or, Bool.or_false, Bool.false_or, Bool.and_true, Bool.true_and, Bool.and_false, Bool.false_and, Bool.not_true, Bool.not_false, Option.map_some, Option.map_none, Option.bind_some, Option.bind_none, List.length_map, reduceIte, itemsL, itemsT, Option.map, Option.bind, Tg.bind, setN, List.append_nil, Nat.sub_zero, Nat.zero_add, ite_true, ite_false, Nat.zero_le, Nat.reduceAdd, Nat.reduceLeDiff, Nat.reduceSub, Nat.reduceMul, Nat.reduceEqDiff, Int.reduceLT, Int.reduceLE, Bool.false_eq_true, reduceCtorEq, and_true, true_and, and_self, hN, dMul, s2, dAdd, hp, aP]
theorem copy_ok {N P : List D} {k n : Int} {x4 x5 x6 x7 x8 : Option D} (hP : frzs P = P) (aP : af.afs P = true) : asgS [3] 4 (calA (g1 dLst) (consA (vr 3) nilA)) (gE N k n true P x4 x5 x6 x7 x8) = .nx (gE N k n true P (some (.lst true P)) x5 x6 x7 x8) := by
  simp only [runF, env0, endF, seqS, asgS, retS, ifS, nilS, brkS, cntS, drpS, mutS, forS, unpS, parS, keepM, frzM, gApp, op2, op1, vr, cI, cS, cB, cN, cT, De.get, Res.bind, lift, tst, toB, andB, orB, notB, andV, orV, notV, ifV, chn, consA, nilA, lstA, tupA, calA, fnA, strM, tgetA, lcA, itm, rngA, prtN, prtE, prtI, slA, dI, g1, g2, frz, frz_lst, frz_tup, frz_rol, frzs, frzs_ints, frzs_strs, frzs_app, frzs_len, af, af.afs, afs_ints, afs_strs, frzs_bls, dAll_map, dAny_map, all_tt, List.map_cons, List.map_nil, List.length_cons, List.length_nil, List.cons_append, List.nil_append, List.replicate, List.getElem?_cons_zero, List.getElem?_cons_succ, List.set_cons_zero, List.set_cons_succ, List.set, if_true, if_false, Bool.or_true, Bool.true_or, Bool.or_false, Bool.false_or, Bool.and_true, Bool.true_and, Bool.and_false, Bool.false_and, Bool.not_true, Bool.not_false, Option.map_some, Option.map_none, Option.bind_some, Option.bind_none, List.length_map, reduceIte, itemsL, itemsT, Option.map, Option.bind, Tg.bind, setN, List.append_nil, Nat.sub_zero, Nat.zero_add, ite_true, ite_false, Nat.zero_le, Nat.reduceAdd, Nat.reduceLeDiff, Nat.reduceSub, Nat.reduceMul, Nat.reduceEqDiff, Int.reduceLT, Int.reduceLE, Bool.false_eq_true, reduceCtorEq, and_true, true_and, and_self, hP, dLst, aP]
theorem due_ok {N P : List D} {k n : Int} {d : D} {x4 x5 x6 x7 x8 : Option D} (hP : frzs P = P) (ad : af d = true) (e : F__law_ring [.int n, .lst false P] = .ok d) : asgS [2, 3] 5 (fnA F__law_ring [] (consA (vr 2) (consA (vr 3) nilA))) (gE N k n true P x4 x5 x6 x7 x8) = .nx (gE N k n true P x4 (some d) x6 x7 x8) := by
  unfold gE
  simp only [asgS, fnA, consA, nilA, vr, De.get, Res.bind, List.getElem?_cons_zero, List.getElem?_cons_succ, frz_lst, frzs, frz, hP, List.append_nil, e, ad, if_true, List.set_cons_zero, List.set_cons_succ, List.set]
theorem law_true (ns : List Int) (hl : ns.length ≤ 63) (hb : ∀ z ∈ ns, Builtin.Int.intBits z ≤ 1048576) : F_law [.rol (ns.map D.int)] = .ok (.bl true) := by
  have loop : ∃ ρ', forGo (.one 1) b4_law (rngD 0 4) [some (.rol (ns.map D.int)), none, none, none, none, none, none, none, none] = .nx ρ' ∧ ∃ x1 x2 x3 x4 x5 x6 x7, ρ' = [some (.rol (ns.map D.int)), x1, x2, x3, x4, x5, x6, x7, none] := by
    refine forGo_rng (fun _ ρ => ∃ x1 x2 x3 x4 x5 x6 x7, ρ = [some (.rol (ns.map D.int)), x1, x2, x3, x4, x5, x6, x7, none]) 4 ⟨none, none, none, none, none, none, none, rfl⟩ fun k ρ hk ⟨x1, x2, x3, x4, x5, x6, x7, hρ⟩ => ?_
    subst hρ
    obtain ⟨c, hc⟩ := cell_ok ns (2 * k) (by omega) (by omega)
    obtain ⟨ds, hd, hbd⟩ := draw_ok c [9] (by decide) (by decide)
    have hlen : ds.length = 1 := hbd.1
    obtain ⟨m, rfl⟩ := List.length_eq_one_iff.mp hlen
    have hm := hbd.2 0 m 9 rfl rfl
    obtain ⟨j, rfl⟩ := Int.eq_ofNat_of_zero_le hm.1
    obtain ⟨b, ps, hp, G, h16⟩ := pairs_cell_len ns (2 * k + 1) (by omega) (by omega) (n := j + 1) (by omega) (by omega)
    have en : (((j + 1 : Nat) : Int)) = 1 + (j : Int) := by omega
    have e2 : (((2 * k : Nat)) : Int) = 2 * (k : Int) := by omega
    have e3 : (((2 * k + 1 : Nat)) : Int) = 2 * (k : Int) + 1 := by omega
    rw [e2] at hc
    rw [e3] at hp
    have h0 : dIx (.lst false [.int (j : Int)]) (.int 0) = some (.int (j : Int)) := ix_int (ds := [(j : Int)]) (j := 0) rfl
    have s1 := first_ok (x2 := x2) (x3 := x3) (x4 := x4) (x5 := x5) (x6 := x6) (x7 := x7) (x8 := none) (frzs_ints ns) rfl hc hd h0
    rw [← en] at s1
    obtain ⟨b1, s2⟩ := second_ok (x3 := x3) (x4 := x4) (x5 := x5) (x6 := x6) (x7 := x7) (x8 := none) (frzs_ints ns) (afs_ps ps) hp
    obtain ⟨b2, qs, s3, R, h18⟩ := grow_ok G h16 hk (N := ns.map D.int) (b := b1) (x4 := x4) (x5 := x5) (x6 := x6) (x7 := x7) (x8 := none)
    have s4 := un_ok (ps := qs) (N := ns.map D.int) (k := (k : Int)) (n := ((j + 1 : Nat) : Int)) (b := b2) (x4 := x4) (x5 := x5) (x6 := x6) (x7 := x7)
    have G2 := Good.un G.n1 G.n9 R h18
    generalize hrs : (qs.filter fun p => !decide (p.1 = p.2)) = rs at s4 G2
    have s5 := copy_ok (N := ns.map D.int) (k := (k : Int)) (n := ((j + 1 : Nat) : Int)) (x4 := x4) (x5 := x5) (x6 := x6) (x7 := x7) (x8 := none) (frzs_ps rs) (afs_ps rs)
    have fin : ∃ (d : D) (x6' x7' : Option D), F__law_ring [.int ((j + 1 : Nat) : Int), .lst false (psD rs)] = .ok d ∧ af d = true ∧ forS [] (rngA (consA (cI 2) nilA)) (.one 6) b1_law (gE (ns.map D.int) (k : Int) ((j + 1 : Nat) : Int) true (psD rs) (some (.lst true (psD rs))) (some d) x6 x7 none) = .nx (gE (ns.map D.int) (k : Int) ((j + 1 : Nat) : Int) true (psD rs) (some (.lst true (psD rs))) (some d) x6' x7' none) := by
      rcases law_ring_ok G2 with ⟨h1, nr⟩ | ⟨f, h1, B⟩
      · rcases ring_in_ok G2 with ⟨hr, _⟩ | ⟨r, _, B2⟩
        · obtain ⟨y6, y7, e⟩ := twice (N := ns.map D.int) (k := (k : Int)) (n := ((j + 1 : Nat) : Int)) (x6 := x6) (x7 := x7) (x8 := none) (P := psD rs) (d := .non) fun a b => ⟨_, ask_none (frzs_ps rs) (ring_ok G2 hr) (same_ok (.inl rfl)) (dNe_ps rs)⟩
          exact ⟨.non, y6, y7, h1, rfl, e⟩
        · exact absurd B2.ring (nr r)
      · rcases ring_in_ok G2 with ⟨_, nr⟩ | ⟨r, hr, B2⟩
        · exact absurd B.ring (nr f)
        · have := best_uniq B B2
          subst this
          have hf9 : f.length ≤ 9 := by
            have := nodup_bound (B.nodup G2.best) (way_in G2 B.ring)
            have := G2.n9
            omega
          have hrf : rf 7 (.lst false (f.map .int)) := .inr ⟨_, .inl rfl, by rw [List.length_map]; omega, fun x hx => by obtain ⟨z, _, rfl⟩ := List.mem_map.mp hx; exact .inl rfl⟩
          obtain ⟨y6, y7, e⟩ := twice (N := ns.map D.int) (k := (k : Int)) (n := ((j + 1 : Nat) : Int)) (x6 := x6) (x7 := x7) (x8 := none) (P := psD rs) (d := .lst true (f.map .int)) fun a b => ⟨_, ask_some (frzs_ps rs) (frzs_ints f) (afs_ints f) (ring_ok G2 hr) (same_ok hrf) (dNe_ps rs) (by rw [List.length_map]; omega)⟩
          exact ⟨_, y6, y7, h1, by show (true && af.afs _) = true; rw [afs_ints]; rfl, e⟩
    obtain ⟨d, x6', x7', h1, ad, s7⟩ := fin
    have s6 := due_ok (N := ns.map D.int) (k := (k : Int)) (x4 := some (.lst true (psD rs))) (x5 := x5) (x6 := x6) (x7 := x7) (x8 := none) (frzs_ps rs) ad h1
    refine ⟨_, gE (ns.map D.int) (k : Int) ((j + 1 : Nat) : Int) true (psD rs) (some (.lst true (psD rs))) (some d) x6' x7' none, rfl, .inl ?_, _, _, _, _, _, _, _, rfl⟩
    show b4_law [some (.rol (ns.map D.int)), some (.int (k : Int)), x2, x3, x4, x5, x6, x7, none] = .nx (gE (ns.map D.int) (k : Int) ((j + 1 : Nat) : Int) true (psD rs) (some (.lst true (psD rs))) (some d) x6' x7' none)
    unfold b4_law
    rw [seq_nx s1, seq_nx s2]
    exact (seq_nx s3).trans ((seq_nx s4).trans ((seq_nx s5).trans ((seq_nx s6).trans s7)))
  obtain ⟨ρ', e, x1, x2, x3, x4, x5, x6, x7, rfl⟩ := loop
  have h12 : (-(2 ^ 62) ≤ (4 : Int)) = True := eq_true (by decide)
  have e12 : (4 : Int).toNat = 4 := rfl
  simp only [runF, env0, endF, seqS, asgS, retS, ifS, nilS, brkS, cntS, drpS, mutS, forS, unpS, parS, keepM, frzM, gApp, op2, op1, vr, cI, cS, cB, cN, cT, De.get, Res.bind, lift, tst, toB, andB, orB, notB, andV, orV, notV, ifV, chn, consA, nilA, lstA, tupA, calA, fnA, strM, tgetA, lcA, itm, rngA, prtN, prtE, prtI, slA, dI, g1, g2, frz, frz_lst, frz_tup, frz_rol, frzs, frzs_ints, frzs_strs, frzs_app, frzs_len, af, af.afs, afs_ints, afs_strs, frzs_bls, dAll_map, dAny_map, all_tt, List.map_cons, List.map_nil, List.length_cons, List.length_nil, List.cons_append, List.nil_append, List.replicate, List.getElem?_cons_zero, List.getElem?_cons_succ, List.set_cons_zero, List.set_cons_succ, List.set, if_true, if_false, Bool.or_true, Bool.true_or, Bool.or_false, Bool.false_or, Bool.and_true, Bool.true_and, Bool.and_false, Bool.false_and, Bool.not_true, Bool.not_false, Option.map_some, Option.map_none, Option.bind_some, Option.bind_none, List.length_map, reduceIte, itemsL, itemsT, Option.map, Option.bind, Tg.bind, setN, List.append_nil, Nat.sub_zero, Nat.zero_add, ite_true, ite_false, Nat.zero_le, Nat.reduceAdd, Nat.reduceLeDiff, Nat.reduceSub, Nat.reduceMul, Nat.reduceEqDiff, Int.reduceLT, Int.reduceLE, Bool.false_eq_true, reduceCtorEq, and_true, true_and, and_self, F_law, s_law, h12, e12, e]
end K08
set_option Elab.async false
set_option linter.all false
set_option maxRecDepth 100000
set_option maxHeartbeats 0
namespace K08
open PySem PySem.Spec PyProof.Rows L2 De Cm
def d_look_many : He.DefD := ⟨("look_many", none), "look_many", "look_many", defArgs (top 6), defBody (top 6), defScope (top 6), [], []⟩
def d_look_pairs : He.DefD := ⟨("look_pairs", none), "look_pairs", "look_pairs", defArgs (top 8), defBody (top 8), defScope (top 8), [], []⟩
def d_nexts : He.DefD := ⟨("nexts", none), "nexts", "nexts", defArgs (top 9), defBody (top 9), defScope (top 9), [], []⟩
def d_chains_from : He.DefD := ⟨("chains_from", none), "chains_from", "chains_from", defArgs (top 10), defBody (top 10), defScope (top 10), [], []⟩
def d_ring_in : He.DefD := ⟨("ring_in", none), "ring_in", "ring_in", defArgs (top 11), defBody (top 11), defScope (top 11), [], []⟩
def d_ring : He.DefD := ⟨("ring", none), "ring", "ring", defArgs (top 12), defBody (top 12), defScope (top 12), [], []⟩
def d__law_mixed : He.DefD := ⟨("_law_mixed", none), "_law_mixed", "_law_mixed", defArgs (top 14), defBody (top 14), defScope (top 14), [], []⟩
def d__law_draw : He.DefD := ⟨("_law_draw", none), "_law_draw", "_law_draw", defArgs (top 15), defBody (top 15), defScope (top 15), [], []⟩
def d__law_cell : He.DefD := ⟨("_law_cell", none), "_law_cell", "_law_cell", defArgs (top 16), defBody (top 16), defScope (top 16), [], []⟩
def d__law_num : He.DefD := ⟨("_law_num", none), "_law_num", "_law_num", defArgs (top 17), defBody (top 17), defScope (top 17), [], []⟩
def d__law_same : He.DefD := ⟨("_law_same", none), "_law_same", "_law_same", defArgs (top 18), defBody (top 18), defScope (top 18), [], []⟩
def d__law_mingled : He.DefD := ⟨("_law_mingled", none), "_law_mingled", "_law_mingled", defArgs (top 19), defBody (top 19), defScope (top 19), [], []⟩
def d__law_some_pairs : He.DefD := ⟨("_law_some_pairs", none), "_law_some_pairs", "_law_some_pairs", defArgs (top 20), defBody (top 20), defScope (top 20), [], []⟩
def d__law_pairs_cell : He.DefD := ⟨("_law_pairs_cell", none), "_law_pairs_cell", "_law_pairs_cell", defArgs (top 21), defBody (top 21), defScope (top 21), [], []⟩
def d__law_far_apart : He.DefD := ⟨("_law_far_apart", none), "_law_far_apart", "_law_far_apart", defArgs (top 22), defBody (top 22), defScope (top 22), [], []⟩
def d__law_steps : He.DefD := ⟨("_law_steps", none), "_law_steps", "_law_steps", defArgs (top 23), defBody (top 23), defScope (top 23), [], []⟩
def d__law_ring : He.DefD := ⟨("_law_ring", none), "_law_ring", "_law_ring", defArgs (top 24), defBody (top 24), defScope (top 24), [], []⟩
def d_law : He.DefD := ⟨("law", none), "law", "law", defArgs (top 25), defBody (top 25), defScope (top 25), [], []⟩
def fn : List He.DefD := [d_look_many, d_look_pairs, d_nexts, d_chains_from, d_ring_in, d_ring, d__law_mixed, d__law_draw, d__law_cell, d__law_num, d__law_same, d__law_mingled, d__law_some_pairs, d__law_pairs_cell, d__law_far_apart, d__law_steps, d__law_ring, d_law]
def fa : List He.Fa := [.glo "look_many", .glo "look_pairs", .glo "nexts", .glo "chains_from", .glo "ring_in", .glo "ring", .glo "_law_mixed", .glo "_law_draw", .glo "_law_cell", .glo "_law_num", .glo "_law_same", .glo "_law_mingled", .glo "_law_some_pairs", .glo "_law_pairs_cell", .glo "_law_far_apart", .glo "_law_steps", .glo "_law_ring", .glo "law", .int "MOST_SIGNS" 9, .free "max", .free "min", .free "sorted", .free "set", .free "len", .free "range", .free "abs", .free "bool", .free "isinstance", .free "int", .free "all", .free "list", .free "tuple", .free "str"]
def ts : List He.Tab := []
def tf : List He.Defn := [("ring_in", none)]
abbrev TT (K : PySem.W.Frag) : List (Addr × Str) := tabsOf K tf
def ex (K : PySem.W.Frag) : Bool := decide ((tf.map fun p => (He.cT K p).2).Nodup)
abbrev R : PySem.W.OpenRow := PySem.W.OpenLaw.row PySem.Challenge.rw_scribelists_k08_rings
abbrev hk : PySem.W.Hook := He.hookX 4 fa fn ts tf ex
def ob (s : PySem.W.SharedT) : He.AlX := He.obsX 4 fa fn ts tf ex (HandSHeadRun.getT s)
theorem ob_eq (s : PySem.W.SharedT) : ob s = hk.obs s.abs := He.obsX_eq (HandSHeadRun.getT_eq s)
def loose : List PySem.Str := ["ScribeError", "BadMany", "BadPair", "MOST_SIGNS", "look_many", "look_pairs", "nexts", "chains_from", "ring_in", "ring", "_law_mixed", "_law_draw", "_law_cell", "_law_num", "_law_same", "_law_mingled", "_law_some_pairs", "_law_pairs_cell", "_law_far_apart", "_law_steps", "_law_ring"]
theorem run_false (w : World) : HandSHeadRun.RunEq R (PySem.W.view R.prog [25]) hk ob 2000 loose (w.withFollow "special-get-raises" false) := by
  intro os
  kernel_rfl
theorem run_true (w : World) : HandSHeadRun.RunEq R (PySem.W.view R.prog [25]) hk ob 2000 loose (w.withFollow "special-get-raises" true) := by
  intro os
  kernel_rfl
theorem run (w : World) : HandSHeadRun.RunEq R (PySem.W.view R.prog [25]) hk ob 2000 loose w := PySem.W.byRow2 "special-get-raises" (P := fun w => HandSHeadRun.RunEq R (PySem.W.view R.prog [25]) hk ob 2000 loose w) run_false run_true w
theorem facts {P : Program} {w : World} {K : PySem.W.Frag} {h : Heap} {mg : Str → Option Value} {f : Addr} (X : K.In h) (G : h.Ns mainGlobals mg) (hfa : mg ("law" : Str) = some (.ref f)) (c : He.SaysX fa fn ts tf ex w h K) :
    ∃ fd : FuncData, (∀ (s : Shared) (v : Value), BindsTo s fd ⟨[v], []⟩ [("_law_script", v)]) ∧ ∀ base : Heap, K.In base → base.Ns mainGlobals mg → (∀ p ∈ tf.map (He.cT K), LamX.TabB base mg p.1 p.2) → FnOk P w K mg base (L2.CX P w) 11 f fd ["_law_script"] (spD ⟨K, TT K, mg⟩ 1 F_law) := by
  have cd := c.t.d
  have G_look_many : FnP K "look_many" (top 6) := cd.def_ 0 (d := d_look_many) rfl
  have m_look_many := He.glo_ok X G (cd.fact 0 (f := .glo "look_many") rfl)
  have G_look_pairs : FnP K "look_pairs" (top 8) := cd.def_ 1 (d := d_look_pairs) rfl
  have m_look_pairs := He.glo_ok X G (cd.fact 1 (f := .glo "look_pairs") rfl)
  have G_nexts : FnP K "nexts" (top 9) := cd.def_ 2 (d := d_nexts) rfl
  have m_nexts := He.glo_ok X G (cd.fact 2 (f := .glo "nexts") rfl)
  have G_chains_from : FnP K "chains_from" (top 10) := cd.def_ 3 (d := d_chains_from) rfl
  have m_chains_from := He.glo_ok X G (cd.fact 3 (f := .glo "chains_from") rfl)
  have G_ring_in : FnP K "ring_in" (top 11) := cd.def_ 4 (d := d_ring_in) rfl
  have m_ring_in := He.glo_ok X G (cd.fact 4 (f := .glo "ring_in") rfl)
  have G_ring : FnP K "ring" (top 12) := cd.def_ 5 (d := d_ring) rfl
  have m_ring := He.glo_ok X G (cd.fact 5 (f := .glo "ring") rfl)
  have G__law_mixed : FnP K "_law_mixed" (top 14) := cd.def_ 6 (d := d__law_mixed) rfl
  have m__law_mixed := He.glo_ok X G (cd.fact 6 (f := .glo "_law_mixed") rfl)
  have G__law_draw : FnP K "_law_draw" (top 15) := cd.def_ 7 (d := d__law_draw) rfl
  have m__law_draw := He.glo_ok X G (cd.fact 7 (f := .glo "_law_draw") rfl)
  have G__law_cell : FnP K "_law_cell" (top 16) := cd.def_ 8 (d := d__law_cell) rfl
  have m__law_cell := He.glo_ok X G (cd.fact 8 (f := .glo "_law_cell") rfl)
  have G__law_num : FnP K "_law_num" (top 17) := cd.def_ 9 (d := d__law_num) rfl
  have m__law_num := He.glo_ok X G (cd.fact 9 (f := .glo "_law_num") rfl)
  have G__law_same : FnP K "_law_same" (top 18) := cd.def_ 10 (d := d__law_same) rfl
  have m__law_same := He.glo_ok X G (cd.fact 10 (f := .glo "_law_same") rfl)
  have G__law_mingled : FnP K "_law_mingled" (top 19) := cd.def_ 11 (d := d__law_mingled) rfl
  have m__law_mingled := He.glo_ok X G (cd.fact 11 (f := .glo "_law_mingled") rfl)
  have G__law_some_pairs : FnP K "_law_some_pairs" (top 20) := cd.def_ 12 (d := d__law_some_pairs) rfl
  have m__law_some_pairs := He.glo_ok X G (cd.fact 12 (f := .glo "_law_some_pairs") rfl)
  have G__law_pairs_cell : FnP K "_law_pairs_cell" (top 21) := cd.def_ 13 (d := d__law_pairs_cell) rfl
  have m__law_pairs_cell := He.glo_ok X G (cd.fact 13 (f := .glo "_law_pairs_cell") rfl)
  have G__law_far_apart : FnP K "_law_far_apart" (top 22) := cd.def_ 14 (d := d__law_far_apart) rfl
  have m__law_far_apart := He.glo_ok X G (cd.fact 14 (f := .glo "_law_far_apart") rfl)
  have G__law_steps : FnP K "_law_steps" (top 23) := cd.def_ 15 (d := d__law_steps) rfl
  have m__law_steps := He.glo_ok X G (cd.fact 15 (f := .glo "_law_steps") rfl)
  have G__law_ring : FnP K "_law_ring" (top 24) := cd.def_ 16 (d := d__law_ring) rfl
  have m__law_ring := He.glo_ok X G (cd.fact 16 (f := .glo "_law_ring") rfl)
  have G_law : FnP K "law" (top 25) := cd.def_ 17 (d := d_law) rfl
  have m_law := He.glo_ok X G (cd.fact 17 (f := .glo "law") rfl)
  have c_MOST_SIGNS := He.int_ok X G (cd.fact 18 (f := .int "MOST_SIGNS" 9) rfl)
  have b_max := He.free_ok X G (cd.fact 19 (f := .free "max") rfl)
  have b_min := He.free_ok X G (cd.fact 20 (f := .free "min") rfl)
  have b_sorted := He.free_ok X G (cd.fact 21 (f := .free "sorted") rfl)
  have b_set := He.free_ok X G (cd.fact 22 (f := .free "set") rfl)
  have b_len := He.free_ok X G (cd.fact 23 (f := .free "len") rfl)
  have b_range := He.free_ok X G (cd.fact 24 (f := .free "range") rfl)
  have b_abs := He.free_ok X G (cd.fact 25 (f := .free "abs") rfl)
  have b_bool := He.free_ok X G (cd.fact 26 (f := .free "bool") rfl)
  have b_isinstance := He.free_ok X G (cd.fact 27 (f := .free "isinstance") rfl)
  have b_int := He.free_ok X G (cd.fact 28 (f := .free "int") rfl)
  have b_all := He.free_ok X G (cd.fact 29 (f := .free "all") rfl)
  have b_list := He.free_ok X G (cd.fact 30 (f := .free "list") rfl)
  have b_tuple := He.free_ok X G (cd.fact 31 (f := .free "tuple") rfl)
  have b_str := He.free_ok X G (cd.fact 32 (f := .free "str") rfl)
  have hnd : (tf.map fun p => (He.cT K p).2).Nodup := by have h := c.more; simp only [ex, Bool.and_eq_true, decide_eq_true_eq] at h; exact h
  have e := hfa.symm.trans m_law
  cases e
  obtain ⟨fd, F⟩ := G_law
  have b := FunD.bindsA (ps := ["_law_script"]) F fun _ _ _ _ _ _ us hl => match us, hl with | [_], _ => rfl
  refine ⟨fd, fun s v => b s [v] rfl, fun base _ _ hTB => ?_⟩
  have mk_ring_in : Mk1 K base mg (TT K) "ring_in" "ring_in.<locals>.<lambda>" := mk1_of (tf := tf) hTB hnd (by decide +kernel) (by decide +kernel)
  have w_look_many := ok_look_many (P := P) (w := w) (base := base) (T := TT K) G_look_many m_look_many c_MOST_SIGNS
  have w_look_pairs := ok_look_pairs (P := P) (w := w) (base := base) (T := TT K) G_look_pairs m_look_pairs b_max b_min w_look_many
  have w_nexts := ok_nexts (P := P) (w := w) (base := base) (T := TT K) G_nexts m_nexts b_sorted b_set
  have w_chains_from := ok_chains_from (P := P) (w := w) (base := base) (T := TT K) G_chains_from m_chains_from w_nexts
  have w_ring_in := ok_ring_in (P := P) (w := w) (base := base) (T := TT K) G_ring_in m_ring_in b_len mk_ring_in b_min b_range w_chains_from
  have w_ring := ok_ring (P := P) (w := w) (base := base) (T := TT K) G_ring m_ring w_ring_in w_look_pairs
  have w__law_mixed := ok__law_mixed (P := P) (w := w) (base := base) (T := TT K) G__law_mixed m__law_mixed 
  have w__law_draw := ok__law_draw (P := P) (w := w) (base := base) (T := TT K) G__law_draw m__law_draw b_len b_abs w__law_mixed
  have w__law_cell := ok__law_cell (P := P) (w := w) (base := base) (T := TT K) G__law_cell m__law_cell b_len
  have w__law_num := ok__law_num (P := P) (w := w) (base := base) (T := TT K) G__law_num m__law_num b_bool b_isinstance b_int
  have w__law_same := ok__law_same (P := P) (w := w) (base := base) (T := TT K) G__law_same m__law_same b_len b_range b_all b_list b_isinstance b_tuple b_str b_int b_bool w__law_num
  have w__law_mingled := ok__law_mingled (P := P) (w := w) (base := base) (T := TT K) G__law_mingled m__law_mingled b_range
  have w__law_some_pairs := ok__law_some_pairs (P := P) (w := w) (base := base) (T := TT K) G__law_some_pairs m__law_some_pairs b_range w__law_mingled
  have w__law_pairs_cell := ok__law_pairs_cell (P := P) (w := w) (base := base) (T := TT K) G__law_pairs_cell m__law_pairs_cell w__law_cell w__law_draw w__law_some_pairs
  have w__law_far_apart := ok__law_far_apart (P := P) (w := w) (base := base) (T := TT K) G__law_far_apart m__law_far_apart b_range b_min b_int
  have w__law_steps := ok__law_steps (P := P) (w := w) (base := base) (T := TT K) G__law_steps m__law_steps b_range b_min
  have w__law_ring := ok__law_ring (P := P) (w := w) (base := base) (T := TT K) G__law_ring m__law_ring b_min b_range w__law_steps w__law_far_apart
  have w_law := ok_law (P := P) (w := w) (base := base) (T := TT K) ⟨fd, F⟩ m_law b_range b_list b_len w__law_same w_ring w__law_ring w__law_pairs_cell w__law_cell w__law_draw
  exact FnS.of w_law F
end K08
open PySem PySem.W PySem.Calls PyProof.Rows De
theorem PySem.Challenge.cw_scribelists_k08_rings_holds : PySem.Challenge.rw_scribelists_k08_rings.Holds := by
  w_on; o_law
  refine HandSHeadRun.head_any (r := OpenLaw.row PySem.Challenge.rw_scribelists_k08_rings) (q := view (OpenLaw.row PySem.Challenge.rw_scribelists_k08_rings).prog [25]) (H := K08.hk) (ob := K08.ob) (M := 2000) (loose := K08.loose) (d := HandSHeadRun.topDef (OpenLaw.row PySem.Challenge.rw_scribelists_k08_rings).prog 25) (kwd := []) K08.ob_eq
    (by kernel_rfl) (fun s => by kernel_rfl) K08.run (by kernel_rfl) (by kernel_rfl) (by kernel_rfl) (by rfl) (by first | assumption | decide +kernel) (by decide +kernel) ⟨rfl, rfl, rfl, rfl, rfl, by decide +kernel⟩ ?hw ?hc
  case hw => w_witness2
  case hc =>
    refine LamX.walk_ofTsE (l := PySem.Challenge.rw_scribelists_k08_rings) (n := 63) (k := 11) (x := "_law_script") (CX := fun w => L2.CX (PySem.Challenge.rw_scribelists_k08_rings).prog w) rfl (by decide) (by kernel_rfl) ⟨rfl, by decide, by decide⟩ ?F (fun w H s e s' h => cx_no h)
    intro w mg fa h Y G hmg0
    obtain ⟨K, KX, c⟩ := Y
    have hmg : mg ("law" : PySem.Str) = some (.ref fa) := by
      have e : (HandSHeadRun.topDef (OpenLaw.row PySem.Challenge.rw_scribelists_k08_rings).prog 25).name = ("law" : PySem.Str) := by kernel_rfl
      rw [← e]
      exact hmg0
    obtain ⟨fd, hb, hF⟩ := K08.facts (P := (PySem.Challenge.rw_scribelists_k08_rings).prog) (w := w) KX G hmg c
    exact ⟨K, KX, fd, K08.tf.map (He.cT K), _, fun p hp => by obtain ⟨q, hq, e⟩ := List.mem_map.mp hp; rw [← e]; exact c.empty q hq, fun p hp => by obtain ⟨q, hq, e⟩ := List.mem_map.mp hp; rw [← e]; exact c.out q hq, fun p hp => by obtain ⟨q, hq, e⟩ := List.mem_map.mp hp; rw [← e]; exact PySem.W.codeHd_of_K KX (c.hd q hq), hb, fun H a ns hl hbits hT hS => law_sp hS (tabsOf_nil hT) (K08.law_true ns hl hbits), hF⟩
