import PyProof.Rows.All
import Wide.All
import OpenK.AllK
import Wide.FinOn
import HandS.ForMost
import HandS.ForExc
import HandS.Lambda
import HandS.EndTab
import HandS.Defaults
import HandS.HeadHook4
import HandS.HeadEnd
import HandS.Head2
import HandS.Zip
import HandS.Conv
import HandS.IsInst
import HandS.RaiseMore
import HandS.More
import HandS.TryMany
import HandS.ExcInit
import HandS.IntHex
import KE.KIntText
import KE.GoesZip
import KE.GoesMore
import KE.GoesEnumKw
import HandS.HeadWalk
import PySem.Challenge.RW_scribelists_k42_deeds_written
set_option Elab.async false
set_option linter.all false
set_option maxRecDepth 100000
namespace De
open PySem PySem.Spec PyProof.Rows L2

/-! ### values as data: o tells whether a list (a dict) is held by its one owner -/
inductive D where
  | non | bl (b : Bool) | int (i : Int) | str (s : Str)
  | lst (o : Bool) (xs : List D)
  | tup (xs : List D)
  | dic (o : Bool) (ks : List Key) (xs : List D)
  | ty (n : String)
  | rol (xs : List D)

/-- a list of the written part -/
def KL (K : PySem.W.Frag) (a : Addr) (xs : List V) : Prop := SqL K (fun _ => none) a xs
theorem KL.sq {K : PySem.W.Frag} {H : Hp} {a : Addr} {xs : List V} (h : KL K a xs) : SqL K H a xs := by
  rcases h with (h | ⟨_, h⟩) | h
  · cases h
  · cases h
  · exact .inr h

abbrev Wd := Addr → Prop
abbrev Wd.plus (W : Wd) (A : List Addr) : Wd := fun a => W a ∨ a ∈ A

mutual
/-- the value v stands for d; A: the addresses of its own lists; W: what a shared list is not -/
def Own (K : PySem.W.Frag) (W : Wd) (H : Hp) : V → D → List Addr → Prop
  | v, .non, A => v = .non ∧ A = []
  | v, .bl b, A => v = .bl b ∧ A = []
  | v, .int i, A => v = .int i ∧ A = []
  | v, .str s, A => v = .str s ∧ A = []
  | v, .ty s, A => v = .ty s ∧ A = []
  | v, .lst o ds, A => ∃ a vs B, v = .ref a ∧ Owns K W H vs ds B ∧ (match o with
    | true => A = a :: B ∧ H a = some (.lst vs)
    | false => A = [] ∧ B = [] ∧ H a = some (.lst vs) ∧ ¬ W a)
  | v, .rol ds, A => ∃ a vs, v = .ref a ∧ Owns K W H vs ds [] ∧ A = [] ∧ ((Rd H a (.lst vs) ∧ ¬ W a) ∨ KL K a vs)
  | v, .tup ds, A => ∃ a vs, v = .ref a ∧ Owns K W H vs ds A ∧ SqT K H a vs
  | v, .dic o ks ds, A => ∃ a vs B, v = .ref a ∧ ks.length = vs.length ∧ Owns K W H vs ds B ∧ (match o with
    | true => A = a :: B ∧ H a = some (.dK (ks.zip vs))
    | false => A = [] ∧ B = [] ∧ Rd H a (.dK (ks.zip vs)) ∧ ¬ W a)
def Owns (K : PySem.W.Frag) (W : Wd) (H : Hp) : List V → List D → List Addr → Prop
  | vs, [], A => vs = [] ∧ A = []
  | vs, d :: ds, A => ∃ v ws A1 A2, vs = v :: ws ∧ A = A1 ++ A2 ∧ Own K W H v d A1 ∧ Owns K W H ws ds A2
end

mutual
def frz : D → D
  | .non => .non
  | .bl b => .bl b
  | .int i => .int i
  | .str s => .str s
  | .ty s => .ty s
  | .lst _ ds => .lst false (frzs ds)
  | .tup ds => .tup (frzs ds)
  | .rol ds => .rol (frzs ds)
  | .dic _ ks ds => .dic false ks (frzs ds)
def frzs : List D → List D
  | [] => []
  | d :: ds => frz d :: frzs ds
end
theorem frzs_eq (ds : List D) : frzs ds = ds.map frz := by
  induction ds with
  | nil => rfl
  | cons d ds ih => show frz d :: frzs ds = _; rw [ih]; rfl

/-- nothing shared that may change is in it -/
def af : D → Bool
  | .lst o ds => o && afs ds
  | .tup ds => afs ds
  | .dic o _ ds => o && afs ds
  | .rol _ => false
  | _ => true
where afs : List D → Bool
  | [] => true
  | d :: ds => af d && afs ds

/-! ### what stays -/
/-- all but the tables stay; the tables stay tables -/
structure Ext (T : List (Addr × Str)) (H H' : Hp) : Prop where
  e : LamX.ExtN H H'
  t : LamX.Tabs T H → LamX.Tabs T H'
theorem Ext.refl {T : List (Addr × Str)} (H : Hp) : Ext T H H := ⟨LamX.ExtN.refl H, id⟩
theorem Ext.trans {T : List (Addr × Str)} {H H1 H2 : Hp} (a : Ext T H H1) (b : Ext T H1 H2) : Ext T H H2 := ⟨a.e.trans b.e, fun x => b.t (a.t x)⟩
theorem Ext.of {T : List (Addr × Str)} {H H' : Hp} (e : ∀ b o, H b = some o → H' b = some o) : Ext T H H' := ⟨LamX.ExtN.of e, fun x => x.ext e⟩
theorem Ext.new {T : List (Addr × Str)} {H : Hp} {p : Addr} {o : HO} (h : H p = none) : Ext T H (upd H p o) := .of fun b u e => by rw [upd_ne (ne_of_none e h)]; exact e
/-- an object that is no table stands at a -/
def Al (H : Hp) (a : Addr) : Prop := ∃ u, H a = some u ∧ ∀ ps, u ≠ .tbl ps
theorem Al.ext {T : List (Addr × Str)} {H H' : Hp} {a : Addr} (h : Al H a) (x : Ext T H H') : Al H' a := by
  obtain ⟨u, e, n⟩ := h
  exact ⟨u, x.e a u e n, n⟩
theorem Al.no {H : Hp} {a : Addr} (h : H a = none) : ¬ Al H a := fun ⟨u, e, _⟩ => by rw [h] at e; cases e
theorem Al.lst {H : Hp} {a : Addr} {xs : List V} (h : H a = some (.lst xs)) : Al H a := ⟨_, h, fun _ z => by cases z⟩
theorem Al.dK {H : Hp} {a : Addr} {xs : List (Key × V)} (h : H a = some (.dK xs)) : Al H a := ⟨_, h, fun _ z => by cases z⟩
theorem Rd.alL {H : Hp} {a : Addr} {xs : List V} (h : Rd H a (.lst xs)) : Al H a := by
  rcases h with h | ⟨o, h⟩
  · exact .lst h
  · exact ⟨_, h, fun _ z => by cases z⟩
theorem Rd.alD {H : Hp} {a : Addr} {xs : List (Key × V)} (h : Rd H a (.dK xs)) : Al H a := by
  rcases h with h | ⟨o, h⟩
  · exact .dK h
  · exact ⟨_, h, fun _ z => by cases z⟩
theorem rdExt {T : List (Addr × Str)} {H H' : Hp} {a : Addr} {u : HO} (h : Rd H a u) (n : ∀ ps, u ≠ .tbl ps) (x : Ext T H H') : Rd H' a u := by
  rcases h with h | ⟨o, h⟩
  · exact .inl (x.e _ _ h n)
  · exact .inr ⟨o, x.e _ _ h fun _ z => by cases z⟩
theorem SqT.ext {K : PySem.W.Frag} {T : List (Addr × Str)} {H H' : Hp} {a : Addr} {vs : List V} (h : SqT K H a vs) (x : Ext T H H') : SqT K H' a vs :=
  h.imp (fun r => rdExt r (fun _ z => by cases z) x) id

section
variable {K : PySem.W.Frag} {T : List (Addr × Str)} {W W' : Wd} {H H' : Hp}
mutual
theorem Own.ext (x : Ext T H H') (w : ∀ a, W' a → W a ∨ ¬ Al H a) : ∀ (d : D) {v : V} {A : List Addr}, Own K W H v d A → Own K W' H' v d A
  | .non, _, _, h => h
  | .bl _, _, _, h => h
  | .int _, _, _, h => h
  | .str _, _, _, h => h
  | .ty _, _, _, h => h
  | .lst true ds, _, _, h => by
    obtain ⟨a, vs, B, e, h1, e2, h2⟩ := h
    exact ⟨a, vs, B, e, Owns.ext x w ds h1, e2, x.e _ _ h2 fun _ z => by cases z⟩
  | .lst false ds, _, _, h => by
    obtain ⟨a, vs, B, e, h1, e2, e3, h2⟩ := h
    obtain ⟨h2, n⟩ := h2
    refine ⟨a, vs, B, e, Owns.ext x w ds h1, e2, e3, x.e _ _ h2 (fun _ z => by cases z), fun z => ?_⟩
    rcases w a z with z | z
    · exact n z
    · exact z (.lst h2)
  | .rol ds, _, _, h => by
    obtain ⟨a, vs, e, h1, e2, h2⟩ := h
    refine ⟨a, vs, e, Owns.ext x w ds h1, e2, ?_⟩
    rcases h2 with ⟨h2, n⟩ | h2
    · refine .inl ⟨rdExt h2 (fun _ z => by cases z) x, fun z => ?_⟩
      rcases w a z with z | z
      · exact n z
      · exact z (Rd.alL h2)
    · exact .inr h2
  | .tup ds, _, _, h => by
    obtain ⟨a, vs, e, h1, h2⟩ := h
    exact ⟨a, vs, e, Owns.ext x w ds h1, SqT.ext h2 x⟩
  | .dic true ks ds, _, _, h => by
    obtain ⟨a, vs, B, e, l, h1, e2, h2⟩ := h
    exact ⟨a, vs, B, e, l, Owns.ext x w ds h1, e2, x.e _ _ h2 fun _ z => by cases z⟩
  | .dic false ks ds, _, _, h => by
    obtain ⟨a, vs, B, e, l, h1, e2, e3, h2, n⟩ := h
    refine ⟨a, vs, B, e, l, Owns.ext x w ds h1, e2, e3, rdExt h2 (fun _ z => by cases z) x, fun z => ?_⟩
    rcases w a z with z | z
    · exact n z
    · exact z (Rd.alD h2)
theorem Owns.ext (x : Ext T H H') (w : ∀ a, W' a → W a ∨ ¬ Al H a) : ∀ (ds : List D) {vs : List V} {A : List Addr}, Owns K W H vs ds A → Owns K W' H' vs ds A
  | [], _, _, h => h
  | d :: ds, _, _, h => by
    obtain ⟨v, ws, A1, A2, e1, e2, h1, h2⟩ := h
    exact ⟨v, ws, A1, A2, e1, e2, Own.ext x w d h1, Owns.ext x w ds h2⟩
end
mutual
theorem Own.frz (w : ∀ a, W' a → W a) : ∀ (d : D) {v : V} {A : List Addr}, Own K W H v d A → (∀ a ∈ A, ¬ W' a) → Own K W' H v (De.frz d) []
  | .non, _, _, h, _ => ⟨h.1, rfl⟩
  | .bl _, _, _, h, _ => ⟨h.1, rfl⟩
  | .int _, _, _, h, _ => ⟨h.1, rfl⟩
  | .str _, _, _, h, _ => ⟨h.1, rfl⟩
  | .ty _, _, _, h, _ => ⟨h.1, rfl⟩
  | .lst true ds, _, _, h, n => by
    obtain ⟨a, vs, B, e, h1, e2, h2⟩ := h
    subst e2
    exact ⟨a, vs, [], e, Owns.frz w ds h1 fun b hb => n b (List.mem_cons_of_mem _ hb), rfl, rfl, h2, n a (List.mem_cons_self ..)⟩
  | .lst false ds, _, _, h, n => by
    obtain ⟨a, vs, B, e, h1, e2, e3, h2⟩ := h
    subst e2 e3
    exact ⟨a, vs, [], e, Owns.frz w ds h1 (fun b hb => by cases hb), rfl, rfl, h2.1, fun z => h2.2 (w _ z)⟩
  | .rol ds, _, _, h, n => by
    obtain ⟨a, vs, e, h1, e2, h2⟩ := h
    exact ⟨a, vs, e, Owns.frz w ds h1 (fun b hb => by cases hb), rfl, h2.imp (fun h => ⟨h.1, fun z => h.2 (w _ z)⟩) id⟩
  | .tup ds, _, _, h, n => by
    obtain ⟨a, vs, e, h1, h2⟩ := h
    exact ⟨a, vs, e, Owns.frz w ds h1 n, h2⟩
  | .dic true ks ds, _, _, h, n => by
    obtain ⟨a, vs, B, e, l, h1, e2, h2⟩ := h
    subst e2
    exact ⟨a, vs, [], e, l, Owns.frz w ds h1 fun b hb => n b (List.mem_cons_of_mem _ hb), rfl, rfl, .inl h2, n a (List.mem_cons_self ..)⟩
  | .dic false ks ds, _, _, h, n => by
    obtain ⟨a, vs, B, e, l, h1, e2, e3, h2, n2⟩ := h
    subst e2 e3
    exact ⟨a, vs, [], e, l, Owns.frz w ds h1 fun b hb => (by cases hb), rfl, rfl, h2, fun z => n2 (w _ z)⟩
theorem Owns.frz (w : ∀ a, W' a → W a) : ∀ (ds : List D) {vs : List V} {A : List Addr}, Owns K W H vs ds A → (∀ a ∈ A, ¬ W' a) → Owns K W' H vs (De.frzs ds) []
  | [], _, _, h, _ => ⟨h.1, rfl⟩
  | d :: ds, _, _, h, n => by
    obtain ⟨v, ws, A1, A2, e1, e2, h1, h2⟩ := h
    subst e2
    exact ⟨v, ws, [], [], e1, rfl, Own.frz w d h1 fun a ha => n a (List.mem_append_left _ ha), Owns.frz w ds h2 fun a ha => n a (List.mem_append_right _ ha)⟩
end
mutual
theorem Own.al : ∀ (d : D) {v : V} {A : List Addr}, Own K W H v d A → ∀ a ∈ A, Al H a
  | .non, _, _, h => by rw [h.2]; intro a ha; cases ha
  | .bl _, _, _, h => by rw [h.2]; intro a ha; cases ha
  | .int _, _, _, h => by rw [h.2]; intro a ha; cases ha
  | .str _, _, _, h => by rw [h.2]; intro a ha; cases ha
  | .ty _, _, _, h => by rw [h.2]; intro a ha; cases ha
  | .lst true ds, _, _, h => by
    obtain ⟨a, vs, B, e, h1, e2, h2⟩ := h
    subst e2
    intro b hb
    rcases List.mem_cons.mp hb with hb | hb
    · rw [hb]; exact .lst h2
    · exact Owns.al ds h1 b hb
  | .lst false ds, _, _, h => by
    obtain ⟨a, vs, B, e, h1, e2, _⟩ := h
    subst e2
    intro b hb; cases hb
  | .rol ds, _, _, h => by
    obtain ⟨a, vs, e, h1, e2, _⟩ := h
    subst e2
    intro b hb; cases hb
  | .tup ds, _, _, h => by
    obtain ⟨a, vs, e, h1, h2⟩ := h
    exact Owns.al ds h1
  | .dic true ks ds, _, _, h => by
    obtain ⟨a, vs, B, e, l, h1, e2, h2⟩ := h
    subst e2
    intro b hb
    rcases List.mem_cons.mp hb with hb | hb
    · rw [hb]; exact .dK h2
    · exact Owns.al ds h1 b hb
  | .dic false ks ds, _, _, h => by
    obtain ⟨a, vs, B, e, l, h1, e2, _⟩ := h
    subst e2
    intro b hb; cases hb
theorem Owns.al : ∀ (ds : List D) {vs : List V} {A : List Addr}, Owns K W H vs ds A → ∀ a ∈ A, Al H a
  | [], _, _, h => by rw [h.2]; intro a ha; cases ha
  | d :: ds, _, _, h => by
    obtain ⟨v, ws, A1, A2, e1, e2, h1, h2⟩ := h
    subst e2
    intro a ha
    rcases List.mem_append.mp ha with ha | ha
    · exact Own.al d h1 a ha
    · exact Owns.al ds h2 a ha
end
mutual
/-- nothing shared: W does not matter -/
theorem Own.afw : ∀ (d : D) {v : V} {A : List Addr}, af d = true → Own K W H v d A → Own K W' H v d A
  | .non, _, _, _, h => h
  | .bl _, _, _, _, h => h
  | .int _, _, _, _, h => h
  | .str _, _, _, _, h => h
  | .ty _, _, _, _, h => h
  | .lst true ds, _, _, q, h => by
    obtain ⟨a, vs, B, e, h1, e2, h2⟩ := h
    exact ⟨a, vs, B, e, Owns.afw ds (by simpa [af] using q) h1, e2, h2⟩
  | .lst false ds, _, _, q, h => by simp [af] at q
  | .rol ds, _, _, q, h => by simp [af] at q
  | .tup ds, _, _, q, h => by
    obtain ⟨a, vs, e, h1, h2⟩ := h
    exact ⟨a, vs, e, Owns.afw ds (by simpa [af] using q) h1, h2⟩
  | .dic true ks ds, _, _, q, h => by
    obtain ⟨a, vs, B, e, l, h1, e2, h2⟩ := h
    exact ⟨a, vs, B, e, l, Owns.afw ds (by simpa [af] using q) h1, e2, h2⟩
  | .dic false ks ds, _, _, q, h => by simp [af] at q
theorem Owns.afw : ∀ (ds : List D) {vs : List V} {A : List Addr}, af.afs ds = true → Owns K W H vs ds A → Owns K W' H vs ds A
  | [], _, _, _, h => h
  | d :: ds, _, _, q, h => by
    obtain ⟨v, ws, A1, A2, e1, e2, h1, h2⟩ := h
    have q2 : af d = true ∧ af.afs ds = true := by simpa [af.afs] using q
    exact ⟨v, ws, A1, A2, e1, e2, Own.afw d q2.1 h1, Owns.afw ds q2.2 h2⟩
end
theorem Owns.length : ∀ {ds : List D} {vs : List V} {A : List Addr}, Owns K W H vs ds A → vs.length = ds.length
  | [], _, _, h => by rw [h.1]; rfl
  | d :: ds, _, _, h => by
    obtain ⟨v, ws, A1, A2, e1, e2, h1, h2⟩ := h
    rw [e1, List.length_cons, List.length_cons, Owns.length h2]
/-- shared items by place -/
theorem Owns.get : ∀ {ds : List D} {vs : List V} {i : Nat} {d : D}, Owns K W H vs ds [] → ds[i]? = some d → ∃ v, vs[i]? = some v ∧ Own K W H v d []
  | [], _, _, _, _, e => by simp at e
  | d :: ds, _, i, _, h, e => by
    obtain ⟨v, ws, A1, A2, e1, e2, h1, h2⟩ := h
    obtain ⟨z1, z2⟩ := List.append_eq_nil_iff.mp e2.symm
    subst z1 z2 e1
    cases i with
    | zero => simp at e; subst e; exact ⟨v, rfl, h1⟩
    | succ i =>
      obtain ⟨v', a, b⟩ := Owns.get (i := i) h2 (by simpa using e)
      exact ⟨v', by simpa using a, b⟩
theorem Owns.getV : ∀ {ds : List D} {vs : List V} {i : Nat} {v : V}, Owns K W H vs ds [] → vs[i]? = some v → ∃ d, ds[i]? = some d ∧ Own K W H v d [] := fun {ds vs i v} h e => by
  have hl := h.length
  have hi : i < ds.length := by rw [← hl]; exact (List.getElem?_eq_some_iff.mp e).1
  obtain ⟨w, a, b⟩ := Owns.get h (List.getElem?_eq_getElem hi)
  rw [a] at e; cases e
  exact ⟨_, List.getElem?_eq_getElem hi, b⟩
/-- from items to the list, all shared -/
theorem Owns.of : ∀ {ds : List D} {vs : List V}, vs.length = ds.length → (∀ (i : Nat) (d : D) (v : V), ds[i]? = some d → vs[i]? = some v → Own K W H v d []) → Owns K W H vs ds []
  | [], vs, l, _ => ⟨List.length_eq_zero_iff.mp l, rfl⟩
  | d :: ds, [], l, _ => by simp at l
  | d :: ds, v :: vs, l, h => ⟨v, vs, [], [], rfl, rfl, h 0 d v rfl rfl, Owns.of (by simpa using l) fun i d v a b => h (i + 1) d v (by simpa using a) (by simpa using b)⟩
theorem Owns.one {v : V} {d : D} {A : List Addr} (h : Own K W H v d A) : Owns K W H [v] [d] A := ⟨v, [], A, [], rfl, by simp, h, rfl, rfl⟩
theorem Owns.app : ∀ {ds es : List D} {vs ws : List V} {A B : List Addr}, Owns K W H vs ds A → Owns K W H ws es B → Owns K W H (vs ++ ws) (ds ++ es) (A ++ B)
  | [], es, vs, ws, A, B, h, g => by obtain ⟨e1, e2⟩ := h; subst e1 e2; exact g
  | d :: ds, es, vs, ws, A, B, h, g => by
    obtain ⟨v, us, A1, A2, e1, e2, h1, h2⟩ := h
    subst e1 e2
    exact ⟨v, us ++ ws, A1, A2 ++ B, rfl, by rw [List.append_assoc], h1, Owns.app h2 g⟩
end
end De
set_option Elab.async false
set_option linter.all false
set_option maxRecDepth 100000
namespace De
open PySem PySem.Spec PyProof.Rows L2

/-! ### results -/
structure Ex where
  c : Str
  fs : List (Str × Int)
inductive Res (α : Type) where
  | ok (a : α) | ex (e : Ex) | bad
def Res.bind {α β : Type} : Res α → (α → Res β) → Res β
  | .ok a, f => f a
  | .ex e, _ => .ex e
  | .bad, _ => .bad
def lift {α : Type} : Option α → Res α
  | some a => .ok a
  | none => .bad
abbrev Env := List (Option D)
structure Cn where
  K : PySem.W.Frag
  T : List (Addr × Str)
  mg : Str → Option Value
def ExcIs (mg : Str → Option Value) (H : Hp) (e : Ex) (c : Value) (o : Option Addr) : Prop :=
  mg e.c = some c ∧ match e.fs with
    | [] => True
    | fs => ∃ d vs, o = some d ∧ H d = some (.xd vs) ∧ ∀ f x, (f, x) ∈ fs → vs.lookup f = some (.int x)

/-- what an expression may read: the slots M, shared; W: what is not shared -/
structure Rel (C : Cn) (M : List Nat) (W : Wd) (σ : L2.St) (H : Hp) (ρ : Env) : Prop where
  v : ∀ i ∈ M, ∀ d, ρ[i]? = some (some d) → ∃ v, σ[i]? = some (some v) ∧ Own C.K W H v (frz d) []
  al : ∀ a, W a → Al H a
  tb : LamX.Tabs C.T H
  len : σ.length = ρ.length
theorem Rel.ext {C : Cn} {M : List Nat} {W W' : Wd} {σ : L2.St} {H H' : Hp} {ρ : Env} (r : Rel C M W σ H ρ) (x : Ext C.T H H') (w : ∀ a, W' a → W a ∨ (¬ Al H a ∧ Al H' a)) : Rel C M W' σ H' ρ where
  v := fun i hi d e => by
    obtain ⟨v, e1, o⟩ := r.v i hi d e
    exact ⟨v, e1, o.ext x (fun a h => (w a h).imp id (fun z => z.1)) _⟩
  al := fun a h => by
    rcases w a h with h | h
    · exact (r.al a h).ext x
    · exact h.2
  tb := x.t r.tb
  len := r.len
theorem Rel.ext1 {C : Cn} {M : List Nat} {W : Wd} {σ : L2.St} {H H' : Hp} {ρ : Env} (r : Rel C M W σ H ρ) (x : Ext C.T H H') : Rel C M W σ H' ρ := r.ext x fun _ h => .inl h

/-- a value is wanted -/
def RD (C : Cn) (W : Wd) (H : Hp) (o : Option D) (Q : VK) : Prop := match o with
  | some d => ∀ v H' A, Ext C.T H H' → (∀ a ∈ A, ¬ Al H a) → A.Nodup → Own C.K (W.plus A) H' v d A → Q v H'
  | none => False
def Post (C : Cn) (W : Wd) (H : Hp) (r : Res D) (Q : VK) (Wx : XK) : Prop := match r with
  | .ok d => ∀ v H' A, Ext C.T H H' → (∀ a ∈ A, ¬ Al H a) → A.Nodup → Own C.K (W.plus A) H' v d A → Q v H'
  | .ex e => ∀ c o H', Ext C.T H H' → ExcIs C.mg H' e c o → Wx c o H'
  | .bad => False
def PostL (C : Cn) (W : Wd) (H : Hp) (r : Res (List D)) (Q : List V → Hp → Prop) (Wx : XK) : Prop := match r with
  | .ok ds => ∀ vs H' A, Ext C.T H H' → (∀ a ∈ A, ¬ Al H a) → A.Nodup → Owns C.K (W.plus A) H' vs ds A → Q vs H'
  | .ex e => ∀ c o H', Ext C.T H H' → ExcIs C.mg H' e c o → Wx c o H'
  | .bad => False
/-- a test: True or False, nothing kept -/
def PostB (C : Cn) (H : Hp) (r : Res Bool) (Q : Bool → Hp → Prop) (Wx : XK) : Prop := match r with
  | .ok b => ∀ H', Ext C.T H H' → Q b H'
  | .ex e => ∀ c o H', Ext C.T H H' → ExcIs C.mg H' e c o → Wx c o H'
  | .bad => False
def tD (C : Cn) (M : List Nat) (Wx : WX) (f : Env → Res D) : TE := fun σ H Q => ∃ ρ W, Rel C M W σ H ρ ∧ Post C W H (f ρ) Q fun c o H' => Wx c o σ H'
def tDL (C : Cn) (M : List Nat) (Wx : WX) (f : Env → Res (List D)) : TA := fun σ H Q => ∃ ρ W, Rel C M W σ H ρ ∧ PostL C W H (f ρ) Q fun c o H' => Wx c o σ H'
def tDB (C : Cn) (M : List Nat) (Wx : WX) (f : Env → Res Bool) : TT := fun σ H Q => ∃ ρ W, Rel C M W σ H ρ ∧ PostB C H (f ρ) Q fun c o H' => Wx c o σ H'

section
variable {C : Cn} {W : Wd} {H H' : Hp} {Q : VK} {Wx : XK} {r : Res D}
theorem notAl {T : List (Addr × Str)} {H H' : Hp} (x : Ext T H H') {A : List Addr} (n : ∀ a ∈ A, ¬ Al H' a) : ∀ a ∈ A, ¬ Al H a := fun a ha z => n a ha (z.ext x)
theorem Post.ext (p : Post C W H r Q Wx) (x : Ext C.T H H') : Post C W H' r Q Wx := by
  cases r with
  | ok d => exact fun v H2 A x2 n nd o => p v H2 A (x.trans x2) (notAl x n) nd o
  | ex e => exact fun c o H2 x2 q => p c o H2 (x.trans x2) q
  | bad => exact p
theorem PostL.ext {r : Res (List D)} {Q : List V → Hp → Prop} (p : PostL C W H r Q Wx) (x : Ext C.T H H') : PostL C W H' r Q Wx := by
  cases r with
  | ok d => exact fun v H2 A x2 n nd o => p v H2 A (x.trans x2) (notAl x n) nd o
  | ex e => exact fun c o H2 x2 q => p c o H2 (x.trans x2) q
  | bad => exact p
theorem PostB.ext {r : Res Bool} {Q : Bool → Hp → Prop} (p : PostB C H r Q Wx) (x : Ext C.T H H') : PostB C H' r Q Wx := by
  cases r with
  | ok d => exact fun H2 x2 => p H2 (x.trans x2)
  | ex e => exact fun c o H2 x2 q => p c o H2 (x.trans x2) q
  | bad => exact p
theorem RD.post {o : Option D} (p : Post C W H (lift o) Q Wx) : RD C W H o Q := by
  cases o with
  | some d => exact p
  | none => exact p
theorem RD.to {o : Option D} (p : RD C W H o Q) : Post C W H (lift o) Q Wx := by
  cases o with
  | some d => exact p
  | none => exact p
/-- a value that stands already -/
theorem Post.same {v : V} {d : D} (p : Post C W H (.ok d) Q Wx) (o : Own C.K W H v d []) : Q v H :=
  p v H [] (.refl H) (fun a h => by cases h) .nil (o.ext (.refl (T := C.T) H) (fun a h => h.imp id (fun z => by cases z)) _)
theorem RD.same {v : V} {d : D} (p : RD C W H (some d) Q) (o : Own C.K W H v d []) : Q v H := Post.same (Wx := fun _ _ _ => False) (C := C) p o
theorem RD.int {i : Int} (p : RD C W H (some (.int i)) Q) : Q (.int i) H := p.same ⟨rfl, rfl⟩
theorem RD.bl {i : Bool} (p : RD C W H (some (.bl i)) Q) : Q (.bl i) H := p.same ⟨rfl, rfl⟩
theorem RD.str {i : Str} (p : RD C W H (some (.str i)) Q) : Q (.str i) H := p.same ⟨rfl, rfl⟩
theorem RD.non (p : RD C W H (some .non) Q) : Q .non H := p.same ⟨rfl, rfl⟩
/-- a new list of shared things -/
theorem RD.lst {ds : List D} {vs : List V} (p : RD C W H (some (.lst true ds)) Q) (o : Owns C.K W H vs ds []) {a : Addr} (h : H a = none) : Q (.ref a) (upd H a (.lst vs)) :=
  p _ _ [a] (.new h) (fun b hb => by rw [List.mem_singleton.mp hb]; exact Al.no h) (by simp)
    ⟨a, vs, [], rfl, o.ext (.new (T := C.T) h) (fun b hb => by
      rcases hb with hb | hb
      · exact .inl hb
      · rw [List.mem_singleton.mp hb]; exact .inr (Al.no h)) _, rfl, upd_same⟩
theorem RD.tup {ds : List D} {vs : List V} (p : RD C W H (some (.tup ds)) Q) (o : Owns C.K W H vs ds []) {a : Addr} (h : H a = none) : Q (.ref a) (upd H a (.tup vs)) :=
  p _ _ [] (.new h) (fun b hb => by cases hb) .nil
    ⟨a, vs, rfl, o.ext (.new (T := C.T) h) (fun b hb => by
      rcases hb with hb | hb
      · exact .inl hb
      · cases hb) _, SqT.of upd_same⟩
end

section
variable {C : Cn} {W : Wd} {H : Hp} {Wx : XK}
theorem Post.mono {r : Res D} {Q Q' : VK} (p : Post C W H r Q Wx) (q : ∀ v H', Q v H' → Q' v H') : Post C W H r Q' Wx := by
  cases r with
  | ok d => exact fun v H2 A x n nd o => q _ _ (p v H2 A x n nd o)
  | ex e => exact p
  | bad => exact p
theorem PostB.mono {r : Res Bool} {Q Q' : Bool → Hp → Prop} (p : PostB C H r Q Wx) (q : ∀ v H', Q v H' → Q' v H') : PostB C H r Q' Wx := by
  cases r with
  | ok d => exact fun H2 x => q _ _ (p H2 x)
  | ex e => exact p
  | bad => exact p
/-- a part's value, shared from then on -/
theorem Post.bind {r : Res D} {g : D → Res D} {Q : VK} (al : ∀ a, W a → Al H a) (p : Post C W H (r.bind g) Q Wx) :
    Post C W H r (fun y H2 => ∃ d, Ext C.T H H2 ∧ Own C.K W H2 y (frz d) [] ∧ Post C W H2 (g d) Q Wx) Wx := by
  cases r with
  | ok d => exact fun v H2 A x n nd o => ⟨d, x, o.frz (fun a h => .inl h) _ (fun a ha z => n a ha (al a z)), Post.ext (r := g d) p x⟩
  | ex e => exact p
  | bad => exact p
theorem Post.bindT {r : Res D} {g : D → Res Bool} {Q : Bool → Hp → Prop} (al : ∀ a, W a → Al H a) (p : PostB C H (r.bind g) Q Wx) :
    Post C W H r (fun y H2 => ∃ d, Ext C.T H H2 ∧ Own C.K W H2 y (frz d) [] ∧ PostB C H2 (g d) Q Wx) Wx := by
  cases r with
  | ok d => exact fun v H2 A x n nd o => ⟨d, x, o.frz (fun a h => .inl h) _ (fun a ha z => n a ha (al a z)), PostB.ext (r := g d) p x⟩
  | ex e => exact p
  | bad => exact p
theorem PostB.bind {r : Res Bool} {g : Bool → Res D} {Q : VK} (p : Post C W H (r.bind g) Q Wx) :
    PostB C H r (fun b H2 => Ext C.T H H2 ∧ Post C W H2 (g b) Q Wx) Wx := by
  cases r with
  | ok d => exact fun H2 x => ⟨x, Post.ext (r := g d) p x⟩
  | ex e => exact p
  | bad => exact p
theorem PostB.bindT {r : Res Bool} {g : Bool → Res Bool} {Q : Bool → Hp → Prop} (p : PostB C H (r.bind g) Q Wx) :
    PostB C H r (fun b H2 => Ext C.T H H2 ∧ PostB C H2 (g b) Q Wx) Wx := by
  cases r with
  | ok d => exact fun H2 x => ⟨x, PostB.ext (r := g d) p x⟩
  | ex e => exact p
  | bad => exact p
theorem PostL.bind {r : Res (List D)} {g : List D → Res D} {Q : VK} (al : ∀ a, W a → Al H a) (p : Post C W H (r.bind g) Q Wx) :
    PostL C W H r (fun ys H2 => ∃ ds, Ext C.T H H2 ∧ Owns C.K W H2 ys (frzs ds) [] ∧ Post C W H2 (g ds) Q Wx) Wx := by
  cases r with
  | ok d => exact fun v H2 A x n nd o => ⟨d, x, o.frz (fun a h => .inl h) _ (fun a ha z => n a ha (al a z)), Post.ext (r := g d) p x⟩
  | ex e => exact p
  | bad => exact p
end

section
variable {X : Cx} {e : Expr}
theorem pe_weak {t t' : TE} (h : PE X e t) (w : ∀ σ H Q, t' σ H Q → t σ H Q) : PE X e t' := ⟨fun pins s σ H Q I q => h.run pins s σ H Q I (w σ H Q q)⟩
theorem pt_weak {t t' : TT} (h : PT X e t) (w : ∀ σ H Q, t' σ H Q → t σ H Q) : PT X e t' := ⟨fun pins s σ H Q I q => h.run pins s σ H Q I (w σ H Q q)⟩
theorem pa_weak {es : List Expr} {t t' : TA} (h : PA X es t) (w : ∀ σ H Q, t' σ H Q → t σ H Q) : PA X es t' := ⟨fun pos pins s σ H Q I q => h.run pos pins s σ H Q I (w σ H Q q)⟩
theorem ps_weak {st : Stmt} {t t' : TS} (h : PS X st t) (w : ∀ D σ H, t' D σ H → t D σ H) : PS X st t' := ⟨fun pins s σ H D I q => h.run pins s σ H D I (w D σ H q)⟩
theorem pss_weak {st : List Stmt} {t t' : TS} (h : PSs X st t) (w : ∀ D σ H, t' D σ H → t D σ H) : PSs X st t' := ⟨fun pins s σ H D I q => h.run pins s σ H D I (w D σ H q)⟩
end

/-! ### the judgements: expressions -/
section
variable (X : Cx) (T : List (Addr × Str)) (M : List Nat) (Wx : WX)
abbrev DE (e : Expr) (f : Env → Res D) : Prop := PE X e (tD ⟨X.K, T, X.mg⟩ M Wx f)
abbrev DT (e : Expr) (f : Env → Res Bool) : Prop := PT X e (tDB ⟨X.K, T, X.mg⟩ M Wx f)
def DA (es : List Expr) (f : Env → Res (List D)) : Prop := PA X es (tDL ⟨X.K, T, X.mg⟩ M Wx f) ∧ ∀ ρ ds, f ρ = .ok ds → ds.length = es.length
end
def get (ρ : Env) (i : Nat) : Res D := match ρ[i]? with
  | some (some d) => .ok (frz d)
  | _ => .bad
mutual
theorem frz_frz : ∀ d : D, frz (frz d) = frz d
  | .non => rfl
  | .bl _ => rfl
  | .int _ => rfl
  | .str _ => rfl
  | .ty _ => rfl
  | .lst _ ds => by show D.lst false (frzs (frzs ds)) = _; rw [frzs_frzs ds]; rfl
  | .tup ds => by show D.tup (frzs (frzs ds)) = _; rw [frzs_frzs ds]; rfl
  | .rol ds => by show D.rol (frzs (frzs ds)) = _; rw [frzs_frzs ds]; rfl
  | .dic _ ks ds => by show D.dic false ks (frzs (frzs ds)) = _; rw [frzs_frzs ds]; rfl
theorem frzs_frzs : ∀ ds : List D, frzs (frzs ds) = frzs ds
  | [] => rfl
  | d :: ds => by show frz (frz d) :: frzs (frzs ds) = _; rw [frz_frz d, frzs_frzs ds]; rfl
end
section
variable {X : Cx} {T : List (Addr × Str)} {M : List Nat} {Wx : WX} {pos : Pos}
theorem de_var (i : Nat) {x : Str} (hi : i ∈ M := by decide) (hN : X.N[i]? = some x := by rfl) (hv : Vis X.env.scope x := by first | exact Or.inl rfl | exact Or.inr (Or.inl rfl) | exact Or.inr (Or.inr rfl)) (hd : (x == ("__debug__" : Str)) = false := by decide)
    (hcd : (x == ("__classdict__" : Str)) = false := by decide) : DE X T M Wx (.Name x pos) (fun ρ => get ρ i) := by
  refine pe_weak (pe_var hN hv hd hcd) fun σ H Q h => ?_
  obtain ⟨ρ, W, r, p⟩ := h
  dsimp only at p
  unfold get at p
  split at p
  · rename_i d e
    obtain ⟨v, e1, o⟩ := r.v i hi d e
    exact ⟨v, e1, p.same o⟩
  · exact p.elim
theorem de_const {e : Expr} {v : V} (d : D) (h : PE X e (tC v)) (o : ∀ K W H, Own K W H v d []) : DE X T M Wx e (fun _ => .ok d) :=
  pe_weak h fun σ H Q ⟨ρ, W, r, p⟩ => p.same (o _ _ _)
theorem de_int {i j} : DE X T M Wx (.Constant (.int i) j pos) (fun _ => .ok (.int i)) := de_const (.int i) pe_int fun _ _ _ => ⟨rfl, rfl⟩
theorem de_bl {i j} : DE X T M Wx (.Constant (.bool i) j pos) (fun _ => .ok (.bl i)) := de_const (.bl i) pe_bl fun _ _ _ => ⟨rfl, rfl⟩
theorem de_non {j} : DE X T M Wx (.Constant .none j pos) (fun _ => .ok .non) := de_const .non pe_non fun _ _ _ => ⟨rfl, rfl⟩
theorem de_str {i j} : DE X T M Wx (.Constant (.str i) j pos) (fun _ => .ok (.str i)) := de_const (.str i) pe_str fun _ _ _ => ⟨rfl, rfl⟩
theorem de_gint {x : Str} {i : Int} (hg : Gl X x) (hm : ∃ t, X.mg x = some (.int i t)) (hd : (x == ("__debug__" : Str)) = false := by decide) : DE X T M Wx (.Name x pos) (fun _ => .ok (.int i)) := by
  obtain ⟨t, hm⟩ := hm
  exact de_const (v := .int i) (.int i) (pe_glob hg hm ⟨t, rfl⟩ hd) fun _ _ _ => ⟨rfl, rfl⟩
theorem de_gstr {x : Str} {i : Str} (hg : Gl X x) (hm : ∃ t, X.mg x = some (.str i t)) (hd : (x == ("__debug__" : Str)) = false := by decide) : DE X T M Wx (.Name x pos) (fun _ => .ok (.str i)) := by
  obtain ⟨t, hm⟩ := hm
  exact de_const (v := .str i) (.str i) (pe_glob hg hm ⟨t, rfl⟩ hd) fun _ _ _ => ⟨rfl, rfl⟩

/-! ### operators by values -/
def r1D (C : Cn) (g : D → Option D) : V → Hp → VK → Prop := fun x H Q => ∃ W d, (∀ a, W a → Al H a) ∧ LamX.Tabs C.T H ∧ Own C.K W H x d [] ∧ RD C W H (g d) Q
def r2D (C : Cn) (g : D → D → Option D) : R2 := fun x y H Q => ∃ W d e, (∀ a, W a → Al H a) ∧ LamX.Tabs C.T H ∧ Own C.K W H x d [] ∧ Own C.K W H y e [] ∧ RD C W H (g d e) Q
def rsD (C : Cn) (g : List D → Option D) : List V → Hp → VK → Prop := fun xs H Q => ∃ W ds, (∀ a, W a → Al H a) ∧ LamX.Tabs C.T H ∧ Owns C.K W H xs ds [] ∧ RD C W H (g ds) Q
abbrev Cn.of (X : Cx) (T : List (Addr × Str)) : Cn := ⟨X.K, T, X.mg⟩
def op2 (g : D → D → Option D) (fa fb : Env → Res D) : Env → Res D := fun ρ => (fa ρ).bind fun x => (fb ρ).bind fun y => lift (g (frz x) (frz y))
def op1 (g : D → Option D) (fa : Env → Res D) : Env → Res D := fun ρ => (fa ρ).bind fun x => lift (g (frz x))
theorem op2_read {C : Cn} {g : D → D → Option D} {fa fb : Env → Res D} {σ : L2.St} {H : Hp} {Q : VK} (h : tD C M Wx (op2 g fa fb) σ H Q) : tOp (r2D C g) (tD C M Wx fa) (tD C M Wx fb) σ H Q := by
  obtain ⟨ρ, W, r, p⟩ := h
  refine ⟨ρ, W, r, (Post.bind r.al p).mono fun x H1 ⟨d, x1, o1, p1⟩ => ?_⟩
  have r1 := r.ext1 x1
  refine ⟨ρ, W, r1, (Post.bind r1.al p1).mono fun y H2 ⟨e, x2, o2, p2⟩ => ?_⟩
  exact ⟨W, _, _, (r1.ext1 x2).al, (r1.ext1 x2).tb, o1.ext x2 (fun a h => .inl h) _, o2, RD.post p2⟩
theorem de_op {op : Operator} {g : D → D → Option D} {a b : Expr} {fa fb : Env → Res D} (ho : OpR X (binaryOp op) (r2D (Cn.of X T) g)) (ha : DE X T M Wx a fa) (hb : DE X T M Wx b fb) : DE X T M Wx (.BinOp a op b pos) (op2 g fa fb) :=
  pe_weak (pe_op ho ha hb) fun _ _ _ h => op2_read h
theorem de_cmp {op : CmpOp} {g : D → D → Option D} {a b : Expr} {fa fb : Env → Res D} (ho : OpR X (compareOp op) (r2D (Cn.of X T) g)) (ha : DE X T M Wx a fa) (hb : DE X T M Wx b fb) (hm : behindInMarks op b = false := by first | exact nomark _ | rfl) :
    DE X T M Wx (.Compare a [op] [b] pos) (op2 g fa fb) :=
  pe_weak (pe_cmpR ho ha hb hm) fun _ _ _ h => op2_read h
theorem de_un {op : UnaryOp} {g : D → Option D} {a : Expr} {fa : Env → Res D} (ho : UnR X (unaryOp op) (r1D (Cn.of X T) g)) (ha : DE X T M Wx a fa) : DE X T M Wx (.UnaryOp op a pos) (op1 g fa) := by
  refine pe_weak (pe_un ho ha) fun σ H Q h => ?_
  obtain ⟨ρ, W, r, p⟩ := h
  refine ⟨ρ, W, r, (Post.bind r.al p).mono fun x H1 ⟨d, x1, o1, p1⟩ => ?_⟩
  exact ⟨W, _, (r.ext1 x1).al, (r.ext1 x1).tb, o1, RD.post p1⟩
theorem de_ix {g : D → D → Option D} {a b : Expr} {fa fb : Env → Res D} (ho : IxR X (r2D (Cn.of X T) g)) (ha : DE X T M Wx a fa) (hb : DE X T M Wx b fb) (hs : PlainIx b := by exact fun _ _ => rfl) : DE X T M Wx (.Subscript a b pos) (op2 g fa fb) :=
  pe_weak (pe_ix ho ha hb hs) fun _ _ _ h => op2_read h
end
end De
set_option Elab.async false
set_option linter.all false
set_option maxRecDepth 100000
namespace De
open PySem PySem.Spec PyProof.Rows L2

/-! ### tests -/
def toB : D → Res Bool
  | .bl b => .ok b
  | _ => .bad
def tst (f : Env → Res D) : Env → Res Bool := fun ρ => (f ρ).bind toB
def andB (f g : Env → Res Bool) : Env → Res Bool := fun ρ => (f ρ).bind fun b => if b = true then g ρ else .ok false
def orB (f g : Env → Res Bool) : Env → Res Bool := fun ρ => (f ρ).bind fun b => if b = true then .ok true else g ρ
def notB (f : Env → Res Bool) : Env → Res Bool := fun ρ => (f ρ).bind fun b => .ok (!b)
def andV (f g : Env → Res D) : Env → Res D := fun ρ => (tst f ρ).bind fun b => if b = true then g ρ else .ok (.bl false)
def orV (f g : Env → Res D) : Env → Res D := fun ρ => (tst f ρ).bind fun b => if b = true then .ok (.bl true) else g ρ
def notV (f : Env → Res D) : Env → Res D := fun ρ => (tst f ρ).bind fun b => .ok (.bl (!b))
def ifV (t : Env → Res Bool) (f g : Env → Res D) : Env → Res D := fun ρ => (t ρ).bind fun b => if b = true then f ρ else g ρ
section
variable {C : Cn} {M : List Nat} {Wx : WX} {σ : L2.St} {H : Hp}
theorem Post.toB {W : Wd} {Wx : XK} {r : Res D} {Q : Bool → Hp → Prop} (p : PostB C H (r.bind toB) Q Wx) : Post C W H r (fun x H1 => ∃ k, x = .bl k ∧ Q k H1) Wx := by
  cases r with
  | ok d =>
    intro v H2 A x n nd o
    cases d with
    | bl b => obtain ⟨e, _⟩ := o; exact ⟨b, e, p H2 x⟩
    | _ => exact p.elim
  | ex e => exact p
  | bad => exact p
theorem Res.bind_bind {α β γ : Type} (r : Res α) (f : α → Res β) (g : β → Res γ) : (r.bind f).bind g = r.bind fun a => (f a).bind g := by cases r <;> rfl
end
section
variable {X : Cx} {T : List (Addr × Str)} {M : List Nat} {Wx : WX} {pos : Pos} {a b : Expr} {rest : List Expr}
theorem dt_val {f : Env → Res D} (h : DE X T M Wx a f) (he : ∀ whole, isTrue a X.env whole = (do let v ← whole; standAt a.pos; holding [v] (truthy v)) := by intro _; rfl) : DT X T M Wx a (tst f) :=
  pt_weak (pt_val h he) fun σ H Q ⟨ρ, W, r, p⟩ => ⟨ρ, W, r, (Post.toB p)⟩
theorem dt_cmp {op : CmpOp} {g : D → D → Option D} {fa fb : Env → Res D} (ho : OpR X (compareOp op) (r2D (Cn.of X T) g)) (ha : DE X T M Wx a fa) (hb : DE X T M Wx b fb) (hm : behindInMarks op b = false := by first | exact nomark _ | rfl) :
    DT X T M Wx (.Compare a [op] [b] pos) (tst (op2 g fa fb)) :=
  pt_weak (pt_cmpR ho ha hb hm) fun σ H Q ⟨ρ, W, r, p⟩ => op2_read ⟨ρ, W, r, (Post.toB p)⟩
theorem dt_and1 {f : Env → Res Bool} (ha : DT X T M Wx a f) : PW X (.BoolOp .And [a] pos) (tDB (Cn.of X T) M Wx f) := pw_and1 ha
theorem dt_or1 {f : Env → Res Bool} (ha : DT X T M Wx a f) : PW X (.BoolOp .Or [a] pos) (tDB (Cn.of X T) M Wx f) := pw_or1 ha
theorem pw_weak {e : Expr} {t t' : TT} (h : PW X e t) (w : ∀ σ H Q, t' σ H Q → t σ H Q) : PW X e t' := ⟨fun wh pins s σ H Q I q => h.run wh pins s σ H Q I (w σ H Q q)⟩
theorem dt_and {f g : Env → Res Bool} (ha : DT X T M Wx a f) (hb : PW X (.BoolOp .And (b :: rest) pos) (tDB (Cn.of X T) M Wx g)) : PW X (.BoolOp .And (a :: b :: rest) pos) (tDB (Cn.of X T) M Wx (andB f g)) :=
  pw_weak (pw_and ha hb) fun σ H Q ⟨ρ, W, r, p⟩ => ⟨ρ, W, r, (PostB.bindT p).mono fun c H1 ⟨x, q⟩ => by
    cases c with
    | true => rw [if_pos rfl] at q ⊢; exact ⟨ρ, W, r.ext1 x, q⟩
    | false => rw [if_neg (by decide)] at q ⊢; exact q H1 (.refl _)⟩
theorem dt_or {f g : Env → Res Bool} (ha : DT X T M Wx a f) (hb : PW X (.BoolOp .Or (b :: rest) pos) (tDB (Cn.of X T) M Wx g)) : PW X (.BoolOp .Or (a :: b :: rest) pos) (tDB (Cn.of X T) M Wx (orB f g)) :=
  pw_weak (pw_or ha hb) fun σ H Q ⟨ρ, W, r, p⟩ => ⟨ρ, W, r, (PostB.bindT p).mono fun c H1 ⟨x, q⟩ => by
    cases c with
    | false => rw [if_neg (by decide)] at q ⊢; exact ⟨ρ, W, r.ext1 x, q⟩
    | true => rw [if_pos rfl] at q ⊢; exact q H1 (.refl _)⟩
theorem dt_not {f : Env → Res Bool} (ha : DT X T M Wx a f) : DT X T M Wx (.UnaryOp .Not a pos) (notB f) :=
  pt_weak (pt_not ha) fun σ H Q ⟨ρ, W, r, p⟩ => ⟨ρ, W, r, (PostB.bindT p).mono fun c H1 ⟨x, q⟩ => q H1 (.refl _)⟩
theorem de_one {op} {f : Env → Res D} (h : DE X T M Wx a f) : DE X T M Wx (.BoolOp op [a] pos) f := pe_one h
theorem de_and {f g : Env → Res D} (ha : DE X T M Wx a f) (hb : DE X T M Wx (.BoolOp .And (b :: rest) pos) g) : DE X T M Wx (.BoolOp .And (a :: b :: rest) pos) (andV f g) :=
  pe_weak (pe_and ha hb) fun σ H Q ⟨ρ, W, r, p⟩ => ⟨ρ, W, r, (Post.toB (W := W) (PostB.bind p)).mono fun v H1 ⟨c, e, x, q⟩ => ⟨c, e, by
    cases c with
    | true => rw [if_pos rfl] at q ⊢; exact ⟨ρ, W, r.ext1 x, q⟩
    | false => rw [if_neg (by decide)] at q ⊢; exact Post.same q ⟨rfl, rfl⟩⟩⟩
theorem de_or {f g : Env → Res D} (ha : DE X T M Wx a f) (hb : DE X T M Wx (.BoolOp .Or (b :: rest) pos) g) : DE X T M Wx (.BoolOp .Or (a :: b :: rest) pos) (orV f g) :=
  pe_weak (pe_or ha hb) fun σ H Q ⟨ρ, W, r, p⟩ => ⟨ρ, W, r, (Post.toB (W := W) (PostB.bind p)).mono fun v H1 ⟨c, e, x, q⟩ => ⟨c, e, by
    cases c with
    | false => rw [if_neg (by decide)] at q ⊢; exact ⟨ρ, W, r.ext1 x, q⟩
    | true => rw [if_pos rfl] at q ⊢; exact Post.same q ⟨rfl, rfl⟩⟩⟩
theorem de_not {f : Env → Res D} (ha : DE X T M Wx a f) : DE X T M Wx (.UnaryOp .Not a pos) (notV f) :=
  pe_weak (pe_not ha) fun σ H Q ⟨ρ, W, r, p⟩ => ⟨ρ, W, r, (Post.toB (W := W) (PostB.bind p)).mono fun v H1 ⟨c, e, x, q⟩ => ⟨c, e, Post.same q ⟨rfl, rfl⟩⟩⟩
theorem de_if {c : Expr} {t : Env → Res Bool} {f g : Env → Res D} (hc : DT X T M Wx c t) (ha : DE X T M Wx a f) (hb : DE X T M Wx b g) : DE X T M Wx (.IfExp c a b pos) (ifV t f g) :=
  pe_weak (pe_ifExp hc ha hb) fun σ H Q ⟨ρ, W, r, p⟩ => ⟨ρ, W, r, (PostB.bind p).mono fun c H1 ⟨x, q⟩ => by
    cases c with
    | true => rw [if_pos rfl] at q ⊢; exact ⟨ρ, W, r.ext1 x, q⟩
    | false => rw [if_neg (by decide)] at q ⊢; exact ⟨ρ, W, r.ext1 x, q⟩⟩
/-- a < b < c -/
def chn (g g' : D → D → Option D) (fa fb fc : Env → Res D) : Env → Res D := fun ρ => (fa ρ).bind fun x => (fb ρ).bind fun y => (lift (g (frz x) (frz y))).bind fun z => (toB z).bind fun k => if k = true then (fc ρ).bind fun w => lift (g' (frz y) (frz w)) else .ok (.bl false)
theorem chn_read {C : Cn} {g g' : D → D → Option D} {fa fb fc : Env → Res D} {σ : L2.St} {H : Hp} {Q : VK} (h : tD C M Wx (chn g g' fa fb fc) σ H Q) :
    tChain (r2D C g) (r2D C g') (tD C M Wx fa) (tD C M Wx fb) (tD C M Wx fc) σ H Q := by
  obtain ⟨ρ, W, r, p⟩ := h
  refine ⟨ρ, W, r, (Post.bind r.al p).mono fun x H1 ⟨d, x1, o1, p1⟩ => ?_⟩
  have r1 := r.ext1 x1
  refine ⟨ρ, W, r1, (Post.bind r1.al p1).mono fun y H2 ⟨e, x2, o2, p2⟩ => ?_⟩
  have r2 := r1.ext1 x2
  refine ⟨W, _, _, r2.al, r2.tb, o1.ext x2 (fun a h => .inl h) _, o2, ?_⟩
  cases hg : g (frz d) (frz e) with
  | none => rw [hg] at p2; exact p2
  | some z =>
    rw [hg] at p2
    intro v H3 A x3 n nd o3
    have p2 : Post C W H2 ((toB z).bind fun k => if k = true then (fc ρ).bind fun w => lift (g' (frz e) (frz w)) else .ok (.bl false)) Q _ := p2
    cases z with
    | bl k =>
      obtain ⟨ev, _⟩ := o3
      refine ⟨k, ev, ?_⟩
      have p3 : Post C W H3 (if k = true then (fc ρ).bind fun w => lift (g' (frz e) (frz w)) else .ok (.bl false)) Q _ := Post.ext p2 x3
      cases k with
      | true =>
        rw [if_pos rfl] at p3 ⊢
        have r3 := r2.ext1 x3
        refine ⟨ρ, W, r3, (Post.bind r3.al p3).mono fun w H4 ⟨e4, x4, o4, p4⟩ => ?_⟩
        exact ⟨W, _, _, (r3.ext1 x4).al, (r3.ext1 x4).tb, (o2.ext x3 (fun a h => .inl h) _).ext x4 (fun a h => .inl h) _, o4, RD.post p4⟩
      | false =>
        rw [if_neg (by decide)] at p3 ⊢
        exact Post.same p3 ⟨rfl, rfl⟩
    | _ => exact p2.elim
theorem de_chain {op op' : CmpOp} {g g' : D → D → Option D} {c : Expr} {fa fb fc : Env → Res D} (ho : OpR X (compareOp op) (r2D (Cn.of X T) g)) (ho' : OpR X (compareOp op') (r2D (Cn.of X T) g')) (ha : DE X T M Wx a fa) (hb : DE X T M Wx b fb) (hc : DE X T M Wx c fc)
    (hm : lastMarks [op, op'] [b, c] = false := by with_unfolding_all rfl) : DE X T M Wx (.Compare a [op, op'] [b, c] pos) (chn g g' fa fb fc) :=
  pe_weak (pe_chain ho ho' ha hb hc hm) fun _ _ _ h => chn_read h
theorem dt_chain {op op' : CmpOp} {g g' : D → D → Option D} {c : Expr} {fa fb fc : Env → Res D} (ho : OpR X (compareOp op) (r2D (Cn.of X T) g)) (ho' : OpR X (compareOp op') (r2D (Cn.of X T) g')) (ha : DE X T M Wx a fa) (hb : DE X T M Wx b fb) (hc : DE X T M Wx c fc)
    (hm : lastMarks [op, op'] [b, c] = false := by with_unfolding_all rfl) : DT X T M Wx (.Compare a [op, op'] [b, c] pos) (tst (chn g g' fa fb fc)) :=
  pt_weak (pt_chain ho ho' ha hb hc hm) fun σ H Q ⟨ρ, W, r, p⟩ => chn_read ⟨ρ, W, r, (Post.toB p)⟩

/-! ### lists of arguments, displays -/
def nilA : Env → Res (List D) := fun _ => .ok []
def consA (f : Env → Res D) (fs : Env → Res (List D)) : Env → Res (List D) := fun ρ => (f ρ).bind fun d => (fs ρ).bind fun ds => .ok (d :: ds)
theorem da_nil : DA X T M Wx [] nilA := ⟨pa_weak pa_nil fun σ H Q ⟨ρ, W, r, p⟩ => p [] H [] (.refl _) (fun a h => by cases h) .nil ⟨rfl, rfl⟩, fun ρ ds h => by cases h; rfl⟩
theorem da_cons {es : List Expr} {f : Env → Res D} {fs : Env → Res (List D)} (ha : DE X T M Wx a f) (hr : DA X T M Wx es fs) (hs : starEach (a :: es) X.env = (false, eval a X.env) :: starEach es X.env := by rfl) : DA X T M Wx (a :: es) (consA f fs) := by
  refine ⟨pa_weak (pa_cons ha hr.1 hs) fun σ H Q ⟨ρ, W, r, p⟩ => ⟨ρ, W, r, ?_⟩, fun ρ ds h => ?_⟩
  rotate_left
  · unfold consA at h
    cases e : f ρ with
    | ex e' => rw [e] at h; cases h
    | bad => rw [e] at h; cases h
    | ok d =>
      rw [e] at h
      cases e2 : fs ρ with
      | ex e' =>
        have h : (fs ρ).bind (fun ds => .ok (d :: ds)) = .ok ds := h
        rw [e2] at h; cases h
      | bad =>
        have h : (fs ρ).bind (fun ds => .ok (d :: ds)) = .ok ds := h
        rw [e2] at h; cases h
      | ok es' =>
        have h : (fs ρ).bind (fun ds => .ok (d :: ds)) = .ok ds := h
        rw [e2] at h
        cases h
        exact congrArg Nat.succ (hr.2 ρ es' e2)
  unfold consA at p
  cases e : f ρ with
  | ex e' => rw [e] at p; exact p
  | bad => rw [e] at p; exact p
  | ok d =>
    rw [e] at p
    intro v H1 A1 x1 n1 nd1 o1
    have r1 : Rel (Cn.of X T) M (W.plus A1) σ H1 ρ := r.ext x1 fun a h => h.imp id fun h => ⟨n1 a h, Own.al d o1 a h⟩
    refine ⟨ρ, W.plus A1, r1, ?_⟩
    have p : PostL (Cn.of X T) W H ((fs ρ).bind fun ds => .ok (d :: ds)) Q _ := p
    cases e2 : fs ρ with
    | ex e' => rw [e2] at p; exact PostL.ext (r := .ex e') p x1
    | bad => rw [e2] at p; exact p
    | ok ds =>
      rw [e2] at p
      intro vs H2 A2 x2 n2 nd2 o2
      refine p (v :: vs) H2 (A1 ++ A2) (x1.trans x2) (fun a ha => ?_) ?_ ⟨v, vs, A1, A2, rfl, rfl, o1.ext x2 (fun a h => ?_) _, o2.ext (.refl (T := T) H2) (fun a h => .inl ?_) _⟩
      · rcases List.mem_append.mp ha with h | h
        · exact n1 a h
        · exact fun z => n2 a h (z.ext x1)
      · refine List.nodup_append.mpr ⟨nd1, nd2, fun a h b h' q => ?_⟩
        subst q
        exact n2 a h' (Own.al d o1 a h)
      · rcases h with h | h
        · exact .inl (.inl h)
        · rcases List.mem_append.mp h with h | h
          · exact .inl (.inr h)
          · exact .inr (n2 a h)
      · rcases h with h | h
        · exact .inl (.inl h)
        · rcases List.mem_append.mp h with h | h
          · exact .inl (.inr h)
          · exact .inr h
def lstA (fs : Env → Res (List D)) : Env → Res D := fun ρ => (fs ρ).bind fun ds => if ds.length ≤ 16777216 then .ok (.lst true ds) else .bad
def tupA (fs : Env → Res (List D)) : Env → Res D := fun ρ => (fs ρ).bind fun ds => if ds.length ≤ 16777216 then .ok (.tup ds) else .bad
theorem sl_line : (16777216 : Nat) = sizeLine := by rw [sizeLine_eq]
theorem de_lst {es : List Expr} {fs : Env → Res (List D)} (h : DA X T M Wx es fs) : DE X T M Wx (.List es pos) (lstA fs) := by
  refine pe_weak (pe_lst h.1) fun σ H Q ⟨ρ, W, r, p⟩ => ⟨ρ, W, r, ?_⟩
  unfold lstA at p
  cases e : fs ρ with
  | ex e' => rw [e] at p; exact p
  | bad => rw [e] at p; exact p
  | ok ds =>
    rw [e] at p
    have p : Post (Cn.of X T) W H (if ds.length ≤ 16777216 then .ok (.lst true ds) else .bad) Q _ := p
    intro vs H1 A x n nd o
    split at p
    · rename_i hl
      refine ⟨by rw [o.length, ← sl_line]; exact hl, fun q hq => p _ _ (q :: A) (x.trans (.new hq)) (fun a ha => ?_) ?_ ⟨q, vs, A, rfl, o.ext (.new (T := T) hq) (fun a h => ?_) _, rfl, upd_same⟩⟩
      · rcases List.mem_cons.mp ha with h | h
        · rw [h]; exact fun z => Al.no hq (z.ext x)
        · exact n a h
      · exact List.nodup_cons.mpr ⟨fun z => Al.no hq (Owns.al ds o q z), nd⟩
      · rcases h with h | h
        · exact .inl (.inl h)
        · rcases List.mem_cons.mp h with h | h
          · rw [h]; exact .inr (Al.no hq)
          · exact .inl (.inr h)
    · exact p.elim
theorem de_tup {es : List Expr} {k} {fs : Env → Res (List D)} (h : DA X T M Wx es fs) : DE X T M Wx (.Tuple es k pos) (tupA fs) := by
  refine pe_weak (pe_tup h.1) fun σ H Q ⟨ρ, W, r, p⟩ => ⟨ρ, W, r, ?_⟩
  unfold tupA at p
  cases e : fs ρ with
  | ex e' => rw [e] at p; exact p
  | bad => rw [e] at p; exact p
  | ok ds =>
    rw [e] at p
    have p : Post (Cn.of X T) W H (if ds.length ≤ 16777216 then .ok (.tup ds) else .bad) Q _ := p
    intro vs H1 A x n nd o
    split at p
    · rename_i hl
      exact ⟨by rw [o.length, ← sl_line]; exact hl, fun q hq => p _ _ A (x.trans (.new hq)) n nd ⟨q, vs, rfl, o.ext (.new (T := T) hq) (fun a h => .inl h) _, SqT.of upd_same⟩⟩
    · exact p.elim

/-! ### calls -/
def calA (g : List D → Option D) (fs : Env → Res (List D)) : Env → Res D := fun ρ => (fs ρ).bind fun ds => lift (g (frzs ds))
theorem calA_read {C : Cn} {g : List D → Option D} {fs : Env → Res (List D)} {σ : L2.St} {H : Hp} {Q : VK} (h : tD C M Wx (calA g fs) σ H Q) : tCB (rsD C g) (tDL C M Wx fs) σ H Q := by
  obtain ⟨ρ, W, r, p⟩ := h
  refine ⟨ρ, W, r, ?_⟩
  have q := PostL.bind r.al p
  cases e : fs ρ with
  | ok ds =>
    rw [e] at q
    intro vs H2 A x n nd o
    obtain ⟨es, x2, o2, p2⟩ := q vs H2 A x n nd o
    exact ⟨W, _, (r.ext1 x2).al, (r.ext1 x2).tb, o2, RD.post p2⟩
  | ex e' => rw [e] at q; exact q
  | bad => rw [e] at q; exact q
theorem de_callB {id : String} {x : Str} {p : Pos} {es : List Expr} {g : List D → Option D} {fs : Env → Res (List D)} (hc : CallR X (.builtin id) (rsD (Cn.of X T) g)) (hg : Gl X x) (hm : X.mg x = none) (hv : bootBuiltins x = some (.builtin id)) (ha : DA X T M Wx (a :: es) fs)
    (hn : x ≠ "__name__" := by decide) (hdb : (x == ("__debug__" : Str)) = false := by decide) (he : starEach (a :: es) X.env = (false, eval a X.env) :: starEach es X.env := by rfl) (hpl : (backTo pos (starEach es X.env)).any (·.1) = false := by rfl) :
    DE X T M Wx (.Call (.Name x p) (a :: es) [] pos) (calA g fs) :=
  pe_weak (pe_callB hc hg hm hv ha.1 hn hdb he hpl) fun _ _ _ h => calA_read h
theorem de_callTy {id : String} {x : Str} {p : Pos} {es : List Expr} {g : List D → Option D} {fs : Env → Res (List D)} (hc : CallR X (.type id) (rsD (Cn.of X T) g)) (hg : Gl X x) (hm : X.mg x = none) (hv : bootBuiltins x = some (.type id)) (ha : DA X T M Wx (a :: es) fs)
    (hn : x ≠ "__name__" := by decide) (hdb : (x == ("__debug__" : Str)) = false := by decide) (he : starEach (a :: es) X.env = (false, eval a X.env) :: starEach es X.env := by rfl) (hpl : (backTo pos (starEach es X.env)).any (·.1) = false := by rfl) :
    DE X T M Wx (.Call (.Name x p) (a :: es) [] pos) (calA g fs) :=
  pe_weak (pe_callTy hc hg hm hv ha.1 hn hdb he hpl) fun _ _ _ h => calA_read h
/-- what a def promises -/
def spD (C : Cn) (n : Nat) (F : List D → Res D) : Sp := fun vs H Q E => ∃ ds W, (∀ a, W a → Al H a) ∧ LamX.Tabs C.T H ∧ Owns C.K W H vs ds [] ∧ ds.length = n ∧ Post C W H (F ds) Q E
theorem run_callW {k : Nat} {f : Addr} {fd : FuncData} {ps : List Str} {sp : Sp} {dvs : List V} {ds : List Value} {pins : List (Addr × Obj)} {σ : L2.St} {H : Hp} {s : Shared} {Q : VK} {us : List Value} {vs : List V} (F : FnOk X.prog X.w X.K X.mg X.base (L2.CX X.prog X.w) k f fd ps sp)
    (hr : Room k X.A) (hb : Binds X.K fd ps ds) (hd : Vals dvs ds) (tk : Takes X Wx) (I : Inv X pins σ H s) (r : Vals vs us) (h : sp (vs ++ dvs) H Q fun c o H' => Wx c o σ H') : wpAny (model X.prog X.w) X.A (call (.ref f) us) (EP X pins σ Q) X.xe s := by
  have both : Vals (vs ++ dvs) (us ++ ds) := r.append hd
  have hl : (us ++ ds).length = ps.length := both.length.symm.trans (F.len _ _ _ _ h)
  refine wpAny_call (codeAny_mono (F.run X.A X.stack s H ⟨us, []⟩ (us ++ ds) (vs ++ dvs) Q _ hr I.env0 (hb s us I.kIn hl) both h) fun r s' hq => ?_)
  cases r with
  | error e => exact tk _ _ (XE.of_call I (fun _ _ _ z => z) hq)
  | ok fl =>
    cases fl with
    | ret u => exact I.after hq
    | next => exact False.elim hq
    | brk => exact False.elim hq
    | cont => exact False.elim hq
def fnA (F : List D → Res D) (dv : List D) (fs : Env → Res (List D)) : Env → Res D := fun ρ => (fs ρ).bind fun ds => F (frzs ds ++ dv)
theorem de_call {x : Str} {p : Pos} {es : List Expr} {k n : Nat} {f : Addr} {fd : FuncData} {ps : List Str} {dvs : List V} {ds : List Value} {dv : List D} {F : List D → Res D} {fs : Env → Res (List D)}
    (G : FnOk X.prog X.w X.K X.mg X.base (L2.CX X.prog X.w) k f fd ps (spD (Cn.of X T) n F)) (hr : Room k X.A) (hg : Gl X x) (hm : X.mg x = some (.ref f)) (hk : PySem.W.keepIn X.K (.ref f) = true) (hb : Binds X.K fd ps ds) (hd : Vals dvs ds) (tk : Takes X Wx)
    (hdv : ∀ W H, Owns X.K W H dvs dv []) (ha : DA X T M Wx (a :: es) fs) (hn : es.length + 1 + dv.length = n := by rfl)
    (hdb : (x == ("__debug__" : Str)) = false := by decide) (he : starEach (a :: es) X.env = (false, eval a X.env) :: starEach es X.env := by rfl) (hpl : (backTo pos (starEach es X.env)).any (·.1) = false := by rfl) :
    DE X T M Wx (.Call (.Name x p) (a :: es) [] pos) (fnA F dv fs) := by
  refine ⟨fun pins s σ H Q I ⟨ρ, W, r, q⟩ => ?_⟩
  refine wpAny_Call_Name_kw (ld_glob I hg hm ?_ hdb)
  have q2 : tDL (Cn.of X T) M Wx fs σ H fun vs H1 => spD (Cn.of X T) n F (vs ++ dvs) H1 Q fun c o H' => Wx c o σ H' := by
    refine ⟨ρ, W, r, ?_⟩
    cases e : fs ρ with
    | ex e' => unfold fnA at q; rw [e] at q; exact q
    | bad => unfold fnA at q; rw [e] at q; exact q
    | ok es' =>
      unfold fnA at q
      rw [e] at q
      intro vs H2 A x n2 nd o
      have r2 := r.ext1 x
      refine ⟨frzs es' ++ dv, W, r2.al, r2.tb, ?_, ?_, Post.ext (r := F _) q x⟩
      · have := Owns.app (o.frz (fun a h => .inl h) _ (fun a ha z => n2 a ha (r.al a z))) (hdv W H2)
        simpa using this
      · rw [List.length_append, frzs_eq, List.length_map, ha.2 ρ es' e, List.length_cons]; exact hn
  refine PySem.W.callWith_K (h₀ := X.base) I.ok.mod.kin hk (thn (ha.1.run pos pins s σ H _ I q2) fun us s1 ⟨vs, H1, I1, r, q⟩ => ⟨I1.kIn, ?_⟩) he hpl
  exact run_callW G hr hb hd tk I1 r q
end
end De
set_option Elab.async false
set_option linter.all false
set_option maxRecDepth 100000
namespace De
open PySem PySem.Spec PyProof.Rows L2

/-! ### a store to one object -/
/-- objects of one kind that may be written -/
def likeO : HO → HO → Bool
  | .lst _, .lst _ => true
  | .dK _, .dK _ => true
  | _, _ => false
section
variable {K : PySem.W.Frag} {W : Wd} {H : Hp} {p : Addr} {o o' : HO}
theorem like_tup (h : likeO o o' = true) {xs : List V} : o ≠ .tup xs := fun z => by subst z; cases h
theorem like_frz (h : likeO o o' = true) {q u} : o ≠ .frz q u := fun z => by subst z; cases h
theorem like_tbl (h : likeO o o' = true) {q} : o ≠ .tbl q := fun z => by subst z; cases h
theorem like_tbl' (h : likeO o o' = true) {q} : o' ≠ .tbl q := fun z => by subst z; cases o <;> cases h
theorem like_ext (h : likeO o o' = true) {q} : o ≠ .ext q := fun z => by subst z; cases h
theorem SqT.upd (hp : H p = some o) (l : likeO o o' = true) {a : Addr} {vs : List V} (h : SqT K H a vs) : SqT K (upd H p o') a vs := by
  rcases h with (h | ⟨q, h⟩) | h
  · exact .inl (.inl (by rw [upd_ne (fun z => by rw [z, hp] at h; exact like_tup l (Option.some.inj h))]; exact h))
  · exact .inl (.inr ⟨q, by rw [upd_ne (fun z => by rw [z, hp] at h; exact like_frz l (Option.some.inj h))]; exact h⟩)
  · exact .inr h
theorem rdUpd {a : Addr} {u : HO} (h : Rd H a u) (n : a ≠ p) : Rd (upd H p o') a u := by
  rcases h with h | ⟨q, h⟩
  · exact .inl (by rw [upd_ne n]; exact h)
  · exact .inr ⟨q, by rw [upd_ne n]; exact h⟩
mutual
theorem Own.upd (hp : H p = some o) (l : likeO o o' = true) (w : W p) : ∀ (d : D) {v : V} {A : List Addr}, Own K W H v d A → p ∉ A → Own K W (L2.upd H p o') v d A
  | .non, _, _, h, _ => h
  | .bl _, _, _, h, _ => h
  | .int _, _, _, h, _ => h
  | .str _, _, _, h, _ => h
  | .ty _, _, _, h, _ => h
  | .lst true ds, _, _, h, n => by
    obtain ⟨a, vs, B, e, h1, e2, h2⟩ := h
    subst e2
    have na : a ≠ p := fun z => n (by rw [z]; exact List.mem_cons_self ..)
    exact ⟨a, vs, B, e, Owns.upd hp l w ds h1 fun z => n (List.mem_cons_of_mem _ z), rfl, by rw [upd_ne na]; exact h2⟩
  | .lst false ds, _, _, h, n => by
    obtain ⟨a, vs, B, e, h1, e2, e3, h2⟩ := h
    subst e2 e3
    exact ⟨a, vs, [], e, Owns.upd hp l w ds h1 n, rfl, rfl, by rw [upd_ne (fun z => h2.2 (by rw [z]; exact w))]; exact h2.1, h2.2⟩
  | .rol ds, _, _, h, n => by
    obtain ⟨a, vs, e, h1, e2, h2⟩ := h
    exact ⟨a, vs, e, Owns.upd hp l w ds h1 (fun z => by cases z), e2, h2.imp (fun h => ⟨rdUpd h.1 fun z => h.2 (by rw [z]; exact w), h.2⟩) id⟩
  | .tup ds, _, _, h, n => by
    obtain ⟨a, vs, e, h1, h2⟩ := h
    exact ⟨a, vs, e, Owns.upd hp l w ds h1 n, SqT.upd hp l h2⟩
  | .dic true ks ds, _, _, h, n => by
    obtain ⟨a, vs, B, e, q, h1, e2, h2⟩ := h
    subst e2
    have na : a ≠ p := fun z => n (by rw [z]; exact List.mem_cons_self ..)
    exact ⟨a, vs, B, e, q, Owns.upd hp l w ds h1 fun z => n (List.mem_cons_of_mem _ z), rfl, by rw [upd_ne na]; exact h2⟩
  | .dic false ks ds, _, _, h, n => by
    obtain ⟨a, vs, B, e, q, h1, e2, e3, h2, h3⟩ := h
    subst e2 e3
    exact ⟨a, vs, [], e, q, Owns.upd hp l w ds h1 n, rfl, rfl, rdUpd h2 fun z => h3 (by rw [z]; exact w), h3⟩
theorem Owns.upd (hp : H p = some o) (l : likeO o o' = true) (w : W p) : ∀ (ds : List D) {vs : List V} {A : List Addr}, Owns K W H vs ds A → p ∉ A → Owns K W (L2.upd H p o') vs ds A
  | [], _, _, h, _ => h
  | d :: ds, _, _, h, n => by
    obtain ⟨v, ws, A1, A2, e1, e2, h1, h2⟩ := h
    subst e2
    exact ⟨v, ws, A1, A2, e1, rfl, Own.upd hp l w d h1 fun z => n (List.mem_append_left _ z), Owns.upd hp l w ds h2 fun z => n (List.mem_append_right _ z)⟩
end
theorem tabsUpd {T : List (Addr × Str)} (hp : H p = some o) (l : likeO o o' = true) (t : LamX.Tabs T H) : LamX.Tabs T (upd H p o') := fun q hq => by
  obtain ⟨ps, h1, h2, h3⟩ := t q hq
  refine ⟨ps, by rw [upd_ne (fun z => by rw [z, hp] at h1; exact like_tbl l (Option.some.inj h1))]; exact h1, h2, fun pos cv hc => ?_⟩
  obtain ⟨c, e1, e2⟩ := h3 pos cv hc
  exact ⟨c, e1, by rw [upd_ne (fun z => by rw [z, hp] at e2; unfold LamX.CodeO at e2; exact like_ext l (Option.some.inj e2))]; exact e2⟩
theorem extUpd {T : List (Addr × Str)} {H0 : Hp} (hp : H p = some o) (l : likeO o o' = true) (x : Ext T H0 H) (n : ¬ Al H0 p) : Ext T H0 (upd H p o') :=
  ⟨fun b u e nt => by rw [upd_ne (fun z => n ⟨u, by rw [← z]; exact e, nt⟩)]; exact x.e b u e nt, fun t => tabsUpd hp l (x.t t)⟩
theorem alUpd (l : likeO o o' = true) {a : Addr} (h : Al H a) : Al (upd H p o') a := by
  by_cases z : a = p
  · exact ⟨o', by rw [z]; exact upd_same, fun ps q => like_tbl' l q⟩
  · obtain ⟨u, e, n⟩ := h
    exact ⟨u, by rw [upd_ne z]; exact e, n⟩
end

/-! ### targets -/
inductive Tg where
  | one (i : Nat) | tup (is : List Nat)
def setN (ρ : Env) : List Nat → List D → Env
  | i :: is, d :: ds => setN (ρ.set i (some d)) is ds
  | _, _ => ρ
def Tg.bind : Tg → D → Env → Option Env
  | .one i, d, ρ => some (ρ.set i (some d))
  | .tup is, .tup ds, ρ => if ds.length = is.length then some (setN ρ is ds) else none
  | _, _, _ => none
def Tg.slots : Tg → List Nat
  | .one i => [i]
  | .tup is => is
def gsN : List Nat → TGs
  | [] => gNil
  | i :: is => gCons (gName i) (gsN is)
def gD (K : PySem.W.Frag) : Tg → TG
  | .one i => gName i
  | .tup is => gTup K is.length (gsN is)
/-- what a target's stores do to slots -/
structure Sets (C : Cn) (W : Wd) (H : Hp) (is : List Nat) (σ σ' : L2.St) (ρ ρ' : Env) : Prop where
  ls : σ'.length = σ.length
  lr : ρ'.length = ρ.length
  out : ∀ i, i ∉ is → σ'[i]? = σ[i]? ∧ ρ'[i]? = ρ[i]?
  at_ : ∀ i d, i ∈ is → ρ'[i]? = some (some d) → ∃ v, σ'[i]? = some (some v) ∧ Own C.K W H v d []
section
variable {C : Cn} {W : Wd} {H : Hp}
theorem sets_one {i : Nat} {σ : L2.St} {ρ : Env} {v : V} {d : D} (hl : σ.length = ρ.length) (o : Own C.K W H v d []) : Sets C W H [i] σ (σ.set i (some v)) ρ (ρ.set i (some d)) where
  ls := List.length_set ..
  lr := List.length_set ..
  out := fun j hj => by
    have n : i ≠ j := fun z => hj (by rw [z]; exact List.mem_singleton.mpr rfl)
    exact ⟨List.getElem?_set_ne n, List.getElem?_set_ne n⟩
  at_ := fun j e hj he => by
    have z := List.mem_singleton.mp hj
    subst z
    by_cases hi : j < ρ.length
    · rw [List.getElem?_set_self hi] at he
      cases he
      exact ⟨v, by rw [List.getElem?_set_self (by omega)], o⟩
    · rw [List.getElem?_eq_none (by simpa using hi)] at he
      cases he
theorem Sets.trans {is js : List Nat} {σ σ1 σ2 : L2.St} {ρ ρ1 ρ2 : Env} (a : Sets C W H is σ σ1 ρ ρ1) (b : Sets C W H js σ1 σ2 ρ1 ρ2) : Sets C W H (is ++ js) σ σ2 ρ ρ2 where
  ls := b.ls.trans a.ls
  lr := b.lr.trans a.lr
  out := fun i hi => by
    have h1 := a.out i fun z => hi (List.mem_append_left _ z)
    have h2 := b.out i fun z => hi (List.mem_append_right _ z)
    exact ⟨h2.1.trans h1.1, h2.2.trans h1.2⟩
  at_ := fun i d hi he => by
    by_cases hj : i ∈ js
    · exact b.at_ i d hj he
    · have h := b.out i hj
      rcases List.mem_append.mp hi with hk | hk
      · obtain ⟨v, h3, h4⟩ := a.at_ i d hk (by rw [← h.2]; exact he)
        exact ⟨v, h.1.trans h3, h4⟩
      · exact absurd hk hj
theorem Sets.nil {σ : L2.St} {ρ : Env} : Sets C W H [] σ σ ρ ρ := ⟨rfl, rfl, fun _ _ => ⟨rfl, rfl⟩, fun _ _ h => by cases h⟩
theorem gsN_read : ∀ (is : List Nat) (ds : List D) (vs : List V) (σ : L2.St) (ρ : Env) (Q : L2.St → Hp → Prop), σ.length = ρ.length → Owns C.K W H vs ds [] → ds.length = is.length →
    (∀ σ', Sets C W H is σ σ' ρ (setN ρ is ds) → Q σ' H) → gsN is vs σ H Q
  | [], [], vs, σ, ρ, Q, hl, o, _, h => ⟨o.1, h σ .nil⟩
  | [], d :: ds, _, _, _, _, _, _, l, _ => by simp at l
  | i :: is, [], _, _, _, _, _, _, l, _ => by simp at l
  | i :: is, d :: ds, vs, σ, ρ, Q, hl, o, l, h => by
    obtain ⟨v, ws, A1, A2, e1, e2, h1, h2⟩ := o
    obtain ⟨z1, z2⟩ := List.append_eq_nil_iff.mp e2.symm
    subst z1 z2
    have s1 := sets_one (i := i) hl h1
    exact ⟨v, ws, e1, gsN_read is ds ws (σ.set i (some v)) (ρ.set i (some d)) Q (by rw [List.length_set, List.length_set]; exact hl) h2 (by simpa using l) fun σ' s2 => h σ' (s1.trans s2)⟩
theorem gD_read {tg : Tg} {v : V} {d : D} {σ : L2.St} {ρ ρ' : Env} {Q : L2.St → Hp → Prop} (hl : σ.length = ρ.length) (o : Own C.K W H v d []) (e : tg.bind d ρ = some ρ') (h : ∀ σ', Sets C W H tg.slots σ σ' ρ ρ' → Q σ' H) : gD C.K tg v σ H Q := by
  cases tg with
  | one i => cases e; exact h _ (sets_one hl o)
  | tup is =>
    cases d with
    | tup ds =>
      have e : (if ds.length = is.length then some (setN ρ is ds) else none) = some ρ' := e
      split at e
      · rename_i hn
        cases e
        obtain ⟨a, vs, ea, h1, h2⟩ := o
        exact ⟨a, vs, ea, h2, by rw [h1.length]; exact hn, gsN_read is ds vs σ ρ Q hl h1 hn h⟩
      · cases e
    | _ => cases e
theorem Rel.sets {M M' : List Nat} {σ σ' : L2.St} {ρ ρ' : Env} {is : List Nat} (r : Rel C M W σ H ρ) (s : Sets C W H is σ σ' ρ ρ') (hM : ∀ i ∈ M', i ∈ M ∨ i ∈ is) : Rel C M' W σ' H ρ' where
  v := fun i hi d e => by
    by_cases hk : i ∈ is
    · obtain ⟨v, e1, o⟩ := s.at_ i d hk e
      exact ⟨v, e1, o.frz (fun _ h => h) _ fun a ha => by cases ha⟩
    · have h := s.out i hk
      rcases hM i hi with h' | h'
      · obtain ⟨v, e1, o⟩ := r.v i h' d (by rw [← h.2]; exact e)
        exact ⟨v, h.1.trans e1, o⟩
      · exact absurd h' hk
  al := r.al
  tb := r.tb
  len := by rw [s.ls, s.lr]; exact r.len
end

/-! ### sources of loops and comprehensions -/
def Pins (C : Cn) (W : Wd) (H : Hp) (P : List (V × D)) : Prop := ∀ p ∈ P, Own C.K W H p.1 p.2 []
structure Src (C : Cn) (P : List (V × D)) (J : It) (ds : List D) : Prop where
  sz : ds.length ≤ sizeLine
  go : ∀ i W H, Pins C W H P → i < ds.length → J.go i H
  yld : ∀ i W H x H', Pins C W H P → J.yld i H x H' → i < ds.length → Ext C.T H H' ∧ ∃ d, ds[i]? = some d ∧ Own C.K W H' x d []
  stop : ∀ i W H, Pins C W H P → i = ds.length → J.stop i H
def PostI (C : Cn) (W : Wd) (H : Hp) (r : Res (List D)) (R : It → Hp → Prop) (Wx : XK) : Prop := match r with
  | .ok ds => ∀ J H1 P, Ext C.T H H1 → Pins C W H1 P → Src C P J ds → R J H1
  | .ex e => ∀ c o H', Ext C.T H H' → ExcIs C.mg H' e c o → Wx c o H'
  | .bad => False
def tI (C : Cn) (M : List Nat) (Wx : WX) (f : Env → Res (List D)) : TI := fun σ H R => ∃ ρ W, Rel C M W σ H ρ ∧ PostI C W H (f ρ) R fun c o H' => Wx c o σ H'
abbrev DI (X : Cx) (T : List (Addr × Str)) (M : List Nat) (Wx : WX) (tg e : Expr) (f : Env → Res (List D)) : Prop := PI X tg e (tI (Cn.of X T) M Wx f)
/-- the sizes that every state keeps -/
structure Sized (K : PySem.W.Frag) (H : Hp) : Prop where
  l : ∀ a xs, SqL K H a xs → xs.length ≤ sizeLine
  t : ∀ a xs, SqT K H a xs → xs.length ≤ sizeLine
theorem Inv.sized {X : Cx} {pins : List (Addr × Obj)} {σ : L2.St} {H : Hp} {s : Shared} (I : Inv X pins σ H s) : Sized X.K H := ⟨fun a xs h => by obtain ⟨_, _, _, z⟩ := I.list h; exact z, fun a xs h => by obtain ⟨_, _, _, z⟩ := I.tuple h; exact z⟩
theorem pe_sized {X : Cx} {e : Expr} {t : TE} (h : PE X e t) : PE X e (fun σ H Q => t σ H fun v H1 => Sized X.K H1 → Q v H1) :=
  ⟨fun pins s σ H Q I q => thn (h.run pins s σ H _ I q) fun u s1 ⟨x, H1, I1, r1, q1⟩ => ⟨x, H1, I1, r1, q1 (Inv.sized I1)⟩⟩
theorem pi_weak {X : Cx} {tg e : Expr} {t t' : TI} (h : PI X tg e t) (w : ∀ σ H R, t' σ H R → t σ H R) : PI X tg e t' := ⟨fun pins s σ H R I q => h.run pins s σ H R I (w σ H R q)⟩
section
variable {C : Cn} {W : Wd} {H : Hp}
theorem own_list {o : Bool} {v : V} {ds : List D} {A : List Addr} (h : Own C.K W H v (.lst o ds) A) : ∃ a vs, v = .ref a ∧ SqL C.K H a vs ∧ ∃ B, Owns C.K W H vs ds B := by
  cases o with
  | true => obtain ⟨a, vs, B, e, h1, e2, h2⟩ := h; exact ⟨a, vs, e, SqL.of h2, B, h1⟩
  | false => obtain ⟨a, vs, B, e, h1, e2, e3, h2⟩ := h; exact ⟨a, vs, e, SqL.of h2.1, B, h1⟩
theorem own_listF {v : V} {ds : List D} (h : Own C.K W H v (.lst false ds) []) : ∃ a vs, v = .ref a ∧ SqL C.K H a vs ∧ Owns C.K W H vs ds [] := by
  obtain ⟨a, vs, B, e, h1, e2, e3, h2⟩ := h
  subst e3
  exact ⟨a, vs, e, SqL.of h2.1, h1⟩
theorem own_rol {v : V} {ds : List D} {A : List Addr} (h : Own C.K W H v (.rol ds) A) : ∃ a vs, v = .ref a ∧ SqL C.K H a vs ∧ Owns C.K W H vs ds [] := by
  obtain ⟨a, vs, e, h1, e2, h2⟩ := h
  exact ⟨a, vs, e, h2.elim (fun z => .inl z.1) KL.sq, h1⟩
/-- a list that is read: shared, or one that nobody writes -/
theorem own_seqL {v : V} {d : D} {ds : List D} (e : d = .lst false ds ∨ d = .rol ds) {A : List Addr} (h : Own C.K W H v d A) : ∃ a vs, v = .ref a ∧ SqL C.K H a vs ∧ Owns C.K W H vs ds [] := by
  rcases e with e | e
  · subst e
    obtain ⟨a, vs, B, e, h1, e2, e3, h2⟩ := h
    subst e3
    exact ⟨a, vs, e, SqL.of h2.1, h1⟩
  · subst e; exact own_rol h
theorem own_tupF {v : V} {ds : List D} {A : List Addr} (h : Own C.K W H v (.tup ds) A) : ∃ a vs, v = .ref a ∧ SqT C.K H a vs ∧ Owns C.K W H vs ds A := by
  obtain ⟨a, vs, e, h1, h2⟩ := h
  exact ⟨a, vs, e, h2, h1⟩
theorem src_list {a : Addr} {d : D} {ds : List D} {vs : List V} (ed : d = .lst false ds ∨ d = .rol ds) (hz : vs.length ≤ sizeLine) (h : SqL C.K H a vs) (o : Owns C.K W H vs ds []) : Src C [(.ref a, d)] (Itl C.K a) ds where
  sz := by rw [← o.length]; exact hz
  go := fun i W H p hi => by
    obtain ⟨b, ws, e, h, o⟩ := own_seqL ed (p _ (List.mem_singleton.mpr rfl))
    cases e
    exact ⟨ws, ws[i]'(by rw [o.length]; exact hi), h, List.getElem?_eq_getElem _⟩
  yld := fun i W H x H' p y hi => by
    obtain ⟨b, ws, e, h, o⟩ := own_seqL ed (p _ (List.mem_singleton.mpr rfl))
    cases e
    obtain ⟨e, y⟩ := y
    subst e
    exact ⟨.refl _, Owns.getV o (y ws h)⟩
  stop := fun i W H p hi => by
    obtain ⟨b, ws, e, h, o⟩ := own_seqL ed (p _ (List.mem_singleton.mpr rfl))
    cases e
    exact ⟨ws, h, by rw [o.length]; exact Nat.le_of_eq hi.symm⟩
theorem src_tup {a : Addr} {ds : List D} {vs : List V} (hz : vs.length ≤ sizeLine) (h : SqT C.K H a vs) (o : Owns C.K W H vs ds []) : Src C [(.ref a, .tup ds)] (Itt C.K a) ds where
  sz := by rw [← o.length]; exact hz
  go := fun i W H p hi => by
    obtain ⟨b, ws, e, h, o⟩ := own_tupF (p _ (List.mem_singleton.mpr rfl))
    cases e
    exact ⟨ws, ws[i]'(by rw [o.length]; exact hi), h, List.getElem?_eq_getElem _⟩
  yld := fun i W H x H' p y hi => by
    obtain ⟨b, ws, e, h, o⟩ := own_tupF (p _ (List.mem_singleton.mpr rfl))
    cases e
    obtain ⟨e, y⟩ := y
    subst e
    exact ⟨.refl _, Owns.getV o (y ws h)⟩
  stop := fun i W H p hi => by
    obtain ⟨b, ws, e, h, o⟩ := own_tupF (p _ (List.mem_singleton.mpr rfl))
    cases e
    exact ⟨ws, h, by rw [o.length]; exact Nat.le_of_eq hi.symm⟩
def rngD (lo : Int) (n : Nat) : List D := (List.range n).map fun i => D.int (lo + (i : Nat))
theorem rngD_len (lo : Int) (n : Nat) : (rngD lo n).length = n := by unfold rngD; rw [List.length_map, List.length_range]
theorem src_rng {lo : Int} {n : Nat} (h : n ≤ sizeLine) : Src C [] (Itr lo n) (rngD lo n) where
  sz := by rw [rngD_len]; exact h
  go := fun i W H p hi => by rw [rngD_len] at hi; exact hi
  yld := fun i W H x H' p y hi => by
    rw [rngD_len] at hi
    obtain ⟨e, y⟩ := y
    subst e y
    exact ⟨.refl _, .int (lo + (i : Nat)), by unfold rngD; rw [List.getElem?_map, List.getElem?_range hi]; rfl, rfl, rfl⟩
  stop := fun i W H p hi => by rw [rngD_len] at hi; exact Nat.le_of_eq hi.symm
end
def itemsL : D → Res (List D)
  | .lst _ ds => .ok (frzs ds)
  | .rol ds => .ok (frzs ds)
  | _ => .bad
def itemsT : D → Res (List D)
  | .tup ds => .ok (frzs ds)
  | _ => .bad
def itm (k : D → Res (List D)) (f : Env → Res D) : Env → Res (List D) := fun ρ => (f ρ).bind k
section
variable {X : Cx} {T : List (Addr × Str)} {M : List Nat} {Wx : WX} {pos : Pos} {tg a b : Expr}
theorem Post.bindI {C : Cn} {W : Wd} {H : Hp} {Wx : XK} {r : Res D} {g : D → Res (List D)} {R : It → Hp → Prop} (al : ∀ a, W a → Al H a) (p : PostI C W H (r.bind g) R Wx) :
    Post C W H r (fun y H2 => ∃ d, Ext C.T H H2 ∧ Own C.K W H2 y (frz d) [] ∧ PostI C W H2 (g d) R Wx) Wx := by
  cases r with
  | ok d =>
    intro v H2 A x n nd o
    refine ⟨d, x, o.frz (fun a h => .inl h) _ (fun a ha z => n a ha (al a z)), ?_⟩
    have p : PostI C W H (g d) R Wx := p
    cases e : g d with
    | ok ds => rw [e] at p; exact fun J H1 P x1 => p J H1 P (x.trans x1)
    | ex e' => rw [e] at p; exact fun c o H1 x1 => p c o H1 (x.trans x1)
    | bad => rw [e] at p; exact p
  | ex e => exact p
  | bad => exact p
theorem di_list {f : Env → Res D} (h : DE X T M Wx a f) : DI X T M Wx tg a (itm itemsL f) := by
  refine pi_weak (pi_list (pe_sized h)) fun σ H R ⟨ρ, W, r, p⟩ => ⟨ρ, W, r, (Post.bindI r.al p).mono fun v H1 ⟨d, x, o, q⟩ sz => ?_⟩
  have fin : ∀ {ds : List D}, (frz d = .lst false (frzs ds) ∨ frz d = .rol (frzs ds)) → PostI (Cn.of X T) W H1 (.ok (frzs ds)) R (fun c o H' => Wx c o σ H') → ∃ a, v = .ref a ∧ (∃ xs, SqL X.K H1 a xs) ∧ R (Itl X.K a) H1 := by
    intro ds e q
    obtain ⟨p, vs, e2, h1, h2⟩ := own_seqL (C := Cn.of X T) e o
    refine ⟨p, e2, ⟨vs, h1⟩, q _ _ [(.ref p, frz d)] (.refl _) (fun z hz => ?_) (src_list (C := Cn.of X T) e (sz.l _ _ h1) h1 h2)⟩
    rw [List.mem_singleton.mp hz, ← e2]; exact o
  cases d with
  | lst b ds => exact fin (.inl rfl) q
  | rol ds => exact fin (.inr rfl) q
  | _ => exact q.elim
theorem di_tup {f : Env → Res D} (h : DE X T M Wx a f) : DI X T M Wx tg a (itm itemsT f) := by
  refine pi_weak (pi_tup (pe_sized h)) fun σ H R ⟨ρ, W, r, p⟩ => ⟨ρ, W, r, (Post.bindI r.al p).mono fun v H1 ⟨d, x, o, q⟩ sz => ?_⟩
  cases d with
  | tup ds =>
    obtain ⟨p, vs, e, h1, h2⟩ := own_tupF (C := Cn.of X T) (show Own _ _ _ _ (.tup (frzs ds)) [] from o)
    refine ⟨p, e, ⟨vs, h1⟩, q _ _ [(.ref p, .tup (frzs ds))] (.refl _) (fun z hz => ?_) (src_tup (C := Cn.of X T) (sz.t _ _ h1) h1 h2)⟩
    rw [List.mem_singleton.mp hz, ← e]; exact o
  | _ => exact q.elim
/-- range(n), range(a, b) -/
def rngA (fs : Env → Res (List D)) : Env → Res (List D) := fun ρ => (fs ρ).bind fun ds => match ds with
  | [.int j] => if j ≤ 16777216 ∧ -(2 ^ 62) ≤ j then .ok (rngD 0 j.toNat) else .bad
  | [.int i, .int j] => if -(2 ^ 62) ≤ i ∧ i < 2 ^ 62 ∧ -(2 ^ 62) ≤ j ∧ j < 2 ^ 62 ∧ (j - i).toNat ≤ 16777216 then .ok (rngD i (j - i).toNat) else .bad
  | _ => .bad
theorem owns1 {C : Cn} {W : Wd} {H : Hp} {vs : List V} {i : Int} {A : List Addr} (o : Owns C.K W H vs [.int i] A) : vs = [.int i] := by
  obtain ⟨v, ws, A1, A2, e1, e2, h1, h2⟩ := o
  rw [e1, h1.1, h2.1]
theorem owns2 {C : Cn} {W : Wd} {H : Hp} {vs : List V} {i j : Int} {A : List Addr} (o : Owns C.K W H vs [.int i, .int j] A) : vs = [.int i, .int j] := by
  obtain ⟨v, ws, A1, A2, e1, e2, h1, h2⟩ := o
  rw [e1, h1.1, owns1 h2]
theorem di_rng1 {p : Pos} {fs : Env → Res (List D)} (hg : Gl X "range") (hm : X.mg "range" = none) (ha : DA X T M Wx [a] fs) (hs : starEach [a] X.env = [(false, eval a X.env)] := by rfl) : DI X T M Wx tg (.Call (.Name "range" p) [a] [] pos) (rngA fs) := by
  refine pi_weak (pi_range1 hg hm ha.1 hs) fun σ H R ⟨ρ, W, r, q⟩ => ⟨ρ, W, r, ?_⟩
  unfold rngA at q
  have hl := ha.2 ρ
  cases e : fs ρ with
  | ex e' => rw [e] at q; exact q
  | bad => rw [e] at q; exact q
  | ok ds =>
    rw [e] at q hl
    have hl := hl ds rfl
    intro vs H1 A x n nd o
    match ds, q, o, hl with
    | [.int j], q, o, _ =>
      have q : PostI (Cn.of X T) W H (if j ≤ 16777216 ∧ -(2 ^ 62) ≤ j then .ok (rngD 0 j.toNat) else .bad) R _ := q
      split at q
      · rename_i hj
        exact ⟨j, owns1 (C := Cn.of X T) o, hj.2, by omega, q _ _ [] x (fun z hz => by cases hz) (src_rng (by rw [← sl_line]; omega))⟩
      · exact q.elim
theorem di_rng2 {p : Pos} {fs : Env → Res (List D)} (hg : Gl X "range") (hm : X.mg "range" = none) (ha : DA X T M Wx [a, b] fs) (hs : starEach [a, b] X.env = [(false, eval a X.env), (false, eval b X.env)] := by rfl) (hs2 : starEach [b] X.env = [(false, eval b X.env)] := by rfl) :
    DI X T M Wx tg (.Call (.Name "range" p) [a, b] [] pos) (rngA fs) := by
  refine pi_weak (pi_range2 hg hm ha.1 hs hs2) fun σ H R ⟨ρ, W, r, q⟩ => ⟨ρ, W, r, ?_⟩
  unfold rngA at q
  have hl := ha.2 ρ
  cases e : fs ρ with
  | ex e' => rw [e] at q; exact q
  | bad => rw [e] at q; exact q
  | ok ds =>
    rw [e] at q hl
    have hl := hl ds rfl
    intro vs H1 A x n nd o
    match ds, q, o, hl with
    | [.int i, .int j], q, o, _ =>
      have q : PostI (Cn.of X T) W H (if -(2 ^ 62) ≤ i ∧ i < 2 ^ 62 ∧ -(2 ^ 62) ≤ j ∧ j < 2 ^ 62 ∧ (j - i).toNat ≤ 16777216 then .ok (rngD i (j - i).toNat) else .bad) R _ := q
      split at q
      · rename_i hj
        exact ⟨i, j, owns2 (C := Cn.of X T) o, ⟨hj.1, hj.2.1, hj.2.2.1, hj.2.2.2.1⟩, q _ _ [] x (fun z hz => by cases hz) (src_rng (by rw [← sl_line]; omega))⟩
      · exact q.elim
end
end De
set_option Elab.async false
set_option linter.all false
set_option maxRecDepth 100000
namespace De
open PySem PySem.Spec PyProof.Rows L2

/-! ### list comprehensions -/
def lcGo (tg : Tg) (tt : Env → Res Bool) (te : Env → Res D) (ρ : Env) : List D → Option (List D)
  | [] => some []
  | d :: ds => match tg.bind d ρ with
    | none => none
    | some ρ' => match tt ρ' with
      | .ok true => (match te ρ' with
        | .ok y => (lcGo tg tt te ρ ds).map (y :: ·)
        | _ => none)
      | .ok false => lcGo tg tt te ρ ds
      | _ => none
def lcA (src : Env → Res (List D)) (tg : Tg) (tt : Env → Res Bool) (te : Env → Res D) : Env → Res D := fun ρ => (src ρ).bind fun ds => lift ((lcGo tg tt te ρ ds).map (.lst true))
def yesB : Env → Res Bool := fun _ => .ok true
theorem wipe_in {σ : L2.St} {i : Nat} : ∀ {vs : List Nat}, i ∈ vs → i < σ.length → (wipe σ vs)[i]? = some none
  | [], h, _ => by cases h
  | v :: vs, h, hl => by
    unfold wipe
    by_cases e : v = i
    · subst e
      rw [List.getElem?_set_self (by rw [wipe_length]; exact hl)]
    · rw [List.getElem?_set_ne e]
      exact wipe_in ((List.mem_cons.mp h).resolve_left fun z => e z.symm) hl
theorem wipe_eq {σ σ' : L2.St} {vs : List Nat} (hl : σ'.length = σ.length) (h : ∀ i, i ∉ vs → σ'[i]? = σ[i]?) : wipe σ' vs = wipe σ vs := by
  refine List.ext_getElem? fun i => ?_
  by_cases hi : i ∈ vs
  · by_cases hk : i < σ.length
    · rw [wipe_in hi hk, wipe_in hi (by omega)]
    · rw [List.getElem?_eq_none (by rw [wipe_length]; omega), List.getElem?_eq_none (by rw [wipe_length]; omega)]
  · rw [wipe_out hi, wipe_out hi]; exact h i hi
section
variable {C : Cn} {M M' : List Nat} {W : Wd} {σ : L2.St} {H : Hp} {ρ : Env}
theorem Rel.setsW {σ' : L2.St} {ρ' : Env} {is : List Nat} (r : Rel C M W σ H ρ) (s : Sets C W H is (wipe σ is) σ' ρ ρ') (hM : ∀ i ∈ M', i ∈ M ∨ i ∈ is) : Rel C M' W σ' H ρ' where
  v := fun i hi d e => by
    by_cases hk : i ∈ is
    · obtain ⟨v, e1, o⟩ := s.at_ i d hk e
      exact ⟨v, e1, o.frz (fun _ h => h) _ fun a ha => by cases ha⟩
    · have h := s.out i hk
      rcases hM i hi with h' | h'
      · obtain ⟨v, e1, o⟩ := r.v i h' d (by rw [← h.2]; exact e)
        exact ⟨v, by rw [h.1, wipe_out hk]; exact e1, o⟩
      · exact absurd h' hk
  al := r.al
  tb := r.tb
  len := by rw [s.ls, s.lr, wipe_length]; exact r.len
theorem Pins.ext {C : Cn} {W W' : Wd} {H H' : Hp} {P : List (V × D)} (p : Pins C W H P) (x : Ext C.T H H') (w : ∀ a, W' a → W a ∨ ¬ Al H a) : Pins C W' H' P := fun q hq => (p q hq).ext x w _

/-- a comprehension's turns: what stands when the list at p holds ys -/
structure LcAt (C : Cn) (M : List Nat) (W : Wd) (σ : L2.St) (H0 : Hp) (ρ : Env) (P : List (V × D)) (p : Addr) (acc : List D) (H : Hp) (vs : List V) (A : List Addr) : Prop where
  lst : H p = some (.lst vs)
  own : Owns C.K (W.plus (p :: A)) H vs acc A
  nd : A.Nodup
  new : ∀ a ∈ A, ¬ Al H0 a
  np : p ∉ A
  ext : Ext C.T H0 H
  rel : Rel C M (W.plus (p :: A)) σ H ρ
  pin : Pins C (W.plus (p :: A)) H P
theorem lc_read {tg : Tg} {tt : Env → Res Bool} {te : Env → Res D} {src : Env → Res (List D)} {Wx : WX} {Q : VK} {X : Cx} {T : List (Addr × Str)}
    (hM : ∀ i ∈ M', i ∈ M ∨ i ∈ tg.slots) (h : tD (Cn.of X T) M Wx (lcA src tg tt te) σ H Q) :
    tLc (tI (Cn.of X T) M Wx src) (gD X.K tg) (tDB (Cn.of X T) M' (fun _ _ _ _ => False) tt) (tD (Cn.of X T) M' (fun _ _ _ _ => False) te) tg.slots σ H Q := by
  obtain ⟨ρ, W, r, q⟩ := h
  refine ⟨ρ, W, r, ?_⟩
  unfold lcA at q
  cases e : src ρ with
  | ex e' => rw [e] at q; exact q
  | bad => rw [e] at q; exact q
  | ok ds =>
    rw [e] at q
    have q : Post (Cn.of X T) W H (lift ((lcGo tg tt te ρ ds).map (.lst true))) Q _ := q
    cases eg : lcGo tg tt te ρ ds with
    | none => rw [eg] at q; exact q.elim
    | some ys0 =>
    rw [eg] at q
    have q : Post (Cn.of X T) W H (.ok (.lst true ys0)) Q _ := q
    intro J H1 P x1 pin S p np
    have nal : ¬ Al H1 p := Al.no np
    have start : LcAt (Cn.of X T) M W σ H1 ρ P p [] (upd H1 p (.lst [])) [] [] := {
      lst := upd_same
      own := ⟨rfl, rfl⟩
      nd := .nil
      new := fun a h => by cases h
      np := fun h => by cases h
      ext := .new np
      rel := (r.ext1 x1).ext (.new np) fun a h => by
        rcases h with h | h
        · exact .inl h
        · rw [List.mem_singleton.mp h]; exact .inr ⟨nal, .lst upd_same⟩
      pin := pin.ext (.new np) fun a h => by
        rcases h with h | h
        · exact .inl h
        · rw [List.mem_singleton.mp h]; exact .inr nal }
    let Iv : Nat → Hp → Prop := fun i H2 => ∃ acc vs A, LcAt (Cn.of X T) M W σ H1 ρ P p acc H2 vs A ∧ acc.length ≤ i ∧ ∃ ys, lcGo tg tt te ρ (ds.drop i) = some ys ∧ acc ++ ys = ys0
    refine ⟨fun i m H2 => m = ds.length - i ∧ i ≤ ds.length ∧ Iv i H2, ⟨ds.length, by simp, Nat.zero_le _, [], [], [], start, Nat.le_refl _, ys0, eg, rfl⟩, ?_⟩
    rintro i m H2 ⟨rfl, hi, acc, vs, A, L, hla, ys, hgo, hys⟩
    by_cases hlt : i < ds.length
    · refine .inr ⟨S.go i _ _ L.pin hlt, Iv (i + 1), fun H' n => ⟨ds.length - (i + 1), by omega, rfl, hlt, n⟩, fun x H3 y => ?_⟩
      obtain ⟨x3, d, hd2, od⟩ := S.yld i _ _ x H3 L.pin y hlt
      rw [List.getElem?_eq_getElem hlt] at hd2
      cases hd2
      rw [List.drop_eq_getElem_cons hlt] at hgo
      unfold lcGo at hgo
      cases hb : tg.bind ds[i] ρ with
      | none => rw [hb] at hgo; cases hgo
      | some ρ' =>
      rw [hb] at hgo
      dsimp only at hgo
      have L3 := L.rel.ext1 x3
      refine gD_read (C := Cn.of X T) (by rw [wipe_length]; exact L3.len) od hb fun σ2 s2 => ⟨wipe_eq ?_ ?_, ?_⟩
      · rw [s2.ls, wipe_length]
      · intro j hj
        rw [(s2.out j hj).1, wipe_out hj]
      have R2 : Rel (Cn.of X T) M' (W.plus (p :: A)) σ2 H3 ρ' := L3.setsW s2 hM
      -- what stands behind the turn's own reckoning
      have keep : ∀ {H4 : Hp}, Ext (Cn.of X T).T H3 H4 → LcAt (Cn.of X T) M W σ H1 ρ P p acc H4 vs A := fun {H4} x4 =>
        have x5 := x3.trans x4
        ⟨x5.e _ _ L.lst (fun _ z => by cases z), L.own.ext x5 (fun a h => .inl h) _, L.nd, L.new, L.np, L.ext.trans x5, L.rel.ext1 x5, L.pin.ext x5 fun a h => .inl h⟩
      cases ht : tt ρ' with
      | ex e' => rw [ht] at hgo; cases hgo
      | bad => rw [ht] at hgo; cases hgo
      | ok b =>
      rw [ht] at hgo
      refine ⟨ρ', _, R2, ?_⟩
      rw [ht]
      intro H4 x4
      cases b with
      | false =>
        rw [if_neg (by decide)]
        exact ⟨acc, vs, A, keep x4, by omega, ys, hgo, hys⟩
      | true =>
        rw [if_pos rfl]
        dsimp only at hgo
        cases hy : te ρ' with
        | ex e' => rw [hy] at hgo; cases hgo
        | bad => rw [hy] at hgo; cases hgo
        | ok y0 =>
        rw [hy] at hgo
        refine ⟨ρ', _, R2.ext1 x4, ?_⟩
        rw [hy]
        intro yv H5 B x5 nB ndB oB
        have L5 := keep (x4.trans x5)
        obtain ⟨ys', hys', eys⟩ := Option.map_eq_some_iff.mp hgo
        refine ⟨vs, L5.lst, ?_, acc ++ [y0], vs ++ [yv], A ++ B, ?_, by rw [List.length_append]; exact Nat.add_le_add_right hla 1, ys', hys', by rw [List.append_assoc, ← hys, ← eys]; rfl⟩
        · have := L5.own.length
          have := S.sz
          omega
        have L4 := keep x4
        have lk : likeO (.lst vs) (.lst (vs ++ [yv])) = true := rfl
        have npB : p ∉ B := fun z => nB p z (L4.rel.al p (.inr (List.mem_cons_self ..)))
        have npAB : p ∉ A ++ B := fun z => (List.mem_append.mp z).elim L.np npB
        have grow : ∀ a, W.plus (p :: (A ++ B)) a → W.plus (p :: A) a ∨ ¬ Al H4 a := fun a h => by
          rcases h with h | h
          · exact .inl (.inl h)
          · rcases List.mem_cons.mp h with h | h
            · exact .inl (.inr (by rw [h]; exact List.mem_cons_self ..))
            · rcases List.mem_append.mp h with h | h
              · exact .inl (.inr (List.mem_cons_of_mem _ h))
              · exact .inr (nB a h)
        have wp : W.plus (p :: (A ++ B)) p := .inr (List.mem_cons_self ..)
        have o1 : Owns X.K (W.plus (p :: (A ++ B))) H5 vs acc A := L4.own.ext x5 grow _
        have o2 : Own X.K (W.plus (p :: (A ++ B))) H5 yv y0 B := oB.ext (.refl (T := T) H5) (fun a h => .inl (by
          rcases h with h | h
          · exact .inl (.inl h)
          · rcases List.mem_cons.mp h with h | h
            · exact .inl (.inr (by rw [h]; exact List.mem_cons_self ..))
            · rcases List.mem_append.mp h with h | h
              · exact .inl (.inr (List.mem_cons_of_mem _ h))
              · exact .inr h)) _
        exact {
          lst := upd_same
          own := (o1.upd L5.lst lk wp _ L.np).app (Owns.one (o2.upd L5.lst lk wp _ npB))
          nd := List.nodup_append.mpr ⟨L.nd, ndB, fun a h b h' q => by
            subst q
            exact nB a h' (L4.rel.al a (.inr (List.mem_cons_of_mem _ h)))⟩
          new := fun a h => (List.mem_append.mp h).elim (L.new a) fun h z => nB a h (z.ext L4.ext)
          np := npAB
          ext := extUpd L5.lst lk L5.ext nal
          rel := {
            v := fun j hj e he => by
              obtain ⟨v, e1, o⟩ := L4.rel.v j hj e he
              exact ⟨v, e1, (o.ext x5 grow _).upd L5.lst lk wp _ fun z => by cases z⟩
            al := fun a h => alUpd lk (by
              rcases h with h | h
              · exact (L4.rel.al a (.inl h)).ext x5
              · rcases List.mem_cons.mp h with h | h
                · rw [h]; exact .lst L5.lst
                · rcases List.mem_append.mp h with h | h
                  · exact (L4.rel.al a (.inr (List.mem_cons_of_mem _ h))).ext x5
                  · exact Own.al y0 oB a h)
            tb := tabsUpd L5.lst lk L5.rel.tb
            len := L5.rel.len }
          pin := fun z hz => ((L4.pin z hz).ext x5 grow _).upd L5.lst lk wp _ fun z => by cases z }
    · have ei : i = ds.length := by omega
      subst ei
      refine .inl ⟨S.stop _ _ _ L.pin rfl, ?_⟩
      rw [List.drop_length] at hgo
      cases hgo
      rw [List.append_nil] at hys
      subst hys
      exact q (.ref p) H2 (p :: A) (x1.trans L.ext) (fun a ha z => by
        rcases List.mem_cons.mp ha with h | h
        · rw [h] at z; exact nal (z.ext x1)
        · exact L.new a h (z.ext x1)) (List.nodup_cons.mpr ⟨L.np, L.nd⟩) ⟨p, vs, A, rfl, L.own, rfl, L.lst⟩
end
section
variable {X : Cx} {T : List (Addr × Str)} {M M' : List Nat} {Wx : WX} {pos : Pos} {elt tg iter : Expr} {ifs : List Expr} {scope : Scope}
/-- [elt for tg in iter if ..] -/
theorem de_lc {own : List (Str × Nat)} {t : Tg} {src : Env → Res (List D)} {tt : Env → Res Bool} {te : Env → Res D} (hc : X.calm = true) (hN : X.N.Nodup) (hi : DI X T M Wx tg iter src) (ok : BlkOk X.N X.env.scope scope own) (hv : own.map (·.2) = t.slots) (hM : ∀ i ∈ M', i ∈ M ∨ i ∈ t.slots)
    (hg : ∀ (s : Shared) (H : Hp) (C : Addr) (cl : List (Str × Addr)) (fp : List Addr), PG (X.blk s H scope (compEnvC scope cl C X.env) fp) tg (gD X.K t))
    (ht : ∀ (s : Shared) (H : Hp) (C : Addr) (cl : List (Str × Addr)) (fp : List Addr), PTs (X.blk s H scope (compEnvC scope cl C X.env) fp) ifs (tDB (Cn.of X T) M' (fun _ _ _ _ => False) tt))
    (he : ∀ (s : Shared) (H : Hp) (C : Addr) (cl : List (Str × Addr)) (fp : List Addr), DE (X.blk s H scope (compEnvC scope cl C X.env) fp) T M' (fun _ _ _ _ => False) elt te) (hs : ∀ x, foldedSetIterable iter X.env x = pure x := by intro _; rfl) :
    DE X T M Wx (.ListComp elt [⟨tg, iter, ifs, 0⟩] scope pos) (lcA src t tt te) :=
  pe_weak (pe_lc hc hN hi ok hg ht he hs) fun σ H Q h => by rw [hv]; exact lc_read hM h
theorem dts_nil : PTs X [] (tDB (Cn.of X T) M Wx yesB) := ⟨fun pins s σ H Q I ⟨ρ, W, r, q⟩ => pts_nil.run pins s σ H Q I (q H (.refl _))⟩
theorem dts_one {c : Expr} {f : Env → Res Bool} (h : DT X T M Wx c f) : PTs X [c] (tDB (Cn.of X T) M Wx f) := pts_one h
end
end De
set_option Elab.async false
set_option linter.all false
set_option maxRecDepth 100000
namespace De
open PySem PySem.Spec PyProof.Rows L2

/-! ### statements -/
inductive Out where
  | nx (ρ : Env) | rt (d : D) | bk (ρ : Env) | ct (ρ : Env) | ex (e : Ex) (ρ : Env) | bad
def wd (Wf : Wd) (foot : Nat → List Addr) : Wd := fun a => Wf a ∨ ∃ i, a ∈ foot i
/-- a def's frame: He the heap at its entry, Wf what is not shared outside, P what a loop walks; foot i: what slot i alone holds -/
structure RelS (C : Cn) (He : Hp) (Wf : Wd) (P : List (V × D)) (σ : L2.St) (H : Hp) (ρ : Env) (foot : Nat → List Addr) : Prop where
  own : ∀ i d, ρ[i]? = some (some d) → ∃ v, σ[i]? = some (some v) ∧ Own C.K (wd Wf foot) H v d (foot i)
  disj : ∀ i j a, a ∈ foot i → a ∈ foot j → i = j
  nd : ∀ i, (foot i).Nodup
  new : ∀ i a, a ∈ foot i → ¬ Al He a
  fl : ∀ i a, a ∈ foot i → Al H a
  wf : ∀ a, Wf a → Al He a
  ext : Ext C.T He H
  tb : LamX.Tabs C.T H
  pin : Pins C (wd Wf foot) H P
  len : σ.length = ρ.length
def RelE (C : Cn) (He : Hp) (Wf : Wd) (P : List (V × D)) (σ : L2.St) (H : Hp) (ρ : Env) : Prop := ∃ foot, RelS C He Wf P σ H ρ foot
def frzM : List Nat → Env → Env
  | [], ρ => ρ
  | i :: M, ρ => frzM M (match ρ[i]? with
    | some (some d) => ρ.set i (some (frz d))
    | _ => ρ)
theorem frzM_len : ∀ (M : List Nat) (ρ : Env), (frzM M ρ).length = ρ.length
  | [], _ => rfl
  | i :: M, ρ => by
    unfold frzM
    rw [frzM_len M]
    split
    · exact List.length_set ..
    · rfl
theorem frzM_get : ∀ (M : List Nat) (ρ : Env) (j : Nat), (frzM M ρ)[j]? = if j ∈ M then (ρ[j]?).map (Option.map frz) else ρ[j]?
  | [], _, _ => by simp [frzM]
  | i :: M, ρ, j => by
    unfold frzM
    rw [frzM_get M]
    by_cases e : i = j
    · subst e
      simp only [List.mem_cons, true_or, if_true]
      cases h : ρ[i]? with
      | none =>
        dsimp only
        by_cases hm : i ∈ M <;> simp [hm, h]
      | some o =>
        cases o with
        | none =>
          dsimp only
          by_cases hm : i ∈ M <;> simp [hm, h]
        | some d =>
          have hl : i < ρ.length := (List.getElem?_eq_some_iff.mp h).1
          dsimp only
          by_cases hm : i ∈ M <;> simp [hm, hl, frz_frz]
    · have e' : ¬ j = i := fun z => e z.symm
      have hset : (match ρ[i]? with | some (some d) => ρ.set i (some (frz d)) | _ => ρ)[j]? = ρ[j]? := by
        split
        · exact List.getElem?_set_ne e
        · rfl
      rw [hset]
      simp [e']
section
variable {C : Cn} {He : Hp} {Wf : Wd} {P : List (V × D)} {σ : L2.St} {H H' : Hp} {ρ : Env} {foot : Nat → List Addr}
theorem RelS.wal (r : RelS C He Wf P σ H ρ foot) {a : Addr} (h : wd Wf foot a) : Al H a := h.elim (fun h => (r.wf a h).ext r.ext) fun ⟨i, h⟩ => r.fl i a h
theorem RelS.ext1 (r : RelS C He Wf P σ H ρ foot) (x : Ext C.T H H') : RelS C He Wf P σ H' ρ foot where
  own := fun i d e => by
    obtain ⟨v, e1, o⟩ := r.own i d e
    exact ⟨v, e1, o.ext x (fun a h => .inl h) _⟩
  disj := r.disj
  nd := r.nd
  new := r.new
  fl := fun i a h => (r.fl i a h).ext x
  wf := r.wf
  ext := r.ext.trans x
  tb := x.t r.tb
  pin := r.pin.ext x fun a h => .inl h
  len := r.len
/-- what an expression that reads the slots M leaves unshared -/
def wdM (Wf : Wd) (foot : Nat → List Addr) (M : List Nat) : Wd := fun a => Wf a ∨ ∃ j, j ∉ M ∧ a ∈ foot j
theorem wdM_sub {M : List Nat} {a : Addr} (h : wdM Wf foot M a) : wd Wf foot a := h.imp id fun ⟨j, _, h⟩ => ⟨j, h⟩
theorem RelS.out (r : RelS C He Wf P σ H ρ foot) {M : List Nat} {i : Nat} (hi : i ∈ M) {a : Addr} (h : a ∈ foot i) : ¬ wdM Wf foot M a := fun z => by
  rcases z with z | ⟨j, hj, z⟩
  · exact r.new i a h (r.wf a z)
  · exact hj (by rw [← r.disj i j a h z]; exact hi)
theorem RelS.rel (r : RelS C He Wf P σ H ρ foot) (M : List Nat) : Rel C M (wdM Wf foot M) σ H ρ where
  v := fun i hi d e => by
    obtain ⟨v, e1, o⟩ := r.own i d e
    exact ⟨v, e1, o.frz (fun a h => wdM_sub h) _ fun a ha => r.out hi ha⟩
  al := fun a h => r.wal (wdM_sub h)
  tb := r.tb
  len := r.len
/-- slots M shared from now on -/
theorem RelS.frzM (r : RelS C He Wf P σ H ρ foot) (M : List Nat) : RelS C He Wf P σ H (De.frzM M ρ) (fun j => if j ∈ M then [] else foot j) := by
  have sub : ∀ a, wd Wf (fun j => if j ∈ M then [] else foot j) a → wdM Wf foot M a := fun a h => by
    rcases h with h | ⟨j, h⟩
    · exact .inl h
    · by_cases hj : j ∈ M
      · simp [hj] at h
      · exact .inr ⟨j, hj, by simpa [hj] using h⟩
  refine ⟨fun i d e => ?_, fun i j a h1 h2 => ?_, fun i => ?_, fun i a h => ?_, fun i a h => ?_, r.wf, r.ext, r.tb, fun p hp => ?_, by rw [frzM_len]; exact r.len⟩
  · rw [frzM_get] at e
    by_cases hi : i ∈ M
    · simp only [hi, if_true] at e ⊢
      cases h : ρ[i]? with
      | none => rw [h] at e; cases e
      | some o =>
        rw [h] at e
        cases o with
        | none => cases e
        | some d0 =>
          have e : frz d0 = d := by simpa using e
          subst e
          obtain ⟨v, e1, o⟩ := r.own i d0 h
          exact ⟨v, e1, o.frz (fun a h => wdM_sub (sub a h)) _ fun a ha z => r.out hi ha (sub a z)⟩
    · simp only [hi, if_false] at e ⊢
      obtain ⟨v, e1, o⟩ := r.own i d e
      exact ⟨v, e1, o.ext (.refl (T := C.T) H) (fun a h => .inl (wdM_sub (sub a h))) _⟩
  · by_cases hi : i ∈ M
    · simp [hi] at h1
    · by_cases hj : j ∈ M
      · simp [hj] at h2
      · exact r.disj i j a (by simpa [hi] using h1) (by simpa [hj] using h2)
  · by_cases hi : i ∈ M <;> simp [hi, r.nd]
  · by_cases hi : i ∈ M
    · simp [hi] at h
    · exact r.new i a (by simpa [hi] using h)
  · by_cases hi : i ∈ M
    · simp [hi] at h
    · exact r.fl i a (by simpa [hi] using h)
  · exact (r.pin p hp).ext (.refl (T := C.T) H) (fun a h => .inl (wdM_sub (sub a h))) _
/-- a slot is stored; its value alone holds A -/
theorem RelS.set (r : RelS C He Wf P σ H ρ foot) {i : Nat} {v : V} {d : D} {A : List Addr} (o : Own C.K ((wd Wf foot).plus A) H v d A) (nA : ∀ a ∈ A, ¬ wd Wf foot a) (neA : ∀ a ∈ A, ¬ Al He a) (nd : A.Nodup) (pin : Pins C ((wd Wf foot).plus A) H P)
    (ow : ∀ j d, ρ[j]? = some (some d) → ∃ v, σ[j]? = some (some v) ∧ Own C.K ((wd Wf foot).plus A) H v d (foot j)) :
    RelS C He Wf P (σ.set i (some v)) H (ρ.set i (some d)) (fun j => if j = i then A else foot j) := by
  have sub : ∀ a, wd Wf (fun j => if j = i then A else foot j) a → (wd Wf foot).plus A a := fun a h => by
    rcases h with h | ⟨j, h⟩
    · exact .inl (.inl h)
    · by_cases hj : j = i
      · exact .inr (by simpa [hj] using h)
      · exact .inl (.inr ⟨j, by simpa [hj] using h⟩)
  refine ⟨fun j e he => ?_, fun j k a h1 h2 => ?_, fun j => ?_, fun j a h => ?_, fun j a h => ?_, r.wf, r.ext, r.tb, fun p hp => ?_, by rw [List.length_set, List.length_set]; exact r.len⟩
  · by_cases hj : j = i
    · subst hj
      by_cases hl : j < ρ.length
      · rw [List.getElem?_set_self hl] at he
        cases he
        refine ⟨v, by rw [List.getElem?_set_self (by rw [r.len]; exact hl)], ?_⟩
        simp only [if_true]
        exact o.ext (.refl (T := C.T) H) (fun a h => .inl (sub a h)) _
      · rw [List.getElem?_eq_none (by simpa using hl)] at he
        cases he
    · have hj' : i ≠ j := fun z => hj z.symm
      rw [List.getElem?_set_ne hj'] at he
      obtain ⟨w, e1, o1⟩ := ow j e he
      refine ⟨w, by rw [List.getElem?_set_ne hj']; exact e1, ?_⟩
      simp only [hj, if_false]
      exact o1.ext (.refl (T := C.T) H) (fun a h => .inl (sub a h)) _
  · by_cases hj : j = i
    · by_cases hk : k = i
      · rw [hj, hk]
      · simp only [hj, hk, if_true, if_false] at h1 h2
        exact absurd (.inr ⟨k, h2⟩) (nA a h1)
    · by_cases hk : k = i
      · simp only [hj, hk, if_true, if_false] at h1 h2
        exact absurd (.inr ⟨j, h1⟩) (nA a h2)
      · simp only [hj, hk, if_false] at h1 h2
        exact r.disj j k a h1 h2
  · by_cases hj : j = i <;> simp [hj, nd, r.nd]
  · by_cases hj : j = i
    · simp only [hj, if_true] at h; exact neA a h
    · simp only [hj, if_false] at h; exact r.new j a h
  · by_cases hj : j = i
    · simp only [hj, if_true] at h; exact Own.al d o a h
    · simp only [hj, if_false] at h; exact r.fl j a h
  · exact (pin p hp).ext (.refl (T := C.T) H) (fun a h => .inl (sub a h)) _
/-- slots stored with shared things -/
theorem RelS.sets (r : RelS C He Wf P σ H ρ foot) {is : List Nat} {σ' : L2.St} {ρ' : Env} (s : Sets C (wd Wf foot) H is σ σ' ρ ρ') : RelS C He Wf P σ' H ρ' (fun j => if j ∈ is then [] else foot j) := by
  have sub : ∀ a, wd Wf (fun j => if j ∈ is then [] else foot j) a → wd Wf foot a := fun a h => by
    rcases h with h | ⟨j, h⟩
    · exact .inl h
    · by_cases hj : j ∈ is
      · simp [hj] at h
      · exact .inr ⟨j, by simpa [hj] using h⟩
  refine ⟨fun j e he => ?_, fun j k a h1 h2 => ?_, fun j => ?_, fun j a h => ?_, fun j a h => ?_, r.wf, r.ext, r.tb, fun p hp => ?_, by rw [s.ls, s.lr]; exact r.len⟩
  · by_cases hj : j ∈ is
    · obtain ⟨v, e1, o⟩ := s.at_ j e hj he
      simp only [hj, if_true]
      exact ⟨v, e1, o.ext (.refl (T := C.T) H) (fun a h => .inl (sub a h)) _⟩
    · have h := s.out j hj
      rw [h.2] at he
      obtain ⟨v, e1, o⟩ := r.own j e he
      simp only [hj, if_false]
      exact ⟨v, by rw [h.1]; exact e1, o.ext (.refl (T := C.T) H) (fun a h => .inl (sub a h)) _⟩
  · by_cases hj : j ∈ is
    · simp [hj] at h1
    · by_cases hk : k ∈ is
      · simp [hk] at h2
      · exact r.disj j k a (by simpa [hj] using h1) (by simpa [hk] using h2)
  · by_cases hj : j ∈ is <;> simp [hj, r.nd]
  · by_cases hj : j ∈ is
    · simp [hj] at h
    · exact r.new j a (by simpa [hj] using h)
  · by_cases hj : j ∈ is
    · simp [hj] at h
    · exact r.fl j a (by simpa [hj] using h)
  · exact (r.pin p hp).ext (.refl (T := C.T) H) (fun a h => .inl (sub a h)) _
theorem RelS.pins (r : RelS C He Wf P σ H ρ foot) {P' : List (V × D)} (p : Pins C (wd Wf foot) H P') : RelS C He Wf P' σ H ρ foot := ⟨r.own, r.disj, r.nd, r.new, r.fl, r.wf, r.ext, r.tb, p, r.len⟩
/-- behind an expression that read M: the store of its value into a slot -/
theorem RelS.asg (r : RelS C He Wf P σ H ρ foot) {M : List Nat} {i : Nat} {v : V} {d : D} {A : List Addr} (x : Ext C.T H H') (n : ∀ a ∈ A, ¬ Al H a) (nd : A.Nodup) (o : Own C.K ((wdM Wf foot M).plus A) H' v d A) :
    RelE C He Wf P (σ.set i (some v)) H' (if af d = true then ρ.set i (some d) else (De.frzM M ρ).set i (some d)) := by
  have neA : ∀ a ∈ A, ¬ Al He a := fun a ha z => n a ha (z.ext r.ext)
  split
  · rename_i ha
    have r1 := r.ext1 x
    have g : ∀ a, (wd Wf foot).plus A a → wd Wf foot a ∨ ¬ Al H a := fun a h => h.imp id (n a)
    refine ⟨_, r1.set (A := A) (o.afw _ ha) (fun a ha z => n a ha (r.wal z)) neA nd (r.pin.ext x g) fun j e he => ?_⟩
    obtain ⟨w, e1, o1⟩ := r.own j e he
    exact ⟨w, e1, o1.ext x g _⟩
  · have r0 := r.frzM M
    have r1 := r0.ext1 x
    have sub : ∀ a, wd Wf (fun j => if j ∈ M then [] else foot j) a → wdM Wf foot M a := fun a h => by
      rcases h with h | ⟨j, h⟩
      · exact .inl h
      · by_cases hj : j ∈ M
        · simp [hj] at h
        · exact .inr ⟨j, hj, by simpa [hj] using h⟩
    have g : ∀ a, (wd Wf (fun j => if j ∈ M then [] else foot j)).plus A a → wd Wf (fun j => if j ∈ M then [] else foot j) a ∨ ¬ Al H a := fun a h => h.imp id (n a)
    refine ⟨_, r1.set (A := A) (o.ext (.refl (T := C.T) H') (fun a h => .inl (h.imp (sub a) id)) _) (fun a ha z => n a ha (r0.wal z)) neA nd (r0.pin.ext x g) fun j e he => ?_⟩
    obtain ⟨w, e1, o1⟩ := r0.own j e he
    exact ⟨w, e1, o1.ext x g _⟩
end

/-! ### what a statement does -/
def PostS (C : Cn) (He : Hp) (Wf : Wd) (P : List (V × D)) (r : Out) (E : Ends) (Wx : WX) : Prop := match r with
  | .nx ρ => ∀ σ H, RelE C He Wf P σ H ρ → E.nx σ H
  | .bk ρ => ∀ σ H, RelE C He Wf P σ H ρ → E.bk σ H
  | .ct ρ => ∀ σ H, RelE C He Wf P σ H ρ → E.ct σ H
  | .rt d => ∀ v H A, Ext C.T He H → (∀ a ∈ A, ¬ Al He a) → A.Nodup → Own C.K (Wf.plus A) H v d A → E.rt v H
  | .ex e ρ => ∀ c o σ H, RelE C He Wf P σ H ρ → ExcIs C.mg H e c o → Wx c o σ H
  | .bad => False
def tS (C : Cn) (Wx : WX) (s : Env → Out) : TS := fun E σ H => ∃ ρ He Wf P, RelE C He Wf P σ H ρ ∧ PostS C He Wf P (s ρ) E Wx
abbrev DS (X : Cx) (T : List (Addr × Str)) (Wx : WX) (st : Stmt) (s : Env → Out) : Prop := PS X st (tS (Cn.of X T) Wx s)
abbrev DSs (X : Cx) (T : List (Addr × Str)) (Wx : WX) (st : List Stmt) (s : Env → Out) : Prop := PSs X st (tS (Cn.of X T) Wx s)
def nilS : Env → Out := fun ρ => .nx ρ
def seqS (s t : Env → Out) : Env → Out := fun ρ => match s ρ with
  | .nx ρ' => t ρ'
  | r => r
def brkS : Env → Out := fun ρ => .bk ρ
def cntS : Env → Out := fun ρ => .ct ρ
def badS : Env → Out := fun _ => .bad
def ifS (c : Env → Res Bool) (s t : Env → Out) : Env → Out := fun ρ => match c ρ with
  | .ok true => s ρ
  | .ok false => t ρ
  | .ex e => .ex e ρ
  | .bad => .bad
def drpS (f : Env → Res D) : Env → Out := fun ρ => match f ρ with
  | .ok _ => .nx ρ
  | .ex e => .ex e ρ
  | .bad => .bad
def retS (f : Env → Res D) : Env → Out := fun ρ => match f ρ with
  | .ok d => .rt d
  | .ex e => .ex e ρ
  | .bad => .bad
def asgS (M : List Nat) (i : Nat) (f : Env → Res D) : Env → Out := fun ρ => match f ρ with
  | .ok d => .nx (if af d = true then ρ.set i (some d) else (frzM M ρ).set i (some d))
  | .ex e => .ex e ρ
  | .bad => .bad
section
variable {X : Cx} {T : List (Addr × Str)} {M : List Nat} {Wx : WX} {pos : Pos} {e : Expr} {st : Stmt} {rest : List Stmt}
theorem dss_nil : DSs X T Wx [] nilS := pss_weak pss_nil fun E σ H ⟨ρ, He, Wf, P, r, q⟩ => q σ H r
theorem dss_cons {s t : Env → Out} (h1 : DS X T Wx st s) (h2 : DSs X T Wx rest t) : DSs X T Wx (st :: rest) (seqS s t) := by
  refine pss_weak (pss_cons h1 h2) fun E σ H ⟨ρ, He, Wf, P, r, q⟩ => ⟨ρ, He, Wf, P, r, ?_⟩
  unfold seqS at q
  cases e : s ρ with
  | nx ρ' => rw [e] at q; exact fun σ' H' r' => ⟨ρ', He, Wf, P, r', q⟩
  | rt d => rw [e] at q; exact q
  | bk ρ' => rw [e] at q; exact q
  | ct ρ' => rw [e] at q; exact q
  | ex e' ρ' => rw [e] at q; exact q
  | bad => rw [e] at q; exact q
theorem dss_one {s : Env → Out} (h1 : DS X T Wx st s) : DSs X T Wx [st] s := pss_one h1
theorem ds_pass : DS X T Wx (.Pass pos) nilS := ps_weak ps_pass fun E σ H ⟨ρ, He, Wf, P, r, q⟩ => q σ H r
theorem ds_break : DS X T Wx (.Break pos) brkS := ps_weak ps_break fun E σ H ⟨ρ, He, Wf, P, r, q⟩ => q σ H r
theorem ds_continue : DS X T Wx (.Continue pos) cntS := ps_weak ps_continue fun E σ H ⟨ρ, He, Wf, P, r, q⟩ => q σ H r
theorem ds_never : DS X T Wx st badS := ps_weak ps_never fun E σ H ⟨ρ, He, Wf, P, r, q⟩ => q
theorem ds_if {c : Expr} {a b : List Stmt} {f : Env → Res Bool} {s t : Env → Out} (M : List Nat) (hc : DT X T M Wx c f) (ha : DSs X T Wx a s) (hb : DSs X T Wx b t) : DS X T Wx (.If c a b pos) (ifS f s t) := by
  refine ps_weak (ps_if hc ha hb) fun E σ H ⟨ρ, He, Wf, P, ⟨foot, r⟩, q⟩ => ⟨ρ, _, r.rel M, ?_⟩
  unfold ifS at q
  cases e : f ρ with
  | ok b =>
    rw [e] at q
    intro H' x
    have r' := r.ext1 x
    cases b with
    | true => rw [if_pos rfl]; exact ⟨ρ, He, Wf, P, ⟨foot, r'⟩, q⟩
    | false => rw [if_neg (by decide)]; exact ⟨ρ, He, Wf, P, ⟨foot, r'⟩, q⟩
  | ex e' => rw [e] at q; exact fun c o H' x y => q c o σ H' ⟨foot, r.ext1 x⟩ y
  | bad => rw [e] at q; exact q
theorem ds_drop {f : Env → Res D} (M : List Nat) (h : DE X T M Wx e f) (hs : swapsWith e none pos.line X.env = pure false := by rfl) : DS X T Wx (.Expr e pos) (drpS f) := by
  refine ps_weak (ps_expr h hs) fun E σ H ⟨ρ, He, Wf, P, ⟨foot, r⟩, q⟩ => ⟨ρ, _, r.rel M, ?_⟩
  unfold drpS at q
  cases e : f ρ with
  | ok d => rw [e] at q; exact fun v H' A x n nd o => q σ H' ⟨foot, r.ext1 x⟩
  | ex e' => rw [e] at q; exact fun c o H' x y => q c o σ H' ⟨foot, r.ext1 x⟩ y
  | bad => rw [e] at q; exact q
theorem ds_ret {f : Env → Res D} (M : List Nat) (h : DE X T M Wx e f) : DS X T Wx (.Return (some e) pos) (retS f) := by
  refine ps_weak (ps_ret h) fun E σ H ⟨ρ, He, Wf, P, ⟨foot, r⟩, q⟩ => ⟨ρ, _, r.rel M, ?_⟩
  unfold retS at q
  cases e : f ρ with
  | ok d => rw [e] at q; exact fun v H' A x n nd o => q v H' A (r.ext.trans x) (fun a ha z => n a ha (z.ext r.ext)) nd (o.ext (.refl (T := T) H') (fun a h => .inl (h.imp .inl id)) _)
  | ex e' => rw [e] at q; exact fun c o H' x y => q c o σ H' ⟨foot, r.ext1 x⟩ y
  | bad => rw [e] at q; exact q
theorem ds_retN : DS X T Wx (.Return none pos) (fun _ => .rt .non) := ps_weak ps_retN fun E σ H ⟨ρ, He, Wf, P, ⟨foot, r⟩, q⟩ => q .non H [] r.ext (fun a h => by cases h) .nil ⟨rfl, rfl⟩
theorem asg_read {f : Env → Res D} {t : TE} {i : Nat} {E : Ends} {σ : L2.St} {H : Hp} (h : tS (Cn.of X T) Wx (asgS M i f) E σ H) : tAsg (tD (Cn.of X T) M Wx f) (gName i) E σ H := by
  obtain ⟨ρ, He, Wf, P, ⟨foot, r⟩, q⟩ := h
  refine ⟨ρ, _, r.rel M, ?_⟩
  unfold asgS at q
  cases e : f ρ with
  | ok d => rw [e] at q; exact fun v H' A x n nd o => q _ H' (r.asg x n nd o)
  | ex e' => rw [e] at q; exact fun c o H' x y => q c o σ H' ⟨foot, r.ext1 x⟩ y
  | bad => rw [e] at q; exact q
theorem ds_set {i : Nat} {x : Str} {pos' : Pos} {f : Env → Res D} (M : List Nat) (hN : X.N.Nodup) (hi : X.N[i]? = some x) (hx : Loc X.env.scope x) (he : DE X T M Wx e f) (hs : swapsWith e (some (.Name x pos')) pos.line X.env = pure false := by rfl)
    (hf : X.fn x = true ∨ X.env.scope.names.lookup x = some .local := by first | exact .inl rfl | exact .inr rfl | assumption) : DS X T Wx (.Assign [.Name x pos'] e pos) (asgS M i f) :=
  ps_weak (ps_set hN hi hx he hs hf) fun E σ H h => asg_read (t := tD (Cn.of X T) M Wx f) h
end
end De
set_option Elab.async false
set_option linter.all false
set_option maxRecDepth 100000
namespace De
open PySem PySem.Spec PyProof.Rows L2

section
variable {C : Cn} {He : Hp} {Wf : Wd} {P : List (V × D)} {σ : L2.St} {H H' : Hp} {ρ : Env} {foot : Nat → List Addr}
theorem wd_upd {i : Nat} {F A : List Addr} (sub : ∀ b ∈ F, b ∈ foot i ∨ b ∈ A) {a : Addr} (h : wd Wf (fun j => if j = i then F else foot j) a) : (wd Wf foot).plus A a := by
  rcases h with h | ⟨j, h⟩
  · exact .inl (.inl h)
  · by_cases hj : j = i
    · rcases sub a (by simpa [hj] using h) with z | z
      · exact .inl (.inr ⟨i, z⟩)
      · exact .inr z
    · exact .inl (.inr ⟨j, by simpa [hj] using h⟩)
/-- an object that slot i alone holds is written -/
theorem RelS.mut (r : RelS C He Wf P σ H ρ foot) {i : Nat} {v : V} {d : D} {a : Addr} {o o' : HO} {A F : List Addr} (hσ : σ[i]? = some (some v)) (ha : a ∈ foot i) (ho : H a = some o) (lk : likeO o o' = true)
    (nA : ∀ b ∈ A, ¬ wd Wf foot b) (neA : ∀ b ∈ A, ¬ Al He b) (own : Own C.K ((wd Wf foot).plus A) (upd H a o') v d F) (sub : ∀ b ∈ F, b ∈ foot i ∨ b ∈ A) (nd : F.Nodup)
    (ow : ∀ j d, ρ[j]? = some (some d) → ∃ v, σ[j]? = some (some v) ∧ Own C.K ((wd Wf foot).plus A) H v d (foot j)) (pin : Pins C ((wd Wf foot).plus A) H P) :
    RelS C He Wf P σ (upd H a o') (ρ.set i (some d)) (fun j => if j = i then F else foot j) := by
  have wa : (wd Wf foot).plus A a := .inl (.inr ⟨i, ha⟩)
  refine ⟨fun j e he => ?_, fun j k b h1 h2 => ?_, fun j => ?_, fun j b h => ?_, fun j b h => ?_, r.wf, extUpd ho lk r.ext (r.new i a ha), tabsUpd ho lk r.tb, fun p hp => ?_, by rw [List.length_set]; exact r.len⟩
  · by_cases hj : j = i
    · subst hj
      by_cases hl : j < ρ.length
      · rw [List.getElem?_set_self hl] at he
        cases he
        refine ⟨v, hσ, ?_⟩
        simp only [if_true]
        exact own.ext (.refl (T := C.T) _) (fun b h => .inl (wd_upd sub h)) _
      · rw [List.getElem?_eq_none (by simpa using hl)] at he
        cases he
    · have hj' : i ≠ j := fun z => hj z.symm
      rw [List.getElem?_set_ne hj'] at he
      obtain ⟨w, e1, o1⟩ := ow j e he
      refine ⟨w, e1, ?_⟩
      simp only [hj, if_false]
      exact (o1.upd ho lk wa _ fun z => hj (r.disj j i a z ha)).ext (.refl (T := C.T) _) (fun b h => .inl (wd_upd sub h)) _
  · by_cases hj : j = i
    · by_cases hk : k = i
      · rw [hj, hk]
      · simp only [hj, hk, if_true, if_false] at h1 h2
        rcases sub b h1 with z | z
        · exact hj.trans (r.disj i k b z h2)
        · exact absurd (.inr ⟨k, h2⟩) (nA b z)
    · by_cases hk : k = i
      · simp only [hj, hk, if_true, if_false] at h1 h2
        rcases sub b h2 with z | z
        · exact (r.disj j i b h1 z).trans hk.symm
        · exact absurd (.inr ⟨j, h1⟩) (nA b z)
      · simp only [hj, hk, if_false] at h1 h2
        exact r.disj j k b h1 h2
  · by_cases hj : j = i <;> simp [hj, nd, r.nd]
  · by_cases hj : j = i
    · simp only [hj, if_true] at h
      exact (sub b h).elim (r.new i b) (neA b)
    · simp only [hj, if_false] at h; exact r.new j b h
  · by_cases hj : j = i
    · simp only [hj, if_true] at h; exact Own.al d own b h
    · simp only [hj, if_false] at h; exact alUpd lk (r.fl j b h)
  · exact ((pin p hp).upd ho lk wa _ fun z => by cases z).ext (.refl (T := C.T) _) (fun b h => .inl (wd_upd sub h)) _
/-- behind an expression that read M: its value is still held apart; the frame as it then stands -/
def keepM (M : List Nat) (d : D) (ρ : Env) : Env := if af d = true then ρ else frzM M ρ
theorem RelS.after (r : RelS C He Wf P σ H ρ foot) {M : List Nat} {v : V} {d : D} {A : List Addr} (x : Ext C.T H H') (n : ∀ a ∈ A, ¬ Al H a) (o : Own C.K ((wdM Wf foot M).plus A) H' v d A) :
    ∃ foot', RelS C He Wf P σ H' (keepM M d ρ) foot' ∧ (∀ a ∈ A, ¬ wd Wf foot' a) ∧ (∀ a ∈ A, ¬ Al He a) ∧ Own C.K ((wd Wf foot').plus A) H' v d A ∧ (∀ j e, (keepM M d ρ)[j]? = some (some e) → ∃ v, σ[j]? = some (some v) ∧ Own C.K ((wd Wf foot').plus A) H' v e (foot' j)) ∧ Pins C ((wd Wf foot').plus A) H' P := by
  have neA : ∀ a ∈ A, ¬ Al He a := fun a ha z => n a ha (z.ext r.ext)
  have fin : ∀ {ρ0 foot0}, RelS C He Wf P σ H ρ0 foot0 → Own C.K ((wd Wf foot0).plus A) H' v d A → ∃ foot', RelS C He Wf P σ H' ρ0 foot' ∧ (∀ a ∈ A, ¬ wd Wf foot' a) ∧ (∀ a ∈ A, ¬ Al He a) ∧ Own C.K ((wd Wf foot').plus A) H' v d A ∧ (∀ j e, ρ0[j]? = some (some e) → ∃ v, σ[j]? = some (some v) ∧ Own C.K ((wd Wf foot').plus A) H' v e (foot' j)) ∧ Pins C ((wd Wf foot').plus A) H' P := by
    intro ρ0 foot0 r0 o0
    have g : ∀ a, (wd Wf foot0).plus A a → wd Wf foot0 a ∨ ¬ Al H a := fun a h => h.imp id (n a)
    refine ⟨foot0, r0.ext1 x, fun a ha z => n a ha (r0.wal z), neA, o0, fun j e he => ?_, r0.pin.ext x g⟩
    obtain ⟨w, e1, o1⟩ := r0.own j e he
    exact ⟨w, e1, o1.ext x g _⟩
  unfold keepM
  split
  · rename_i ha
    exact fin r (o.afw _ ha)
  · refine fin (r.frzM M) (o.ext (.refl (T := C.T) H') (fun a h => .inl (h.imp (fun h => ?_) id)) _)
    rcases h with h | ⟨j, h⟩
    · exact .inl h
    · by_cases hj : j ∈ M
      · simp [hj] at h
      · exact .inr ⟨j, hj, by simpa [hj] using h⟩
end

theorem keepM_own {M : List Nat} {d : D} {ρ : Env} {i : Nat} {ds : List D} (h : (keepM M d ρ)[i]? = some (some (.lst true ds))) : ρ[i]? = some (some (.lst true ds)) := by
  unfold keepM at h
  split at h
  · exact h
  · rw [frzM_get] at h
    split at h
    · cases q : ρ[i]? with
      | none => rw [q] at h; cases h
      | some o =>
        rw [q] at h
        cases o with
        | none => cases h
        | some e =>
          have h : frz e = .lst true ds := by simpa using h
          cases e <;> cases h
    · exact h
theorem keepM_own2 {M : List Nat} {d : D} {ρ : Env} {i : Nat} {ds : List D} (h : ρ[i]? = some (some (.lst true ds))) {e : D} (k : (keepM M d ρ)[i]? = some (some e)) : e = .lst true ds ∨ ∃ es, e = .lst false es := by
  unfold keepM at k
  split at k
  · rw [h] at k; cases k; exact .inl rfl
  · rw [frzM_get] at k
    split at k
    · rw [h] at k
      have k : frz (.lst true ds) = e := by simpa using k
      exact .inr ⟨_, k.symm⟩
    · rw [h] at k; cases k; exact .inl rfl

/-! ### changes of a list that a slot alone holds -/
/-- by the list and a value: the new list (of the old things, or the value) -/
def mutS (M : List Nat) (i : Nat) (f : Env → Res D) (g : List D → D → Option (List D)) : Env → Out := fun ρ => match ρ[i]? with
  | some (some (.lst true ds)) => (match f ρ with
    | .ok d => (match (keepM M d ρ)[i]? with
      | some (some (.lst true _)) => (match g ds d with
        | some es => .nx ((keepM M d ρ).set i (some (.lst true es)))
        | none => .bad)
      | _ => .bad)
    | .ex e => .ex e ρ
    | .bad => .bad)
  | _ => .bad
def gApp (ds : List D) (d : D) : Option (List D) := if ds.length < 16777216 then some (ds ++ [d]) else none
section
variable {X : Cx} {T : List (Addr × Str)} {M : List Nat} {Wx : WX} {pos : Pos} {e : Expr}
theorem own_lstT {C : Cn} {W : Wd} {H : Hp} {v : V} {ds : List D} {F : List Addr} (h : Own C.K W H v (.lst true ds) F) : ∃ a vs B, v = .ref a ∧ Owns C.K W H vs ds B ∧ F = a :: B ∧ H a = some (.lst vs) := h
/-- the reading of «slot i's list is changed by the value of f» -/
theorem mut_read {i : Nat} {f : Env → Res D} {g : List D → D → Option (List D)} {E : Ends} {σ : L2.St} {H : Hp} {r : V → V → Hp → (Hp → Prop) → Prop}
    (hr : ∀ (W : Wd) (a : Addr) (vs : List V) (ds es : List D) (v : V) (d : D) (H : Hp) (A B : List Addr) (Q : Hp → Prop), H a = some (.lst vs) → Owns X.K W H vs ds B → Own X.K W H v d A → (B ++ A).Nodup → g ds d = some es →
      (∀ ws F, Owns X.K W H ws es F → (∀ b ∈ F, b ∈ B ∨ b ∈ A) → F.Nodup → Q (upd H a (.lst ws))) → r (.ref a) v H Q)
    (h : tS (Cn.of X T) Wx (mutS M i f g) E σ H) :
    ∃ a, σ[i]? = some (some (.ref a)) ∧ (∃ vs, H a = some (.lst vs)) ∧ tD (Cn.of X T) M Wx f σ H fun v H1 => r (.ref a) v H1 fun H2 => E.nx σ H2 := by
  obtain ⟨ρ, He, Wf, P, ⟨foot, R⟩, q⟩ := h
  unfold mutS at q
  cases hi : ρ[i]? with
  | none => rw [hi] at q; exact q.elim
  | some o =>
  rw [hi] at q
  cases o with
  | none => exact q.elim
  | some l =>
  cases l with
  | lst b ds =>
    cases b with
    | false => exact q.elim
    | true =>
    obtain ⟨w, hw, ow⟩ := R.own i _ hi
    obtain ⟨a, vs, B, rfl, hvs, hF, ha⟩ := own_lstT (C := Cn.of X T) ow
    refine ⟨a, hw, ⟨vs, ha⟩, ρ, _, R.rel M, ?_⟩
    cases hf : f ρ with
    | ex e' => rw [hf] at q; exact fun c o H' x y => q c o σ H' ⟨foot, R.ext1 x⟩ y
    | bad => rw [hf] at q; exact q
    | ok d =>
    rw [hf] at q
    intro v H1 A x n nd o
    obtain ⟨foot', R', nA, neA, o', ow', pin'⟩ := R.after x n o
    dsimp only at q
    cases hk : (keepM M d ρ)[i]? with
    | none => rw [hk] at q; exact q.elim
    | some k =>
    rw [hk] at q
    cases k with
    | none => exact q.elim
    | some l =>
    rcases keepM_own2 hi hk with e | ⟨es, e⟩
    · subst e
      dsimp only at q
      cases hg : g ds d with
      | none => rw [hg] at q; exact q.elim
      | some es =>
      rw [hg] at q
      obtain ⟨w2, hw2, ow2⟩ := ow' i _ hk
      rw [hw] at hw2
      cases hw2
      obtain ⟨a2, vs2, B2, e2, hvs2, hF2, ha2⟩ := own_lstT (C := Cn.of X T) ow2
      cases e2
      have ndF := R'.nd i
      rw [hF2] at ndF
      obtain ⟨naB, ndB⟩ := List.nodup_cons.mp ndF
      refine hr _ a vs2 ds es v d H1 A B2 _ ha2 hvs2 o' (List.nodup_append.mpr ⟨ndB, nd, fun b hb c hc z => ?_⟩) hg fun ws F hws sub ndF' => ?_
      · subst z
        exact nA b hc (.inr ⟨i, by rw [hF2]; exact List.mem_cons_of_mem _ hb⟩)
      · have lk : likeO (.lst vs2) (.lst ws) = true := rfl
        have haf : a ∈ foot' i := by rw [hF2]; exact List.mem_cons_self ..
        have naF : a ∉ F := fun z => (sub a z).elim naB fun z => nA a z (.inr ⟨i, haf⟩)
        have wa : (wd Wf foot').plus A a := .inl (.inr ⟨i, haf⟩)
        exact q σ _ ⟨_, R'.mut (F := a :: F) hw haf ha2 lk nA neA ⟨a, ws, F, rfl, hws.upd ha2 lk wa _ naF, rfl, upd_same⟩ (fun b hb => by
          rcases List.mem_cons.mp hb with z | z
          · rw [z]; exact .inl haf
          · exact (sub b z).imp (fun z => by rw [hF2]; exact List.mem_cons_of_mem _ z) id) (List.nodup_cons.mpr ⟨naF, ndF'⟩) ow' pin'⟩
    · subst e
      exact q.elim
  | _ => exact q.elim
theorem ds_append {i : Nat} {f : Env → Res D} (h : PE X e (tBM X.K "list" rAppend (tVar i) (tCons (tD (Cn.of X T) M Wx f) tNil))) (hs : swapsWith e none pos.line X.env = pure false := by rfl) : DS X T Wx (.Expr e pos) (mutS M i f gApp) := by
  refine ps_weak (ps_expr h hs) fun E σ H q => ?_
  obtain ⟨a, h1, ⟨vs, h2⟩, q⟩ := mut_read (r := fun x y H Q => ∃ l xs, x = .ref l ∧ H l = some (.lst xs) ∧ xs.length < sizeLine ∧ Q (upd H l (.lst (xs ++ [y])))) (fun W a vs ds es v d H A B Q ha o1 o2 nd hg k => by
    unfold gApp at hg
    split at hg
    · rename_i hl
      cases hg
      exact ⟨a, vs, rfl, ha, by rw [o1.length, ← sl_line]; exact hl, k _ _ (o1.app (Owns.one o2)) (fun b hb => List.mem_append.mp hb) nd⟩
    · cases hg) q
  refine ⟨_, h1, .inl ⟨rfl, _, SqL.of h2⟩, ?_⟩
  obtain ⟨ρ, W, r, p⟩ := q
  exact ⟨ρ, W, r, p.mono fun v H1 ⟨l, xs, e1, e2, e3, e4⟩ => ⟨l, xs, v, e1, rfl, e2, e3, e4⟩⟩
end
end De
set_option Elab.async false
set_option linter.all false
set_option maxRecDepth 100000
namespace De
open PySem PySem.Spec PyProof.Rows L2

/-! ### loops -/
def forGo (tg : Tg) (body : Env → Out) : List D → Env → Out
  | [], ρ => .nx ρ
  | d :: ds, ρ => match tg.bind d ρ with
    | none => .bad
    | some ρ1 => match body ρ1 with
      | .nx ρ2 => forGo tg body ds ρ2
      | .ct ρ2 => forGo tg body ds ρ2
      | .bk ρ2 => .nx ρ2
      | r => r
/-- for tg in src: the slots M that src reads are shared from then on -/
def forS (M : List Nat) (src : Env → Res (List D)) (tg : Tg) (body : Env → Out) : Env → Out := fun ρ => match src ρ with
  | .ok ds => forGo tg body ds (frzM M ρ)
  | .ex e => .ex e ρ
  | .bad => .bad
def whGo (c : Env → Res Bool) (body : Env → Out) : Nat → Env → Out
  | 0, _ => .bad
  | n + 1, ρ => match c ρ with
    | .ok false => .nx ρ
    | .ok true => (match body ρ with
      | .nx ρ2 => whGo c body n ρ2
      | .ct ρ2 => whGo c body n ρ2
      | .bk ρ2 => .nx ρ2
      | r => r)
    | .ex e => .ex e ρ
    | .bad => .bad
section
variable {X : Cx} {T : List (Addr × Str)} {M : List Nat} {Wx : WX} {pos : Pos} {e : Expr}
theorem for_read {src : Env → Res (List D)} {tg : Tg} {body : Env → Out} {E : Ends} {σ : L2.St} {H : Hp} (h : tS (Cn.of X T) Wx (forS M src tg body) E σ H) :
    tFor (tI (Cn.of X T) M Wx src) (gD X.K tg) (tS (Cn.of X T) Wx body) E σ H := by
  obtain ⟨ρ, He, Wf, P, ⟨foot, r⟩, q⟩ := h
  refine ⟨ρ, _, r.rel M, ?_⟩
  unfold forS at q
  cases e : src ρ with
  | ex e' => rw [e] at q; exact fun c o H' x y => q c o σ H' ⟨foot, r.ext1 x⟩ y
  | bad => rw [e] at q; exact q
  | ok ds =>
  rw [e] at q
  have q : PostS (Cn.of X T) He Wf P (forGo tg body ds (frzM M ρ)) E Wx := q
  intro J H1 Pn x1 pin S
  have r0 := (r.frzM M).ext1 x1
  have sub : ∀ a, wd Wf (fun j => if j ∈ M then [] else foot j) a → wdM Wf foot M a := fun a h => by
    rcases h with h | ⟨j, h⟩
    · exact .inl h
    · by_cases hj : j ∈ M
      · simp [hj] at h
      · exact .inr ⟨j, hj, by simpa [hj] using h⟩
  have r1 : RelS (Cn.of X T) He Wf (Pn ++ P) σ H1 (frzM M ρ) (fun j => if j ∈ M then [] else foot j) := r0.pins fun p hp => (List.mem_append.mp hp).elim (fun z => (pin p z).ext (.refl (T := T) H1) (fun a h => .inl (sub a h)) _) (r0.pin p)
  refine ⟨fun i m σ H => m = ds.length - i ∧ i ≤ ds.length ∧ ∃ ρ, RelE (Cn.of X T) He Wf (Pn ++ P) σ H ρ ∧ PostS (Cn.of X T) He Wf P (forGo tg body (ds.drop i) ρ) E Wx, ⟨ds.length, by simp, Nat.zero_le _, _, ⟨_, r1⟩, by rw [List.drop_zero]; exact q⟩, ?_⟩
  rintro i m σ2 H2 ⟨rfl, hi, ρ2, ⟨foot2, r2⟩, q2⟩
  have pinN : Pins (Cn.of X T) (wd Wf foot2) H2 Pn := fun p hp => r2.pin p (List.mem_append_left _ hp)
  have pinO : ∀ {foot : Nat → List Addr} {σ H ρ}, RelS (Cn.of X T) He Wf (Pn ++ P) σ H ρ foot → RelS (Cn.of X T) He Wf P σ H ρ foot := fun r => r.pins fun p hp => r.pin p (List.mem_append_right _ hp)
  by_cases hlt : i < ds.length
  · refine .inr ⟨S.go i _ _ pinN hlt, fun σ H => ∃ ρ, RelE (Cn.of X T) He Wf (Pn ++ P) σ H ρ ∧ PostS (Cn.of X T) He Wf P (forGo tg body (ds.drop (i + 1)) ρ) E Wx, fun σ' H' n => ⟨ds.length - (i + 1), by omega, rfl, hlt, n⟩, fun x H3 y => ?_⟩
    obtain ⟨x3, d, hd, od⟩ := S.yld i _ _ x H3 pinN y hlt
    rw [List.getElem?_eq_getElem hlt] at hd
    cases hd
    rw [List.drop_eq_getElem_cons hlt] at q2
    unfold forGo at q2
    have r3 := r2.ext1 x3
    cases hb : tg.bind ds[i] ρ2 with
    | none => rw [hb] at q2; exact q2.elim
    | some ρ3 =>
    rw [hb] at q2
    dsimp only at q2
    refine gD_read (C := Cn.of X T) r3.len od hb fun σ4 s4 => ⟨ρ3, He, Wf, Pn ++ P, ⟨_, r3.sets s4⟩, ?_⟩
    cases ho : body ρ3 with
    | nx ρ5 => rw [ho] at q2; exact fun σ5 H5 r5 => ⟨ρ5, r5, q2⟩
    | ct ρ5 => rw [ho] at q2; exact fun σ5 H5 r5 => ⟨ρ5, r5, q2⟩
    | bk ρ5 => rw [ho] at q2; exact fun σ5 H5 ⟨f5, r5⟩ => q2 σ5 H5 ⟨f5, pinO r5⟩
    | rt d => rw [ho] at q2; exact q2
    | ex e' ρ5 => rw [ho] at q2; exact fun c o σ5 H5 ⟨f5, r5⟩ y => q2 c o σ5 H5 ⟨f5, pinO r5⟩ y
    | bad => rw [ho] at q2; exact q2
  · have ei : i = ds.length := by omega
    subst ei
    rw [List.drop_length] at q2
    exact .inl ⟨S.stop _ _ _ pinN rfl, q2 σ2 H2 ⟨foot2, pinO r2⟩⟩
theorem ds_for {t iter : Expr} {body : List Stmt} {src : Env → Res (List D)} {tg : Tg} {s : Env → Out} (M : List Nat) (hp : PassesOwn (model X.prog X.w) X.A X.env X.xe) (hc : X.calm = true) (hi : DI X T M Wx t iter src) (hg : PG X t (gD X.K tg)) (hb : DSs X T Wx body s)
    (hs : ∀ x, foldedSetIterable iter X.env x = pure x := by intro _; rfl) : DS X T Wx (.For t iter body [] pos) (forS M src tg s) :=
  ps_weak (ps_for hp hc hi hg hb hs) fun E σ H h => for_read h
theorem ds_while {c : Expr} {body : List Stmt} {f : Env → Res Bool} {s : Env → Out} (M : List Nat) (n : Nat) (hp : PassesOwn (model X.prog X.w) X.A X.env X.xe) (hc : DT X T M Wx c f) (hb : DSs X T Wx body s) : DS X T Wx (.While c body [] pos) (whGo f s n) := by
  refine ps_weak (ps_while hp hc hb) fun E σ H ⟨ρ, He, Wf, P, r, q⟩ => ?_
  refine ⟨fun m σ H => ∃ ρ, RelE (Cn.of X T) He Wf P σ H ρ ∧ PostS (Cn.of X T) He Wf P (whGo f s m ρ) E Wx, ⟨n, ρ, r, q⟩, ?_⟩
  rintro m σ H ⟨ρ, ⟨foot, r⟩, q⟩
  cases m with
  | zero => exact q.elim
  | succ m =>
  unfold whGo at q
  refine ⟨ρ, _, r.rel M, ?_⟩
  cases e : f ρ with
  | ex e' => rw [e] at q; exact fun c o H' x y => q c o σ H' ⟨foot, r.ext1 x⟩ y
  | bad => rw [e] at q; exact q
  | ok b =>
  rw [e] at q
  intro H' x
  cases b with
  | false => rw [if_neg (by decide)]; exact q σ H' ⟨foot, r.ext1 x⟩
  | true =>
    rw [if_pos rfl]
    refine ⟨fun σ H => ∃ ρ, RelE (Cn.of X T) He Wf P σ H ρ ∧ PostS (Cn.of X T) He Wf P (whGo f s m ρ) E Wx, fun σ' H' n => ⟨m, Nat.lt_succ_self _, n⟩, ρ, He, Wf, P, ⟨foot, r.ext1 x⟩, ?_⟩
    cases ho : s ρ with
    | nx ρ5 => rw [ho] at q; exact fun σ5 H5 r5 => ⟨ρ5, r5, q⟩
    | ct ρ5 => rw [ho] at q; exact fun σ5 H5 r5 => ⟨ρ5, r5, q⟩
    | bk ρ5 => rw [ho] at q; exact q
    | rt d => rw [ho] at q; exact q
    | ex e' ρ5 => rw [ho] at q; exact q
    | bad => rw [ho] at q; exact q
end

/-! ### several names at once -/
def unpS (M : List Nat) (is : List Nat) (f : Env → Res D) : Env → Out := fun ρ => match f ρ with
  | .ok d => (match (Tg.tup is).bind (frz d) (keepM M d ρ) with
    | some ρ' => .nx ρ'
    | none => .bad)
  | .ex e => .ex e ρ
  | .bad => .bad
/-- a, b = x, y -/
def parS (M : List Nat) (i j : Nat) (fs : Env → Res (List D)) : Env → Out := fun ρ => match fs ρ with
  | .ok [a, b] => if af a = true ∧ af b = true then .nx ((ρ.set i (some a)).set j (some b)) else .nx (((frzM M ρ).set i (some a)).set j (some b))
  | .ok _ => .bad
  | .ex e => .ex e ρ
  | .bad => .bad
section
variable {X : Cx} {T : List (Addr × Str)} {M : List Nat} {Wx : WX} {pos : Pos} {e : Expr}
theorem unp_read {f : Env → Res D} {is : List Nat} {E : Ends} {σ : L2.St} {H : Hp} (h : tS (Cn.of X T) Wx (unpS M is f) E σ H) : tAsg (tD (Cn.of X T) M Wx f) (gD X.K (.tup is)) E σ H := by
  obtain ⟨ρ, He, Wf, P, ⟨foot, r⟩, q⟩ := h
  refine ⟨ρ, _, r.rel M, ?_⟩
  unfold unpS at q
  cases e : f ρ with
  | ex e' => rw [e] at q; exact fun c o H' x y => q c o σ H' ⟨foot, r.ext1 x⟩ y
  | bad => rw [e] at q; exact q
  | ok d =>
  rw [e] at q
  intro v H' A x n nd o
  obtain ⟨foot', R', nA, neA, o', ow', pin'⟩ := r.after x n o
  dsimp only at q
  cases hb : (Tg.tup is).bind (frz d) (keepM M d ρ) with
  | none => rw [hb] at q; exact q.elim
  | some ρ' =>
  rw [hb] at q
  have o2 : Own X.K (wd Wf foot') H' v (frz d) [] := o'.frz (fun a h => .inl h) _ nA
  exact gD_read (C := Cn.of X T) R'.len o2 hb fun σ' s => q σ' H' ⟨_, R'.sets s⟩
theorem ds_unp {t : Expr} {f : Env → Res D} {is : List Nat} (M : List Nat) (he : DE X T M Wx e f) (hg : PG X t (gD X.K (.tup is))) (hs : swapsWithSole [t] e pos.line X.env = pure false := by rfl) (hw : swappedStores [t] e X.env = pure none := by rfl)
    (h1 : (assignEach [t] X.env).map (·.2) = [assign t X.env] := by rfl) : DS X T Wx (.Assign [t] e pos) (unpS M is f) :=
  ps_weak (ps_asg he hg hs hw h1) fun E σ H h => unp_read h
theorem owns_two {C : Cn} {W : Wd} {H : Hp} {vs : List V} {a b : D} {A : List Addr} (o : Owns C.K W H vs [a, b] A) : ∃ v w A1 A2, vs = [v, w] ∧ A = A1 ++ A2 ∧ Own C.K W H v a A1 ∧ Own C.K W H w b A2 := by
  obtain ⟨v, ws, A1, A2, e1, e2, h1, w, us, B1, B2, e3, e4, h2, e5, e6⟩ := o
  subst e1 e2 e3 e4 e5 e6
  exact ⟨v, w, A1, B1, rfl, by simp, h1, h2⟩
theorem par_read {fs : Env → Res (List D)} {i j : Nat} {E : Ends} {σ : L2.St} {H : Hp} (h : tS (Cn.of X T) Wx (parS M i j fs) E σ H) : tPar i j (tDL (Cn.of X T) M Wx fs) E σ H := by
  obtain ⟨ρ, He, Wf, P, ⟨foot, r⟩, q⟩ := h
  refine ⟨ρ, _, r.rel M, ?_⟩
  unfold parS at q
  cases e : fs ρ with
  | ex e' => rw [e] at q; exact fun c o H' x y => q c o σ H' ⟨foot, r.ext1 x⟩ y
  | bad => rw [e] at q; exact q
  | ok ds =>
  rw [e] at q
  intro vs H' A x n nd o
  match ds, q, o with
  | [a, b], q, o =>
    obtain ⟨v, w, A1, A2, rfl, rfl, o1, o2⟩ := owns_two (C := Cn.of X T) o
    refine ⟨v, w, rfl, ?_⟩
    obtain ⟨nd1, nd2, nd3⟩ := List.nodup_append.mp nd
    -- the frame with A1 at i, then A2 at j
    have fin : ∀ {ρ0 : Env} {foot0 : Nat → List Addr}, RelS (Cn.of X T) He Wf P σ H ρ0 foot0 → Own X.K ((wd Wf foot0).plus (A1 ++ A2)) H' v a A1 → Own X.K ((wd Wf foot0).plus (A1 ++ A2)) H' w b A2 →
        RelE (Cn.of X T) He Wf P ((σ.set i (some v)).set j (some w)) H' ((ρ0.set i (some a)).set j (some b)) := by
      intro ρ0 foot0 r0 p1 p2
      have r1 := r0.ext1 x
      have g : ∀ z, (wd Wf foot0).plus (A1 ++ A2) z → wd Wf foot0 z ∨ ¬ Al H z := fun z h => h.imp id (n z)
      have ne : ∀ z ∈ A1 ++ A2, ¬ Al He z := fun z hz k => n z hz (k.ext r.ext)
      have nw : ∀ z ∈ A1 ++ A2, ¬ wd Wf foot0 z := fun z hz k => n z hz (r0.wal k)
      have sub1 : ∀ z, (wd Wf foot0).plus A1 z → (wd Wf foot0).plus (A1 ++ A2) z := fun z h => h.imp id fun h => List.mem_append_left _ h
      have g1 : ∀ z, (wd Wf foot0).plus A1 z → wd Wf foot0 z ∨ ¬ Al H z := fun z h => g z (sub1 z h)
      have ow1 : ∀ k d, ρ0[k]? = some (some d) → ∃ v, σ[k]? = some (some v) ∧ Own X.K ((wd Wf foot0).plus (A1 ++ A2)) H' v d (foot0 k) := fun k d hk => by
        obtain ⟨u, e1, o1⟩ := r0.own k d hk
        exact ⟨u, e1, o1.ext x g _⟩
      have s1 := r1.set (i := i) (A := A1) (p1.ext (.refl (T := T) H') (fun z h => .inl (sub1 z h)) _) (fun z hz => nw z (List.mem_append_left _ hz)) (fun z hz => ne z (List.mem_append_left _ hz)) nd1 (r0.pin.ext x g1) fun k d hk => by
        obtain ⟨u, e1, o1⟩ := ow1 k d hk
        exact ⟨u, e1, o1.ext (.refl (T := T) H') (fun z h => .inl (sub1 z h)) _⟩
      have sub2 : ∀ z, (wd Wf (fun k => if k = i then A1 else foot0 k)).plus A2 z → (wd Wf foot0).plus (A1 ++ A2) z := fun z h => by
        rcases h with h | h
        · rcases h with h | ⟨k, h⟩
          · exact .inl (.inl h)
          · by_cases hk : k = i
            · exact .inr (List.mem_append_left _ (by simpa [hk] using h))
            · exact .inl (.inr ⟨k, by simpa [hk] using h⟩)
        · exact .inr (List.mem_append_right _ h)
      refine ⟨_, s1.set (i := j) (A := A2) (p2.ext (.refl (T := T) H') (fun z h => .inl (sub2 z h)) _) (fun z hz k => ?_) (fun z hz => ne z (List.mem_append_right _ hz)) nd2 (r0.pin.ext x fun z h => g z (sub2 z h)) fun k d hk => ?_⟩
      · rcases k with k | ⟨k, h⟩
        · exact nw z (List.mem_append_right _ hz) (.inl k)
        · by_cases hk : k = i
          · exact nd3 z (by simpa [hk] using h) z hz rfl
          · exact nw z (List.mem_append_right _ hz) (.inr ⟨k, by simpa [hk] using h⟩)
      · by_cases hi : k = i
        · subst hi
          by_cases hl : k < ρ0.length
          · rw [List.getElem?_set_self hl] at hk
            cases hk
            refine ⟨v, by rw [List.getElem?_set_self (by rw [r0.len]; exact hl)], ?_⟩
            simp only [if_true]
            exact p1.ext (.refl (T := T) H') (fun z h => .inl (sub2 z h)) _
          · rw [List.getElem?_eq_none (by simpa using hl)] at hk
            cases hk
        · have hi' : i ≠ k := fun z => hi z.symm
          rw [List.getElem?_set_ne hi'] at hk
          obtain ⟨u, e1, o1⟩ := ow1 k d hk
          refine ⟨u, by rw [List.getElem?_set_ne hi']; exact e1, ?_⟩
          simp only [hi, if_false]
          exact o1.ext (.refl (T := T) H') (fun z h => .inl (sub2 z h)) _
    have q : PostS (Cn.of X T) He Wf P (if af a = true ∧ af b = true then .nx ((ρ.set i (some a)).set j (some b)) else .nx (((frzM M ρ).set i (some a)).set j (some b))) E Wx := q
    split at q
    · rename_i haf
      exact q _ H' (fin r (o1.afw _ haf.1) (o2.afw _ haf.2))
    · have sub : ∀ z, (wd Wf (fun j => if j ∈ M then [] else foot j)).plus (A1 ++ A2) z → (wdM Wf foot M).plus (A1 ++ A2) z := fun z h => h.imp (fun h => by
        rcases h with h | ⟨j, h⟩
        · exact .inl h
        · by_cases hj : j ∈ M
          · simp [hj] at h
          · exact .inr ⟨j, hj, by simpa [hj] using h⟩) id
      exact q _ H' (fin (r.frzM M) (o1.ext (.refl (T := T) H') (fun z h => .inl (sub z h)) _) (o2.ext (.refl (T := T) H') (fun z h => .inl (sub z h)) _))
  | [], q, o => exact q.elim
  | [_], q, o => exact q.elim
  | _ :: _ :: _ :: _, q, o => exact q.elim

end
end De
set_option Elab.async false
set_option linter.all false
set_option maxRecDepth 100000
namespace De
open PySem PySem.Spec PyProof.Rows L2

/-! ### a def -/
def env0 (n : Nat) (ds : List D) : Env := ds.map some ++ List.replicate (n - ds.length) none
def endF : Out → Res D
  | .nx _ => .ok .non
  | .rt d => .ok d
  | .ex e _ => .ex e
  | _ => .bad
def runF (s : Env → Out) (n : Nat) (ds : List D) : Res D := endF (s (env0 n ds))
theorem start_get {N : List Str} {vs : List V} {i : Nat} {v : V} (h : vs[i]? = some v) : (L2.start N vs)[i]? = some (some v) := by
  have hl : i < vs.length := (List.getElem?_eq_some_iff.mp h).1
  unfold L2.start
  rw [List.getElem?_append_left (by simpa using hl), List.getElem?_map, h]
  rfl
theorem rel0 {C : Cn} {W : Wd} {H : Hp} {N : List Str} {vs : List V} {ds : List D} (al : ∀ a, W a → Al H a) (tb : LamX.Tabs C.T H) (o : Owns C.K W H vs ds []) (hn : ds.length ≤ N.length) : RelS C H W [] (L2.start N vs) H (env0 N.length ds) (fun _ => []) := by
  have hl := o.length
  have sub : ∀ a, wd W (fun _ => []) a → W a := fun a h => h.elim id fun ⟨j, h⟩ => by cases h
  refine ⟨fun i d e => ?_, fun i j a h => (by cases h), fun i => .nil, fun i a h => (by cases h), fun i a h => (by cases h), al, .refl _, tb, fun p hp => (by cases hp), ?_⟩
  · have hi : i < ds.length := by
      by_cases hi : i < ds.length
      · exact hi
      · unfold env0 at e
        rw [List.getElem?_append_right (by simpa using hi), List.getElem?_replicate] at e
        split at e <;> cases e
    unfold env0 at e
    rw [List.getElem?_append_left (by simpa using hi), List.getElem?_map] at e
    cases hd : ds[i]? with
    | none => rw [hd] at e; cases e
    | some d0 =>
      rw [hd] at e
      cases e
      obtain ⟨v, hv, ov⟩ := o.get hd
      exact ⟨v, start_get hv, ov.ext (.refl (T := C.T) H) (fun a h => .inl (sub a h)) _⟩
  · unfold L2.start env0
    simp only [List.length_append, List.length_map, List.length_replicate]
    omega
section
variable {P : Program} {w : World} {K : PySem.W.Frag} {mg : Str → Option Value} {base : Heap} {T : List (Addr × Str)} {x qual : Str} {params : Arguments} {body : List Stmt} {scope : Scope} {dvs : List V} {kws : List (Str × V)} {f : Addr} {fd : FuncData}
/-- THE RULE for a def: s what its body does, F what it is worth -/
theorem fn_ok {N ps : List Str} {k : Nat} {s : Env → Out} {F : List D → Res D} (G : FunD K x qual params body scope dvs kws f fd) (S : FnScope N ps scope)
    (hb : ∀ (cdv : Value) (A : Around) (outer : List PySem.Env) (s0 : Shared) (H : Hp) (E : XK), Room k (A.deeper (envOfC qual scope s0.heap.objs.size f cdv)) → DSs (cxOf (L2.CX P w) P w K mg base N qual scope f cdv A outer s0 H E) T (fun c o _ H => E c o H) body s)
    (hF : ∀ ds, ds.length = ps.length → F ds = runF s N.length ds ∨ F ds = .bad) : FnOk P w K mg base (L2.CX P w) (k + 1) f fd ps (spD ⟨K, T, mg⟩ ps.length F) := by
  have hpl : ps.length ≤ N.length := by rw [← congrArg List.length S.pre, List.length_take]; exact Nat.min_le_right ..
  refine G.ok S (fun vs H Q E ⟨ds, W, al, tb, o, hl, p⟩ => by rw [o.length]; exact hl) fun cdv A outer s0 H vs Q E hr ⟨ds, W, al, tb, o, hl, p⟩ => ⟨_, hb cdv A outer s0 H E hr, ?_⟩
  refine ⟨env0 N.length ds, H, W, [], ⟨_, rel0 (C := ⟨K, T, mg⟩) al tb o (by omega)⟩, ?_⟩
  rcases hF ds hl with e | e
  · rw [e] at p
    unfold runF at p
    cases h : s (env0 N.length ds) with
    | nx ρ => rw [h] at p; exact fun σ H' ⟨foot, r⟩ => p .non H' [] r.ext (fun a h => by cases h) .nil ⟨rfl, rfl⟩
    | rt d => rw [h] at p; exact p
    | bk ρ => rw [h] at p; exact p.elim
    | ct ρ => rw [h] at p; exact p.elim
    | ex e' ρ => rw [h] at p; exact fun c o σ H' ⟨foot, r⟩ y => p c o H' r.ext y
    | bad => rw [h] at p; exact p.elim
  · rw [e] at p; exact p.elim
end
theorem takesE {E : XK} {P : Program} {w : World} {K : PySem.W.Frag} {mg : Str → Option Value} {base : Heap} {N : List Str} {qual : Str} {scope : Scope} {f : Addr} {cd : Value} {A : Around} {outer : List PySem.Env} {s : Shared} {H : Hp} :
    Takes (cxOf (L2.CX P w) P w K mg base N qual scope f cd A outer s H E) (fun c o _ H => E c o H) := takes_of rfl rfl rfl rfl
theorem passesE {E : XK} {P : Program} {w : World} {K : PySem.W.Frag} {mg : Str → Option Value} {base : Heap} {N : List Str} {qual : Str} {scope : Scope} {f : Addr} {cd : Value} {A : Around} {outer : List PySem.Env} {s : Shared} {H : Hp} :
    PassesOwn (model P w) (cxOf (L2.CX P w) P w K mg base N qual scope f cd A outer s H E).A (cxOf (L2.CX P w) P w K mg base N qual scope f cd A outer s H E).env (cxOf (L2.CX P w) P w K mg base N qual scope f cd A outer s H E).xe := passes_of rfl
end De
set_option Elab.async false
set_option linter.all false
set_option maxRecDepth 100000
namespace De
open PySem PySem.Spec PyProof.Rows L2

/-! ### operators -/
def szOk (n : Nat) : Bool := decide (n ≤ 16777216)
theorem szOk_line {n : Nat} (h : szOk n = true) : n ≤ sizeLine := by rw [← sl_line]; exact of_decide_eq_true h
def dI (g : Int → Int → Option D) (d e : D) : Option D := match d with
  | .int i => (match e with
    | .int j => g i j
    | _ => none)
  | _ => none
theorem dI_inv {C : Cn} {W : Wd} {H : Hp} {Q : VK} {g : Int → Int → Option D} {d e : D} (q : RD C W H (dI g d e) Q) : ∃ i j, d = .int i ∧ e = .int j ∧ RD C W H (g i j) Q := by
  cases d with
  | int i =>
    cases e with
    | int j => exact ⟨i, j, rfl, rfl, q⟩
    | _ => exact q.elim
  | _ => exact q.elim
/-- a + b -/
def dAdd (d e : D) : Option D := match d with
  | .int i => (match e with
    | .int j => some (.int (i + j))
    | _ => none)
  | .str a => (match e with
    | .str b => if szOk (a.length + b.length) then some (.str (a ++ b)) else none
    | _ => none)
  | .lst o a => (match o with
    | false => (match e with
      | .lst o b => (match o with
        | false => if szOk (a.length + b.length) then some (.lst true (a ++ b)) else none
        | true => none)
      | _ => none)
    | true => none)
  | .tup a => (match e with
    | .tup b => if a.isEmpty = false ∧ szOk (a.length + b.length) = true then some (.tup (a ++ b)) else none
    | _ => none)
  | _ => none
def dSub : D → D → Option D := dI fun i j => some (.int (i - j))
def small64 (i : Int) : Bool := decide (-18446744073709551616 < i) && decide (i < 18446744073709551616)
/-- a text k times -/
def repS (s : Str) (n : Nat) : Str := ⟨((List.replicate n s.cps.toList).flatten).toArray⟩
theorem repS_fold (a : Array Nat) : ∀ (n : Nat) (b : Array Nat), (List.replicate n a).foldl (· ++ ·) b = b ++ ((List.replicate n a.toList).flatten).toArray
  | 0, b => by simp
  | n + 1, b => by
    rw [List.replicate_succ, List.foldl_cons, repS_fold a n, List.replicate_succ, List.flatten_cons, Array.append_assoc]
    congr 1
    apply Array.ext'
    simp
theorem repS_one (s : Str) : repS s 1 = s := by
  obtain ⟨a⟩ := s
  unfold repS
  congr 1
  apply Array.ext'
  simp
theorem repS_len (s : Str) (n : Nat) : (repS s n).length = s.length * n := by
  show (repS s n).cps.size = s.cps.size * n
  unfold repS
  simp [Nat.mul_comm]
theorem repS_empty (s : Str) (h : s.length = 0) (n : Nat) : repS s n = s := by
  obtain ⟨a⟩ := s
  have h : a.size = 0 := h
  have e : a = #[] := Array.eq_empty_of_size_eq_zero h
  subst e
  unfold repS
  congr 1
  apply Array.ext'
  simp
theorem op_rep_str {X : Cx} : OpR X (binaryOp .Mult) (fun x y H Q => ∃ a k, x = .str a ∧ y = .int k ∧ 0 ≤ k ∧ k < 2 ^ 60 ∧ a.length * k.toNat ≤ sizeLine ∧ Q (.str (repS a k.toNat)) H) := by
  intro pins s σ H x y v u Q I rx ry ⟨a, k, e1, e2, h0, h1, hz, q⟩
  subst e1 e2
  obtain ⟨t, rfl⟩ := rx
  obtain ⟨t2, rfl⟩ := ry
  refine PySem.P.mul_str (by
    rw [decide_eq_false (by omega), decide_eq_false (by omega)]; rfl) (fun h2 h3 h4 => ?_) (fun h2 h3 => decide_eq_false (by omega)) ?_
  · have hs : (sizeLine : Nat) = 16777216 := sl_line.symm
    have h5 : (a.length : Int) * k ≤ 16777216 := by
      have e : ((a.length * k.toNat : Nat) : Int) = (a.length : Int) * k := by
        rw [Int.natCast_mul, Int.toNat_of_nonneg h0]
      omega
    have h6 : (2 ^ 63 - 1) / k < (a.length : Int) := h4
    have h7 : (2 ^ 63 - 1 : Int) < a.length * k := (Int.ediv_lt_iff_lt_mul (by omega)).mp h6
    omega
  · by_cases hk : k < 1
    · rw [if_pos hk]
      have : k = 0 := by omega
      subst this
      have e : repS a (0 : Int).toNat = Str.empty := rfl
      rw [e] at q
      exact ⟨by decide, .str Str.empty, H, I.tok _, ⟨_, rfl⟩, q⟩
    · rw [if_neg hk]
      by_cases h2 : (k == 1 || a.length == 0) = true
      · rw [if_pos h2]
        have e : repS a k.toNat = a := by
          rcases Bool.or_eq_true_iff.mp h2 with h | h
          · have : k = 1 := by simpa using h
            subst this; exact repS_one a
          · exact repS_empty a (by simpa using h) _
        rw [e] at q
        exact ⟨.str a, H, I, ⟨t, rfl⟩, q⟩
      · rw [if_neg h2]
        have e : (⟨(List.replicate k.toNat a.cps).foldl (· ++ ·) #[]⟩ : Str) = repS a k.toNat := by
          rw [repS_fold]
          unfold repS
          congr 1
          simp
        rw [e]
        exact ⟨by rw [repS_len]; exact hz, .str _, H, I.tok _, ⟨_, rfl⟩, q⟩
def dMul (d e : D) : Option D := match d with
  | .str s => (match e with
    | .int k => if 0 ≤ k ∧ k ≤ 16777216 ∧ szOk (s.length * k.toNat) = true then some (.str (repS s k.toNat)) else none
    | _ => none)
  | .int i => (match e with
    | .int j => if (small64 i || small64 j) = true then some (.int (i * j)) else none
    | _ => none)
  | .lst o a => (match o with
    | false => (match e with
      | .int k => if small64 (2 * k) && szOk (a.length * k.toNat) then some (.lst true (List.replicate k.toNat a).flatten) else none
      | _ => none)
    | true => none)
  | _ => none
def dMod : D → D → Option D := dI fun i j => if 0 < j then some (.int (i % j)) else none
def dFdv : D → D → Option D := dI fun i j => if 0 < j ∧ j < 1073741824 then some (.int (i / j)) else none
def dPow : D → D → Option D := dI fun i j => if 0 ≤ j ∧ j ≤ 1000000 ∧ i.natAbs < 18446744073709551616 then some (.int (i ^ j.toNat)) else none
def dLt : D → D → Option D := dI fun i j => some (.bl (decide (i < j)))
def dLe : D → D → Option D := dI fun i j => some (.bl (decide (i ≤ j)))
def dGt : D → D → Option D := dI fun i j => some (.bl (decide (j < i)))
def dGe : D → D → Option D := dI fun i j => some (.bl (decide (j ≤ i)))
def dNeg : D → Option D
  | .int i => some (.int (-i))
  | _ => none
def isNon : D → Bool
  | .non => true
  | _ => false
def dIsN (d e : D) : Option D := match e with
  | .non => some (.bl (isNon d))
  | _ => none
def dNotN (d e : D) : Option D := match e with
  | .non => some (.bl (!isNon d))
  | _ => none
mutual
def toP : D → PyData
  | .non => .none
  | .bl b => .bool b
  | .int i => .int i
  | .str s => .str s
  | .lst _ ds => .list (toPs ds)
  | .rol ds => .list (toPs ds)
  | .tup ds => .tuple (toPs ds)
  | .dic _ _ _ => .dict []
  | .ty _ => .dict []
def toPs : List D → List PyData
  | [] => []
  | d :: ds => toP d :: toPs ds
end
mutual
/-- data within n lists or tuples -/
def lv : Nat → D → Bool
  | _, .non => true
  | _, .bl _ => true
  | _, .int _ => true
  | _, .str s => PyData.strOk s
  | 0, _ => false
  | n + 1, .lst _ ds => lvs n ds
  | n + 1, .rol ds => lvs n ds
  | n + 1, .tup ds => lvs n ds
  | _, .dic _ _ _ => false
  | _, .ty _ => false
def lvs : Nat → List D → Bool
  | _, [] => true
  | n, d :: ds => lv n d && lvs n ds
end
def eqD (a b : D) : Bool := PyData.eqv (toP a) (toP b)
/-- a == b of ints, of texts; else of data -/
def dEqO (d e : D) : Option D := if (lv 20 d && lv 20 e) = true then some (.bl (eqD d e)) else none
def dEq (d e : D) : Option D := match d with
  | .int i => (match e with
    | .int j => some (.bl (decide (i = j)))
    | _ => dEqO d e)
  | .str i => (match e with
    | .str j => some (.bl (decide (i = j)))
    | _ => dEqO d e)
  | _ => dEqO d e
def notD : D → D
  | .bl b => .bl (!b)
  | d => d
def dNe (d e : D) : Option D := (dEq d e).map notD
mutual
theorem lv_depth : ∀ (n : Nat) (d : D), lv n d = true → (toP d).canLay0 = true ∧ (toP d).depth ≤ n
  | _, .non, _ => ⟨rfl, Nat.zero_le _⟩
  | _, .bl _, _ => ⟨rfl, Nat.zero_le _⟩
  | _, .int _, _ => ⟨rfl, Nat.zero_le _⟩
  | n, .str s, h => ⟨by cases n <;> exact h, Nat.zero_le _⟩
  | 0, .lst _ _, h => by cases h
  | 0, .rol _, h => by cases h
  | 0, .tup _, h => by cases h
  | 0, .dic _ _ _, h => by cases h
  | 0, .ty _, h => by cases h
  | n + 1, .lst _ ds, h => by
    obtain ⟨h1, h2⟩ := lvs_depth n ds h
    exact ⟨h1, Nat.succ_le_succ h2⟩
  | n + 1, .rol ds, h => by
    obtain ⟨h1, h2⟩ := lvs_depth n ds h
    exact ⟨h1, Nat.succ_le_succ h2⟩
  | n + 1, .tup ds, h => by
    obtain ⟨h1, h2⟩ := lvs_depth n ds h
    exact ⟨h1, Nat.succ_le_succ h2⟩
  | n + 1, .dic _ _ _, h => by cases h
  | n + 1, .ty _, h => by cases h
theorem lvs_depth : ∀ (n : Nat) (ds : List D), lvs n ds = true → PyData.canLayAll0 (toPs ds) = true ∧ PyData.depthAll (toPs ds) ≤ n
  | _, [], _ => ⟨rfl, Nat.zero_le _⟩
  | n, d :: ds, h => by
    have h' : lv n d = true ∧ lvs n ds = true := by simpa [lvs] using h
    obtain ⟨h1, h2⟩ := lv_depth n d h'.1
    obtain ⟨h3, h4⟩ := lvs_depth n ds h'.2
    exact ⟨by simp [toPs, PyData.canLayAll0, h1, h3], Nat.max_le.mpr ⟨h2, h4⟩⟩
end
theorem shaped_of {d : D} (h : lv 20 d = true) : SeqAt.shaped (toP d) = true := by
  obtain ⟨h1, h2⟩ := lv_depth 20 d h
  unfold SeqAt.shaped
  rw [h1, Bool.true_and]
  exact decide_eq_true (by omega)
section
variable {K : PySem.W.Frag} {W : Wd} {H : Hp}
mutual
theorem own_dp : ∀ (n : Nat) (d : D) (v : V) (A : List Addr), lv n d = true → Own K W H v d A → Dp K H v (toP d)
  | _, .non, v, _, _, o => by rw [o.1]; exact .non
  | _, .bl b, v, _, _, o => by rw [o.1]; exact .bl b
  | _, .int i, v, _, _, o => by rw [o.1]; exact .int i
  | _, .str s, v, _, _, o => by rw [o.1]; exact .str s
  | 0, .lst _ _, _, _, h, _ => by cases h
  | 0, .rol _, _, _, h, _ => by cases h
  | 0, .tup _, _, _, h, _ => by cases h
  | 0, .dic _ _ _, _, _, h, _ => by cases h
  | 0, .ty _, _, _, h, _ => by cases h
  | n + 1, .lst true ds, v, _, h, o => by
    obtain ⟨a, vs, B, e, h1, e2, h2⟩ := o
    subst e
    exact .lst (SqL.of h2) (owns_dp n ds vs B h h1)
  | n + 1, .lst false ds, v, _, h, o => by
    obtain ⟨a, vs, B, e, h1, e2, e3, h2⟩ := o
    subst e
    exact .lst (SqL.of h2.1) (owns_dp n ds vs B h h1)
  | n + 1, .rol ds, v, _, h, o => by
    obtain ⟨a, vs, e, h1, e2, h2⟩ := o
    subst e
    exact .lst (h2.elim (fun z => .inl z.1) KL.sq) (owns_dp n ds vs [] h h1)
  | n + 1, .tup ds, v, _, h, o => by
    obtain ⟨a, vs, e, h1, h2⟩ := o
    subst e
    exact .tup h2 (owns_dp n ds vs _ h h1)
  | n + 1, .dic _ _ _, _, _, h, _ => by cases h
  | n + 1, .ty _, _, _, h, _ => by cases h
theorem owns_dp : ∀ (n : Nat) (ds : List D) (vs : List V) (A : List Addr), lvs n ds = true → Owns K W H vs ds A → DpAll K H vs (toPs ds)
  | _, [], vs, _, _, o => by rw [o.1]; exact .nil
  | n, d :: ds, vs, _, h, o => by
    have h' : lv n d = true ∧ lvs n ds = true := by simpa [lvs] using h
    obtain ⟨v, ws, A1, A2, e1, e2, h1, h2⟩ := o
    rw [e1]
    exact .cons (own_dp n d v A1 h'.1 h1) (owns_dp n ds ws A2 h'.2 h2)
end
end
section
variable {X : Cx} {T : List (Addr × Str)}
theorem small64_ok {i : Int} (h : small64 i = true) : -(2 ^ 64) < i ∧ i < 2 ^ 64 := by
  unfold small64 at h
  simp only [Bool.and_eq_true, decide_eq_true_eq] at h
  exact ⟨by omega, by omega⟩
theorem add_ok : OpR X (binaryOp .Add) (r2D (Cn.of X T) dAdd) := by
  intro pins s σ H x y v u Q I rx ry h
  obtain ⟨W, d, e, al, tb, ox, oy, q⟩ := h
  cases d with
  | int i =>
    cases e with
    | int j => exact op_add pins s σ H x y v u Q I rx ry ⟨i, j, ox.1, oy.1, q.int⟩
    | _ => exact q.elim
  | str a =>
    cases e with
    | str b =>
      have q : RD (Cn.of X T) W H (if szOk (a.length + b.length) then some (.str (a ++ b)) else none) Q := q
      split at q
      · rename_i hz
        exact op_add_str pins s σ H x y v u Q I rx ry ⟨a, b, ox.1, oy.1, szOk_line hz, q.str⟩
      · exact q.elim
    | _ => exact q.elim
  | lst o a =>
    cases o with
    | true => exact q.elim
    | false =>
    cases e with
    | lst o b =>
      cases o with
      | true => exact q.elim
      | false =>
      have q : RD (Cn.of X T) W H (if szOk (a.length + b.length) then some (.lst true (a ++ b)) else none) Q := q
      split at q
      · rename_i hz
        obtain ⟨l, vs, B, rfl, o1, _, rfl, h1, _⟩ := ox
        obtain ⟨k, ws, B, rfl, o2, _, rfl, h2, _⟩ := oy
        have o3 := o1.app o2
        exact op_cat pins s σ H _ _ v u Q I rx ry ⟨l, k, vs, ws, rfl, rfl, h1, h2, by rw [o1.length, o2.length]; exact szOk_line hz, fun p np => q.lst (C := Cn.of X T) o3 np⟩
      · exact q.elim
    | _ => exact q.elim
  | tup a =>
    cases e with
    | tup b =>
      have q : RD (Cn.of X T) W H (if a.isEmpty = false ∧ szOk (a.length + b.length) = true then some (.tup (a ++ b)) else none) Q := q
      split at q
      · rename_i hz
        obtain ⟨l, vs, rfl, o1, h1⟩ := ox
        obtain ⟨k, ws, rfl, o2, h2⟩ := oy
        have o3 := o1.app o2
        refine op_catT pins s σ H _ _ v u Q I rx ry ⟨l, k, vs, ws, rfl, rfl, h1, h2, fun z => ?_, by rw [o1.length, o2.length]; exact szOk_line hz.2, fun z => ?_, fun z p np => q.tup (C := Cn.of X T) o3 np⟩
        · have := o1.length
          rw [z] at this
          cases a with
          | nil => exact absurd hz.1 (by decide)
          | cons _ _ => simp at this
        · have e := o2.length
          rw [z] at e
          cases b with
          | nil => rw [List.append_nil] at q; exact q.same ⟨l, vs, rfl, o1, h1⟩
          | cons _ _ => simp at e
      · exact q.elim
    | _ => exact q.elim
  | _ => exact q.elim
theorem sub_ok : OpR X (binaryOp .Sub) (r2D (Cn.of X T) dSub) := by
  intro pins s σ H x y v u Q I rx ry h
  obtain ⟨W, d, e, al, tb, ox, oy, q⟩ := h
  obtain ⟨i, j, rfl, rfl, q⟩ := dI_inv q
  exact op_sub pins s σ H x y v u Q I rx ry ⟨i, j, ox.1, oy.1, q.int⟩
theorem mul_ok : OpR X (binaryOp .Mult) (r2D (Cn.of X T) dMul) := by
  intro pins s σ H x y v u Q I rx ry h
  obtain ⟨W, d, e, al, tb, ox, oy, q⟩ := h
  cases d with
  | int i =>
    cases e with
    | int j =>
      have q : RD (Cn.of X T) W H (if (small64 i || small64 j) = true then some (.int (i * j)) else none) Q := q
      split at q
      · rename_i hz
        refine op_mul pins s σ H x y v u Q I rx ry ⟨i, j, ox.1, oy.1, ?_, q.int⟩
        rcases (Bool.or_eq_true_iff.mp hz) with z | z
        · exact .inl (small64_ok z)
        · exact .inr (small64_ok z)
      · exact q.elim
    | _ => exact q.elim
  | str a =>
    cases e with
    | int k =>
      have q : RD (Cn.of X T) W H (if 0 ≤ k ∧ k ≤ 16777216 ∧ szOk (a.length * k.toNat) = true then some (.str (repS a k.toNat)) else none) Q := q
      split at q
      · rename_i hz
        exact op_rep_str pins s σ H x y v u Q I rx ry ⟨a, k, ox.1, oy.1, hz.1, by omega, szOk_line hz.2.2, q.str⟩
      · exact q.elim
    | _ => exact q.elim
  | lst o a =>
    cases o with
    | true => exact q.elim
    | false =>
    cases e with
    | int k =>
      have q : RD (Cn.of X T) W H (if small64 (2 * k) && szOk (a.length * k.toNat) then some (.lst true (List.replicate k.toNat a).flatten) else none) Q := q
      split at q
      · rename_i hz
        obtain ⟨z1, z2⟩ := Bool.and_eq_true_iff.mp hz
        have z3 := small64_ok z1
        obtain ⟨l, vs, B, rfl, o1, _, rfl, h1, _⟩ := ox
        have rep : ∀ n : Nat, Owns X.K W H (List.replicate n vs).flatten (List.replicate n a).flatten [] := fun n => by
          induction n with
          | zero => exact ⟨rfl, rfl⟩
          | succ n ih => rw [List.replicate_succ, List.replicate_succ, List.flatten_cons, List.flatten_cons]; exact o1.app ih
        exact op_rep pins s σ H _ _ v u Q I rx ry ⟨l, k, vs, rfl, oy.1, h1, by omega, by omega, by rw [o1.length]; exact szOk_line z2, fun p np => q.lst (C := Cn.of X T) (rep _) np⟩
      · exact q.elim
    | _ => exact q.elim
  | _ => exact q.elim
theorem mod_ok : OpR X (binaryOp .Mod) (r2D (Cn.of X T) dMod) := by
  intro pins s σ H x y v u Q I rx ry h
  obtain ⟨W, d, e, al, tb, ox, oy, q⟩ := h
  obtain ⟨i, j, rfl, rfl, q2⟩ := dI_inv q
  clear q
  rename RD _ _ _ _ _ => q
  split at q
  · rename_i hz
    exact op_mod pins s σ H x y v u Q I rx ry ⟨i, j, ox.1, oy.1, hz, q.int⟩
  · exact q.elim
theorem fdv_ok : OpR X (binaryOp .FloorDiv) (r2D (Cn.of X T) dFdv) := by
  intro pins s σ H x y v u Q I rx ry h
  obtain ⟨W, d, e, al, tb, ox, oy, q⟩ := h
  obtain ⟨i, j, rfl, rfl, q2⟩ := dI_inv q
  clear q
  rename RD _ _ _ _ _ => q
  split at q
  · rename_i hz
    exact op_fdiv pins s σ H x y v u Q I rx ry ⟨i, j, ox.1, oy.1, hz, q.int⟩
  · exact q.elim
theorem pow_ok : OpR X (binaryOp .Pow) (r2D (Cn.of X T) dPow) := by
  intro pins s σ H x y v u Q I rx ry h
  obtain ⟨W, d, e, al, tb, ox, oy, q⟩ := h
  obtain ⟨i, j, rfl, rfl, q2⟩ := dI_inv q
  clear q
  rename RD _ _ _ _ _ => q
  split at q
  · rename_i hz
    exact op_pow pins s σ H x y v u Q I rx ry ⟨i, j, ox.1, oy.1, ⟨hz.1, hz.2.1, by have := hz.2.2; omega⟩, q.int⟩
  · exact q.elim
theorem lt_ok : OpR X (compareOp .Lt) (r2D (Cn.of X T) dLt) := by
  intro pins s σ H x y v u Q I rx ry h
  obtain ⟨W, d, e, al, tb, ox, oy, q⟩ := h
  obtain ⟨i, j, rfl, rfl, q⟩ := dI_inv q
  exact op_lt pins s σ H x y v u Q I rx ry ⟨i, j, ox.1, oy.1, q.bl⟩
theorem le_ok : OpR X (compareOp .LtE) (r2D (Cn.of X T) dLe) := by
  intro pins s σ H x y v u Q I rx ry h
  obtain ⟨W, d, e, al, tb, ox, oy, q⟩ := h
  obtain ⟨i, j, rfl, rfl, q⟩ := dI_inv q
  exact op_le pins s σ H x y v u Q I rx ry ⟨i, j, ox.1, oy.1, q.bl⟩
theorem gt_ok : OpR X (compareOp .Gt) (r2D (Cn.of X T) dGt) := by
  intro pins s σ H x y v u Q I rx ry h
  obtain ⟨W, d, e, al, tb, ox, oy, q⟩ := h
  obtain ⟨i, j, rfl, rfl, q⟩ := dI_inv q
  exact op_gt pins s σ H x y v u Q I rx ry ⟨i, j, ox.1, oy.1, q.bl⟩
theorem ge_ok : OpR X (compareOp .GtE) (r2D (Cn.of X T) dGe) := by
  intro pins s σ H x y v u Q I rx ry h
  obtain ⟨W, d, e, al, tb, ox, oy, q⟩ := h
  obtain ⟨i, j, rfl, rfl, q⟩ := dI_inv q
  exact op_ge pins s σ H x y v u Q I rx ry ⟨i, j, ox.1, oy.1, q.bl⟩
theorem neg_ok : UnR X (unaryOp .USub) (r1D (Cn.of X T) dNeg) := by
  intro pins s σ H x v Q I rx h
  obtain ⟨W, d, al, tb, ox, q⟩ := h
  cases d with
  | int i => exact un_neg pins s σ H x v Q I rx ⟨i, ox.1, q.int⟩
  | _ => exact q.elim
theorem own_isNon {K : PySem.W.Frag} {W : Wd} {H : Hp} {d : D} {v : V} {A : List Addr} (o : Own K W H v d A) : decide (v = .non) = isNon d := by
  cases d with
  | non => have e := o.1; subst e; rfl
  | bl b => have e := o.1; subst e; rfl
  | int i => have e := o.1; subst e; rfl
  | str i => have e := o.1; subst e; rfl
  | ty i => have e := o.1; subst e; rfl
  | lst b ds => obtain ⟨a, vs, B, e, _⟩ := o; subst e; rfl
  | rol ds => obtain ⟨a, vs, e, _⟩ := o; subst e; rfl
  | tup ds => obtain ⟨a, vs, e, _⟩ := o; subst e; rfl
  | dic b ks ds => obtain ⟨a, vs, B, e, _⟩ := o; subst e; rfl
theorem isN_ok : OpR X (compareOp .Is) (r2D (Cn.of X T) dIsN) := by
  intro pins s σ H x y v u Q I rx ry h
  obtain ⟨W, d, e, al, tb, ox, oy, q⟩ := h
  cases e with
  | non => exact op_isN pins s σ H x y v u Q I rx ry ⟨oy.1, by rw [own_isNon ox]; exact RD.bl (C := Cn.of X T) (W := W) q⟩
  | _ => exact q.elim
theorem notN_ok : OpR X (compareOp .IsNot) (r2D (Cn.of X T) dNotN) := by
  intro pins s σ H x y v u Q I rx ry h
  obtain ⟨W, d, e, al, tb, ox, oy, q⟩ := h
  cases e with
  | non => exact op_notN pins s σ H x y v u Q I rx ry ⟨oy.1, by rw [own_isNon ox]; exact RD.bl (C := Cn.of X T) (W := W) q⟩
  | _ => exact q.elim
theorem eqO_ok (hu : X.A.units + 64 < cLine) {pins : List (Addr × Obj)} {s : Shared} {σ : L2.St} {H : Hp} {x y : V} {v u : Value} {Q : VK} {W : Wd} {d e : D} (I : Inv X pins σ H s) (rx : RelV x v) (ry : RelV y u) (ox : Own X.K W H x d []) (oy : Own X.K W H y e []) (q : RD (Cn.of X T) W H (dEqO d e) Q) :
    wpAny (model X.prog X.w) X.A (compareOp .Eq v u) (EP X pins σ Q) X.xe s := by
  unfold dEqO at q
  split at q
  · rename_i hz
    obtain ⟨z1, z2⟩ := Bool.and_eq_true_iff.mp hz
    exact op_eqD hu pins s σ H x y v u Q I rx ry ⟨_, _, own_dp 20 _ _ _ z1 ox, own_dp 20 _ _ _ z2 oy, shaped_of z1, shaped_of z2, q.bl⟩
  · exact q.elim
theorem eq_ok (hu : X.A.units + 64 < cLine) : OpR X (compareOp .Eq) (r2D (Cn.of X T) dEq) := by
  intro pins s σ H x y v u Q I rx ry h
  obtain ⟨W, d, e, al, tb, ox, oy, q⟩ := h
  cases d with
  | int i =>
    cases e with
    | int j =>
      have ex := ox.1
      have ey := oy.1
      subst ex ey
      refine op_eq pins s σ H _ _ v u Q I rx ry ⟨rfl, ?_⟩
      rw [show decide (V.int i = V.int j) = decide (i = j) from by simp]
      exact RD.bl (C := Cn.of X T) (W := W) q
    | _ => exact eqO_ok (T := T) hu I rx ry ox oy q
  | str i =>
    cases e with
    | str j =>
      have ex := ox.1
      have ey := oy.1
      subst ex ey
      refine op_eq pins s σ H _ _ v u Q I rx ry ⟨rfl, ?_⟩
      rw [show decide (V.str i = V.str j) = decide (i = j) from by simp]
      exact RD.bl (C := Cn.of X T) (W := W) q
    | _ => exact eqO_ok (T := T) hu I rx ry ox oy q
  | _ => exact eqO_ok (T := T) hu I rx ry ox oy q
theorem neO_ok (hu : X.A.units + 64 < cLine) {pins : List (Addr × Obj)} {s : Shared} {σ : L2.St} {H : Hp} {x y : V} {v u : Value} {Q : VK} {W : Wd} {d e : D} (I : Inv X pins σ H s) (rx : RelV x v) (ry : RelV y u) (ox : Own X.K W H x d []) (oy : Own X.K W H y e []) (q : RD (Cn.of X T) W H ((dEqO d e).map notD) Q) :
    wpAny (model X.prog X.w) X.A (compareOp .NotEq v u) (EP X pins σ Q) X.xe s := by
  unfold dEqO at q
  split at q
  · rename_i hz
    obtain ⟨z1, z2⟩ := Bool.and_eq_true_iff.mp hz
    exact op_neD hu pins s σ H x y v u Q I rx ry ⟨_, _, own_dp 20 _ _ _ z1 ox, own_dp 20 _ _ _ z2 oy, shaped_of z1, shaped_of z2, RD.bl (C := Cn.of X T) (W := W) q⟩
  · exact q.elim
theorem ne_ok (hu : X.A.units + 64 < cLine) : OpR X (compareOp .NotEq) (r2D (Cn.of X T) dNe) := by
  intro pins s σ H x y v u Q I rx ry h
  obtain ⟨W, d, e, al, tb, ox, oy, q⟩ := h
  cases d with
  | int i =>
    cases e with
    | int j =>
      have ex := ox.1
      have ey := oy.1
      subst ex ey
      refine op_ne pins s σ H _ _ v u Q I rx ry ⟨rfl, ?_⟩
      rw [show decide (V.int i = V.int j) = decide (i = j) from by simp]
      exact RD.bl (C := Cn.of X T) (W := W) q
    | _ => exact neO_ok (T := T) hu I rx ry ox oy q
  | str i =>
    cases e with
    | str j =>
      have ex := ox.1
      have ey := oy.1
      subst ex ey
      refine op_ne pins s σ H _ _ v u Q I rx ry ⟨rfl, ?_⟩
      rw [show decide (V.str i = V.str j) = decide (i = j) from by simp]
      exact RD.bl (C := Cn.of X T) (W := W) q
    | _ => exact neO_ok (T := T) hu I rx ry ox oy q
  | _ => exact neO_ok (T := T) hu I rx ry ox oy q
end
end De
set_option Elab.async false
set_option linter.all false
set_option maxRecDepth 100000
namespace De
open PySem PySem.Spec PyProof.Rows L2

/-! ### calls of what is built in -/
section
variable {X : Cx} {T : List (Addr × Str)}
/-- a call's rule by its values: one argument -/
def g1 (g : D → Option D) (ds : List D) : Option D := match ds with
  | [d] => g d
  | _ => none
def g2 (g : D → D → Option D) (ds : List D) : Option D := match ds with
  | [d, e] => g d e
  | _ => none
theorem g1_inv {C : Cn} {W : Wd} {H : Hp} {Q : VK} {g : D → Option D} {ds : List D} (q : RD C W H (g1 g ds) Q) : ∃ d, ds = [d] ∧ RD C W H (g d) Q := by
  match ds, q with
  | [d], q => exact ⟨d, rfl, q⟩
  | [], q => exact q.elim
  | _ :: _ :: _, q => exact q.elim
theorem g2_inv {C : Cn} {W : Wd} {H : Hp} {Q : VK} {g : D → D → Option D} {ds : List D} (q : RD C W H (g2 g ds) Q) : ∃ d e, ds = [d, e] ∧ RD C W H (g d e) Q := by
  match ds, q with
  | [d, e], q => exact ⟨d, e, rfl, q⟩
  | [], q => exact q.elim
  | [_], q => exact q.elim
  | _ :: _ :: _ :: _, q => exact q.elim
theorem owns_1 {C : Cn} {W : Wd} {H : Hp} {vs : List V} {a : D} (o : Owns C.K W H vs [a] []) : ∃ v, vs = [v] ∧ Own C.K W H v a [] := by
  obtain ⟨v, ws, A1, A2, e1, e2, h1, e3, e4⟩ := o
  obtain ⟨z1, z2⟩ := List.append_eq_nil_iff.mp e2.symm
  subst z1 e1 e3
  exact ⟨v, rfl, h1⟩
theorem owns_2 {C : Cn} {W : Wd} {H : Hp} {vs : List V} {a b : D} (o : Owns C.K W H vs [a, b] []) : ∃ v w, vs = [v, w] ∧ Own C.K W H v a [] ∧ Own C.K W H w b [] := by
  obtain ⟨v, w, A1, A2, e1, e2, h1, h2⟩ := owns_two o
  obtain ⟨z1, z2⟩ := List.append_eq_nil_iff.mp e2.symm
  subst z1 z2
  exact ⟨v, w, e1, h1, h2⟩
def dLen : D → Option D
  | .str s => if szOk s.length then some (.int s.length) else none
  | .lst _ ds => some (.int ds.length)
  | .rol ds => some (.int ds.length)
  | .tup ds => some (.int ds.length)
  | _ => none
theorem len_ok : CallR X (.builtin "len") (rsD (Cn.of X T) (g1 dLen)) := by
  intro pins s σ H xs us Q I r h
  obtain ⟨W, ds, al, tb, os, qs⟩ := h
  obtain ⟨d, rfl, q⟩ := g1_inv qs
  obtain ⟨v, rfl, o⟩ := owns_1 (C := Cn.of X T) os
  have seq : ∀ {a : Addr} {vs : List V} {es : List D}, v = .ref a → (SqL X.K H a vs ∨ SqT X.K H a vs) → Owns X.K W H vs es [] → RD (Cn.of X T) W H (some (.int es.length)) Q → wpAny (model X.prog X.w) X.A (call (.builtin "len") us) (EP X pins σ Q) X.xe s := by
    intro a vs es e h1 h2 q
    subst e
    refine call_len_seq pins s σ H _ us Q I r ⟨a, vs, rfl, h1, ?_⟩
    rw [h2.length]; exact RD.int q
  cases d with
  | str z =>
    have q : RD (Cn.of X T) W H (if szOk z.length then some (.int z.length) else none) Q := q
    split at q
    · rename_i hz
      have e := o.1
      subst e
      exact call_len_str pins s σ H _ us Q I r ⟨z, rfl, szOk_line hz, q.int⟩
    · exact q.elim
  | lst b ds =>
    cases b with
    | true => obtain ⟨_, _, _, _, _, e, _⟩ := o; cases e
    | false =>
      obtain ⟨a, vs, e, h1, h2⟩ := own_listF (C := Cn.of X T) o
      exact seq e (.inl h1) h2 q
  | rol ds =>
    obtain ⟨a, vs, e, h1, h2⟩ := own_rol (C := Cn.of X T) o
    exact seq e (.inl h1) h2 q
  | tup ds =>
    obtain ⟨a, vs, e, h1, h2⟩ := own_tupF (C := Cn.of X T) o
    exact seq e (.inr h1) h2 q
  | _ => exact q.elim
/-- the bools of a list -/
def bls : List D → Option (List Bool)
  | [] => some []
  | .bl b :: ds => (bls ds).map (b :: ·)
  | _ :: _ => none
theorem owns_bls {K : PySem.W.Frag} {W : Wd} {H : Hp} : ∀ {ds : List D} {vs : List V} {A : List Addr} {bs : List Bool}, Owns K W H vs ds A → bls ds = some bs → vs = bs.map V.bl
  | [], vs, _, bs, o, e => by cases e; exact o.1
  | d :: ds, vs, _, bs, o, e => by
    obtain ⟨v, ws, A1, A2, e1, e2, h1, h2⟩ := o
    cases d with
    | bl b =>
      obtain ⟨cs, h3, h4⟩ := Option.map_eq_some_iff.mp (show (bls ds).map (b :: ·) = some bs from e)
      rw [e1, h1.1, owns_bls h2 h3, ← h4]; rfl
    | _ => cases e
def dAll : D → Option D
  | .lst _ ds => (bls ds).map fun bs => .bl (bs.all id)
  | _ => none
def dAny : D → Option D
  | .lst _ ds => (bls ds).map fun bs => .bl (bs.any id)
  | _ => none
theorem bl_args {g : List Bool → Bool} {xs : List V} {H : Hp} {Q : VK} (h : rsD (Cn.of X T) (g1 fun d => match d with | .lst _ ds => (bls ds).map fun bs => .bl (g bs) | _ => none) xs H Q) :
    ∃ (a : Addr) (bs : List Bool), xs = [V.ref a] ∧ SqL X.K H a (bs.map V.bl) ∧ Q (.bl (g bs)) H := by
  obtain ⟨W, ds, al, tb, os, qs⟩ := h
  obtain ⟨d, rfl, q⟩ := g1_inv qs
  obtain ⟨v, rfl, o⟩ := owns_1 (C := Cn.of X T) os
  cases d with
  | lst b ds =>
    obtain ⟨a, vs, e, h1, B, h2⟩ := own_list (C := Cn.of X T) o
    have q : RD (Cn.of X T) W H ((bls ds).map fun bs => .bl (g bs)) Q := q
    cases e2 : bls ds with
    | none => rw [e2] at q; exact q.elim
    | some bs =>
      rw [e2] at q
      subst e
      refine ⟨a, bs, rfl, ?_, RD.bl q⟩
      rw [← owns_bls h2 e2]; exact h1
  | _ => exact q.elim
theorem all_ok (hc : X.calm = true) : CallR X (.builtin "all") (rsD (Cn.of X T) (g1 dAll)) := fun pins s σ H xs us Q I r h => cr_all hc pins s σ H xs us Q I r (bl_args (g := fun bs => bs.all id) h)
theorem any_ok (hc : X.calm = true) : CallR X (.builtin "any") (rsD (Cn.of X T) (g1 dAny)) := fun pins s σ H xs us Q I r h => cr_any hc pins s σ H xs us Q I r (bl_args (g := fun bs => bs.any id) h)
def dStr : D → Option D
  | .str s => some (.str s)
  | .int i => if i.natAbs.log2 < 1920 then some (.str (toString i)) else none
  | _ => none
theorem str_ok : CallR X (.type "str") (rsD (Cn.of X T) (g1 dStr)) := by
  intro pins s σ H xs us Q I r h
  obtain ⟨W, ds, al, tb, os, qs⟩ := h
  obtain ⟨d, rfl, q⟩ := g1_inv qs
  obtain ⟨v, rfl, o⟩ := owns_1 (C := Cn.of X T) os
  cases d with
  | str z => have e := o.1; subst e; exact SkE.call_str_str pins s σ H _ us Q I r ⟨z, rfl, q.str⟩
  | int i =>
    have q : RD (Cn.of X T) W H (if i.natAbs.log2 < 1920 then some (.str (toString i)) else none) Q := q
    split at q
    · rename_i hz
      have e := o.1
      subst e
      exact call_str_int pins s σ H _ us Q I r ⟨i, rfl, hz, RD.str (C := Cn.of X T) q⟩
    · exact q.elim
  | _ => exact q.elim
def dAbs : D → Option D
  | .int i => some (.int (if i < 0 then -i else i))
  | _ => none
theorem abs_ok : CallR X (.builtin "abs") (rsD (Cn.of X T) (g1 dAbs)) := by
  intro pins s σ H xs us Q I r h
  obtain ⟨W, ds, al, tb, os, qs⟩ := h
  obtain ⟨d, rfl, q⟩ := g1_inv qs
  obtain ⟨v, rfl, o⟩ := owns_1 (C := Cn.of X T) os
  cases d with
  | int i => have e := o.1; subst e; exact call_abs pins s σ H _ us Q I r ⟨i, rfl, RD.int (C := Cn.of X T) q⟩
  | _ => exact q.elim
def dTup : D → Option D
  | .lst _ ds => some (.tup ds)
  | .rol ds => some (.tup ds)
  | .tup ds => some (.tup ds)
  | _ => none
theorem tup_ok : CallR X (.type "tuple") (rsD (Cn.of X T) (g1 dTup)) := by
  intro pins s σ H xs us Q I r h
  obtain ⟨W, ds, al, tb, os, qs⟩ := h
  obtain ⟨d, rfl, q⟩ := g1_inv qs
  obtain ⟨v, rfl, o⟩ := owns_1 (C := Cn.of X T) os
  cases d with
  | lst b ds =>
    cases b with
    | true => obtain ⟨_, _, _, _, _, e, _⟩ := o; cases e
    | false =>
      obtain ⟨a, vs, e, h1, h2⟩ := own_listF (C := Cn.of X T) o
      subst e
      exact call_tuple_of pins s σ H _ us Q I r ⟨a, vs, rfl, .inl ⟨h1, fun l hl => RD.tup (C := Cn.of X T) q h2 hl⟩⟩
  | rol ds =>
    obtain ⟨a, vs, e, h1, h2⟩ := own_rol (C := Cn.of X T) o
    subst e
    exact call_tuple_of pins s σ H _ us Q I r ⟨a, vs, rfl, .inl ⟨h1, fun l hl => RD.tup (C := Cn.of X T) q h2 hl⟩⟩
  | tup ds =>
    have o' := o
    obtain ⟨a, vs, e, h1, h2⟩ := own_tupF (C := Cn.of X T) o
    subst e
    exact call_tuple_of pins s σ H _ us Q I r ⟨a, vs, rfl, .inr ⟨h1, RD.same (C := Cn.of X T) q o'⟩⟩
  | _ => exact q.elim
def dLst : D → Option D
  | .lst _ ds => some (.lst true ds)
  | .rol ds => some (.lst true ds)
  | .tup ds => some (.lst true ds)
  | _ => none
theorem lst_ok : CallR X (.type "list") (rsD (Cn.of X T) (g1 dLst)) := by
  intro pins s σ H xs us Q I r h
  obtain ⟨W, ds, al, tb, os, qs⟩ := h
  obtain ⟨d, rfl, q⟩ := g1_inv qs
  obtain ⟨v, rfl, o⟩ := owns_1 (C := Cn.of X T) os
  cases d with
  | lst b ds =>
    cases b with
    | true => obtain ⟨_, _, _, _, _, e, _⟩ := o; cases e
    | false =>
      obtain ⟨a, vs, e, h1, h2⟩ := own_listF (C := Cn.of X T) o
      subst e
      exact call_list_of pins s σ H _ us Q I r ⟨a, vs, rfl, .inl h1, fun l hl => RD.lst (C := Cn.of X T) q h2 hl⟩
  | rol ds =>
    obtain ⟨a, vs, e, h1, h2⟩ := own_rol (C := Cn.of X T) o
    subst e
    exact call_list_of pins s σ H _ us Q I r ⟨a, vs, rfl, .inl h1, fun l hl => RD.lst (C := Cn.of X T) q h2 hl⟩
  | tup ds =>
    obtain ⟨a, vs, e, h1, h2⟩ := own_tupF (C := Cn.of X T) o
    subst e
    exact call_list_of pins s σ H _ us Q I r ⟨a, vs, rfl, .inr h1, fun l hl => RD.lst (C := Cn.of X T) q h2 hl⟩
  | _ => exact q.elim
/-! ### isinstance of built-in types -/
def tyN : D → String
  | .non => "NoneType"
  | .bl _ => "bool"
  | .int _ => "int"
  | .str _ => "str"
  | .lst _ _ => "list"
  | .rol _ => "list"
  | .tup _ => "tuple"
  | .dic _ _ _ => "dict"
  | .ty _ => "type"
def dIsi (d e : D) : Option D := match e with
  | .ty n => (match d with
    | .ty _ => none
    | d => if n = "int" ∨ n = "bool" ∨ n = "str" ∨ n = "list" ∨ n = "tuple" then some (.bl (decide (tyN d = n) || (decide (tyN d = "bool") && decide (n = "int")))) else none)
  | _ => none
theorem kit_tab : ∀ a ∈ ["NoneType", "bool", "int", "str", "list", "tuple", "dict"], ∀ n ∈ ["int", "bool", "str", "list", "tuple"], kitB a n = some (decide (a = n) || (decide (a = "bool") && decide (n = "int"))) := by decide +kernel
theorem own_ty {K : PySem.W.Frag} {W : Wd} {H : Hp} {d : D} {v : V} {A : List Addr} (o : Own K W H v d A) (n : ∀ t, d ≠ .ty t) : TyX K H v (.type (tyN d)) := by
  have sqT : ∀ {a : Addr} {vs : List V}, SqT K H a vs → TyX K H (.ref a) (.type "tuple") := by
    intro a vs h
    rcases h with (h | ⟨o, h⟩) | ⟨o, _, _, h1, h2, _⟩
    · exact .base (.tup h)
    · exact .fTuple h
    · exact .kTuple h1 h2
  cases d with
  | non => have e := o.1; subst e; exact .base .non
  | bl b => have e := o.1; subst e; exact .base (.bl b)
  | int i => have e := o.1; subst e; exact .base (.int i)
  | str i => have e := o.1; subst e; exact .base (.str i)
  | ty i => exact absurd rfl (n i)
  | lst b ds =>
    cases b with
    | true => obtain ⟨a, vs, B, e, _, _, h⟩ := o; subst e; exact .base (.lst h)
    | false => obtain ⟨a, vs, B, e, _, _, _, h, _⟩ := o; subst e; exact .base (.lst h)
  | rol ds =>
    obtain ⟨a, vs, e, _, _, h⟩ := o
    subst e
    rcases h with ⟨h | ⟨q, h⟩, _⟩ | ((h | ⟨_, h⟩) | ⟨q, _, _, h1, h2, _⟩)
    · exact .base (.lst h)
    · exact .base (.frz h)
    · cases h
    · cases h
    · exact .kList h1 h2
  | tup ds => obtain ⟨a, vs, e, _, h⟩ := o; subst e; exact sqT h
  | dic b ks ds =>
    cases b with
    | true => obtain ⟨a, vs, B, e, _, _, _, h⟩ := o; subst e; exact .base (.dK h)
    | false =>
      obtain ⟨a, vs, B, e, _, _, _, _, h, _⟩ := o
      subst e
      rcases h with h | ⟨q, h⟩
      · exact .base (.dK h)
      · exact .fDict h
theorem isi_ok : CallR X (.builtin "isinstance") (rsD (Cn.of X T) (g2 dIsi)) := by
  intro pins s σ H xs us Q I r h
  obtain ⟨W, ds, al, tb, os, qs⟩ := h
  obtain ⟨d, e, rfl, q⟩ := g2_inv qs
  obtain ⟨v, w, rfl, o1, o2⟩ := owns_2 (C := Cn.of X T) os
  cases e with
  | ty n =>
    have key : (∀ t, d ≠ .ty t) → RD (Cn.of X T) W H (if n = "int" ∨ n = "bool" ∨ n = "str" ∨ n = "list" ∨ n = "tuple" then some (.bl (decide (tyN d = n) || (decide (tyN d = "bool") && decide (n = "int")))) else none) Q →
        wpAny (model X.prog X.w) X.A (call (.builtin "isinstance") us) (EP X pins σ Q) X.xe s := by
      intro nt q
      split at q
      · rename_i hn
        have e := o2.1
        subst e
        refine call_isi pins s σ H _ us Q I r ⟨v, .ty n, .type (tyN d), .type n, _, rfl, .ty n, own_ty o1 nt, kit_ty (kit_tab (tyN d) ?_ n ?_), RD.bl (C := Cn.of X T) q⟩
        · cases d <;> first | (exact absurd rfl (nt _)) | simp [tyN]
        · simpa using hn
      · exact q.elim
    cases d with
    | ty t => exact q.elim
    | _ => exact key (fun t z => by cases z) q
  | _ => exact q.elim
end
theorem de_bty {X : Cx} {T : List (Addr × Str)} {M : List Nat} {Wx : WX} {x : Str} {n : String} {pos : Pos} (hg : Gl X x) (hm : X.mg x = none) (hv : bootBuiltins x = some (.type n)) (hn : x ≠ "__name__" := by decide) (hd : (x == ("__debug__" : Str)) = false := by decide) : DE X T M Wx (.Name x pos) (fun _ => .ok (.ty n)) :=
  de_const (v := .ty n) (.ty n) (pe_bltn hg hm hv rfl hn hd) fun _ _ _ => ⟨rfl, rfl⟩
end De
set_option Elab.async false
set_option linter.all false
set_option maxRecDepth 100000
namespace De
open PySem PySem.Spec PyProof.Rows L2

/-! ### int(text, 10) -/
namespace IT
open PySem.W PySem.Calls PySem.NumText
structure Both (p : Prop) : Prop where
  get : p
theorem text10 {M : Model} {A : Around} {E : Value → Shared → Prop} {st : Shared} {Q : Value → Shared → Prop} {v : Value} {l : List Nat} {n : Int} {B : Nat} (eB : B = 10)
    (sz : (l.takeWhile (· != 0)).length ≤ 640) (rd : (int_private% "readNumeral") 0 10 (l.takeWhile (· != 0)) = (int_private% "Numeral.value") n)
    (al : ((l.takeWhile (· != 0)).length == l.length) = true) (done : Q (.int n st.toks) { st with toks := st.toks + 1 }) : wpAny M A ((int_private% "intFromText") v l B) Q E st := by
  subst eB
  exact KIN.wp_text sz rd al done
set_option maxHeartbeats 4000000 in
theorem gives10 {x : PySem.Str} {tx tb : Tok} {n : Int} (small : x.length ≤ 640) (val : PySem.intText? x = some n) :
    Gives (Builtin.«int.__new__» ⟨[.type "int", .str x tx, .int 10 tb], []⟩) (.int n) :=
  .of_wp fun M A E st Q done => by
    obtain ⟨h0, g0, d0, t0, o0⟩ := st
    have c1 := F.conv_sub_int
    have c2 := F.madeHere_int
    have c3 : typeOf (.str x tx) = pure (.type "str") := rfl
    have sz : (numSeenOf x).length ≤ 640 := Nat.le_trans (seen_length x) small
    have rd : (int_private% "readNumeral") 0 10 (numSeenOf x) = (int_private% "Numeral.value") n ∧ ((numSeenOf x).length == (numTextOf x).length) = true := by
      rcases read0 x sz with ⟨m, e1, e2, e3⟩ | ⟨e1, _⟩
      · cases val.symm.trans e1
        exact ⟨e3, e2⟩
      · cases val.symm.trans e1
    have both := Both.mk (And.intro sz rd)
    clear sz rd small val
    repeat (any_goals (first
      | assumption
      | ((with_reducible show wpAny _ _ ((int_private% "intFromText") _ _ _) _ _ _); refine text10 rfl both.get.1 both.get.2.1 both.get.2.2 ?_)
      | wp_step))
    all_goals first | exact ⟨_, rfl, done⟩ | skip
theorem tc2 (a b : Value) : checkTypeCall "int" ⟨[a, b], []⟩ = pure () := by kernel_rfl
theorem nc2 (a b : Value) : checkBuiltinCall "int.__new__" ⟨[.type "int", a, b], []⟩ = pure () := by kernel_rfl
theorem call10 {prog : Program} {w : World} {A : Around} {E : Value → Shared → Prop} {s : Shared} {Q : Value → Shared → Prop} {x : PySem.Str} {tx tb : Tok} {n : Int} (small : x.length ≤ 640) (val : PySem.intText? x = some n)
    (done : Q (.int n s.toks) { s with toks := s.toks + 1 }) : wpAny (model prog w) A (call (.type "int") [.str x tx, .int 10 tb]) Q E s :=
  callType_new F.called_int F.newNe_int (tc2 _ _) (nc2 _ _) (fun obj => F.initArgs_range_2 obj _ _) F.entry_int_new (gives10 small val).meets ⟨rfl, done⟩
end IT
section
variable {X : Cx} {T : List (Addr × Str)}
def dInt10 (d e : D) : Option D := match d with
  | .str s => (match e with
    | .int b => if b = 10 ∧ s.length ≤ 640 then (PySem.intText? s).map .int else none
    | _ => none)
  | _ => none
theorem int10_ok : CallR X (.type "int") (rsD (Cn.of X T) (g2 dInt10)) := by
  intro pins s σ H xs us Q I r h
  obtain ⟨W, ds, al, tb, os, qs⟩ := h
  obtain ⟨d, e, rfl, q⟩ := g2_inv qs
  obtain ⟨v, w, rfl, o1, o2⟩ := owns_2 (C := Cn.of X T) os
  cases d with
  | str z =>
    cases e with
    | int b =>
      have q : RD (Cn.of X T) W H (if b = 10 ∧ z.length ≤ 640 then (PySem.intText? z).map .int else none) Q := q
      split at q
      · rename_i hz
        cases hn : PySem.intText? z with
        | none => rw [hn] at q; exact q.elim
        | some n =>
          rw [hn] at q
          have qq := RD.int (C := Cn.of X T) (W := W) q
          have e1 := o1.1
          have e2 := o2.1
          have e3 := hz.1
          subst e1 e2 e3
          obtain ⟨u1, u2, rfl, r1, r2⟩ := vals2 r
          obtain ⟨t1, rfl⟩ := r1
          obtain ⟨t2, rfl⟩ := r2
          exact IT.call10 hz.2 hn ⟨.int n, H, I.tok _, ⟨_, rfl⟩, qq⟩
      · exact q.elim
    | _ => exact q.elim
  | _ => exact q.elim

/-! ### x in y -/
def strsD : List D → Option (List Str)
  | [] => some []
  | .str s :: ds => (strsD ds).map (s :: ·)
  | _ :: _ => none
theorem owns_strs {K : PySem.W.Frag} {W : Wd} {H : Hp} : ∀ {ds : List D} {vs : List V} {A : List Addr} {bs : List Str}, Owns K W H vs ds A → strsD ds = some bs → vs = bs.map V.str
  | [], vs, _, bs, o, e => by cases e; exact o.1
  | d :: ds, vs, _, bs, o, e => by
    obtain ⟨v, ws, A1, A2, e1, e2, h1, h2⟩ := o
    cases d with
    | str b =>
      obtain ⟨cs, h3, h4⟩ := Option.map_eq_some_iff.mp (show (strsD ds).map (b :: ·) = some bs from e)
      rw [e1, h1.1, owns_strs h2 h3, ← h4]; rfl
    | _ => cases e
def intsD : List D → Option (List Int)
  | [] => some []
  | .int s :: ds => (intsD ds).map (s :: ·)
  | _ :: _ => none
theorem owns_ints {K : PySem.W.Frag} {W : Wd} {H : Hp} : ∀ {ds : List D} {vs : List V} {A : List Addr} {bs : List Int}, Owns K W H vs ds A → intsD ds = some bs → vs = bs.map V.int
  | [], vs, _, bs, o, e => by cases e; exact o.1
  | d :: ds, vs, _, bs, o, e => by
    obtain ⟨v, ws, A1, A2, e1, e2, h1, h2⟩ := o
    cases d with
    | int b =>
      obtain ⟨cs, h3, h4⟩ := Option.map_eq_some_iff.mp (show (intsD ds).map (b :: ·) = some bs from e)
      rw [e1, h1.1, owns_ints h2 h3, ← h4]; rfl
    | _ => cases e
def seqOf : D → Option (List D)
  | .lst false ds => some ds
  | .rol ds => some ds
  | .tup ds => some ds
  | _ => none
/-- a text in a text (one sign: by its place), a text or an int among such -/
def isIn (d e : D) : Option Bool := match d with
  | .str a => (match e with
    | .str b => (match a.cps.toList with
      | [c] => some (decide (c ∈ b.cps.toList))
      | _ => some (!(Builtin.Str.occurrences b a 0 b.length 1).isEmpty))
    | e => (seqOf e).bind fun ds => (strsD ds).map fun ss => decide (a ∈ ss))
  | .int i => (seqOf e).bind fun ds => (intsD ds).map fun ns => decide (i ∈ ns)
  | _ => none
def dIn (d e : D) : Option D := (isIn d e).map .bl
def dNotIn (d e : D) : Option D := (isIn d e).map fun b => .bl (!b)
theorem own_seqOf {C : Cn} {W : Wd} {H : Hp} {v : V} {e : D} {ds : List D} (h : seqOf e = some ds) (o : Own C.K W H v e []) : ∃ a vs, v = .ref a ∧ (SqL C.K H a vs ∨ SqT C.K H a vs) ∧ Owns C.K W H vs ds [] := by
  cases e with
  | lst b es =>
    cases b with
    | true => cases h
    | false =>
      cases h
      obtain ⟨a, vs, e, h1, h2⟩ := own_listF o
      exact ⟨a, vs, e, .inl h1, h2⟩
  | rol es => cases h; obtain ⟨a, vs, e, h1, h2⟩ := own_rol o; exact ⟨a, vs, e, .inl h1, h2⟩
  | tup es => cases h; obtain ⟨a, vs, e, h1, h2⟩ := own_tupF o; exact ⟨a, vs, e, .inr h1, h2⟩
  | _ => cases h
theorem inV_str (a : Str) (ss : List Str) : inV (.str a) (ss.map V.str) = decide (a ∈ ss) := by
  unfold inV
  induction ss with
  | nil => rfl
  | cons s ss ih =>
    rw [List.map_cons, List.any_cons, ih]
    show (s == a || _) = _
    by_cases h : s = a
    · subst h; simp
    · have h' : ¬ a = s := fun z => h z.symm
      simp [h, h']
theorem inV_int (a : Int) (ss : List Int) : inV (.int a) (ss.map V.int) = decide (a ∈ ss) := by
  unfold inV
  induction ss with
  | nil => rfl
  | cons s ss ih =>
    rw [List.map_cons, List.any_cons, ih]
    show (s == a || _) = _
    by_cases h : s = a
    · subst h; simp
    · have h' : ¬ a = s := fun z => h z.symm
      simp [h, h']
theorem flat_strs (ss : List Str) : (ss.map V.str).all flatV = true := by simp [flatV]
theorem flat_ints (ss : List Int) : (ss.map V.int).all flatV = true := by simp [flatV]
/-- what «in» asks, by isIn -/
theorem isIn_read {C : Cn} {W : Wd} {H : Hp} {x y : V} {d e : D} {b : Bool} (ox : Own C.K W H x d []) (oy : Own C.K W H y e []) (h : isIn d e = some b) :
    (∃ (c : Nat) (z : Str), x = .str ⟨#[c]⟩ ∧ y = .str z ∧ b = decide (c ∈ z.cps.toList)) ∨ (∃ i j, x = .str i ∧ y = .str j ∧ b = !(Builtin.Str.occurrences j i 0 j.length 1).isEmpty) ∨
      (∃ p xs, y = .ref p ∧ (SqL C.K H p xs ∨ SqT C.K H p xs) ∧ flatV x = true ∧ xs.all flatV = true ∧ b = inV x xs) := by
  cases d with
  | str a =>
    have ex := ox.1
    subst ex
    have seq : ((seqOf e).bind fun ds => (strsD ds).map fun ss => decide (a ∈ ss)) = some b → ∃ p xs, y = .ref p ∧ (SqL C.K H p xs ∨ SqT C.K H p xs) ∧ flatV (V.str a) = true ∧ xs.all flatV = true ∧ b = inV (V.str a) xs := by
      intro h
      obtain ⟨ds, h1, h2⟩ := Option.bind_eq_some_iff.mp h
      obtain ⟨ss, h3, h4⟩ := Option.map_eq_some_iff.mp h2
      obtain ⟨p, vs, e1, e2, e3⟩ := own_seqOf h1 oy
      have e4 := owns_strs e3 h3
      subst e4
      exact ⟨p, _, e1, e2, rfl, flat_strs ss, by rw [inV_str]; exact h4.symm⟩
    cases e with
    | str z =>
      have ey := oy.1
      subst ey
      have h : (match a.cps.toList with | [c] => some (decide (c ∈ z.cps.toList)) | _ => some (!(Builtin.Str.occurrences z a 0 z.length 1).isEmpty)) = some b := h
      split at h
      · rename_i c hc
        have ea : a = ⟨#[c]⟩ := by
          obtain ⟨arr⟩ := a
          have : arr = #[c] := by
            have := congrArg List.toArray hc
            simpa using this
          rw [this]
        exact .inl ⟨c, z, by rw [ea], rfl, (Option.some.inj h).symm⟩
      · exact .inr (.inl ⟨a, z, rfl, rfl, (Option.some.inj h).symm⟩)
    | _ => exact .inr (.inr (seq h))
  | int a =>
    have ex := ox.1
    subst ex
    obtain ⟨ds, h1, h2⟩ := Option.bind_eq_some_iff.mp (show ((seqOf e).bind fun ds => (intsD ds).map fun ns => decide (a ∈ ns)) = some b from h)
    obtain ⟨ss, h3, h4⟩ := Option.map_eq_some_iff.mp h2
    obtain ⟨p, vs, e1, e2, e3⟩ := own_seqOf h1 oy
    have e4 := owns_ints e3 h3
    subst e4
    exact .inr (.inr ⟨p, _, e1, e2, rfl, flat_ints ss, by rw [inV_int]; exact h4.symm⟩)
  | _ => cases h
theorem in_ok : OpR X (compareOp .In) (r2D (Cn.of X T) dIn) := by
  intro pins s σ H x y v u Q I rx ry h
  obtain ⟨W, d, e, al, tb, ox, oy, q⟩ := h
  unfold dIn at q
  cases hi : isIn d e with
  | none => rw [hi] at q; exact q.elim
  | some b =>
    rw [hi] at q
    have q := RD.bl (C := Cn.of X T) (W := W) q
    rcases isIn_read (C := Cn.of X T) ox oy hi with ⟨c, z, e1, e2, e3⟩ | ⟨i, j, e1, e2, e3⟩ | ⟨p, xs, e1, e2, e3, e4, e5⟩
    · exact op_in_sign pins s σ H x y v u Q I rx ry ⟨c, z, e1, e2, by rw [← e3]; exact q⟩
    · exact op_in_str pins s σ H x y v u Q I rx ry ⟨i, j, e1, e2, by rw [← e3]; exact q⟩
    · exact op_in_seq pins s σ H x y v u Q I rx ry ⟨p, xs, e1, e2, e3, e4, by rw [if_neg (by decide), ← e5]; exact q⟩
theorem notIn_ok : OpR X (compareOp .NotIn) (r2D (Cn.of X T) dNotIn) := by
  intro pins s σ H x y v u Q I rx ry h
  obtain ⟨W, d, e, al, tb, ox, oy, q⟩ := h
  unfold dNotIn at q
  cases hi : isIn d e with
  | none => rw [hi] at q; exact q.elim
  | some b =>
    rw [hi] at q
    have q := RD.bl (C := Cn.of X T) (W := W) q
    rcases isIn_read (C := Cn.of X T) ox oy hi with ⟨c, z, e1, e2, e3⟩ | ⟨i, j, e1, e2, e3⟩ | ⟨p, xs, e1, e2, e3, e4, e5⟩
    · exact op_notIn_sign pins s σ H x y v u Q I rx ry ⟨c, z, e1, e2, by rw [← e3]; exact q⟩
    · exact op_notIn_str pins s σ H x y v u Q I rx ry ⟨i, j, e1, e2, by rw [← e3]; exact q⟩
    · exact op_notIn_seq pins s σ H x y v u Q I rx ry ⟨p, xs, e1, e2, e3, e4, by rw [if_pos rfl, ← e5]; exact q⟩

/-! ### items and slices -/
def dIx (d e : D) : Option D := match e with
  | .int i => (match d with
    | .str z => if szOk z.length then (atI z.cps.toList i).map fun c => .str ⟨#[c]⟩ else none
    | d => (seqOf d).bind fun ds => atI ds i)
  | _ => none
theorem atI_owns {K : PySem.W.Frag} {W : Wd} {H : Hp} {ds : List D} {vs : List V} {i : Int} {d : D} (o : Owns K W H vs ds []) (h : atI ds i = some d) : ∃ v, atI vs i = some v ∧ Own K W H v d [] := by
  unfold atI at h ⊢
  rw [o.length]
  obtain ⟨j, h1, h2⟩ := Option.bind_eq_some_iff.mp h
  obtain ⟨v, h3, h4⟩ := o.get h2
  exact ⟨v, by rw [h1]; exact h3, h4⟩
theorem ix_ok : IxR X (r2D (Cn.of X T) dIx) := by
  intro value slice pins s σ H x y v u Q I rx ry h hs
  obtain ⟨W, d, e, al, tb, ox, oy, q⟩ := h
  refine ix_seq value slice pins s σ H x y v u Q I rx ry ?_ hs
  cases e with
  | int i =>
    have ey := oy.1
    have seq : RD (Cn.of X T) W H ((seqOf d).bind fun ds => atI ds i) Q → rIx X.K x y H Q := by
      intro q
      cases h1 : seqOf d with
      | none => rw [h1] at q; exact q.elim
      | some ds =>
        rw [h1] at q
        have q : RD (Cn.of X T) W H (atI ds i) Q := q
        cases h2 : atI ds i with
        | none => rw [h2] at q; exact q.elim
        | some d2 =>
          rw [h2] at q
          obtain ⟨a, vs, e1, e2, e3⟩ := own_seqOf (C := Cn.of X T) h1 ox
          obtain ⟨w, h3, h4⟩ := atI_owns e3 h2
          rcases e2 with e2 | e2
          · exact .inl ⟨a, vs, i, w, e1, ey, e2, h3, q.same h4⟩
          · exact .inr (.inl ⟨a, vs, i, w, e1, ey, e2, h3, q.same h4⟩)
    cases d with
    | str z =>
      have q : RD (Cn.of X T) W H (if szOk z.length then (atI z.cps.toList i).map fun c => .str ⟨#[c]⟩ else none) Q := q
      split at q
      · rename_i hz
        cases h2 : atI z.cps.toList i with
        | none => rw [h2] at q; exact q.elim
        | some c =>
          rw [h2] at q
          exact .inr (.inr ⟨z, i, c, ox.1, ey, szOk_line hz, h2, RD.str (C := Cn.of X T) (W := W) q⟩)
      · exact q.elim
    | _ => exact seq q
  | _ => exact q.elim
def cutL {α : Type} (xs : List α) (lo hi : Option Int) : List α := (xs.drop (HT.sIx xs.length 0 lo)).take (HT.sIx xs.length xs.length hi - HT.sIx xs.length 0 lo)
theorem Owns.drop {K : PySem.W.Frag} {W : Wd} {H : Hp} : ∀ (n : Nat) {ds : List D} {vs : List V}, Owns K W H vs ds [] → Owns K W H (vs.drop n) (ds.drop n) []
  | 0, _, _, o => o
  | n + 1, [], vs, o => by rw [o.1]; exact ⟨rfl, rfl⟩
  | n + 1, d :: ds, vs, o => by
    obtain ⟨v, ws, A1, A2, e1, e2, h1, h2⟩ := o
    obtain ⟨z1, z2⟩ := List.append_eq_nil_iff.mp e2.symm
    subst z1 z2 e1
    exact Owns.drop n h2
theorem Owns.take {K : PySem.W.Frag} {W : Wd} {H : Hp} : ∀ (n : Nat) {ds : List D} {vs : List V}, Owns K W H vs ds [] → Owns K W H (vs.take n) (ds.take n) []
  | 0, _, _, o => ⟨rfl, rfl⟩
  | n + 1, [], vs, o => by rw [o.1]; exact ⟨rfl, rfl⟩
  | n + 1, d :: ds, vs, o => by
    obtain ⟨v, ws, A1, A2, e1, e2, h1, h2⟩ := o
    obtain ⟨z1, z2⟩ := List.append_eq_nil_iff.mp e2.symm
    subst z1 z2 e1
    exact ⟨v, ws.take n, [], [], rfl, rfl, h1, Owns.take n h2⟩
theorem owns_cut {K : PySem.W.Frag} {W : Wd} {H : Hp} {ds : List D} {vs : List V} {lo hi : Option Int} (o : Owns K W H vs ds []) : Owns K W H (cutV vs lo hi) (cutL ds lo hi) [] := by
  unfold cutV cutL
  rw [o.length]
  exact (o.drop _).take _
def dSl (d : D) (lo hi : Option Int) : Option D := match d with
  | .str z => if szOk z.length then some (.str (cutS z lo hi)) else none
  | .lst o ds => (match o with
    | false => some (.lst true (cutL ds lo hi))
    | true => none)
  | .tup ds => if HT.sIx ds.length 0 lo = 0 ∧ HT.sIx ds.length ds.length hi = ds.length then none else some (.tup (cutL ds lo hi))
  | _ => none
def rslD (C : Cn) (g : D → Option Int → Option Int → Option D) : V → Option Int → Option Int → Hp → VK → Prop := fun x lo hi H Q => ∃ W d, Own C.K W H x d [] ∧ RD C W H (g d lo hi) Q
theorem sl_ok : SlR X (rslD (Cn.of X T) dSl) := by
  intro pins s σ H x v vl vu lo hi sl Q I rx hs pl pu h
  obtain ⟨W, d, ox, q⟩ := h
  cases d with
  | str z =>
    have q : RD (Cn.of X T) W H (if szOk z.length then some (.str (cutS z lo hi)) else none) Q := q
    split at q
    · rename_i hz
      exact sl_str pins s σ H x v vl vu lo hi sl Q I rx hs pl pu ⟨z, ox.1, szOk_line hz, q.str⟩
    · exact q.elim
  | lst b ds =>
    cases b with
    | true => exact q.elim
    | false =>
      obtain ⟨a, vs, e, h1, h2⟩ := own_listF (C := Cn.of X T) ox
      exact sl_list pins s σ H x v vl vu lo hi sl Q I rx hs pl pu ⟨a, vs, e, h1, fun p np => RD.lst (C := Cn.of X T) q (owns_cut h2) np⟩
  | tup ds =>
    have q : RD (Cn.of X T) W H (if HT.sIx ds.length 0 lo = 0 ∧ HT.sIx ds.length ds.length hi = ds.length then none else some (.tup (cutL ds lo hi))) Q := q
    split at q
    · exact q.elim
    · rename_i hw
      obtain ⟨a, vs, e, h1, h2⟩ := own_tupF (C := Cn.of X T) ox
      exact sl_tup pins s σ H x v vl vu lo hi sl Q I rx hs pl pu ⟨a, vs, e, h1, by rw [h2.length]; exact hw, fun p np => RD.tup (C := Cn.of X T) q (owns_cut h2) np⟩
  | _ => exact q.elim
end
/-! ### slices: their two ends -/
def prtN : Env → Res (Option Int) := fun _ => .ok none
def prtI : D → Res (Option Int)
  | .int i => .ok (some i)
  | _ => .bad
def prtE (f : Env → Res D) : Env → Res (Option Int) := fun ρ => (f ρ).bind prtI
def PostP (C : Cn) (H : Hp) (r : Res (Option Int)) (Q : Option Int → Hp → Prop) (Wx : XK) : Prop := match r with
  | .ok b => ∀ H', Ext C.T H H' → Q b H'
  | .ex e => ∀ c o H', Ext C.T H H' → ExcIs C.mg H' e c o → Wx c o H'
  | .bad => False
def tDP (C : Cn) (M : List Nat) (Wx : WX) (f : Env → Res (Option Int)) : TO := fun σ H Q => ∃ ρ W, Rel C M W σ H ρ ∧ PostP C H (f ρ) Q fun c o H' => Wx c o σ H'
abbrev DP (X : Cx) (T : List (Addr × Str)) (M : List Nat) (Wx : WX) (e : Option Expr) (f : Env → Res (Option Int)) : Prop := PO X e (tDP (Cn.of X T) M Wx f)
section
variable {X : Cx} {T : List (Addr × Str)} {M : List Nat} {Wx : WX} {pos p2 : Pos} {e : Expr}
theorem po_weak {o : Option Expr} {t t' : TO} (h : PO X o t) (w : ∀ σ H Q, t' σ H Q → t σ H Q) : PO X o t' := ⟨fun pins s σ H Q I q => h.run pins s σ H Q I (w σ H Q q)⟩
theorem dp_none : DP X T M Wx none prtN := po_weak po_none fun σ H Q ⟨ρ, W, r, p⟩ => p H (.refl _)
theorem dp_some {f : Env → Res D} (h : DE X T M Wx e f) : DP X T M Wx (some e) (prtE f) := po_weak (po_some h) fun σ H Q ⟨ρ, W, r, p⟩ => ⟨ρ, W, r, by
  unfold prtE at p
  cases e : f ρ with
  | ex e' => rw [e] at p; exact p
  | bad => rw [e] at p; exact p
  | ok d =>
    rw [e] at p
    intro v H' A x n nd o
    cases d with
    | int i => exact ⟨i, o.1, p H' x⟩
    | _ => exact p.elim⟩
theorem PostP.bind {C : Cn} {W : Wd} {H : Hp} {Wx : XK} {r : Res (Option Int)} {g : Option Int → Res D} {Q : VK} (p : Post C W H (r.bind g) Q Wx) :
    PostP C H r (fun b H2 => Ext C.T H H2 ∧ Post C W H2 (g b) Q Wx) Wx := by
  cases r with
  | ok d => exact fun H2 x => ⟨x, Post.ext (r := g d) p x⟩
  | ex e => exact p
  | bad => exact p
theorem PostP.mono {C : Cn} {H : Hp} {Wx : XK} {r : Res (Option Int)} {Q Q' : Option Int → Hp → Prop} (p : PostP C H r Q Wx) (q : ∀ v H', Q v H' → Q' v H') : PostP C H r Q' Wx := by
  cases r with
  | ok d => exact fun H2 x => q _ _ (p H2 x)
  | ex e => exact p
  | bad => exact p
def slA (f : Env → Res D) (lo hi : Env → Res (Option Int)) : Env → Res D := fun ρ => (f ρ).bind fun d => (lo ρ).bind fun l => (hi ρ).bind fun h => lift (dSl (frz d) l h)
theorem de_sl {lo hi : Option Expr} {f : Env → Res D} {fl fh : Env → Res (Option Int)} (he : DE X T M Wx e f) (hl : DP X T M Wx lo fl) (hh : DP X T M Wx hi fh) : DE X T M Wx (.Subscript e (.Slice lo hi none p2) pos) (slA f fl fh) := by
  refine pe_weak (pe_slice (sl_ok (T := T)) he hl hh) fun σ H Q ⟨ρ, W, r, p⟩ => ⟨ρ, W, r, (Post.bind r.al p).mono fun x H1 ⟨d, x1, o1, p1⟩ => ?_⟩
  have r1 := r.ext1 x1
  refine ⟨ρ, W, r1, (PostP.bind p1).mono fun l H2 ⟨x2, p2⟩ => ⟨ρ, W, r1.ext1 x2, (PostP.bind p2).mono fun h H3 ⟨x3, p3⟩ => ?_⟩⟩
  exact ⟨W, _, (o1.ext x2 (fun a h => .inl h) _).ext x3 (fun a h => .inl h) _, RD.post p3⟩

/-! ### methods of texts with one argument -/
def strM (g : Str → D → Option D) (fo fe : Env → Res D) : Env → Res D := fun ρ => (fo ρ).bind fun x => match x with
  | .str a => (fe ρ).bind fun y => lift (g a (frz y))
  | _ => .bad
theorem strM_read {C : Cn} {g : Str → D → Option D} {fo fe : Env → Res D} {r : V → List V → Hp → VK → Prop} {σ : L2.St} {H : Hp} {Q : VK}
    (hr : ∀ W a d y H Q, Own C.K W H y d [] → RD C W H (g a d) Q → r (.str a) [y] H Q) (h : tD C M Wx (strM g fo fe) σ H Q) : tM1 r (tD C M Wx fo) (tD C M Wx fe) σ H Q := by
  obtain ⟨ρ, W, R, p⟩ := h
  refine ⟨ρ, W, R, ?_⟩
  unfold strM at p
  cases e : fo ρ with
  | ex e' => rw [e] at p; exact p
  | bad => rw [e] at p; exact p
  | ok d =>
    rw [e] at p
    intro v H1 A x n nd o
    cases d with
    | str a =>
      have ev := o.1
      subst ev
      have p : Post C W H ((fe ρ).bind fun y => lift (g a (frz y))) Q _ := p
      have R1 := R.ext1 x
      exact ⟨⟨a, rfl⟩, ρ, W, R1, (Post.bind R1.al (Post.ext p x)).mono fun y H2 ⟨d, x2, o2, p2⟩ => hr W a _ y H2 Q o2 (RD.post p2)⟩
    | _ => exact p.elim
def dJoin (a : Str) (d : D) : Option D := (seqOf d).bind fun ds => (strsD ds).bind fun ys => if (ys.map (·.length)).sum + ys.length * a.length ≤ 16777216 then some (.str (Txt.join a ys)) else none
def dSplit (a : Str) (d : D) : Option D := match d with
  | .str b => if (b.length == 0) = false ∧ szOk (a.length + 2) = true then some (.lst true ((Txt.split a b).map .str)) else none
  | _ => none
variable {o : Expr} {apos : Pos} {fo fe : Env → Res D}
theorem de_join (ho : DE X T M Wx o fo) (he : DE X T M Wx e fe) (hs : starEach [e] X.env = [(false, eval e X.env)] := by rfl) (hbase : attributeBase o "join" X.env (eval o X.env) = eval o X.env := by rfl) (hline : (apos.endLine == pos.line) = true := by rfl) :
    DE X T M Wx (.Call (.Attribute o "join" apos) [e] [] pos) (strM dJoin fo fe) :=
  pe_weak (pe_join ho he hs hbase hline) fun σ H Q h => strM_read (fun W a d y H Q oy q => by
    unfold dJoin at q
    cases h1 : seqOf d with
    | none => rw [h1] at q; exact q.elim
    | some ds =>
    rw [h1] at q
    cases h2 : strsD ds with
    | none =>
      have q : RD (Cn.of X T) W H ((strsD ds).bind fun ys => if (ys.map (·.length)).sum + ys.length * a.length ≤ 16777216 then some (.str (Txt.join a ys)) else none) Q := q
      rw [h2] at q; exact q.elim
    | some ys =>
    have q : RD (Cn.of X T) W H ((strsD ds).bind fun ys => if (ys.map (·.length)).sum + ys.length * a.length ≤ 16777216 then some (.str (Txt.join a ys)) else none) Q := q
    rw [h2] at q
    have q : RD (Cn.of X T) W H (if (ys.map (·.length)).sum + ys.length * a.length ≤ 16777216 then some (.str (Txt.join a ys)) else none) Q := q
    split at q
    · rename_i hz
      obtain ⟨p, vs, e1, e2, e3⟩ := own_seqOf (C := Cn.of X T) h1 oy
      have e4 := owns_strs e3 h2
      subst e4 e1
      exact ⟨a, p, ys, rfl, rfl, e2, hz, RD.str (C := Cn.of X T) q⟩
    · exact q.elim) h
theorem owns_mk {K : PySem.W.Frag} {W : Wd} {H : Hp} : ∀ ss : List Str, Owns K W H (ss.map V.str) (ss.map D.str) []
  | [] => ⟨rfl, rfl⟩
  | s :: ss => ⟨.str s, ss.map V.str, [], [], rfl, rfl, ⟨rfl, rfl⟩, owns_mk ss⟩
theorem de_split (ho : DE X T M Wx o fo) (he : DE X T M Wx e fe) (hs : starEach [e] X.env = [(false, eval e X.env)] := by rfl) (hbase : attributeBase o "split" X.env (eval o X.env) = eval o X.env := by rfl) (hline : (apos.endLine == pos.line) = true := by rfl) :
    DE X T M Wx (.Call (.Attribute o "split" apos) [e] [] pos) (strM dSplit fo fe) :=
  pe_weak (pe_split ho he hs hbase hline) fun σ H Q h => strM_read (fun W a d y H Q oy q => by
    cases d with
    | str b =>
      have q : RD (Cn.of X T) W H (if (b.length == 0) = false ∧ szOk (a.length + 2) = true then some (.lst true ((Txt.split a b).map .str)) else none) Q := q
      split at q
      · rename_i hz
        have ey := oy.1
        subst ey
        exact ⟨a, b, rfl, rfl, hz.1, szOk_line hz.2, fun p np => RD.lst (C := Cn.of X T) q (owns_mk _) np⟩
      · exact q.elim
    | _ => exact q.elim) h
end
end De
set_option Elab.async false
set_option linter.all false
set_option maxRecDepth 100000
namespace De
open PySem PySem.Spec PyProof.Rows L2

/-! ### the defs of a text, by name -/
theorem _root_.L2.FunD.look {K : PySem.W.Frag} {x qual : Str} {params : Arguments} {body : List Stmt} {scope : Scope} {dvs : List V} {kws : List (Str × V)} {f : Addr} {fd : FuncData} (G : FunD K x qual params body scope dvs kws f fd) : ∃ oc od osl, K.lookup f = some ⟨oc, od, .func fd, osl⟩ := by
  obtain ⟨oc, od, dV, kV, doc, pm, an, cdv, ct, osl, e, lk, _⟩ := G.ex
  exact ⟨oc, od, osl, lk⟩
structure FnS (P : Program) (w : World) (K : PySem.W.Frag) (mg : Str → Option Value) (base : Heap) (T : List (Addr × Str)) (x : Str) (ps : List Str) (k : Nat) (F : List D → Res D) : Prop where
  ex : ∃ fd, FnOk P w K mg base (L2.CX P w) k (He.ga K x) fd ps (spD ⟨K, T, mg⟩ ps.length F) ∧ Binds K fd ps [] ∧ ∃ oc od osl, K.lookup (He.ga K x) = some ⟨oc, od, .func fd, osl⟩
  m : mg x = some (.ref (He.ga K x))
  kp : PySem.W.keepIn K (.ref (He.ga K x)) = true
section
variable {P : Program} {w : World} {K : PySem.W.Frag} {mg : Str → Option Value} {base : Heap} {T : List (Addr × Str)}
theorem FnS.mk1 {x : Str} {params : Arguments} {body : List Stmt} {scope : Scope} {N ps : List Str} {k n : Nat} {s : Env → Out} (G : ∃ fd, FunD K x x params body scope [] [] (He.ga K x) fd) (m : mg x = some (.ref (He.ga K x))) (S : FnScope N ps scope)
    (hbi : ∀ (kV doc pm : Value) (an : Option Addr) (cdv ct : Value) (us : List Value), us.length = ps.length → bindArgs (PySem.W.fnOf x x params body scope .none kV doc pm an cdv ct) ⟨us, []⟩ = pure (ps.zip us)) (hn : N.length = n)
    (hb : ∀ (cdv : Value) (A : Around) (outer : List PySem.Env) (s0 : Shared) (H : Hp) (E : XK), Room k (A.deeper (envOfC x scope s0.heap.objs.size (He.ga K x) cdv)) → DSs (cxOf (L2.CX P w) P w K mg base N x scope (He.ga K x) cdv A outer s0 H E) T (fun c o _ H => E c o H) body s) :
    FnS P w K mg base T x ps (k + 1) (runF s n) := by
  obtain ⟨fd, G⟩ := G
  subst hn
  exact ⟨⟨fd, fn_ok G S hb fun ds _ => .inl rfl, G.bindsN hbi, G.look⟩, m, G.kp⟩
/-- the promise of a def that is known by its object -/
theorem FnS.of {x qual : Str} {params : Arguments} {body : List Stmt} {scope : Scope} {dvs : List V} {kws : List (Str × V)} {ps : List Str} {k : Nat} {F : List D → Res D} {fd : FuncData} (h : FnS P w K mg base T x ps k F) (G : FunD K x qual params body scope dvs kws (He.ga K x) fd) :
    FnOk P w K mg base (L2.CX P w) k (He.ga K x) fd ps (spD ⟨K, T, mg⟩ ps.length F) := by
  obtain ⟨fd', H, _, oc, od, osl, l⟩ := h.ex
  obtain ⟨oc', od', osl', l'⟩ := G.look
  rw [l] at l'
  cases l'
  exact H
end
section
variable {X : Cx} {T : List (Addr × Str)} {M : List Nat} {Wx : WX} {pos : Pos} {a : Expr} {es : List Expr}
theorem de_fn {x : Str} {p : Pos} {k : Nat} {ps : List Str} {F : List D → Res D} {fs : Env → Res (List D)} (G : FnS X.prog X.w X.K X.mg X.base T x ps k F) (hr : Room k X.A) (tk : Takes X Wx) (ha : DA X T M Wx (a :: es) fs) (hg : Gl X x := by rfl) (hn : es.length + 1 + 0 = ps.length := by rfl)
    (hdb : (x == ("__debug__" : Str)) = false := by decide) (he : starEach (a :: es) X.env = (false, eval a X.env) :: starEach es X.env := by rfl) (hpl : (backTo pos (starEach es X.env)).any (·.1) = false := by rfl) :
    DE X T M Wx (.Call (.Name x p) (a :: es) [] pos) (fnA F [] fs) := by
  obtain ⟨⟨fd, H, b, _⟩, m, kp⟩ := G
  exact de_call (dv := []) H hr hg m kp b .nil tk (fun _ _ => ⟨rfl, rfl⟩) ha hn hdb he hpl
end
theorem bt_len : bootBuiltins ("len" : Str) = some (.builtin "len") := by decide +kernel
theorem bt_all : bootBuiltins ("all" : Str) = some (.builtin "all") := by decide +kernel
theorem bt_any : bootBuiltins ("any" : Str) = some (.builtin "any") := by decide +kernel
theorem bt_abs : bootBuiltins ("abs" : Str) = some (.builtin "abs") := by decide +kernel
theorem bt_isinstance : bootBuiltins ("isinstance" : Str) = some (.builtin "isinstance") := by decide +kernel
theorem bt_str : bootBuiltins ("str" : Str) = some (.type "str") := by decide +kernel
theorem bt_int : bootBuiltins ("int" : Str) = some (.type "int") := by decide +kernel
theorem bt_bool : bootBuiltins ("bool" : Str) = some (.type "bool") := by decide +kernel
theorem bt_tuple : bootBuiltins ("tuple" : Str) = some (.type "tuple") := by decide +kernel
theorem bt_list : bootBuiltins ("list" : Str) = some (.type "list") := by decide +kernel
theorem bt_sorted : bootBuiltins ("sorted" : Str) = some (.builtin "sorted") := by decide +kernel
theorem bt_min : bootBuiltins ("min" : Str) = some (.builtin "min") := by decide +kernel
theorem bt_max : bootBuiltins ("max" : Str) = some (.builtin "max") := by decide +kernel
theorem bt_sum : bootBuiltins ("sum" : Str) = some (.builtin "sum") := by decide +kernel
theorem bt_set : bootBuiltins ("set" : Str) = some (.type "set") := by decide +kernel
theorem bt_zip : bootBuiltins ("zip" : Str) = some (.type "zip") := by decide +kernel
end De
set_option Elab.async false
set_option linter.all false
set_option maxRecDepth 100000
namespace De
open PySem

/-! ### zip(a, b, strict=True) over iterators of any kind: its cells, what stays beside them -/
/-- all cells but B stay; nothing is lost -/
structure Kp (B : List Addr) (h h' : Heap) : Prop where
  sz : h.objs.size ≤ h'.objs.size
  at_ : ∀ c o, c ∉ B → h.get? c = some o → h'.get? c = some o
theorem Kp.refl {B : List Addr} {h : Heap} : Kp B h h := ⟨Nat.le_refl _, fun _ _ _ e => e⟩
theorem Kp.trans {B : List Addr} {h g k : Heap} (a : Kp B h g) (b : Kp B g k) : Kp B h k := ⟨Nat.le_trans a.sz b.sz, fun c o n e => b.at_ c o n (a.at_ c o n e)⟩
theorem Kp.but {B : List Addr} {a : Addr} {h h' : Heap} (m : a ∈ B) (x : Heap.SameBut a h h') : Kp B h h' := ⟨Nat.le_of_eq x.1.symm, fun c o n e => (x.2 c fun q => n (q ▸ m)).trans e⟩
theorem Kp.push {B : List Addr} {h : Heap} (o : Obj) : Kp B h (h.push o) := ⟨by rw [Heap.size_push]; exact Nat.le_succ _, fun c u _ e => Heap.get?_push_of_some o e⟩
theorem Kp.sub {B C : List Addr} {h h' : Heap} (k : Kp B h h') (s : ∀ b ∈ B, b ∈ C) : Kp C h h' := ⟨k.sz, fun c o n e => k.at_ c o (fun q => n (s c q)) e⟩
/-- the five cells, and what the two iterators look at, lie apart -/
structure ZApart (z TI TO i1 i2 : Addr) (fp1 fp2 : List Addr) : Prop where
  zTI : TI ≠ z
  zTO : TO ≠ z
  TT : TO ≠ TI
  z1 : i1 ≠ z
  z2 : i2 ≠ z
  O1 : TO ≠ i1
  O2 : TO ≠ i2
  I1 : TI ≠ i1
  I2 : TI ≠ i2
  f1 : ∀ b ∈ fp1, b ≠ z ∧ b ≠ TO ∧ b ≠ i2
  f2 : ∀ b ∈ fp2, b ≠ z ∧ b ≠ TO ∧ b ≠ i1
/-- the zip's own object; f: the tuple that is handed out -/
abbrev ZObj (h : Heap) (z TI TO : Addr) (f : Value) : Prop :=
  h.get? z = some { cls := .type "zip", dict := none, data := .fields #[f, .bool false, .bool true, .ref TI, .ref TO], slots := #[] }
abbrev Duo (h : Heap) (T : Addr) (a b : Value) : Prop := h.get? T = some { cls := .type "tuple", data := .seq #[a, b] }
structure ZNow (z TI TO i1 i2 : Addr) (St1 St2 : Nat → Heap → Prop) (f : Value) (a b : Value) (j k : Nat) (h : Heap) : Prop where
  o : ZObj h z TI TO f
  its : Duo h TI (.ref i1) (.ref i2)
  own : Duo h TO a b
  s1 : St1 j h
  s2 : St2 k h
section
variable {prog : Program} {w : World} {A : Around} {E : Value → Shared → Prop} {s : Shared} {z TI TO i1 i2 : Addr} {fp1 fp2 : List Addr} {n i j k : Nat} {P1 P2 : Nat → Value → Prop} {St1 St2 : Nat → Heap → Prop} {f a b : Value}
/-- what is asked of the iterator at it: an item, or the end without a word -/
theorem next_some {it : Value} {Q : Option Value → Shared → Prop} (h : ∀ F : Value → Shared → Prop, wpAny (model prog w) A (Builtin.SmallTypes.nextOf it) (fun v t => Q (some v) t) F s) : wpAny (model prog w) A (Builtin.SmallTypes.nextOrEnd it) Q E s := by
  unfold Builtin.SmallTypes.nextOrEnd
  exact wpAny_bind (wpAny_attempt (wpAny_mono (h fun _ _ => False) (fun v t q => wpAny_pure q) fun _ _ q => q.elim))
theorem next_none {it : Value} {Q : Option Value → Shared → Prop} (h : wpAny (model prog w) A (Builtin.SmallTypes.nextOf it) (fun _ _ => False) (fun v t => ∃ e o, v = .ref e ∧ t.heap.get? e = some o ∧ o.cls = .type "StopIteration" ∧ Q none t) s) : wpAny (model prog w) A (Builtin.SmallTypes.nextOrEnd it) Q E s := by
  unfold Builtin.SmallTypes.nextOrEnd
  refine wpAny_bind (wpAny_attempt (wpAny_mono h (fun v t q => q.elim) fun v t ⟨e, o, ev, ho, hc, q⟩ => ?_))
  subst ev
  exact wpAny_bind (wpAny_isInstance (T := "StopIteration") (b := true) ⟨o, ho, hc⟩ isSubtype_stop (wpAny_pure q))
/-- a StopIteration without a value is raised -/
theorem stops {Q : Fin → Shared → Prop} (hh : A.handled = none) (h : ∀ h' e o, Kp [] s.heap h' → h'.get? e = some o → o.cls = .type "StopIteration" → E (.ref e) { s with heap := h' }) : wpAny (model prog w) A (Builtin.SmallTypes.stopIteration (α := Fin)) Q E s := by
  unfold Builtin.SmallTypes.stopIteration newExc newTuple
  refine wpAny_bind (wpAny_bind (wpAny_newObj_type (wpAny_bind (m := firstArgMember _ _) (wpAny_of_eq (a := Value.none) (by simp only [firstArgMember]; rfl) (wpAny_newObj_type ?_ (by size_fits)))) (by size_fits)))
  unfold raiseNew
  refine wpAny_bind (wpAny_handled ?_)
  rw [hh]
  exact wpAny_bind (wpAny_pure (wpAny_throw (h _ _ _ ((Kp.push _).trans (Kp.push _)) (Heap.get?_push_size _ rfl) rfl)))
theorem ZNow.keep (N : ZNow z TI TO i1 i2 St1 St2 f a b j k s.heap) {h' : Heap} {B : List Addr} (q : Kp B s.heap h') (hz : z ∉ B) (hI : TI ∉ B) (hO : TO ∉ B) (c1 : St1 j h') (c2 : St2 k h') : ZNow z TI TO i1 i2 St1 St2 f a b j k h' :=
  ⟨q.at_ _ _ hz N.o, q.at_ _ _ hI N.its, q.at_ _ _ hO N.own, c1, c2⟩
variable (S : ZApart z TI TO i1 i2 fp1 fp2) (D1 : Draws prog w A i1 fp1 n P1 St1) (D2 : Draws prog w A i2 fp2 n P2 St2)
/-- a field of the zip is written -/
theorem z_field {x : Value} {m : Nat} {Q : Unit → Shared → Prop} (N : ZNow z TI TO i1 i2 St1 St2 f a b j k s.heap) (hm : m = 0 ∨ m = 1 ∧ x = .bool false) (S : ZApart z TI TO i1 i2 fp1 fp2) (D1 : Draws prog w A i1 fp1 n P1 St1) (D2 : Draws prog w A i2 fp2 n P2 St2)
    (h : ∀ h', Kp [z] s.heap h' → ZNow z TI TO i1 i2 St1 St2 (if m = 0 then x else f) a b j k h' → Q () { s with heap := h' }) : wpAny (model prog w) A (setField (.ref z) m x) Q E s := by
  refine wpAny_setField_rec N.o (by rcases hm with e | ⟨e, _⟩ <;> subst e <;> simp) fun h' hz sb => h h' (.but (by simp) sb) ⟨?_, (sb.2 _ S.zTI).trans N.its, (sb.2 _ S.zTO).trans N.own, D1.frame _ _ _ N.s1 fun c hc o e => (sb.2 c (S.f1 c hc).1).trans e, D2.frame _ _ _ N.s2 fun c hc o e => (sb.2 c (S.f2 c hc).1).trans e⟩
  rcases hm with e | ⟨e, ex⟩
  · subst e; exact hz
  · subst e ex; exact hz
/-- an item of the kept pair is written -/
theorem z_pair {x : Value} {m : Nat} {Q : Unit → Shared → Prop} (N : ZNow z TI TO i1 i2 St1 St2 f a b j k s.heap) (hm : m = 0 ∨ m = 1) (S : ZApart z TI TO i1 i2 fp1 fp2) (D1 : Draws prog w A i1 fp1 n P1 St1) (D2 : Draws prog w A i2 fp2 n P2 St2)
    (h : ∀ h', Kp [TO] s.heap h' → ZNow z TI TO i1 i2 St1 St2 f (if m = 0 then x else a) (if m = 0 then b else x) j k h' → Q () { s with heap := h' }) : wpAny (model prog w) A (updateSeq TO (·.setIfInBounds m x)) Q E s := by
  have sb : Heap.SameBut TO s.heap (s.heap.update TO (Obj.mapSeq (·.setIfInBounds m x))) := .update ..
  refine wpAny_updateSeq N.own rfl (h _ (.but (by simp) sb) ⟨(sb.2 _ S.zTO.symm).trans N.o, (sb.2 _ S.TT.symm).trans N.its, ?_, D1.frame _ _ _ N.s1 fun c hc o e => (sb.2 c (S.f1 c hc).2.1).trans e, D2.frame _ _ _ N.s2 fun c hc o e => (sb.2 c (S.f2 c hc).2.1).trans e⟩)
  rcases hm with q | q <;> subst q <;> exact Heap.get?_update_self _ N.own rfl
/-- zip.__next__ of such a zip: a new pair, or the end of both -/
theorem z_next {R : Fin → Shared → Prop} (hh : A.handled = none) (S : ZApart z TI TO i1 i2 fp1 fp2) (D1 : Draws prog w A i1 fp1 n P1 St1) (D2 : Draws prog w A i2 fp2 n P2 St2) (N : ZNow z TI TO i1 i2 St1 St2 .none a b i i s.heap) (hle : i ≤ n)
    (item : i < n → ∀ x y T h' tk, P1 i x → P2 i y → s.heap.objs.size ≤ T → ZNow z TI TO i1 i2 St1 St2 (rawInt T) x y (i + 1) (i + 1) h' → Duo h' T x y → T < h'.objs.size → Kp [z, TO, i1, i2] s.heap h' → R (.done (.ret (.ref T))) { s with heap := h', toks := tk })
    (stop : i = n → ∀ h' tk e o, (∀ c u, c ∉ [z, TO, i1, i2] → s.heap.get? c = some u → h'.get? c = some u) → h'.get? e = some o → o.cls = .type "StopIteration" → E (.ref e) { s with heap := h', toks := tk }) :
    wpAny (model prog w) A (Builtin.«zip.__next__» ⟨[.ref z], []⟩) R E s := by
  have look : ∀ {x : Value} {m : Nat} {Q : Value → Shared → Prop}, (#[Value.none, .bool false, .bool true, .ref TI, .ref TO] : Array Value)[m]? = some x → Q x s → wpAny (model prog w) A (field (.ref z) m) Q E s := fun e q => wpAny_field N.o rfl e q
  refine wpAny_bind (m := field (.ref z) 2) (look rfl (wpAny_bind (m := field (.ref z) 3) (look rfl (wpAny_bind (wpAny_seqItems N.its rfl (wpAny_bind (m := Builtin.SmallTypes.ownedTupleIsFree (.ref z)) (wpAny_bind (look rfl (wpAny_pure ?_)))))))))
  refine wpAny_bind (wpAny_rule (wpAny_bind (m := field (.ref z) 4) (look rfl (wpAny_bind (z_field N (.inl rfl) S D1 D2 fun g kg G => wpAny_bind ?_)))))
  rw [List.zipIdx_cons, List.zipIdx_cons, List.zipIdx_nil, List.forIn_cons]
  refine wpAny_bind (wpAny_bind (wpAny_onRaise ?_))
  show wpAny _ _ (Builtin.SmallTypes.nextOrEnd _) _ _ _
  have zn : z ∉ [i1] ∧ TI ∉ [i1] ∧ TO ∉ [i1] ∧ z ∉ [i2] ∧ TI ∉ [i2] ∧ TO ∉ [i2] := by simp [S.z1.symm, S.I1, S.O1, S.z2.symm, S.I2, S.O2]
  by_cases hi : i < n
  · -- both have one more
    refine next_some fun _ => D1.item i _ _ _ hi G.s1 fun x h1 t1 px c1 b1 => ?_
    have k1 : Kp [i1] g h1 := .but (by simp) b1
    have N1 : ZNow z TI TO i1 i2 St1 St2 .ellipsis a b (i + 1) i h1 := ⟨k1.at_ _ _ zn.1 G.o, k1.at_ _ _ zn.2.1 G.its, k1.at_ _ _ zn.2.2.1 G.own, c1, D2.frame _ _ _ G.s2 fun c hc o e => (b1.2 c (S.f2 c hc).2.2).trans e⟩
    refine wpAny_bind (wpAny_seqItems (s := { s with heap := h1, toks := t1 }) N1.own rfl (wpAny_bind (z_pair (s := { s with heap := h1, toks := t1 }) N1 (.inl rfl) S D1 D2 fun h2 k2 N2 => wpAny_bind (wpAny_letGo (wpAny_pure ?_)))))
    dsimp only
    rw [List.forIn_cons]
    refine wpAny_bind (wpAny_bind (wpAny_onRaise ?_))
    show wpAny _ _ (Builtin.SmallTypes.nextOrEnd _) _ _ _
    refine next_some fun _ => D2.item i _ _ _ hi N2.s2 fun y h3 t3 py c3 b3 => ?_
    have k3 : Kp [i2] h2 h3 := .but (by simp) b3
    have N3 : ZNow z TI TO i1 i2 St1 St2 .ellipsis x b (i + 1) (i + 1) h3 := ⟨k3.at_ _ _ zn.2.2.2.1 N2.o, k3.at_ _ _ zn.2.2.2.2.1 N2.its, k3.at_ _ _ zn.2.2.2.2.2 N2.own, D1.frame _ _ _ N2.s1 fun c hc o e => (b3.2 c (S.f1 c hc).2.2).trans e, c3⟩
    refine wpAny_bind (wpAny_seqItems (s := { s with heap := h3, toks := t3 }) N3.own rfl (wpAny_bind (z_pair (s := { s with heap := h3, toks := t3 }) N3 (.inr rfl) S D1 D2 fun h4 k4 N4 => wpAny_bind (wpAny_letGo (wpAny_pure ?_)))))
    dsimp only
    rw [List.forIn_nil]
    refine wpAny_pure (wpAny_bind (wpAny_seqItems (s := { s with heap := h4, toks := t3 }) N4.own rfl (wpAny_bind (wpAny_newTuple ?_))))
    have lt1 := Heap.lt_size N4.o
    have N5 : ZNow z TI TO i1 i2 St1 St2 .ellipsis x y (i + 1) (i + 1) (h4.push { cls := .type "tuple", data := .seq #[x, y] }) := N4.keep (s := { s with heap := h4 }) (B := []) (.push _) (by simp) (by simp) (by simp) (D1.frame _ _ _ N4.s1 fun c _ o e => Heap.get?_push_of_some _ e) (D2.frame _ _ _ N4.s2 fun c _ o e => Heap.get?_push_of_some _ e)
    have T0 : Duo (h4.push { cls := .type "tuple", data := .seq #[x, y] }) h4.objs.size x y := Heap.get?_push_size _ rfl
    refine wpAny_bind (m := Builtin.SmallTypes.ownedTupleHandOut (.ref z) (.ref h4.objs.size)) (wpAny_bind (z_field (s := { s with heap := h4.push _, toks := t3 }) N5 (.inl rfl) S D1 D2 fun h6 k6 N6 => z_field (s := { s with heap := h6, toks := t3 }) N6 (.inr ⟨rfl, rfl⟩) S D1 D2 fun h7 k7 N7 => wpAny_pure ?_))
    have nz : h4.objs.size ∉ [z] := by simp; exact Nat.ne_of_gt lt1
    have T7 : Duo h7 h4.objs.size x y := k7.at_ _ _ nz (k6.at_ _ _ nz T0)
    have all : Kp [z, TO, i1, i2] s.heap h4 := (kg.sub (by simp)).trans ((k1.sub (by simp)).trans ((k2.sub (by simp)).trans ((k3.sub (by simp)).trans (k4.sub (by simp)))))
    exact item hi x y h4.objs.size h7 t3 px py all.sz N7 T7 (Heap.lt_size T7) (all.trans ((Kp.push _).trans ((k6.sub (by simp)).trans (k7.sub (by simp)))))
  · -- both are at their end
    have en : i = n := by omega
    refine next_none (D1.done { s with heap := g } _ _ (en ▸ G.s1) fun h1 e x1 ⟨o, ho, hc⟩ => ⟨e, o, rfl, ho, hc, ?_⟩)
    have N1 : ZObj h1 z TI TO .ellipsis := x1 _ _ S.z1.symm G.o
    have c2 : St2 n h1 := D2.frame _ _ _ (en ▸ G.s2) fun c hc o e => x1 c o (S.f2 c hc).2.2 e
    refine wpAny_bind (wpAny_setField_rec (s := { s with heap := h1 }) N1 (by simp) fun h2 _ b2 => ?_)
    have c3 : St2 n h2 := D2.frame _ _ _ c2 fun c hc o e => (b2.2 c (S.f2 c hc).1).trans e
    refine wpAny_bind (wpAny_bind ?_)
    rw [List.drop_succ_cons, List.drop_zero, List.zipIdx_cons, List.zipIdx_nil, List.forIn_cons]
    refine wpAny_bind (wpAny_bind (next_none (D2.done { s with heap := h2 } _ _ c3 fun h3 e3 x3 ⟨o3, ho3, hc3⟩ => ⟨e3, o3, rfl, ho3, hc3, wpAny_pure ?_⟩)))
    dsimp only
    rw [List.forIn_nil]
    refine wpAny_pure (wpAny_bind (wpAny_rule (stops (s := { s with heap := h3 }) hh fun h4 e4 o4 k4 ho4 hc4 => ?_)))
    exact stop en h4 s.toks e4 o4 (fun c o n q => k4.at_ c o (by simp) (x3 c o (fun z => n (by simp [z])) ((b2.2 c fun z => n (by simp [z])).trans (x1 c o (fun z => n (by simp [z])) (kg.at_ c o (fun z => n (by simp at z; simp [z])) q))))) ho4 hc4
/-- next(zip): the two ways -/
theorem z_pyNext {Q : Option Value → Shared → Prop} (hh : A.in1.handled = none) (S : ZApart z TI TO i1 i2 fp1 fp2) (D1 : Draws prog w A.in1 i1 fp1 n P1 St1) (D2 : Draws prog w A.in1 i2 fp2 n P2 St2) (N : ZNow z TI TO i1 i2 St1 St2 .none a b i i s.heap) (hle : i ≤ n)
    (item : i < n → ∀ x y T h' tk, P1 i x → P2 i y → s.heap.objs.size ≤ T → ZNow z TI TO i1 i2 St1 St2 (rawInt T) x y (i + 1) (i + 1) h' → Duo h' T x y → T < h'.objs.size → Kp [z, TO, i1, i2] s.heap h' → Q (some (.ref T)) { s with heap := h', toks := tk })
    (stop : i = n → ∀ h' tk, (∀ c u, c ∉ [z, TO, i1, i2] → s.heap.get? c = some u → h'.get? c = some u) → Q none { s with heap := h', toks := tk }) : wpAny (model prog w) A (pyNext (.ref z)) Q E s := by
  have ty : s.TypeIs (.ref z) "zip" := ⟨_, N.o, rfl⟩
  unfold pyNext
  refine wpAny_bind (wpAny_attempt (wpAny_callSpecial?_slot (name := Str.ofString "__next__") ty F.slot_zip_next (wpAny_call_entry F.slot_zip_next ty F.entry_zip_next (z_next hh S D1 D2 N hle (fun hi x y T h' tk p1 p2 hs N' hT hl kp => ⟨_, rfl, wpAny_pure (item hi x y T h' tk p1 p2 hs N' hT hl kp)⟩) fun he h' tk e o kp ho hc => ?_) (F.args_zip_next_1 _))))
  exact wpAny_bind (wpAny_isInstance (T := "StopIteration") (b := true) ⟨o, ho, hc⟩ isSubtype_stop (wpAny_pure (stop he h' tk kp)))
/-- the new pair is let go by the zip -/
theorem z_letGo {elts : List Expr} {m} {pos : Pos} {T : Addr} {Q : Unit → Shared → Prop} (S : ZApart z TI TO i1 i2 fp1 fp2) (D1 : Draws prog w A i1 fp1 n P1 St1) (D2 : Draws prog w A i2 fp2 n P2 St2) (N : ZNow z TI TO i1 i2 St1 St2 (rawInt T) a b j k s.heap)
    (h : ∀ h', Kp [z] s.heap h' → ZNow z TI TO i1 i2 St1 St2 .none a b j k h' → Q () { s with heap := h' }) : wpAny (model prog w) A (letOwnedTupleGo (.Tuple elts m pos) (.ref z) (.ref T)) Q E s := by
  unfold letOwnedTupleGo
  refine wpAny_bind (wpAny_load N.o ?_)
  dsimp only
  rw [if_pos (by simp)]
  exact wpAny_bind (wpAny_rule (z_field N (.inl rfl) S D1 D2 h))
theorem z_iter {Q : Value → Shared → Prop} (hz : ZObj s.heap z TI TO f) (h : Q (.ref z) s) : wpAny (model prog w) A (pyIter (.ref z)) Q E s :=
  have ty : s.TypeIs (.ref z) "zip" := ⟨_, hz, rfl⟩
  wpAny_pyIter_slot ty F.slot_zip_iter (wpAny_call_entry F.slot_zip_iter ty F.entry_zip_iter (wpAny_pure ⟨_, rfl, "zip", _, ty, F.slot_zip_next.lookup, h⟩) (F.args_zip_iter_1 _))

/-! ### the call zip(a, b, strict=True) -/
theorem st_type (x y : Value) : checkTypeCall "zip" ⟨[x, y], [(Str.ofString "strict", .bool true)]⟩ = pure () := by kernel_rfl
theorem st_new (x y : Value) : checkBuiltinCall "zip.__new__" ⟨[.type "zip", x, y], [(Str.ofString "strict", .bool true)]⟩ = pure () := by kernel_rfl
theorem st_init (o x y : Value) : argsOk "object.__init__" ⟨[o, x, y], [(Str.ofString "strict", .bool true)]⟩ := by unfold argsOk; kernel_rfl
/-- the heap behind it: two iterators, the pair of them, the kept pair, the zip -/
def zHeap (h : Heap) (o p : Obj) : Heap :=
  [o, p, { cls := .type "tuple", data := .seq #[.ref h.objs.size, .ref (h.objs.size + 1)] }, { cls := .type "tuple", data := .seq #[.none, .none] },
    { cls := .type "zip", data := .fields #[.none, .bool false, .bool true, .ref (h.objs.size + 2), .ref (h.objs.size + 3)] }].foldl Heap.push h
theorem zHeap_at (h : Heap) (o p : Obj) (ho : o.isFreed = false) (hp : p.isFreed = false) : ZObj (zHeap h o p) (h.objs.size + 4) (h.objs.size + 2) (h.objs.size + 3) .none ∧ Duo (zHeap h o p) (h.objs.size + 2) (.ref h.objs.size) (.ref (h.objs.size + 1)) ∧
    Duo (zHeap h o p) (h.objs.size + 3) .none .none ∧ (zHeap h o p).get? h.objs.size = some o ∧ (zHeap h o p).get? (h.objs.size + 1) = some p ∧ ∀ c u, h.get? c = some u → (zHeap h o p).get? c = some u := by
  have new : ∀ (g : Heap) (x : Obj) (m : Nat), g.objs.size = m → x.isFreed = false → (g.push x).get? m = some x := fun g x m e f => by subst e; exact Heap.get?_push_size g f
  have old : ∀ {g : Heap} (x : Obj) {c : Addr} {u : Obj}, g.get? c = some u → (g.push x).get? c = some u := fun x _ _ e => Heap.get?_push_of_some x e
  have z : ∀ (g : Heap) (x : Obj) (m : Nat), g.objs.size = m → (g.push x).objs.size = m + 1 := fun g x m e => by rw [Heap.size_push, e]
  have e1 := z h o _ rfl
  have e2 := z _ p _ e1
  have e3 := z _ { cls := .type "tuple", data := .seq #[.ref h.objs.size, .ref (h.objs.size + 1)] } _ e2
  have e4 := z _ { cls := .type "tuple", data := .seq #[.none, .none] } _ e3
  exact ⟨new _ _ _ e4 rfl, old _ (old _ (new _ _ _ e2 rfl)), old _ (new _ _ _ e3 rfl), old _ (old _ (old _ (old _ (new _ _ _ rfl ho)))), old _ (old _ (old _ (new _ _ _ e1 hp))), fun c u e => old _ (old _ (old _ (old _ (old _ e))))⟩
set_option maxHeartbeats 1000000 in
theorem z_made {u v : Value} {o p : Obj} {H1 H2 : Heap → Prop} (B1 : Begins u o H1) (B2 : Begins v p H2) :
    Meets (Builtin.«zip.__new__» ⟨[.type "zip", u, v], [(Str.ofString "strict", .bool true)]⟩) (fun _ R s => H1 s.heap ∧ H2 s.heap ∧ R (.ok (.ret (.ref (s.heap.objs.size + 4)))) { s with heap := zHeap s.heap o p }) :=
  .of_wp fun prog w A R s h => by
    obtain ⟨g, gs, dr, tk, os⟩ := s
    obtain ⟨h1, h2, h⟩ := h
    have no : (Str.ofString "strict" != ("strict" : Str)) = false := by decide +kernel
    have sub := sub_zip
    have first : ∀ {A' : Around} {E' : Value → Shared → Prop} {Q' : Value → Shared → Prop}, Q' (.ref g.objs.size) ⟨g.push o, gs, dr, tk, os⟩ → wpAny (model prog w) A' (pyIter u) Q' E' ⟨g, gs, dr, tk, os⟩ := fun q => B1.iter prog w _ _ _ _ h1 q
    have then_ : ∀ {A' : Around} {E' : Value → Shared → Prop} {Q' : Value → Shared → Prop}, Q' (.ref (g.push o).objs.size) ⟨(g.push o).push p, gs, dr, tk, os⟩ → wpAny (model prog w) A' (pyIter v) Q' E' ⟨g.push o, gs, dr, tk, os⟩ :=
      fun q => B2.iter prog w _ _ _ _ (B2.keeps _ _ h2 fun _ _ e => Heap.get?_push_of_some o e) q
    wp_walk using first, then_
    refine ⟨_, rfl, ?_⟩
    simp only [Heap.size_push, Nat.add_assoc, Nat.reduceAdd]
    exact h
theorem z_call {u v : Value} {o p : Obj} {H1 H2 : Heap → Prop} {Q : Value → Shared → Prop} (B1 : Begins u o H1) (B2 : Begins v p H2) (h1 : H1 s.heap) (h2 : H2 s.heap) (h : Q (.ref (s.heap.objs.size + 4)) { s with heap := zHeap s.heap o p }) :
    wpAny (model prog w) A (call (.type "zip") [u, v] [(Str.ofString "strict", .bool true)]) Q E s :=
  callType_newKw F.called_zip (by decide) (st_type _ _) (st_new _ _) (fun _ => st_init _ _ _) F.entry_zip_new (z_made B1 B2) ⟨h1, h2, ⟨_, (zHeap_at s.heap o p B1.free B2.free).1, rfl⟩, h⟩
end
end De
set_option Elab.async false
set_option linter.all false
set_option maxRecDepth 100000
namespace De
open PySem PySem.Spec PyProof.Rows L2

/-- what is drawn from the value v: the items src tells -/
inductive Dk (K : PySem.W.Frag) : V → (Hp → List V → Prop) → Prop where
  | list (a : Addr) : Dk K (.ref a) (SqL K · a)
  | tup (a : Addr) : Dk K (.ref a) (SqT K · a)
  | str (x : Str) : Dk K (.str x) (fun _ xs => xs = x.cps.toList.map fun c => V.str ⟨#[c]⟩)
/-- such an iterator at its turns -/
structure DK (P : Program) (w : World) (K : PySem.W.Frag) (it : Addr) (fx : List Addr) (src : Hp → List V → Prop) (itr : Nat → Heap → Prop) : Prop where
  obj : ∀ i h, itr i h → ∃ o, h.get? it = some o ∧ ∀ v, o.data ≠ .cell v
  keep : ∀ i h h', itr i h → (∀ o, h.get? it = some o → h'.get? it = some o) → itr i h'
  inj : ∀ (X : Cx) pins s σ H xs ys, X.K = K → Inv X pins σ H s → src H xs → src H ys → xs = ys
  drw : ∀ (X : Cx) pins s σ H xs i (A : Around), X.prog = P → X.w = w → X.K = K → Inv X pins σ H s → itr i s.heap → src H xs → A.handled = none →
    ∃ fp Pv St, Draws P w A it fp xs.length Pv St ∧ St i s.heap ∧ (∀ j h, St j h → itr j h) ∧ (∀ j v x, Pv j v → xs[j]? = some x → RelV x v) ∧ it ∈ fp ∧ ∀ b ∈ fp, b = it ∨ b ∈ fx
theorem dk_list {P : Program} {w : World} {K : PySem.W.Frag} {it a : Addr} (h : a ≠ it) : DK P w K it [a] (SqL K · a) (fun i h => h.IsListIter it a i) where
  obj := fun i h ⟨o, e, _, d⟩ => ⟨o, e, fun v q => by rw [d] at q; cases q⟩
  keep := fun i h h' st k => st.at fun o q => k o q
  inj := fun X pins s σ H xs ys e I h1 h2 => by subst e; exact I.list_inj h1 h2
  drw := fun X pins s σ H xs i A e1 e2 e3 I st hs hh => by
    subst e1 e2 e3
    obtain ⟨its, rv, p, _⟩ := I.list hs
    have hl : its.toArray.size = xs.length := by have := rv.length; simp; omega
    have D := Draws.list (prog := X.prog) (w := X.w) hh it a h its.toArray
    rw [hl] at D
    exact ⟨_, _, _, D, ⟨st, p.isList⟩, fun j h st => st.1, fun j v x hv hx => by
      obtain ⟨u, hu, ru⟩ := rv.get hx
      have hv : its.toArray[j]? = some v := hv
      have hu' : its.toArray[j]? = some u := by simpa using hu
      rw [hu'] at hv; cases hv; exact ru, by simp, fun b hb => by simpa using hb⟩
theorem dk_tup {P : Program} {w : World} {K : PySem.W.Frag} {it a : Addr} (h : a ≠ it) : DK P w K it [a] (SqT K · a) (fun i h => h.IsTupleIter it a i) where
  obj := fun i h ⟨o, e, _, d⟩ => ⟨o, e, fun v q => by rw [d] at q; cases q⟩
  keep := fun i h h' st k => st.at fun o q => k o q
  inj := fun X pins s σ H xs ys e I h1 h2 => by subst e; exact I.tuple_inj h1 h2
  drw := fun X pins s σ H xs i A e1 e2 e3 I st hs hh => by
    subst e1 e2 e3
    obtain ⟨its, rv, p, _⟩ := I.tuple hs
    have hl : its.toArray.size = xs.length := by have := rv.length; simp; omega
    have D := Draws.tuple (prog := X.prog) (w := X.w) hh it a h its.toArray
    rw [hl] at D
    exact ⟨_, _, _, D, ⟨st, p⟩, fun j h st => st.1, fun j v x hv hx => by
      obtain ⟨u, hu, ru⟩ := rv.get hx
      have hv : its.toArray[j]? = some v := hv
      have hu' : its.toArray[j]? = some u := by simpa using hu
      rw [hu'] at hv; cases hv; exact ru, by simp, fun b hb => by simpa using hb⟩
theorem dk_str {P : Program} {w : World} {K : PySem.W.Frag} {it : Addr} {x : Str} {t : Tok} : DK P w K it [] (fun _ xs => xs = x.cps.toList.map fun c => V.str ⟨#[c]⟩) (fun i h => h.IsStrIter it (strIterType x) x t i) where
  obj := fun i h ⟨o, e, _, d⟩ => ⟨o, e, fun v q => by rw [d] at q; cases q⟩
  keep := fun i h h' ⟨o, e, c, d⟩ k => ⟨o, k o e, c, d⟩
  inj := fun X pins s σ H xs ys e I h1 h2 => by rw [h1, h2]
  drw := fun X pins s σ H xs i A e1 e2 e3 I st hs hh => by
    subst e1 e2 e3
    have D := Draws.text (prog := X.prog) (w := X.w) hh it x t
    have hl : x.cps.size = xs.length := by rw [hs]; simp
    rw [hl] at D
    refine ⟨_, _, _, D, st, fun j h st => st, fun j v y hv hx => ?_, by simp, fun b hb => by simpa using hb⟩
    obtain ⟨c, u, hc, rfl⟩ := hv
    rw [hs, List.getElem?_map] at hx
    have hc' : x.cps.toList[j]? = some c := by simpa using hc
    rw [hc'] at hx
    cases hx
    exact ⟨u, rfl⟩
/-- what zip(.., strict=True) gives: new pairs -/
def ItB (s1 s2 : Hp → List V → Prop) : It :=
  ⟨fun i H => ∃ xs ys : List V, s1 H xs ∧ s2 H ys ∧ xs.length = ys.length ∧ i < xs.length,
    fun i H v H' => ∃ T x y, v = .ref T ∧ H T = none ∧ H' = upd H T (.tup [x, y]) ∧ (∀ xs, s1 H xs → xs[i]? = some x) ∧ ∀ ys, s2 H ys → ys[i]? = some y,
    fun i H => ∃ xs ys : List V, s1 H xs ∧ s2 H ys ∧ xs.length = i ∧ ys.length = i⟩
/-- the cells apart: z, TI, TO, i1, i2 -/
def cells (z TI TO i1 i2 : Addr) : List Addr := [z, TI, TO, i1, i2]
structure Ap (z TI TO i1 i2 : Addr) (fx1 fx2 : List Addr) : Prop where
  nd : (cells z TI TO i1 i2).Nodup
  o1 : ∀ b ∈ fx1, b ∉ cells z TI TO i1 i2
  o2 : ∀ b ∈ fx2, b ∉ cells z TI TO i1 i2
theorem Ap.z {z TI TO i1 i2 : Addr} {fx1 fx2 fp1 fp2 : List Addr} (a : Ap z TI TO i1 i2 fx1 fx2) (h1 : ∀ b ∈ fp1, b = i1 ∨ b ∈ fx1) (h2 : ∀ b ∈ fp2, b = i2 ∨ b ∈ fx2) : ZApart z TI TO i1 i2 fp1 fp2 := by
  have nd := a.nd
  simp only [cells, List.nodup_cons, List.mem_cons, List.not_mem_nil, or_false, not_or] at nd
  obtain ⟨⟨n1, n2, n3, n4⟩, ⟨n5, n6, n7⟩, ⟨n8, n9⟩, n10, _⟩ := nd
  refine ⟨fun e => n1 e.symm, fun e => n2 e.symm, fun e => n5 e.symm, fun e => n3 e.symm, fun e => n4 e.symm, n8, n9, n6, n7, fun b hb => ?_, fun b hb => ?_⟩
  · rcases h1 b hb with e | e
    · rw [e]; exact ⟨fun q => n3 q.symm, fun q => n8 q.symm, n10⟩
    · have := a.o1 b e
      simp only [cells, List.mem_cons, List.not_mem_nil, or_false, not_or] at this
      exact ⟨this.1, this.2.2.1, this.2.2.2.2⟩
  · rcases h2 b hb with e | e
    · rw [e]; exact ⟨fun q => n4 q.symm, fun q => n9 q.symm, fun q => n10 q.symm⟩
    · have := a.o2 b e
      simp only [cells, List.mem_cons, List.not_mem_nil, or_false, not_or] at this
      exact ⟨this.1, this.2.2.1, this.2.2.2.1⟩
/-- the zip's state ahead of turn i -/
structure ZT (z TI TO i1 i2 : Addr) (t1 t2 : Nat → Heap → Prop) (i : Nat) (h : Heap) : Prop where
  o : ZObj h z TI TO .none
  its : Duo h TI (.ref i1) (.ref i2)
  own : ∃ a b, Duo h TO a b
  t1 : t1 i h
  t2 : t2 i h
theorem turn_zipB {P : Program} {w : World} {K : PySem.W.Frag} {elts : List Expr} {kk : Nat} {tpos : Pos} {z TI TO i1 i2 : Addr} {fx1 fx2 : List Addr} {s1 s2 : Hp → List V → Prop} {t1 t2 : Nat → Heap → Prop}
    (a : Ap z TI TO i1 i2 fx1 fx2) (K1 : DK P w K i1 fx1 s1 t1) (K2 : DK P w K i2 fx2 s2 t2) : Turn P w K (.Tuple elts kk tpos) (ItB s1 s2) (cells z TI TO i1 i2) z (ZT z TI TO i1 i2 t1 t2) := by
  have sub : ∀ b ∈ [z, TO, i1, i2], b ∈ cells z TI TO i1 i2 := by simp [cells]
  refine { mem := by simp [cells], obj := fun i h st c hc => ?_, keep := fun i h h' st k => ?_, item := ?_, done := ?_, self := fun A i s Q E st h => z_iter st.o h }
  · obtain ⟨_, _, own⟩ := st.own
    simp only [cells, List.mem_cons, List.not_mem_nil, or_false] at hc
    rcases hc with e | e | e | e | e <;> subst e
    · exact ⟨_, st.o, fun _ q => by cases q⟩
    · exact ⟨_, st.its, fun _ q => by cases q⟩
    · exact ⟨_, own, fun _ q => by cases q⟩
    · exact K1.obj _ _ st.t1
    · exact K2.obj _ _ st.t2
  · obtain ⟨x, y, own⟩ := st.own
    have k' : ∀ b, b ∈ [z, TI, TO, i1, i2] → ∀ o, h.get? b = some o → h'.get? b = some o := k
    exact ⟨k' z (by simp) _ st.o, k' TI (by simp) _ st.its, ⟨x, y, k' TO (by simp) _ own⟩, K1.keep _ _ _ st.t1 (k' i1 (by simp)), K2.keep _ _ _ st.t2 (k' i2 (by simp))⟩
  · intro X hP hw hK hc i pins s σ H E I hf st ⟨xs, ys, hx, hy, hl, hi⟩
    subst hP hw hK
    obtain ⟨x0, y0, own⟩ := st.own
    obtain ⟨fp1, P1, S1, D1, c1, b1, r1, _, f1⟩ := K1.drw X pins s σ H xs i X.A.in1 rfl rfl rfl I st.t1 hx (I.ok.hd hc)
    obtain ⟨fp2, P2, S2, D2, c2, b2, r2, _, f2⟩ := K2.drw X pins s σ H ys i X.A.in1 rfl rfl rfl I st.t2 hy (I.ok.hd hc)
    rw [← hl] at D2
    have S := a.z f1 f2
    have young : ∀ c ∈ cells z TI TO i1 i2, c < s.heap.objs.size := fun c hc => by
      simp only [cells, List.mem_cons, List.not_mem_nil, or_false] at hc
      rcases hc with e | e | e | e | e <;> subst e
      · exact Heap.lt_size st.o
      · exact Heap.lt_size st.its
      · exact Heap.lt_size own
      · obtain ⟨o, q, _⟩ := K1.obj _ _ st.t1; exact Heap.lt_size q
      · obtain ⟨o, q, _⟩ := K2.obj _ _ st.t2; exact Heap.lt_size q
    have ex := List.getElem?_eq_getElem hi
    have ey := List.getElem?_eq_getElem (l := ys) (i := i) (by omega)
    refine z_pyNext (I.ok.hd hc) S D1 D2 ⟨st.o, st.its, own, c1, c2⟩ (Nat.le_of_lt hi) (fun _ u v T h' tk p1 p2 hT N hD hlt kp => ⟨_, rfl, z_letGo S D1.of_in1 D2.of_in1 (s := { s with heap := h', toks := tk }) N fun g kg G => ?_⟩) fun e => absurd e (Nat.ne_of_lt hi)
    have nT : T ∉ [z] := by
      have := young z (by simp [cells])
      simp; exact fun e => absurd hT (by rw [e]; exact Nat.not_le.mpr this)
    have new : ObjOk X.prog X.w (upd H T (.tup [xs[i], ys[i]])) g T (.tup [xs[i], ys[i]]) :=
      ⟨by show 2 ≤ sizeLine; decide, [u, v], .cons (r1 _ _ _ p1 ex) (.cons (r2 _ _ _ p2 ey) .nil), ⟨_, kg.at_ _ _ nT hD, rfl, _, rfl⟩⟩
    have I1 := I.turnedNew (t' := tk) (ch := cells z TI TO i1 i2) (fun c o n q => kg.at_ c o (fun m => n (sub c (by simp at m; simp [m]))) (kp.at_ c o (fun m => n (sub c m)) q)) hf hT new
    refine ⟨.ref T, _, I1, rfl, ⟨T, _, _, rfl, I.hok.fresh hT, rfl, fun l hl' => by rw [K1.inj X pins s σ H l xs rfl I hl' hx]; exact ex, fun l hl' => by rw [K2.inj X pins s σ H l ys rfl I hl' hy]; exact ey⟩, ⟨G.o, G.its, ⟨_, _, G.own⟩, b1 _ _ G.s1, b2 _ _ G.s2⟩, fun c hcm => ?_⟩
    rw [upd_ne (Nat.ne_of_lt (Nat.lt_of_lt_of_le (young c hcm) hT))]
    exact (hf c hcm).1
  · intro X hP hw hK hc i pins s σ H E I hf st ⟨xs, ys, hx, hy, e1, e2⟩
    subst hP hw hK
    obtain ⟨x0, y0, own⟩ := st.own
    obtain ⟨fp1, P1, S1, D1, c1, b1, r1, _, f1⟩ := K1.drw X pins s σ H xs i X.A.in1 rfl rfl rfl I st.t1 hx (I.ok.hd hc)
    obtain ⟨fp2, P2, S2, D2, c2, b2, r2, _, f2⟩ := K2.drw X pins s σ H ys i X.A.in1 rfl rfl rfl I st.t2 hy (I.ok.hd hc)
    rw [e1] at D1
    rw [e2] at D2
    exact z_pyNext (I.ok.hd hc) (a.z f1 f2) D1 D2 ⟨st.o, st.its, own, c1, c2⟩ (Nat.le_refl _) (fun q => absurd q (Nat.lt_irrefl _)) fun _ h' tk kp => ⟨rfl, I.turnedL (t' := tk) (ch := cells z TI TO i1 i2) (fun c o n q => kp c o (fun m => n (sub c m)) q) hf⟩
/-- the beginning of a drawn value -/
theorem dk_begins {X : Cx} {pins : List (Addr × Obj)} {s : Shared} {σ : L2.St} {H : Hp} {v : V} {u : Value} {src : Hp → List V → Prop} {xs : List V} (d : Dk X.K v src) (I : Inv X pins σ H s) (r : RelV v u) (hs : src H xs) :
    ∃ o Hb fx, Begins u o Hb ∧ Hb s.heap ∧ (∀ b ∈ fx, b < s.heap.objs.size) ∧ ∀ it, (∀ b ∈ fx, b ≠ it) → ∃ itr, DK X.prog X.w X.K it fx src itr ∧ ∀ h : Heap, h.get? it = some o → itr 0 h := by
  cases d with
  | list a =>
    cases r
    obtain ⟨its, rv, p, _⟩ := I.list hs
    exact ⟨_, _, [a], begins_list a its.toArray, p.isList, fun b hb => by rw [List.mem_singleton.mp hb]; exact p.lt, fun it hn => ⟨_, dk_list (hn a (by simp)), fun h e => ⟨_, e, rfl, rfl⟩⟩⟩
  | tup a =>
    cases r
    obtain ⟨its, rv, p, _⟩ := I.tuple hs
    exact ⟨_, _, [a], begins_tuple a its.toArray, p, fun b hb => by rw [List.mem_singleton.mp hb]; obtain ⟨o, e, _⟩ := id p; exact Heap.lt_size e, fun it hn => ⟨_, dk_tup (hn a (by simp)), fun h e => ⟨_, e, rfl, rfl⟩⟩⟩
  | str x =>
    obtain ⟨t, rfl⟩ := r
    exact ⟨_, fun _ => True, [], begins_text x t, True.intro, (fun b hb => by cases hb), fun it hn => ⟨_, dk_str, fun h e => ⟨_, e, rfl, rfl⟩⟩⟩
def iZipB (K : PySem.W.Frag) (ta : TA) : TI := fun σ H R => ta σ H fun vs H1 => ∃ a b s1 s2 xs ys, vs = [a, b] ∧ Dk K a s1 ∧ Dk K b s2 ∧ s1 H1 xs ∧ s2 H1 ys ∧ R (ItB s1 s2) H1
/-- a built-in class called with keywords -/
theorem call_tyK {M : Model} {A : Around} {E : Value → Shared → Prop} {s : Shared} {pos : Pos} {T : String} {args : List (Bool × Sem Value)} {keywords : List (Option Str × Sem Value)} {Q : Value → Shared → Prop}
    (plain : (args.any (·.1) || keywords.any (·.1.isNone)) = false) (h : wpAny M A (evalArgs (.type T) true args keywords) (fun a t => wpAny M A (call (.type T) a.pos a.kw) Q E t) E s) : wpAny M A (callWith pos (.type T) [] args keywords) Q E s :=
  PySem.W.callWith_of (P := fun _ => True) plain (fun h _ => ⟨Keeper.machine, .inr (.inl rfl), PySem.W.Looks.of_pure rfl⟩) (wpAny_mono h (fun a t q => ⟨trivial, q⟩) fun _ _ q => q)
theorem pi_zipB {X : Cx} {e e2 : Expr} {ta : TA} {p pos tpos kp kp2 : Pos} {kj} {elts : List Expr} {kk : Nat} {sx : Str} (hsx : sx = Str.ofString "strict") (hg : Gl X "zip") (hm : X.mg "zip" = none) (ha : PA X [e, e2] ta)
    (hs : starEach [e, e2] X.env = (false, eval e X.env) :: starEach [e2] X.env := by rfl) (hpl : (backTo pos (starEach [e, e2] X.env)).any (·.1) = false := by rfl) (he : backTo pos (starEach [e, e2] X.env) = (false, eval e X.env) :: backTo pos (starEach [e2] X.env) := by rfl) :
    PI X (.Tuple elts kk tpos) (.Call (.Name "zip" p) [e, e2] [⟨some sx, .Constant (.bool true) kj kp, kp2⟩] pos) (iZipB X.K ta) := by
  subst hsx
  refine ⟨fun pins s σ H R I h => wpAny_Call_Name_kw (ld_blt I hg hm PyProof.Rows.boot_zip (call_tyK (by rw [hpl]; rfl) ?_))⟩
  rw [he]
  refine evalArgs_kwB rfl ?_
  rw [← he]
  refine thn (ha.run pos pins s σ H _ I h) fun us s1 ⟨vs, H1, I1, r1, a, b, g1, g2, xs, ys, ex, d1, d2, hx, hy, q⟩ => kws_cons (Constant_bool (kws_nil ?_))
  subst ex
  obtain ⟨u1, u2, rfl, ra, rb⟩ := vals2 r1
  obtain ⟨o1, Hb1, fx1, B1, p1, l1, k1⟩ := dk_begins d1 I1 ra hx
  obtain ⟨o2, Hb2, fx2, B2, p2, l2, k2⟩ := dk_begins d2 I1 rb hy
  obtain ⟨hz, hI, hO, hb1, hb2, hk⟩ := zHeap_at s1.heap o1 o2 B1.free B2.free
  refine z_call B1 B2 p1 p2 (z_iter hz ?_)
  obtain ⟨t1, D1, b1⟩ := k1 s1.heap.objs.size fun b hb => Nat.ne_of_lt (l1 b hb)
  obtain ⟨t2, D2, b2⟩ := k2 (s1.heap.objs.size + 1) fun b hb => Nat.ne_of_lt (Nat.lt_succ_of_lt (l2 b hb))
  have young : ∀ c ∈ cells (s1.heap.objs.size + 4) (s1.heap.objs.size + 2) (s1.heap.objs.size + 3) s1.heap.objs.size (s1.heap.objs.size + 1), s1.heap.objs.size ≤ c := fun c hc => by
    simp only [cells, List.mem_cons, List.not_mem_nil, or_false] at hc
    rcases hc with e | e | e | e | e
    · exact e ▸ Nat.le_add_right _ 4
    · exact e ▸ Nat.le_add_right _ 2
    · exact e ▸ Nat.le_add_right _ 3
    · exact Nat.le_of_eq e.symm
    · exact e ▸ Nat.le_add_right _ 1
  have nd : ∀ m : Nat, (cells (m + 4) (m + 2) (m + 3) m (m + 1)).Nodup := fun m => by simp [cells]
  exact ⟨_, _, _, _, H1, rfl, I1.kept (t' := s1.toks) hk, turn_zipB ⟨nd _, fun b hb m => absurd (young b m) (Nat.not_le.mpr (l1 b hb)), fun b hb m => absurd (young b m) (Nat.not_le.mpr (l2 b hb))⟩ D1 D2, ⟨hz, hI, ⟨_, _, hO⟩, b1 _ hb1, b2 _ hb2⟩, fun c hc => I1.fpOk (young c hc) (I1.hok.fresh (young c hc)), q⟩
end De
set_option Elab.async false
set_option linter.all false
set_option maxRecDepth 100000
namespace De
open PySem PySem.Spec PyProof.Rows L2

/-! ### zip(a, b, strict=True) as a source -/
def drD : D → Option (List D)
  | .lst _ ds => some ds
  | .rol ds => some ds
  | .tup ds => some ds
  | .str s => some ((s.cps.toList.map fun c => (⟨#[c]⟩ : Str)).map D.str)
  | _ => none
def srcD (K : PySem.W.Frag) (d : D) (v : V) : Hp → List V → Prop := match v with
  | .ref a => (match d with
    | .tup _ => (SqT K · a)
    | _ => (SqL K · a))
  | .str x => fun _ xs => xs = x.cps.toList.map fun c => V.str ⟨#[c]⟩
  | _ => fun _ _ => False
theorem own_src {C : Cn} {W : Wd} {H : Hp} {v : V} {d : D} {es : List D} (o : Own C.K W H v (frz d) []) (h : drD (frz d) = some es) : Dk C.K v (srcD C.K (frz d) v) ∧ ∃ xs, srcD C.K (frz d) v H xs ∧ Owns C.K W H xs es [] := by
  cases d with
  | lst b ds =>
    cases h
    obtain ⟨a, vs, rfl, h1, h2⟩ := own_listF (C := C) (show Own _ _ _ _ (.lst false (frzs ds)) [] from o)
    exact ⟨.list a, vs, h1, h2⟩
  | rol ds =>
    cases h
    obtain ⟨a, vs, rfl, h1, h2⟩ := own_rol (C := C) (show Own _ _ _ _ (.rol (frzs ds)) [] from o)
    exact ⟨.list a, vs, h1, h2⟩
  | tup ds =>
    cases h
    obtain ⟨a, vs, rfl, h1, h2⟩ := own_tupF (C := C) (show Own _ _ _ _ (.tup (frzs ds)) [] from o)
    exact ⟨.tup a, vs, h1, h2⟩
  | str s =>
    have h : some _ = some es := h
    cases h
    have e : v = .str s := o.1
    subst e
    refine ⟨.str s, _, rfl, ?_⟩
    have := owns_mk (K := C.K) (W := W) (H := H) (s.cps.toList.map fun c => (⟨#[c]⟩ : Str))
    rw [List.map_map] at this
    exact this
  | _ => cases h
def prs : List D → List D → List D
  | a :: as, b :: bs => .tup [a, b] :: prs as bs
  | _, _ => []
theorem prs_len : ∀ {as bs : List D}, as.length = bs.length → (prs as bs).length = as.length
  | [], bs, _ => by cases bs <;> rfl
  | a :: as, [], h => by cases h
  | a :: as, b :: bs, h => by show (prs as bs).length + 1 = as.length + 1; rw [prs_len (by simpa using h)]
theorem prs_get : ∀ {as bs : List D} {i : Nat} {a b : D}, as[i]? = some a → bs[i]? = some b → (prs as bs)[i]? = some (.tup [a, b])
  | [], _, _, _, _, h, _ => by simp at h
  | a :: as, [], _, _, _, _, h => by simp at h
  | a :: as, b :: bs, 0, _, _, h1, h2 => by simp at h1 h2; subst h1 h2; rfl
  | a :: as, b :: bs, i + 1, _, _, h1, h2 => by
    show (prs as bs)[i]? = _
    exact prs_get (by simpa using h1) (by simpa using h2)
def zpD (d e : D) : Res (List D) := match drD (frz d) with
  | none => .bad
  | some as => match drD (frz e) with
    | none => .bad
    | some bs => if as.length = bs.length ∧ as.length ≤ 16777216 then .ok (prs as bs) else .bad
def zpA (fs : Env → Res (List D)) : Env → Res (List D) := fun ρ => (fs ρ).bind fun ds => match ds with
  | [d, e] => zpD d e
  | _ => .bad
theorem Own.to {K : PySem.W.Frag} {T : List (Addr × Str)} {W W' : Wd} {H : Hp} {v : V} {d : D} {A : List Addr} (o : Own K W H v d A) (w : ∀ a, W' a → W a) : Own K W' H v d A := o.ext (.refl (T := T) H) (fun a h => .inl (w a h)) _
theorem src_zp {C : Cn} {v1 v2 : V} {d e : D} {as bs : List D} (h1 : drD (frz d) = some as) (h2 : drD (frz e) = some bs) (hl : as.length = bs.length) (hz : as.length ≤ 16777216) :
    Src C [(v1, frz d), (v2, frz e)] (ItB (srcD C.K (frz d) v1) (srcD C.K (frz e) v2)) (prs as bs) where
  sz := by rw [prs_len hl, ← sl_line]; exact hz
  go := fun i W H p hi => by
    obtain ⟨_, xs, hx, ox⟩ := own_src (C := C) (p (v1, frz d) (by simp)) h1
    obtain ⟨_, ys, hy, oy⟩ := own_src (C := C) (p (v2, frz e) (by simp)) h2
    rw [prs_len hl] at hi
    exact ⟨xs, ys, hx, hy, by rw [ox.length, oy.length, hl], by rw [ox.length]; exact hi⟩
  yld := fun i W H x H' p y hi => by
    obtain ⟨_, xs, hx, ox⟩ := own_src (C := C) (p (v1, frz d) (by simp)) h1
    obtain ⟨_, ys, hy, oy⟩ := own_src (C := C) (p (v2, frz e) (by simp)) h2
    obtain ⟨T, u, w, rfl, hT, rfl, f1, f2⟩ := y
    obtain ⟨a, e1, o1⟩ := ox.getV (f1 xs hx)
    obtain ⟨b, e2, o2⟩ := oy.getV (f2 ys hy)
    have x : Ext C.T H (upd H T (.tup [u, w])) := .new hT
    refine ⟨x, _, prs_get e1 e2, T, [u, w], rfl, ?_, SqT.of upd_same⟩
    exact ⟨u, [w], [], [], rfl, rfl, o1.ext x (fun a h => .inl h) _, w, [], [], [], rfl, rfl, o2.ext x (fun a h => .inl h) _, rfl, rfl⟩
  stop := fun i W H p hi => by
    obtain ⟨_, xs, hx, ox⟩ := own_src (C := C) (p (v1, frz d) (by simp)) h1
    obtain ⟨_, ys, hy, oy⟩ := own_src (C := C) (p (v2, frz e) (by simp)) h2
    rw [prs_len hl] at hi
    exact ⟨xs, ys, hx, hy, by rw [ox.length, hi], by rw [oy.length, ← hl, hi]⟩
theorem own_sized {X : Cx} {T : List (Addr × Str)} {W : Wd} {H : Hp} {v : V} {d : D} {es : List D} (sz : Sized X.K H) (o : Own X.K W H v (frz d) []) (h : drD (frz d) = some es) (hs : ∀ s, d ≠ .str s) : es.length ≤ 16777216 := by
  rw [sl_line]
  cases d with
  | lst b ds =>
    cases h
    obtain ⟨a, vs, rfl, h1, h2⟩ := own_listF (C := Cn.of X T) (show Own _ _ _ _ (.lst false (frzs ds)) [] from o)
    rw [← h2.length]; exact sz.l _ _ h1
  | rol ds =>
    cases h
    obtain ⟨a, vs, rfl, h1, h2⟩ := own_rol (C := Cn.of X T) (show Own _ _ _ _ (.rol (frzs ds)) [] from o)
    rw [← h2.length]; exact sz.l _ _ h1
  | tup ds =>
    cases h
    obtain ⟨a, vs, rfl, h1, h2⟩ := own_tupF (C := Cn.of X T) (show Own _ _ _ _ (.tup (frzs ds)) [] from o)
    rw [← h2.length]; exact sz.t _ _ h1
  | str s => exact absurd rfl (hs s)
  | _ => cases h
def iAny (K : PySem.W.Frag) (te : TE) : TI := fun σ H R => te σ H fun x H1 => (∃ a, x = .ref a ∧ (∃ xs, SqL K H1 a xs) ∧ R (Itl K a) H1) ∨ (∃ a, x = .ref a ∧ (∃ xs, SqT K H1 a xs) ∧ R (Itt K a) H1) ∨ ∃ s, x = .str s ∧ R (Its s) H1
section
variable {X : Cx} {T : List (Addr × Str)} {M : List Nat} {Wx : WX} {pos : Pos} {tg a b : Expr}
/-- an iterator of one cell, just made -/
theorem one_cell {pins : List (Addr × Obj)} {s : Shared} {σ : L2.St} {H : Hp} {R : It → Hp → Prop} {J : It} {tn : Nat → Heap → Prop} {o : Obj} (I : Inv X pins σ H s) (Tn : Turn X.prog X.w X.K tg J [s.heap.objs.size] s.heap.objs.size tn) (st : tn 0 (s.heap.push o)) (q : R J H) :
    PIE X pins σ tg R (.ref s.heap.objs.size) { s with heap := s.heap.push o } :=
  pi_one (tk := s.toks) I _ Tn st q
theorem pi_any {l : Expr} {tl : TE} (hl : PE X l tl) : PI X tg l (iAny X.K tl) := ⟨fun pins s σ H R I h => thn (hl.run pins s σ H _ I h) fun v t ⟨x, G, J, r, q⟩ => by
  rcases q with ⟨a, e, ⟨xs, look⟩, q⟩ | ⟨a, e, ⟨xs, look⟩, q⟩ | ⟨z, e, q⟩ <;> subst e
  · cases r
    obtain ⟨_, _, p, _⟩ := J.list look
    exact wpAny_pyIter_list p.isList (one_cell J (turn_list a _) ⟨_, Heap.get?_push_size _ rfl, rfl, rfl⟩ q)
  · cases r
    obtain ⟨its, _, p, _⟩ := J.tuple look
    exact wpAny_pyIter_tuple (items := its.toArray) p (one_cell J (turn_tuple a _) ⟨_, Heap.get?_push_size _ rfl, rfl, rfl⟩ q)
  · obtain ⟨tk, rfl⟩ := r
    exact wpAny_pyIter_strU (one_cell J (turn_str _ z tk (strIterType z) (by unfold strIterType; split <;> first | exact .inl rfl | exact .inr rfl)) ⟨_, Heap.get?_push_size _ rfl, rfl, rfl⟩ q)⟩
theorem src_str {C : Cn} {x : Str} (h : x.length ≤ 16777216) : Src C [] (Its x) ((x.cps.toList.map fun c => (⟨#[c]⟩ : Str)).map D.str) where
  sz := by rw [← sl_line, List.length_map, List.length_map]; exact h
  go := fun i W H p hi => by show i < x.cps.size; simpa using hi
  yld := fun i W H v H' p y hi => by
    obtain ⟨e, c, hc, rfl⟩ := y
    subst e
    exact ⟨.refl _, .str ⟨#[c]⟩, by rw [List.getElem?_map, List.getElem?_map]; rw [show x.cps.toList[i]? = some c from by simpa using hc]; rfl, rfl, rfl⟩
  stop := fun i W H p hi => by
    show x.cps.size ≤ i
    rw [hi]; simp
/-- what any iterable yields -/
def itD (d : D) : Res (List D) := match d with
  | .str s => if szOk s.length = true then .ok ((s.cps.toList.map fun c => (⟨#[c]⟩ : Str)).map D.str) else .bad
  | .lst _ ds => .ok (frzs ds)
  | .rol ds => .ok (frzs ds)
  | .tup ds => .ok (frzs ds)
  | _ => .bad
/-- for .. in e, whatever e is -/
theorem di_it {f : Env → Res D} (h : DE X T M Wx a f) : DI X T M Wx tg a (itm itD f) := by
  refine pi_weak (pi_any (pe_sized h)) fun σ H R ⟨ρ, W, r, p⟩ => ⟨ρ, W, r, (Post.bindI r.al p).mono fun v H1 ⟨d, x, o, q⟩ sz => ?_⟩
  have fin : ∀ {ds : List D}, (frz d = .lst false (frzs ds) ∨ frz d = .rol (frzs ds)) → PostI (Cn.of X T) W H1 (.ok (frzs ds)) R (fun c o H' => Wx c o σ H') → ∃ a, v = .ref a ∧ (∃ xs, SqL X.K H1 a xs) ∧ R (Itl X.K a) H1 := by
    intro ds e q
    obtain ⟨p, vs, e2, h1, h2⟩ := own_seqL (C := Cn.of X T) e o
    refine ⟨p, e2, ⟨vs, h1⟩, q _ _ [(.ref p, frz d)] (.refl _) (fun z hz => ?_) (src_list (C := Cn.of X T) e (sz.l _ _ h1) h1 h2)⟩
    rw [List.mem_singleton.mp hz, ← e2]; exact o
  cases d with
  | lst b ds => exact .inl (fin (.inl rfl) q)
  | rol ds => exact .inl (fin (.inr rfl) q)
  | tup ds =>
    obtain ⟨p, vs, e, h1, h2⟩ := own_tupF (C := Cn.of X T) (show Own _ _ _ _ (.tup (frzs ds)) [] from o)
    refine .inr (.inl ⟨p, e, ⟨vs, h1⟩, q _ _ [(.ref p, .tup (frzs ds))] (.refl _) (fun z hz => ?_) (src_tup (C := Cn.of X T) (sz.t _ _ h1) h1 h2)⟩)
    rw [List.mem_singleton.mp hz, ← e]; exact o
  | str s =>
    have q : PostI (Cn.of X T) W H1 (if szOk s.length = true then .ok ((s.cps.toList.map fun c => (⟨#[c]⟩ : Str)).map D.str) else .bad) R _ := q
    split at q
    · rename_i hz
      exact .inr (.inr ⟨s, o.1, q _ _ [] (.refl _) (fun z hz => by cases hz) (src_str (C := Cn.of X T) (of_decide_eq_true hz))⟩)
    · exact q.elim
  | _ => exact q.elim
/-- zip(a, b, strict=True) -/
theorem di_zipB {p tpos kp kp2 : Pos} {kj} {elts : List Expr} {kk : Nat} {sx : Str} {fs : Env → Res (List D)} (hg : Gl X "zip") (hm : X.mg "zip" = none) (ha : DA X T M Wx [a, b] fs) (hsx : sx = Str.ofString "strict" := by rfl)
    (hs : starEach [a, b] X.env = (false, eval a X.env) :: starEach [b] X.env := by rfl) (hpl : (backTo pos (starEach [a, b] X.env)).any (·.1) = false := by rfl) (he : backTo pos (starEach [a, b] X.env) = (false, eval a X.env) :: backTo pos (starEach [b] X.env) := by rfl) :
    DI X T M Wx (.Tuple elts kk tpos) (.Call (.Name "zip" p) [a, b] [⟨some sx, .Constant (.bool true) kj kp, kp2⟩] pos) (zpA fs) := by
  refine pi_weak (pi_zipB hsx hg hm ha.1 hs hpl he) fun σ H R ⟨ρ, W, r, q⟩ => ⟨ρ, W, r, ?_⟩
  unfold zpA at q
  cases e : fs ρ with
  | ex e' => rw [e] at q; exact q
  | bad => rw [e] at q; exact q
  | ok ds =>
    rw [e] at q
    intro vs H1 A x n nd o
    have al := r.al
    match ds, q, o with
    | [d, e'], q, o =>
      obtain ⟨v1, v2, A1, A2, rfl, rfl, o1, o2⟩ := owns_two (C := Cn.of X T) o
      have f1 : Own X.K W H1 v1 (frz d) [] := o1.frz (fun a h => .inl h) _ fun a ha z => n a (List.mem_append_left _ ha) (al a z)
      have f2 : Own X.K W H1 v2 (frz e') [] := o2.frz (fun a h => .inl h) _ fun a ha z => n a (List.mem_append_right _ ha) (al a z)
      have q : PostI (Cn.of X T) W H (zpD d e') R _ := q
      unfold zpD at q
      cases h1 : drD (frz d) with
      | none => rw [h1] at q; exact q.elim
      | some as =>
      rw [h1] at q
      cases h2 : drD (frz e') with
      | none => rw [h2] at q; exact q.elim
      | some bs =>
      rw [h2] at q
      have q : PostI (Cn.of X T) W H (if as.length = bs.length ∧ as.length ≤ 16777216 then .ok (prs as bs) else .bad) R _ := q
      split at q
      · rename_i hz
        obtain ⟨k1, xs, hx, ox⟩ := own_src (C := Cn.of X T) f1 h1
        obtain ⟨k2, ys, hy, oy⟩ := own_src (C := Cn.of X T) f2 h2
        refine ⟨v1, v2, _, _, xs, ys, rfl, k1, k2, hx, hy, q _ _ [(v1, frz d), (v2, frz e')] x (fun z hz => ?_) (src_zp (C := Cn.of X T) h1 h2 hz.1 hz.2)⟩
        rcases List.mem_cons.mp hz with e | e
        · subst e; exact f1
        · rw [List.mem_singleton.mp e]; exact f2
      · exact q.elim
    | [], q, o => exact q.elim
    | [_], q, o => exact q.elim
    | _ :: _ :: _ :: _, q, o => exact q.elim
end
end De
set_option Elab.async false
set_option linter.all false
set_option maxRecDepth 100000
namespace De
open PySem PySem.Spec PyProof.Rows L2

/-! ### a, b = x, y -/
section
variable {X : Cx} {T : List (Addr × Str)} {M : List Nat} {Wx : WX} {pos : Pos} {a b : Expr}
theorem ds_par {i j : Nat} {x y : Str} {px py pt : Pos} {kt k2 pt2} {fs : Env → Res (List D)} (M : List Nat) (hc : X.calm = true) (hN : X.N.Nodup) (hi : X.N[i]? = some x) (hj : X.N[j]? = some y) (hij : i ≠ j)
    (hx : X.env.scope.names.lookup x = some .local) (hy : X.env.scope.names.lookup y = some .local) (ha : DA X T M Wx [a, b] fs)
    (hw : swappedStores [.Tuple [.Name x px, .Name y py] kt pt] (.Tuple [a, b] k2 pt2) X.env = pure (some [x, y]))
    (hs : swapsWithSole [.Tuple [.Name x px, .Name y py] kt pt] (.Tuple [a, b] k2 pt2) pos.line X.env = pure false := by rfl) :
    DS X T Wx (.Assign [.Tuple [.Name x px, .Name y py] kt pt] (.Tuple [a, b] k2 pt2) pos) (parS M i j fs) :=
  ps_weak (ps_par hc hN hi hj hij hx hy ha.1 hw hs) fun E σ H h => par_read h
end

/-! ### a dict of the module, texts by texts -/
structure TabS (K : PySem.W.Frag) (w : World) (a : Addr) (kvs : List (Str × Str)) : Prop where
  at_ : ∃ es n, KDict K w a es n
  get : ∀ z, ∃ r, PySem.W.nsIn K a z = some r ∧ match kvs.lookup z with
    | some t => ∃ tk, r = some (.str t tk)
    | none => r = none
def entS (e : DictEntry) : Option (Str × Str) := match e.key with
  | .str x _ => (match e.val with
    | .str y _ => some (x, y)
    | _ => none)
  | _ => none
def tabB (K : PySem.W.Frag) (a : Addr) (kvs : List (Str × Str)) : Bool := match K.lookup a with
  | some ⟨_, _, .dict es _, _⟩ => decide (es.toList.map entS = kvs.map some)
  | _ => false
theorem look_ents : ∀ {l : List DictEntry} {kvs : List (Str × Str)} (z : Str), l.map entS = kvs.map some → match kvs.lookup z with
    | some t => ∃ e tk, l.find? (·.key.isStr z) = some e ∧ e.val = .str t tk
    | none => l.find? (·.key.isStr z) = none ∧ l.any (·.refKey) = false
  | [], [], z, _ => ⟨rfl, rfl⟩
  | [], _ :: _, z, h => by cases h
  | _ :: _, [], z, h => by cases h
  | e :: l, (k, t) :: kvs, z, h => by
    have h1 : entS e :: l.map entS = some (k, t) :: kvs.map some := h
    injection h1 with h2 h3
    have ih := look_ents z h3
    unfold entS at h2
    split at h2
    · rename_i x tk ek
      split at h2
      · rename_i y tv ev
        have h2 := Option.some.inj h2
        have hx : x = k := congrArg Prod.fst h2
        have hy : y = t := congrArg Prod.snd h2
        subst hx hy
        by_cases hz : x = z
        · subst hz
          have q1 : e.key.isStr x = true := by rw [ek]; simp [Value.isStr]
          rw [show List.lookup x ((x, y) :: kvs) = some y from by simp [List.lookup]]
          exact ⟨e, tv, by rw [List.find?_cons, q1], ev⟩
        · have q1 : e.key.isStr z = false := by rw [ek]; simp [Value.isStr, hz]
          have q2 : List.lookup z ((x, y) :: kvs) = kvs.lookup z := by
            have : (z == x) = false := by simpa using fun h => hz h.symm
            simp [List.lookup, this]
          rw [q2, List.find?_cons, q1]
          cases e2 : kvs.lookup z with
          | some t2 => rw [e2] at ih; exact ih
          | none =>
            rw [e2] at ih
            refine ⟨ih.1, ?_⟩
            have q3 : e.refKey = false := by simp [DictEntry.refKey, ek]
            rw [List.any_cons, q3, ih.2]; rfl
      · cases h2
    · cases h2
theorem tabS_ok {K : PySem.W.Frag} {w : World} {a : Addr} {kvs : List (Str × Str)} (h : tabB K a kvs = true) (hk : ∃ es n, KDict K w a es n) : TabS K w a kvs := by
  refine ⟨hk, fun z => ?_⟩
  obtain ⟨es, n, kd⟩ := hk
  unfold tabB at h
  rw [kd.at_] at h
  have h := of_decide_eq_true h
  have l := look_ents z h
  unfold PySem.W.nsIn
  rw [kd.at_]
  dsimp only
  cases e : kvs.lookup z with
  | some t =>
    rw [e] at l
    obtain ⟨en, tk, h1, h2⟩ := l
    rw [h1]
    exact ⟨_, rfl, tk, by rw [h2]⟩
  | none =>
    rw [e] at l
    rw [l.1, l.2]
    exact ⟨_, rfl, rfl⟩
/-- TAB.get(k, x) -/
def tgetA (kvs : List (Str × Str)) (fk fx : Env → Res D) : Env → Res D := fun ρ => (fk ρ).bind fun k => match k with
  | .str z => (fx ρ).bind fun x => .ok (match kvs.lookup z with
    | some t => .str t
    | none => frz x)
  | _ => .bad
section
variable {X : Cx} {T : List (Addr × Str)} {M : List Nat} {Wx : WX} {apos cpos op : Pos} {e f : Expr}
theorem de_tget {x : Str} {a : Addr} {kvs : List (Str × Str)} {fk fx : Env → Res D} (hg : Gl X x) (hm : X.mg x = some (.ref a)) (TS : TabS X.K X.w a kvs) (he : DE X T M Wx e fk) (hf : DE X T M Wx f fx) (hd : (x == ("__debug__" : Str)) = false := by decide)
    (hbase : attributeBase (.Name x op) "get" X.env (eval (.Name x op) X.env) = eval (.Name x op) X.env := by rfl)
    (few : ((backTo cpos (starEach [e, f] X.env)).all (fun x => !x.1) && (backToKw cpos (keywordEach [] X.env)).all (fun x => x.1.isSome)
      && decide (([e, f] : List Expr).length + ([] : List Keyword).length + (if ([] : List Keyword).isEmpty then 0 else 1) < 30)) = true := by rfl)
    (hline : (apos.endLine == cpos.line) = true := by rfl)
    (trees : backTo cpos (starEach [e, f] X.env) = [(false, eval e X.env), (false, eval f X.env)] := by rfl) :
    DE X T M Wx (.Call (.Attribute (.Name x op) "get" apos) [e, f] [] cpos) (tgetA kvs fk fx) := by
  refine ⟨fun pins s σ H Q I ⟨ρ, W, r, p⟩ => ?_⟩
  refine wpAny_Call_method hbase few hline PySem.F.plainAttrs_dict PySem.F.slot_dict_get PySem.F.type_dict_get (ld_glob I hg hm ?_ hd)
  obtain ⟨⟨es, n, kd⟩, hget⟩ := TS
  have mof : ∀ {h : Heap}, X.K.In h → _ := fun {h} k => PySem.W.mapOf_K (prog := X.prog) (w := X.w) (h := h) k kd.at_ kd.lit
  refine ⟨(mof I.kIn).typeIs, fun b q => ?_, ?_⟩
  · cases q
    exact ⟨_, I.kIn _ _ kd.at_, rfl⟩
  rw [trees]
  unfold tgetA at p
  have p1 : Post (Cn.of X T) W H (fk ρ) (fun y H2 => ∃ d, Ext T H H2 ∧ Own X.K W H2 y (frz d) [] ∧ Post (Cn.of X T) W H2 (match d with
    | .str z => (fx ρ).bind fun x => .ok (match kvs.lookup z with
      | some t => .str t
      | none => frz x)
    | _ => .bad) Q _) _ := Post.bind r.al p
  refine Calls.callWith_builtin rfl (Calls.evalArgs_plain (Calls.spliced_cons (thn (he.run pins s σ H _ I ⟨ρ, W, r, p1⟩) fun u s1 ⟨y, H1, I1, ry, d, x1, o1, p2⟩ => ?_)))
  cases d with
  | str z =>
    have ey : y = .str z := o1.1
    subst ey
    have r1 := r.ext1 x1
    have p3 := Post.bind (r := fx ρ) (g := fun x => .ok (match kvs.lookup z with
      | some t => .str t
      | none => frz x)) r1.al p2
    refine Calls.spliced_cons (thn (hf.run pins s1 σ H1 _ I1 ⟨ρ, W, r1, p3⟩) fun u2 s2 ⟨y2, H2, I2, ry2, d2, x2, o2, p4⟩ => Calls.spliced_nil ?_)
    obtain ⟨t, rfl⟩ := ry
    obtain ⟨rr, e1, e2⟩ := hget z
    refine call_meetsIn PySem.F.slot_dict_get (mof I2.kIn).typeIs PySem.F.entry_dict_get (PySem.F.args_dict_get_3 _ _ _) (meets_dict_get_default (PySem.strKind X.prog X.w) _ (PySem.strKind_is X.prog X.w z t) kd.low u2) ⟨_, mof I2.kIn, ?_⟩
    rw [PySem.W.find_K kd.at_ e1]
    cases hl : kvs.lookup z with
    | some t2 =>
      rw [hl] at e2 p4
      obtain ⟨tk, e2⟩ := e2
      subst e2
      exact ⟨.str t2, H2, I2.tok _, ⟨_, rfl⟩, Post.same (C := Cn.of X T) p4 ⟨rfl, rfl⟩⟩
    | none =>
      rw [hl] at e2 p4
      subst e2
      exact ⟨y2, H2, I2.tok _, ry2, Post.same (C := Cn.of X T) p4 o2⟩
  | _ => exact p2.elim
end
end De
set_option Elab.async false
set_option linter.all false
set_option maxRecDepth 100000
namespace De
open PySem PySem.Spec PyProof.Rows L2

abbrev vr (i : Nat) : Env → Res D := fun ρ => get ρ i
abbrev cI (i : Int) : Env → Res D := fun _ => .ok (.int i)
abbrev cS (s : Str) : Env → Res D := fun _ => .ok (.str s)
abbrev cB (b : Bool) : Env → Res D := fun _ => .ok (.bl b)
abbrev cN : Env → Res D := fun _ => .ok .non
abbrev cT (n : String) : Env → Res D := fun _ => .ok (.ty n)
abbrev WxF : WX := fun _ _ _ _ => False
theorem dt_of {X : Cx} {T : List (Addr × Str)} {M : List Nat} {Wx : WX} {e : Expr} {f : Env → Res Bool} (h : PW X e (tDB (Cn.of X T) M Wx f)) : DT X T M Wx e f := h.pt
theorem takesF {X : Cx} : Takes X WxF := fun u s' ⟨a, B, sI, pins, σ, H, cls, d, e, I, nb, up, sky, na, os, ag, w⟩ => w.elim
section
variable {X : Cx} {T : List (Addr × Str)} {M : List Nat} {Wx : WX} {pos op apos cpos : Pos} {e : Expr}
theorem ds_app {x : Str} {i : Nat} {f : Env → Res D} (M : List Nat) (hi : X.N[i]? = some x) (he : DE X T M Wx e f) (hv : Vis X.env.scope x := by first | exact Or.inl rfl | exact Or.inr (Or.inl rfl) | exact Or.inr (Or.inr rfl)) (hd : (x == ("__debug__" : Str)) = false := by decide) (hcd : (x == ("__classdict__" : Str)) = false := by decide)
    (hbase : attributeBase (.Name x op) "append" X.env (eval (.Name x op) X.env) = eval (.Name x op) X.env := by rfl)
    (hfew : ((backTo cpos (starEach [e] X.env)).all (fun x => !x.1) && (backToKw cpos (keywordEach [] X.env)).all (fun x => x.1.isSome)
      && decide (([e] : List Expr).length + ([] : List Keyword).length + (if ([] : List Keyword).isEmpty then 0 else 1) < 30)) = true := by rfl)
    (hline : (apos.endLine == cpos.line) = true := by rfl) (hst : starEach [e] X.env = (false, eval e X.env) :: starEach [] X.env := by rfl)
    (hs : swapsWith (.Call (.Attribute (.Name x op) "append" apos) [e] [] cpos) none pos.line X.env = pure false := by rfl) :
    DS X T Wx (.Expr (.Call (.Attribute (.Name x op) "append" apos) [e] [] cpos) pos) (mutS M i f gApp) :=
  ds_append (pe_bm PySem.F.plainAttrs_list PySem.F.slot_list_append PySem.F.type_list_append mt_append (pe_var hi hv hd hcd) (pa_cons he pa_nil hst) hbase hfew hline hst rfl) hs
end
section
variable {P : Program} {w : World} {K : PySem.W.Frag} {mg : Str → Option Value} {base : Heap} {T : List (Addr × Str)}
/-- a def that calls itself, by fuel -/
def recF (s : (List D → Res D) → Env → Out) (n : Nat) : Nat → List D → Res D
  | 0 => fun _ => .bad
  | k + 1 => runF (s (recF s n k)) n
theorem FnS.mkR {x : Str} {params : Arguments} {body : List Stmt} {scope : Scope} {N ps : List Str} {k n : Nat} {s : (List D → Res D) → Env → Out} (G : ∃ fd, FunD K x x params body scope [] [] (He.ga K x) fd) (m : mg x = some (.ref (He.ga K x))) (S : FnScope N ps scope)
    (hbi : ∀ (kV doc pm : Value) (an : Option Addr) (cdv ct : Value) (us : List Value), us.length = ps.length → bindArgs (PySem.W.fnOf x x params body scope .none kV doc pm an cdv ct) ⟨us, []⟩ = pure (ps.zip us)) (hn : N.length = n)
    (hb : ∀ (j : Nat) (F : List D → Res D), FnS P w K mg base T x ps j F → k ≤ j → ∀ (cdv : Value) (A : Around) (outer : List PySem.Env) (s0 : Shared) (H : Hp) (E : XK), Room j (A.deeper (envOfC x scope s0.heap.objs.size (He.ga K x) cdv)) → DSs (cxOf (L2.CX P w) P w K mg base N x scope (He.ga K x) cdv A outer s0 H E) T (fun c o _ H => E c o H) body (s F))
    (r : Nat) : FnS P w K mg base T x ps (k + r + 1) (recF s n r) := by
  have G0 := G
  obtain ⟨fd, G⟩ := G
  subst hn
  have hpl : ps.length ≤ N.length := by rw [← congrArg List.length S.pre, List.length_take]; exact Nat.min_le_right ..
  induction r with
  | zero =>
    exact ⟨⟨fd, fn_ok (s := badS) G S (fun cdv A outer s0 H E hr => ⟨fun pins s σ H' D I ⟨ρ, He, Wf, P', rl, q⟩ => q.elim⟩) fun ds _ => .inr rfl, G.bindsN hbi, G.look⟩, m, G.kp⟩
  | succ r ih => exact FnS.mk1 G0 m S hbi rfl (hb _ _ ih (by omega))
end
end De
set_option Elab.async false
set_option linter.all false
set_option maxRecDepth 100000
namespace De
open PySem PySem.Spec PyProof.Rows L2

theorem owns_intsD {K : PySem.W.Frag} {W : Wd} {H : Hp} : ∀ ns : List Int, Owns K W H (ns.map V.int) (ns.map D.int) []
  | [] => ⟨rfl, rfl⟩
  | s :: ss => ⟨.int s, ss.map V.int, [], [], rfl, rfl, ⟨rfl, rfl⟩, owns_intsD ss⟩
/-- the promise of the law at a script -/
theorem law_sp {K : PySem.W.Frag} {T : List (Addr × Str)} {mg : Str → Option Value} {F : List D → Res D} {H : Hp} {a : Addr} {ns : List Int} {E : XK} (hS : SqL K H a (ns.map V.int)) (hT : LamX.Tabs T H) (hF : F [.rol (ns.map D.int)] = .ok (.bl true)) :
    spD ⟨K, T, mg⟩ 1 F [.ref a] H (fun v _ => v = .bl true) E := by
  refine ⟨[.rol (ns.map D.int)], fun _ => False, fun _ h => h.elim, hT, Owns.one ⟨a, ns.map V.int, rfl, owns_intsD ns, rfl, hS.imp (fun r => ⟨r, fun z => z⟩) .inr⟩, rfl, ?_⟩
  rw [hF]
  exact fun v H' A x n nd o => o.1
theorem cx_no {P : Program} {w : World} {outer : List PySem.Env} {H : Hp} {s : Shared} {u : Value} {s' : Shared} (h : L2.CX P w outer H s (fun _ _ _ => False) u s') : False := by
  obtain ⟨a, B, H', cls, d, e1, e2, e3, e4, e5, e6, e7, e8⟩ := h
  exact e8
end De
set_option Elab.async false
set_option linter.all false
set_option maxRecDepth 100000
namespace De
open PySem PySem.Spec PyProof.Rows L2

/-! ### reckoning with the readings -/
theorem rb_ok {α β : Type} (a : α) (f : α → Res β) : (Res.ok a).bind f = f a := rfl
theorem get0 (d : D) (ρ : Env) : get (some d :: ρ) 0 = .ok (frz d) := rfl
theorem getS (o : Option D) (ρ : Env) (n : Nat) : get (o :: ρ) (n + 1) = get ρ n := rfl
theorem lift_some {α : Type} (a : α) : lift (some a) = .ok a := rfl
theorem frz_non : frz .non = .non := rfl
theorem frz_bl (b : Bool) : frz (.bl b) = .bl b := rfl
theorem frz_int (b : Int) : frz (.int b) = .int b := rfl
theorem frz_str (b : Str) : frz (.str b) = .str b := rfl
theorem frz_ty (b : String) : frz (.ty b) = .ty b := rfl
theorem frz_lst (o : Bool) (ds : List D) : frz (.lst o ds) = .lst false (frzs ds) := rfl
theorem frz_tup (ds : List D) : frz (.tup ds) = .tup (frzs ds) := rfl
theorem frz_rol (ds : List D) : frz (.rol ds) = .rol (frzs ds) := rfl
theorem frzs_nil : frzs [] = [] := rfl
theorem frzs_cons (d : D) (ds : List D) : frzs (d :: ds) = frz d :: frzs ds := rfl
theorem frzs_app (ds es : List D) : frzs (ds ++ es) = frzs ds ++ frzs es := by rw [frzs_eq, frzs_eq, frzs_eq, List.map_append]
theorem frzs_ints (ns : List Int) : frzs (ns.map D.int) = ns.map D.int := by rw [frzs_eq, List.map_map]; rfl
theorem frzs_strs (ns : List Str) : frzs (ns.map D.str) = ns.map D.str := by rw [frzs_eq, List.map_map]; rfl
theorem frzs_len (ds : List D) : (frzs ds).length = ds.length := by rw [frzs_eq, List.length_map]
theorem afs_cons (d : D) (ds : List D) : af.afs (d :: ds) = (af d && af.afs ds) := rfl
theorem afs_ints (ns : List Int) : af.afs (ns.map D.int) = true := by induction ns with
  | nil => rfl
  | cons n ns ih => show (true && af.afs (ns.map D.int)) = true; rw [ih]; rfl
theorem afs_strs (ns : List Str) : af.afs (ns.map D.str) = true := by induction ns with
  | nil => rfl
  | cons n ns ih => show (true && af.afs (ns.map D.str)) = true; rw [ih]; rfl
theorem frzs_bls {α : Type} (p : α → Bool) (l : List α) : frzs (l.map fun x => D.bl (p x)) = l.map fun x => D.bl (p x) := by rw [frzs_eq, List.map_map]; rfl
theorem bls_map {α : Type} (p : α → Bool) : ∀ l : List α, bls (l.map fun x => D.bl (p x)) = some (l.map p)
  | [] => rfl
  | a :: l => by show (bls (l.map fun x => D.bl (p x))).map (p a :: ·) = _; rw [bls_map p l]; rfl
theorem dAll_map {α : Type} (o : Bool) (p : α → Bool) (l : List α) : dAll (.lst o (l.map fun x => D.bl (p x))) = some (.bl (l.all p)) := by
  show (bls (l.map fun x => D.bl (p x))).map _ = _
  rw [bls_map]
  show some (D.bl ((l.map p).all id)) = _
  rw [List.all_map]; rfl
theorem dAny_map {α : Type} (o : Bool) (p : α → Bool) (l : List α) : dAny (.lst o (l.map fun x => D.bl (p x))) = some (.bl (l.any p)) := by
  show (bls (l.map fun x => D.bl (p x))).map _ = _
  rw [bls_map]
  show some (D.bl ((l.map p).any id)) = _
  rw [List.any_map]; rfl
theorem all_tt {α : Type} (l : List α) : (l.all fun _ => true) = true := by simp
theorem env0_eq (n : Nat) (ds : List D) : env0 n ds = ds.map some ++ List.replicate (n - ds.length) none := rfl
/-- a comprehension whose test is always yes -/
theorem lcGo_map {tg : Tg} {tt : Env → Res Bool} {te : Env → Res D} {ρ : Env} (f : D → D) : ∀ (ds : List D), (∀ d ∈ ds, ∃ ρ', tg.bind d ρ = some ρ' ∧ tt ρ' = .ok true ∧ te ρ' = .ok (f d)) → lcGo tg tt te ρ ds = some (ds.map f)
  | [], _ => rfl
  | d :: ds, h => by
    obtain ⟨ρ', h1, h2, h3⟩ := h d (List.mem_cons_self ..)
    have ih := lcGo_map f ds fun d hd => h d (List.mem_cons_of_mem _ hd)
    unfold lcGo
    rw [h1]
    dsimp only
    rw [h2]
    dsimp only
    rw [h3, ih]
    rfl
/-- a comprehension with a test -/
theorem lcGo_filter {tg : Tg} {tt : Env → Res Bool} {te : Env → Res D} {ρ : Env} (p : D → Bool) (f : D → D) : ∀ (ds : List D), (∀ d ∈ ds, ∃ ρ', tg.bind d ρ = some ρ' ∧ tt ρ' = .ok (p d) ∧ (p d = true → te ρ' = .ok (f d))) → lcGo tg tt te ρ ds = some ((ds.filter p).map f)
  | [], _ => rfl
  | d :: ds, h => by
    obtain ⟨ρ', h1, h2, h3⟩ := h d (List.mem_cons_self ..)
    have ih := lcGo_filter p f ds fun d hd => h d (List.mem_cons_of_mem _ hd)
    unfold lcGo
    rw [h1]
    dsimp only
    rw [h2]
    cases hp : p d with
    | true =>
      dsimp only
      rw [h3 hp, ih, List.filter_cons, if_pos hp]
      rfl
    | false =>
      dsimp only
      rw [ih, List.filter_cons, if_neg (by rw [hp]; decide)]
theorem lcGo_mapped {α : Type} {tg : Tg} {tt : Env → Res Bool} {te : Env → Res D} {ρ : Env} (emb g : α → D) (l : List α) (h : ∀ a ∈ l, ∃ ρ', tg.bind (emb a) ρ = some ρ' ∧ tt ρ' = .ok true ∧ te ρ' = .ok (g a)) : lcGo tg tt te ρ (l.map emb) = some (l.map g) := by
  induction l with
  | nil => rfl
  | cons d ds ih =>
    obtain ⟨ρ', h1, h2, h3⟩ := h d (List.mem_cons_self ..)
    rw [List.map_cons]
    unfold lcGo
    rw [h1]
    dsimp only
    rw [h2]
    dsimp only
    rw [h3, ih fun a ha => h a (List.mem_cons_of_mem _ ha)]
    rfl
theorem lcGo_rng {tg : Tg} {tt : Env → Res Bool} {te : Env → Res D} {ρ : Env} (g : Nat → D) (lo : Int) (n : Nat) (h : ∀ i, i < n → ∃ ρ', tg.bind (.int (lo + (i : Nat))) ρ = some ρ' ∧ tt ρ' = .ok true ∧ te ρ' = .ok (g i)) : lcGo tg tt te ρ (rngD lo n) = some ((List.range n).map g) :=
  lcGo_mapped (fun i : Nat => D.int (lo + (i : Nat))) g (List.range n) fun i hi => h i (List.mem_range.mp hi)
theorem dIx_lst (xs : List D) (i : Int) : dIx (.lst false xs) (.int i) = L2.atI xs i := rfl
theorem dIx_rol (xs : List D) (i : Int) : dIx (.rol xs) (.int i) = L2.atI xs i := rfl
theorem dIx_tup (xs : List D) (i : Int) : dIx (.tup xs) (.int i) = L2.atI xs i := rfl
theorem dIx_str (z : Str) (i : Int) : dIx (.str z) (.int i) = if szOk z.length then (L2.atI z.cps.toList i).map fun c => D.str ⟨#[c]⟩ else none := rfl
theorem strsD_map : ∀ l : List Str, strsD (l.map D.str) = some l
  | [] => rfl
  | a :: l => by show (strsD (l.map D.str)).map (a :: ·) = _; rw [strsD_map l]; rfl
theorem intsD_map : ∀ l : List Int, intsD (l.map D.int) = some l
  | [] => rfl
  | a :: l => by show (intsD (l.map D.int)).map (a :: ·) = _; rw [intsD_map l]; rfl
theorem cutL_from {α : Type} (xs : List α) (k : Nat) : cutL xs (some (k : Int)) none = xs.drop k := by
  unfold cutL
  rw [HT.sIx_nat, HT.sIx_none]
  by_cases h : k ≤ xs.length
  · rw [Nat.min_eq_left h, List.take_of_length_le (by rw [List.length_drop]; omega)]
  · rw [Nat.min_eq_right (by omega), List.drop_of_length_le (Nat.le_refl _), List.drop_of_length_le (by omega)]; simp
theorem cutL_to {α : Type} (xs : List α) (k : Nat) : cutL xs none (some (k : Int)) = xs.take k := by
  unfold cutL
  rw [HT.sIx_nat, HT.sIx_none, List.drop_zero, Nat.sub_zero]
  by_cases h : k ≤ xs.length
  · rw [Nat.min_eq_left h]
  · rw [Nat.min_eq_right (by omega), List.take_of_length_le (Nat.le_refl _), List.take_of_length_le (by omega)]
theorem dSl_from (xs : List D) (k : Nat) : dSl (.lst false xs) (some (k : Int)) none = some (.lst true (xs.drop k)) := by
  show some (D.lst true (cutL xs (some (k : Int)) none)) = _
  rw [cutL_from]
theorem dSl_1 (xs : List D) : dSl (.lst false xs) (some 1) none = some (.lst true (xs.drop 1)) := dSl_from xs 1
theorem prs_map {α : Type} (f g : α → D) : ∀ l : List α, prs (l.map f) (l.map g) = l.map fun a => .tup [f a, g a]
  | [] => rfl
  | a :: l => by show D.tup [f a, g a] :: prs (l.map f) (l.map g) = _; rw [prs_map f g l]; rfl
/-- a loop without an early end: the state told by a -/
theorem forGo_fold {α : Type} {tg : Tg} {body : Env → Out} (env : α → Env) (step : α → D → α) : ∀ (ds : List D) (a : α), (∀ (pre : List D) (d : D) (post : List D), ds = pre ++ d :: post → ∃ ρ1, tg.bind d (env (pre.foldl step a)) = some ρ1 ∧ (body ρ1 = .nx (env (step (pre.foldl step a) d)) ∨ body ρ1 = .ct (env (step (pre.foldl step a) d)))) → forGo tg body ds (env a) = .nx (env (ds.foldl step a))
  | [], _, _ => rfl
  | d :: ds, a, h => by
    obtain ⟨ρ1, h1, h2⟩ := h [] d ds rfl
    unfold forGo
    rw [show tg.bind d (env a) = some ρ1 from h1]
    have ih := forGo_fold env step ds (step a d) fun pre e post he => h (d :: pre) e post (by rw [he]; rfl)
    rcases h2 with h2 | h2
    · dsimp only
      rw [show body ρ1 = .nx (env (step a d)) from h2]
      exact ih
    · dsimp only
      rw [show body ρ1 = .ct (env (step a d)) from h2]
      exact ih
/-- a loop by an invariant -/
theorem forGo_inv {tg : Tg} {body : Env → Out} (I : List D → Env → Prop) : ∀ (ds pre : List D) (ρ : Env), I pre ρ → (∀ (pre : List D) (d : D) (ρ : Env), I pre ρ → d ∈ ds → ∃ ρ1 ρ2, tg.bind d ρ = some ρ1 ∧ (body ρ1 = .nx ρ2 ∨ body ρ1 = .ct ρ2) ∧ I (pre ++ [d]) ρ2) → ∃ ρ', forGo tg body ds ρ = .nx ρ' ∧ I (pre ++ ds) ρ'
  | [], pre, ρ, hi, _ => ⟨ρ, rfl, by rw [List.append_nil]; exact hi⟩
  | d :: ds, pre, ρ, hi, h => by
    obtain ⟨ρ1, ρ2, h1, h2, h3⟩ := h pre d ρ hi (List.mem_cons_self ..)
    obtain ⟨ρ', e, hj⟩ := forGo_inv I ds (pre ++ [d]) ρ2 h3 fun pre e ρ hi he => h pre e ρ hi (List.mem_cons_of_mem _ he)
    refine ⟨ρ', ?_, by rw [List.append_assoc] at hj; exact hj⟩
    unfold forGo
    rw [h1]
    dsimp only
    rcases h2 with h2 | h2
    · rw [h2]; exact e
    · rw [h2]; exact e
theorem forGo_all {tg : Tg} {body : Env → Out} (I : List D → Env → Prop) (all : List D) {ρ : Env} (hi : I [] ρ) (h : ∀ (pre : List D) (d : D) (post : List D) (ρ : Env), I pre ρ → all = pre ++ d :: post → ∃ ρ1 ρ2, tg.bind d ρ = some ρ1 ∧ (body ρ1 = .nx ρ2 ∨ body ρ1 = .ct ρ2) ∧ I (pre ++ [d]) ρ2) :
    ∃ ρ', forGo tg body all ρ = .nx ρ' ∧ I all ρ' := by
  have key : ∀ (ds pre : List D) (ρ : Env), all = pre ++ ds → I pre ρ → ∃ ρ', forGo tg body ds ρ = .nx ρ' ∧ I all ρ' := by
    intro ds
    induction ds with
    | nil => intro pre ρ e hi; rw [List.append_nil] at e; subst e; exact ⟨ρ, rfl, hi⟩
    | cons d ds ih =>
      intro pre ρ e hi
      obtain ⟨ρ1, ρ2, h1, h2, h3⟩ := h pre d ds ρ hi e
      obtain ⟨ρ', e2, hj⟩ := ih (pre ++ [d]) ρ2 (by rw [e, List.append_assoc]; rfl) h3
      refine ⟨ρ', ?_, hj⟩
      unfold forGo
      rw [h1]
      dsimp only
      rcases h2 with h2 | h2
      · rw [h2]; exact e2
      · rw [h2]; exact e2
  exact key all [] ρ rfl hi
end De
set_option Elab.async false
set_option linter.all false
set_option maxRecDepth 100000
namespace Cm
open PySem PySem.Spec PyProof.Rows L2 De
def tab_FORMS : List (Str × Str) := [("put", "nnw"), ("take", "nn"), ("right", "nnw"), ("tear", "nn"), ("join", "nn"), ("turn", "n"), ("strike", "n"), ("doubt", "w"), ("trust", "w"), ("alike", "ww")]
def e1_are_marks : De.Env → Res D :=
    (op2 dIn (vr 2) (cS "abcdefghijklmnopqrstuvwxyz"))
def s_are_marks : De.Env → Out :=
    (retS (andV (chn dLe dLe (cI 1) (calA (g1 dLen) (consA (vr 0) nilA)) (vr 1)) (calA (g1 dAll) (consA (lcA (itm itD (vr 0)) (.one 2) yesB e1_are_marks) nilA))))
def F_are_marks : List D → Res D := runF s_are_marks 3
def e1_deed_text : De.Env → Res D :=
    (calA (g1 dStr) (consA (vr 1) nilA))
def s_deed_text : De.Env → Out :=
    (seqS (ifS (tst (op2 dEq (op2 dIx (vr 0) (cI 0)) (cS "found"))) (retS (strM dJoin (cS " ") (op2 dAdd (tupA (consA (cS "found") (consA (op2 dIx (vr 0) (cI 2)) nilA))) (op2 dIx (vr 0) (cI 1))))) nilS)
    (retS (strM dJoin (cS " ") (lcA (itm itD (vr 0)) (.one 1) yesB e1_deed_text))))
def F_deed_text : List D → Res D := runF s_deed_text 2
def e1_number_in : De.Env → Res D :=
    (op2 dIn (vr 1) (cS "0123456789"))
def s_number_in : De.Env → Out :=
    (seqS (ifS (orB (notB (tst (chn dLe dLe (cI 1) (calA (g1 dLen) (consA (vr 0) nilA)) (cI 9)))) (notB (tst (calA (g1 dAll) (consA (lcA (itm itD (vr 0)) (.one 1) yesB e1_number_in) nilA))))) badS nilS)
    (seqS (ifS (andB (tst (op2 dEq (op2 dIx (vr 0) (cI 0)) (cS "0"))) (tst (op2 dNe (vr 0) (cS "0")))) badS nilS)
    (retS (calA (g2 dInt10) (consA (vr 0) (consA (cI 10) nilA))))))
def F_number_in : List D → Res D := runF s_number_in 2
def s_thing_in : De.Env → Out :=
    (seqS (ifS (tst (op2 dEq (vr 1) (cS "n"))) (retS (fnA F_number_in [] (consA (vr 0) nilA))) nilS)
    (seqS (ifS (notB (tst (fnA F_are_marks [] (consA (vr 0) (consA (cI 8) nilA))))) badS nilS)
    (retS (vr 0))))
def F_thing_in : List D → Res D := runF s_thing_in 2
def e1_things_in : De.Env → Res D :=
    (fnA F_thing_in [] (consA (vr 2) (consA (vr 3) nilA)))
def s_things_in : De.Env → Out :=
    (seqS (ifS (tst (op2 dNe (calA (g1 dLen) (consA (vr 0) nilA)) (calA (g1 dLen) (consA (vr 1) nilA)))) badS nilS)
    (retS (calA (g1 dTup) (consA (lcA (zpA (consA (vr 0) (consA (vr 1) nilA))) (.tup [2, 3]) yesB e1_things_in) nilA))))
def F_things_in : List D → Res D := runF s_things_in 4
def s_read_deed : De.Env → Out :=
    (seqS (asgS [0] 1 (strM dSplit (vr 0) (cS " ")))
    (seqS (ifS (andB (tst (op2 dEq (op2 dIx (vr 1) (cI 0)) (cS "found"))) (tst (op2 dGt (calA (g1 dLen) (consA (vr 1) nilA)) (cI 1)))) (seqS (asgS [1] 2 (fnA F_things_in [] (consA (slA (vr 1) (prtE (cI 1)) prtN) (consA (op2 dMul (cS "w") (op2 dSub (calA (g1 dLen) (consA (vr 1) nilA)) (cI 1))) nilA))))
    (retS (tupA (consA (cS "found") (consA (slA (vr 2) (prtE (cI 1)) prtN) (consA (op2 dIx (vr 2) (cI 0)) nilA)))))) nilS)
    (seqS (asgS [1] 3 (tgetA tab_FORMS (op2 dIx (vr 1) (cI 0)) (cS "")))
    (seqS (ifS (tst (op2 dEq (vr 3) (cS ""))) badS nilS)
    (retS (op2 dAdd (tupA (consA (op2 dIx (vr 1) (cI 0)) nilA)) (fnA F_things_in [] (consA (slA (vr 1) (prtE (cI 1)) prtN) (consA (vr 3) nilA)))))))))
def F_read_deed : List D → Res D := runF s_read_deed 4
def s__law_mixed : De.Env → Out :=
    (seqS (asgS [0] 2 (op2 dMod (op2 dMul (vr 0) (vr 0)) (cI 2147483647)))
    (retS (op2 dMod (op2 dAdd (op2 dAdd (op2 dMul (vr 2) (op2 dAdd (op2 dMod (vr 0) (cI 65521)) (cI 3))) (op2 dMul (vr 1) (cI 7919))) (cI 131)) (cI 2147483647))))
def F__law_mixed : List D → Res D := runF s__law_mixed 3
def b1__law_draw : De.Env → Out :=
    (ifS (tst (op2 dGt (vr 2) (cI 0))) (seqS (mutS [2, 5] 4 (op2 dMod (vr 2) (vr 5)) gApp)
    (asgS [2, 5] 2 (op2 dFdv (vr 2) (vr 5)))) (seqS (asgS [3, 4] 3 (fnA F__law_mixed [] (consA (vr 3) (consA (calA (g1 dLen) (consA (vr 4) nilA)) nilA))))
    (mutS [3, 5] 4 (op2 dMod (op2 dFdv (vr 3) (cI 61)) (vr 5)) gApp)))
def s__law_draw : De.Env → Out :=
    (seqS (asgS [0] 2 (ifV (tst (op2 dGe (vr 0) (op2 dPow (cI 10) (cI 18)))) (vr 0) (cI 0)))
    (seqS (asgS [0] 3 (op2 dMod (op2 dAdd (op2 dMul (calA (g1 dAbs) (consA (vr 0) nilA)) (cI 2654435)) (cI 40503)) (cI 2147483647)))
    (seqS (asgS [] 4 (lstA nilA))
    (seqS (forS [1] (itm itD (vr 1)) (.one 5) b1__law_draw)
    (retS (vr 4))))))
def F__law_draw : List D → Res D := runF s__law_draw 6
def s__law_cell : De.Env → Out :=
    (seqS (ifS (tst (op2 dLt (vr 1) (calA (g1 dLen) (consA (vr 0) nilA)))) (retS (op2 dIx (vr 0) (vr 1))) nilS)
    (seqS (ifS (tst (op2 dEq (calA (g1 dLen) (consA (vr 0) nilA)) (cI 0))) (retS (op2 dMul (cI 7919) (vr 1))) nilS)
    (retS (op2 dAdd (op2 dIx (vr 0) (op2 dMod (vr 1) (calA (g1 dLen) (consA (vr 0) nilA)))) (op2 dMul (cI 104729) (vr 1))))))
def F__law_cell : List D → Res D := runF s__law_cell 2
def s__law_num : De.Env → Out :=
    (retS (andV (calA (g2 dIsi) (consA (vr 0) (consA (cT "int") nilA))) (notV (calA (g2 dIsi) (consA (vr 0) (consA (cT "bool") nilA))))))
def F__law_num : List D → Res D := runF s__law_num 1
def e1__law_same (F : List D → Res D) : De.Env → Res D :=
    (fnA F [] (consA (op2 dIx (vr 0) (vr 2)) (consA (op2 dIx (vr 1) (vr 2)) nilA)))
def s__law_same (F : List D → Res D) : De.Env → Out :=
    (seqS (ifS (tst (op2 dIsN (vr 1) cN)) (retS (op2 dIsN (vr 0) cN)) nilS)
    (seqS (ifS (tst (calA (g2 dIsi) (consA (vr 1) (consA (cT "bool") nilA)))) (retS (andV (calA (g2 dIsi) (consA (vr 0) (consA (cT "bool") nilA))) (op2 dEq (vr 0) (vr 1)))) nilS)
    (seqS (ifS (tst (calA (g2 dIsi) (consA (vr 1) (consA (cT "int") nilA)))) (retS (andV (fnA F__law_num [] (consA (vr 0) nilA)) (op2 dEq (vr 0) (vr 1)))) nilS)
    (seqS (ifS (tst (calA (g2 dIsi) (consA (vr 1) (consA (cT "str") nilA)))) (retS (andV (calA (g2 dIsi) (consA (vr 0) (consA (cT "str") nilA))) (op2 dEq (vr 0) (vr 1)))) nilS)
    (seqS (ifS (orB (andB (tst (calA (g2 dIsi) (consA (vr 1) (consA (cT "tuple") nilA)))) (notB (tst (calA (g2 dIsi) (consA (vr 0) (consA (cT "tuple") nilA)))))) (andB (tst (calA (g2 dIsi) (consA (vr 1) (consA (cT "list") nilA)))) (notB (tst (calA (g2 dIsi) (consA (vr 0) (consA (cT "list") nilA))))))) (retS (cB false)) nilS)
    (retS (andV (op2 dEq (calA (g1 dLen) (consA (vr 0) nilA)) (calA (g1 dLen) (consA (vr 1) nilA))) (calA (g1 dAll) (consA (lcA (rngA (consA (calA (g1 dLen) (consA (vr 1) nilA)) nilA)) (.one 2) yesB (e1__law_same F)) nilA)))))))))
def F__law_same : List D → Res D := recF s__law_same 3 8
def e1__law_text_word : De.Env → Res D :=
    (op2 dIx (vr 1) (op2 dMod (op2 dAdd (op2 dIx (vr 0) (cI 1)) (op2 dMul (op2 dIx (vr 0) (cI 2)) (vr 2))) (cI 26)))
def s__law_text_word : De.Env → Out :=
    (seqS (asgS [] 1 (cS "abcdefghijklmnopqrstuvwxyz"))
    (retS (strM dJoin (cS "") (lcA (rngA (consA (op2 dAdd (cI 1) (op2 dMod (op2 dIx (vr 0) (cI 0)) (cI 8))) nilA)) (.one 2) yesB e1__law_text_word))))
def F__law_text_word : List D → Res D := runF s__law_text_word 3
def s__law_text_number : De.Env → Out :=
    (retS (op2 dIx (lstA (consA (op2 dMod (op2 dIx (vr 0) (cI 0)) (cI 10)) (consA (op2 dMod (op2 dIx (vr 0) (cI 1)) (cI 1000)) (consA (op2 dMod (op2 dMul (op2 dMul (op2 dIx (vr 0) (cI 0)) (op2 dIx (vr 0) (cI 1))) (op2 dIx (vr 0) (cI 2))) (op2 dPow (cI 10) (cI 9))) (consA (cI 999999999) (consA (cI 0) nilA)))))) (op2 dMod (op2 dIx (vr 0) (cI 2)) (cI 5))))
def F__law_text_number : List D → Res D := runF s__law_text_number 1
def e1__law_any_deed : De.Env → Res D :=
    (fnA F__law_text_word [] (consA (slA (vr 0) (prtE (op2 dAdd (cI 13) (op2 dMul (cI 3) (vr 7)))) prtN) nilA))
def s__law_any_deed : De.Env → Out :=
    (seqS (asgS [] 1 (lstA (consA (cS "found") (consA (cS "put") (consA (cS "take") (consA (cS "right") (consA (cS "tear") (consA (cS "join") (consA (cS "turn") (consA (cS "strike") (consA (cS "doubt") (consA (cS "trust") (consA (cS "alike") nilA)))))))))))))
    (seqS (asgS [0, 1] 2 (op2 dIx (vr 1) (op2 dMod (op2 dIx (vr 0) (cI 0)) (cI 11))))
    (seqS (parS [0] 3 4 (consA (fnA F__law_text_word [] (consA (slA (vr 0) (prtE (cI 1)) prtN) nilA)) (consA (fnA F__law_text_word [] (consA (slA (vr 0) (prtE (cI 4)) prtN) nilA)) nilA)))
    (seqS (parS [0] 5 6 (consA (fnA F__law_text_number [] (consA (slA (vr 0) (prtE (cI 7)) prtN) nilA)) (consA (fnA F__law_text_number [] (consA (slA (vr 0) (prtE (cI 10)) prtN) nilA)) nilA)))
    (seqS (ifS (tst (op2 dEq (vr 2) (cS "found"))) (retS (tupA (consA (vr 2) (consA (calA (g1 dTup) (consA (lcA (rngA (consA (op2 dMod (op2 dIx (vr 0) (cI 1)) (cI 11)) nilA)) (.one 7) yesB e1__law_any_deed) nilA)) (consA (vr 3) nilA))))) nilS)
    (seqS (ifS (tst (op2 dIn (vr 2) (tupA (consA (cS "put") (consA (cS "right") nilA))))) (retS (tupA (consA (vr 2) (consA (vr 5) (consA (vr 6) (consA (vr 3) nilA)))))) nilS)
    (seqS (ifS (tst (op2 dIn (vr 2) (tupA (consA (cS "take") (consA (cS "tear") (consA (cS "join") nilA)))))) (retS (tupA (consA (vr 2) (consA (vr 5) (consA (vr 6) nilA))))) nilS)
    (seqS (ifS (tst (op2 dIn (vr 2) (tupA (consA (cS "turn") (consA (cS "strike") nilA))))) (retS (tupA (consA (vr 2) (consA (vr 5) nilA)))) nilS)
    (retS (ifV (tst (op2 dEq (vr 2) (cS "alike"))) (tupA (consA (vr 2) (consA (vr 3) (consA (vr 4) nilA)))) (tupA (consA (vr 2) (consA (vr 3) nilA)))))))))))))
def F__law_any_deed : List D → Res D := runF s__law_any_deed 8
def e1__law_deed_row : De.Env → Res D :=
    (calA (g1 dStr) (consA (vr 1) nilA))
def s__law_deed_row : De.Env → Out :=
    (seqS (ifS (tst (op2 dEq (op2 dIx (vr 0) (cI 0)) (cS "found"))) (retS (strM dJoin (cS " ") (op2 dAdd (tupA (consA (cS "found") (consA (op2 dIx (vr 0) (cI 2)) nilA))) (op2 dIx (vr 0) (cI 1))))) nilS)
    (retS (strM dJoin (cS " ") (lcA (itm itD (vr 0)) (.one 1) yesB e1__law_deed_row))))
def F__law_deed_row : List D → Res D := runF s__law_deed_row 2
end Cm
set_option Elab.async false
set_option linter.all false
set_option maxRecDepth 100000
namespace K42
open PySem PySem.Spec PyProof.Rows L2 De Cm
def top (i : Nat) : Stmt := PySem.Challenge.pw_scribelists_k42_deeds_written.main.body.getD i (.Pass ⟨0, 0, 0, 0⟩)
abbrev FnP (K : PySem.W.Frag) (x : Str) (st : Stmt) : Prop := ∃ fd, FunD K x x (defArgs st) (defBody st) (defScope st) [] [] (He.ga K x) fd
/-! ### are_marks -/
theorem sc_are_marks : FnScope ["text", "most", "letter"] ["text", "most"] (defScope (top 5)) := ⟨rfl, rfl, rfl, by decide +kernel, rfl, by decide +kernel, by decide +kernel⟩
theorem ok_are_marks {P : Program} {w : World} {K : PySem.W.Frag} {mg : Str → Option Value} {base : Heap} {T : List (Addr × Str)} (G : FnP K "are_marks" (top 5)) (m : mg "are_marks" = some (.ref (He.ga K "are_marks"))) (c_LETTERS : ∃ t, mg "LETTERS" = some (.str "abcdefghijklmnopqrstuvwxyz" t)) (b_all : mg "all" = none) (b_len : mg "len" = none)  : FnS P w K mg base T "are_marks" ["text", "most"] 1 F_are_marks :=
  FnS.mk1 (k := 0) G m sc_are_marks (fun _ _ _ _ _ _ us hl => match us, hl with | [_, _], _ => rfl) rfl fun cdv A outer s0 H E hr =>
    (dss_one (ds_ret [0, 1] (de_and (de_chain le_ok le_ok de_int (de_callB len_ok rfl b_len bt_len (da_cons (de_var 0) da_nil)) (de_var 1)) (de_one (de_callB (all_ok rfl) rfl b_all bt_all (da_cons (de_lc (M' := [2]) (own := [("letter", 2)]) rfl sc_are_marks.nd (di_it (de_var 0)) (blkOk_by (by kernel_rfl)) rfl (by decide) (fun _ _ _ _ _ => (pg_name sc_are_marks.nd rfl (by first | exact Or.inl rfl | exact Or.inr rfl))) (fun _ _ _ _ _ => dts_nil) (fun _ _ _ _ _ => (de_cmp in_ok (de_var 2) (de_gstr rfl c_LETTERS)))) da_nil))))))
/-! ### deed_text -/
theorem sc_deed_text : FnScope ["deed", "thing"] ["deed"] (defScope (top 11)) := ⟨rfl, rfl, rfl, by decide +kernel, rfl, by decide +kernel, by decide +kernel⟩
theorem ok_deed_text {P : Program} {w : World} {K : PySem.W.Frag} {mg : Str → Option Value} {base : Heap} {T : List (Addr × Str)} (G : FnP K "deed_text" (top 11)) (m : mg "deed_text" = some (.ref (He.ga K "deed_text"))) (b_str : mg "str" = none)  : FnS P w K mg base T "deed_text" ["deed"] 1 F_deed_text :=
  FnS.mk1 (k := 0) G m sc_deed_text (fun _ _ _ _ _ _ us hl => match us, hl with | [_], _ => rfl) rfl fun cdv A outer s0 H E hr =>
    (dss_cons (ds_if [0] (dt_cmp (eq_ok hr.units) (de_ix ix_ok (de_var 0) de_int) de_str) (dss_one (ds_ret [0] (de_join de_str (de_op add_ok (de_tup (da_cons de_str (da_cons (de_ix ix_ok (de_var 0) de_int) da_nil))) (de_ix ix_ok (de_var 0) de_int))))) dss_nil)
    (dss_one (ds_ret [0] (de_join de_str (de_lc (M' := [1]) (own := [("thing", 1)]) rfl sc_deed_text.nd (di_it (de_var 0)) (blkOk_by (by kernel_rfl)) rfl (by decide) (fun _ _ _ _ _ => (pg_name sc_deed_text.nd rfl (by first | exact Or.inl rfl | exact Or.inr rfl))) (fun _ _ _ _ _ => dts_nil) (fun _ _ _ _ _ => (de_callTy str_ok rfl b_str bt_str (da_cons (de_var 1) da_nil))))))))
/-! ### number_in -/
theorem sc_number_in : FnScope ["word", "sign"] ["word"] (defScope (top 12)) := ⟨rfl, rfl, rfl, by decide +kernel, rfl, by decide +kernel, by decide +kernel⟩
theorem ok_number_in {P : Program} {w : World} {K : PySem.W.Frag} {mg : Str → Option Value} {base : Heap} {T : List (Addr × Str)} (G : FnP K "number_in" (top 12)) (m : mg "number_in" = some (.ref (He.ga K "number_in"))) (b_int : mg "int" = none) (c_FIGURES : ∃ t, mg "FIGURES" = some (.str "0123456789" t)) (b_all : mg "all" = none) (b_len : mg "len" = none) (c_MOST_FIGURES : ∃ t, mg "MOST_FIGURES" = some (.int 9 t))  : FnS P w K mg base T "number_in" ["word"] 1 F_number_in :=
  FnS.mk1 (k := 0) G m sc_number_in (fun _ _ _ _ _ _ us hl => match us, hl with | [_], _ => rfl) rfl fun cdv A outer s0 H E hr =>
    (dss_cons (ds_if [0] (dt_of (dt_or (dt_not (dt_chain le_ok le_ok de_int (de_callB len_ok rfl b_len bt_len (da_cons (de_var 0) da_nil)) (de_gint rfl c_MOST_FIGURES))) (dt_or1 (dt_not (dt_val (de_callB (all_ok rfl) rfl b_all bt_all (da_cons (de_lc (M' := [1]) (own := [("sign", 1)]) rfl sc_number_in.nd (di_it (de_var 0)) (blkOk_by (by kernel_rfl)) rfl (by decide) (fun _ _ _ _ _ => (pg_name sc_number_in.nd rfl (by first | exact Or.inl rfl | exact Or.inr rfl))) (fun _ _ _ _ _ => dts_nil) (fun _ _ _ _ _ => (de_cmp in_ok (de_var 1) (de_gstr rfl c_FIGURES)))) da_nil))))))) (dss_one ds_never) dss_nil)
    (dss_cons (ds_if [0] (dt_of (dt_and (dt_cmp (eq_ok hr.units) (de_ix ix_ok (de_var 0) de_int) de_str) (dt_and1 (dt_cmp (ne_ok hr.units) (de_var 0) de_str)))) (dss_one ds_never) dss_nil)
    (dss_one (ds_ret [0] (de_callTy int10_ok rfl b_int bt_int (da_cons (de_var 0) (da_cons de_int da_nil)))))))
/-! ### thing_in -/
theorem sc_thing_in : FnScope ["word", "sort"] ["word", "sort"] (defScope (top 13)) := ⟨rfl, rfl, rfl, by decide +kernel, rfl, by decide +kernel, by decide +kernel⟩
theorem ok_thing_in {P : Program} {w : World} {K : PySem.W.Frag} {mg : Str → Option Value} {base : Heap} {T : List (Addr × Str)} (G : FnP K "thing_in" (top 13)) (m : mg "thing_in" = some (.ref (He.ga K "thing_in"))) (c_LONGEST : ∃ t, mg "LONGEST" = some (.int 8 t)) (w_are_marks : FnS P w K mg base T "are_marks" ["text", "most"] 1 F_are_marks) (w_number_in : FnS P w K mg base T "number_in" ["word"] 1 F_number_in) : FnS P w K mg base T "thing_in" ["word", "sort"] 2 F_thing_in :=
  FnS.mk1 (k := 1) G m sc_thing_in (fun _ _ _ _ _ _ us hl => match us, hl with | [_, _], _ => rfl) rfl fun cdv A outer s0 H E hr =>
    (dss_cons (ds_if [1] (dt_cmp (eq_ok hr.units) (de_var 1) de_str) (dss_one (ds_ret [0] (de_fn w_number_in (hr.mono (by omega)) takesE (da_cons (de_var 0) da_nil)))) dss_nil)
    (dss_cons (ds_if [0] (dt_not (dt_val (de_fn w_are_marks (hr.mono (by omega)) takesE (da_cons (de_var 0) (da_cons (de_gint rfl c_LONGEST) da_nil))))) (dss_one ds_never) dss_nil)
    (dss_one (ds_ret [0] (de_var 0)))))
/-! ### things_in -/
theorem sc_things_in : FnScope ["words", "form", "word", "sort"] ["words", "form"] (defScope (top 14)) := ⟨rfl, rfl, rfl, by decide +kernel, rfl, by decide +kernel, by decide +kernel⟩
theorem ok_things_in {P : Program} {w : World} {K : PySem.W.Frag} {mg : Str → Option Value} {base : Heap} {T : List (Addr × Str)} (G : FnP K "things_in" (top 14)) (m : mg "things_in" = some (.ref (He.ga K "things_in"))) (b_zip : mg "zip" = none) (b_tuple : mg "tuple" = none) (b_len : mg "len" = none) (w_thing_in : FnS P w K mg base T "thing_in" ["word", "sort"] 2 F_thing_in) : FnS P w K mg base T "things_in" ["words", "form"] 3 F_things_in :=
  FnS.mk1 (k := 2) G m sc_things_in (fun _ _ _ _ _ _ us hl => match us, hl with | [_, _], _ => rfl) rfl fun cdv A outer s0 H E hr =>
    (dss_cons (ds_if [0, 1] (dt_cmp (ne_ok hr.units) (de_callB len_ok rfl b_len bt_len (da_cons (de_var 0) da_nil)) (de_callB len_ok rfl b_len bt_len (da_cons (de_var 1) da_nil))) (dss_one ds_never) dss_nil)
    (dss_one (ds_ret [0, 1] (de_callTy tup_ok rfl b_tuple bt_tuple (da_cons (de_lc (M' := [2, 3]) (own := [("word", 2), ("sort", 3)]) rfl sc_things_in.nd (di_zipB rfl b_zip (da_cons (de_var 0) (da_cons (de_var 1) da_nil))) (blkOk_by (by kernel_rfl)) rfl (by decide) (fun _ _ _ _ _ => (pg_tup rfl (pgs_cons (pg_name sc_things_in.nd rfl (by first | exact Or.inl rfl | exact Or.inr rfl)) (pgs_cons (pg_name sc_things_in.nd rfl (by first | exact Or.inl rfl | exact Or.inr rfl)) pgs_nil)))) (fun _ _ _ _ _ => dts_nil) (fun _ _ _ _ _ => (de_fn w_thing_in (hr.mono (by omega)) takesF (da_cons (de_var 2) (da_cons (de_var 3) da_nil))))) da_nil)))))
/-! ### read_deed -/
theorem sc_read_deed : FnScope ["text", "words", "some", "form"] ["text"] (defScope (top 15)) := ⟨rfl, rfl, rfl, by decide +kernel, rfl, by decide +kernel, by decide +kernel⟩
theorem ok_read_deed {P : Program} {w : World} {K : PySem.W.Frag} {mg : Str → Option Value} {base : Heap} {T : List (Addr × Str)} (G : FnP K "read_deed" (top 15)) (m : mg "read_deed" = some (.ref (He.ga K "read_deed"))) (t_FORMS : mg "FORMS" = some (.ref (He.ga K "FORMS")) ∧ TabS K w (He.ga K "FORMS") tab_FORMS) (b_len : mg "len" = none) (w_things_in : FnS P w K mg base T "things_in" ["words", "form"] 3 F_things_in) : FnS P w K mg base T "read_deed" ["text"] 4 F_read_deed :=
  FnS.mk1 (k := 3) G m sc_read_deed (fun _ _ _ _ _ _ us hl => match us, hl with | [_], _ => rfl) rfl fun cdv A outer s0 H E hr =>
    (dss_cons (ds_set [0] sc_read_deed.nd rfl (by first | exact Or.inl rfl | exact Or.inr rfl) (de_split (de_var 0) de_str))
    (dss_cons (ds_if [1] (dt_of (dt_and (dt_cmp (eq_ok hr.units) (de_ix ix_ok (de_var 1) de_int) de_str) (dt_and1 (dt_cmp gt_ok (de_callB len_ok rfl b_len bt_len (da_cons (de_var 1) da_nil)) de_int)))) (dss_cons (ds_set [1] sc_read_deed.nd rfl (by first | exact Or.inl rfl | exact Or.inr rfl) (de_fn w_things_in (hr.mono (by omega)) takesE (da_cons (de_sl (de_var 1) (dp_some de_int) dp_none) (da_cons (de_op mul_ok de_str (de_op sub_ok (de_callB len_ok rfl b_len bt_len (da_cons (de_var 1) da_nil)) de_int)) da_nil))))
    (dss_one (ds_ret [2] (de_tup (da_cons de_str (da_cons (de_sl (de_var 2) (dp_some de_int) dp_none) (da_cons (de_ix ix_ok (de_var 2) de_int) da_nil))))))) dss_nil)
    (dss_cons (ds_set [1] sc_read_deed.nd rfl (by first | exact Or.inl rfl | exact Or.inr rfl) (de_tget rfl t_FORMS.1 t_FORMS.2 (de_ix ix_ok (de_var 1) de_int) de_str))
    (dss_cons (ds_if [3] (dt_cmp (eq_ok hr.units) (de_var 3) de_str) (dss_one ds_never) dss_nil)
    (dss_one (ds_ret [1, 3] (de_op add_ok (de_tup (da_cons (de_ix ix_ok (de_var 1) de_int) da_nil)) (de_fn w_things_in (hr.mono (by omega)) takesE (da_cons (de_sl (de_var 1) (dp_some de_int) dp_none) (da_cons (de_var 3) da_nil))))))))))
/-! ### _law_mixed -/
theorem sc__law_mixed : FnScope ["_law_seed", "_law_k", "_law_square"] ["_law_seed", "_law_k"] (defScope (top 17)) := ⟨rfl, rfl, rfl, by decide +kernel, rfl, by decide +kernel, by decide +kernel⟩
theorem ok__law_mixed {P : Program} {w : World} {K : PySem.W.Frag} {mg : Str → Option Value} {base : Heap} {T : List (Addr × Str)} (G : FnP K "_law_mixed" (top 17)) (m : mg "_law_mixed" = some (.ref (He.ga K "_law_mixed")))   : FnS P w K mg base T "_law_mixed" ["_law_seed", "_law_k"] 1 F__law_mixed :=
  FnS.mk1 (k := 0) G m sc__law_mixed (fun _ _ _ _ _ _ us hl => match us, hl with | [_, _], _ => rfl) rfl fun cdv A outer s0 H E hr =>
    (dss_cons (ds_set [0] sc__law_mixed.nd rfl (by first | exact Or.inl rfl | exact Or.inr rfl) (de_op mod_ok (de_op mul_ok (de_var 0) (de_var 0)) de_int))
    (dss_one (ds_ret [0, 1, 2] (de_op mod_ok (de_op add_ok (de_op add_ok (de_op mul_ok (de_var 2) (de_op add_ok (de_op mod_ok (de_var 0) de_int) de_int)) (de_op mul_ok (de_var 1) de_int)) de_int) de_int))))
/-! ### _law_draw -/
theorem sc__law_draw : FnScope ["_law_cell_here", "_law_limits", "_law_rest", "_law_seed", "_law_found", "_law_limit"] ["_law_cell_here", "_law_limits"] (defScope (top 18)) := ⟨rfl, rfl, rfl, by decide +kernel, rfl, by decide +kernel, by decide +kernel⟩
theorem ok__law_draw {P : Program} {w : World} {K : PySem.W.Frag} {mg : Str → Option Value} {base : Heap} {T : List (Addr × Str)} (G : FnP K "_law_draw" (top 18)) (m : mg "_law_draw" = some (.ref (He.ga K "_law_draw"))) (b_len : mg "len" = none) (b_abs : mg "abs" = none) (w__law_mixed : FnS P w K mg base T "_law_mixed" ["_law_seed", "_law_k"] 1 F__law_mixed) : FnS P w K mg base T "_law_draw" ["_law_cell_here", "_law_limits"] 2 F__law_draw :=
  FnS.mk1 (k := 1) G m sc__law_draw (fun _ _ _ _ _ _ us hl => match us, hl with | [_, _], _ => rfl) rfl fun cdv A outer s0 H E hr =>
    (dss_cons (ds_set [0] sc__law_draw.nd rfl (by first | exact Or.inl rfl | exact Or.inr rfl) (de_if (dt_cmp ge_ok (de_var 0) (de_op pow_ok de_int de_int)) (de_var 0) de_int))
    (dss_cons (ds_set [0] sc__law_draw.nd rfl (by first | exact Or.inl rfl | exact Or.inr rfl) (de_op mod_ok (de_op add_ok (de_op mul_ok (de_callB abs_ok rfl b_abs bt_abs (da_cons (de_var 0) da_nil)) de_int) de_int) de_int))
    (dss_cons (ds_set [] sc__law_draw.nd rfl (by first | exact Or.inl rfl | exact Or.inr rfl) (de_lst da_nil))
    (dss_cons (ds_for [1] passesE rfl (di_it (de_var 1)) (pg_name sc__law_draw.nd rfl (by first | exact Or.inl rfl | exact Or.inr rfl)) (dss_one (ds_if [2] (dt_cmp gt_ok (de_var 2) de_int) (dss_cons (ds_app [2, 5] rfl (de_op mod_ok (de_var 2) (de_var 5)))
    (dss_one (ds_set [2, 5] sc__law_draw.nd rfl (by first | exact Or.inl rfl | exact Or.inr rfl) (de_op fdv_ok (de_var 2) (de_var 5))))) (dss_cons (ds_set [3, 4] sc__law_draw.nd rfl (by first | exact Or.inl rfl | exact Or.inr rfl) (de_fn w__law_mixed (hr.mono (by omega)) takesE (da_cons (de_var 3) (da_cons (de_callB len_ok rfl b_len bt_len (da_cons (de_var 4) da_nil)) da_nil))))
    (dss_one (ds_app [3, 5] rfl (de_op mod_ok (de_op fdv_ok (de_var 3) de_int) (de_var 5))))))))
    (dss_one (ds_ret [4] (de_var 4)))))))
/-! ### _law_cell -/
theorem sc__law_cell : FnScope ["_law_script", "_law_k"] ["_law_script", "_law_k"] (defScope (top 19)) := ⟨rfl, rfl, rfl, by decide +kernel, rfl, by decide +kernel, by decide +kernel⟩
theorem ok__law_cell {P : Program} {w : World} {K : PySem.W.Frag} {mg : Str → Option Value} {base : Heap} {T : List (Addr × Str)} (G : FnP K "_law_cell" (top 19)) (m : mg "_law_cell" = some (.ref (He.ga K "_law_cell"))) (b_len : mg "len" = none)  : FnS P w K mg base T "_law_cell" ["_law_script", "_law_k"] 1 F__law_cell :=
  FnS.mk1 (k := 0) G m sc__law_cell (fun _ _ _ _ _ _ us hl => match us, hl with | [_, _], _ => rfl) rfl fun cdv A outer s0 H E hr =>
    (dss_cons (ds_if [0, 1] (dt_cmp lt_ok (de_var 1) (de_callB len_ok rfl b_len bt_len (da_cons (de_var 0) da_nil))) (dss_one (ds_ret [0, 1] (de_ix ix_ok (de_var 0) (de_var 1)))) dss_nil)
    (dss_cons (ds_if [0] (dt_cmp (eq_ok hr.units) (de_callB len_ok rfl b_len bt_len (da_cons (de_var 0) da_nil)) de_int) (dss_one (ds_ret [1] (de_op mul_ok de_int (de_var 1)))) dss_nil)
    (dss_one (ds_ret [0, 1] (de_op add_ok (de_ix ix_ok (de_var 0) (de_op mod_ok (de_var 1) (de_callB len_ok rfl b_len bt_len (da_cons (de_var 0) da_nil)))) (de_op mul_ok de_int (de_var 1)))))))
/-! ### _law_num -/
theorem sc__law_num : FnScope ["_law_found"] ["_law_found"] (defScope (top 20)) := ⟨rfl, rfl, rfl, by decide +kernel, rfl, by decide +kernel, by decide +kernel⟩
theorem ok__law_num {P : Program} {w : World} {K : PySem.W.Frag} {mg : Str → Option Value} {base : Heap} {T : List (Addr × Str)} (G : FnP K "_law_num" (top 20)) (m : mg "_law_num" = some (.ref (He.ga K "_law_num"))) (b_bool : mg "bool" = none) (b_isinstance : mg "isinstance" = none) (b_int : mg "int" = none)  : FnS P w K mg base T "_law_num" ["_law_found"] 1 F__law_num :=
  FnS.mk1 (k := 0) G m sc__law_num (fun _ _ _ _ _ _ us hl => match us, hl with | [_], _ => rfl) rfl fun cdv A outer s0 H E hr =>
    (dss_one (ds_ret [0] (de_and (de_callB isi_ok rfl b_isinstance bt_isinstance (da_cons (de_var 0) (da_cons (de_bty rfl b_int bt_int) da_nil))) (de_one (de_not (de_callB isi_ok rfl b_isinstance bt_isinstance (da_cons (de_var 0) (da_cons (de_bty rfl b_bool bt_bool) da_nil))))))))
/-! ### _law_same -/
theorem sc__law_same : FnScope ["_law_found", "_law_due", "_law_k"] ["_law_found", "_law_due"] (defScope (top 21)) := ⟨rfl, rfl, rfl, by decide +kernel, rfl, by decide +kernel, by decide +kernel⟩
theorem ok__law_same {P : Program} {w : World} {K : PySem.W.Frag} {mg : Str → Option Value} {base : Heap} {T : List (Addr × Str)} (G : FnP K "_law_same" (top 21)) (m : mg "_law_same" = some (.ref (He.ga K "_law_same"))) (b_len : mg "len" = none) (b_range : mg "range" = none) (b_all : mg "all" = none) (b_list : mg "list" = none) (b_isinstance : mg "isinstance" = none) (b_tuple : mg "tuple" = none) (b_str : mg "str" = none) (b_int : mg "int" = none) (b_bool : mg "bool" = none) (w__law_num : FnS P w K mg base T "_law_num" ["_law_found"] 1 F__law_num) : FnS P w K mg base T "_law_same" ["_law_found", "_law_due"] 10 F__law_same :=
  FnS.mkR (k := 1) G m sc__law_same (fun _ _ _ _ _ _ us hl => match us, hl with | [_, _], _ => rfl) rfl (fun j F GF hj cdv A outer s0 H E hr =>
    (dss_cons (ds_if [1] (dt_cmp isN_ok (de_var 1) de_non) (dss_one (ds_ret [0] (de_cmp isN_ok (de_var 0) de_non))) dss_nil)
    (dss_cons (ds_if [1] (dt_val (de_callB isi_ok rfl b_isinstance bt_isinstance (da_cons (de_var 1) (da_cons (de_bty rfl b_bool bt_bool) da_nil)))) (dss_one (ds_ret [0, 1] (de_and (de_callB isi_ok rfl b_isinstance bt_isinstance (da_cons (de_var 0) (da_cons (de_bty rfl b_bool bt_bool) da_nil))) (de_one (de_cmp (eq_ok hr.units) (de_var 0) (de_var 1)))))) dss_nil)
    (dss_cons (ds_if [1] (dt_val (de_callB isi_ok rfl b_isinstance bt_isinstance (da_cons (de_var 1) (da_cons (de_bty rfl b_int bt_int) da_nil)))) (dss_one (ds_ret [0, 1] (de_and (de_fn w__law_num (hr.mono (by omega)) takesE (da_cons (de_var 0) da_nil)) (de_one (de_cmp (eq_ok hr.units) (de_var 0) (de_var 1)))))) dss_nil)
    (dss_cons (ds_if [1] (dt_val (de_callB isi_ok rfl b_isinstance bt_isinstance (da_cons (de_var 1) (da_cons (de_bty rfl b_str bt_str) da_nil)))) (dss_one (ds_ret [0, 1] (de_and (de_callB isi_ok rfl b_isinstance bt_isinstance (da_cons (de_var 0) (da_cons (de_bty rfl b_str bt_str) da_nil))) (de_one (de_cmp (eq_ok hr.units) (de_var 0) (de_var 1)))))) dss_nil)
    (dss_cons (ds_if [0, 1] (dt_of (dt_or (dt_of (dt_and (dt_val (de_callB isi_ok rfl b_isinstance bt_isinstance (da_cons (de_var 1) (da_cons (de_bty rfl b_tuple bt_tuple) da_nil)))) (dt_and1 (dt_not (dt_val (de_callB isi_ok rfl b_isinstance bt_isinstance (da_cons (de_var 0) (da_cons (de_bty rfl b_tuple bt_tuple) da_nil)))))))) (dt_or1 (dt_of (dt_and (dt_val (de_callB isi_ok rfl b_isinstance bt_isinstance (da_cons (de_var 1) (da_cons (de_bty rfl b_list bt_list) da_nil)))) (dt_and1 (dt_not (dt_val (de_callB isi_ok rfl b_isinstance bt_isinstance (da_cons (de_var 0) (da_cons (de_bty rfl b_list bt_list) da_nil))))))))))) (dss_one (ds_ret [] de_bl)) dss_nil)
    (dss_one (ds_ret [0, 1] (de_and (de_cmp (eq_ok hr.units) (de_callB len_ok rfl b_len bt_len (da_cons (de_var 0) da_nil)) (de_callB len_ok rfl b_len bt_len (da_cons (de_var 1) da_nil))) (de_one (de_callB (all_ok rfl) rfl b_all bt_all (da_cons (de_lc (M' := [0, 1, 2]) (own := [("_law_k", 2)]) rfl sc__law_same.nd (di_rng1 rfl b_range (da_cons (de_callB len_ok rfl b_len bt_len (da_cons (de_var 1) da_nil)) da_nil)) (blkOk_by (by kernel_rfl)) rfl (by decide) (fun _ _ _ _ _ => (pg_name sc__law_same.nd rfl (by first | exact Or.inl rfl | exact Or.inr rfl))) (fun _ _ _ _ _ => dts_nil) (fun _ _ _ _ _ => (de_fn GF hr takesF (da_cons (de_ix ix_ok (de_var 0) (de_var 2)) (da_cons (de_ix ix_ok (de_var 1) (de_var 2)) da_nil))))) da_nil)))))))))))) 8
/-! ### _law_text_word -/
theorem sc__law_text_word : FnScope ["_law_d", "_law_letters", "_law_k"] ["_law_d"] (defScope (top 22)) := ⟨rfl, rfl, rfl, by decide +kernel, rfl, by decide +kernel, by decide +kernel⟩
theorem ok__law_text_word {P : Program} {w : World} {K : PySem.W.Frag} {mg : Str → Option Value} {base : Heap} {T : List (Addr × Str)} (G : FnP K "_law_text_word" (top 22)) (m : mg "_law_text_word" = some (.ref (He.ga K "_law_text_word"))) (b_range : mg "range" = none)  : FnS P w K mg base T "_law_text_word" ["_law_d"] 1 F__law_text_word :=
  FnS.mk1 (k := 0) G m sc__law_text_word (fun _ _ _ _ _ _ us hl => match us, hl with | [_], _ => rfl) rfl fun cdv A outer s0 H E hr =>
    (dss_cons (ds_set [] sc__law_text_word.nd rfl (by first | exact Or.inl rfl | exact Or.inr rfl) de_str)
    (dss_one (ds_ret [0, 1] (de_join de_str (de_lc (M' := [0, 1, 2]) (own := [("_law_k", 2)]) rfl sc__law_text_word.nd (di_rng1 rfl b_range (da_cons (de_op add_ok de_int (de_op mod_ok (de_ix ix_ok (de_var 0) de_int) de_int)) da_nil)) (blkOk_by (by kernel_rfl)) rfl (by decide) (fun _ _ _ _ _ => (pg_name sc__law_text_word.nd rfl (by first | exact Or.inl rfl | exact Or.inr rfl))) (fun _ _ _ _ _ => dts_nil) (fun _ _ _ _ _ => (de_ix ix_ok (de_var 1) (de_op mod_ok (de_op add_ok (de_ix ix_ok (de_var 0) de_int) (de_op mul_ok (de_ix ix_ok (de_var 0) de_int) (de_var 2))) de_int))))))))
/-! ### _law_text_number -/
theorem sc__law_text_number : FnScope ["_law_d"] ["_law_d"] (defScope (top 23)) := ⟨rfl, rfl, rfl, by decide +kernel, rfl, by decide +kernel, by decide +kernel⟩
theorem ok__law_text_number {P : Program} {w : World} {K : PySem.W.Frag} {mg : Str → Option Value} {base : Heap} {T : List (Addr × Str)} (G : FnP K "_law_text_number" (top 23)) (m : mg "_law_text_number" = some (.ref (He.ga K "_law_text_number")))   : FnS P w K mg base T "_law_text_number" ["_law_d"] 1 F__law_text_number :=
  FnS.mk1 (k := 0) G m sc__law_text_number (fun _ _ _ _ _ _ us hl => match us, hl with | [_], _ => rfl) rfl fun cdv A outer s0 H E hr =>
    (dss_one (ds_ret [0] (de_ix ix_ok (de_lst (da_cons (de_op mod_ok (de_ix ix_ok (de_var 0) de_int) de_int) (da_cons (de_op mod_ok (de_ix ix_ok (de_var 0) de_int) de_int) (da_cons (de_op mod_ok (de_op mul_ok (de_op mul_ok (de_ix ix_ok (de_var 0) de_int) (de_ix ix_ok (de_var 0) de_int)) (de_ix ix_ok (de_var 0) de_int)) (de_op pow_ok de_int de_int)) (da_cons de_int (da_cons de_int da_nil)))))) (de_op mod_ok (de_ix ix_ok (de_var 0) de_int) de_int))))
/-! ### _law_any_deed -/
theorem sc__law_any_deed : FnScope ["_law_d", "_law_kinds", "_law_word", "_law_one", "_law_other", "_law_number", "_law_at", "_law_k"] ["_law_d"] (defScope (top 24)) := ⟨rfl, rfl, rfl, by decide +kernel, rfl, by decide +kernel, by decide +kernel⟩
theorem ok__law_any_deed {P : Program} {w : World} {K : PySem.W.Frag} {mg : Str → Option Value} {base : Heap} {T : List (Addr × Str)} (G : FnP K "_law_any_deed" (top 24)) (m : mg "_law_any_deed" = some (.ref (He.ga K "_law_any_deed"))) (b_range : mg "range" = none) (b_tuple : mg "tuple" = none) (w__law_text_word : FnS P w K mg base T "_law_text_word" ["_law_d"] 1 F__law_text_word) (w__law_text_number : FnS P w K mg base T "_law_text_number" ["_law_d"] 1 F__law_text_number) : FnS P w K mg base T "_law_any_deed" ["_law_d"] 2 F__law_any_deed :=
  FnS.mk1 (k := 1) G m sc__law_any_deed (fun _ _ _ _ _ _ us hl => match us, hl with | [_], _ => rfl) rfl fun cdv A outer s0 H E hr =>
    (dss_cons (ds_set [] sc__law_any_deed.nd rfl (by first | exact Or.inl rfl | exact Or.inr rfl) (de_lst (da_cons de_str (da_cons de_str (da_cons de_str (da_cons de_str (da_cons de_str (da_cons de_str (da_cons de_str (da_cons de_str (da_cons de_str (da_cons de_str (da_cons de_str da_nil)))))))))))))
    (dss_cons (ds_set [0, 1] sc__law_any_deed.nd rfl (by first | exact Or.inl rfl | exact Or.inr rfl) (de_ix ix_ok (de_var 1) (de_op mod_ok (de_ix ix_ok (de_var 0) de_int) de_int)))
    (dss_cons (ds_par (i := 3) (j := 4) [0] rfl sc__law_any_deed.nd rfl rfl (by decide) rfl rfl (da_cons (de_fn w__law_text_word (hr.mono (by omega)) takesE (da_cons (de_sl (de_var 0) (dp_some de_int) dp_none) da_nil)) (da_cons (de_fn w__law_text_word (hr.mono (by omega)) takesE (da_cons (de_sl (de_var 0) (dp_some de_int) dp_none) da_nil)) da_nil)) rfl)
    (dss_cons (ds_par (i := 5) (j := 6) [0] rfl sc__law_any_deed.nd rfl rfl (by decide) rfl rfl (da_cons (de_fn w__law_text_number (hr.mono (by omega)) takesE (da_cons (de_sl (de_var 0) (dp_some de_int) dp_none) da_nil)) (da_cons (de_fn w__law_text_number (hr.mono (by omega)) takesE (da_cons (de_sl (de_var 0) (dp_some de_int) dp_none) da_nil)) da_nil)) rfl)
    (dss_cons (ds_if [2] (dt_cmp (eq_ok hr.units) (de_var 2) de_str) (dss_one (ds_ret [0, 2, 3] (de_tup (da_cons (de_var 2) (da_cons (de_callTy tup_ok rfl b_tuple bt_tuple (da_cons (de_lc (M' := [0, 7]) (own := [("_law_k", 7)]) rfl sc__law_any_deed.nd (di_rng1 rfl b_range (da_cons (de_op mod_ok (de_ix ix_ok (de_var 0) de_int) de_int) da_nil)) (blkOk_by (by kernel_rfl)) rfl (by decide) (fun _ _ _ _ _ => (pg_name sc__law_any_deed.nd rfl (by first | exact Or.inl rfl | exact Or.inr rfl))) (fun _ _ _ _ _ => dts_nil) (fun _ _ _ _ _ => (de_fn w__law_text_word (hr.mono (by omega)) takesF (da_cons (de_sl (de_var 0) (dp_some (de_op add_ok de_int (de_op mul_ok de_int (de_var 7)))) dp_none) da_nil)))) da_nil)) (da_cons (de_var 3) da_nil)))))) dss_nil)
    (dss_cons (ds_if [2] (dt_cmp in_ok (de_var 2) (de_tup (da_cons de_str (da_cons de_str da_nil)))) (dss_one (ds_ret [2, 3, 5, 6] (de_tup (da_cons (de_var 2) (da_cons (de_var 5) (da_cons (de_var 6) (da_cons (de_var 3) da_nil))))))) dss_nil)
    (dss_cons (ds_if [2] (dt_cmp in_ok (de_var 2) (de_tup (da_cons de_str (da_cons de_str (da_cons de_str da_nil))))) (dss_one (ds_ret [2, 5, 6] (de_tup (da_cons (de_var 2) (da_cons (de_var 5) (da_cons (de_var 6) da_nil)))))) dss_nil)
    (dss_cons (ds_if [2] (dt_cmp in_ok (de_var 2) (de_tup (da_cons de_str (da_cons de_str da_nil)))) (dss_one (ds_ret [2, 5] (de_tup (da_cons (de_var 2) (da_cons (de_var 5) da_nil))))) dss_nil)
    (dss_one (ds_ret [2, 3, 4] (de_if (dt_cmp (eq_ok hr.units) (de_var 2) de_str) (de_tup (da_cons (de_var 2) (da_cons (de_var 3) (da_cons (de_var 4) da_nil)))) (de_tup (da_cons (de_var 2) (da_cons (de_var 3) da_nil))))))))))))))
/-! ### _law_deed_row -/
theorem sc__law_deed_row : FnScope ["_law_deed", "_law_thing"] ["_law_deed"] (defScope (top 25)) := ⟨rfl, rfl, rfl, by decide +kernel, rfl, by decide +kernel, by decide +kernel⟩
theorem ok__law_deed_row {P : Program} {w : World} {K : PySem.W.Frag} {mg : Str → Option Value} {base : Heap} {T : List (Addr × Str)} (G : FnP K "_law_deed_row" (top 25)) (m : mg "_law_deed_row" = some (.ref (He.ga K "_law_deed_row"))) (b_str : mg "str" = none)  : FnS P w K mg base T "_law_deed_row" ["_law_deed"] 1 F__law_deed_row :=
  FnS.mk1 (k := 0) G m sc__law_deed_row (fun _ _ _ _ _ _ us hl => match us, hl with | [_], _ => rfl) rfl fun cdv A outer s0 H E hr =>
    (dss_cons (ds_if [0] (dt_cmp (eq_ok hr.units) (de_ix ix_ok (de_var 0) de_int) de_str) (dss_one (ds_ret [0] (de_join de_str (de_op add_ok (de_tup (da_cons de_str (da_cons (de_ix ix_ok (de_var 0) de_int) da_nil))) (de_ix ix_ok (de_var 0) de_int))))) dss_nil)
    (dss_one (ds_ret [0] (de_join de_str (de_lc (M' := [1]) (own := [("_law_thing", 1)]) rfl sc__law_deed_row.nd (di_it (de_var 0)) (blkOk_by (by kernel_rfl)) rfl (by decide) (fun _ _ _ _ _ => (pg_name sc__law_deed_row.nd rfl (by first | exact Or.inl rfl | exact Or.inr rfl))) (fun _ _ _ _ _ => dts_nil) (fun _ _ _ _ _ => (de_callTy str_ok rfl b_str bt_str (da_cons (de_var 1) da_nil))))))))
/-! ### law -/
theorem sc_law : FnScope ["_law_script", "_law_k", "_law_deed", "_law_text"] ["_law_script"] (defScope (top 26)) := ⟨rfl, rfl, rfl, by decide +kernel, rfl, by decide +kernel, by decide +kernel⟩
def b1_law : De.Env → Out :=
    (seqS (asgS [0, 1] 2 (fnA F__law_any_deed [] (consA (fnA F__law_draw [] (consA (fnA F__law_cell [] (consA (vr 0) (consA (vr 1) nilA))) (consA (op2 dAdd (lstA (consA (cI 1210) nilA)) (op2 dMul (lstA (consA (cI 2520) nilA)) (cI 45))) nilA))) nilA)))
    (seqS (asgS [2] 3 (fnA F__law_deed_row [] (consA (vr 2) nilA)))
    (ifS (orB (notB (tst (fnA F__law_same [] (consA (fnA F_deed_text [] (consA (vr 2) nilA)) (consA (vr 3) nilA))))) (notB (tst (fnA F__law_same [] (consA (fnA F_read_deed [] (consA (vr 3) nilA)) (consA (vr 2) nilA)))))) (retS (cB false)) nilS)))
def s_law : De.Env → Out :=
    (seqS (forS [] (rngA (consA (cI 12) nilA)) (.one 1) b1_law)
    (retS (cB true)))
def F_law : List D → Res D := runF s_law 4
theorem ok_law {P : Program} {w : World} {K : PySem.W.Frag} {mg : Str → Option Value} {base : Heap} {T : List (Addr × Str)} (G : FnP K "law" (top 26)) (m : mg "law" = some (.ref (He.ga K "law"))) (b_range : mg "range" = none) (w_read_deed : FnS P w K mg base T "read_deed" ["text"] 4 F_read_deed) (w__law_same : FnS P w K mg base T "_law_same" ["_law_found", "_law_due"] 10 F__law_same) (w_deed_text : FnS P w K mg base T "deed_text" ["deed"] 1 F_deed_text) (w__law_deed_row : FnS P w K mg base T "_law_deed_row" ["_law_deed"] 1 F__law_deed_row) (w__law_cell : FnS P w K mg base T "_law_cell" ["_law_script", "_law_k"] 1 F__law_cell) (w__law_draw : FnS P w K mg base T "_law_draw" ["_law_cell_here", "_law_limits"] 2 F__law_draw) (w__law_any_deed : FnS P w K mg base T "_law_any_deed" ["_law_d"] 2 F__law_any_deed) : FnS P w K mg base T "law" ["_law_script"] 11 F_law :=
  FnS.mk1 (k := 10) G m sc_law (fun _ _ _ _ _ _ us hl => match us, hl with | [_], _ => rfl) rfl fun cdv A outer s0 H E hr =>
    (dss_cons (ds_for [] passesE rfl (di_rng1 rfl b_range (da_cons de_int da_nil)) (pg_name sc_law.nd rfl (by first | exact Or.inl rfl | exact Or.inr rfl)) (dss_cons (ds_set [0, 1] sc_law.nd rfl (by first | exact Or.inl rfl | exact Or.inr rfl) (de_fn w__law_any_deed (hr.mono (by omega)) takesE (da_cons (de_fn w__law_draw (hr.mono (by omega)) takesE (da_cons (de_fn w__law_cell (hr.mono (by omega)) takesE (da_cons (de_var 0) (da_cons (de_var 1) da_nil))) (da_cons (de_op add_ok (de_lst (da_cons de_int da_nil)) (de_op mul_ok (de_lst (da_cons de_int da_nil)) de_int)) da_nil))) da_nil)))
    (dss_cons (ds_set [2] sc_law.nd rfl (by first | exact Or.inl rfl | exact Or.inr rfl) (de_fn w__law_deed_row (hr.mono (by omega)) takesE (da_cons (de_var 2) da_nil)))
    (dss_one (ds_if [2, 3] (dt_of (dt_or (dt_not (dt_val (de_fn w__law_same (hr.mono (by omega)) takesE (da_cons (de_fn w_deed_text (hr.mono (by omega)) takesE (da_cons (de_var 2) da_nil)) (da_cons (de_var 3) da_nil))))) (dt_or1 (dt_not (dt_val (de_fn w__law_same (hr.mono (by omega)) takesE (da_cons (de_fn w_read_deed (hr.mono (by omega)) takesE (da_cons (de_var 3) da_nil)) (da_cons (de_var 2) da_nil)))))))) (dss_one (ds_ret [] de_bl)) dss_nil)))))
    (dss_one (ds_ret [] de_bl)))
end K42
set_option Elab.async false
set_option linter.all false
set_option maxRecDepth 100000
namespace Cm
open PySem De

theorem small_of {i : Int} (h : -18446744073709551616 < i) (h2 : i < 18446744073709551616) : De.small64 i = true := by
  unfold De.small64
  rw [decide_eq_true h, decide_eq_true h2]; rfl
theorem szOk_of {n : Nat} (h : n ≤ 16777216) : szOk n = true := decide_eq_true h
theorem atI_nat' {xs : List D} {j : Nat} {v : D} (h : xs[j]? = some v) : L2.atI xs (j : Int) = some v := L2.atI_nat h
theorem mixed_ok (a k : Int) (ha : De.small64 a = true) : F__law_mixed [.int a, .int k] = .ok (.int ((a * a % 2147483647 * (a % 65521 + 3) + k * 7919 + 131) % 2147483647)) := by
  have h1 : De.small64 (a % 65521 + 3) = true := small_of (by omega) (by omega)
  have h2 : De.small64 7919 = true := by decide
  have h3 : (0 : Int) < 2147483647 := by decide
  have h4 : (0 : Int) < 65521 := by decide
  simp only [runF, env0, endF, seqS, asgS, retS, ifS, nilS, brkS, cntS, drpS, mutS, forS, unpS, parS, keepM, frzM, gApp, op2, op1, vr, cI, cS, cB, cN, cT, De.get, Res.bind, lift, tst, toB, andB, orB, notB, andV, orV, notV, ifV, chn, consA, nilA, lstA, tupA, calA, fnA, strM, tgetA, lcA, itm, rngA, prtN, prtE, prtI, slA, dI, g1, g2, frz, frz_lst, frz_tup, frz_rol, frzs, frzs_ints, frzs_strs, frzs_app, frzs_len, af, af.afs, afs_ints, afs_strs, frzs_bls, dAll_map, dAny_map, all_tt, List.map_cons, List.map_nil, List.length_cons, List.length_nil, List.cons_append, List.nil_append, List.replicate, List.getElem?_cons_zero, List.getElem?_cons_succ, List.set_cons_zero, List.set_cons_succ, List.set, if_true, if_false, Bool.or_true, Bool.true_or, Bool.or_false, Bool.false_or, Bool.and_true, Bool.true_and, Bool.and_false, Bool.false_and, Bool.not_true, Bool.not_false, Option.map_some, Option.map_none, Option.bind_some, Option.bind_none, List.length_map, reduceIte, itemsL, itemsT, Option.map, Option.bind, Tg.bind, setN, List.append_nil, Nat.sub_zero, Nat.zero_add, ite_true, ite_false, Nat.zero_le, Nat.reduceAdd, Nat.reduceLeDiff, Nat.reduceSub, Nat.reduceMul, Nat.reduceEqDiff, Int.reduceLT, Int.reduceLE, Bool.false_eq_true, reduceCtorEq, and_true, true_and, and_self, F__law_mixed, s__law_mixed, dMul, dMod, dAdd, ha, h1, h2, h3, h4]
/-- some cell of a script -/
theorem cell_ok (ns : List Int) (k : Nat) (hl : ns.length ≤ 16777216) (hk : k < 1000000) : ∃ c, F__law_cell [.rol (ns.map .int), .int k] = .ok (.int c) := by
  have h2 : De.small64 7919 = true := by decide
  have h3 : De.small64 104729 = true := by decide
  by_cases h : k < ns.length
  · have h1 : ((k : Int) < (ns.length : Int)) := by omega
    have h4 : L2.atI (ns.map D.int) (k : Int) = some (.int ns[k]) := atI_nat' (by rw [List.getElem?_map, List.getElem?_eq_getElem h]; rfl)
    refine ⟨ns[k], ?_⟩
    simp only [runF, env0, endF, seqS, asgS, retS, ifS, nilS, brkS, cntS, drpS, mutS, forS, unpS, parS, keepM, frzM, gApp, op2, op1, vr, cI, cS, cB, cN, cT, De.get, Res.bind, lift, tst, toB, andB, orB, notB, andV, orV, notV, ifV, chn, consA, nilA, lstA, tupA, calA, fnA, strM, tgetA, lcA, itm, rngA, prtN, prtE, prtI, slA, dI, g1, g2, frz, frz_lst, frz_tup, frz_rol, frzs, frzs_ints, frzs_strs, frzs_app, frzs_len, af, af.afs, afs_ints, afs_strs, frzs_bls, dAll_map, dAny_map, all_tt, List.map_cons, List.map_nil, List.length_cons, List.length_nil, List.cons_append, List.nil_append, List.replicate, List.getElem?_cons_zero, List.getElem?_cons_succ, List.set_cons_zero, List.set_cons_succ, List.set, if_true, if_false, Bool.or_true, Bool.true_or, Bool.or_false, Bool.false_or, Bool.and_true, Bool.true_and, Bool.and_false, Bool.false_and, Bool.not_true, Bool.not_false, Option.map_some, Option.map_none, Option.bind_some, Option.bind_none, List.length_map, reduceIte, itemsL, itemsT, Option.map, Option.bind, Tg.bind, setN, List.append_nil, Nat.sub_zero, Nat.zero_add, ite_true, ite_false, Nat.zero_le, Nat.reduceAdd, Nat.reduceLeDiff, Nat.reduceSub, Nat.reduceMul, Nat.reduceEqDiff, Int.reduceLT, Int.reduceLE, Bool.false_eq_true, reduceCtorEq, and_true, true_and, and_self, F__law_cell, s__law_cell, dLt, dLen, dIx, seqOf, h1, decide_true, h4]
  · have h1 : ¬ ((k : Int) < (ns.length : Int)) := by omega
    by_cases h0 : ns.length = 0
    · have h5 : (((ns.length : Nat) : Int) = 0) = True := eq_true (by omega)
      refine ⟨7919 * k, ?_⟩
      simp only [runF, env0, endF, seqS, asgS, retS, ifS, nilS, brkS, cntS, drpS, mutS, forS, unpS, parS, keepM, frzM, gApp, op2, op1, vr, cI, cS, cB, cN, cT, De.get, Res.bind, lift, tst, toB, andB, orB, notB, andV, orV, notV, ifV, chn, consA, nilA, lstA, tupA, calA, fnA, strM, tgetA, lcA, itm, rngA, prtN, prtE, prtI, slA, dI, g1, g2, frz, frz_lst, frz_tup, frz_rol, frzs, frzs_ints, frzs_strs, frzs_app, frzs_len, af, af.afs, afs_ints, afs_strs, frzs_bls, dAll_map, dAny_map, all_tt, List.map_cons, List.map_nil, List.length_cons, List.length_nil, List.cons_append, List.nil_append, List.replicate, List.getElem?_cons_zero, List.getElem?_cons_succ, List.set_cons_zero, List.set_cons_succ, List.set, if_true, if_false, Bool.or_true, Bool.true_or, Bool.or_false, Bool.false_or, Bool.and_true, Bool.true_and, Bool.and_false, Bool.false_and, Bool.not_true, Bool.not_false, Option.map_some, Option.map_none, Option.bind_some, Option.bind_none, List.length_map, reduceIte, itemsL, itemsT, Option.map, Option.bind, Tg.bind, setN, List.append_nil, Nat.sub_zero, Nat.zero_add, ite_true, ite_false, Nat.zero_le, Nat.reduceAdd, Nat.reduceLeDiff, Nat.reduceSub, Nat.reduceMul, Nat.reduceEqDiff, Int.reduceLT, Int.reduceLE, Bool.false_eq_true, reduceCtorEq, and_true, true_and, and_self, F__law_cell, s__law_cell, dLt, dLen, dIx, dEq, dMul, h2, seqOf, h1, decide_false, h5, decide_true]
    · have h6 : 0 < (ns.length : Int) := by omega
      have h7 : ¬ ((ns.length : Int) = 0) := by omega
      have hm : k % ns.length < ns.length := Nat.mod_lt _ (by omega)
      have h4 : L2.atI (ns.map D.int) ((k : Int) % (ns.length : Int)) = some (.int ns[k % ns.length]) := by
        rw [← Int.natCast_emod]
        exact atI_nat' (by rw [List.getElem?_map, List.getElem?_eq_getElem hm]; rfl)
      refine ⟨ns[k % ns.length] + 104729 * k, ?_⟩
      simp only [runF, env0, endF, seqS, asgS, retS, ifS, nilS, brkS, cntS, drpS, mutS, forS, unpS, parS, keepM, frzM, gApp, op2, op1, vr, cI, cS, cB, cN, cT, De.get, Res.bind, lift, tst, toB, andB, orB, notB, andV, orV, notV, ifV, chn, consA, nilA, lstA, tupA, calA, fnA, strM, tgetA, lcA, itm, rngA, prtN, prtE, prtI, slA, dI, g1, g2, frz, frz_lst, frz_tup, frz_rol, frzs, frzs_ints, frzs_strs, frzs_app, frzs_len, af, af.afs, afs_ints, afs_strs, frzs_bls, dAll_map, dAny_map, all_tt, List.map_cons, List.map_nil, List.length_cons, List.length_nil, List.cons_append, List.nil_append, List.replicate, List.getElem?_cons_zero, List.getElem?_cons_succ, List.set_cons_zero, List.set_cons_succ, List.set, if_true, if_false, Bool.or_true, Bool.true_or, Bool.or_false, Bool.false_or, Bool.and_true, Bool.true_and, Bool.and_false, Bool.false_and, Bool.not_true, Bool.not_false, Option.map_some, Option.map_none, Option.bind_some, Option.bind_none, List.length_map, reduceIte, itemsL, itemsT, Option.map, Option.bind, Tg.bind, setN, List.append_nil, Nat.sub_zero, Nat.zero_add, ite_true, ite_false, Nat.zero_le, Nat.reduceAdd, Nat.reduceLeDiff, Nat.reduceSub, Nat.reduceMul, Nat.reduceEqDiff, Int.reduceLT, Int.reduceLE, Bool.false_eq_true, reduceCtorEq, and_true, true_and, and_self, F__law_cell, s__law_cell, dLt, dLen, dIx, dEq, dMul, dMod, dAdd, h2, h3, seqOf, h1, h6, h7, h4, decide_false, decide_true]
/-- drawn numbers under their limits -/
def Bd (ds ls : List Int) : Prop := ds.length = ls.length ∧ ∀ (i : Nat) d l, ds[i]? = some d → ls[i]? = some l → 0 ≤ d ∧ d < l
theorem Bd.nil : Bd [] [] := ⟨rfl, fun i d l h _ => absurd (show (none : Option Int) = some d from h) (by simp)⟩
theorem Bd.snoc {ds ls : List Int} {d l : Int} (h : Bd ds ls) (h1 : 0 ≤ d) (h2 : d < l) : Bd (ds ++ [d]) (ls ++ [l]) := by
  refine ⟨by rw [List.length_append, List.length_append, h.1]; rfl, fun i a b ha hb => ?_⟩
  by_cases hi : i < ds.length
  · rw [List.getElem?_append_left hi] at ha
    rw [List.getElem?_append_left (by rw [← h.1]; exact hi)] at hb
    exact h.2 i a b ha hb
  · rw [List.getElem?_append_right (by omega)] at ha
    rw [List.getElem?_append_right (by rw [← h.1]; omega), ← h.1] at hb
    cases hk : i - ds.length with
    | zero =>
      rw [hk] at ha hb
      cases ha; cases hb
      exact ⟨h1, h2⟩
    | succ n => rw [hk] at ha; simp at ha
theorem draw_ok (c : Int) (ls : List Int) (hl : ∀ l ∈ ls, 0 < l ∧ l < 1073741824) (hn : ls.length ≤ 1000000) : ∃ ds, F__law_draw [.int c, .lst false (ls.map .int)] = .ok (.lst false (ds.map .int)) ∧ Bd ds ls := by
  let I : List D → De.Env → Prop := fun pre ρ => ∃ ps r s ds x, pre = ps.map D.int ∧ ρ = [some (.int c), some (.lst false (ls.map .int)), some (.int r), some (.int s), some (.lst true (ds.map .int)), x] ∧ 0 ≤ r ∧ 0 ≤ s ∧ s < 2147483647 ∧ Bd ds ps
  have e18 : ((10 : Int) ^ (18 : Int).toNat) = 1000000000000000000 := by decide
  have h3 : (0 : Int) < 2147483647 := by decide
  have h2 : De.small64 2654435 = true := by decide
  have h61 : (0 : Int) < 61 ∧ (61 : Int) < 1073741824 := by decide
  have h18 : (0 : Int) ≤ 18 ∧ (18 : Int) ≤ 1000000 ∧ (10 : Int).natAbs < 18446744073709551616 := by decide
  have loop : ∀ (r s : Int), 0 ≤ r → 0 ≤ s → s < 2147483647 → ∃ r' s' ds x, forGo (.one 5) b1__law_draw (ls.map D.int) [some (.int c), some (.lst false (ls.map .int)), some (.int r), some (.int s), some (.lst true []), none] = .nx [some (.int c), some (.lst false (ls.map .int)), some (.int r'), some (.int s'), some (.lst true (ds.map .int)), x] ∧ Bd ds ls := by
    intro r s hr hs hs2
    have key : ∃ ρ', forGo (.one 5) b1__law_draw (ls.map D.int) [some (.int c), some (.lst false (ls.map .int)), some (.int r), some (.int s), some (.lst true []), none] = .nx ρ' ∧ I (ls.map D.int) ρ' := by
      refine forGo_all I (ls.map D.int) ⟨[], r, s, [], none, rfl, rfl, hr, hs, hs2, .nil⟩ ?_
      rintro pre d post ρ ⟨ps, r, s, ds, x, rfl, rfl, hr, hs, hs2, hb⟩ hall
      obtain ⟨l, hlm, rfl⟩ := List.mem_map.mp (show d ∈ ls.map D.int by rw [hall]; simp)
      obtain ⟨l0, l1⟩ := hl l hlm
      have hz : ds.length < 16777216 := by
        have := congrArg List.length hall
        rw [List.length_map, List.length_append, List.length_map, List.length_cons] at this
        have := hb.1
        omega
      by_cases hr0 : 0 < r
      · refine ⟨_, [some (.int c), some (.lst false (ls.map .int)), some (.int (r / l)), some (.int s), some (.lst true ((ds ++ [r % l]).map .int)), some (.int l)], rfl, .inl ?_, ps ++ [l], r / l, s, ds ++ [r % l], _, by simp, rfl, Int.ediv_nonneg hr (by omega), hs, hs2, hb.snoc (Int.emod_nonneg _ (by omega)) (Int.emod_lt_of_pos _ l0)⟩
        have hl2 : 0 < l ∧ l < 1073741824 := ⟨l0, l1⟩
        simp only [runF, env0, endF, seqS, asgS, retS, ifS, nilS, brkS, cntS, drpS, mutS, forS, unpS, parS, keepM, frzM, gApp, op2, op1, vr, cI, cS, cB, cN, cT, De.get, Res.bind, lift, tst, toB, andB, orB, notB, andV, orV, notV, ifV, chn, consA, nilA, lstA, tupA, calA, fnA, strM, tgetA, lcA, itm, rngA, prtN, prtE, prtI, slA, dI, g1, g2, frz, frz_lst, frz_tup, frz_rol, frzs, frzs_ints, frzs_strs, frzs_app, frzs_len, af, af.afs, afs_ints, afs_strs, frzs_bls, dAll_map, dAny_map, all_tt, List.map_cons, List.map_nil, List.length_cons, List.length_nil, List.cons_append, List.nil_append, List.replicate, List.getElem?_cons_zero, List.getElem?_cons_succ, List.set_cons_zero, List.set_cons_succ, List.set, if_true, if_false, Bool.or_true, Bool.true_or, Bool.or_false, Bool.false_or, Bool.and_true, Bool.true_and, Bool.and_false, Bool.false_and, Bool.not_true, Bool.not_false, Option.map_some, Option.map_none, Option.bind_some, Option.bind_none, List.length_map, reduceIte, itemsL, itemsT, Option.map, Option.bind, Tg.bind, setN, List.append_nil, Nat.sub_zero, Nat.zero_add, ite_true, ite_false, Nat.zero_le, Nat.reduceAdd, Nat.reduceLeDiff, Nat.reduceSub, Nat.reduceMul, Nat.reduceEqDiff, Int.reduceLT, Int.reduceLE, Bool.false_eq_true, reduceCtorEq, and_true, true_and, and_self, b1__law_draw, dGt, hr0, decide_true, dMod, l0, l1, dFdv, hz, List.map_append, hl2, and_self]
      · have hsm : De.small64 s = true := small_of (by omega) (by omega)
        have hmx := mixed_ok s ds.length hsm
        refine ⟨_, [some (.int c), some (.lst false (ls.map .int)), some (.int r), some (.int ((s * s % 2147483647 * (s % 65521 + 3) + ds.length * 7919 + 131) % 2147483647)), some (.lst true ((ds ++ [(s * s % 2147483647 * (s % 65521 + 3) + ds.length * 7919 + 131) % 2147483647 / 61 % l]).map .int)), some (.int l)], rfl, .inl ?_, ps ++ [l], r, _, ds ++ [(s * s % 2147483647 * (s % 65521 + 3) + ds.length * 7919 + 131) % 2147483647 / 61 % l], _, by simp, rfl, hr, Int.emod_nonneg _ (by decide), Int.emod_lt_of_pos _ (by decide), hb.snoc (Int.emod_nonneg _ (by omega)) (Int.emod_lt_of_pos _ l0)⟩
        simp only [runF, env0, endF, seqS, asgS, retS, ifS, nilS, brkS, cntS, drpS, mutS, forS, unpS, parS, keepM, frzM, gApp, op2, op1, vr, cI, cS, cB, cN, cT, De.get, Res.bind, lift, tst, toB, andB, orB, notB, andV, orV, notV, ifV, chn, consA, nilA, lstA, tupA, calA, fnA, strM, tgetA, lcA, itm, rngA, prtN, prtE, prtI, slA, dI, g1, g2, frz, frz_lst, frz_tup, frz_rol, frzs, frzs_ints, frzs_strs, frzs_app, frzs_len, af, af.afs, afs_ints, afs_strs, frzs_bls, dAll_map, dAny_map, all_tt, List.map_cons, List.map_nil, List.length_cons, List.length_nil, List.cons_append, List.nil_append, List.replicate, List.getElem?_cons_zero, List.getElem?_cons_succ, List.set_cons_zero, List.set_cons_succ, List.set, if_true, if_false, Bool.or_true, Bool.true_or, Bool.or_false, Bool.false_or, Bool.and_true, Bool.true_and, Bool.and_false, Bool.false_and, Bool.not_true, Bool.not_false, Option.map_some, Option.map_none, Option.bind_some, Option.bind_none, List.length_map, reduceIte, itemsL, itemsT, Option.map, Option.bind, Tg.bind, setN, List.append_nil, Nat.sub_zero, Nat.zero_add, ite_true, ite_false, Nat.zero_le, Nat.reduceAdd, Nat.reduceLeDiff, Nat.reduceSub, Nat.reduceMul, Nat.reduceEqDiff, Int.reduceLT, Int.reduceLE, Bool.false_eq_true, reduceCtorEq, and_true, true_and, and_self, b1__law_draw, dGt, hr0, decide_false, dMod, l0, l1, dFdv, hz, List.map_append, dLen, hmx, h61, and_self]
    obtain ⟨ρ', e, ps, r', s', ds, x, e1, rfl, _, _, _, hb⟩ := key
    have e2 : ls = ps := by
      have := congrArg intsD e1
      have back : ∀ l : List Int, intsD (l.map D.int) = some l := fun l => by
        induction l with
        | nil => rfl
        | cons a l ih => show (intsD (l.map D.int)).map (a :: ·) = _; rw [ih]; rfl
      rw [back, back] at this
      exact Option.some.inj this
    subst e2
    exact ⟨r', s', ds, x, e, hb⟩
  by_cases hc : 1000000000000000000 ≤ c
  · obtain ⟨r', s', ds, x, e, hb⟩ := loop c (((if c < 0 then -c else c) * 2654435 + 40503) % 2147483647) (by omega) (Int.emod_nonneg _ (by decide)) (Int.emod_lt_of_pos _ (by decide))
    refine ⟨ds, ?_, hb⟩
    simp only [runF, env0, endF, seqS, asgS, retS, ifS, nilS, brkS, cntS, drpS, mutS, forS, unpS, parS, keepM, frzM, gApp, op2, op1, vr, cI, cS, cB, cN, cT, De.get, Res.bind, lift, tst, toB, andB, orB, notB, andV, orV, notV, ifV, chn, consA, nilA, lstA, tupA, calA, fnA, strM, tgetA, lcA, itm, rngA, prtN, prtE, prtI, slA, dI, g1, g2, frz, frz_lst, frz_tup, frz_rol, frzs, frzs_ints, frzs_strs, frzs_app, frzs_len, af, af.afs, afs_ints, afs_strs, frzs_bls, dAll_map, dAny_map, all_tt, List.map_cons, List.map_nil, List.length_cons, List.length_nil, List.cons_append, List.nil_append, List.replicate, List.getElem?_cons_zero, List.getElem?_cons_succ, List.set_cons_zero, List.set_cons_succ, List.set, if_true, if_false, Bool.or_true, Bool.true_or, Bool.or_false, Bool.false_or, Bool.and_true, Bool.true_and, Bool.and_false, Bool.false_and, Bool.not_true, Bool.not_false, Option.map_some, Option.map_none, Option.bind_some, Option.bind_none, List.length_map, reduceIte, itemsL, itemsT, Option.map, Option.bind, Tg.bind, setN, List.append_nil, Nat.sub_zero, Nat.zero_add, ite_true, ite_false, Nat.zero_le, Nat.reduceAdd, Nat.reduceLeDiff, Nat.reduceSub, Nat.reduceMul, Nat.reduceEqDiff, Int.reduceLT, Int.reduceLE, Bool.false_eq_true, reduceCtorEq, and_true, true_and, and_self, F__law_draw, s__law_draw, dGe, dPow, h18, and_self, e18, hc, decide_true, dAbs, dMul, h2, dAdd, dMod, h3, itD, e]
  · obtain ⟨r', s', ds, x, e, hb⟩ := loop 0 (((if c < 0 then -c else c) * 2654435 + 40503) % 2147483647) (by omega) (Int.emod_nonneg _ (by decide)) (Int.emod_lt_of_pos _ (by decide))
    refine ⟨ds, ?_, hb⟩
    simp only [runF, env0, endF, seqS, asgS, retS, ifS, nilS, brkS, cntS, drpS, mutS, forS, unpS, parS, keepM, frzM, gApp, op2, op1, vr, cI, cS, cB, cN, cT, De.get, Res.bind, lift, tst, toB, andB, orB, notB, andV, orV, notV, ifV, chn, consA, nilA, lstA, tupA, calA, fnA, strM, tgetA, lcA, itm, rngA, prtN, prtE, prtI, slA, dI, g1, g2, frz, frz_lst, frz_tup, frz_rol, frzs, frzs_ints, frzs_strs, frzs_app, frzs_len, af, af.afs, afs_ints, afs_strs, frzs_bls, dAll_map, dAny_map, all_tt, List.map_cons, List.map_nil, List.length_cons, List.length_nil, List.cons_append, List.nil_append, List.replicate, List.getElem?_cons_zero, List.getElem?_cons_succ, List.set_cons_zero, List.set_cons_succ, List.set, if_true, if_false, Bool.or_true, Bool.true_or, Bool.or_false, Bool.false_or, Bool.and_true, Bool.true_and, Bool.and_false, Bool.false_and, Bool.not_true, Bool.not_false, Option.map_some, Option.map_none, Option.bind_some, Option.bind_none, List.length_map, reduceIte, itemsL, itemsT, Option.map, Option.bind, Tg.bind, setN, List.append_nil, Nat.sub_zero, Nat.zero_add, ite_true, ite_false, Nat.zero_le, Nat.reduceAdd, Nat.reduceLeDiff, Nat.reduceSub, Nat.reduceMul, Nat.reduceEqDiff, Int.reduceLT, Int.reduceLE, Bool.false_eq_true, reduceCtorEq, and_true, true_and, and_self, F__law_draw, s__law_draw, dGe, dPow, h18, and_self, e18, hc, decide_false, dAbs, dMul, h2, dAdd, dMod, h3, itD, e]
end Cm
set_option Elab.async false
set_option linter.all false
set_option maxRecDepth 100000
namespace Cm
open PySem De

/-! ### _law_same of a thing and itself -/
def flat : D → Bool
  | .non => true
  | .bl _ => true
  | .int _ => true
  | .str _ => true
  | _ => false
def rf : Nat → D → Prop
  | 0, d => flat d = true
  | n + 1, d => flat d = true ∨ ∃ ds, (d = .lst false ds ∨ d = .tup ds) ∧ ds.length ≤ 16777216 ∧ ∀ x ∈ ds, rf n x
theorem flat_frz {d : D} (h : flat d = true) : frz d = d := by cases d <;> first | rfl | cases h
theorem map_id {f : D → D} : ∀ {ds : List D}, (∀ x ∈ ds, f x = x) → ds.map f = ds
  | [], _ => rfl
  | d :: ds, h => by rw [List.map_cons, h d (List.mem_cons_self ..), map_id fun x hx => h x (List.mem_cons_of_mem _ hx)]
theorem rf_frz : ∀ (n : Nat) (d : D), rf n d → frz d = d
  | 0, d, h => flat_frz h
  | n + 1, d, h => by
    rcases h with h | ⟨ds, h, _, hs⟩
    · exact flat_frz h
    · have e : frzs ds = ds := by rw [frzs_eq]; exact map_id fun x hx => rf_frz n x (hs x hx)
      rcases h with rfl | rfl
      · rw [frz_lst, e]
      · rw [frz_tup, e]
theorem num_int (i : Int) : F__law_num [.int i] = .ok (.bl true) := by
  have h1 : dIsi (.int i) (.ty "int") = some (.bl true) := rfl
  have h2 : dIsi (.int i) (.ty "bool") = some (.bl false) := rfl
  simp only [runF, env0, endF, seqS, asgS, retS, ifS, nilS, brkS, cntS, drpS, mutS, forS, unpS, parS, keepM, frzM, gApp, op2, op1, vr, cI, cS, cB, cN, cT, De.get, Res.bind, lift, tst, toB, andB, orB, notB, andV, orV, notV, ifV, chn, consA, nilA, lstA, tupA, calA, fnA, strM, tgetA, lcA, itm, rngA, prtN, prtE, prtI, slA, dI, g1, g2, frz, frz_lst, frz_tup, frz_rol, frzs, frzs_ints, frzs_strs, frzs_app, frzs_len, af, af.afs, afs_ints, afs_strs, frzs_bls, dAll_map, dAny_map, all_tt, List.map_cons, List.map_nil, List.length_cons, List.length_nil, List.cons_append, List.nil_append, List.replicate, List.getElem?_cons_zero, List.getElem?_cons_succ, List.set_cons_zero, List.set_cons_succ, List.set, if_true, if_false, Bool.or_true, Bool.true_or, Bool.or_false, Bool.false_or, Bool.and_true, Bool.true_and, Bool.and_false, Bool.false_and, Bool.not_true, Bool.not_false, Option.map_some, Option.map_none, Option.bind_some, Option.bind_none, List.length_map, reduceIte, itemsL, itemsT, Option.map, Option.bind, Tg.bind, setN, List.append_nil, Nat.sub_zero, Nat.zero_add, ite_true, ite_false, Nat.zero_le, Nat.reduceAdd, Nat.reduceLeDiff, Nat.reduceSub, Nat.reduceMul, Nat.reduceEqDiff, Int.reduceLT, Int.reduceLE, Bool.false_eq_true, reduceCtorEq, and_true, true_and, and_self, F__law_num, s__law_num, h1, h2]
theorem eqd_bl (b : Bool) : dEq (.bl b) (.bl b) = some (.bl true) := by cases b <;> rfl
theorem same_refl : ∀ (n : Nat) (d : D), rf n d → ∀ k, n < k → recF s__law_same 3 k [d, d] = .ok (.bl true)
  | n, d, h, 0, hk => absurd hk (by omega)
  | n, d, h, k + 1, hk => by
    have fl : flat d = true → recF s__law_same 3 (k + 1) [d, d] = .ok (.bl true) := by
      intro hf
      show runF (s__law_same (recF s__law_same 3 k)) 3 [d, d] = _
      cases d with
      | non =>
        have h1 : dIsN .non .non = some (.bl true) := rfl
        simp only [runF, env0, endF, seqS, asgS, retS, ifS, nilS, brkS, cntS, drpS, mutS, forS, unpS, parS, keepM, frzM, gApp, op2, op1, vr, cI, cS, cB, cN, cT, De.get, Res.bind, lift, tst, toB, andB, orB, notB, andV, orV, notV, ifV, chn, consA, nilA, lstA, tupA, calA, fnA, strM, tgetA, lcA, itm, rngA, prtN, prtE, prtI, slA, dI, g1, g2, frz, frz_lst, frz_tup, frz_rol, frzs, frzs_ints, frzs_strs, frzs_app, frzs_len, af, af.afs, afs_ints, afs_strs, frzs_bls, dAll_map, dAny_map, all_tt, List.map_cons, List.map_nil, List.length_cons, List.length_nil, List.cons_append, List.nil_append, List.replicate, List.getElem?_cons_zero, List.getElem?_cons_succ, List.set_cons_zero, List.set_cons_succ, List.set, if_true, if_false, Bool.or_true, Bool.true_or, Bool.or_false, Bool.false_or, Bool.and_true, Bool.true_and, Bool.and_false, Bool.false_and, Bool.not_true, Bool.not_false, Option.map_some, Option.map_none, Option.bind_some, Option.bind_none, List.length_map, reduceIte, itemsL, itemsT, Option.map, Option.bind, Tg.bind, setN, List.append_nil, Nat.sub_zero, Nat.zero_add, ite_true, ite_false, Nat.zero_le, Nat.reduceAdd, Nat.reduceLeDiff, Nat.reduceSub, Nat.reduceMul, Nat.reduceEqDiff, Int.reduceLT, Int.reduceLE, Bool.false_eq_true, reduceCtorEq, and_true, true_and, and_self, s__law_same, h1]
      | bl b =>
        have h1 : dIsN (.bl b) .non = some (.bl false) := rfl
        have h2 : dIsi (.bl b) (.ty "bool") = some (.bl true) := rfl
        simp only [runF, env0, endF, seqS, asgS, retS, ifS, nilS, brkS, cntS, drpS, mutS, forS, unpS, parS, keepM, frzM, gApp, op2, op1, vr, cI, cS, cB, cN, cT, De.get, Res.bind, lift, tst, toB, andB, orB, notB, andV, orV, notV, ifV, chn, consA, nilA, lstA, tupA, calA, fnA, strM, tgetA, lcA, itm, rngA, prtN, prtE, prtI, slA, dI, g1, g2, frz, frz_lst, frz_tup, frz_rol, frzs, frzs_ints, frzs_strs, frzs_app, frzs_len, af, af.afs, afs_ints, afs_strs, frzs_bls, dAll_map, dAny_map, all_tt, List.map_cons, List.map_nil, List.length_cons, List.length_nil, List.cons_append, List.nil_append, List.replicate, List.getElem?_cons_zero, List.getElem?_cons_succ, List.set_cons_zero, List.set_cons_succ, List.set, if_true, if_false, Bool.or_true, Bool.true_or, Bool.or_false, Bool.false_or, Bool.and_true, Bool.true_and, Bool.and_false, Bool.false_and, Bool.not_true, Bool.not_false, Option.map_some, Option.map_none, Option.bind_some, Option.bind_none, List.length_map, reduceIte, itemsL, itemsT, Option.map, Option.bind, Tg.bind, setN, List.append_nil, Nat.sub_zero, Nat.zero_add, ite_true, ite_false, Nat.zero_le, Nat.reduceAdd, Nat.reduceLeDiff, Nat.reduceSub, Nat.reduceMul, Nat.reduceEqDiff, Int.reduceLT, Int.reduceLE, Bool.false_eq_true, reduceCtorEq, and_true, true_and, and_self, s__law_same, h1, h2, eqd_bl]
      | int i =>
        have h1 : dIsN (.int i) .non = some (.bl false) := rfl
        have h2 : dIsi (.int i) (.ty "bool") = some (.bl false) := rfl
        have h3 : dIsi (.int i) (.ty "int") = some (.bl true) := rfl
        simp only [runF, env0, endF, seqS, asgS, retS, ifS, nilS, brkS, cntS, drpS, mutS, forS, unpS, parS, keepM, frzM, gApp, op2, op1, vr, cI, cS, cB, cN, cT, De.get, Res.bind, lift, tst, toB, andB, orB, notB, andV, orV, notV, ifV, chn, consA, nilA, lstA, tupA, calA, fnA, strM, tgetA, lcA, itm, rngA, prtN, prtE, prtI, slA, dI, g1, g2, frz, frz_lst, frz_tup, frz_rol, frzs, frzs_ints, frzs_strs, frzs_app, frzs_len, af, af.afs, afs_ints, afs_strs, frzs_bls, dAll_map, dAny_map, all_tt, List.map_cons, List.map_nil, List.length_cons, List.length_nil, List.cons_append, List.nil_append, List.replicate, List.getElem?_cons_zero, List.getElem?_cons_succ, List.set_cons_zero, List.set_cons_succ, List.set, if_true, if_false, Bool.or_true, Bool.true_or, Bool.or_false, Bool.false_or, Bool.and_true, Bool.true_and, Bool.and_false, Bool.false_and, Bool.not_true, Bool.not_false, Option.map_some, Option.map_none, Option.bind_some, Option.bind_none, List.length_map, reduceIte, itemsL, itemsT, Option.map, Option.bind, Tg.bind, setN, List.append_nil, Nat.sub_zero, Nat.zero_add, ite_true, ite_false, Nat.zero_le, Nat.reduceAdd, Nat.reduceLeDiff, Nat.reduceSub, Nat.reduceMul, Nat.reduceEqDiff, Int.reduceLT, Int.reduceLE, Bool.false_eq_true, reduceCtorEq, and_true, true_and, and_self, s__law_same, h1, h2, h3, num_int, dEq, decide_true]
      | str s =>
        have h1 : dIsN (.str s) .non = some (.bl false) := rfl
        have h2 : dIsi (.str s) (.ty "bool") = some (.bl false) := rfl
        have h3 : dIsi (.str s) (.ty "int") = some (.bl false) := rfl
        have h4 : dIsi (.str s) (.ty "str") = some (.bl true) := rfl
        simp only [runF, env0, endF, seqS, asgS, retS, ifS, nilS, brkS, cntS, drpS, mutS, forS, unpS, parS, keepM, frzM, gApp, op2, op1, vr, cI, cS, cB, cN, cT, De.get, Res.bind, lift, tst, toB, andB, orB, notB, andV, orV, notV, ifV, chn, consA, nilA, lstA, tupA, calA, fnA, strM, tgetA, lcA, itm, rngA, prtN, prtE, prtI, slA, dI, g1, g2, frz, frz_lst, frz_tup, frz_rol, frzs, frzs_ints, frzs_strs, frzs_app, frzs_len, af, af.afs, afs_ints, afs_strs, frzs_bls, dAll_map, dAny_map, all_tt, List.map_cons, List.map_nil, List.length_cons, List.length_nil, List.cons_append, List.nil_append, List.replicate, List.getElem?_cons_zero, List.getElem?_cons_succ, List.set_cons_zero, List.set_cons_succ, List.set, if_true, if_false, Bool.or_true, Bool.true_or, Bool.or_false, Bool.false_or, Bool.and_true, Bool.true_and, Bool.and_false, Bool.false_and, Bool.not_true, Bool.not_false, Option.map_some, Option.map_none, Option.bind_some, Option.bind_none, List.length_map, reduceIte, itemsL, itemsT, Option.map, Option.bind, Tg.bind, setN, List.append_nil, Nat.sub_zero, Nat.zero_add, ite_true, ite_false, Nat.zero_le, Nat.reduceAdd, Nat.reduceLeDiff, Nat.reduceSub, Nat.reduceMul, Nat.reduceEqDiff, Int.reduceLT, Int.reduceLE, Bool.false_eq_true, reduceCtorEq, and_true, true_and, and_self, s__law_same, h1, h2, h3, h4, dEq, decide_true]
      | _ => cases hf
    cases n with
    | zero => exact fl h
    | succ n =>
      rcases h with h | ⟨ds, hd, hz, hs⟩
      · exact fl h
      · have hk2 : n < k := by omega
        have fz := rf_frz (n + 1) d (.inr ⟨ds, hd, hz, hs⟩)
        have lc : lcGo (.one 2) yesB (e1__law_same (recF s__law_same 3 k)) [some d, some d, none] (rngD 0 ds.length) = some ((rngD 0 ds.length).map fun _ => .bl true) := by
          refine lcGo_map (fun _ => .bl true) _ fun x hx => ?_
          obtain ⟨i, hi, rfl⟩ := List.mem_map.mp hx
          have hi := List.mem_range.mp hi
          have ih := same_refl n ds[i] (hs _ (List.getElem_mem hi)) k hk2
          have fi := rf_frz n ds[i] (hs _ (List.getElem_mem hi))
          refine ⟨_, rfl, rfl, ?_⟩
          have h4 : L2.atI ds (0 + (i : Int)) = some ds[i] := by
            rw [Int.zero_add]; exact atI_nat' (List.getElem?_eq_getElem hi)
          rcases hd with rfl | rfl
          · have e : frzs ds = ds := by rw [frz_lst] at fz; exact (D.lst.inj fz).2
            simp only [runF, env0, endF, seqS, asgS, retS, ifS, nilS, brkS, cntS, drpS, mutS, forS, unpS, parS, keepM, frzM, gApp, op2, op1, vr, cI, cS, cB, cN, cT, De.get, Res.bind, lift, tst, toB, andB, orB, notB, andV, orV, notV, ifV, chn, consA, nilA, lstA, tupA, calA, fnA, strM, tgetA, lcA, itm, rngA, prtN, prtE, prtI, slA, dI, g1, g2, frz, frz_lst, frz_tup, frz_rol, frzs, frzs_ints, frzs_strs, frzs_app, frzs_len, af, af.afs, afs_ints, afs_strs, frzs_bls, dAll_map, dAny_map, all_tt, List.map_cons, List.map_nil, List.length_cons, List.length_nil, List.cons_append, List.nil_append, List.replicate, List.getElem?_cons_zero, List.getElem?_cons_succ, List.set_cons_zero, List.set_cons_succ, List.set, if_true, if_false, Bool.or_true, Bool.true_or, Bool.or_false, Bool.false_or, Bool.and_true, Bool.true_and, Bool.and_false, Bool.false_and, Bool.not_true, Bool.not_false, Option.map_some, Option.map_none, Option.bind_some, Option.bind_none, List.length_map, reduceIte, itemsL, itemsT, Option.map, Option.bind, Tg.bind, setN, List.append_nil, Nat.sub_zero, Nat.zero_add, ite_true, ite_false, Nat.zero_le, Nat.reduceAdd, Nat.reduceLeDiff, Nat.reduceSub, Nat.reduceMul, Nat.reduceEqDiff, Int.reduceLT, Int.reduceLE, Bool.false_eq_true, reduceCtorEq, and_true, true_and, and_self, e1__law_same, e, dIx, seqOf, h4, fi, ih]
          · have e : frzs ds = ds := by rw [frz_tup] at fz; exact D.tup.inj fz
            simp only [runF, env0, endF, seqS, asgS, retS, ifS, nilS, brkS, cntS, drpS, mutS, forS, unpS, parS, keepM, frzM, gApp, op2, op1, vr, cI, cS, cB, cN, cT, De.get, Res.bind, lift, tst, toB, andB, orB, notB, andV, orV, notV, ifV, chn, consA, nilA, lstA, tupA, calA, fnA, strM, tgetA, lcA, itm, rngA, prtN, prtE, prtI, slA, dI, g1, g2, frz, frz_lst, frz_tup, frz_rol, frzs, frzs_ints, frzs_strs, frzs_app, frzs_len, af, af.afs, afs_ints, afs_strs, frzs_bls, dAll_map, dAny_map, all_tt, List.map_cons, List.map_nil, List.length_cons, List.length_nil, List.cons_append, List.nil_append, List.replicate, List.getElem?_cons_zero, List.getElem?_cons_succ, List.set_cons_zero, List.set_cons_succ, List.set, if_true, if_false, Bool.or_true, Bool.true_or, Bool.or_false, Bool.false_or, Bool.and_true, Bool.true_and, Bool.and_false, Bool.false_and, Bool.not_true, Bool.not_false, Option.map_some, Option.map_none, Option.bind_some, Option.bind_none, List.length_map, reduceIte, itemsL, itemsT, Option.map, Option.bind, Tg.bind, setN, List.append_nil, Nat.sub_zero, Nat.zero_add, ite_true, ite_false, Nat.zero_le, Nat.reduceAdd, Nat.reduceLeDiff, Nat.reduceSub, Nat.reduceMul, Nat.reduceEqDiff, Int.reduceLT, Int.reduceLE, Bool.false_eq_true, reduceCtorEq, and_true, true_and, and_self, e1__law_same, e, dIx, seqOf, h4, fi, ih]
        have hj : (((ds.length : Nat) : Int) ≤ 16777216 ∧ -(2 ^ 62) ≤ ((ds.length : Nat) : Int)) = True := eq_true ⟨by omega, by omega⟩
        have ha : dAll (.lst false (frzs ((rngD 0 ds.length).map fun _ => D.bl true))) = some (.bl true) := by
          rw [frzs_bls, dAll_map]
          simp
        show runF (s__law_same (recF s__law_same 3 k)) 3 [d, d] = _
        rcases hd with rfl | rfl
        · have e : frzs ds = ds := by rw [frz_lst] at fz; exact (D.lst.inj fz).2
          have h1 : dIsN (.lst false ds) .non = some (.bl false) := rfl
          have h2 : dIsi (.lst false ds) (.ty "bool") = some (.bl false) := rfl
          have h3 : dIsi (.lst false ds) (.ty "int") = some (.bl false) := rfl
          have h4 : dIsi (.lst false ds) (.ty "str") = some (.bl false) := rfl
          have h5 : dIsi (.lst false ds) (.ty "tuple") = some (.bl false) := rfl
          have h6 : dIsi (.lst false ds) (.ty "list") = some (.bl true) := rfl
          simp only [runF, env0, endF, seqS, asgS, retS, ifS, nilS, brkS, cntS, drpS, mutS, forS, unpS, parS, keepM, frzM, gApp, op2, op1, vr, cI, cS, cB, cN, cT, De.get, Res.bind, lift, tst, toB, andB, orB, notB, andV, orV, notV, ifV, chn, consA, nilA, lstA, tupA, calA, fnA, strM, tgetA, lcA, itm, rngA, prtN, prtE, prtI, slA, dI, g1, g2, frz, frz_lst, frz_tup, frz_rol, frzs, frzs_ints, frzs_strs, frzs_app, frzs_len, af, af.afs, afs_ints, afs_strs, frzs_bls, dAll_map, dAny_map, all_tt, List.map_cons, List.map_nil, List.length_cons, List.length_nil, List.cons_append, List.nil_append, List.replicate, List.getElem?_cons_zero, List.getElem?_cons_succ, List.set_cons_zero, List.set_cons_succ, List.set, if_true, if_false, Bool.or_true, Bool.true_or, Bool.or_false, Bool.false_or, Bool.and_true, Bool.true_and, Bool.and_false, Bool.false_and, Bool.not_true, Bool.not_false, Option.map_some, Option.map_none, Option.bind_some, Option.bind_none, List.length_map, reduceIte, itemsL, itemsT, Option.map, Option.bind, Tg.bind, setN, List.append_nil, Nat.sub_zero, Nat.zero_add, ite_true, ite_false, Nat.zero_le, Nat.reduceAdd, Nat.reduceLeDiff, Nat.reduceSub, Nat.reduceMul, Nat.reduceEqDiff, Int.reduceLT, Int.reduceLE, Bool.false_eq_true, reduceCtorEq, and_true, true_and, and_self, s__law_same, h1, h2, h3, h4, h5, h6, e, dLen, dEq, decide_true, hj, Int.toNat_natCast, lc, ha]
        · have e : frzs ds = ds := by rw [frz_tup] at fz; exact D.tup.inj fz
          have h1 : dIsN (.tup ds) .non = some (.bl false) := rfl
          have h2 : dIsi (.tup ds) (.ty "bool") = some (.bl false) := rfl
          have h3 : dIsi (.tup ds) (.ty "int") = some (.bl false) := rfl
          have h4 : dIsi (.tup ds) (.ty "str") = some (.bl false) := rfl
          have h5 : dIsi (.tup ds) (.ty "tuple") = some (.bl true) := rfl
          have h6 : dIsi (.tup ds) (.ty "list") = some (.bl false) := rfl
          simp only [runF, env0, endF, seqS, asgS, retS, ifS, nilS, brkS, cntS, drpS, mutS, forS, unpS, parS, keepM, frzM, gApp, op2, op1, vr, cI, cS, cB, cN, cT, De.get, Res.bind, lift, tst, toB, andB, orB, notB, andV, orV, notV, ifV, chn, consA, nilA, lstA, tupA, calA, fnA, strM, tgetA, lcA, itm, rngA, prtN, prtE, prtI, slA, dI, g1, g2, frz, frz_lst, frz_tup, frz_rol, frzs, frzs_ints, frzs_strs, frzs_app, frzs_len, af, af.afs, afs_ints, afs_strs, frzs_bls, dAll_map, dAny_map, all_tt, List.map_cons, List.map_nil, List.length_cons, List.length_nil, List.cons_append, List.nil_append, List.replicate, List.getElem?_cons_zero, List.getElem?_cons_succ, List.set_cons_zero, List.set_cons_succ, List.set, if_true, if_false, Bool.or_true, Bool.true_or, Bool.or_false, Bool.false_or, Bool.and_true, Bool.true_and, Bool.and_false, Bool.false_and, Bool.not_true, Bool.not_false, Option.map_some, Option.map_none, Option.bind_some, Option.bind_none, List.length_map, reduceIte, itemsL, itemsT, Option.map, Option.bind, Tg.bind, setN, List.append_nil, Nat.sub_zero, Nat.zero_add, ite_true, ite_false, Nat.zero_le, Nat.reduceAdd, Nat.reduceLeDiff, Nat.reduceSub, Nat.reduceMul, Nat.reduceEqDiff, Int.reduceLT, Int.reduceLE, Bool.false_eq_true, reduceCtorEq, and_true, true_and, and_self, s__law_same, h1, h2, h3, h4, h5, h6, e, dLen, dEq, decide_true, hj, Int.toNat_natCast, lc, ha]
theorem same_ok {d : D} (h : rf 7 d) : F__law_same [d, d] = .ok (.bl true) := same_refl 7 d h 8 (by decide)
end Cm
set_option Elab.async false
set_option linter.all false
set_option maxRecDepth 100000
namespace Cm
open PySem De

/-! ### words and numbers as the law draws them -/
def W8 (s : Str) : Prop := 1 ≤ s.length ∧ s.length ≤ 8 ∧ ∀ c ∈ s.cps.toList, 97 ≤ c ∧ c ≤ 122
/-- drawn numbers: from nought, small -/
def Sm (es : List Int) : Prop := ∀ e ∈ es, 0 ≤ e ∧ e < 100000
theorem Sm.drop {es : List Int} (h : Sm es) (k : Nat) : Sm (es.drop k) := fun e he => h e (List.mem_of_mem_drop he)
theorem at3 {es : List Int} (h : 3 ≤ es.length) : ∃ a b c r, es = a :: b :: c :: r := by
  match es, h with
  | a :: b :: c :: r, _ => exact ⟨a, b, c, r, rfl⟩
abbrev abc : Str := "abcdefghijklmnopqrstuvwxyz"
theorem abc_at (j : Nat) (h : j < 26) : dIx (.str abc) (.int (j : Int)) = some (.str ⟨#[97 + j]⟩) := by
  have key : ∀ j : Nat, j < 26 → abc.cps.toList[j]? = some (97 + j) := by decide +kernel
  have e := L2.atI_nat (key j h)
  have z : szOk abc.length = true := by decide +kernel
  rw [dIx_str, if_pos z, e]; rfl
theorem at0 (a : D) (r : List D) : L2.atI (a :: r) 0 = some a := atI_nat' (j := 0) rfl
theorem at1 (a b : D) (r : List D) : L2.atI (a :: b :: r) 1 = some b := atI_nat' (j := 1) rfl
theorem at2 (a b c : D) (r : List D) : L2.atI (a :: b :: c :: r) 2 = some c := atI_nat' (j := 2) rfl
theorem at3' (a b c d : D) (r : List D) : L2.atI (a :: b :: c :: d :: r) 3 = some d := atI_nat' (j := 3) rfl
theorem at4 (a b c d e : D) (r : List D) : L2.atI (a :: b :: c :: d :: e :: r) 4 = some e := atI_nat' (j := 4) rfl
/-- joined single signs -/
theorem join_ones (cs : List Nat) : (Txt.join ("" : Str) (cs.map fun c => ⟨#[c]⟩)).cps.toList = cs := by
  rw [TL.join_eq]
  have e := TL.tl_join ("" : Str) (cs.map fun c => (⟨#[c]⟩ : Str))
  rw [show (Str.join ("" : Str) (cs.map fun c => (⟨#[c]⟩ : Str))).cps.toList = _ from e, List.map_map]
  have e0 : TL.tl ("" : Str) = [] := by decide +kernel
  rw [e0]
  have key : ∀ l : List Nat, TL.joinL [] (l.map (TL.tl ∘ fun c => (⟨#[c]⟩ : Str))) = l := by
    intro l
    induction l with
    | nil => rfl
    | cons a l ih =>
      cases l with
      | nil => rfl
      | cons b l =>
        show [a] ++ ([] ++ TL.joinL [] ((b :: l).map (TL.tl ∘ fun c => (⟨#[c]⟩ : Str)))) = _
        rw [ih]; rfl
  exact key cs
theorem dJoin_strs (a : Str) (ys : List Str) (h : (ys.map (·.length)).sum + ys.length * a.length ≤ 16777216) : dJoin a (.lst false (ys.map D.str)) = some (.str (Txt.join a ys)) := by
  show (strsD (ys.map D.str)).bind _ = _
  rw [strsD_map]
  exact if_pos h
theorem dJoin_tup (a : Str) (ys : List Str) (h : (ys.map (·.length)).sum + ys.length * a.length ≤ 16777216) : dJoin a (.tup (ys.map D.str)) = some (.str (Txt.join a ys)) := by
  show (strsD (ys.map D.str)).bind _ = _
  rw [strsD_map]
  exact if_pos h
theorem sum_le {l : List Nat} {k : Nat} (h : ∀ x ∈ l, x ≤ k) : l.sum ≤ l.length * k := by
  induction l with
  | nil => simp
  | cons a l ih =>
    have h1 := h a (List.mem_cons_self ..)
    have h2 := ih fun x hx => h x (List.mem_cons_of_mem _ hx)
    rw [List.sum_cons, List.length_cons, Nat.add_mul, Nat.one_mul]
    omega
theorem word_ok {es : List Int} (h3 : 3 ≤ es.length) (hs : Sm es) : ∃ s, F__law_text_word [.lst false (es.map .int)] = .ok (.str s) ∧ W8 s := by
  obtain ⟨a, b, c, r, rfl⟩ := at3 h3
  obtain ⟨ha0, ha1⟩ := hs a (by simp)
  obtain ⟨hb0, hb1⟩ := hs b (by simp)
  obtain ⟨hc0, hc1⟩ := hs c (by simp)
  let n : Nat := (1 + a % 8).toNat
  have hn1 : 1 ≤ n := by show 1 ≤ (1 + a % 8).toNat; omega
  have hn8 : n ≤ 8 := by show (1 + a % 8).toNat ≤ 8; omega
  let cs : List Nat := (List.range n).map fun (i : Nat) => 97 + ((b + c * (i : Nat)) % 26).toNat
  have e8 : (0 : Int) < 8 := by decide
  have e26 : (0 : Int) < 26 := by decide
  have lc : lcGo (.one 2) yesB e1__law_text_word [some (.lst false (D.int a :: D.int b :: D.int c :: r.map .int)), some (.str abc), none] (rngD 0 n) = some ((List.range n).map fun (i : Nat) => D.str ⟨#[97 + ((b + c * (i : Nat)) % 26).toNat]⟩) := by
    refine lcGo_rng _ 0 n fun i hi => ⟨_, rfl, rfl, ?_⟩
    have hx : dIx (.str abc) (.int ((b + c * i) % 26)) = some (.str ⟨#[97 + ((b + c * i) % 26).toNat]⟩) := by
      have hlt : ((b + c * i) % 26).toNat < 26 := by omega
      have e := abc_at _ hlt
      rwa [Int.toNat_of_nonneg (Int.emod_nonneg _ (by decide))] at e
    have h1 : dIx (.lst false (D.int a :: D.int b :: D.int c :: r.map .int)) (.int 1) = some (.int b) := (dIx_lst _ _).trans (at1 ..)
    have h2 : dIx (.lst false (D.int a :: D.int b :: D.int c :: r.map .int)) (.int 2) = some (.int c) := (dIx_lst _ _).trans (at2 ..)
    have hm : De.small64 c = true := small_of (by omega) (by omega)
    simp only [runF, env0, endF, seqS, asgS, retS, ifS, nilS, brkS, cntS, drpS, mutS, forS, unpS, parS, keepM, frzM, gApp, op2, op1, vr, cI, cS, cB, cN, cT, De.get, Res.bind, lift, tst, toB, andB, orB, notB, andV, orV, notV, ifV, chn, consA, nilA, lstA, tupA, calA, fnA, strM, tgetA, lcA, itm, rngA, prtN, prtE, prtI, slA, dI, g1, g2, frz, frz_lst, frz_tup, frz_rol, frzs, frzs_ints, frzs_strs, frzs_app, frzs_len, af, af.afs, afs_ints, afs_strs, frzs_bls, dAll_map, dAny_map, all_tt, List.map_cons, List.map_nil, List.length_cons, List.length_nil, List.cons_append, List.nil_append, List.replicate, List.getElem?_cons_zero, List.getElem?_cons_succ, List.set_cons_zero, List.set_cons_succ, List.set, if_true, if_false, Bool.or_true, Bool.true_or, Bool.or_false, Bool.false_or, Bool.and_true, Bool.true_and, Bool.and_false, Bool.false_and, Bool.not_true, Bool.not_false, Option.map_some, Option.map_none, Option.bind_some, Option.bind_none, List.length_map, reduceIte, itemsL, itemsT, Option.map, Option.bind, Tg.bind, setN, List.append_nil, Nat.sub_zero, Nat.zero_add, ite_true, ite_false, Nat.zero_le, Nat.reduceAdd, Nat.reduceLeDiff, Nat.reduceSub, Nat.reduceMul, Nat.reduceEqDiff, Int.reduceLT, Int.reduceLE, Bool.false_eq_true, reduceCtorEq, and_true, true_and, and_self, e1__law_text_word, h1, h2, Int.zero_add, dMul, hm, dAdd, dMod, e26, hx]
  have el : ((List.range n).map fun (i : Nat) => D.str ⟨#[97 + ((b + c * (i : Nat)) % 26).toNat]⟩) = (cs.map fun c => (⟨#[c]⟩ : Str)).map D.str := by
    show _ = (((List.range n).map fun (i : Nat) => 97 + ((b + c * (i : Nat)) % 26).toNat).map fun c => (⟨#[c]⟩ : Str)).map D.str
    rw [List.map_map, List.map_map]; rfl
  have hj : dJoin ("" : Str) (.lst false ((cs.map fun c => (⟨#[c]⟩ : Str)).map D.str)) = some (.str (Txt.join ("" : Str) (cs.map fun c => ⟨#[c]⟩))) := by
    refine dJoin_strs _ _ ?_
    have h1 : ((cs.map fun c => (⟨#[c]⟩ : Str)).map (·.length)).sum ≤ ((cs.map fun c => (⟨#[c]⟩ : Str)).map (·.length)).length * 1 := sum_le fun x hx => by
      rw [List.map_map] at hx
      obtain ⟨_, _, rfl⟩ := List.mem_map.mp hx
      exact Nat.le_refl _
    have h2 : (("" : Str)).length = 0 := by decide +kernel
    have h4 : cs.length = n := by show ((List.range n).map _).length = n; simp
    simp only [List.length_map, h4] at h1
    rw [h2, Nat.mul_zero]
    omega
  have hr : (((1 + a % 8 : Int) ≤ 16777216) ∧ -(2 ^ 62) ≤ (1 + a % 8 : Int)) = True := eq_true ⟨by omega, by omega⟩
  have h0 : dIx (.lst false (D.int a :: D.int b :: D.int c :: r.map .int)) (.int 0) = some (.int a) := (dIx_lst _ _).trans (at0 ..)
  refine ⟨Txt.join ("" : Str) (cs.map fun c => ⟨#[c]⟩), ?_, ?_⟩
  · have lc' : lcGo (.one 2) yesB e1__law_text_word [some (.lst false (D.int a :: D.int b :: D.int c :: r.map .int)), some (.str abc), none] (rngD 0 (1 + a % 8).toNat) = some ((cs.map fun c => (⟨#[c]⟩ : Str)).map D.str) := by rw [← el]; exact lc
    simp only [runF, env0, endF, seqS, asgS, retS, ifS, nilS, brkS, cntS, drpS, mutS, forS, unpS, parS, keepM, frzM, gApp, op2, op1, vr, cI, cS, cB, cN, cT, De.get, Res.bind, lift, tst, toB, andB, orB, notB, andV, orV, notV, ifV, chn, consA, nilA, lstA, tupA, calA, fnA, strM, tgetA, lcA, itm, rngA, prtN, prtE, prtI, slA, dI, g1, g2, frz, frz_lst, frz_tup, frz_rol, frzs, frzs_ints, frzs_strs, frzs_app, frzs_len, af, af.afs, afs_ints, afs_strs, frzs_bls, dAll_map, dAny_map, all_tt, List.map_cons, List.map_nil, List.length_cons, List.length_nil, List.cons_append, List.nil_append, List.replicate, List.getElem?_cons_zero, List.getElem?_cons_succ, List.set_cons_zero, List.set_cons_succ, List.set, if_true, if_false, Bool.or_true, Bool.true_or, Bool.or_false, Bool.false_or, Bool.and_true, Bool.true_and, Bool.and_false, Bool.false_and, Bool.not_true, Bool.not_false, Option.map_some, Option.map_none, Option.bind_some, Option.bind_none, List.length_map, reduceIte, itemsL, itemsT, Option.map, Option.bind, Tg.bind, setN, List.append_nil, Nat.sub_zero, Nat.zero_add, ite_true, ite_false, Nat.zero_le, Nat.reduceAdd, Nat.reduceLeDiff, Nat.reduceSub, Nat.reduceMul, Nat.reduceEqDiff, Int.reduceLT, Int.reduceLE, Bool.false_eq_true, reduceCtorEq, and_true, true_and, and_self, F__law_text_word, s__law_text_word, h0, dMod, e8, dAdd, hr, lc', hj]
  · have e := join_ones cs
    refine ⟨?_, ?_, fun x hx => ?_⟩
    · show 1 ≤ (Txt.join ("" : Str) (cs.map fun c => ⟨#[c]⟩)).cps.size
      rw [← Array.length_toList, e]; simp [cs]; omega
    · show (Txt.join ("" : Str) (cs.map fun c => ⟨#[c]⟩)).cps.size ≤ 8
      rw [← Array.length_toList, e]; simp [cs]; omega
    · rw [e] at hx
      obtain ⟨i, hi, rfl⟩ := List.mem_map.mp hx
      omega
theorem pick5 (x0 x1 x2 x3 x4 : Int) (c : Int) : ∃ v, dIx (.lst false [.int x0, .int x1, .int x2, .int x3, .int x4]) (.int (c % 5)) = some (.int v) ∧ (v = x0 ∨ v = x1 ∨ v = x2 ∨ v = x3 ∨ v = x4) := by
  have h : c % 5 = 0 ∨ c % 5 = 1 ∨ c % 5 = 2 ∨ c % 5 = 3 ∨ c % 5 = 4 := by omega
  rcases h with h | h | h | h | h <;> rw [h]
  · exact ⟨x0, (dIx_lst _ _).trans (at0 ..), by simp⟩
  · exact ⟨x1, (dIx_lst _ _).trans (at1 ..), by simp⟩
  · exact ⟨x2, (dIx_lst _ _).trans (at2 ..), by simp⟩
  · exact ⟨x3, (dIx_lst _ _).trans (at3' ..), by simp⟩
  · exact ⟨x4, (dIx_lst _ _).trans (at4 ..), by simp⟩
theorem number_ok {es : List Int} (h3 : 3 ≤ es.length) (hs : Sm es) : ∃ n : Nat, F__law_text_number [.lst false (es.map .int)] = .ok (.int n) ∧ n < 1000000000 := by
  obtain ⟨a, b, c, r, rfl⟩ := at3 h3
  obtain ⟨ha0, ha1⟩ := hs a (by simp)
  obtain ⟨hb0, hb1⟩ := hs b (by simp)
  obtain ⟨hc0, hc1⟩ := hs c (by simp)
  obtain ⟨v, hv, hor⟩ := pick5 (a % 10) (b % 1000) (a * b * c % 1000000000) 999999999 0 c
  have h0 : dIx (.lst false (D.int a :: D.int b :: D.int c :: r.map .int)) (.int 0) = some (.int a) := (dIx_lst _ _).trans (at0 ..)
  have h1 : dIx (.lst false (D.int a :: D.int b :: D.int c :: r.map .int)) (.int 1) = some (.int b) := (dIx_lst _ _).trans (at1 ..)
  have h2 : dIx (.lst false (D.int a :: D.int b :: D.int c :: r.map .int)) (.int 2) = some (.int c) := (dIx_lst _ _).trans (at2 ..)
  have e10 : (0 : Int) < 10 := by decide
  have e5 : (0 : Int) < 5 := by decide
  have e1000 : (0 : Int) < 1000 := by decide
  have e9 : (0 : Int) < 1000000000 := by decide
  have p9 : ((10 : Int) ^ (9 : Int).toNat) = 1000000000 := by decide
  have q9 : (0 : Int) ≤ 9 ∧ (9 : Int) ≤ 1000000 ∧ (10 : Int).natAbs < 18446744073709551616 := by decide
  have sa : De.small64 a = true := small_of (by omega) (by omega)
  have sc : De.small64 c = true := small_of (by omega) (by omega)
  have hb : 0 ≤ v ∧ v < 1000000000 := by
    rcases hor with rfl | rfl | rfl | rfl | rfl
    · omega
    · omega
    · exact ⟨Int.emod_nonneg _ (by decide), Int.emod_lt_of_pos _ (by decide)⟩
    · omega
    · omega
  refine ⟨v.toNat, ?_, by omega⟩
  rw [Int.toNat_of_nonneg hb.1]
  simp only [runF, env0, endF, seqS, asgS, retS, ifS, nilS, brkS, cntS, drpS, mutS, forS, unpS, parS, keepM, frzM, gApp, op2, op1, vr, cI, cS, cB, cN, cT, De.get, Res.bind, lift, tst, toB, andB, orB, notB, andV, orV, notV, ifV, chn, consA, nilA, lstA, tupA, calA, fnA, strM, tgetA, lcA, itm, rngA, prtN, prtE, prtI, slA, dI, g1, g2, frz, frz_lst, frz_tup, frz_rol, frzs, frzs_ints, frzs_strs, frzs_app, frzs_len, af, af.afs, afs_ints, afs_strs, frzs_bls, dAll_map, dAny_map, all_tt, List.map_cons, List.map_nil, List.length_cons, List.length_nil, List.cons_append, List.nil_append, List.replicate, List.getElem?_cons_zero, List.getElem?_cons_succ, List.set_cons_zero, List.set_cons_succ, List.set, if_true, if_false, Bool.or_true, Bool.true_or, Bool.or_false, Bool.false_or, Bool.and_true, Bool.true_and, Bool.and_false, Bool.false_and, Bool.not_true, Bool.not_false, Option.map_some, Option.map_none, Option.bind_some, Option.bind_none, List.length_map, reduceIte, itemsL, itemsT, Option.map, Option.bind, Tg.bind, setN, List.append_nil, Nat.sub_zero, Nat.zero_add, ite_true, ite_false, Nat.zero_le, Nat.reduceAdd, Nat.reduceLeDiff, Nat.reduceSub, Nat.reduceMul, Nat.reduceEqDiff, Int.reduceLT, Int.reduceLE, Bool.false_eq_true, reduceCtorEq, and_true, true_and, and_self, F__law_text_number, s__law_text_number, h0, h1, h2, dMod, e10, e1000, e5, dMul, sa, sc, dPow, q9, p9, and_self, e9, hv]
end Cm
set_option Elab.async false
set_option linter.all false
set_option maxRecDepth 100000
namespace Cm
open PySem De

/-! ### words, numbers of a deed's row -/
inductive Th where
  | n (k : Nat) | w (s : Str)
def Th.ok : Th → Prop
  | .n k => k < 1000000000
  | .w s => W8 s
def Th.D : Th → De.D
  | .n k => .int k
  | .w s => .str s
abbrev numS (k : Nat) : Str := Str.ofString (toString ((k : Nat) : Int))
def Th.t : Th → Str
  | .n k => numS k
  | .w s => s
def Th.s : Th → Str
  | .n _ => "n"
  | .w _ => "w"
theorem len_tl (s : Str) : s.length = s.cps.toList.length := TL.len_tl s
theorem marks_ok {s : Str} (h : W8 s) : F_are_marks [.str s, .int 8] = .ok (.bl true) := by
  obtain ⟨h1, h2, h3⟩ := h
  have z : szOk s.length = true := szOk_of (by omega)
  have lc : lcGo (.one 2) yesB e1_are_marks [some (.str s), some (.int 8), none] ((s.cps.toList.map fun c => (⟨#[c]⟩ : Str)).map D.str) = some (s.cps.toList.map fun _ => .bl true) := by
    rw [List.map_map]
    refine lcGo_mapped _ (fun _ => .bl true) _ fun c hc => ⟨_, rfl, rfl, ?_⟩
    have hm : dIn (.str ⟨#[c]⟩) (.str abc) = some (.bl true) := by
      have key : ∀ c : Nat, 97 ≤ c → c ≤ 122 → c ∈ abc.cps.toList := by
        intro c a b
        have e : abc.cps.toList = [97,98,99,100,101,102,103,104,105,106,107,108,109,110,111,112,113,114,115,116,117,118,119,120,121,122] := by decide +kernel
        rw [e]
        simp only [List.mem_cons, List.not_mem_nil, or_false]
        omega
      show some (D.bl (decide (c ∈ abc.cps.toList))) = _
      rw [decide_eq_true (key c (h3 c hc).1 (h3 c hc).2)]
    simp only [runF, env0, endF, seqS, asgS, retS, ifS, nilS, brkS, cntS, drpS, mutS, forS, unpS, parS, keepM, frzM, gApp, op2, op1, vr, cI, cS, cB, cN, cT, De.get, Res.bind, lift, tst, toB, andB, orB, notB, andV, orV, notV, ifV, chn, consA, nilA, lstA, tupA, calA, fnA, strM, tgetA, lcA, itm, rngA, prtN, prtE, prtI, slA, dI, g1, g2, frz, frz_lst, frz_tup, frz_rol, frzs, frzs_ints, frzs_strs, frzs_app, frzs_len, af, af.afs, afs_ints, afs_strs, frzs_bls, dAll_map, dAny_map, all_tt, List.map_cons, List.map_nil, List.length_cons, List.length_nil, List.cons_append, List.nil_append, List.replicate, List.getElem?_cons_zero, List.getElem?_cons_succ, List.set_cons_zero, List.set_cons_succ, List.set, if_true, if_false, Bool.or_true, Bool.true_or, Bool.or_false, Bool.false_or, Bool.and_true, Bool.true_and, Bool.and_false, Bool.false_and, Bool.not_true, Bool.not_false, Option.map_some, Option.map_none, Option.bind_some, Option.bind_none, List.length_map, reduceIte, itemsL, itemsT, Option.map, Option.bind, Tg.bind, setN, List.append_nil, Nat.sub_zero, Nat.zero_add, ite_true, ite_false, Nat.zero_le, Nat.reduceAdd, Nat.reduceLeDiff, Nat.reduceSub, Nat.reduceMul, Nat.reduceEqDiff, Int.reduceLT, Int.reduceLE, Bool.false_eq_true, reduceCtorEq, and_true, true_and, and_self, e1_are_marks, Function.comp, hm]
  have c1 : (1 : Int) ≤ (s.length : Int) := by omega
  have c2 : (s.length : Int) ≤ 8 := by omega
  simp only [runF, env0, endF, seqS, asgS, retS, ifS, nilS, brkS, cntS, drpS, mutS, forS, unpS, parS, keepM, frzM, gApp, op2, op1, vr, cI, cS, cB, cN, cT, De.get, Res.bind, lift, tst, toB, andB, orB, notB, andV, orV, notV, ifV, chn, consA, nilA, lstA, tupA, calA, fnA, strM, tgetA, lcA, itm, rngA, prtN, prtE, prtI, slA, dI, g1, g2, frz, frz_lst, frz_tup, frz_rol, frzs, frzs_ints, frzs_strs, frzs_app, frzs_len, af, af.afs, afs_ints, afs_strs, frzs_bls, dAll_map, dAny_map, all_tt, List.map_cons, List.map_nil, List.length_cons, List.length_nil, List.cons_append, List.nil_append, List.replicate, List.getElem?_cons_zero, List.getElem?_cons_succ, List.set_cons_zero, List.set_cons_succ, List.set, if_true, if_false, Bool.or_true, Bool.true_or, Bool.or_false, Bool.false_or, Bool.and_true, Bool.true_and, Bool.and_false, Bool.false_and, Bool.not_true, Bool.not_false, Option.map_some, Option.map_none, Option.bind_some, Option.bind_none, List.length_map, reduceIte, itemsL, itemsT, Option.map, Option.bind, Tg.bind, setN, List.append_nil, Nat.sub_zero, Nat.zero_add, ite_true, ite_false, Nat.zero_le, Nat.reduceAdd, Nat.reduceLeDiff, Nat.reduceSub, Nat.reduceMul, Nat.reduceEqDiff, Int.reduceLT, Int.reduceLE, Bool.false_eq_true, reduceCtorEq, and_true, true_and, and_self, F_are_marks, s_are_marks, dLe, dLen, z, c1, c2, decide_true, itD, lc]
theorem num_len {k : Nat} (h : k < 1000000000) : (numS k).length ≤ 9 := by
  rw [len_tl, show (numS k).cps.toList = TL.numL k from TL.tl_num k]
  exact TL.numL_len (by decide) (by simpa using h)
theorem num_ne (k : Nat) : 1 ≤ (numS k).length := by
  rw [len_tl, show (numS k).cps.toList = TL.numL k from TL.tl_num k]
  exact List.length_pos_iff.mpr (TL.numL_ne k)
theorem num_head (k : Nat) : ∃ c r, TL.numL k = c :: r ∧ (c = 48 → k = 0) := by
  induction k using Nat.strongRecOn with
  | _ k ih =>
    by_cases h : k < 10
    · exact ⟨48 + k, [], TL.numL_lt h, by omega⟩
    · obtain ⟨c, r, e, hz⟩ := ih (k / 10) (by omega)
      refine ⟨c, r ++ [48 + k % 10], by rw [TL.numL_step (by omega), e]; rfl, fun hc => ?_⟩
      have := hz hc
      omega
theorem one_eq (c : Nat) : decide ((⟨#[c]⟩ : Str) = "0") = decide (c = 48) := by
  have e : ("0" : Str) = ⟨#[48]⟩ := by decide +kernel
  rw [e]
  by_cases h : c = 48
  · subst h; simp
  · have : ¬ ((⟨#[c]⟩ : Str) = ⟨#[48]⟩) := fun z => h (by have := congrArg (fun s : Str => s.cps.toList) z; simpa using this)
    rw [decide_eq_false h, decide_eq_false this]
theorem number_in_ok {k : Nat} (h : k < 1000000000) : F_number_in [.str (numS k)] = .ok (.int k) := by
  have hl := num_len h
  have h1 := num_ne k
  have e := TL.tl_num k
  have z : szOk (numS k).length = true := szOk_of (by omega)
  have lc : lcGo (.one 1) yesB e1_number_in [some (.str (numS k)), none] (((numS k).cps.toList.map fun c => (⟨#[c]⟩ : Str)).map D.str) = some ((numS k).cps.toList.map fun _ => .bl true) := by
    rw [List.map_map]
    refine lcGo_mapped _ (fun _ => .bl true) _ fun c hc => ⟨_, rfl, rfl, ?_⟩
    have hm : dIn (.str ⟨#[c]⟩) (.str "0123456789") = some (.bl true) := by
      have hd := TL.numL_digits k c (by rw [← e]; exact hc)
      have e2 : ("0123456789" : Str).cps.toList = [48,49,50,51,52,53,54,55,56,57] := by decide +kernel
      show some (D.bl (decide (c ∈ ("0123456789" : Str).cps.toList))) = _
      rw [decide_eq_true]
      rw [e2]
      simp only [List.mem_cons, List.not_mem_nil, or_false]
      omega
    simp only [runF, env0, endF, seqS, asgS, retS, ifS, nilS, brkS, cntS, drpS, mutS, forS, unpS, parS, keepM, frzM, gApp, op2, op1, vr, cI, cS, cB, cN, cT, De.get, Res.bind, lift, tst, toB, andB, orB, notB, andV, orV, notV, ifV, chn, consA, nilA, lstA, tupA, calA, fnA, strM, tgetA, lcA, itm, rngA, prtN, prtE, prtI, slA, dI, g1, g2, frz, frz_lst, frz_tup, frz_rol, frzs, frzs_ints, frzs_strs, frzs_app, frzs_len, af, af.afs, afs_ints, afs_strs, frzs_bls, dAll_map, dAny_map, all_tt, List.map_cons, List.map_nil, List.length_cons, List.length_nil, List.cons_append, List.nil_append, List.replicate, List.getElem?_cons_zero, List.getElem?_cons_succ, List.set_cons_zero, List.set_cons_succ, List.set, if_true, if_false, Bool.or_true, Bool.true_or, Bool.or_false, Bool.false_or, Bool.and_true, Bool.true_and, Bool.and_false, Bool.false_and, Bool.not_true, Bool.not_false, Option.map_some, Option.map_none, Option.bind_some, Option.bind_none, List.length_map, reduceIte, itemsL, itemsT, Option.map, Option.bind, Tg.bind, setN, List.append_nil, Nat.sub_zero, Nat.zero_add, ite_true, ite_false, Nat.zero_le, Nat.reduceAdd, Nat.reduceLeDiff, Nat.reduceSub, Nat.reduceMul, Nat.reduceEqDiff, Int.reduceLT, Int.reduceLE, Bool.false_eq_true, reduceCtorEq, and_true, true_and, and_self, e1_number_in, Function.comp, hm]
  have c1 : (1 : Int) ≤ ((numS k).length : Int) := by omega
  have c2 : ((numS k).length : Int) ≤ 9 := by omega
  obtain ⟨c, r, hc, hz⟩ := num_head k
  have ha : L2.atI (numS k).cps.toList (0 : Int) = some c := L2.atI_nat (j := 0) (by rw [show (numS k).cps.toList = TL.numL k from e, hc]; rfl)
  have hx : dIx (.str (numS k)) (.int 0) = some (.str ⟨#[c]⟩) := by rw [dIx_str, if_pos z, ha]; rfl
  have hi : dInt10 (.str (numS k)) (.int 10) = some (.int k) := by
    show (if (10 : Int) = 10 ∧ (numS k).length ≤ 640 then (PySem.intText? (numS k)).map D.int else none) = _
    rw [if_pos ⟨rfl, by omega⟩, TL.int_num (by have := hl; rw [len_tl, show (numS k).cps.toList = TL.numL k from e] at this; omega)]
    rfl
  by_cases h48 : c = 48
  · have hk := hz h48
    have h0 : decide (numS k = ("0" : Str)) = true := by subst hk; decide +kernel
    simp only [runF, env0, endF, seqS, asgS, retS, ifS, nilS, brkS, cntS, drpS, mutS, forS, unpS, parS, keepM, frzM, gApp, op2, op1, vr, cI, cS, cB, cN, cT, De.get, Res.bind, lift, tst, toB, andB, orB, notB, andV, orV, notV, ifV, chn, consA, nilA, lstA, tupA, calA, fnA, strM, tgetA, lcA, itm, rngA, prtN, prtE, prtI, slA, dI, g1, g2, frz, frz_lst, frz_tup, frz_rol, frzs, frzs_ints, frzs_strs, frzs_app, frzs_len, af, af.afs, afs_ints, afs_strs, frzs_bls, dAll_map, dAny_map, all_tt, List.map_cons, List.map_nil, List.length_cons, List.length_nil, List.cons_append, List.nil_append, List.replicate, List.getElem?_cons_zero, List.getElem?_cons_succ, List.set_cons_zero, List.set_cons_succ, List.set, if_true, if_false, Bool.or_true, Bool.true_or, Bool.or_false, Bool.false_or, Bool.and_true, Bool.true_and, Bool.and_false, Bool.false_and, Bool.not_true, Bool.not_false, Option.map_some, Option.map_none, Option.bind_some, Option.bind_none, List.length_map, reduceIte, itemsL, itemsT, Option.map, Option.bind, Tg.bind, setN, List.append_nil, Nat.sub_zero, Nat.zero_add, ite_true, ite_false, Nat.zero_le, Nat.reduceAdd, Nat.reduceLeDiff, Nat.reduceSub, Nat.reduceMul, Nat.reduceEqDiff, Int.reduceLT, Int.reduceLE, Bool.false_eq_true, reduceCtorEq, and_true, true_and, and_self, F_number_in, s_number_in, dLe, dLen, z, c1, c2, decide_true, itD, lc, hx, dEq, one_eq, h48, dNe, notD, h0, hi]
  · simp only [runF, env0, endF, seqS, asgS, retS, ifS, nilS, brkS, cntS, drpS, mutS, forS, unpS, parS, keepM, frzM, gApp, op2, op1, vr, cI, cS, cB, cN, cT, De.get, Res.bind, lift, tst, toB, andB, orB, notB, andV, orV, notV, ifV, chn, consA, nilA, lstA, tupA, calA, fnA, strM, tgetA, lcA, itm, rngA, prtN, prtE, prtI, slA, dI, g1, g2, frz, frz_lst, frz_tup, frz_rol, frzs, frzs_ints, frzs_strs, frzs_app, frzs_len, af, af.afs, afs_ints, afs_strs, frzs_bls, dAll_map, dAny_map, all_tt, List.map_cons, List.map_nil, List.length_cons, List.length_nil, List.cons_append, List.nil_append, List.replicate, List.getElem?_cons_zero, List.getElem?_cons_succ, List.set_cons_zero, List.set_cons_succ, List.set, if_true, if_false, Bool.or_true, Bool.true_or, Bool.or_false, Bool.false_or, Bool.and_true, Bool.true_and, Bool.and_false, Bool.false_and, Bool.not_true, Bool.not_false, Option.map_some, Option.map_none, Option.bind_some, Option.bind_none, List.length_map, reduceIte, itemsL, itemsT, Option.map, Option.bind, Tg.bind, setN, List.append_nil, Nat.sub_zero, Nat.zero_add, ite_true, ite_false, Nat.zero_le, Nat.reduceAdd, Nat.reduceLeDiff, Nat.reduceSub, Nat.reduceMul, Nat.reduceEqDiff, Int.reduceLT, Int.reduceLE, Bool.false_eq_true, reduceCtorEq, and_true, true_and, and_self, F_number_in, s_number_in, dLe, dLen, z, c1, c2, decide_true, itD, lc, hx, dEq, one_eq, h48, decide_false, dNe, notD, hi]
theorem nw : dEq (.str "w") (.str "n") = some (.bl false) := by
  show some (D.bl (decide (("w" : Str) = "n"))) = _
  rw [decide_eq_false (by decide +kernel)]
theorem thing_ok {t : Th} (h : t.ok) : F_thing_in [.str t.t, .str t.s] = .ok t.D := by
  cases t with
  | n k =>
    have hn := number_in_ok h
    simp only [runF, env0, endF, seqS, asgS, retS, ifS, nilS, brkS, cntS, drpS, mutS, forS, unpS, parS, keepM, frzM, gApp, op2, op1, vr, cI, cS, cB, cN, cT, De.get, Res.bind, lift, tst, toB, andB, orB, notB, andV, orV, notV, ifV, chn, consA, nilA, lstA, tupA, calA, fnA, strM, tgetA, lcA, itm, rngA, prtN, prtE, prtI, slA, dI, g1, g2, frz, frz_lst, frz_tup, frz_rol, frzs, frzs_ints, frzs_strs, frzs_app, frzs_len, af, af.afs, afs_ints, afs_strs, frzs_bls, dAll_map, dAny_map, all_tt, List.map_cons, List.map_nil, List.length_cons, List.length_nil, List.cons_append, List.nil_append, List.replicate, List.getElem?_cons_zero, List.getElem?_cons_succ, List.set_cons_zero, List.set_cons_succ, List.set, if_true, if_false, Bool.or_true, Bool.true_or, Bool.or_false, Bool.false_or, Bool.and_true, Bool.true_and, Bool.and_false, Bool.false_and, Bool.not_true, Bool.not_false, Option.map_some, Option.map_none, Option.bind_some, Option.bind_none, List.length_map, reduceIte, itemsL, itemsT, Option.map, Option.bind, Tg.bind, setN, List.append_nil, Nat.sub_zero, Nat.zero_add, ite_true, ite_false, Nat.zero_le, Nat.reduceAdd, Nat.reduceLeDiff, Nat.reduceSub, Nat.reduceMul, Nat.reduceEqDiff, Int.reduceLT, Int.reduceLE, Bool.false_eq_true, reduceCtorEq, and_true, true_and, and_self, F_thing_in, s_thing_in, Th.t, Th.s, Th.D, dEq, decide_true, hn]
  | w s =>
    have hm := marks_ok h
    simp only [runF, env0, endF, seqS, asgS, retS, ifS, nilS, brkS, cntS, drpS, mutS, forS, unpS, parS, keepM, frzM, gApp, op2, op1, vr, cI, cS, cB, cN, cT, De.get, Res.bind, lift, tst, toB, andB, orB, notB, andV, orV, notV, ifV, chn, consA, nilA, lstA, tupA, calA, fnA, strM, tgetA, lcA, itm, rngA, prtN, prtE, prtI, slA, dI, g1, g2, frz, frz_lst, frz_tup, frz_rol, frzs, frzs_ints, frzs_strs, frzs_app, frzs_len, af, af.afs, afs_ints, afs_strs, frzs_bls, dAll_map, dAny_map, all_tt, List.map_cons, List.map_nil, List.length_cons, List.length_nil, List.cons_append, List.nil_append, List.replicate, List.getElem?_cons_zero, List.getElem?_cons_succ, List.set_cons_zero, List.set_cons_succ, List.set, if_true, if_false, Bool.or_true, Bool.true_or, Bool.or_false, Bool.false_or, Bool.and_true, Bool.true_and, Bool.and_false, Bool.false_and, Bool.not_true, Bool.not_false, Option.map_some, Option.map_none, Option.bind_some, Option.bind_none, List.length_map, reduceIte, itemsL, itemsT, Option.map, Option.bind, Tg.bind, setN, List.append_nil, Nat.sub_zero, Nat.zero_add, ite_true, ite_false, Nat.zero_le, Nat.reduceAdd, Nat.reduceLeDiff, Nat.reduceSub, Nat.reduceMul, Nat.reduceEqDiff, Int.reduceLT, Int.reduceLE, Bool.false_eq_true, reduceCtorEq, and_true, true_and, and_self, F_thing_in, s_thing_in, Th.t, Th.s, Th.D, nw, hm]
theorem th_frz (t : Th) : frz t.D = t.D := by cases t <;> rfl
theorem ths_frz (ts : List Th) : frzs (ts.map Th.D) = ts.map Th.D := by
  rw [frzs_eq, List.map_map]
  exact List.map_congr_left fun t _ => th_frz t
theorem things_ok {ts : List Th} (h : ∀ t ∈ ts, t.ok) (hz : ts.length ≤ 1000) {form : Str} (hf : (form.cps.toList.map fun c => (⟨#[c]⟩ : Str)) = ts.map Th.s) :
    F_things_in [.lst false (ts.map fun t => D.str t.t), .str form] = .ok (.tup (ts.map Th.D)) := by
  have hl : form.length = ts.length := by
    have := congrArg List.length hf
    rw [List.length_map, List.length_map] at this
    rw [len_tl, this]
  have z : szOk ts.length = true := szOk_of (by omega)
  have hfz : frzs (ts.map fun t => D.str t.t) = ts.map fun t => D.str t.t := by
    rw [frzs_eq, List.map_map]; rfl
  have hz2 : (ts.length ≤ 16777216) = True := eq_true (by omega)
  have lc : lcGo (.tup [2, 3]) yesB e1_things_in [some (.lst false (ts.map fun t => D.str t.t)), some (.str form), none, none] (ts.map fun t => D.tup [.str t.t, .str t.s]) = some (ts.map Th.D) := by
    refine lcGo_mapped (fun t : Th => D.tup [.str t.t, .str t.s]) Th.D ts fun t ht => ⟨_, rfl, rfl, ?_⟩
    have hk := thing_ok (h t ht)
    simp only [runF, env0, endF, seqS, asgS, retS, ifS, nilS, brkS, cntS, drpS, mutS, forS, unpS, parS, keepM, frzM, gApp, op2, op1, vr, cI, cS, cB, cN, cT, De.get, Res.bind, lift, tst, toB, andB, orB, notB, andV, orV, notV, ifV, chn, consA, nilA, lstA, tupA, calA, fnA, strM, tgetA, lcA, itm, rngA, prtN, prtE, prtI, slA, dI, g1, g2, frz, frz_lst, frz_tup, frz_rol, frzs, frzs_ints, frzs_strs, frzs_app, frzs_len, af, af.afs, afs_ints, afs_strs, frzs_bls, dAll_map, dAny_map, all_tt, List.map_cons, List.map_nil, List.length_cons, List.length_nil, List.cons_append, List.nil_append, List.replicate, List.getElem?_cons_zero, List.getElem?_cons_succ, List.set_cons_zero, List.set_cons_succ, List.set, if_true, if_false, Bool.or_true, Bool.true_or, Bool.or_false, Bool.false_or, Bool.and_true, Bool.true_and, Bool.and_false, Bool.false_and, Bool.not_true, Bool.not_false, Option.map_some, Option.map_none, Option.bind_some, Option.bind_none, List.length_map, reduceIte, itemsL, itemsT, Option.map, Option.bind, Tg.bind, setN, List.append_nil, Nat.sub_zero, Nat.zero_add, ite_true, ite_false, Nat.zero_le, Nat.reduceAdd, Nat.reduceLeDiff, Nat.reduceSub, Nat.reduceMul, Nat.reduceEqDiff, Int.reduceLT, Int.reduceLE, Bool.false_eq_true, reduceCtorEq, and_true, true_and, and_self, e1_things_in, hk]
  have e : ∀ l : List Th, (l.map Th.s).map D.str = l.map fun t => D.str t.s := fun l => by rw [List.map_map]; rfl
  have ht : dTup (.lst false (ts.map Th.D)) = some (.tup (ts.map Th.D)) := rfl
  simp only [runF, env0, endF, seqS, asgS, retS, ifS, nilS, brkS, cntS, drpS, mutS, forS, unpS, parS, keepM, frzM, gApp, op2, op1, vr, cI, cS, cB, cN, cT, De.get, Res.bind, lift, tst, toB, andB, orB, notB, andV, orV, notV, ifV, chn, consA, nilA, lstA, tupA, calA, fnA, strM, tgetA, lcA, itm, rngA, prtN, prtE, prtI, slA, dI, g1, g2, frz, frz_lst, frz_tup, frz_rol, frzs, frzs_ints, frzs_strs, frzs_app, frzs_len, af, af.afs, afs_ints, afs_strs, frzs_bls, dAll_map, dAny_map, all_tt, List.map_cons, List.map_nil, List.length_cons, List.length_nil, List.cons_append, List.nil_append, List.replicate, List.getElem?_cons_zero, List.getElem?_cons_succ, List.set_cons_zero, List.set_cons_succ, List.set, if_true, if_false, Bool.or_true, Bool.true_or, Bool.or_false, Bool.false_or, Bool.and_true, Bool.true_and, Bool.and_false, Bool.false_and, Bool.not_true, Bool.not_false, Option.map_some, Option.map_none, Option.bind_some, Option.bind_none, List.length_map, reduceIte, itemsL, itemsT, Option.map, Option.bind, Tg.bind, setN, List.append_nil, Nat.sub_zero, Nat.zero_add, ite_true, ite_false, Nat.zero_le, Nat.reduceAdd, Nat.reduceLeDiff, Nat.reduceSub, Nat.reduceMul, Nat.reduceEqDiff, Int.reduceLT, Int.reduceLE, Bool.false_eq_true, reduceCtorEq, and_true, true_and, and_self, F_things_in, s_things_in, hfz, dLen, z, dNe, dEq, hl, decide_true, notD, zpA, zpD, drD, hf, e, and_self, hz2, prs_map, lc, ths_frz, ht]

/-! ### deeds -/
inductive Dd | f (ws : List Str) (one : Str) | p (k : Str) (ts : List Th)
structure PForm (k : Str) (ts : List Th) (form : Str) : Prop where
  look : tab_FORMS.lookup k = some form
  sorts : (form.cps.toList.map fun c => (⟨#[c]⟩ : Str)) = ts.map Th.s
  nf : decide (k = ("found" : Str)) = false
  ne : decide (form = ("" : Str)) = false
  sp : 32 ∉ k.cps.toList
  kl : k.length ≤ 10
  tl : ts.length ≤ 3
def Dd.ok : Dd → Prop
  | .f ws one => ws.length ≤ 10 ∧ (∀ w ∈ ws, W8 w) ∧ W8 one
  | .p k ts => (∃ form, PForm k ts form) ∧ ∀ t ∈ ts, t.ok
def Dd.D : Dd → De.D
  | .f ws one => .tup [.str "found", .tup (ws.map .str), .str one]
  | .p k ts => .tup (.str k :: ts.map Th.D)
def Dd.parts : Dd → List Str
  | .f ws one => "found" :: one :: ws
  | .p k ts => k :: ts.map Th.t
def Dd.row (d : Dd) : Str := Txt.join (" " : Str) d.parts
theorem th_len {t : Th} (h : t.ok) : t.t.length ≤ 9 := by
  cases t with
  | n k => exact num_len h
  | w s => have := h.2.1; show s.length ≤ 9; omega
theorem th_sp {t : Th} (h : t.ok) : 32 ∉ t.t.cps.toList := by
  cases t with
  | n k =>
    show 32 ∉ (numS k).cps.toList
    rw [show (numS k).cps.toList = TL.numL k from TL.tl_num k]
    exact TL.numL_free (by omega)
  | w s => intro hc; have := h.2.2 32 hc; omega
theorem w_sp {s : Str} (h : W8 s) : 32 ∉ s.cps.toList := fun hc => by have := h.2.2 32 hc; omega
theorem found_len : ("found" : Str).length = 5 := by decide +kernel
theorem found_sp : 32 ∉ ("found" : Str).cps.toList := by decide +kernel
theorem sp_len : (" " : Str).length = 1 := by decide +kernel
theorem parts_sp {d : Dd} (h : d.ok) : ∀ p ∈ d.parts, 32 ∉ p.cps.toList := by
  cases d with
  | f ws one =>
    obtain ⟨_, h2, h3⟩ := h
    intro p hp
    rcases List.mem_cons.mp hp with rfl | hp
    · exact found_sp
    · rcases List.mem_cons.mp hp with rfl | hp
      · exact w_sp h3
      · exact w_sp (h2 p hp)
  | p k ts =>
    obtain ⟨⟨form, hf⟩, ht⟩ := h
    intro p hp
    rcases List.mem_cons.mp hp with rfl | hp
    · exact hf.sp
    · obtain ⟨t, h1, rfl⟩ := List.mem_map.mp hp
      exact th_sp (ht t h1)
theorem parts_len {d : Dd} (h : d.ok) : (∀ p ∈ d.parts, p.length ≤ 10) ∧ d.parts.length ≤ 12 := by
  cases d with
  | f ws one =>
    obtain ⟨h1, h2, h3⟩ := h
    refine ⟨fun p hp => ?_, by show ws.length + 1 + 1 ≤ 12; omega⟩
    rcases List.mem_cons.mp hp with rfl | hp
    · rw [found_len]; decide
    · rcases List.mem_cons.mp hp with rfl | hp
      · have := h3.2.1; omega
      · have := (h2 p hp).2.1; omega
  | p k ts =>
    obtain ⟨⟨form, hf⟩, ht⟩ := h
    refine ⟨fun p hp => ?_, by show (ts.map Th.t).length + 1 ≤ 12; rw [List.length_map]; have := hf.tl; omega⟩
    rcases List.mem_cons.mp hp with rfl | hp
    · exact hf.kl
    · obtain ⟨t, h1, rfl⟩ := List.mem_map.mp hp
      have := th_len (ht t h1); omega
theorem parts_sum {d : Dd} (h : d.ok) : (d.parts.map (·.length)).sum + d.parts.length * (" " : Str).length ≤ 200 := by
  obtain ⟨h1, h2⟩ := parts_len h
  have := sum_le (l := d.parts.map (·.length)) (k := 10) fun x hx => by
    obtain ⟨p, hp, rfl⟩ := List.mem_map.mp hx
    exact h1 p hp
  rw [List.length_map] at this
  rw [sp_len]
  omega
theorem joinL_len (S : List Nat) : ∀ ps : List (List Nat), (TL.joinL S ps).length ≤ (ps.map List.length).sum + ps.length * S.length
  | [] => by simp [TL.joinL]
  | [p] => by simp [TL.joinL]
  | p :: q :: r => by
    have ih := joinL_len S (q :: r)
    show (p ++ (S ++ TL.joinL S (q :: r))).length ≤ _
    rw [List.length_append, List.length_append, List.map_cons, List.sum_cons, List.length_cons (a := p), Nat.add_mul]
    omega
theorem row_len {d : Dd} (h : d.ok) : d.row.length ≤ 200 := by
  have h1 := parts_sum h
  have h2 := joinL_len (" " : Str).cps.toList (d.parts.map fun s => s.cps.toList)
  rw [List.map_map, List.length_map] at h2
  have e : d.row.cps.toList = TL.joinL (" " : Str).cps.toList (d.parts.map fun s => s.cps.toList) := by
    show (Txt.join (" " : Str) d.parts).cps.toList = _
    rw [TL.join_eq]
    exact TL.tl_join _ _
  have e2 : (d.parts.map (List.length ∘ fun s : Str => s.cps.toList)) = d.parts.map (·.length) := List.map_congr_left fun s _ => (len_tl s).symm
  rw [len_tl, e]
  rw [e2, ← len_tl] at h2
  omega
theorem split_row {d : Dd} (h : d.ok) : Txt.split d.row (" " : Str) = d.parts :=
  TL.split_join (s := 32) (S := []) (by decide +kernel) (by decide +kernel) (by cases d <;> exact fun z => by cases z) (parts_sp h)
/-- str of a thing -/
def strD : De.D → De.D
  | .int n => .str (toString n)
  | d => d
theorem str_th (t : Th) : strD t.D = .str t.t := by cases t <;> rfl
theorem dStr_th {t : Th} (h : t.ok) : dStr t.D = some (.str t.t) := by
  cases t with
  | n k =>
    show (if ((k : Nat) : Int).natAbs.log2 < 1920 then some (D.str (toString ((k : Nat) : Int))) else none) = _
    have h : k < 1000000000 := h
    rw [if_pos]
    · rfl
    · show k.log2 < 1920
      have : k.log2 < 1920 ∨ 1920 ≤ k.log2 := by omega
      rcases this with h1 | h1
      · exact h1
      · exfalso
        have h0 : k ≠ 0 := fun z => by subst z; simp at h1
        have := (Nat.le_log2 h0).mp h1
        have h3 : (2 : Nat) ^ 30 ≤ 2 ^ 1920 := Nat.pow_le_pow_right (by decide) (by decide)
        have h4 : (2 : Nat) ^ 30 = 1073741824 := by decide
        omega
  | w s => rfl
theorem text_ok {d : Dd} (h : d.ok) : F_deed_text [d.D] = .ok (.str d.row) := by
  have hs := parts_sum h
  cases d with
  | f ws one =>
    have hx0 : dIx (.tup [.str "found", .tup (ws.map .str), .str one]) (.int 0) = some (.str "found") := (dIx_tup _ _).trans (at0 ..)
    have hx1 : dIx (.tup [.str "found", .tup (ws.map .str), .str one]) (.int 1) = some (.tup (ws.map .str)) := (dIx_tup _ _).trans (at1 ..)
    have hx2 : dIx (.tup [.str "found", .tup (ws.map .str), .str one]) (.int 2) = some (.str one) := (dIx_tup _ _).trans (at2 ..)
    have ha : dAdd (.tup [.str "found", .str one]) (.tup (ws.map .str)) = some (.tup ((("found" : Str) :: one :: ws).map .str)) := by
      show (if ([D.str "found", D.str one]).isEmpty = false ∧ szOk (([D.str "found", D.str one]).length + (ws.map D.str).length) = true then some (D.tup ([D.str "found", D.str one] ++ ws.map D.str)) else none) = _
      rw [if_pos ⟨rfl, szOk_of (by have := h.1; simp; omega)⟩]; rfl
    have hj : dJoin (" " : Str) (.tup ((("found" : Str) :: one :: ws).map .str)) = some (.str (Txt.join (" " : Str) (("found" : Str) :: one :: ws))) := dJoin_tup _ _ (Nat.le_trans hs (by decide))
    have hj' : dJoin (" " : Str) (.tup (.str "found" :: .str one :: ws.map .str)) = some (.str (Txt.join (" " : Str) (("found" : Str) :: one :: ws))) := hj
    simp only [runF, env0, endF, seqS, asgS, retS, ifS, nilS, brkS, cntS, drpS, mutS, forS, unpS, parS, keepM, frzM, gApp, op2, op1, vr, cI, cS, cB, cN, cT, De.get, Res.bind, lift, tst, toB, andB, orB, notB, andV, orV, notV, ifV, chn, consA, nilA, lstA, tupA, calA, fnA, strM, tgetA, lcA, itm, rngA, prtN, prtE, prtI, slA, dI, g1, g2, frz, frz_lst, frz_tup, frz_rol, frzs, frzs_ints, frzs_strs, frzs_app, frzs_len, af, af.afs, afs_ints, afs_strs, frzs_bls, dAll_map, dAny_map, all_tt, List.map_cons, List.map_nil, List.length_cons, List.length_nil, List.cons_append, List.nil_append, List.replicate, List.getElem?_cons_zero, List.getElem?_cons_succ, List.set_cons_zero, List.set_cons_succ, List.set, if_true, if_false, Bool.or_true, Bool.true_or, Bool.or_false, Bool.false_or, Bool.and_true, Bool.true_and, Bool.and_false, Bool.false_and, Bool.not_true, Bool.not_false, Option.map_some, Option.map_none, Option.bind_some, Option.bind_none, List.length_map, reduceIte, itemsL, itemsT, Option.map, Option.bind, Tg.bind, setN, List.append_nil, Nat.sub_zero, Nat.zero_add, ite_true, ite_false, Nat.zero_le, Nat.reduceAdd, Nat.reduceLeDiff, Nat.reduceSub, Nat.reduceMul, Nat.reduceEqDiff, Int.reduceLT, Int.reduceLE, Bool.false_eq_true, reduceCtorEq, and_true, true_and, and_self, F_deed_text, s_deed_text, Dd.D, Dd.row, Dd.parts, hx0, hx1, hx2, dEq, decide_true, ha, hj']
  | p k ts =>
    obtain ⟨⟨form, hf⟩, ht⟩ := h
    have hx0 : dIx (.tup (.str k :: ts.map Th.D)) (.int 0) = some (.str k) := (dIx_tup _ _).trans (at0 ..)
    have nf := hf.nf
    have lc : lcGo (.one 1) yesB e1_deed_text [some (.tup (.str k :: ts.map Th.D)), none] (.str k :: ts.map Th.D) = some ((k :: ts.map Th.t).map .str) := by
      have e : (.str k :: ts.map Th.D).map strD = (k :: ts.map Th.t).map D.str := by
        rw [List.map_cons, List.map_map, List.map_cons, List.map_map]
        congr 1
        exact List.map_congr_left fun t _ => str_th t
      rw [← e]
      refine lcGo_map strD _ fun x hx => ⟨_, rfl, rfl, ?_⟩
      rcases List.mem_cons.mp hx with rfl | hx
      · simp only [runF, env0, endF, seqS, asgS, retS, ifS, nilS, brkS, cntS, drpS, mutS, forS, unpS, parS, keepM, frzM, gApp, op2, op1, vr, cI, cS, cB, cN, cT, De.get, Res.bind, lift, tst, toB, andB, orB, notB, andV, orV, notV, ifV, chn, consA, nilA, lstA, tupA, calA, fnA, strM, tgetA, lcA, itm, rngA, prtN, prtE, prtI, slA, dI, g1, g2, frz, frz_lst, frz_tup, frz_rol, frzs, frzs_ints, frzs_strs, frzs_app, frzs_len, af, af.afs, afs_ints, afs_strs, frzs_bls, dAll_map, dAny_map, all_tt, List.map_cons, List.map_nil, List.length_cons, List.length_nil, List.cons_append, List.nil_append, List.replicate, List.getElem?_cons_zero, List.getElem?_cons_succ, List.set_cons_zero, List.set_cons_succ, List.set, if_true, if_false, Bool.or_true, Bool.true_or, Bool.or_false, Bool.false_or, Bool.and_true, Bool.true_and, Bool.and_false, Bool.false_and, Bool.not_true, Bool.not_false, Option.map_some, Option.map_none, Option.bind_some, Option.bind_none, List.length_map, reduceIte, itemsL, itemsT, Option.map, Option.bind, Tg.bind, setN, List.append_nil, Nat.sub_zero, Nat.zero_add, ite_true, ite_false, Nat.zero_le, Nat.reduceAdd, Nat.reduceLeDiff, Nat.reduceSub, Nat.reduceMul, Nat.reduceEqDiff, Int.reduceLT, Int.reduceLE, Bool.false_eq_true, reduceCtorEq, and_true, true_and, and_self, e1_deed_text, dStr, strD]
      · obtain ⟨t, h1, rfl⟩ := List.mem_map.mp hx
        have h2 := dStr_th (ht t h1)
        simp only [runF, env0, endF, seqS, asgS, retS, ifS, nilS, brkS, cntS, drpS, mutS, forS, unpS, parS, keepM, frzM, gApp, op2, op1, vr, cI, cS, cB, cN, cT, De.get, Res.bind, lift, tst, toB, andB, orB, notB, andV, orV, notV, ifV, chn, consA, nilA, lstA, tupA, calA, fnA, strM, tgetA, lcA, itm, rngA, prtN, prtE, prtI, slA, dI, g1, g2, frz, frz_lst, frz_tup, frz_rol, frzs, frzs_ints, frzs_strs, frzs_app, frzs_len, af, af.afs, afs_ints, afs_strs, frzs_bls, dAll_map, dAny_map, all_tt, List.map_cons, List.map_nil, List.length_cons, List.length_nil, List.cons_append, List.nil_append, List.replicate, List.getElem?_cons_zero, List.getElem?_cons_succ, List.set_cons_zero, List.set_cons_succ, List.set, if_true, if_false, Bool.or_true, Bool.true_or, Bool.or_false, Bool.false_or, Bool.and_true, Bool.true_and, Bool.and_false, Bool.false_and, Bool.not_true, Bool.not_false, Option.map_some, Option.map_none, Option.bind_some, Option.bind_none, List.length_map, reduceIte, itemsL, itemsT, Option.map, Option.bind, Tg.bind, setN, List.append_nil, Nat.sub_zero, Nat.zero_add, ite_true, ite_false, Nat.zero_le, Nat.reduceAdd, Nat.reduceLeDiff, Nat.reduceSub, Nat.reduceMul, Nat.reduceEqDiff, Int.reduceLT, Int.reduceLE, Bool.false_eq_true, reduceCtorEq, and_true, true_and, and_self, e1_deed_text, th_frz, h2, str_th]
    have hj : dJoin (" " : Str) (.lst false ((k :: ts.map Th.t).map .str)) = some (.str (Txt.join (" " : Str) (k :: ts.map Th.t))) := dJoin_strs _ _ (Nat.le_trans hs (by decide))
    have fz : frzs ((k :: ts.map Th.t).map D.str) = (k :: ts.map Th.t).map D.str := frzs_strs _
    unfold F_deed_text s_deed_text Dd.D Dd.row Dd.parts
    generalize hl : (k :: ts.map Th.t).map D.str = L at lc hj fz
    simp only [runF, env0, endF, seqS, asgS, retS, ifS, nilS, brkS, cntS, drpS, mutS, forS, unpS, parS, keepM, frzM, gApp, op2, op1, vr, cI, cS, cB, cN, cT, De.get, Res.bind, lift, tst, toB, andB, orB, notB, andV, orV, notV, ifV, chn, consA, nilA, lstA, tupA, calA, fnA, strM, tgetA, lcA, itm, rngA, prtN, prtE, prtI, slA, dI, g1, g2, frz, frz_lst, frz_tup, frz_rol, frzs, frzs_ints, frzs_strs, frzs_app, frzs_len, af, af.afs, afs_ints, afs_strs, frzs_bls, dAll_map, dAny_map, all_tt, List.map_cons, List.map_nil, List.length_cons, List.length_nil, List.cons_append, List.nil_append, List.replicate, List.getElem?_cons_zero, List.getElem?_cons_succ, List.set_cons_zero, List.set_cons_succ, List.set, if_true, if_false, Bool.or_true, Bool.true_or, Bool.or_false, Bool.false_or, Bool.and_true, Bool.true_and, Bool.and_false, Bool.false_and, Bool.not_true, Bool.not_false, Option.map_some, Option.map_none, Option.bind_some, Option.bind_none, List.length_map, reduceIte, itemsL, itemsT, Option.map, Option.bind, Tg.bind, setN, List.append_nil, Nat.sub_zero, Nat.zero_add, ite_true, ite_false, Nat.zero_le, Nat.reduceAdd, Nat.reduceLeDiff, Nat.reduceSub, Nat.reduceMul, Nat.reduceEqDiff, Int.reduceLT, Int.reduceLE, Bool.false_eq_true, reduceCtorEq, and_true, true_and, and_self, hx0, dEq, nf, itD, ths_frz, lc, fz, hj]
/-! ### a deed's row read back -/
theorem nm_ws (ws : List Str) : ∀ x ∈ ws.map Th.w, (∀ w ∈ ws, W8 w) → x.ok := fun x hx h => by
  obtain ⟨w, hw, rfl⟩ := List.mem_map.mp hx
  exact h w hw
theorem rep_w (n : Nat) : ((repS ("w" : Str) n).cps.toList.map fun c => (⟨#[c]⟩ : Str)) = List.replicate n ("w" : Str) := by
  have e : ("w" : Str).cps.toList = [119] := by decide +kernel
  have e2 : ("w" : Str) = ⟨#[119]⟩ := by decide +kernel
  unfold repS
  rw [e, e2]
  induction n with
  | zero => rfl
  | succ n ih =>
    have ih : ((List.replicate n [119]).flatten.map fun c => (⟨#[c]⟩ : Str)) = List.replicate n ⟨#[119]⟩ := by simpa using ih
    simp [List.replicate_succ, ih]
theorem read_ok {d : Dd} (h : d.ok) : F_read_deed [.str d.row] = .ok d.D := by
  have hl := row_len h
  have hsp : dSplit d.row (.str " ") = some (.lst true (d.parts.map .str)) := by
    show (if ((" " : Str).length == 0) = false ∧ szOk (d.row.length + 2) = true then some (D.lst true ((Txt.split d.row (" " : Str)).map .str)) else none) = _
    rw [if_pos ⟨by rw [sp_len]; rfl, szOk_of (by omega)⟩, split_row h]
  cases d with
  | f ws one =>
    obtain ⟨h1, h2, h3⟩ := h
    have hx0 : dIx (.lst false (.str "found" :: .str one :: ws.map .str)) (.int 0) = some (.str "found") := (dIx_lst _ _).trans (at0 ..)
    have hsl : dSl (.lst false (.str "found" :: .str one :: ws.map .str)) (some 1) none = some (.lst true (.str one :: ws.map .str)) := dSl_1 _
    have hm : dMul (.str "w") (.int ((ws.length : Int) + 1 + 1 - 1)) = some (.str (repS "w" (ws.length + 1))) := by
      have e : ((ws.length : Int) + 1 + 1 - 1) = ((ws.length + 1 : Nat) : Int) := by omega
      rw [e]
      show (if (0 : Int) ≤ ((ws.length + 1 : Nat) : Int) ∧ ((ws.length + 1 : Nat) : Int) ≤ 16777216 ∧ szOk (("w" : Str).length * ((ws.length + 1 : Nat) : Int).toNat) = true then some (D.str (repS "w" ((ws.length + 1 : Nat) : Int).toNat)) else none) = _
      have hw : ("w" : Str).length = 1 := by decide +kernel
      rw [if_pos ⟨by omega, by omega, szOk_of (by rw [hw, Int.toNat_natCast]; omega)⟩, Int.toNat_natCast]
    have hws : ∀ w ∈ one :: ws, W8 w := fun w hw => by
      rcases List.mem_cons.mp hw with e | hw
      · rw [e]; exact h3
      · exact h2 w hw
    have ht := things_ok (ts := (one :: ws).map Th.w) (fun t ht => nm_ws _ t ht hws) (by rw [List.length_map, List.length_cons]; omega) (form := repS "w" (ws.length + 1)) (by rw [rep_w, List.map_map]; exact (List.eq_replicate_iff.mpr ⟨by simp, fun b hb => by obtain ⟨_, _, rfl⟩ := List.mem_map.mp hb; rfl⟩).symm)
    have e1 : ((one :: ws).map Th.w).map (fun t => D.str t.t) = .str one :: ws.map .str := by
      rw [List.map_map, List.map_cons]; rfl
    have e2 : ((one :: ws).map Th.w).map Th.D = .str one :: ws.map .str := by
      rw [List.map_map, List.map_cons]; rfl
    rw [e1, e2] at ht
    have hsl2 : dSl (.tup (.str one :: ws.map .str)) (some 1) none = some (.tup (ws.map .str)) := by
      show (if HT.sIx (D.str one :: ws.map D.str).length 0 (some 1) = 0 ∧ HT.sIx (D.str one :: ws.map D.str).length (D.str one :: ws.map D.str).length none = (D.str one :: ws.map D.str).length then none else some (D.tup (cutL (D.str one :: ws.map D.str) (some 1) none))) = _
      have e : HT.sIx (D.str one :: ws.map D.str).length 0 (some 1) = 1 := by
        have := HT.sIx_nat (D.str one :: ws.map D.str).length 0 1
        rw [List.length_cons, Nat.min_eq_left (by omega)] at this
        exact this
      rw [if_neg (by rw [e]; exact fun z => absurd z.1 (by decide))]
      rw [show (some 1 : Option Int) = some ((1 : Nat) : Int) from rfl, cutL_from]; rfl
    have hx0' : dIx (.tup (.str one :: ws.map .str)) (.int 0) = some (.str one) := (dIx_tup _ _).trans (at0 ..)
    have hgt : (1 : Int) < ((ws.length : Nat) : Int) + 1 + 1 := by omega
    simp only [runF, env0, endF, seqS, asgS, retS, ifS, nilS, brkS, cntS, drpS, mutS, forS, unpS, parS, keepM, frzM, gApp, op2, op1, vr, cI, cS, cB, cN, cT, De.get, Res.bind, lift, tst, toB, andB, orB, notB, andV, orV, notV, ifV, chn, consA, nilA, lstA, tupA, calA, fnA, strM, tgetA, lcA, itm, rngA, prtN, prtE, prtI, slA, dI, g1, g2, frz, frz_lst, frz_tup, frz_rol, frzs, frzs_ints, frzs_strs, frzs_app, frzs_len, af, af.afs, afs_ints, afs_strs, frzs_bls, dAll_map, dAny_map, all_tt, List.map_cons, List.map_nil, List.length_cons, List.length_nil, List.cons_append, List.nil_append, List.replicate, List.getElem?_cons_zero, List.getElem?_cons_succ, List.set_cons_zero, List.set_cons_succ, List.set, if_true, if_false, Bool.or_true, Bool.true_or, Bool.or_false, Bool.false_or, Bool.and_true, Bool.true_and, Bool.and_false, Bool.false_and, Bool.not_true, Bool.not_false, Option.map_some, Option.map_none, Option.bind_some, Option.bind_none, List.length_map, reduceIte, itemsL, itemsT, Option.map, Option.bind, Tg.bind, setN, List.append_nil, Nat.sub_zero, Nat.zero_add, ite_true, ite_false, Nat.zero_le, Nat.reduceAdd, Nat.reduceLeDiff, Nat.reduceSub, Nat.reduceMul, Nat.reduceEqDiff, Int.reduceLT, Int.reduceLE, Bool.false_eq_true, reduceCtorEq, and_true, true_and, and_self, F_read_deed, s_read_deed, hsp, Dd.parts, hx0, dEq, decide_true, dGt, dLen, Int.natCast_add, Int.cast_ofNat_Int, hgt, hsl, dSub, hm, ht, hsl2, hx0', Dd.D]
  | p k ts =>
    obtain ⟨⟨form, hf⟩, ht⟩ := h
    have nf := hf.nf
    have ne := hf.ne
    have lk := hf.look
    have hx0 : dIx (.lst false (.str k :: (ts.map Th.t).map .str)) (.int 0) = some (.str k) := (dIx_lst _ _).trans (at0 ..)
    have hsl : dSl (.lst false (.str k :: (ts.map Th.t).map .str)) (some 1) none = some (.lst true ((ts.map Th.t).map .str)) := dSl_1 _
    have e1 : (ts.map Th.t).map D.str = ts.map fun t => D.str t.t := by rw [List.map_map]; rfl
    have hk := things_ok ht (by have := hf.tl; omega) hf.sorts
    rw [← e1] at hk
    have ha : dAdd (.tup [.str k]) (.tup (ts.map Th.D)) = some (.tup (.str k :: ts.map Th.D)) := by
      show (if ([D.str k]).isEmpty = false ∧ szOk (([D.str k]).length + (ts.map Th.D).length) = true then some (D.tup ([D.str k] ++ ts.map Th.D)) else none) = _
      rw [if_pos ⟨rfl, szOk_of (by have := hf.tl; simp; omega)⟩]; rfl
    simp only [runF, env0, endF, seqS, asgS, retS, ifS, nilS, brkS, cntS, drpS, mutS, forS, unpS, parS, keepM, frzM, gApp, op2, op1, vr, cI, cS, cB, cN, cT, De.get, Res.bind, lift, tst, toB, andB, orB, notB, andV, orV, notV, ifV, chn, consA, nilA, lstA, tupA, calA, fnA, strM, tgetA, lcA, itm, rngA, prtN, prtE, prtI, slA, dI, g1, g2, frz, frz_lst, frz_tup, frz_rol, frzs, frzs_ints, frzs_strs, frzs_app, frzs_len, af, af.afs, afs_ints, afs_strs, frzs_bls, dAll_map, dAny_map, all_tt, List.map_cons, List.map_nil, List.length_cons, List.length_nil, List.cons_append, List.nil_append, List.replicate, List.getElem?_cons_zero, List.getElem?_cons_succ, List.set_cons_zero, List.set_cons_succ, List.set, if_true, if_false, Bool.or_true, Bool.true_or, Bool.or_false, Bool.false_or, Bool.and_true, Bool.true_and, Bool.and_false, Bool.false_and, Bool.not_true, Bool.not_false, Option.map_some, Option.map_none, Option.bind_some, Option.bind_none, List.length_map, reduceIte, itemsL, itemsT, Option.map, Option.bind, Tg.bind, setN, List.append_nil, Nat.sub_zero, Nat.zero_add, ite_true, ite_false, Nat.zero_le, Nat.reduceAdd, Nat.reduceLeDiff, Nat.reduceSub, Nat.reduceMul, Nat.reduceEqDiff, Int.reduceLT, Int.reduceLE, Bool.false_eq_true, reduceCtorEq, and_true, true_and, and_self, F_read_deed, s_read_deed, hsp, Dd.parts, hx0, dEq, nf, lk, ne, hsl, hk, ths_frz, ha, Dd.D]
theorem row_ok {d : Dd} (h : d.ok) : F__law_deed_row [d.D] = .ok (.str d.row) := text_ok h
end Cm
set_option Elab.async false
set_option linter.all false
set_option maxRecDepth 100000
namespace Cm
open PySem De

abbrev kindsD : List De.D := [.str "found", .str "put", .str "take", .str "right", .str "tear", .str "join", .str "turn", .str "strike", .str "doubt", .str "trust", .str "alike"]
/-- what a kind's word answers -/
structure Kd (w : Str) (b1 b2 b3 b4 b5 : Bool) : Prop where
  e1 : dEq (.str w) (.str "found") = some (.bl b1)
  e2 : dIn (.str w) (.tup [.str "put", .str "right"]) = some (.bl b2)
  e3 : dIn (.str w) (.tup [.str "take", .str "tear", .str "join"]) = some (.bl b3)
  e4 : dIn (.str w) (.tup [.str "turn", .str "strike"]) = some (.bl b4)
  e5 : dEq (.str w) (.str "alike") = some (.bl b5)
theorem kd_of {w : Str} {b1 b2 b3 b4 b5 : Bool} (h1 : decide (w = ("found" : Str)) = b1) (h2 : decide (w ∈ [("put" : Str), "right"]) = b2) (h3 : decide (w ∈ [("take" : Str), "tear", "join"]) = b3) (h4 : decide (w ∈ [("turn" : Str), "strike"]) = b4) (h5 : decide (w = ("alike" : Str)) = b5) : Kd w b1 b2 b3 b4 b5 :=
  ⟨by rw [← h1]; rfl, by rw [← h2]; rfl, by rw [← h3]; rfl, by rw [← h4]; rfl, by rw [← h5]; rfl⟩
/-- what is drawn for a deed -/
structure Dr (ds : List Int) (one other : Str) (num at_ : Nat) : Prop where
  len : ds.length = 46
  sm : Sm ds
  f1 : F__law_text_word [.lst false ((ds.drop 1).map .int)] = .ok (.str one)
  f4 : F__law_text_word [.lst false ((ds.drop 4).map .int)] = .ok (.str other)
  f7 : F__law_text_number [.lst false ((ds.drop 7).map .int)] = .ok (.int num)
  f10 : F__law_text_number [.lst false ((ds.drop 10).map .int)] = .ok (.int at_)
theorem slI (ds : List Int) (k : Nat) : dSl (.lst false (ds.map .int)) (some (k : Int)) none = some (.lst true ((ds.drop k).map .int)) := by
  rw [dSl_from, List.map_drop]
section
variable {ds : List Int} {one other w : Str} {num at_ : Nat} {b1 b2 b3 b4 b5 : Bool} {d0 d1 : Int}
theorem any_deed (D : Dr ds one other num at_) (h0 : dIx (.lst false (ds.map .int)) (.int 0) = some (.int d0)) (hk : dIx (.lst false kindsD) (.int (d0 % 11)) = some (.str w)) (K : Kd w b1 b2 b3 b4 b5) (hb : b1 = false) :
    F__law_any_deed [.lst false (ds.map .int)] = .ok (if b2 = true then .tup [.str w, .int num, .int at_, .str one] else if b3 = true then .tup [.str w, .int num, .int at_] else if b4 = true then .tup [.str w, .int num] else if b5 = true then .tup [.str w, .str one, .str other] else .tup [.str w, .str one]) := by
  subst hb
  obtain ⟨e1, e2, e3, e4, e5⟩ := K
  have f1 := D.f1
  have f4 := D.f4
  have f7 := D.f7
  have f10 := D.f10
  have s1 : dSl (.lst false (ds.map .int)) (some 1) none = some (.lst true ((ds.drop 1).map .int)) := slI ds 1
  have s4 : dSl (.lst false (ds.map .int)) (some 4) none = some (.lst true ((ds.drop 4).map .int)) := slI ds 4
  have s7 : dSl (.lst false (ds.map .int)) (some 7) none = some (.lst true ((ds.drop 7).map .int)) := slI ds 7
  have s10 : dSl (.lst false (ds.map .int)) (some 10) none = some (.lst true ((ds.drop 10).map .int)) := slI ds 10
  have e11 : (0 : Int) < 11 := by decide
  cases b2 <;> cases b3 <;> cases b4 <;> cases b5 <;>
  simp only [runF, env0, endF, seqS, asgS, retS, ifS, nilS, brkS, cntS, drpS, mutS, forS, unpS, parS, keepM, frzM, gApp, op2, op1, vr, cI, cS, cB, cN, cT, De.get, Res.bind, lift, tst, toB, andB, orB, notB, andV, orV, notV, ifV, chn, consA, nilA, lstA, tupA, calA, fnA, strM, tgetA, lcA, itm, rngA, prtN, prtE, prtI, slA, dI, g1, g2, frz, frz_lst, frz_tup, frz_rol, frzs, frzs_ints, frzs_strs, frzs_app, frzs_len, af, af.afs, afs_ints, afs_strs, frzs_bls, dAll_map, dAny_map, all_tt, List.map_cons, List.map_nil, List.length_cons, List.length_nil, List.cons_append, List.nil_append, List.replicate, List.getElem?_cons_zero, List.getElem?_cons_succ, List.set_cons_zero, List.set_cons_succ, List.set, if_true, if_false, Bool.or_true, Bool.true_or, Bool.or_false, Bool.false_or, Bool.and_true, Bool.true_and, Bool.and_false, Bool.false_and, Bool.not_true, Bool.not_false, Option.map_some, Option.map_none, Option.bind_some, Option.bind_none, List.length_map, reduceIte, itemsL, itemsT, Option.map, Option.bind, Tg.bind, setN, List.append_nil, Nat.sub_zero, Nat.zero_add, ite_true, ite_false, Nat.zero_le, Nat.reduceAdd, Nat.reduceLeDiff, Nat.reduceSub, Nat.reduceMul, Nat.reduceEqDiff, Int.reduceLT, Int.reduceLE, Bool.false_eq_true, reduceCtorEq, and_true, true_and, and_self, F__law_any_deed, s__law_any_deed, h0, dMod, e11, hk, s1, s4, s7, s10, f1, f4, f7, f10, and_self, e1, e2, e3, e4, e5]
theorem any_found (D : Dr ds one other num at_) (h0 : dIx (.lst false (ds.map .int)) (.int 0) = some (.int d0)) (h1 : dIx (.lst false (ds.map .int)) (.int 1) = some (.int d1)) (hk : dIx (.lst false kindsD) (.int (d0 % 11)) = some (.str "found")) :
    ∃ ws : List Str, ws.length ≤ 10 ∧ (∀ w ∈ ws, W8 w) ∧ F__law_any_deed [.lst false (ds.map .int)] = .ok (.tup [.str "found", .tup (ws.map .str), .str one]) := by
  have e1 : dEq (.str "found") (.str "found") = some (.bl true) := by show some (De.D.bl (decide (("found" : Str) = "found"))) = _; rw [decide_eq_true rfl]
  have f1 := D.f1
  have f4 := D.f4
  have f7 := D.f7
  have f10 := D.f10
  have s1 : dSl (.lst false (ds.map .int)) (some 1) none = some (.lst true ((ds.drop 1).map .int)) := slI ds 1
  have s4 : dSl (.lst false (ds.map .int)) (some 4) none = some (.lst true ((ds.drop 4).map .int)) := slI ds 4
  have s7 : dSl (.lst false (ds.map .int)) (some 7) none = some (.lst true ((ds.drop 7).map .int)) := slI ds 7
  have s10 : dSl (.lst false (ds.map .int)) (some 10) none = some (.lst true ((ds.drop 10).map .int)) := slI ds 10
  have e11 : (0 : Int) < 11 := by decide
  have hw : ∀ k : Nat, k < 11 → ∃ s, F__law_text_word [.lst false ((ds.drop (13 + 3 * k)).map .int)] = .ok (.str s) ∧ W8 s := fun k hk => word_ok (by rw [List.length_drop, D.len]; omega) (D.sm.drop _)
  let g : Nat → Str := fun k => if h : k < 11 then Classical.choose (hw k h) else ""
  have hg : ∀ k (h : k < 11), F__law_text_word [.lst false ((ds.drop (13 + 3 * k)).map .int)] = .ok (.str (g k)) ∧ W8 (g k) := fun k h => by
    have := Classical.choose_spec (hw k h)
    have e : g k = Classical.choose (hw k h) := dif_pos h
    rw [e]; exact this
  have hn : 0 ≤ d1 % 11 ∧ d1 % 11 < 11 := ⟨Int.emod_nonneg _ (by decide), Int.emod_lt_of_pos _ (by decide)⟩
  let n := (d1 % 11).toNat
  have hn2 : n < 11 := by show (d1 % 11).toNat < 11; omega
  have lc : lcGo (.one 7) yesB e1__law_any_deed [some (.lst false (ds.map .int)), some (.lst true kindsD), some (.str "found"), some (.str one), some (.str other), some (.int num), some (.int at_), none] (rngD 0 (d1 % 11).toNat) = some (((List.range n).map g).map .str) := by
    rw [List.map_map]
    refine lcGo_rng _ 0 _ fun i hi => ⟨_, rfl, rfl, ?_⟩
    have hi2 : i < 11 := by omega
    have hf := (hg i hi2).1
    have hs : dSl (.lst false (ds.map .int)) (some (13 + 3 * (i : Int))) none = some (.lst true ((ds.drop (13 + 3 * i)).map .int)) := by
      have := slI ds (13 + 3 * i)
      rw [show ((13 + 3 * i : Nat) : Int) = 13 + 3 * (i : Int) from by omega] at this
      exact this
    have h3 : De.small64 3 = true := by decide
    simp only [runF, env0, endF, seqS, asgS, retS, ifS, nilS, brkS, cntS, drpS, mutS, forS, unpS, parS, keepM, frzM, gApp, op2, op1, vr, cI, cS, cB, cN, cT, De.get, Res.bind, lift, tst, toB, andB, orB, notB, andV, orV, notV, ifV, chn, consA, nilA, lstA, tupA, calA, fnA, strM, tgetA, lcA, itm, rngA, prtN, prtE, prtI, slA, dI, g1, g2, frz, frz_lst, frz_tup, frz_rol, frzs, frzs_ints, frzs_strs, frzs_app, frzs_len, af, af.afs, afs_ints, afs_strs, frzs_bls, dAll_map, dAny_map, all_tt, List.map_cons, List.map_nil, List.length_cons, List.length_nil, List.cons_append, List.nil_append, List.replicate, List.getElem?_cons_zero, List.getElem?_cons_succ, List.set_cons_zero, List.set_cons_succ, List.set, if_true, if_false, Bool.or_true, Bool.true_or, Bool.or_false, Bool.false_or, Bool.and_true, Bool.true_and, Bool.and_false, Bool.false_and, Bool.not_true, Bool.not_false, Option.map_some, Option.map_none, Option.bind_some, Option.bind_none, List.length_map, reduceIte, itemsL, itemsT, Option.map, Option.bind, Tg.bind, setN, List.append_nil, Nat.sub_zero, Nat.zero_add, ite_true, ite_false, Nat.zero_le, Nat.reduceAdd, Nat.reduceLeDiff, Nat.reduceSub, Nat.reduceMul, Nat.reduceEqDiff, Int.reduceLT, Int.reduceLE, Bool.false_eq_true, reduceCtorEq, and_true, true_and, and_self, e1__law_any_deed, dMul, h3, Int.zero_add, dAdd, hs, hf, Function.comp]
  have hr : ((d1 % 11 : Int) ≤ 16777216 ∧ -(2 ^ 62) ≤ (d1 % 11 : Int)) = True := eq_true ⟨by omega, by omega⟩
  have ht : dTup (.lst false (((List.range n).map g).map .str)) = some (.tup (((List.range n).map g).map .str)) := rfl
  refine ⟨(List.range n).map g, by rw [List.length_map, List.length_range]; omega, fun w hw => ?_, ?_⟩
  · obtain ⟨i, hi, rfl⟩ := List.mem_map.mp hw
    exact (hg i (by have := List.mem_range.mp hi; omega)).2
  · generalize hL : (List.range n).map g = L at lc ht
    simp only [runF, env0, endF, seqS, asgS, retS, ifS, nilS, brkS, cntS, drpS, mutS, forS, unpS, parS, keepM, frzM, gApp, op2, op1, vr, cI, cS, cB, cN, cT, De.get, Res.bind, lift, tst, toB, andB, orB, notB, andV, orV, notV, ifV, chn, consA, nilA, lstA, tupA, calA, fnA, strM, tgetA, lcA, itm, rngA, prtN, prtE, prtI, slA, dI, g1, g2, frz, frz_lst, frz_tup, frz_rol, frzs, frzs_ints, frzs_strs, frzs_app, frzs_len, af, af.afs, afs_ints, afs_strs, frzs_bls, dAll_map, dAny_map, all_tt, List.map_cons, List.map_nil, List.length_cons, List.length_nil, List.cons_append, List.nil_append, List.replicate, List.getElem?_cons_zero, List.getElem?_cons_succ, List.set_cons_zero, List.set_cons_succ, List.set, if_true, if_false, Bool.or_true, Bool.true_or, Bool.or_false, Bool.false_or, Bool.and_true, Bool.true_and, Bool.and_false, Bool.false_and, Bool.not_true, Bool.not_false, Option.map_some, Option.map_none, Option.bind_some, Option.bind_none, List.length_map, reduceIte, itemsL, itemsT, Option.map, Option.bind, Tg.bind, setN, List.append_nil, Nat.sub_zero, Nat.zero_add, ite_true, ite_false, Nat.zero_le, Nat.reduceAdd, Nat.reduceLeDiff, Nat.reduceSub, Nat.reduceMul, Nat.reduceEqDiff, Int.reduceLT, Int.reduceLE, Bool.false_eq_true, reduceCtorEq, and_true, true_and, and_self, F__law_any_deed, s__law_any_deed, h0, h1, dMod, e11, hk, s1, s4, s7, s10, f1, f4, f7, f10, and_self, e1, hr, lc, ht]
end
theorem pform (k : Str) (ts : List Th) (form : Str) (h1 : tab_FORMS.lookup k = some form) (h2 : (form.cps.toList.map fun c => (⟨#[c]⟩ : Str)) = ts.map Th.s) (h3 : decide (k = ("found" : Str)) = false) (h4 : decide (form = ("" : Str)) = false) (h5 : decide (32 ∈ k.cps.toList) = false) (h6 : decide (k.length ≤ 10) = true) (h7 : decide (ts.length ≤ 3) = true) : PForm k ts form :=
  ⟨h1, h2, h3, h4, of_decide_eq_false h5, of_decide_eq_true h6, of_decide_eq_true h7⟩
theorem drawn {ds : List Int} (hl : ds.length = 46) (hs : Sm ds) : ∃ d : Dd, d.ok ∧ F__law_any_deed [.lst false (ds.map .int)] = .ok d.D := by
  obtain ⟨one, f1, w1⟩ := word_ok (es := ds.drop 1) (by rw [List.length_drop]; omega) (hs.drop _)
  obtain ⟨other, f4, w4⟩ := word_ok (es := ds.drop 4) (by rw [List.length_drop]; omega) (hs.drop _)
  obtain ⟨num, f7, n7⟩ := number_ok (es := ds.drop 7) (by rw [List.length_drop]; omega) (hs.drop _)
  obtain ⟨at_, f10, n10⟩ := number_ok (es := ds.drop 10) (by rw [List.length_drop]; omega) (hs.drop _)
  have D : Dr ds one other num at_ := ⟨hl, hs, f1, f4, f7, f10⟩
  obtain ⟨d0, d1, c, r, rfl⟩ := at3 (es := ds) (by omega)
  have h0 : dIx (.lst false ((d0 :: d1 :: c :: r).map .int)) (.int 0) = some (.int d0) := (dIx_lst _ _).trans (at0 ..)
  have h1 : dIx (.lst false ((d0 :: d1 :: c :: r).map .int)) (.int 1) = some (.int d1) := (dIx_lst _ _).trans (at1 ..)
  have hd : ∃ j : Nat, j < 11 ∧ d0 % 11 = j := ⟨(d0 % 11).toNat, by omega, by omega⟩
  obtain ⟨j, hj, ej⟩ := hd
  have pick : ∀ w, kindsD[j]? = some (.str w) → dIx (.lst false kindsD) (.int (d0 % 11)) = some (.str w) := fun w h => by rw [ej, dIx_lst]; exact atI_nat' h
  have fin : ∀ (w : Str) (b2 b3 b4 b5 : Bool) (ts : List Th) (form : Str), kindsD[j]? = some (.str w) → Kd w false b2 b3 b4 b5 → (.tup (.str w :: ts.map Th.D) : De.D) = (if b2 = true then .tup [.str w, .int num, .int at_, .str one] else if b3 = true then .tup [.str w, .int num, .int at_] else if b4 = true then .tup [.str w, .int num] else if b5 = true then .tup [.str w, .str one, .str other] else .tup [.str w, .str one]) →
      PForm w ts form → (∀ t ∈ ts, t.ok) → ∃ d : Dd, d.ok ∧ F__law_any_deed [.lst false ((d0 :: d1 :: c :: r).map .int)] = .ok d.D := by
    intro w b2 b3 b4 b5 ts form h K e pf ht
    exact ⟨.p w ts, ⟨⟨form, pf⟩, ht⟩, by rw [any_deed D h0 (pick w h) K rfl, ← e]; rfl⟩
  have o3 : ∀ t ∈ [Th.n num, Th.n at_, Th.w one], t.ok := by
    intro t ht
    simp only [List.mem_cons, List.not_mem_nil, or_false] at ht
    rcases ht with rfl | rfl | rfl
    · exact n7
    · exact n10
    · exact w1
  have o2 : ∀ t ∈ [Th.n num, Th.n at_], t.ok := fun t ht => o3 t (by simp only [List.mem_cons, List.not_mem_nil, or_false] at ht ⊢; rcases ht with h | h; exact .inl h; exact .inr (.inl h))
  have o1 : ∀ t ∈ [Th.n num], t.ok := fun t ht => o3 t (by simp only [List.mem_cons, List.not_mem_nil, or_false] at ht ⊢; exact .inl ht)
  have ow : ∀ t ∈ [Th.w one], t.ok := fun t ht => o3 t (by simp only [List.mem_cons, List.not_mem_nil, or_false] at ht ⊢; exact .inr (.inr ht))
  have oww : ∀ t ∈ [Th.w one, Th.w other], t.ok := by
    intro t ht
    simp only [List.mem_cons, List.not_mem_nil, or_false] at ht
    rcases ht with rfl | rfl
    · exact w1
    · exact w4
  match j, hj with
  | 0, _ =>
    obtain ⟨ws, a1, a2, a3⟩ := any_found D h0 h1 (pick "found" rfl)
    exact ⟨.f ws one, ⟨a1, a2, w1⟩, a3⟩
  | 1, _ => exact fin "put" true false false false [.n num, .n at_, .w one] "nnw" rfl (kd_of (by decide +kernel) (by decide +kernel) (by decide +kernel) (by decide +kernel) (by decide +kernel)) rfl (pform _ _ _ (by decide +kernel) rfl (by decide +kernel) (by decide +kernel) (by decide +kernel) (by decide +kernel) rfl) o3
  | 2, _ => exact fin "take" false true false false [.n num, .n at_] "nn" rfl (kd_of (by decide +kernel) (by decide +kernel) (by decide +kernel) (by decide +kernel) (by decide +kernel)) rfl (pform _ _ _ (by decide +kernel) rfl (by decide +kernel) (by decide +kernel) (by decide +kernel) (by decide +kernel) rfl) o2
  | 3, _ => exact fin "right" true false false false [.n num, .n at_, .w one] "nnw" rfl (kd_of (by decide +kernel) (by decide +kernel) (by decide +kernel) (by decide +kernel) (by decide +kernel)) rfl (pform _ _ _ (by decide +kernel) rfl (by decide +kernel) (by decide +kernel) (by decide +kernel) (by decide +kernel) rfl) o3
  | 4, _ => exact fin "tear" false true false false [.n num, .n at_] "nn" rfl (kd_of (by decide +kernel) (by decide +kernel) (by decide +kernel) (by decide +kernel) (by decide +kernel)) rfl (pform _ _ _ (by decide +kernel) rfl (by decide +kernel) (by decide +kernel) (by decide +kernel) (by decide +kernel) rfl) o2
  | 5, _ => exact fin "join" false true false false [.n num, .n at_] "nn" rfl (kd_of (by decide +kernel) (by decide +kernel) (by decide +kernel) (by decide +kernel) (by decide +kernel)) rfl (pform _ _ _ (by decide +kernel) rfl (by decide +kernel) (by decide +kernel) (by decide +kernel) (by decide +kernel) rfl) o2
  | 6, _ => exact fin "turn" false false true false [.n num] "n" rfl (kd_of (by decide +kernel) (by decide +kernel) (by decide +kernel) (by decide +kernel) (by decide +kernel)) rfl (pform _ _ _ (by decide +kernel) rfl (by decide +kernel) (by decide +kernel) (by decide +kernel) (by decide +kernel) rfl) o1
  | 7, _ => exact fin "strike" false false true false [.n num] "n" rfl (kd_of (by decide +kernel) (by decide +kernel) (by decide +kernel) (by decide +kernel) (by decide +kernel)) rfl (pform _ _ _ (by decide +kernel) rfl (by decide +kernel) (by decide +kernel) (by decide +kernel) (by decide +kernel) rfl) o1
  | 8, _ => exact fin "doubt" false false false false [.w one] "w" rfl (kd_of (by decide +kernel) (by decide +kernel) (by decide +kernel) (by decide +kernel) (by decide +kernel)) rfl (pform _ _ _ (by decide +kernel) rfl (by decide +kernel) (by decide +kernel) (by decide +kernel) (by decide +kernel) rfl) ow
  | 9, _ => exact fin "trust" false false false false [.w one] "w" rfl (kd_of (by decide +kernel) (by decide +kernel) (by decide +kernel) (by decide +kernel) (by decide +kernel)) rfl (pform _ _ _ (by decide +kernel) rfl (by decide +kernel) (by decide +kernel) (by decide +kernel) (by decide +kernel) rfl) ow
  | 10, _ => exact fin "alike" false false false true [.w one, .w other] "ww" rfl (kd_of (by decide +kernel) (by decide +kernel) (by decide +kernel) (by decide +kernel) (by decide +kernel)) rfl (pform _ _ _ (by decide +kernel) rfl (by decide +kernel) (by decide +kernel) (by decide +kernel) (by decide +kernel) rfl) oww
  | j + 11, h => exact absurd h (by omega)
end Cm
set_option Elab.async false
set_option linter.all false
set_option maxRecDepth 100000
namespace K42
open PySem De Cm

def lim45 : List Int := List.replicate 45 2520
def lim46 : List Int := 1210 :: List.replicate 45 2520
theorem lim_m : dMul (.lst false [.int 2520]) (.int 45) = some (.lst true (lim45.map .int)) := by rfl
theorem lim_a : dAdd (.lst false [.int 1210]) (.lst false (lim45.map .int)) = some (.lst true (lim46.map .int)) := by rfl
theorem lim_ok : ∀ l ∈ lim46, 0 < l ∧ l < 1073741824 := by decide
theorem lim_lt : ∀ l ∈ lim46, l ≤ 2520 := by decide
theorem rf_deed (d : Dd) : d.ok → rf 7 d.D := by
  intro h
  have hs : ∀ (l : List Str) x, x ∈ l.map De.D.str → rf 5 x := fun l x hx => by obtain ⟨s, _, rfl⟩ := List.mem_map.mp hx; exact .inl rfl
  cases d with
  | f ws one =>
    refine .inr ⟨_, .inr rfl, by show 3 ≤ 16777216; decide, fun x hx => ?_⟩
    simp only [List.mem_cons, List.not_mem_nil, or_false] at hx
    rcases hx with rfl | rfl | rfl
    · exact .inl rfl
    · exact .inr ⟨_, .inr rfl, by rw [List.length_map]; have := h.1; omega, hs ws⟩
    · exact .inl rfl
  | p k ts =>
    obtain ⟨⟨form, hf⟩, _⟩ := h
    refine .inr ⟨_, .inr rfl, by rw [List.length_cons, List.length_map]; have := hf.tl; omega, fun x hx => ?_⟩
    rcases List.mem_cons.mp hx with rfl | hx
    · exact .inl rfl
    · obtain ⟨t, _, rfl⟩ := List.mem_map.mp hx
      cases t <;> exact .inl rfl
theorem law_true (ns : List Int) (hl : ns.length ≤ 63) (hb : ∀ z ∈ ns, Builtin.Int.intBits z ≤ 1048576) : F_law [.rol (ns.map D.int)] = .ok (.bl true) := by
  have loop : ∃ ρ', forGo (.one 1) b1_law (rngD 0 12) [some (.rol (ns.map D.int)), none, none, none] = .nx ρ' ∧ ∃ x y z, ρ' = [some (.rol (ns.map D.int)), x, y, z] := by
    refine forGo_all (fun _ ρ => ∃ x y z, ρ = [some (.rol (ns.map D.int)), x, y, z]) (rngD 0 12) ⟨none, none, none, rfl⟩ ?_
    rintro pre d post ρ ⟨x, y, z, rfl⟩ hall
    obtain ⟨i, hi, rfl⟩ := List.mem_map.mp (show d ∈ rngD 0 12 by rw [hall]; simp)
    have hi := List.mem_range.mp hi
    obtain ⟨c, hc⟩ := cell_ok ns i (by omega) (by omega)
    obtain ⟨ds, hd, hbd⟩ := draw_ok c lim46 lim_ok (by decide)
    have hlen : ds.length = 46 := hbd.1
    have hsm : Sm ds := fun e he => by
      obtain ⟨j, hj, e1⟩ := List.mem_iff_getElem.mp he
      have hj2 : j < lim46.length := by rw [← hbd.1]; exact hj
      have := hbd.2 j e lim46[j] (by rw [List.getElem?_eq_getElem hj, e1]) (List.getElem?_eq_getElem hj2)
      have h2 := lim_lt lim46[j] (List.getElem_mem hj2)
      omega
    obtain ⟨dd, hok, hdd⟩ := drawn hlen hsm
    have ht := text_ok hok
    have hr := row_ok hok
    have hread := read_ok hok
    have s1 : F__law_same [.str dd.row, .str dd.row] = .ok (.bl true) := same_ok (.inl rfl)
    have s2 := same_ok (rf_deed dd hok)
    have fz : frz dd.D = dd.D := rf_frz 7 _ (rf_deed dd hok)
    have af' : af dd.D = true := by
      cases dd with
      | f ws one => show af.afs _ = true; rw [afs_cons, afs_cons, afs_cons]; show (true && (af.afs (ws.map .str) && (true && true))) = true; rw [afs_strs]; rfl
      | p k ts =>
        show af.afs _ = true
        rw [afs_cons]
        have : ∀ l : List Th, af.afs (l.map Th.D) = true := fun l => by
          induction l with
          | nil => rfl
          | cons t l ih => rw [List.map_cons, afs_cons, ih]; cases t <;> rfl
        rw [this]; rfl
    refine ⟨_, [some (.rol (ns.map D.int)), some (.int (0 + (i : Int))), some dd.D, some (.str dd.row)], rfl, .inl ?_, _, _, _, rfl⟩
    simp only [runF, env0, endF, seqS, asgS, retS, ifS, nilS, brkS, cntS, drpS, mutS, forS, unpS, parS, keepM, frzM, gApp, op2, op1, vr, cI, cS, cB, cN, cT, De.get, Res.bind, lift, tst, toB, andB, orB, notB, andV, orV, notV, ifV, chn, consA, nilA, lstA, tupA, calA, fnA, strM, tgetA, lcA, itm, rngA, prtN, prtE, prtI, slA, dI, g1, g2, frz, frz_lst, frz_tup, frz_rol, frzs, frzs_ints, frzs_strs, frzs_app, frzs_len, af, af.afs, afs_ints, afs_strs, frzs_bls, dAll_map, dAny_map, all_tt, List.map_cons, List.map_nil, List.length_cons, List.length_nil, List.cons_append, List.nil_append, List.replicate, List.getElem?_cons_zero, List.getElem?_cons_succ, List.set_cons_zero, List.set_cons_succ, List.set, if_true, if_false, Bool.or_true, Bool.true_or, Bool.or_false, Bool.false_or, Bool.and_true, Bool.true_and, Bool.and_false, Bool.false_and, Bool.not_true, Bool.not_false, Option.map_some, Option.map_none, Option.bind_some, Option.bind_none, List.length_map, reduceIte, itemsL, itemsT, Option.map, Option.bind, Tg.bind, setN, List.append_nil, Nat.sub_zero, Nat.zero_add, ite_true, ite_false, Nat.zero_le, Nat.reduceAdd, Nat.reduceLeDiff, Nat.reduceSub, Nat.reduceMul, Nat.reduceEqDiff, Int.reduceLT, Int.reduceLE, Bool.false_eq_true, reduceCtorEq, and_true, true_and, and_self, b1_law, Int.zero_add, hc, lim_m, lim_a, hd, hdd, fz, af', hr, ht, hread, s1, s2]
  obtain ⟨ρ', e, x, y, z, rfl⟩ := loop
  have h12 : (-(2 ^ 62) ≤ (12 : Int)) = True := eq_true (by decide)
  have e12 : (12 : Int).toNat = 12 := rfl
  simp only [runF, env0, endF, seqS, asgS, retS, ifS, nilS, brkS, cntS, drpS, mutS, forS, unpS, parS, keepM, frzM, gApp, op2, op1, vr, cI, cS, cB, cN, cT, De.get, Res.bind, lift, tst, toB, andB, orB, notB, andV, orV, notV, ifV, chn, consA, nilA, lstA, tupA, calA, fnA, strM, tgetA, lcA, itm, rngA, prtN, prtE, prtI, slA, dI, g1, g2, frz, frz_lst, frz_tup, frz_rol, frzs, frzs_ints, frzs_strs, frzs_app, frzs_len, af, af.afs, afs_ints, afs_strs, frzs_bls, dAll_map, dAny_map, all_tt, List.map_cons, List.map_nil, List.length_cons, List.length_nil, List.cons_append, List.nil_append, List.replicate, List.getElem?_cons_zero, List.getElem?_cons_succ, List.set_cons_zero, List.set_cons_succ, List.set, if_true, if_false, Bool.or_true, Bool.true_or, Bool.or_false, Bool.false_or, Bool.and_true, Bool.true_and, Bool.and_false, Bool.false_and, Bool.not_true, Bool.not_false, Option.map_some, Option.map_none, Option.bind_some, Option.bind_none, List.length_map, reduceIte, itemsL, itemsT, Option.map, Option.bind, Tg.bind, setN, List.append_nil, Nat.sub_zero, Nat.zero_add, ite_true, ite_false, Nat.zero_le, Nat.reduceAdd, Nat.reduceLeDiff, Nat.reduceSub, Nat.reduceMul, Nat.reduceEqDiff, Int.reduceLT, Int.reduceLE, Bool.false_eq_true, reduceCtorEq, and_true, true_and, and_self, F_law, s_law, h12, e12, e]
end K42
set_option Elab.async false
set_option linter.all false
set_option maxRecDepth 100000
set_option maxHeartbeats 0
namespace K42
open PySem PySem.Spec PyProof.Rows L2 De Cm
def d_are_marks : He.DefD := ⟨("are_marks", none), "are_marks", "are_marks", defArgs (top 5), defBody (top 5), defScope (top 5), [], []⟩
def d_deed_text : He.DefD := ⟨("deed_text", none), "deed_text", "deed_text", defArgs (top 11), defBody (top 11), defScope (top 11), [], []⟩
def d_number_in : He.DefD := ⟨("number_in", none), "number_in", "number_in", defArgs (top 12), defBody (top 12), defScope (top 12), [], []⟩
def d_thing_in : He.DefD := ⟨("thing_in", none), "thing_in", "thing_in", defArgs (top 13), defBody (top 13), defScope (top 13), [], []⟩
def d_things_in : He.DefD := ⟨("things_in", none), "things_in", "things_in", defArgs (top 14), defBody (top 14), defScope (top 14), [], []⟩
def d_read_deed : He.DefD := ⟨("read_deed", none), "read_deed", "read_deed", defArgs (top 15), defBody (top 15), defScope (top 15), [], []⟩
def d__law_mixed : He.DefD := ⟨("_law_mixed", none), "_law_mixed", "_law_mixed", defArgs (top 17), defBody (top 17), defScope (top 17), [], []⟩
def d__law_draw : He.DefD := ⟨("_law_draw", none), "_law_draw", "_law_draw", defArgs (top 18), defBody (top 18), defScope (top 18), [], []⟩
def d__law_cell : He.DefD := ⟨("_law_cell", none), "_law_cell", "_law_cell", defArgs (top 19), defBody (top 19), defScope (top 19), [], []⟩
def d__law_num : He.DefD := ⟨("_law_num", none), "_law_num", "_law_num", defArgs (top 20), defBody (top 20), defScope (top 20), [], []⟩
def d__law_same : He.DefD := ⟨("_law_same", none), "_law_same", "_law_same", defArgs (top 21), defBody (top 21), defScope (top 21), [], []⟩
def d__law_text_word : He.DefD := ⟨("_law_text_word", none), "_law_text_word", "_law_text_word", defArgs (top 22), defBody (top 22), defScope (top 22), [], []⟩
def d__law_text_number : He.DefD := ⟨("_law_text_number", none), "_law_text_number", "_law_text_number", defArgs (top 23), defBody (top 23), defScope (top 23), [], []⟩
def d__law_any_deed : He.DefD := ⟨("_law_any_deed", none), "_law_any_deed", "_law_any_deed", defArgs (top 24), defBody (top 24), defScope (top 24), [], []⟩
def d__law_deed_row : He.DefD := ⟨("_law_deed_row", none), "_law_deed_row", "_law_deed_row", defArgs (top 25), defBody (top 25), defScope (top 25), [], []⟩
def d_law : He.DefD := ⟨("law", none), "law", "law", defArgs (top 26), defBody (top 26), defScope (top 26), [], []⟩
def fn : List He.DefD := [d_are_marks, d_deed_text, d_number_in, d_thing_in, d_things_in, d_read_deed, d__law_mixed, d__law_draw, d__law_cell, d__law_num, d__law_same, d__law_text_word, d__law_text_number, d__law_any_deed, d__law_deed_row, d_law]
def fa : List He.Fa := [.glo "are_marks", .glo "deed_text", .glo "number_in", .glo "thing_in", .glo "things_in", .glo "read_deed", .glo "_law_mixed", .glo "_law_draw", .glo "_law_cell", .glo "_law_num", .glo "_law_same", .glo "_law_text_word", .glo "_law_text_number", .glo "_law_any_deed", .glo "_law_deed_row", .glo "law", .str "LETTERS" "abcdefghijklmnopqrstuvwxyz", .free "all", .free "len", .free "str", .free "int", .str "FIGURES" "0123456789", .int "MOST_FIGURES" 9, .int "LONGEST" 8, .free "zip", .free "tuple", .glo "FORMS", .free "abs", .free "bool", .free "isinstance", .free "range", .free "list"]
def ts : List He.Tab := [(fun K => He.ga K "FORMS", tab_FORMS.map (·.1))]
def ex (K : PySem.W.Frag) : Bool := tabB K (He.ga K "FORMS") tab_FORMS
abbrev R : PySem.W.OpenRow := PySem.W.OpenLaw.row PySem.Challenge.rw_scribelists_k42_deeds_written
abbrev hk : PySem.W.Hook := He.hookX 4 fa fn ts [] ex
def ob (s : PySem.W.SharedT) : He.AlX := He.obsX 4 fa fn ts [] ex (HandSHeadRun.getT s)
theorem ob_eq (s : PySem.W.SharedT) : ob s = hk.obs s.abs := He.obsX_eq (HandSHeadRun.getT_eq s)
def loose : List PySem.Str := ["ScribeError", "BadText", "LETTERS", "are_marks", "FIGURES", "MOST_FIGURES", "LONGEST", "FORMS", "deed_text", "number_in", "thing_in", "things_in", "read_deed", "_law_mixed", "_law_draw", "_law_cell", "_law_num", "_law_same", "_law_text_word", "_law_text_number", "_law_any_deed", "_law_deed_row"]
theorem run_false (w : World) : HandSHeadRun.RunEq R (PySem.W.view R.prog [26]) hk ob 2000 loose (w.withFollow "special-get-raises" false) := by
  intro os
  kernel_rfl
theorem run_true (w : World) : HandSHeadRun.RunEq R (PySem.W.view R.prog [26]) hk ob 2000 loose (w.withFollow "special-get-raises" true) := by
  intro os
  kernel_rfl
theorem run (w : World) : HandSHeadRun.RunEq R (PySem.W.view R.prog [26]) hk ob 2000 loose w := PySem.W.byRow2 "special-get-raises" (P := fun w => HandSHeadRun.RunEq R (PySem.W.view R.prog [26]) hk ob 2000 loose w) run_false run_true w
theorem facts {P : Program} {w : World} {K : PySem.W.Frag} {h : Heap} {mg : Str → Option Value} {f : Addr} (X : K.In h) (G : h.Ns mainGlobals mg) (hfa : mg ("law" : Str) = some (.ref f)) (c : He.SaysX fa fn ts [] ex w h K) :
    ∃ fd : FuncData, (∀ (s : Shared) (v : Value), BindsTo s fd ⟨[v], []⟩ [("_law_script", v)]) ∧ ∀ base : Heap, K.In base → base.Ns mainGlobals mg → FnOk P w K mg base (L2.CX P w) 11 f fd ["_law_script"] (spD ⟨K, [], mg⟩ 1 F_law) := by
  have cd := c.t.d
  have G_are_marks : FnP K "are_marks" (top 5) := cd.def_ 0 (d := d_are_marks) rfl
  have m_are_marks := He.glo_ok X G (cd.fact 0 (f := .glo "are_marks") rfl)
  have G_deed_text : FnP K "deed_text" (top 11) := cd.def_ 1 (d := d_deed_text) rfl
  have m_deed_text := He.glo_ok X G (cd.fact 1 (f := .glo "deed_text") rfl)
  have G_number_in : FnP K "number_in" (top 12) := cd.def_ 2 (d := d_number_in) rfl
  have m_number_in := He.glo_ok X G (cd.fact 2 (f := .glo "number_in") rfl)
  have G_thing_in : FnP K "thing_in" (top 13) := cd.def_ 3 (d := d_thing_in) rfl
  have m_thing_in := He.glo_ok X G (cd.fact 3 (f := .glo "thing_in") rfl)
  have G_things_in : FnP K "things_in" (top 14) := cd.def_ 4 (d := d_things_in) rfl
  have m_things_in := He.glo_ok X G (cd.fact 4 (f := .glo "things_in") rfl)
  have G_read_deed : FnP K "read_deed" (top 15) := cd.def_ 5 (d := d_read_deed) rfl
  have m_read_deed := He.glo_ok X G (cd.fact 5 (f := .glo "read_deed") rfl)
  have G__law_mixed : FnP K "_law_mixed" (top 17) := cd.def_ 6 (d := d__law_mixed) rfl
  have m__law_mixed := He.glo_ok X G (cd.fact 6 (f := .glo "_law_mixed") rfl)
  have G__law_draw : FnP K "_law_draw" (top 18) := cd.def_ 7 (d := d__law_draw) rfl
  have m__law_draw := He.glo_ok X G (cd.fact 7 (f := .glo "_law_draw") rfl)
  have G__law_cell : FnP K "_law_cell" (top 19) := cd.def_ 8 (d := d__law_cell) rfl
  have m__law_cell := He.glo_ok X G (cd.fact 8 (f := .glo "_law_cell") rfl)
  have G__law_num : FnP K "_law_num" (top 20) := cd.def_ 9 (d := d__law_num) rfl
  have m__law_num := He.glo_ok X G (cd.fact 9 (f := .glo "_law_num") rfl)
  have G__law_same : FnP K "_law_same" (top 21) := cd.def_ 10 (d := d__law_same) rfl
  have m__law_same := He.glo_ok X G (cd.fact 10 (f := .glo "_law_same") rfl)
  have G__law_text_word : FnP K "_law_text_word" (top 22) := cd.def_ 11 (d := d__law_text_word) rfl
  have m__law_text_word := He.glo_ok X G (cd.fact 11 (f := .glo "_law_text_word") rfl)
  have G__law_text_number : FnP K "_law_text_number" (top 23) := cd.def_ 12 (d := d__law_text_number) rfl
  have m__law_text_number := He.glo_ok X G (cd.fact 12 (f := .glo "_law_text_number") rfl)
  have G__law_any_deed : FnP K "_law_any_deed" (top 24) := cd.def_ 13 (d := d__law_any_deed) rfl
  have m__law_any_deed := He.glo_ok X G (cd.fact 13 (f := .glo "_law_any_deed") rfl)
  have G__law_deed_row : FnP K "_law_deed_row" (top 25) := cd.def_ 14 (d := d__law_deed_row) rfl
  have m__law_deed_row := He.glo_ok X G (cd.fact 14 (f := .glo "_law_deed_row") rfl)
  have G_law : FnP K "law" (top 26) := cd.def_ 15 (d := d_law) rfl
  have m_law := He.glo_ok X G (cd.fact 15 (f := .glo "law") rfl)
  have c_LETTERS := He.str_ok X G (cd.fact 16 (f := .str "LETTERS" "abcdefghijklmnopqrstuvwxyz") rfl)
  have b_all := He.free_ok X G (cd.fact 17 (f := .free "all") rfl)
  have b_len := He.free_ok X G (cd.fact 18 (f := .free "len") rfl)
  have b_str := He.free_ok X G (cd.fact 19 (f := .free "str") rfl)
  have b_int := He.free_ok X G (cd.fact 20 (f := .free "int") rfl)
  have c_FIGURES := He.str_ok X G (cd.fact 21 (f := .str "FIGURES" "0123456789") rfl)
  have c_MOST_FIGURES := He.int_ok X G (cd.fact 22 (f := .int "MOST_FIGURES" 9) rfl)
  have c_LONGEST := He.int_ok X G (cd.fact 23 (f := .int "LONGEST" 8) rfl)
  have b_zip := He.free_ok X G (cd.fact 24 (f := .free "zip") rfl)
  have b_tuple := He.free_ok X G (cd.fact 25 (f := .free "tuple") rfl)
  have t_FORMS : mg "FORMS" = some (.ref (He.ga K "FORMS")) ∧ TabS K w (He.ga K "FORMS") tab_FORMS := ⟨He.glo_ok X G (cd.fact 26 (f := .glo "FORMS") rfl), tabS_ok (by simpa [ex] using c.more) (c.t.tab 0 rfl)⟩
  have b_abs := He.free_ok X G (cd.fact 27 (f := .free "abs") rfl)
  have b_bool := He.free_ok X G (cd.fact 28 (f := .free "bool") rfl)
  have b_isinstance := He.free_ok X G (cd.fact 29 (f := .free "isinstance") rfl)
  have b_range := He.free_ok X G (cd.fact 30 (f := .free "range") rfl)
  have b_list := He.free_ok X G (cd.fact 31 (f := .free "list") rfl)
  have e := hfa.symm.trans m_law
  cases e
  obtain ⟨fd, F⟩ := G_law
  have b := FunD.bindsA (ps := ["_law_script"]) F fun _ _ _ _ _ _ us hl => match us, hl with | [_], _ => rfl
  refine ⟨fd, fun s v => b s [v] rfl, fun base _ _ => ?_⟩
  have w_are_marks := ok_are_marks (P := P) (w := w) (base := base) (T := []) G_are_marks m_are_marks c_LETTERS b_all b_len
  have w_deed_text := ok_deed_text (P := P) (w := w) (base := base) (T := []) G_deed_text m_deed_text b_str
  have w_number_in := ok_number_in (P := P) (w := w) (base := base) (T := []) G_number_in m_number_in b_int c_FIGURES b_all b_len c_MOST_FIGURES
  have w_thing_in := ok_thing_in (P := P) (w := w) (base := base) (T := []) G_thing_in m_thing_in c_LONGEST w_are_marks w_number_in
  have w_things_in := ok_things_in (P := P) (w := w) (base := base) (T := []) G_things_in m_things_in b_zip b_tuple b_len w_thing_in
  have w_read_deed := ok_read_deed (P := P) (w := w) (base := base) (T := []) G_read_deed m_read_deed t_FORMS b_len w_things_in
  have w__law_mixed := ok__law_mixed (P := P) (w := w) (base := base) (T := []) G__law_mixed m__law_mixed 
  have w__law_draw := ok__law_draw (P := P) (w := w) (base := base) (T := []) G__law_draw m__law_draw b_len b_abs w__law_mixed
  have w__law_cell := ok__law_cell (P := P) (w := w) (base := base) (T := []) G__law_cell m__law_cell b_len
  have w__law_num := ok__law_num (P := P) (w := w) (base := base) (T := []) G__law_num m__law_num b_bool b_isinstance b_int
  have w__law_same := ok__law_same (P := P) (w := w) (base := base) (T := []) G__law_same m__law_same b_len b_range b_all b_list b_isinstance b_tuple b_str b_int b_bool w__law_num
  have w__law_text_word := ok__law_text_word (P := P) (w := w) (base := base) (T := []) G__law_text_word m__law_text_word b_range
  have w__law_text_number := ok__law_text_number (P := P) (w := w) (base := base) (T := []) G__law_text_number m__law_text_number 
  have w__law_any_deed := ok__law_any_deed (P := P) (w := w) (base := base) (T := []) G__law_any_deed m__law_any_deed b_range b_tuple w__law_text_word w__law_text_number
  have w__law_deed_row := ok__law_deed_row (P := P) (w := w) (base := base) (T := []) G__law_deed_row m__law_deed_row b_str
  have w_law := ok_law (P := P) (w := w) (base := base) (T := []) ⟨fd, F⟩ m_law b_range w_read_deed w__law_same w_deed_text w__law_deed_row w__law_cell w__law_draw w__law_any_deed
  exact FnS.of w_law F
end K42
open PySem PySem.W PySem.Calls PyProof.Rows De
theorem PySem.Challenge.cw_scribelists_k42_deeds_written_holds : PySem.Challenge.rw_scribelists_k42_deeds_written.Holds := by
  w_on; o_law
  refine HandSHeadRun.head_any (r := OpenLaw.row PySem.Challenge.rw_scribelists_k42_deeds_written) (q := view (OpenLaw.row PySem.Challenge.rw_scribelists_k42_deeds_written).prog [26]) (H := K42.hk) (ob := K42.ob) (M := 2000) (loose := K42.loose) (d := HandSHeadRun.topDef (OpenLaw.row PySem.Challenge.rw_scribelists_k42_deeds_written).prog 26) (kwd := []) K42.ob_eq
    (by kernel_rfl) (fun s => by kernel_rfl) K42.run (by kernel_rfl) (by kernel_rfl) (by kernel_rfl) (by rfl) (by first | assumption | decide +kernel) (by decide +kernel) ⟨rfl, rfl, rfl, rfl, rfl, by decide +kernel⟩ ?hw ?hc
  case hw => w_witness2
  case hc =>
    refine LamX.walk_ofTsE (l := PySem.Challenge.rw_scribelists_k42_deeds_written) (n := 63) (k := 11) (x := "_law_script") (CX := fun w => L2.CX (PySem.Challenge.rw_scribelists_k42_deeds_written).prog w) rfl (by decide) (by kernel_rfl) ⟨rfl, by decide, by decide⟩ ?F (fun w H s e s' h => cx_no h)
    intro w mg fa h Y G hmg0
    obtain ⟨K, KX, c⟩ := Y
    have hmg : mg ("law" : PySem.Str) = some (.ref fa) := by
      have e : (HandSHeadRun.topDef (OpenLaw.row PySem.Challenge.rw_scribelists_k42_deeds_written).prog 26).name = ("law" : PySem.Str) := by kernel_rfl
      rw [← e]
      exact hmg0
    obtain ⟨fd, hb, hF⟩ := K42.facts (P := (PySem.Challenge.rw_scribelists_k42_deeds_written).prog) (w := w) KX G hmg c
    exact ⟨K, KX, fd, [], _, fun p hp => (by cases hp), fun p hp => (by cases hp), fun p hp => (by cases hp), hb, fun H a ns hl hbits _ hS => law_sp hS (fun p hp => by cases hp) (K42.law_true ns hl hbits), fun base b1 b2 _ => hF base b1 b2⟩
