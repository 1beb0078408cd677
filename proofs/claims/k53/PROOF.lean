import PyProof.Rows.All
import Wide.All
import OpenK.AllK
import Wide.FinOn
import HandS.ForMost
import HandS.EndBits
import HandS.Wide
import HandS.WideBits
import HandS.IsInst
import HandS.TupAny
import HandS.TupLe
import HandS.Zip
import HandS.Rev
import HandS.Style
import HandS.Deep
import HandS.More
import HandS.Replace
import HandS.Text
import HandS.SortInts
import KE.GoesZip
import KE.GoesMore
import KE.GoesEnum
import KE.KDictZip
import KE.KItemsList
import KE.KUnpack
import HandS.ExcIs
import HandS.WordsExc
import KE.DataMinMax
import HandS.TryOnly
import HandS.Strs
import HandS.SetFor
import HandS.ExcInit
import HandS.ExcField
import HandS.Iter
import HandS.Small
import HandS.Finally
import HandS.DeepEq
import KE.KEqNest
import HandS.SetTxt0
import HandS.Conv
import HandS.SetKeys
import HandS.Star
import HandS.DictTup
import HandS.Keys
import PySem.Challenge.RW_hourstairs_k53_texts_of_nets
set_option Elab.async false
set_option linter.all false
set_option maxRecDepth 100000
set_option autoImplicit false
set_option maxHeartbeats 4000000
namespace DL
open PySem PySem.Spec PyProof.Rows L2
inductive D where
  | non | bl (b : Bool) | int (i : Int) | str (x : Str) | ty (n : String) | tup (xs : List D) | rol (xs : List D) | ref (n : Nat) | con (a : Addr)
inductive MO where
  | lst (xs : List D)
  | dK (kvs : List (Key × D))
  | dF (kvs : List (Key × D))
  | dT (kvs : List (List Key × D))
  | dG (kvs : List (List Key × D))
abbrev Hd := List MO
structure XD where
  cls : Value
  fs : Option (List (Str × D))
inductive Res (α : Type) where
  | ok (a : α) (h : Hd)
  | exc (x : XD) (h : Hd)
  | bad
abbrev M (α : Type) := Hd → Res α
abbrev Sl := List (Option D)
abbrev EM := Sl → M D
abbrev TM := Sl → M Bool
abbrev AM := Sl → M (List D)
def Res.bind {α β : Type} (r : Res α) (f : α → Hd → Res β) : Res β := match r with
  | .ok a h => f a h
  | .exc x h => .exc x h
  | .bad => .bad
inductive SR where
  | nx (s : Sl) (h : Hd)
  | rt (d : D) (h : Hd)
  | exc (x : XD) (s : Sl) (h : Hd)
  | bad
abbrev SM := Sl → Hd → SR
section
variable (K : PySem.W.Frag)
def Frz (H : Hp) (a : Addr) (vs : List V) : Prop :=
  (∃ o, H a = some (.frz o (.lst vs))) ∨ ∃ (o : Obj) (its : Array Value) (n : Nat), K.lookup a = some o ∧ o.cls = .type "list" ∧ o.dict = none ∧ o.data = .seq its n ∧ its.size ≤ sizeLine ∧ Vals vs its.toList
theorem Frz.seq {K : PySem.W.Frag} {H : Hp} {a : Addr} {vs : List V} (h : Frz K H a vs) : SqL K H a vs := by
  rcases h with ⟨o, h⟩ | h
  · exact .inl (.inr ⟨o, h⟩)
  · exact .inr h
variable (μ : List Addr) (H : Hp)
mutual
inductive Rep : V → D → Prop
  | non : Rep .non .non
  | bl (b : Bool) : Rep (.bl b) (.bl b)
  | int (i : Int) : Rep (.int i) (.int i)
  | str (x : Str) : Rep (.str x) (.str x)
  | ty (n : String) : Rep (.ty n) (.ty n)
  | tup {a : Addr} {vs : List V} {ds : List D} : SqT K H a vs → RepAll vs ds → Rep (.ref a) (.tup ds)
  | rol {a : Addr} {vs : List V} {ds : List D} : Frz K H a vs → RepAll vs ds → Rep (.ref a) (.rol ds)
  | ref {n : Nat} {a : Addr} : μ[n]? = some a → Rep (.ref a) (.ref n)
  | con (a : Addr) : Rep (.ref a) (.con a)
inductive RepAll : List V → List D → Prop
  | nil : RepAll [] []
  | cons {v : V} {d : D} {vs : List V} {ds : List D} : Rep v d → RepAll vs ds → RepAll (v :: vs) (d :: ds)
end
end
section
variable {K : PySem.W.Frag} {μ μ' μ'' : List Addr} {H H' H'' : Hp}
def Sty : HO → Prop
  | .frz _ _ => True
  | .xd _ => True
  | _ => False
structure Ext (μ : List Addr) (H : Hp) (μ' : List Addr) (H' : Hp) : Prop where
  nums : ∀ (n : Nat) (a : Addr), μ[n]? = some a → μ'[n]? = some a
  tups : ∀ a xs, H a = some (.tup xs) → H' a = some (.tup xs)
  stay : ∀ a o, Sty o → H a = some o → H' a = some o
theorem Ext.frzs (e : Ext μ H μ' H') : ∀ a o xs, H a = some (.frz o (.lst xs)) → H' a = some (.frz o (.lst xs)) := fun a _ _ h => e.stay a _ trivial h
theorem Ext.frzt (e : Ext μ H μ' H') : ∀ a o xs, H a = some (.frz o (.tup xs)) → H' a = some (.frz o (.tup xs)) := fun a _ _ h => e.stay a _ trivial h
theorem Ext.refl : Ext μ H μ H := ⟨fun _ _ h => h, fun _ _ h => h, fun _ _ _ h => h⟩
theorem Ext.trans (a : Ext μ H μ' H') (b : Ext μ' H' μ'' H'') : Ext μ H μ'' H'' :=
  ⟨fun n c h => b.nums n c (a.nums n c h), fun c xs h => b.tups c xs (a.tups c xs h), fun c o y h => b.stay c o y (a.stay c o y h)⟩
theorem Ext.sqt (e : Ext μ H μ' H') {a : Addr} {vs : List V} (h : SqT K H a vs) : SqT K H' a vs := by
  rcases h with (h | ⟨o, h⟩) | h
  · exact .inl (.inl (e.tups _ _ h))
  · exact .inl (.inr ⟨o, e.frzt _ _ _ h⟩)
  · exact .inr h
theorem Ext.frz (e : Ext μ H μ' H') {a : Addr} {vs : List V} (h : Frz K H a vs) : Frz K H' a vs := by
  rcases h with ⟨o, h⟩ | h
  · exact .inl ⟨o, e.frzs _ _ _ h⟩
  · exact .inr h
mutual
theorem Rep.ext {v : V} {d : D} (e : Ext μ H μ' H') : Rep K μ H v d → Rep K μ' H' v d
  | .non => .non
  | .bl b => .bl b
  | .int i => .int i
  | .str x => .str x
  | .ty n => .ty n
  | .tup h r => .tup (e.sqt h) (RepAll.ext e r)
  | .rol h r => .rol (e.frz h) (RepAll.ext e r)
  | .ref h => .ref (e.nums _ _ h)
  | .con a => .con a
theorem RepAll.ext {vs : List V} {ds : List D} (e : Ext μ H μ' H') : RepAll K μ H vs ds → RepAll K μ' H' vs ds
  | .nil => .nil
  | .cons r t => .cons (Rep.ext e r) (RepAll.ext e t)
end
theorem RepAll.length : ∀ {vs : List V} {ds : List D}, RepAll K μ H vs ds → vs.length = ds.length
  | _, _, .nil => rfl
  | _, _, .cons _ t => by rw [List.length_cons, List.length_cons, RepAll.length t]
theorem RepAll.get : ∀ {vs : List V} {ds : List D} {i : Nat} {d : D}, RepAll K μ H vs ds → ds[i]? = some d → ∃ v, vs[i]? = some v ∧ Rep K μ H v d
  | _, _, _, _, .nil, e => by simp at e
  | _, _, 0, _, .cons r _, e => by simp at e; subst e; exact ⟨_, rfl, r⟩
  | _, _, i + 1, _, .cons _ t, e => by
    obtain ⟨v, h1, h2⟩ := RepAll.get (i := i) t (by simpa using e)
    exact ⟨v, by simpa using h1, h2⟩
theorem RepAll.append : ∀ {vs ws : List V} {ds es : List D}, RepAll K μ H vs ds → RepAll K μ H ws es → RepAll K μ H (vs ++ ws) (ds ++ es)
  | _, _, _, _, .nil, s => s
  | _, _, _, _, .cons r t, s => .cons r (RepAll.append t s)
theorem RepAll.take : ∀ {vs : List V} {ds : List D} (n : Nat), RepAll K μ H vs ds → RepAll K μ H (vs.take n) (ds.take n)
  | _, _, 0, _ => .nil
  | _, _, _ + 1, .nil => .nil
  | _, _, n + 1, .cons r t => .cons r (RepAll.take n t)
theorem RepAll.drop : ∀ {vs : List V} {ds : List D} (n : Nat), RepAll K μ H vs ds → RepAll K μ H (vs.drop n) (ds.drop n)
  | _, _, 0, r => r
  | _, _, _ + 1, .nil => .nil
  | _, _, n + 1, .cons _ t => RepAll.drop n t
theorem RepAll.set {v : V} {d : D} (r : Rep K μ H v d) : ∀ {vs : List V} {ds : List D} (i : Nat), RepAll K μ H vs ds → RepAll K μ H (vs.set i v) (ds.set i d)
  | _, _, _, .nil => .nil
  | _, _, 0, .cons _ t => .cons r t
  | _, _, i + 1, .cons q t => .cons q (RepAll.set r i t)
theorem RepAll.one {v : V} {d : D} (r : Rep K μ H v d) : RepAll K μ H [v] [d] := .cons r .nil
end
def SRel (K : PySem.W.Frag) (μ : List Addr) (H : Hp) (σ : L2.St) (s : Sl) : Prop :=
  σ.length = s.length ∧ ∀ (i : Nat) (d : D), s[i]? = some (some d) → ∃ v, σ[i]? = some (some v) ∧ Rep K μ H v d
inductive KRep {κ : Type} (K : PySem.W.Frag) (μ : List Addr) (H : Hp) : List (κ × V) → List (κ × D) → Prop
  | nil : KRep K μ H [] []
  | cons {k : κ} {v : V} {d : D} {kvs : List (κ × V)} {kds : List (κ × D)} : Rep K μ H v d → KRep K μ H kvs kds → KRep K μ H ((k, v) :: kvs) ((k, d) :: kds)
def MRep (K : PySem.W.Frag) (μ : List Addr) (H : Hp) (a : Addr) : MO → Prop
  | .lst ds => ∃ vs, H a = some (.lst vs) ∧ RepAll K μ H vs ds
  | .dK kds => ∃ kvs, H a = some (.dK kvs) ∧ KRep K μ H kvs kds
  | .dF kds => ∃ o kvs, H a = some (.frz o (.dK kvs)) ∧ KRep K μ H kvs kds
  | .dT kds => ∃ kvs, H a = some (.dT kvs) ∧ KRep K μ H kvs kds
  | .dG kds => ∃ o kvs, H a = some (.frz o (.dT kvs)) ∧ KRep K μ H kvs kds
structure HRel (K : PySem.W.Frag) (μ : List Addr) (H : Hp) (hd : Hd) : Prop where
  len : μ.length = hd.length
  nd : ∀ (n m : Nat) (a : Addr), μ[n]? = some a → μ[m]? = some a → n = m
  obj : ∀ (n : Nat) (a : Addr) (o : MO), μ[n]? = some a → hd[n]? = some o → MRep K μ H a o
section
variable {K : PySem.W.Frag} {μ μ' : List Addr} {H H' : Hp} {hd hd' : Hd}
theorem KRep.ext {κ : Type} (e : Ext μ H μ' H') : ∀ {kvs : List (κ × V)} {kds : List (κ × D)}, KRep K μ H kvs kds → KRep K μ' H' kvs kds
  | _, _, .nil => .nil
  | _, _, .cons r t => .cons (r.ext e) (KRep.ext e t)
theorem SRel.ext {σ : L2.St} {s : Sl} (r : SRel K μ H σ s) (e : Ext μ H μ' H') : SRel K μ' H' σ s := ⟨r.1, fun i d h => by
  obtain ⟨v, h1, h2⟩ := r.2 i d h
  exact ⟨v, h1, h2.ext e⟩⟩
theorem SRel.set {σ : L2.St} {s : Sl} {v : V} {d : D} (i : Nat) (r : SRel K μ H σ s) (q : Rep K μ H v d) : SRel K μ H (σ.set i (some v)) (s.set i (some d)) := ⟨by simp [r.1], fun j e h => by
  by_cases hj : i = j
  · subst hj
    have hl : i < s.length := by
      rcases Nat.lt_or_ge i s.length with z | z
      · exact z
      · rw [List.getElem?_eq_none (by simpa using z)] at h; cases h
    rw [List.getElem?_set_self hl] at h
    cases h
    exact ⟨v, List.getElem?_set_self (by rw [r.1]; exact hl), q⟩
  · rw [List.getElem?_set_ne hj] at h
    obtain ⟨w, h1, h2⟩ := r.2 j e h
    exact ⟨w, by rw [List.getElem?_set_ne hj]; exact h1, h2⟩⟩
theorem MRep.isThere {a : Addr} {o : MO} (m : MRep K μ H a o) : ∃ u, H a = .some u := by
  cases o with
  | lst ds => obtain ⟨vs, h, _⟩ := m; exact ⟨_, h⟩
  | dK ds => obtain ⟨vs, h, _⟩ := m; exact ⟨_, h⟩
  | dF ds => obtain ⟨o, vs, h, _⟩ := m; exact ⟨_, h⟩
  | dT ds => obtain ⟨vs, h, _⟩ := m; exact ⟨_, h⟩
  | dG ds => obtain ⟨o, vs, h, _⟩ := m; exact ⟨_, h⟩
theorem HRel.there (r : HRel K μ H hd) {n : Nat} {a : Addr} (h : μ[n]? = .some a) : ∃ u, H a = .some u := by
  have hl : n < hd.length := by
    rw [← r.len]
    exact (List.getElem?_eq_some_iff.mp h).1
  exact (r.obj n a hd[n] h (List.getElem?_eq_getElem hl)).isThere
theorem HRel.fresh (r : HRel K μ H hd) {p : Addr} (hp : H p = none) {n : Nat} : μ[n]? ≠ .some p := fun h => by
  obtain ⟨u, e⟩ := r.there h
  rw [hp] at e; cases e
theorem Ext.new {p : Addr} {o : HO} (hp : H p = none) : Ext μ H μ (upd H p o) :=
  ⟨fun _ _ h => h, fun a xs h => by rw [upd_ne (ne_of_none h hp)]; exact h, fun a o y h => by rw [upd_ne (ne_of_none h hp)]; exact h⟩
theorem MRep.ext {a : Addr} {o : MO} (m : MRep K μ H a o) (e : Ext μ H μ' H') (h : H' a = H a) : MRep K μ' H' a o := by
  cases o with
  | lst ds => obtain ⟨vs, q, r⟩ := m; exact ⟨vs, h.trans q, r.ext e⟩
  | dK ds => obtain ⟨vs, q, r⟩ := m; exact ⟨vs, h.trans q, r.ext e⟩
  | dF ds => obtain ⟨o, vs, q, r⟩ := m; exact ⟨o, vs, h.trans q, r.ext e⟩
  | dT ds => obtain ⟨vs, q, r⟩ := m; exact ⟨vs, h.trans q, r.ext e⟩
  | dG ds => obtain ⟨o, vs, q, r⟩ := m; exact ⟨o, vs, h.trans q, r.ext e⟩
theorem HRel.new {p : Addr} {o : HO} (r : HRel K μ H hd) (hp : H p = none) : HRel K μ (upd H p o) hd := ⟨r.len, r.nd, fun n a m h1 h2 => by
  have ne : a ≠ p := fun e => r.fresh hp (n := n) (by rw [h1, e])
  exact (r.obj n a m h1 h2).ext (Ext.new hp) (upd_ne ne)⟩
theorem Ext.laid {p : Addr} {o : HO} (hp : H p = none) : Ext μ H (μ ++ [p]) (upd H p o) :=
  ⟨fun n a h => by rw [List.getElem?_append_left (List.getElem?_eq_some_iff.mp h).1]; exact h, (Ext.new (μ := μ) hp).tups, (Ext.new (μ := μ) hp).stay⟩
theorem HRel.laid {p : Addr} {o : HO} {m : MO} (r : HRel K μ H hd) (hp : H p = none) (q : MRep K (μ ++ [p]) (upd H p o) p m) : HRel K (μ ++ [p]) (upd H p o) (hd ++ [m]) := by
  have split : ∀ (n : Nat) (a : Addr), (μ ++ [p])[n]? = some a → (μ[n]? = some a ∧ n < hd.length) ∨ (n = hd.length ∧ a = p) := fun n a h => by
    rcases Nat.lt_or_ge n μ.length with z | z
    · rw [List.getElem?_append_left z] at h
      exact .inl ⟨h, by rw [← r.len]; exact z⟩
    · rw [List.getElem?_append_right z] at h
      rcases Nat.lt_or_ge (n - μ.length) 1 with y | y
      · have e : n = μ.length := by omega
        subst e
        simp at h
        exact .inr ⟨r.len, h.symm⟩
      · rw [List.getElem?_eq_none (by simpa using y)] at h; cases h
  refine ⟨by simp [r.len], fun n k a h1 h2 => ?_, fun n a o h1 h2 => ?_⟩
  · rcases split n a h1 with ⟨x, _⟩ | ⟨x, rfl⟩
    · rcases split k a h2 with ⟨y, _⟩ | ⟨y, rfl⟩
      · exact r.nd n k a x y
      · exact (r.fresh hp x).elim
    · rcases split k _ h2 with ⟨y, _⟩ | ⟨y, _⟩
      · exact (r.fresh hp y).elim
      · rw [x, y]
  · rcases split n a h1 with ⟨x, hl⟩ | ⟨x, rfl⟩
    · rw [List.getElem?_append_left hl] at h2
      have ne : a ≠ p := fun e => r.fresh hp (n := n) (by rw [x, e])
      exact (r.obj n a o x h2).ext (Ext.laid hp) (upd_ne ne)
    · subst x
      rw [List.getElem?_append_right (Nat.le_refl _)] at h2
      simp at h2
      subst h2
      exact q
theorem Ext.write {a : Addr} {o u : HO} (h : H a = some u) (hu : Mut (some u)) : Ext μ H μ (upd H a o) := by
  have ne : ∀ b z, H b = some z → ¬ Mut (some z) → b ≠ a := fun b z q nm e => by subst e; rw [h] at q; cases q; exact nm hu
  exact ⟨fun _ _ h => h, fun b xs q => by rw [upd_ne (ne b _ q (fun z => z))]; exact q, fun b o y q => by rw [upd_ne (ne b _ q (fun z => by cases o <;> first | exact y | exact z))]; exact q⟩
theorem HRel.write {n : Nat} {a : Addr} {o u : HO} {m : MO} (r : HRel K μ H hd) (hn : μ[n]? = some a) (h : H a = some u) (hu : Mut (some u)) (q : MRep K μ (upd H a o) a m) : HRel K μ (upd H a o) (hd.set n m) := by
  refine ⟨by simp [r.len], r.nd, fun k b z h1 h2 => ?_⟩
  by_cases hk : n = k
  · subst hk
    rw [hn] at h1; cases h1
    have hl : n < hd.length := by rw [← r.len]; exact (List.getElem?_eq_some_iff.mp hn).1
    rw [List.getElem?_set_self hl] at h2
    cases h2
    exact q
  · rw [List.getElem?_set_ne hk] at h2
    have ne : b ≠ a := fun e => hk (r.nd n k a hn (by rw [h1, e]))
    exact (r.obj k b z h1 h2).ext (Ext.write h hu) (upd_ne ne)
end
end DL
namespace DL
open PySem PySem.Spec PyProof.Rows L2
abbrev XW := Value → Option Addr → L2.St → Hp → Prop
def W0 : XW := fun _ _ _ _ => False
inductive FRep (K : PySem.W.Frag) (μ : List Addr) (H : Hp) : List (Str × V) → List (Str × D) → Prop
  | nil : FRep K μ H [] []
  | cons {k : Str} {v : V} {d : D} {kvs : List (Str × V)} {kds : List (Str × D)} : Rep K μ H v d → FRep K μ H kvs kds → FRep K μ H ((k, v) :: kvs) ((k, d) :: kds)
def XRel (K : PySem.W.Frag) (μ : List Addr) (H : Hp) (x : XD) (o : Option Addr) : Prop :=
  match x.fs, o with
  | none, none => True
  | some fs, some a => ∃ vs, H a = some (.xd vs) ∧ FRep K μ H vs fs
  | _, _ => False
def FinG {A B : Type} (R : List Addr → Hp → A → B → Prop) (K : PySem.W.Frag) (W : XW) (μ : List Addr) (H : Hp) (σ : L2.St) (r : Res B) (Q : A → Hp → Prop) : Prop :=
  match r with
  | .ok d hd' => ∀ (μ' : List Addr) (H' : Hp) (v : A), Ext μ H μ' H' → HRel K μ' H' hd' → R μ' H' v d → Q v H'
  | .exc x hd' => ∀ (μ' : List Addr) (H' : Hp) (o : Option Addr), Ext μ H μ' H' → HRel K μ' H' hd' → XRel K μ' H' x o → W x.cls o σ H'
  | .bad => False
abbrev RD (K : PySem.W.Frag) : List Addr → Hp → V → D → Prop := fun μ H v d => Rep K μ H v d
abbrev RA (K : PySem.W.Frag) : List Addr → Hp → List V → List D → Prop := fun μ H v d => RepAll K μ H v d
abbrev RB : List Addr → Hp → Bool → Bool → Prop := fun _ _ v d => v = d
def TG' {A B : Type} (R : List Addr → Hp → A → B → Prop) (K : PySem.W.Frag) (W : XW) (m : Sl → M B) (σ : L2.St) (H : Hp) (Q : A → Hp → Prop) : Prop :=
  ∃ (μ : List Addr) (s : Sl) (hd : Hd), SRel K μ H σ s ∧ HRel K μ H hd ∧ FinG R K W μ H σ (m s hd) Q
def TEof (K : PySem.W.Frag) (W : XW) (m : EM) : TE := TG' (RD K) K W m
def TTof (K : PySem.W.Frag) (W : XW) (m : TM) : TT := TG' RB K W m
def TAof (K : PySem.W.Frag) (W : XW) (m : AM) : TA := TG' (RA K) K W m
def FinS (K : PySem.W.Frag) (W : XW) (μ : List Addr) (H : Hp) (r : SR) (D : Ends) : Prop :=
  match r with
  | .nx s' hd' => ∀ (μ' : List Addr) (H' : Hp) (σ' : L2.St), Ext μ H μ' H' → HRel K μ' H' hd' → SRel K μ' H' σ' s' → D.nx σ' H'
  | .rt d hd' => ∀ (μ' : List Addr) (H' : Hp) (v : V), Ext μ H μ' H' → HRel K μ' H' hd' → Rep K μ' H' v d → D.rt v H'
  | .exc x s' hd' => ∀ (μ' : List Addr) (H' : Hp) (σ' : L2.St) (o : Option Addr), Ext μ H μ' H' → HRel K μ' H' hd' → SRel K μ' H' σ' s' → XRel K μ' H' x o → W x.cls o σ' H'
  | .bad => False
def TSof (K : PySem.W.Frag) (W : XW) (m : SM) : TS := fun D σ H => ∃ (μ : List Addr) (s : Sl) (hd : Hd), SRel K μ H σ s ∧ HRel K μ H hd ∧ FinS K W μ H (m s hd) D
structure DE (X : Cx) (W : XW) (e : Expr) (m : EM) : Prop where
  pe : PE X e (TEof X.K W m)
structure DT (X : Cx) (W : XW) (e : Expr) (m : TM) : Prop where
  pt : PT X e (TTof X.K W m)
structure DW (X : Cx) (W : XW) (e : Expr) (m : TM) : Prop where
  pw : PW X e (TTof X.K W m)
structure DA (X : Cx) (W : XW) (es : List Expr) (m : AM) : Prop where
  pa : PA X es (TAof X.K W m)
structure DS (X : Cx) (W : XW) (st : Stmt) (m : SM) : Prop where
  ps : PS X st (TSof X.K W m)
structure DSs (X : Cx) (W : XW) (st : List Stmt) (m : SM) : Prop where
  ps : PSs X st (TSof X.K W m)
section
variable {A B A' B' : Type} {R : List Addr → Hp → A → B → Prop} {R' : List Addr → Hp → A' → B' → Prop} {K : PySem.W.Frag} {W : XW} {μ μ' : List Addr} {H H' : Hp} {σ : L2.St} {r : Res B} {Q Q' : A → Hp → Prop}
theorem FinG.base (f : FinG R K W μ H σ r Q) (e : Ext μ H μ' H') : FinG R K W μ' H' σ r Q := by
  cases r with
  | ok d h => exact fun μ2 H2 v e2 hr rv => f μ2 H2 v (e.trans e2) hr rv
  | exc x h => exact fun μ2 H2 v e2 hr rv => f μ2 H2 v (e.trans e2) hr rv
  | bad => exact f
theorem FinG.imp (f : FinG R K W μ H σ r Q) (h : ∀ v H', Q v H' → Q' v H') : FinG R K W μ H σ r Q' := by
  cases r with
  | ok d h' => exact fun μ2 H2 v e2 hr rv => h _ _ (f μ2 H2 v e2 hr rv)
  | exc x h' => exact f
  | bad => exact f
theorem FinG.bind {k : B → Hd → Res B'} {Q : A' → Hp → Prop} (f : FinG R' K W μ H σ (r.bind k) Q) :
    FinG R K W μ H σ r fun v H1 => ∃ μ1 hd1 d, Ext μ H μ1 H1 ∧ HRel K μ1 H1 hd1 ∧ R μ1 H1 v d ∧ FinG R' K W μ1 H1 σ (k d hd1) Q := by
  cases r with
  | ok d h => exact fun μ2 H2 v e2 hr rv => ⟨μ2, h, d, e2, hr, rv, FinG.base (r := k d h) f e2⟩
  | exc x h => exact f
  | bad => exact f
theorem FinG.ok {d : B} {hd : Hd} {v : A} (f : FinG R K W μ H σ (.ok d hd) Q) (h : HRel K μ H hd) (r : R μ H v d) : Q v H := f μ H v .refl h r
end
theorem FinS.base {K : PySem.W.Frag} {W : XW} {μ μ' : List Addr} {H H' : Hp} {r : SR} {D : Ends} (f : FinS K W μ H r D) (e : Ext μ H μ' H') : FinS K W μ' H' r D := by
  cases r with
  | nx s h => exact fun μ2 H2 v e2 hr rv => f μ2 H2 v (e.trans e2) hr rv
  | rt d h => exact fun μ2 H2 v e2 hr rv => f μ2 H2 v (e.trans e2) hr rv
  | exc x s h => exact fun μ2 H2 v o e2 hr rv => f μ2 H2 v o (e.trans e2) hr rv
  | bad => exact f
theorem PE.imp {X : Cx} {e : Expr} {t t' : TE} (h : PE X e t) (i : ∀ σ H Q, t' σ H Q → t σ H Q) : PE X e t' := ⟨fun pins s σ H Q I q => h.run pins s σ H Q I (i _ _ _ q)⟩
theorem PT.imp {X : Cx} {e : Expr} {t t' : TT} (h : PT X e t) (i : ∀ σ H Q, t' σ H Q → t σ H Q) : PT X e t' := ⟨fun pins s σ H Q I q => h.run pins s σ H Q I (i _ _ _ q)⟩
theorem PW.imp {X : Cx} {e : Expr} {t t' : TT} (h : PW X e t) (i : ∀ σ H Q, t' σ H Q → t σ H Q) : PW X e t' := ⟨fun w pins s σ H Q I q => h.run w pins s σ H Q I (i _ _ _ q)⟩
theorem PA.imp {X : Cx} {e : List Expr} {t t' : TA} (h : PA X e t) (i : ∀ σ H Q, t' σ H Q → t σ H Q) : PA X e t' := ⟨fun p pins s σ H Q I q => h.run p pins s σ H Q I (i _ _ _ q)⟩
theorem PS.imp {X : Cx} {e : Stmt} {t t' : TS} (h : PS X e t) (i : ∀ D σ H, t' D σ H → t D σ H) : PS X e t' := ⟨fun pins s σ H D I q => h.run pins s σ H D I (i _ _ _ q)⟩
theorem PSs.imp {X : Cx} {e : List Stmt} {t t' : TS} (h : PSs X e t) (i : ∀ D σ H, t' D σ H → t D σ H) : PSs X e t' := ⟨fun pins s σ H D I q => h.run pins s σ H D I (i _ _ _ q)⟩
def eV (i : Nat) : EM := fun s h => match s[i]? with
  | some (some d) => .ok d h
  | _ => .bad
def eC (d : D) : EM := fun _ h => .ok d h
def e1 (g : D → M D) (a : EM) : EM := fun s h => (a s h).bind g
def e2 (g : D → D → M D) (a b : EM) : EM := fun s h => (a s h).bind fun x h1 => (b s h1).bind fun y h2 => g x y h2
def asB (d : D) : M Bool := fun h => match d with
  | .bl b => .ok b h
  | _ => .bad
def tB' (a : EM) : TM := fun s h => (a s h).bind asB
def tAnd' (a b : TM) : TM := fun s h => (a s h).bind fun c h1 => if c = true then b s h1 else .ok false h1
def tOr' (a b : TM) : TM := fun s h => (a s h).bind fun c h1 => if c = true then .ok true h1 else b s h1
def tNot' (a : TM) : TM := fun s h => (a s h).bind fun c h1 => .ok (!c) h1
def eAnd (a b : EM) : EM := fun s h => (a s h).bind fun x h1 => (asB x h1).bind fun c h1 => if c = true then b s h1 else .ok (.bl false) h1
def eOr (a b : EM) : EM := fun s h => (a s h).bind fun x h1 => (asB x h1).bind fun c h1 => if c = true then .ok (.bl true) h1 else b s h1
def eNot (a : EM) : EM := fun s h => (a s h).bind fun x h1 => (asB x h1).bind fun c h1 => .ok (.bl (!c)) h1
def eIf (t : TM) (a b : EM) : EM := fun s h => (t s h).bind fun c h1 => if c = true then a s h1 else b s h1
def aN : AM := fun _ h => .ok [] h
def aC (a : EM) (r : AM) : AM := fun s h => (a s h).bind fun x h1 => (r s h1).bind fun xs h2 => .ok (x :: xs) h2
def eA (g : List D → M D) (a : AM) : EM := fun s h => (a s h).bind g
def mkT (ds : List D) : M D := fun h => if ds.length ≤ sizeLine then .ok (.tup ds) h else .bad
def mkL (ds : List D) : M D := fun h => if ds.length ≤ sizeLine then .ok (.ref h.length) (h ++ [.lst ds]) else .bad
section
variable {X : Cx} {W : XW} {a b : Expr} {ma mb : EM} {pos : Pos}
theorem de_var (i : Nat) {x : Str} (hN : X.N[i]? = some x := by rfl) (hv : Vis X.env.scope x := by first | exact Or.inl rfl | exact Or.inr (Or.inl rfl) | exact Or.inr (Or.inr rfl)) (hd : (x == ("__debug__" : Str)) = false := by decide)
    (hcd : (x == ("__classdict__" : Str)) = false := by decide) : DE X W (.Name x pos) (eV i) := ⟨PE.imp (pe_var hN hv hd hcd) fun σ H Q ⟨μ, s, hd, sr, hr, f⟩ => by
  unfold eV at f
  split at f
  · rename_i d e
    obtain ⟨v, e1, rv⟩ := sr.2 i d e
    exact ⟨v, e1, f.ok hr rv⟩
  · exact f.elim⟩
theorem de_c {e : Expr} {v : V} {d : D} (h : PE X e (tC v)) (r : ∀ μ H, Rep X.K μ H v d) : DE X W e (eC d) := ⟨PE.imp h fun σ H Q ⟨μ, s, hd, sr, hr, f⟩ => FinG.ok f hr (r μ H)⟩
theorem de_int {i j} : DE X W (.Constant (.int i) j pos) (eC (.int i)) := de_c pe_int fun _ _ => .int i
theorem de_bl {i j} : DE X W (.Constant (.bool i) j pos) (eC (.bl i)) := de_c pe_bl fun _ _ => .bl i
theorem de_str {i j} : DE X W (.Constant (.str i) j pos) (eC (.str i)) := de_c pe_str fun _ _ => .str i
theorem de_non {j} : DE X W (.Constant .none j pos) (eC .non) := de_c pe_non fun _ _ => .non
def Lift2 (K : PySem.W.Frag) (r : R2) (g : D → D → M D) : Prop := ∀ (μ : List Addr) (H : Hp) (hd : Hd) (x y : V) (dx dy : D) (W : XW) (σ : L2.St) (Q : VK), HRel K μ H hd → Rep K μ H x dx → Rep K μ H y dy → FinG (RD K) K W μ H σ (g dx dy hd) Q → r x y H Q
theorem de_2' {e : Expr} {r : R2} {g : D → D → M D} (l : Lift2 X.K r g) (ha : DE X W a ma) (hb : DE X W b mb) (h : PE X e (tOp r (TEof X.K W ma) (TEof X.K W mb))) : DE X W e (e2 g ma mb) := ⟨PE.imp h fun σ H Q ⟨μ, s, hd, sr, hr, f⟩ => by
  refine ⟨μ, s, hd, sr, hr, (FinG.bind f).imp ?_⟩
  rintro x H1 ⟨μ1, hd1, dx, e1, hr1, rx, f1⟩
  refine ⟨μ1, s, hd1, sr.ext e1, hr1, (FinG.bind f1).imp ?_⟩
  rintro y H2 ⟨μ2, hd2, dy, e2, hr2, ry, f2⟩
  exact l μ2 H2 hd2 x y dx dy W σ Q hr2 (rx.ext e2) ry f2⟩
theorem de_op {op : Operator} {r : R2} {g : D → D → M D} (o : OpR X (binaryOp op) r) (l : Lift2 X.K r g) (ha : DE X W a ma) (hb : DE X W b mb) : DE X W (.BinOp a op b pos) (e2 g ma mb) := de_2' l ha hb (pe_op o ha.pe hb.pe)
theorem de_cmp {op : CmpOp} {r : R2} {g : D → D → M D} (o : OpR X (compareOp op) r) (l : Lift2 X.K r g) (ha : DE X W a ma) (hb : DE X W b mb) (hm : behindInMarks op b = false := by first | exact nobehind _ (by decide) (by decide) | rfl) : DE X W (.Compare a [op] [b] pos) (e2 g ma mb) := de_2' l ha hb (pe_cmpR o ha.pe hb.pe hm)
theorem de_ix {r : R2} {g : D → D → M D} (o : IxR X r) (l : Lift2 X.K r g) (ha : DE X W a ma) (hb : DE X W b mb) (hs : PlainIx b := by exact fun _ _ => rfl) : DE X W (.Subscript a b pos) (e2 g ma mb) := de_2' l ha hb (pe_ix o ha.pe hb.pe hs)
def Lift1 (K : PySem.W.Frag) (r : V → Hp → VK → Prop) (g : D → M D) : Prop := ∀ (μ : List Addr) (H : Hp) (hd : Hd) (x : V) (dx : D) (W : XW) (σ : L2.St) (Q : VK), HRel K μ H hd → Rep K μ H x dx → FinG (RD K) K W μ H σ (g dx hd) Q → r x H Q
theorem de_1' {e : Expr} {r : V → Hp → VK → Prop} {g : D → M D} (l : Lift1 X.K r g) (ha : DE X W a ma) (h : PE X e (tUn r (TEof X.K W ma))) : DE X W e (e1 g ma) := ⟨PE.imp h fun σ H Q ⟨μ, s, hd, sr, hr, f⟩ => by
  refine ⟨μ, s, hd, sr, hr, (FinG.bind f).imp ?_⟩
  rintro x H1 ⟨μ1, hd1, dx, e1, hr1, rx, f1⟩
  exact l μ1 H1 hd1 x dx W σ Q hr1 rx f1⟩
theorem de_un {op : UnaryOp} {r : V → Hp → VK → Prop} {g : D → M D} (o : UnR X (unaryOp op) r) (l : Lift1 X.K r g) (ha : DE X W a ma) : DE X W (.UnaryOp op a pos) (e1 g ma) := de_1' l ha (pe_un o ha.pe)
theorem tof_B {σ : L2.St} {H : Hp} {Q : Bool → Hp → Prop} (h : TTof X.K W (tB' ma) σ H Q) : TEof X.K W ma σ H fun x H' => ∃ k, x = .bl k ∧ Q k H' := by
  obtain ⟨μ, s, hd, sr, hr, f⟩ := h
  refine ⟨μ, s, hd, sr, hr, (FinG.bind f).imp ?_⟩
  rintro x H1 ⟨μ1, hd1, dx, e1, hr1, rx, f1⟩
  cases rx with
  | bl k => exact ⟨k, rfl, f1.ok hr1 rfl⟩
  | _ => exact f1.elim
theorem dt_cmp {op : CmpOp} {r : R2} {g : D → D → M D} (o : OpR X (compareOp op) r) (l : Lift2 X.K r g) (ha : DE X W a ma) (hb : DE X W b mb) (hm : behindInMarks op b = false := by first | exact nobehind _ (by decide) (by decide) | rfl) : DT X W (.Compare a [op] [b] pos) (tB' (e2 g ma mb)) := ⟨PT.imp (pt_cmpR o ha.pe hb.pe hm) fun σ H Q h => by
  obtain ⟨μ, s, hd, sr, hr, f⟩ := h
  have f' := FinG.bind (R := RD X.K) (k := asB) f
  refine ⟨μ, s, hd, sr, hr, (FinG.bind f').imp ?_⟩
  rintro x H1 ⟨μ1, hd1, dx, e1, hr1, rx, f1⟩
  refine ⟨μ1, s, hd1, sr.ext e1, hr1, (FinG.bind f1).imp ?_⟩
  rintro y H2 ⟨μ2, hd2, dy, e2, hr2, ry, f2⟩
  refine l μ2 H2 hd2 x y dx dy W σ _ hr2 (rx.ext e2) ry (f2.imp ?_)
  rintro z H3 ⟨μ3, hd3, dz, e3, hr3, rz, f3⟩
  cases rz with
  | bl k => exact ⟨k, rfl, f3.ok hr3 rfl⟩
  | _ => exact f3.elim⟩
variable {ta tb : TM} {rest : List Expr}
theorem dw_and1 (h : DT X W a ta) : DW X W (.BoolOp .And [a] pos) ta := ⟨pw_and1 h.pt⟩
theorem dw_or1 (h : DT X W a ta) : DW X W (.BoolOp .Or [a] pos) ta := ⟨pw_or1 h.pt⟩
theorem dw_and (h : DT X W a ta) (q : DW X W (.BoolOp .And (b :: rest) pos) tb) : DW X W (.BoolOp .And (a :: b :: rest) pos) (tAnd' ta tb) := ⟨PW.imp (pw_and h.pt q.pw) fun σ H Q ⟨μ, s, hd, sr, hr, f⟩ => by
  refine ⟨μ, s, hd, sr, hr, (FinG.bind f).imp ?_⟩
  rintro x H1 ⟨μ1, hd1, dx, e1, hr1, rfl, f1⟩
  cases x with
  | true => exact ⟨μ1, s, hd1, sr.ext e1, hr1, f1⟩
  | false => exact FinG.ok f1 hr1 rfl⟩
theorem dw_or (h : DT X W a ta) (q : DW X W (.BoolOp .Or (b :: rest) pos) tb) : DW X W (.BoolOp .Or (a :: b :: rest) pos) (tOr' ta tb) := ⟨PW.imp (pw_or h.pt q.pw) fun σ H Q ⟨μ, s, hd, sr, hr, f⟩ => by
  refine ⟨μ, s, hd, sr, hr, (FinG.bind f).imp ?_⟩
  rintro x H1 ⟨μ1, hd1, dx, e1, hr1, rfl, f1⟩
  cases x with
  | false => exact ⟨μ1, s, hd1, sr.ext e1, hr1, f1⟩
  | true => exact FinG.ok f1 hr1 rfl⟩
theorem dt_w {e : Expr} {t : TM} (h : DW X W e t) : DT X W e t := ⟨h.pw.pt⟩
theorem dt_not (h : DT X W a ta) : DT X W (.UnaryOp .Not a pos) (tNot' ta) := ⟨PT.imp (pt_not h.pt) fun σ H Q ⟨μ, s, hd, sr, hr, f⟩ => by
  refine ⟨μ, s, hd, sr, hr, (FinG.bind f).imp ?_⟩
  rintro x H1 ⟨μ1, hd1, dx, e1, hr1, rfl, f1⟩
  exact FinG.ok f1 hr1 rfl⟩
theorem de_one {op} (h : DE X W a ma) : DE X W (.BoolOp op [a] pos) ma := ⟨pe_one h.pe⟩
theorem de_and (h : DE X W a ma) (q : DE X W (.BoolOp .And (b :: rest) pos) mb) : DE X W (.BoolOp .And (a :: b :: rest) pos) (eAnd ma mb) := ⟨PE.imp (pe_and h.pe q.pe) fun σ H Q ⟨μ, s, hd, sr, hr, f⟩ => by
  refine ⟨μ, s, hd, sr, hr, (FinG.bind f).imp ?_⟩
  rintro x H1 ⟨μ1, hd1, dx, e1, hr1, rx, f1⟩
  cases rx with
  | bl k =>
    refine ⟨k, rfl, ?_⟩
    cases k with
    | true => exact ⟨μ1, s, hd1, sr.ext e1, hr1, f1⟩
    | false => exact FinG.ok (R := RD X.K) f1 hr1 (.bl false)
  | _ => exact f1.elim⟩
theorem de_or (h : DE X W a ma) (q : DE X W (.BoolOp .Or (b :: rest) pos) mb) : DE X W (.BoolOp .Or (a :: b :: rest) pos) (eOr ma mb) := ⟨PE.imp (pe_or h.pe q.pe) fun σ H Q ⟨μ, s, hd, sr, hr, f⟩ => by
  refine ⟨μ, s, hd, sr, hr, (FinG.bind f).imp ?_⟩
  rintro x H1 ⟨μ1, hd1, dx, e1, hr1, rx, f1⟩
  cases rx with
  | bl k =>
    refine ⟨k, rfl, ?_⟩
    cases k with
    | false => exact ⟨μ1, s, hd1, sr.ext e1, hr1, f1⟩
    | true => exact FinG.ok (R := RD X.K) f1 hr1 (.bl true)
  | _ => exact f1.elim⟩
theorem de_not (h : DE X W a ma) : DE X W (.UnaryOp .Not a pos) (eNot ma) := ⟨PE.imp (pe_not h.pe) fun σ H Q ⟨μ, s, hd, sr, hr, f⟩ => by
  refine ⟨μ, s, hd, sr, hr, (FinG.bind f).imp ?_⟩
  rintro x H1 ⟨μ1, hd1, dx, e1, hr1, rx, f1⟩
  cases rx with
  | bl k => exact ⟨k, rfl, FinG.ok (R := RD X.K) f1 hr1 (.bl _)⟩
  | _ => exact f1.elim⟩
theorem de_if {c : Expr} (hc : DT X W c ta) (ha : DE X W a ma) (hb : DE X W b mb) : DE X W (.IfExp c a b pos) (eIf ta ma mb) := ⟨PE.imp (pe_ifExp hc.pt ha.pe hb.pe) fun σ H Q ⟨μ, s, hd, sr, hr, f⟩ => by
  refine ⟨μ, s, hd, sr, hr, (FinG.bind f).imp ?_⟩
  rintro x H1 ⟨μ1, hd1, dx, e1, hr1, rfl, f1⟩
  cases x with
  | true => exact ⟨μ1, s, hd1, sr.ext e1, hr1, f1⟩
  | false => exact ⟨μ1, s, hd1, sr.ext e1, hr1, f1⟩⟩
variable {es : List Expr} {mr : AM}
theorem da_nil : DA X W [] aN := ⟨PA.imp pa_nil fun σ H Q ⟨μ, s, hd, sr, hr, f⟩ => FinG.ok (R := RA X.K) f hr .nil⟩
theorem da_cons (ha : DE X W a ma) (hr : DA X W es mr) (hs : starEach (a :: es) X.env = (false, eval a X.env) :: starEach es X.env := by rfl) : DA X W (a :: es) (aC ma mr) := ⟨PA.imp (pa_cons ha.pe hr.pa hs) fun σ H Q ⟨μ, s, hd, sr, hr, f⟩ => by
  refine ⟨μ, s, hd, sr, hr, (FinG.bind f).imp ?_⟩
  rintro x H1 ⟨μ1, hd1, dx, e1, hr1, rx, f1⟩
  refine ⟨μ1, s, hd1, sr.ext e1, hr1, (FinG.bind f1).imp ?_⟩
  rintro y H2 ⟨μ2, hd2, dy, e2, hr2, ry, f2⟩
  exact FinG.ok (R := RA X.K) f2 hr2 (.cons (rx.ext e2) ry)⟩
def LiftN (K : PySem.W.Frag) (r : List V → Hp → VK → Prop) (g : List D → M D) : Prop := ∀ (μ : List Addr) (H : Hp) (hd : Hd) (xs : List V) (dx : List D) (W : XW) (σ : L2.St) (Q : VK), HRel K μ H hd → RepAll K μ H xs dx → FinG (RD K) K W μ H σ (g dx hd) Q → r xs H Q
theorem de_A {e : Expr} {r : List V → Hp → VK → Prop} {g : List D → M D} (l : LiftN X.K r g) (h : PE X e fun σ H Q => TAof X.K W mr σ H fun vs H1 => r vs H1 Q) : DE X W e (eA g mr) := ⟨PE.imp h fun σ H Q ⟨μ, s, hd, sr, hr, f⟩ => by
  refine ⟨μ, s, hd, sr, hr, (FinG.bind f).imp ?_⟩
  rintro x H1 ⟨μ1, hd1, dx, e1, hr1, rx, f1⟩
  exact l μ1 H1 hd1 x dx W σ Q hr1 rx f1⟩
theorem lift_mkT {K : PySem.W.Frag} : LiftN K (fun xs H Q => xs.length ≤ sizeLine ∧ ∀ p, H p = none → Q (.ref p) (upd H p (.tup xs))) mkT := fun μ H hd xs dx W σ Q hr rx f => by
  unfold mkT at f
  split at f
  · rename_i hl
    exact ⟨by rw [rx.length]; exact hl, fun p hp => f μ _ _ (Ext.new hp) (hr.new hp) (.tup (.inl (.inl upd_same)) (rx.ext (Ext.new hp)))⟩
  · exact f.elim
theorem lift_mkL {K : PySem.W.Frag} : LiftN K (fun xs H Q => xs.length ≤ sizeLine ∧ ∀ p, H p = none → Q (.ref p) (upd H p (.lst xs))) mkL := fun μ H hd xs dx W σ Q hr rx f => by
  unfold mkL at f
  split at f
  · rename_i hl
    refine ⟨by rw [rx.length]; exact hl, fun p hp => f (μ ++ [p]) _ _ (Ext.laid hp) (hr.laid hp ⟨xs, upd_same, rx.ext (Ext.laid hp)⟩) (.ref ?_)⟩
    rw [← hr.len, List.getElem?_append_right (Nat.le_refl _)]
    simp
  · exact f.elim
theorem de_tup {k : Nat} (h : DA X W es mr) : DE X W (.Tuple es k pos) (eA mkT mr) := de_A lift_mkT (pe_tup h.pa)
theorem de_lst (h : DA X W es mr) : DE X W (.List es pos) (eA mkL mr) := de_A lift_mkL (pe_lst h.pa)
theorem de_bt {id : String} {r : List V → Hp → VK → Prop} {g : List D → M D} {x : Str} {e : Expr} {p : Pos} (hc : CallR X (.builtin id) r) (l : LiftN X.K r g) (hm : X.mg x = none) (ha : DA X W (e :: es) mr) (hg : Gl X x := by rfl) (hv : bootBuiltins x = some (.builtin id) := by decide +kernel) (hn : x ≠ "__name__" := by decide) (hdb : (x == ("__debug__" : Str)) = false := by decide)
    (he : starEach (e :: es) X.env = (false, eval e X.env) :: starEach es X.env := by rfl) (hpl : (backTo pos (starEach es X.env)).any (·.1) = false := by rfl) : DE X W (.Call (.Name x p) (e :: es) [] pos) (eA g mr) := de_A l (pe_callB hc hg hm hv ha.pa hn hdb he hpl)
theorem de_ty {T : String} {r : List V → Hp → VK → Prop} {g : List D → M D} {x : Str} {e : Expr} {p : Pos} (hc : CallR X (.type T) r) (l : LiftN X.K r g) (hm : X.mg x = none) (ha : DA X W (e :: es) mr) (hg : Gl X x := by rfl) (hv : bootBuiltins x = some (.type T) := by decide +kernel) (hn : x ≠ "__name__" := by decide) (hdb : (x == ("__debug__" : Str)) = false := by decide)
    (he : starEach (e :: es) X.env = (false, eval e X.env) :: starEach es X.env := by rfl) (hpl : (backTo pos (starEach es X.env)).any (·.1) = false := by rfl) : DE X W (.Call (.Name x p) (e :: es) [] pos) (eA g mr) := de_A l (pe_callTy hc hg hm hv ha.pa hn hdb he hpl)
def spD (K : PySem.W.Frag) (n : Nat) (F : List D → M D) : Sp := fun vs H Q E => ∃ (μ : List Addr) (hd : Hd) (ds : List D), HRel K μ H hd ∧ RepAll K μ H vs ds ∧ ds.length = n ∧ FinG (RD K) K (fun c o _ H' => E c o H') μ H [] (F ds hd) Q
def eF (n : Nat) (F : List D → M D) : List D → M D := fun ds h => if ds.length = n then F ds h else .bad
theorem FinG.w0 {A B : Type} {R : List Addr → Hp → A → B → Prop} {K : PySem.W.Frag} {μ : List Addr} {H : Hp} {σ σ' : L2.St} {r : Res B} {Q : A → Hp → Prop} (f : FinG R K W0 μ H σ r Q) : FinG R K (fun c o _ H' => E0 c o H') μ H σ' r Q := by
  cases r with
  | ok d h => exact f
  | exc x h => exact f
  | bad => exact f
theorem de_call {n k : Nat} {F : List D → M D} {f : Addr} {fd : FuncData} {ps : List Str} {x : Str} {e : Expr} {p : Pos} (G : FnOk X.prog X.w X.K X.mg X.base CX0 k f fd ps (spD X.K n F)) (hr : Room k X.A) (hm : X.mg x = some (.ref f)) (hk : PySem.W.keepIn X.K (.ref f) = true) (hb : Binds X.K fd ps []) (ha : DA X W0 (e :: es) mr)
    (hg : Gl X x := by rfl) (hdb : (x == ("__debug__" : Str)) = false := by decide) (he : starEach (e :: es) X.env = (false, eval e X.env) :: starEach es X.env := by rfl) (hpl : (backTo pos (starEach es X.env)).any (·.1) = false := by rfl) : DE X W0 (.Call (.Name x p) (e :: es) [] pos) (eA (eF n F) mr) :=
  ⟨PE.imp (pe_call G hr hg hm hk hb .nil pass0 ha.pa hdb he hpl) fun σ H Q ⟨μ, s, hd, sr, hr, f⟩ => by
  refine ⟨μ, s, hd, sr, hr, (FinG.bind f).imp ?_⟩
  rintro vs H1 ⟨μ1, hd1, dx, e1, hr1, rx, f1⟩
  unfold eF at f1
  split at f1
  · rename_i hl
    exact ⟨μ1, hd1, dx, hr1, by rw [List.append_nil]; exact rx, hl, f1.w0⟩
  · exact f1.elim⟩
end
end DL
namespace DL
open PySem PySem.Spec PyProof.Rows L2
abbrev GM := D → Sl → Hd → Res Sl
abbrev GMs := List D → Sl → Hd → Res Sl
abbrev RS (K : PySem.W.Frag) : List Addr → Hp → L2.St → Sl → Prop := fun μ H σ s => SRel K μ H σ s
def Res.thenS {B : Type} (r : Res B) (s : Sl) (k : B → Hd → SR) : SR := match r with
  | .ok d h => k d h
  | .exc x h => .exc x s h
  | .bad => .bad
def TGof (K : PySem.W.Frag) (g : GM) : TG := fun v σ H Q => ∃ (μ : List Addr) (s : Sl) (hd : Hd) (d : D), SRel K μ H σ s ∧ HRel K μ H hd ∧ Rep K μ H v d ∧ FinG (RS K) K W0 μ H σ (g d s hd) Q
def TGsof (K : PySem.W.Frag) (g : GMs) : TGs := fun v σ H Q => ∃ (μ : List Addr) (s : Sl) (hd : Hd) (d : List D), SRel K μ H σ s ∧ HRel K μ H hd ∧ RepAll K μ H v d ∧ FinG (RS K) K W0 μ H σ (g d s hd) Q
structure DG (X : Cx) (e : Expr) (m : GM) : Prop where
  pg : PG X e (TGof X.K m)
structure DGs (X : Cx) (e : List Expr) (m : GMs) : Prop where
  pg : PGs X e (TGsof X.K m)
theorem PG.imp {X : Cx} {e : Expr} {t t' : TG} (h : PG X e t) (i : ∀ v σ H Q, t' v σ H Q → t v σ H Q) : PG X e t' := ⟨fun pins s σ H v u Q I r q => h.run pins s σ H v u Q I r (i _ _ _ _ q)⟩
theorem PGs.imp {X : Cx} {e : List Expr} {t t' : TGs} (h : PGs X e t) (i : ∀ v σ H Q, t' v σ H Q → t v σ H Q) : PGs X e t' := ⟨fun pins s σ H v u Q I r q => h.run pins s σ H v u Q I r (i _ _ _ _ q)⟩
theorem FinS.bind {A B : Type} {R : List Addr → Hp → A → B → Prop} {K : PySem.W.Frag} {W : XW} {μ : List Addr} {H : Hp} {σ : L2.St} {s : Sl} {r : Res B} {k : B → Hd → SR} {D : Ends} (f : FinS K W μ H (r.thenS s k) D) (sr : SRel K μ H σ s) :
    FinG R K W μ H σ r fun v H1 => ∃ μ1 hd1 d, Ext μ H μ1 H1 ∧ HRel K μ1 H1 hd1 ∧ R μ1 H1 v d ∧ SRel K μ1 H1 σ s ∧ FinS K W μ1 H1 (k d hd1) D := by
  cases r with
  | ok d h => exact fun μ2 H2 v e2 hr rv => ⟨μ2, h, d, e2, hr, rv, sr.ext e2, FinS.base (r := k d h) f e2⟩
  | exc x h => exact fun μ2 H2 o e2 hr rv => f μ2 H2 σ o e2 hr (sr.ext e2) rv
  | bad => exact f
theorem FinS.nx {K : PySem.W.Frag} {W : XW} {μ : List Addr} {H : Hp} {σ : L2.St} {s : Sl} {hd : Hd} {D : Ends} (f : FinS K W μ H (.nx s hd) D) (hr : HRel K μ H hd) (sr : SRel K μ H σ s) : D.nx σ H := f μ H σ .refl hr sr
theorem FinS.rt {K : PySem.W.Frag} {W : XW} {μ : List Addr} {H : Hp} {v : V} {d : DL.D} {hd : Hd} {D : Ends} (f : FinS K W μ H (.rt d hd) D) (hr : HRel K μ H hd) (sr : Rep K μ H v d) : D.rt v H := f μ H v .refl hr sr
def sNil : SM := fun s h => .nx s h
def SR.seq (r : SR) (b : SM) : SR := match r with
  | .nx s1 h1 => b s1 h1
  | .rt d h1 => .rt d h1
  | .exc x s1 h1 => .exc x s1 h1
  | .bad => .bad
def sSeq (a b : SM) : SM := fun s h => (a s h).seq b
def Res.toS (r : Res Sl) : SR := match r with
  | .ok s1 h2 => .nx s1 h2
  | _ => .bad
def sAsg (e : EM) (g : GM) : SM := fun s h => (e s h).thenS s fun d h1 => (g d s h1).toS
def gN (i : Nat) : GM := fun d s h => .ok (s.set i (some d)) h
def gsN : GMs := fun ds s h => match ds with
  | [] => .ok s h
  | _ => .bad
def gsC (g : GM) (gs : GMs) : GMs := fun ds s h => match ds with
  | d :: r => (g d s h).bind fun s1 h1 => gs r s1 h1
  | [] => .bad
def gT (n : Nat) (gs : GMs) : GM := fun d s h => match d with
  | .tup ds => if ds.length = n then gs ds s h else .bad
  | _ => .bad
def gS (o i : EM) (set : D → D → D → Hd → Res Unit) : GM := fun d s h => (o s h).bind fun x h1 => (i s h1).bind fun y h2 => (set x y d h2).bind fun _ h3 => .ok s h3
def sSet (i : Nat) (e : EM) : SM := sAsg e (gN i)
def sRet (e : EM) : SM := fun s h => (e s h).thenS s fun d h1 => .rt d h1
def sExpr (e : EM) : SM := fun s h => (e s h).thenS s fun _ h1 => .nx s h1
def sIf (t : TM) (a b : SM) : SM := fun s h => (t s h).thenS s fun c h1 => if c = true then a s h1 else b s h1
def sPar (i j : Nat) (a : AM) : SM := fun s h => (a s h).thenS s fun ds h1 => match ds with
  | [x, y] => .nx ((s.set i (some x)).set j (some y)) h1
  | _ => .bad
def whN (t : TM) (b : SM) : Nat → Sl → Hd → Option SR
  | 0, _, _ => none
  | n + 1, s, h => match t s h with
    | .ok true h1 => (match b s h1 with
      | .nx s2 h2 => whN t b n s2 h2
      | r => some r)
    | .ok false h1 => some (.nx s h1)
    | .exc x h1 => some (.exc x s h1)
    | .bad => some .bad
open Classical in
noncomputable def sWhile (t : TM) (b : SM) : SM := fun s h => if q : ∃ n r, whN t b n s h = some r then (Classical.choose_spec q).choose else .bad
theorem whN_mono {t : TM} {b : SM} : ∀ {n : Nat} {s : Sl} {h : Hd} {r : SR}, whN t b n s h = some r → whN t b (n + 1) s h = some r
  | 0, _, _, _, e => by cases e
  | n + 1, s, h, r, e => by
    unfold whN at e ⊢
    split
    · rename_i h1 q
      rw [q] at e
      simp only at e
      split
      · rename_i s2 h2 q2
        rw [q2] at e
        exact whN_mono e
      · rename_i q2
        split at e
        · rename_i s2 h2 q3
          exact (q2 _ _ q3).elim
        · exact e
    · rename_i h1 q
      rw [q] at e
      exact e
    · rename_i x h1 q
      rw [q] at e
      exact e
    · rename_i q
      rw [q] at e
      exact e
theorem whN_le {t : TM} {b : SM} {n : Nat} {s : Sl} {h : Hd} {r : SR} (e : whN t b n s h = some r) : ∀ k, whN t b (n + k) s h = some r
  | 0 => e
  | k + 1 => whN_mono (whN_le e k)
theorem sWhile_of {t : TM} {b : SM} {n : Nat} {s : Sl} {h : Hd} {r : SR} (e : whN t b n s h = some r) : sWhile t b s h = r := by
  unfold sWhile
  have q : ∃ n r, whN t b n s h = some r := ⟨n, r, e⟩
  rw [dif_pos q]
  have q2 := (Classical.choose_spec q).choose_spec
  have e1 := whN_le e (Classical.choose q)
  have e2 := whN_le q2 n
  rw [Nat.add_comm] at e2
  exact Option.some.inj (e2.symm.trans e1)
theorem sWhile_none {t : TM} {b : SM} {s : Sl} {h : Hd} (e : ∀ n, whN t b n s h = none) : sWhile t b s h = .bad := by
  unfold sWhile
  rw [dif_neg]
  rintro ⟨n, r, q⟩
  rw [e n] at q; cases q
theorem sWhile_eq {t : TM} {b : SM} {s : Sl} {h : Hd} : sWhile t b s h = (t s h).thenS s fun c h1 => if c = true then sSeq b (sWhile t b) s h1 else .nx s h1 := by
  cases q : t s h with
  | bad => exact sWhile_of (n := 1) (by unfold whN; rw [q]; rfl)
  | exc x h1 => exact sWhile_of (n := 1) (by unfold whN; rw [q]; rfl)
  | ok c h1 =>
    cases c with
    | false => exact sWhile_of (n := 1) (by unfold whN; rw [q]; rfl)
    | true =>
      show sWhile t b s h = sSeq b (sWhile t b) s h1
      unfold sSeq SR.seq
      cases q2 : b s h1 with
      | bad => exact sWhile_of (n := 1) (by unfold whN; rw [q]; simp only; rw [q2])
      | rt d h2 => exact sWhile_of (n := 1) (by unfold whN; rw [q]; simp only; rw [q2])
      | exc x s2 h2 => exact sWhile_of (n := 1) (by unfold whN; rw [q]; simp only; rw [q2])
      | nx s2 h2 =>
        simp only
        by_cases z : ∃ n r, whN t b n s2 h2 = some r
        · obtain ⟨n, r, z⟩ := z
          rw [sWhile_of z]
          exact sWhile_of (n := n + 1) (by unfold whN; rw [q]; simp only; rw [q2]; exact z)
        · have z' : ∀ n, whN t b n s2 h2 = none := fun n => by
            cases y : whN t b n s2 h2 with
            | none => rfl
            | some r => exact (z ⟨n, r, y⟩).elim
          rw [sWhile_none z']
          refine sWhile_none fun n => ?_
          cases n with
          | zero => rfl
          | succ n => unfold whN; rw [q]; simp only; rw [q2]; exact z' n
section
variable {X : Cx} {W : XW} {st : Stmt} {rest : List Stmt} {e a b tg : Expr} {m ma mb : EM} {ms mr : SM} {g : GM} {gs : GMs} {pos : Pos}
theorem ds_nil : DSs X W [] sNil := ⟨PSs.imp pss_nil fun D σ H ⟨μ, s, hd, sr, hr, f⟩ => FinS.nx f hr sr⟩
theorem ds_cons (h1 : DS X W st ms) (h2 : DSs X W rest mr) : DSs X W (st :: rest) (sSeq ms mr) := ⟨PSs.imp (pss_cons h1.ps h2.ps) fun D σ H ⟨μ, s, hd, sr, hr, f⟩ => by
  refine ⟨μ, s, hd, sr, hr, ?_⟩
  unfold sSeq SR.seq at f
  cases q : ms s hd with
  | nx s1 h1 =>
    rw [q] at f
    exact fun μ' H' σ' e hr' sr' => ⟨μ', s1, h1, sr', hr', FinS.base f e⟩
  | rt d h1 => rw [q] at f; exact f
  | exc x s1 h1 => rw [q] at f; exact f
  | bad => rw [q] at f; exact f.elim⟩
theorem ds_one (h1 : DS X W st ms) : DSs X W [st] ms := ⟨pss_one h1.ps⟩
theorem ds_expr (he : DE X W e m) (hs : swapsWith e none pos.line X.env = pure false := by rfl) : DS X W (.Expr e pos) (sExpr m) := ⟨PS.imp (ps_expr he.pe hs) fun D σ H ⟨μ, s, hd, sr, hr, f⟩ => by
  refine ⟨μ, s, hd, sr, hr, (FinS.bind f sr).imp ?_⟩
  rintro v H1 ⟨μ1, hd1, d, e1, hr1, rv, sr1, f1⟩
  exact FinS.nx f1 hr1 sr1⟩
theorem ds_ret (he : DE X W e m) : DS X W (.Return (some e) pos) (sRet m) := ⟨PS.imp (ps_ret he.pe) fun D σ H ⟨μ, s, hd, sr, hr, f⟩ => by
  refine ⟨μ, s, hd, sr, hr, (FinS.bind f sr).imp ?_⟩
  rintro v H1 ⟨μ1, hd1, d, e1, hr1, rv, sr1, f1⟩
  exact FinS.rt f1 hr1 rv⟩
theorem ds_if {t : TM} {ba bb : List Stmt} (hc : DT X W a t) (ha : DSs X W ba ms) (hb : DSs X W bb mr) : DS X W (.If a ba bb pos) (sIf t ms mr) := ⟨PS.imp (ps_if hc.pt ha.ps hb.ps) fun D σ H ⟨μ, s, hd, sr, hr, f⟩ => by
  refine ⟨μ, s, hd, sr, hr, (FinS.bind f sr).imp ?_⟩
  rintro v H1 ⟨μ1, hd1, d, e1, hr1, rfl, sr1, f1⟩
  cases v with
  | true => exact ⟨μ1, s, hd1, sr1, hr1, f1⟩
  | false => exact ⟨μ1, s, hd1, sr1, hr1, f1⟩⟩
theorem dg_name {i : Nat} {x : Str} (hN : X.N.Nodup) (hi : X.N[i]? = some x := by rfl) (hx : Loc X.env.scope x := by first | exact Or.inl rfl | exact Or.inr rfl) (hf : X.fn x = true ∨ X.env.scope.names.lookup x = some .local := by first | exact .inl rfl | exact .inr rfl | assumption) : DG X (.Name x pos) (gN i) :=
  ⟨PG.imp (pg_name hN hi hx hf) fun v σ H Q ⟨μ, s, hd, d, sr, hr, rv, f⟩ => FinG.ok (R := RS X.K) f hr (sr.set i rv)⟩
theorem dgs_nil : DGs X [] gsN := ⟨PGs.imp pgs_nil fun v σ H Q ⟨μ, s, hd, d, sr, hr, rv, f⟩ => by
  cases rv with
  | nil => exact ⟨rfl, FinG.ok (R := RS X.K) f hr sr⟩
  | cons _ _ => exact f.elim⟩
theorem dgs_cons {es : List Expr} (h1 : DG X e g) (h2 : DGs X es gs) (hs : (assignEach (e :: es) X.env).map (·.2) = assign e X.env :: (assignEach es X.env).map (·.2) := by rfl) : DGs X (e :: es) (gsC g gs) := ⟨PGs.imp (pgs_cons h1.pg h2.pg hs) fun v σ H Q ⟨μ, s, hd, d, sr, hr, rv, f⟩ => by
  cases rv with
  | nil => exact f.elim
  | cons r1 r2 =>
    refine ⟨_, _, rfl, μ, s, hd, _, sr, hr, r1, (FinG.bind f).imp ?_⟩
    rintro σ1 H1 ⟨μ1, hd1, s1, e1, hr1, sr1, f1⟩
    refine ⟨μ1, s1, hd1, _, sr1, hr1, r2.ext e1, ?_⟩
    cases q : gs _ s1 hd1 with
    | ok d h => rw [q] at f1; exact f1
    | exc x h => rw [q] at f1; exact fun μ' H' o e hr rv => f1 μ' H' o e hr rv
    | bad => rw [q] at f1; exact f1⟩
theorem dg_tup {es : List Expr} {k n : Nat} (hc : X.calm = true) (h : DGs X es gs) (hn : (assignEach es X.env).length = n := by rfl) (hst : (assignEach es X.env).findIdx? (·.1) = none := by rfl) : DG X (.Tuple es k pos) (gT n gs) := ⟨PG.imp (pg_tup hc h.pg hn hst) fun v σ H Q ⟨μ, s, hd, d, sr, hr, rv, f⟩ => by
  cases rv with
  | tup hs ra =>
    unfold gT at f
    simp only at f
    split at f
    · rename_i hl
      exact ⟨_, _, rfl, hs, by rw [ra.length]; exact hl, μ, s, hd, _, sr, hr, ra, f⟩
    · exact f.elim
  | _ => exact f.elim⟩
def LiftSet (K : PySem.W.Frag) (t : TSet) (g : D → D → D → Hd → Res Unit) : Prop := ∀ (μ : List Addr) (H : Hp) (hd : Hd) (x y z : V) (dx dy dz : D) (W : XW) (σ : L2.St) (Q : Hp → Prop), HRel K μ H hd → Rep K μ H x dx → Rep K μ H y dy → Rep K μ H z dz →
  FinG (fun _ _ (_ : Unit) (_ : Unit) => True) K W μ H σ (g dx dy dz hd) (fun _ H' => Q H') → t x y z H Q
theorem dg_sub {o i : Expr} {mo mi : EM} {t : TSet} {set : D → D → D → Hd → Res Unit} (hs : PSet X t) (l : LiftSet X.K t set) (ho : DE X W0 o mo) (hi : DE X W0 i mi)
    (ha : ∀ v, assign (.Subscript o i pos) X.env v = (do
      let ov ← holding [v] (eval o X.env)
      let iv ← holding [v, ov] (eval i X.env)
      standAt pos
      holding [v, ov, iv] (setItem ov iv v)
      release [v, ov, iv] []) := by intro _; rfl) : DG X (.Subscript o i pos) (gS mo mi set) := ⟨PG.imp (pg_sub ho.pe hi.pe hs ha) fun v σ H Q ⟨μ, s, hd, d, sr, hr, rv, f⟩ => by
  refine ⟨μ, s, hd, sr, hr, (FinG.bind f).imp ?_⟩
  rintro x H1 ⟨μ1, hd1, dx, e1, hr1, rx, f1⟩
  refine ⟨μ1, s, hd1, sr.ext e1, hr1, (FinG.bind f1).imp ?_⟩
  rintro y H2 ⟨μ2, hd2, dy, e2, hr2, ry, f2⟩
  refine l μ2 H2 hd2 x y v dx dy d W0 σ _ hr2 (rx.ext e2) ry (rv.ext (e1.trans e2)) ((FinG.bind f2).imp ?_)
  rintro _ H3 ⟨μ3, hd3, _, e3, hr3, _, f3⟩
  exact FinG.ok (R := RS X.K) f3 hr3 (sr.ext (e1.trans (e2.trans e3)))⟩
theorem ds_asg' {t : TS} (he : DE X W e m) (hg : DG X tg g) (h : PS X st (tAsg (TEof X.K W m) (TGof X.K g))) : DS X W st (sAsg m g) := ⟨PS.imp h fun D σ H ⟨μ, s, hd, sr, hr, f⟩ => by
  refine ⟨μ, s, hd, sr, hr, (FinS.bind f sr).imp ?_⟩
  rintro v H1 ⟨μ1, hd1, d, e1, hr1, rv, sr1, f1⟩
  refine ⟨μ1, s, hd1, d, sr1, hr1, rv, ?_⟩
  cases q : g d s hd1 with
  | ok s1 h1 => rw [q] at f1; exact fun μ' H' σ' e hr' sr' => f1 μ' H' σ' e hr' sr'
  | exc x h1 => rw [q] at f1; exact f1.elim
  | bad => rw [q] at f1; exact f1.elim⟩
theorem ds_asg (he : DE X W e m) (hg : DG X tg g) (hs : swapsWithSole [tg] e pos.line X.env = pure false := by rfl) (hw : swappedStores [tg] e X.env = pure none := by rfl) (h1 : (assignEach [tg] X.env).map (·.2) = [assign tg X.env] := by rfl) : DS X W (.Assign [tg] e pos) (sAsg m g) := ds_asg' (t := tNever) he hg (ps_asg he.pe hg.pg hs hw h1)
theorem ds_set (i : Nat) {x : Str} {pos' : Pos} (hN : X.N.Nodup) (he : DE X W e m) (hi : X.N[i]? = some x := by rfl) (hx : Loc X.env.scope x := by first | exact Or.inl rfl | exact Or.inr rfl) (hs : swapsWith e (some (.Name x pos')) pos.line X.env = pure false := by rfl) (hf : X.fn x = true ∨ X.env.scope.names.lookup x = some .local := by first | exact .inl rfl | exact .inr rfl | assumption) :
    DS X W (.Assign [.Name x pos'] e pos) (sSet i m) := ⟨PS.imp (ps_set hN hi hx he.pe hs hf) fun D σ H ⟨μ, s, hd, sr, hr, f⟩ => by
  refine ⟨μ, s, hd, sr, hr, (FinS.bind f sr).imp ?_⟩
  rintro v H1 ⟨μ1, hd1, d, e1, hr1, rv, sr1, f1⟩
  exact FinS.nx f1 hr1 (sr1.set i rv)⟩
theorem ds_par (i j : Nat) {x y : Str} {px py pt : Pos} {kt k2 pt2} {ma : AM} (hc : X.calm = true) (hN : X.N.Nodup) (ha : DA X W [a, b] ma) (hi : X.N[i]? = some x := by rfl) (hj : X.N[j]? = some y := by rfl) (hij : i ≠ j := by decide)
    (hx : X.env.scope.names.lookup x = some .local := by rfl) (hy : X.env.scope.names.lookup y = some .local := by rfl)
    (hw : swappedStores [.Tuple [.Name x px, .Name y py] kt pt] (.Tuple [a, b] k2 pt2) X.env = pure (some [x, y]) := by rfl)
    (hs : swapsWithSole [.Tuple [.Name x px, .Name y py] kt pt] (.Tuple [a, b] k2 pt2) pos.line X.env = pure false := by rfl) :
    DS X W (.Assign [.Tuple [.Name x px, .Name y py] kt pt] (.Tuple [a, b] k2 pt2) pos) (sPar i j ma) := ⟨PS.imp (ps_par hc hN hi hj hij hx hy ha.pa hw hs) fun D σ H ⟨μ, s, hd, sr, hr, f⟩ => by
  refine ⟨μ, s, hd, sr, hr, (FinS.bind f sr).imp ?_⟩
  rintro v H1 ⟨μ1, hd1, d, e1, hr1, rv, sr1, f1⟩
  cases rv with
  | nil => exact f1.elim
  | cons r1 rr =>
    cases rr with
    | nil => exact f1.elim
    | cons r2 rr2 =>
      cases rr2 with
      | nil => exact ⟨_, _, rfl, FinS.nx f1 hr1 ((sr1.set i r1).set j r2)⟩
      | cons _ _ => exact f1.elim⟩
theorem ds_while {t : TM} {body : List Stmt} (hp : PassesOwn (model X.prog X.w) X.A X.env X.xe) (hc : DT X W a t) (hb : DSs X W body ms) : DS X W (.While a body [] pos) (sWhile t ms) := ⟨PS.imp (ps_while hp hc.pt hb.ps) fun D σ H ⟨μ, s, hd, sr, hr, f⟩ => by
  refine ⟨fun m σ H => ∃ μ s hd r, SRel X.K μ H σ s ∧ HRel X.K μ H hd ∧ whN t ms m s hd = some r ∧ FinS X.K W μ H r D, ?_, ?_⟩
  · by_cases q : ∃ n r, whN t ms n s hd = some r
    · obtain ⟨n, r, q⟩ := q
      exact ⟨n, μ, s, hd, r, sr, hr, q, by rw [sWhile_of q] at f; exact f⟩
    · rw [sWhile_none fun n => by
        cases y : whN t ms n s hd with
        | none => rfl
        | some r => exact (q ⟨n, r, y⟩).elim] at f
      exact f.elim
  · rintro m σ H ⟨μ, s, hd, r, sr, hr, q, f⟩
    cases m with
    | zero => cases q
    | succ m =>
      unfold whN at q
      refine ⟨μ, s, hd, sr, hr, ?_⟩
      cases y : t s hd with
      | bad => rw [y] at q; simp only [Option.some.injEq] at q; subst q; exact f
      | exc x h1 => rw [y] at q; simp only [Option.some.injEq] at q; subst q; exact fun μ' H' o e hr' xr => f μ' H' σ o e hr' (sr.ext e) xr
      | ok c h1 =>
        rw [y] at q
        cases c with
        | false =>
          simp only [Option.some.injEq] at q
          subst q
          rintro μ' H' _ e hr' rfl
          rw [if_neg (by decide)]
          exact f μ' H' σ e hr' (sr.ext e)
        | true =>
          simp only at q
          rintro μ' H' _ e hr' rfl
          rw [if_pos rfl]
          refine ⟨fun σ' H' => ∃ μ s hd r, SRel X.K μ H' σ' s ∧ HRel X.K μ H' hd ∧ whN t ms m s hd = some r ∧ FinS X.K W μ H' r D, fun σ' H' h => ⟨m, Nat.lt_succ_self m, h⟩, μ', s, h1, sr.ext e, hr', ?_⟩
          cases z : ms s h1 with
          | nx s2 h2 =>
            rw [z] at q
            exact fun μ2 H2 σ2 e2 hr2 sr2 => ⟨μ2, s2, h2, r, sr2, hr2, q, FinS.base f (e.trans e2)⟩
          | rt d h2 => rw [z] at q; simp only [Option.some.injEq] at q; subst q; exact FinS.base f e
          | exc x s2 h2 => rw [z] at q; simp only [Option.some.injEq] at q; subst q; exact FinS.base f e
          | bad => rw [z] at q; simp only [Option.some.injEq] at q; subst q; exact f⟩
end
end DL
namespace DL
open PySem PySem.Spec PyProof.Rows L2
abbrev ItD := List D × (Hd → Prop)
abbrev IM := Sl → M ItD
def RIt (K : PySem.W.Frag) (μ : List Addr) (H : Hp) (J : It) (p : ItD) : Prop :=
  ∀ (μ' : List Addr) (H' : Hp) (hd : Hd), Ext μ H μ' H' → HRel K μ' H' hd → p.2 hd → ∀ i : Nat,
    (∀ d, p.1[i]? = some d → J.go i H' ∧ ∀ x H'', J.yld i H' x H'' → Ext μ' H' μ' H'' ∧ HRel K μ' H'' hd ∧ Rep K μ' H'' x d) ∧ (p.1.length = i → J.stop i H')
def TIof (K : PySem.W.Frag) (W : XW) (m : IM) : TI := TG' (fun μ H J p => RIt K μ H J p) K W m
structure DI (X : Cx) (W : XW) (tg e : Expr) (m : IM) : Prop where
  pi : PI X tg e (TIof X.K W m)
theorem PI.imp {X : Cx} {tg e : Expr} {t t' : TI} (h : PI X tg e t) (i : ∀ σ H Q, t' σ H Q → t σ H Q) : PI X tg e t' := ⟨fun pins s σ H Q I q => h.run pins s σ H Q I (i _ _ _ q)⟩
open Classical in
noncomputable def forD (chk : Hd → Prop) (g : GM) (body : SM) : List D → Sl → Hd → SR
  | [], s, h => if chk h then .nx s h else .bad
  | x :: xs, s, h => if chk h then (match g x s h with
    | .ok s1 h1 => (match body s1 h1 with
      | .nx s2 h2 => forD chk g body xs s2 h2
      | r => r)
    | _ => .bad) else .bad
noncomputable def sFor (it : IM) (g : GM) (body : SM) : SM := fun s h => (it s h).thenS s fun p h1 => forD p.2 g body p.1 s h1
def appD (n : Nat) (d : D) (h : Hd) : Res Unit := match h[n]? with
  | some (.lst xs) => if xs.length < sizeLine then .ok () (h.set n (.lst (xs ++ [d]))) else .bad
  | _ => .bad
def wipeD (s : Sl) : List Nat → Sl
  | [] => s
  | v :: vs => (wipeD s vs).set v none
open Classical in
noncomputable def lcD (chk : Hd → Prop) (g : GM) (t : TM) (e : EM) (vs : List Nat) (n : Nat) (s : Sl) : List D → Hd → Res Unit
  | [], h => if chk h then .ok () h else .bad
  | x :: xs, h => if chk h then (match g x (wipeD s vs) h with
    | .ok s1 h1 => (t s1 h1).bind fun c h2 => if c = true then (e s1 h2).bind fun d h3 => (appD n d h3).bind fun _ h4 => lcD chk g t e vs n s xs h4 else lcD chk g t e vs n s xs h2
    | _ => .bad) else .bad
noncomputable def eLc (it : IM) (g : GM) (t : TM) (e : EM) (vs : List Nat) : EM := fun s h => (it s h).bind fun p h1 => (lcD p.2 g t e vs h1.length s p.1 (h1 ++ [.lst []])).bind fun _ h2 => .ok (.ref h1.length) h2
def tT : TM := fun _ h => .ok true h
section
variable {X : Cx} {W : XW} {st : Stmt} {rest : List Stmt} {e a b tg : Expr} {m ma mb : EM} {ms mr : SM} {g : GM} {gs : GMs} {pos : Pos} {im : IM}
theorem ds_for {body : List Stmt} (hp : PassesOwn (model X.prog X.w) X.A X.env X.xe) (hc : X.calm = true) (hi : DI X W tg a im) (hg : DG X tg g) (hb : DSs X W body ms) (hs : ∀ x, foldedSetIterable a X.env x = pure x := by intro _; rfl) : DS X W (.For tg a body [] pos) (sFor im g ms) := ⟨PS.imp (ps_for hp hc hi.pi hg.pg hb.ps hs) fun D σ H ⟨μ, s, hd, sr, hr, f⟩ => by
  refine ⟨μ, s, hd, sr, hr, (FinS.bind f sr).imp ?_⟩
  rintro J H1 ⟨μ1, hd1, ⟨items, chk⟩, e1, hr1, rJ, sr1, f1⟩
  refine ⟨fun i m σ H => ∃ μ s hd, Ext μ1 H1 μ H ∧ SRel X.K μ H σ s ∧ HRel X.K μ H hd ∧ i + m = items.length ∧ FinS X.K W μ H (forD chk g ms (items.drop i) s hd) D, ⟨items.length, μ1, s, hd1, .refl, sr1, hr1, by simp, f1⟩, ?_⟩
  rintro i m σ H ⟨μ, s, hd, e0, sr, hr, hm, f⟩
  by_cases hi : i < items.length
  · have ed : items.drop i = items[i] :: items.drop (i + 1) := List.drop_eq_getElem_cons hi
    rw [ed] at f
    unfold forD at f
    by_cases hck : chk hd
    · rw [if_pos hck] at f
      obtain ⟨h1, h2⟩ := (rJ μ H hd e0 hr hck i).1 items[i] (List.getElem?_eq_getElem hi)
      refine .inr ⟨h1, fun σ' H' => ∃ μ s hd, Ext μ1 H1 μ H' ∧ SRel X.K μ H' σ' s ∧ HRel X.K μ H' hd ∧ FinS X.K W μ H' (forD chk g ms (items.drop (i + 1)) s hd) D, fun σ' H' ⟨μ, s, hd, a1, a2, a3, a4⟩ => ⟨m - 1, by omega, μ, s, hd, a1, a2, a3, by omega, a4⟩, fun x H' y => ?_⟩
      obtain ⟨q1, q2, q3⟩ := h2 x H' y
      refine ⟨μ, s, hd, items[i], sr.ext q1, q2, q3, ?_⟩
      cases z : g items[i] s hd with
      | bad => rw [z] at f; exact f.elim
      | exc x h => rw [z] at f; exact f.elim
      | ok s1 h1 =>
        rw [z] at f
        simp only at f
        intro μ' H2 σ2 e2 hr2 sr2
        refine ⟨μ', s1, h1, sr2, hr2, ?_⟩
        cases z2 : ms s1 h1 with
        | bad => rw [z2] at f; exact f.elim
        | exc x s2 h2 => rw [z2] at f; exact FinS.base f (q1.trans e2)
        | rt d h2 => rw [z2] at f; exact FinS.base f (q1.trans e2)
        | nx s2 h2 =>
          rw [z2] at f
          exact fun μ3 H3 σ3 e3 hr3 sr3 => ⟨μ3, s2, h2, e0.trans (q1.trans (e2.trans e3)), sr3, hr3, FinS.base f (q1.trans (e2.trans e3))⟩
    · rw [if_neg hck] at f; exact f.elim
  · have ed : items.drop i = [] := List.drop_eq_nil_of_le (by omega)
    rw [ed] at f
    unfold forD at f
    by_cases hck : chk hd
    · rw [if_pos hck] at f
      exact .inl ⟨(rJ μ H hd e0 hr hck i).2 (Nat.le_antisymm (Nat.le_of_not_lt hi) (show i ≤ items.length by omega)), FinS.nx f hr sr⟩
    · rw [if_neg hck] at f; exact f.elim⟩
theorem wipe_rel {K : PySem.W.Frag} {μ : List Addr} {H : Hp} {σ : L2.St} {s : Sl} (r : SRel K μ H σ s) : ∀ vs : List Nat, SRel K μ H (wipe σ vs) (wipeD s vs)
  | [] => r
  | v :: vs => by
    have q := wipe_rel r vs
    unfold wipe wipeD
    refine ⟨by simp [q.1], fun i d h => ?_⟩
    by_cases hv : v = i
    · subst hv
      by_cases hl : v < (wipeD s vs).length
      · rw [List.getElem?_set_self hl] at h; cases h
      · rw [List.getElem?_eq_none (by simpa using hl)] at h; cases h
    · rw [List.getElem?_set_ne hv] at h ⊢
      exact q.2 i d h
theorem wipe_get (σ : L2.St) (j : Nat) : ∀ vs : List Nat, (wipe σ vs)[j]? = if j ∈ vs then (σ[j]?).map (fun _ => none) else σ[j]?
  | [] => by simp [wipe]
  | v :: vs => by
    unfold wipe
    by_cases e : v = j
    · subst e
      rw [if_pos List.mem_cons_self]
      by_cases hl : v < σ.length
      · rw [List.getElem?_set_self (by rw [wipe_length]; exact hl), List.getElem?_eq_getElem hl]; rfl
      · rw [List.getElem?_eq_none (by rw [List.length_set, wipe_length]; omega), List.getElem?_eq_none (by omega)]; rfl
    · rw [List.getElem?_set_ne e, wipe_get σ j vs]
      have e' : (j ∈ v :: vs) ↔ (j ∈ vs) := by rw [List.mem_cons]; exact ⟨fun z => z.elim (fun y => (e y.symm).elim) id, .inr⟩
      simp only [e']
theorem wipe_set {σ : L2.St} {i : Nat} {x : Option V} {vs : List Nat} (h : i ∈ vs) : wipe (σ.set i x) vs = wipe σ vs := by
  apply List.ext_getElem?
  intro j
  rw [wipe_get, wipe_get]
  by_cases hj : j ∈ vs
  · rw [if_pos hj, if_pos hj]
    by_cases e : i = j
    · subst e
      by_cases hl : i < σ.length
      · rw [List.getElem?_set_self hl, List.getElem?_eq_getElem hl]; rfl
      · rw [List.getElem?_eq_none (by simpa using hl), List.getElem?_eq_none (by omega)]
    · rw [List.getElem?_set_ne e]
  · rw [if_neg hj, if_neg hj, List.getElem?_set_ne (fun e => hj (by rw [← e]; exact h))]
theorem wipe_wipe {σ : L2.St} {vs : List Nat} : wipe (wipe σ vs) vs = wipe σ vs := by
  apply List.ext_getElem?
  intro j
  rw [wipe_get, wipe_get]
  by_cases hj : j ∈ vs
  · rw [if_pos hj, if_pos hj]
    cases σ[j]? <;> rfl
  · rw [if_neg hj, if_neg hj]
structure LG (X : Cx) (scope : Scope) (vs : List Nat) (tg : Expr) (g : GM) : Prop where
  ex : ∃ t : TG, (∀ (s : Shared) (H : Hp) (C : Addr) (cl : List (Str × Addr)) (fp : List Addr), PG (X.blk s H scope (compEnvC scope cl C X.env) fp) tg t) ∧ (∀ v σ H Q, TGof X.K g v σ H Q → t v σ H Q) ∧ ∀ v σ H Q Q', (∀ σ' H', wipe σ' vs = wipe σ vs → Q σ' H' → Q' σ' H') → t v σ H Q → t v σ H Q'
structure LGs (X : Cx) (scope : Scope) (vs : List Nat) (tg : List Expr) (g : GMs) : Prop where
  ex : ∃ t : TGs, (∀ (s : Shared) (H : Hp) (C : Addr) (cl : List (Str × Addr)) (fp : List Addr), PGs (X.blk s H scope (compEnvC scope cl C X.env) fp) tg t) ∧ (∀ v σ H Q, TGsof X.K g v σ H Q → t v σ H Q) ∧ ∀ v σ H Q Q', (∀ σ' H', wipe σ' vs = wipe σ vs → Q σ' H' → Q' σ' H') → t v σ H Q → t v σ H Q'
theorem lg_name {scope : Scope} {vs : List Nat} {i : Nat} {x : Str} (hN : X.N.Nodup) (hi : X.N[i]? = some x := by rfl) (hx : ∀ (C : Addr) (cl : List (Str × Addr)), Loc (compEnvC scope cl C X.env).scope x := by intros; first | exact Or.inl rfl | exact Or.inr rfl) (hf : ∀ (C : Addr) (cl : List (Str × Addr)), (scope.names.lookup x == some .cell) = true ∨ (compEnvC scope cl C X.env).scope.names.lookup x = some .local := by intros; first | exact .inl rfl | exact .inr rfl) (hv : i ∈ vs := by decide) : LG X scope vs (.Name x pos) (gN i) :=
  ⟨gName i, fun s H C cl fp => pg_name (X := X.blk s H scope (compEnvC scope cl C X.env) fp) hN hi (hx C cl) (hf C cl), fun v σ H Q ⟨μ, s, hd, d, sr, hr, rv, f⟩ => FinG.ok (R := RS X.K) f hr (sr.set i rv), fun v σ H Q Q' i q => i _ _ (wipe_set hv) q⟩
theorem lgs_nil {scope : Scope} {vs : List Nat} : LGs X scope vs [] gsN := ⟨gNil, fun s H C cl fp => pgs_nil, fun v σ H Q ⟨μ, s, hd, d, sr, hr, rv, f⟩ => by
  cases rv with
  | nil => exact ⟨rfl, FinG.ok (R := RS X.K) f hr sr⟩
  | cons _ _ => exact f.elim, fun v σ H Q Q' i q => ⟨q.1, i _ _ rfl q.2⟩⟩
theorem lgs_cons {scope : Scope} {vs : List Nat} {es : List Expr} (h1 : LG X scope vs e g) (h2 : LGs X scope vs es gs)
    (hs : ∀ (C : Addr) (cl : List (Str × Addr)), (assignEach (e :: es) (compEnvC scope cl C X.env)).map (·.2) = assign e (compEnvC scope cl C X.env) :: (assignEach es (compEnvC scope cl C X.env)).map (·.2) := by intros; rfl) : LGs X scope vs (e :: es) (gsC g gs) := by
  obtain ⟨t, p1, p2, p3⟩ := h1.ex
  obtain ⟨u, q1, q2, q3⟩ := h2.ex
  refine ⟨gCons t u, fun s H C cl fp => pgs_cons (p1 s H C cl fp) (q1 s H C cl fp) (hs C cl), fun v σ H Q ⟨μ, s, hd, d, sr, hr, rv, f⟩ => ?_, fun v σ H Q Q' i q => ?_⟩
  · cases rv with
    | nil => exact f.elim
    | cons r1 r2 =>
      refine ⟨_, _, rfl, p2 _ _ _ _ ⟨μ, s, hd, _, sr, hr, r1, (FinG.bind f).imp ?_⟩⟩
      rintro σ1 H1 ⟨μ1, hd1, s1, e1, hr1, sr1, f1⟩
      refine q2 _ _ _ _ ⟨μ1, s1, hd1, _, sr1, hr1, r2.ext e1, ?_⟩
      cases q : gs _ s1 hd1 with
      | ok d h => rw [q] at f1; exact f1
      | exc x h => rw [q] at f1; exact fun μ' H' o e hr rv => f1 μ' H' o e hr rv
      | bad => rw [q] at f1; exact f1
  · obtain ⟨x, r, ev, q⟩ := q
    exact ⟨x, r, ev, p3 _ _ _ _ _ (fun σ1 H1 w1 z => q3 _ _ _ _ _ (fun σ2 H2 w2 y => i σ2 H2 (w2.trans w1) y) z) q⟩
theorem lg_tup {scope : Scope} {vs : List Nat} {es : List Expr} {k n : Nat} (hc : X.calm = true) (h : LGs X scope vs es gs) (hn : ∀ (C : Addr) (cl : List (Str × Addr)), (assignEach es (compEnvC scope cl C X.env)).length = n := by intros; rfl) (hst : ∀ (C : Addr) (cl : List (Str × Addr)), (assignEach es (compEnvC scope cl C X.env)).findIdx? (·.1) = none := by intros; rfl) : LG X scope vs (.Tuple es k pos) (gT n gs) := by
  obtain ⟨u, q1, q2, q3⟩ := h.ex
  refine ⟨gTup X.K n u, fun s H C cl fp => pg_tup (X := X.blk s H scope (compEnvC scope cl C X.env) fp) hc (q1 s H C cl fp) (hn C cl) (hst C cl), fun v σ H Q ⟨μ, s, hd, d, sr, hr, rv, f⟩ => ?_, fun v σ H Q Q' i q => ?_⟩
  · cases rv with
    | tup hs ra =>
      unfold gT at f
      simp only at f
      split at f
      · rename_i hl
        exact ⟨_, _, rfl, hs, by rw [ra.length]; exact hl, q2 _ _ _ _ ⟨μ, s, hd, _, sr, hr, ra, f⟩⟩
      · exact f.elim
    | _ => exact f.elim
  · obtain ⟨a, xs, e1, e2, e3, q⟩ := q
    exact ⟨a, xs, e1, e2, e3, q3 _ _ _ _ _ i q⟩
theorem app_lift {K : PySem.W.Frag} {μ : List Addr} {H : Hp} {hd : Hd} {n : Nat} {D : Addr} {y : V} {d : DL.D} {W : XW} {σ : L2.St} {Q : Hp → Prop} (hr : HRel K μ H hd) (hn : μ[n]? = some D) (ry : Rep K μ H y d) (f : FinG (fun _ _ (_ : Unit) (_ : Unit) => True) K W μ H σ (appD n d hd) (fun _ H' => Q H')) :
    ∃ acc, H D = some (.lst acc) ∧ acc.length < sizeLine ∧ Q (upd H D (.lst (acc ++ [y]))) := by
  unfold appD at f
  split at f
  · rename_i xs e
    split at f
    · rename_i hl
      obtain ⟨vs, h1, h2⟩ := hr.obj n D _ hn e
      have ex : Ext μ H μ (upd H D (.lst (vs ++ [y]))) := Ext.write h1 trivial
      exact ⟨vs, h1, by rw [h2.length]; exact hl, f μ _ () ex (hr.write hn h1 trivial ⟨_, upd_same, (h2.ext ex).append (.one (ry.ext ex))⟩) trivial⟩
    · exact f.elim
  · exact f.elim
theorem lc_imp {K : PySem.W.Frag} {t : TG} {tm : TM} {em : EM} {vs : List Nat} (g2 : ∀ v σ H Q, TGof K g v σ H Q → t v σ H Q) (g3 : ∀ v σ H Q Q', (∀ σ' H', wipe σ' vs = wipe σ vs → Q σ' H' → Q' σ' H') → t v σ H Q → t v σ H Q') {σ : L2.St} {H : Hp} {Q : VK}
    (h : TEof K W0 (eLc im g tm em vs) σ H Q) : tLc (TIof K W0 im) t (TTof K W0 tm) (TEof K W0 em) vs σ H Q := by
  obtain ⟨μ, s, hd, sr, hr, f⟩ := h
  refine ⟨μ, s, hd, sr, hr, (FinG.bind f).imp ?_⟩
  rintro J H1 ⟨μ1, hd1, ⟨items, chk⟩, e1, hr1, rJ, f1⟩ D hD
  have exD : Ext μ1 H1 (μ1 ++ [D]) (upd H1 D (.lst [])) := Ext.laid hD
  have hnD : (μ1 ++ [D])[hd1.length]? = some D := by
    rw [← hr1.len, List.getElem?_append_right (Nat.le_refl _)]
    simp
  generalize hn : hd1.length = n at hnD
  refine ⟨fun i m H => ∃ μ hd, Ext (μ1 ++ [D]) (upd H1 D (.lst [])) μ H ∧ HRel K μ H hd ∧ i + m = items.length ∧ FinG (RD K) K W0 μ H σ ((lcD chk g tm em vs n s (items.drop i) hd).bind fun _ h2 => .ok (.ref n) h2) Q,
    ⟨items.length, μ1 ++ [D], hd1 ++ [.lst []], .refl, hr1.laid (m := .lst []) hD ⟨[], upd_same, .nil⟩, by simp, ?_⟩, ?_⟩
  · rw [← hn]
    exact FinG.base f1 exD
  rintro i m H2 ⟨μ2, hd2, e2, hr2, hm, f2⟩
  have nD : μ2[n]? = some D := e2.nums _ _ hnD
  have e12 : Ext μ1 H1 μ2 H2 := exD.trans e2
  have sr2 : SRel K μ2 H2 (wipe σ vs) (wipeD s vs) := wipe_rel (sr.ext (e1.trans e12)) vs
  by_cases hi : i < items.length
  · have ed : items.drop i = items[i] :: items.drop (i + 1) := List.drop_eq_getElem_cons hi
    rw [ed] at f2
    unfold lcD at f2
    by_cases hck : chk hd2
    · rw [if_pos hck] at f2
      obtain ⟨h1, h2⟩ := (rJ μ2 H2 hd2 e12 hr2 hck i).1 items[i] (List.getElem?_eq_getElem hi)
      refine .inr ⟨h1, fun H' => ∃ μ hd, Ext (μ1 ++ [D]) (upd H1 D (.lst [])) μ H' ∧ HRel K μ H' hd ∧ FinG (RD K) K W0 μ H' σ ((lcD chk g tm em vs n s (items.drop (i + 1)) hd).bind fun _ h2 => .ok (.ref n) h2) Q, fun H' ⟨μ, hd, a1, a2, a3⟩ => ⟨m - 1, by omega, μ, hd, a1, a2, by omega, a3⟩, fun x H3 y => ?_⟩
      obtain ⟨q1, q2, q3⟩ := h2 x H3 y
      have gq := g2 x (wipe σ vs) H3 (fun σ4 H4 => ∃ μ4 hd4 s4, Ext μ2 H3 μ4 H4 ∧ HRel K μ4 H4 hd4 ∧ SRel K μ4 H4 σ4 s4 ∧ FinG (RD K) K W0 μ4 H4 σ (((tm s4 hd4).bind fun c h2 => if c = true then (em s4 h2).bind fun d h3 => (appD n d h3).bind fun _ h4 => lcD chk g tm em vs n s (items.drop (i + 1)) h4 else lcD chk g tm em vs n s (items.drop (i + 1)) h2).bind fun _ h2 => .ok (.ref n) h2) Q)
        ⟨μ2, wipeD s vs, hd2, items[i], sr2.ext q1, q2, q3, by
          cases z : g items[i] (wipeD s vs) hd2 with
          | bad => rw [z] at f2; exact f2.elim
          | exc x h => rw [z] at f2; exact f2.elim
          | ok s1 h1 => rw [z] at f2; exact fun μ4 H4 σ4 e4 hr4 sr4 => ⟨μ4, h1, s1, e4, hr4, sr4, FinG.base f2 (q1.trans e4)⟩⟩
      refine g3 _ _ _ _ _ ?_ gq
      rintro σ4 H4 w4 ⟨μ4, hd4, s4, e4, hr4, sr4, f4⟩
      refine ⟨w4.trans wipe_wipe, μ4, s4, hd4, sr4, hr4, ?_⟩
      cases z : tm s4 hd4 with
      | bad => rw [z] at f4; exact f4.elim
      | exc x h => rw [z] at f4; exact fun μ' H' o e hr xr => f4 μ' H' o e hr xr
      | ok c h5 =>
        rw [z] at f4
        intro μ5 H5 c' e5 hr5 hcc
        rw [show c' = c from hcc]
        have e05 : Ext (μ1 ++ [D]) (upd H1 D (.lst [])) μ5 H5 := e2.trans (q1.trans (e4.trans e5))
        cases c with
        | false =>
          rw [if_neg (by decide)]
          exact ⟨μ5, h5, e05, hr5, FinG.base f4 e5⟩
        | true =>
          rw [if_pos rfl]
          have f5 : FinG (RD K) K W0 μ5 H5 σ (((em s4 h5).bind fun d h3 => (appD n d h3).bind fun _ h4 => lcD chk g tm em vs n s (items.drop (i + 1)) h4).bind fun _ h2 => .ok (.ref n) h2) Q := FinG.base f4 e5
          refine ⟨μ5, s4, h5, sr4.ext e5, hr5, ?_⟩
          cases z2 : em s4 h5 with
          | bad => rw [z2] at f5; exact f5.elim
          | exc x h => rw [z2] at f5; exact fun μ' H' o e hr xr => f5 μ' H' o e hr xr
          | ok d h6 =>
            rw [z2] at f5
            intro μ6 H6 y6 e6 hr6 r6
            refine app_lift (Q := fun H' => ∃ μ hd, Ext (μ1 ++ [D]) (upd H1 D (.lst [])) μ H' ∧ HRel K μ H' hd ∧ FinG (RD K) K W0 μ H' σ ((lcD chk g tm em vs n s (items.drop (i + 1)) hd).bind fun _ h2 => .ok (.ref n) h2) Q) (W := W0) (σ := σ) hr6 ((e05.trans e6).nums _ _ hnD) r6 ?_
            have f6 := FinG.base f5 e6
            cases z3 : appD n d h6 with
            | bad => simp only [Res.bind, z3] at f6; exact f6.elim
            | exc x h => simp only [Res.bind, z3] at f6; exact fun μ' H' o e hr xr => f6 μ' H' o e hr xr
            | ok u h7 =>
              simp only [Res.bind, z3] at f6
              exact fun μ7 H7 _ e7 hr7 _ => ⟨μ7, h7, (e05.trans e6).trans e7, hr7, FinG.base f6 e7⟩
    · rw [if_neg hck] at f2; exact f2.elim
  · have ed : items.drop i = [] := List.drop_eq_nil_of_le (by omega)
    rw [ed] at f2
    unfold lcD at f2
    by_cases hck : chk hd2
    · rw [if_pos hck] at f2
      exact .inl ⟨(rJ μ2 H2 hd2 e12 hr2 hck i).2 (Nat.le_antisymm (Nat.le_of_not_lt hi) (show i ≤ items.length by omega)), FinG.ok (R := RD K) f2 hr2 (.ref nD)⟩
    · rw [if_neg hck] at f2; exact f2.elim
theorem de_lc {iter elt : Expr} {ifs : List Expr} {scope : Scope} {own : List (Str × Nat)} {tm : TM} {em : EM} (hc : X.calm = true) (hN : X.N.Nodup) (hi : DI X W0 tg iter im) (ok : BlkOk X.N X.env.scope scope own) (hg : LG X scope (own.map (·.2)) tg g)
    (ht : ∀ (s : Shared) (H : Hp) (C : Addr) (cl : List (Str × Addr)) (fp : List Addr), PTs (X.blk s H scope (compEnvC scope cl C X.env) fp) ifs (TTof X.K W0 tm))
    (he : ∀ (s : Shared) (H : Hp) (C : Addr) (cl : List (Str × Addr)) (fp : List Addr), DE (X.blk s H scope (compEnvC scope cl C X.env) fp) W0 elt em)
    (hs : ∀ x, foldedSetIterable iter X.env x = pure x := by intro _; rfl) :
    DE X W0 (.ListComp elt [⟨tg, iter, ifs, 0⟩] scope pos) (eLc im g tm em (own.map (·.2))) := by
  obtain ⟨t, g1, g2, g3⟩ := hg.ex
  exact ⟨PE.imp (pe_lc (te := TEof X.K W0 em) hc hN hi.pi ok g1 ht (fun s H C cl fp => (he s H C cl fp).pe) hs) fun σ H Q h => lc_imp g2 g3 h⟩
theorem ds_setLc (i : Nat) {y : Str} {py : Pos} {iter elt : Expr} {ifs : List Expr} {scope : Scope} {own : List (Str × Nat)} {tm : TM} {em : EM} {spos : Pos} (hc : X.calm = true) (hN : X.N.Nodup) (hi : DI X W0 tg iter im) (ok : BlkOk X.N X.env.scope scope own) (hg : LG X scope (own.map (·.2)) tg g)
    (ht : ∀ (s : Shared) (H : Hp) (C : Addr) (cl : List (Str × Addr)) (fp : List Addr), PTs (X.blk s H scope (compEnvC scope cl C X.env) fp) ifs (TTof X.K W0 tm))
    (he : ∀ (s : Shared) (H : Hp) (C : Addr) (cl : List (Str × Addr)) (fp : List Addr), DE (X.blk s H scope (compEnvC scope cl C X.env) fp) W0 elt em)
    (hsw : swapsWith (.ListComp elt [⟨tg, iter, ifs, 0⟩] scope pos) (some (.Name y py)) spos.line X.env = pure true) (hy : X.N[i]? = some y := by rfl) (hyl : X.env.scope.names.lookup y = some .local := by rfl)
    (hs : ∀ x, foldedSetIterable iter X.env x = pure x := by intro _; rfl) :
    DS X W0 (.Assign [.Name y py] (.ListComp elt [⟨tg, iter, ifs, 0⟩] scope pos) spos) (sSet i (eLc im g tm em (own.map (·.2)))) := by
  obtain ⟨t, g1, g2, g3⟩ := hg.ex
  refine ⟨PS.imp (ps_setLc (te := TEof X.K W0 em) hc hN hy hyl hsw hi.pi ok g1 ht (fun s H C cl fp => (he s H C cl fp).pe) hs) fun D σ H ⟨μ, s, hd, sr, hr, f⟩ => lc_imp g2 g3 ?_⟩
  refine ⟨μ, s, hd, sr, hr, (FinS.bind f sr).imp ?_⟩
  rintro v H1 ⟨μ1, hd1, d, e1, hr1, rv, sr1, f1⟩
  exact FinS.nx f1 hr1 (sr1.set i rv)
theorem pts_T {X : Cx} : PTs X [] (TTof X.K W0 tT) := ⟨fun pins s σ H Q I ⟨μ, sl, hd, sr, hr, f⟩ => pts_nil.run pins s σ H Q I (FinG.ok (R := RB) f hr rfl)⟩
theorem pts_1 {X : Cx} {c : Expr} {t : TM} (h : DT X W0 c t) : PTs X [c] (TTof X.K W0 t) := pts_one h.pt
end
end DL
namespace DL
open PySem PySem.Spec PyProof.Rows L2
mutual
def D.lo (n : Nat) : D → Bool
  | .tup xs => D.loAll n xs
  | .rol xs => D.loAll n xs
  | .ref m => decide (m < n)
  | .non => true
  | .bl _ => true
  | .int _ => true
  | .str _ => true
  | .ty _ => true
  | .con _ => true
def D.loAll (n : Nat) : List D → Bool
  | [] => true
  | x :: xs => D.lo n x && D.loAll n xs
end
def KDs.lo {κ : Type} (n : Nat) : List (κ × D) → Bool
  | [] => true
  | (_, d) :: r => d.lo n && KDs.lo n r
def MO.lo (n : Nat) : MO → Bool
  | .lst xs => D.loAll n xs
  | .dK kvs => KDs.lo n kvs
  | .dF kvs => KDs.lo n kvs
  | .dT kvs => KDs.lo n kvs
  | .dG kvs => KDs.lo n kvs
def OkBelow (h h' : Hd) : Prop := ∀ (i : Nat) (o : MO), i < h.length → h'[i]? = some o → o.lo h.length = true ∨ h[i]? = some o
open Classical in
noncomputable def gc (h : Hd) (d : D) (h' : Hd) : Res D :=
  if OkBelow h h' then
    if d.lo h.length = true then .ok d (h'.take h.length) else match d with
      | .ref m => (match h'[m]? with
        | some o => if o.lo h.length = true then .ok (.ref h.length) (h'.take h.length ++ [o]) else .ok d h'
        | none => .ok d h')
      | _ => .ok d h'
  else .ok d h'
section
variable {K : PySem.W.Frag} {μ μ' : List Addr} {H H' : Hp} {hd hd' : Hd}
mutual
theorem Rep.back {n : Nat} (b : ∀ (k : Nat) (a : Addr), k < n → μ'[k]? = some a → μ[k]? = some a) {v : V} {d : D} (hb : d.lo n = true) : Rep K μ' H v d → Rep K μ H v d
  | .non => .non
  | .bl b => .bl b
  | .int i => .int i
  | .str x => .str x
  | .ty n => .ty n
  | .tup h r => .tup h (RepAll.back b (by unfold D.lo at hb; exact hb) r)
  | .rol h r => .rol h (RepAll.back b (by unfold D.lo at hb; exact hb) r)
  | .ref h => .ref (b _ _ (by unfold D.lo at hb; exact of_decide_eq_true hb) h)
  | .con a => .con a
theorem RepAll.back {n : Nat} (b : ∀ (k : Nat) (a : Addr), k < n → μ'[k]? = some a → μ[k]? = some a) {vs : List V} {ds : List D} (hb : D.loAll n ds = true) : RepAll K μ' H vs ds → RepAll K μ H vs ds
  | .nil => .nil
  | .cons r t => by
    unfold D.loAll at hb
    rw [Bool.and_eq_true] at hb
    exact .cons (Rep.back b hb.1 r) (RepAll.back b hb.2 t)
end
mutual
theorem Rep.lo {v : V} {d : D} : Rep K μ H v d → d.lo μ.length = true
  | .non => by unfold D.lo; rfl
  | .bl b => by unfold D.lo; rfl
  | .int i => by unfold D.lo; rfl
  | .str x => by unfold D.lo; rfl
  | .ty n => by unfold D.lo; rfl
  | .tup h r => by unfold D.lo; exact RepAll.lo r
  | .rol h r => by unfold D.lo; exact RepAll.lo r
  | .ref h => by unfold D.lo; exact decide_eq_true (List.getElem?_eq_some_iff.mp h).1
  | .con a => by unfold D.lo; rfl
theorem RepAll.lo {vs : List V} {ds : List D} : RepAll K μ H vs ds → D.loAll μ.length ds = true
  | .nil => by unfold D.loAll; rfl
  | .cons r t => by unfold D.loAll; rw [Rep.lo r, RepAll.lo t]; rfl
end
theorem KRep.back {κ : Type} {n : Nat} (b : ∀ (k : Nat) (a : Addr), k < n → μ'[k]? = some a → μ[k]? = some a) : ∀ {vs : List (κ × V)} {ds : List (κ × D)}, KDs.lo n ds = true → KRep K μ' H vs ds → KRep K μ H vs ds
  | _, _, _, .nil => .nil
  | _, _, hb, .cons r t => by
    unfold KDs.lo at hb
    rw [Bool.and_eq_true] at hb
    exact .cons (r.back b hb.1) (KRep.back b hb.2 t)
theorem KRep.lo {κ : Type} : ∀ {vs : List (κ × V)} {ds : List (κ × D)}, KRep K μ H vs ds → KDs.lo μ.length ds = true
  | _, _, .nil => rfl
  | _, _, .cons r t => by unfold KDs.lo; rw [r.lo, KRep.lo t]; rfl
theorem MRep.back {n : Nat} (b : ∀ (k : Nat) (a : Addr), k < n → μ'[k]? = some a → μ[k]? = some a) {a : Addr} {o : MO} (hb : o.lo n = true) (m : MRep K μ' H a o) : MRep K μ H a o := by
  cases o with
  | lst ds => obtain ⟨vs, q, r⟩ := m; exact ⟨vs, q, r.back b hb⟩
  | dK ds => obtain ⟨vs, q, r⟩ := m; exact ⟨vs, q, r.back b hb⟩
  | dF ds => obtain ⟨o, vs, q, r⟩ := m; exact ⟨o, vs, q, r.back b hb⟩
  | dT ds => obtain ⟨vs, q, r⟩ := m; exact ⟨vs, q, r.back b hb⟩
  | dG ds => obtain ⟨o, vs, q, r⟩ := m; exact ⟨o, vs, q, r.back b hb⟩
theorem MRep.lo {a : Addr} {o : MO} (m : MRep K μ H a o) : o.lo μ.length = true := by
  cases o with
  | lst ds => obtain ⟨vs, q, r⟩ := m; exact r.lo
  | dK ds => obtain ⟨vs, q, r⟩ := m; exact r.lo
  | dF ds => obtain ⟨o, vs, q, r⟩ := m; exact r.lo
  | dT ds => obtain ⟨vs, q, r⟩ := m; exact r.lo
  | dG ds => obtain ⟨o, vs, q, r⟩ := m; exact r.lo
theorem HRel.lo (r : HRel K μ H hd) {i : Nat} {o : MO} (h : hd[i]? = some o) : o.lo hd.length = true := by
  have hl : i < μ.length := by rw [r.len]; exact (List.getElem?_eq_some_iff.mp h).1
  have := (r.obj i μ[i] o (List.getElem?_eq_getElem hl) h).lo
  rw [r.len] at this
  exact this
theorem gc_back (hr : HRel K μ H hd) (hr' : HRel K μ' H' hd') (e : Ext μ H μ' H') (ok : OkBelow hd hd') : HRel K μ H' (hd'.take hd.length) ∧ Ext μ H μ H' ∧ ∀ (k : Nat) (a : Addr), k < hd.length → μ'[k]? = some a → μ[k]? = some a := by
  have b : ∀ (k : Nat) (a : Addr), k < hd.length → μ'[k]? = some a → μ[k]? = some a := fun k a hk h => by
    rw [← hr.len] at hk
    have q := e.nums k μ[k] (List.getElem?_eq_getElem hk)
    rw [h] at q
    rw [Option.some.inj q]
    exact List.getElem?_eq_getElem hk
  have hle : hd.length ≤ hd'.length := by
    rcases Nat.eq_zero_or_pos hd.length with z | z
    · omega
    · have hk : hd.length - 1 < μ.length := by rw [hr.len]; omega
      have q := e.nums _ _ (List.getElem?_eq_getElem hk)
      have q2 := (List.getElem?_eq_some_iff.mp q).1
      rw [hr'.len] at q2
      omega
  refine ⟨⟨by rw [List.length_take, hr.len]; omega, hr.nd, fun i a o h1 h2 => ?_⟩, ⟨fun _ _ h => h, e.tups, e.stay⟩, b⟩
  have hi : i < hd.length := by rw [← hr.len]; exact (List.getElem?_eq_some_iff.mp h1).1
  rw [List.getElem?_take_of_lt hi] at h2
  refine (hr'.obj i a o (e.nums i a h1) h2).back b ?_
  rcases ok i o hi h2 with z | z
  · exact z
  · exact hr.lo z
theorem gc_fin {W : XW} {σ : L2.St} {d : D} {Q : VK} (hr : HRel K μ H hd) (f : FinG (RD K) K W μ H σ (gc hd d hd') Q) : FinG (RD K) K W μ H σ (.ok d hd') Q := by
  unfold gc at f
  split at f
  · rename_i ok
    split at f
    · rename_i hb
      intro μ' H' v e hr' rv
      obtain ⟨g1, g2, g3⟩ := gc_back hr hr' e ok
      exact f μ H' v g2 g1 (rv.back g3 hb)
    · rename_i hb
      split at f
      · rename_i m
        split at f
        · rename_i o ho
          split at f
          · rename_i hob
            intro μ' H' v e hr' rv
            obtain ⟨g1, g2, g3⟩ := gc_back hr hr' e ok
            cases rv with
            | ref hm =>
              rename_i a
              have hml : hd.length ≤ m := by
                unfold D.lo at hb
                simpa using hb
              have anew : ∀ k : Nat, μ[k]? ≠ some a := fun k h => by
                have q := hr'.nd k m a (e.nums k a h) hm
                have := (List.getElem?_eq_some_iff.mp h).1
                rw [hr.len] at this
                omega
              have ex : Ext μ H (μ ++ [a]) H' := ⟨fun n c h => by rw [List.getElem?_append_left (List.getElem?_eq_some_iff.mp h).1]; exact h, g2.tups, g2.stay⟩
              have ex' : Ext μ H' (μ ++ [a]) H' := ⟨ex.nums, fun _ _ h => h, fun _ _ _ h => h⟩
              have split : ∀ (n : Nat) (c : Addr), (μ ++ [a])[n]? = some c → (μ[n]? = some c ∧ n < hd.length) ∨ (n = hd.length ∧ c = a) := fun n c h => by
                rcases Nat.lt_or_ge n μ.length with z | z
                · rw [List.getElem?_append_left z] at h
                  exact .inl ⟨h, by rw [← hr.len]; exact z⟩
                · rw [List.getElem?_append_right z] at h
                  rcases Nat.lt_or_ge (n - μ.length) 1 with y | y
                  · have e : n = μ.length := by omega
                    subst e
                    simp at h
                    exact .inr ⟨hr.len, h.symm⟩
                  · rw [List.getElem?_eq_none (by simpa using y)] at h; cases h
              have hlt : (hd'.take hd.length).length = hd.length := by rw [← g1.len, hr.len]
              refine f (μ ++ [a]) H' (.ref a) ex ⟨by simp only [List.length_append, g1.len, List.length_singleton], fun n k c h1 h2 => ?_, fun n c u h1 h2 => ?_⟩ (.ref ?_)
              · rcases split n c h1 with ⟨x, _⟩ | ⟨x, rfl⟩
                · rcases split k c h2 with ⟨y, _⟩ | ⟨y, rfl⟩
                  · exact hr.nd n k c x y
                  · exact (anew n x).elim
                · rcases split k _ h2 with ⟨y, _⟩ | ⟨y, _⟩
                  · exact (anew k y).elim
                  · rw [x, y]
              · rcases split n c h1 with ⟨x, hl⟩ | ⟨x, rfl⟩
                · rw [List.getElem?_append_left (by rw [hlt]; exact hl)] at h2
                  exact (g1.obj n c u x h2).ext ex' rfl
                · subst x
                  rw [List.getElem?_append_right (by rw [hlt]; exact Nat.le_refl _), hlt] at h2
                  simp at h2
                  subst h2
                  exact ((hr'.obj m c o hm ho).back g3 hob).ext ex' rfl
              · rw [← hr.len, List.getElem?_append_right (Nat.le_refl _)]
                simp
          · exact f
        · exact f
      · exact f
  · exact f
end
noncomputable def SR.fin (h : Hd) (r : SR) : Res D := match r with
  | .nx _ h' => gc h .non h'
  | .rt d h' => gc h d h'
  | _ => .bad
noncomputable def runB (N : Nat) (body : SM) : List D → M D := fun ds h => (body (ds.map some ++ List.replicate (N - ds.length) none) h).fin h
theorem start_rel {K : PySem.W.Frag} {μ : List Addr} {H : Hp} {N : List Str} {vs : List V} {ds : List D} (r : RepAll K μ H vs ds) : SRel K μ H (L2.start N vs) (ds.map some ++ List.replicate (N.length - ds.length) none) := by
  refine ⟨by unfold L2.start; simp [r.length], fun i d h => ?_⟩
  unfold L2.start
  rcases Nat.lt_or_ge i ds.length with z | z
  · rw [List.getElem?_append_left (by simpa using z), List.getElem?_map] at h
    cases q : ds[i]? with
    | none => rw [q] at h; cases h
    | some d' =>
      rw [q] at h
      cases h
      obtain ⟨v, h1, h2⟩ := r.get q
      exact ⟨v, by rw [List.getElem?_append_left (by simpa [r.length] using z), List.getElem?_map, h1]; rfl, h2⟩
  · rw [List.getElem?_append_right (by simpa using z), List.getElem?_replicate] at h
    split at h <;> cases h
section
variable {P : Program} {w : World} {K : PySem.W.Frag} {mg : Str → Option Value} {base : Heap}
structure Def (P : Program) (w : World) (K : PySem.W.Frag) (mg : Str → Option Value) (base : Heap) (k : Nat) (x : Str) (ps : List Str) (F : List D → M D) : Prop where
  ex : ∃ (f : Addr) (fd : FuncData), FnOk P w K mg base CX0 k f fd ps (spD K ps.length F) ∧ mg x = some (.ref f) ∧ PySem.W.keepIn K (.ref f) = true ∧ Binds K fd ps [] ∧ ∃ oc od osl, K.lookup f = some ⟨oc, od, .func fd, osl⟩
structure Top (K : PySem.W.Frag) (mg : Str → Option Value) (x : Str) (st : Stmt) (ps : List Str) : Prop where
  ex : ∃ (f : Addr) (fd : FuncData), Fun K x x st f fd ∧ mg x = some (.ref f) ∧ Binds K fd ps []
theorem def_mk {x : Str} {st : Stmt} {N ps : List Str} {k : Nat} {body : SM} (T : Top K mg x st ps) (S : FnScope N ps (defScope st))
    (hb : ∀ (f : Addr) (cdv : Value) (A : Around) (outer : List Env) (s : Shared) (H : Hp) (E : XK), Room k (A.deeper (envOfC x (defScope st) s.heap.objs.size f cdv)) → DSs (cxOf CX0 P w K mg base N x (defScope st) f cdv A outer s H E).nox W0 (defBody st) body) :
    Def P w K mg base (k + 1) x ps (runB N.length body) := by
  obtain ⟨f, fd, F, hm, hb'⟩ := T.ex
  refine ⟨f, fd, F.ok S (fun vs H Q E ⟨μ, hd, ds, _, r, hl, _⟩ => by rw [r.length, hl]) (fun cdv A outer s H vs Q E hr h => ⟨_, (hb f cdv A outer s H E hr).ps, ?_⟩), hm, F.kp, hb', let ⟨oc, od, _, _, _, _, _, _, osl, _, lk, _⟩ := F.ex; ⟨oc, od, osl, lk⟩⟩
  obtain ⟨μ, hd, ds, hr, r, hl, q⟩ := h
  refine ⟨μ, _, hd, start_rel r, hr, ?_⟩
  unfold runB SR.fin at q
  cases z : body (ds.map some ++ List.replicate (N.length - ds.length) none) hd with
  | bad => rw [z] at q; exact q.elim
  | exc x s h => rw [z] at q; exact q.elim
  | nx s h => rw [z] at q; exact fun μ' H' σ' e hr' sr' => gc_fin hr q μ' H' .non e hr' .non
  | rt d h => rw [z] at q; exact fun μ' H' v e hr' rv => gc_fin hr q μ' H' v e hr' rv
variable {X : Cx} {x : Str} {ps : List Str} {k : Nat} {F : List D → M D} {e : Expr} {es : List Expr} {p pos : Pos} {mr : AM}
theorem de_def (G : Def X.prog X.w X.K X.mg X.base k x ps F) (hr : Room k X.A) (ha : DA X W0 (e :: es) mr)
    (hg : Gl X x := by rfl) (hdb : (x == ("__debug__" : Str)) = false := by decide) (he : starEach (e :: es) X.env = (false, eval e X.env) :: starEach es X.env := by rfl) (hpl : (backTo pos (starEach es X.env)).any (·.1) = false := by rfl) : DE X W0 (.Call (.Name x p) (e :: es) [] pos) (eA (eF ps.length F) mr) := by
  obtain ⟨f, fd, g, hm, hk, hb, _⟩ := G.ex
  exact de_call g hr hm hk hb ha hg hdb he hpl
end
end DL
namespace DL
open PySem PySem.Spec PyProof.Rows L2
def lstOf (h : Hd) : D → Option (List D)
  | .rol xs => some xs
  | .ref n => (match h[n]? with
    | some (.lst xs) => some xs
    | _ => none)
  | _ => none
section
variable {K : PySem.W.Frag} {μ : List Addr} {H : Hp} {hd : Hd}
theorem lstOf_rep {x : V} {d : D} {ds : List D} (hr : HRel K μ H hd) (r : Rep K μ H x d) (e : lstOf hd d = some ds) : ∃ a vs, x = .ref a ∧ SqL K H a vs ∧ RepAll K μ H vs ds := by
  cases r with
  | rol hs ra => cases e; exact ⟨_, _, rfl, hs.seq, ra⟩
  | ref hn =>
    unfold lstOf at e
    simp only at e
    split at e
    · rename_i xs q
      cases e
      obtain ⟨vs, h1, h2⟩ := hr.obj _ _ _ hn q
      exact ⟨_, vs, rfl, .of h1, h2⟩
    · cases e
  | _ => cases e
def dAdd (x y : D) : M D := fun h => match x, y with
  | .int i, .int j => .ok (.int (i + j)) h
  | .int i, .bl b => .ok (.int (i + b2i b)) h
  | .str i, .str j => if i.length + j.length ≤ sizeLine then .ok (.str (i ++ j)) h else .bad
  | .tup xs, .tup ys => if xs.length + ys.length ≤ sizeLine then .ok (.tup (xs ++ ys)) h else .bad
  | .ref n, .ref m => (match h[n]?, h[m]? with
    | some (.lst xs), some (.lst ys) => if xs.length + ys.length ≤ sizeLine then .ok (.ref h.length) (h ++ [.lst (xs ++ ys)]) else .bad
    | _, _ => .bad)
  | _, _ => .bad
theorem fin_lst {W : XW} {σ : L2.St} {Q : VK} {vs : List V} {ds : List D} (hr : HRel K μ H hd) (r : RepAll K μ H vs ds) (f : FinG (RD K) K W μ H σ (.ok (.ref hd.length) (hd ++ [.lst ds])) Q) {p : Addr} (hp : H p = none) : Q (.ref p) (upd H p (.lst vs)) := by
  refine f (μ ++ [p]) _ _ (Ext.laid hp) (hr.laid hp ⟨vs, upd_same, r.ext (Ext.laid hp)⟩) (.ref ?_)
  rw [← hr.len, List.getElem?_append_right (Nat.le_refl _)]
  simp
theorem fin_tup {W : XW} {σ : L2.St} {Q : VK} {vs : List V} {ds : List D} (hr : HRel K μ H hd) (r : RepAll K μ H vs ds) (f : FinG (RD K) K W μ H σ (.ok (.tup ds) hd) Q) {p : Addr} (hp : H p = none) : Q (.ref p) (upd H p (.tup vs)) :=
  f μ _ _ (Ext.new hp) (hr.new hp) (.tup (.inl (.inl upd_same)) (r.ext (Ext.new hp)))
theorem fin_tupA {W : XW} {σ : L2.St} {Q : VK} {vs : List V} {ds : List D} {a : Addr} (hr : HRel K μ H hd) (hs : SqT K H a vs) (r : RepAll K μ H vs ds) (f : FinG (RD K) K W μ H σ (.ok (.tup ds) hd) Q) : Q (.ref a) H := FinG.ok (R := RD K) f hr (.tup hs r)
theorem nil_of {vs : List V} {ds : List D} (r : RepAll K μ H vs ds) : vs = [] ↔ ds = [] := by
  cases r with
  | nil => simp
  | cons _ _ => simp
def rAddD (K : PySem.W.Frag) : R2 := fun x y H Q => (rI0 (fun i j => .int (i + j)) x y H Q) ∨ (∃ i k, x = .int i ∧ y = .bl k ∧ Q (.int (i + b2i k)) H) ∨ (∃ i j, x = .str i ∧ y = .str j ∧ i.length + j.length ≤ sizeLine ∧ Q (.str (i ++ j)) H) ∨ rCatA K x y H Q ∨ rCat x y H Q
theorem op_addD {X : Cx} : OpR X (binaryOp .Add) (rAddD X.K) := OpR.or op_add (OpR.or op_add_ib (OpR.or op_add_str (OpR.or op_catA op_cat)))
theorem lift_add : Lift2 K (rAddD K) dAdd := fun μ H hd x y dx dy W σ Q hr rx ry f => by
  cases rx with
  | int i =>
    cases ry with
    | int j => exact .inl ⟨_, _, rfl, rfl, FinG.ok (R := RD K) f hr (.int _)⟩
    | bl b => exact .inr (.inl ⟨_, _, rfl, rfl, FinG.ok (R := RD K) f hr (.int _)⟩)
    | _ => exact f.elim
  | str i =>
    cases ry with
    | str j =>
      unfold dAdd at f
      simp only at f
      split at f
      · rename_i hl
        exact .inr (.inr (.inl ⟨_, _, rfl, rfl, hl, FinG.ok (R := RD K) f hr (.str _)⟩))
      · exact f.elim
    | _ => exact f.elim
  | tup hs ra =>
    cases ry with
    | tup hs' ra' =>
      unfold dAdd at f
      simp only at f
      split at f
      · rename_i hl
        refine .inr (.inr (.inr (.inl ⟨_, _, _, _, rfl, rfl, hs, hs', by rw [ra.length, ra'.length]; exact hl, fun e => ?_, fun _ e => ?_, fun _ _ p hp => fin_tup hr (ra.append ra') f hp⟩)))
        · rw [(nil_of ra).mp e] at f
          exact fin_tupA hr hs' ra' f
        · rw [(nil_of ra').mp e, List.append_nil] at f
          exact fin_tupA hr hs ra f
      · exact f.elim
    | _ => exact f.elim
  | ref hn =>
    cases ry with
    | ref hm =>
      unfold dAdd at f
      simp only at f
      split at f
      · rename_i xs ys q1 q2
        obtain ⟨vs, h1, r1⟩ := hr.obj _ _ _ hn q1
        obtain ⟨ws, h2, r2⟩ := hr.obj _ _ _ hm q2
        split at f
        · rename_i hl
          exact .inr (.inr (.inr (.inr ⟨_, _, _, _, rfl, rfl, h1, h2, by rw [r1.length, r2.length]; exact hl, fun p hp => fin_lst hr (r1.append r2) f hp⟩)))
        · exact f.elim
      · exact f.elim
    | _ => exact f.elim
  | _ => exact f.elim
theorem de_add {X : Cx} {W : XW} {a b : Expr} {ma mb : EM} {pos : Pos} (ha : DE X W a ma) (hb : DE X W b mb) : DE X W (.BinOp a .Add b pos) (e2 dAdd ma mb) := de_op op_addD lift_add ha hb
def dII (C : Int → Int → Prop) [∀ i j, Decidable (C i j)] (g : Int → Int → D) (x y : D) : M D := fun h => match x, y with
  | .int i, .int j => if C i j then .ok (g i j) h else .bad
  | _, _ => .bad
theorem lift_II {C C' : Int → Int → Prop} [∀ i j, Decidable (C i j)] {g : Int → Int → D} {g' : Int → Int → V} (hc : ∀ i j, C i j → C' i j) (hg : ∀ K μ H i j, Rep K μ H (g' i j) (g i j)) : Lift2 K (rI C' g') (dII C g) := fun μ H hd x y dx dy W σ Q hr rx ry f => by
  cases rx with
  | int i =>
    cases ry with
    | int j =>
      unfold dII at f
      simp only at f
      split at f
      · rename_i h
        exact ⟨_, _, rfl, rfl, hc _ _ h, FinG.ok (R := RD K) f hr (hg _ _ _ _ _)⟩
      · exact f.elim
    | _ => exact f.elim
  | _ => exact f.elim
def dI0 (g : Int → Int → D) (x y : D) : M D := fun h => match x, y with
  | .int i, .int j => .ok (g i j) h
  | _, _ => .bad
theorem lift_I0 {g : Int → Int → D} {g' : Int → Int → V} (hg : ∀ K μ H i j, Rep K μ H (g' i j) (g i j)) : Lift2 K (rI0 g') (dI0 g) := fun μ H hd x y dx dy W σ Q hr rx ry f => by
  cases rx with
  | int i =>
    cases ry with
    | int j => exact ⟨_, _, rfl, rfl, FinG.ok (R := RD K) f hr (hg _ _ _ _ _)⟩
    | _ => exact f.elim
  | _ => exact f.elim
def MulOk (i j : Int) : Prop := i.natAbs.log2 + j.natAbs.log2 < 100000000
def DivOk (_ j : Int) : Prop := 0 < j ∧ j.natAbs.log2 < 9000
def PowOk (i j : Int) : Prop := 0 ≤ j ∧ j ≤ 1000000 ∧ i.natAbs < 2 ^ 64
theorem MulOk.x {i j : Int} (h : MulOk i j) : CMulX i j := by
  unfold MulOk at h
  have b : ∀ z : Int, Builtin.Int.intBits z ≤ z.natAbs.log2 + 1 := by
    intro z
    unfold Builtin.Int.intBits
    split
    · omega
    · omega
  have := b i
  have := b j
  unfold CMulX
  omega
instance (i j : Int) : Decidable (MulOk i j) := by unfold MulOk; infer_instance
instance (i j : Int) : Decidable (DivOk i j) := by unfold DivOk; infer_instance
instance (i j : Int) : Decidable (PowOk i j) := by unfold PowOk; infer_instance
def dSub : D → D → M D := dI0 fun i j => .int (i - j)
def dMul (x y : D) : M D := fun h => match x, y with
  | .int i, .int j => if MulOk i j then .ok (.int (i * j)) h else .bad
  | .ref n, .int k => (match h[n]? with
    | some (.lst xs) => if -(2 ^ 63) ≤ k ∧ k < 2 ^ 63 ∧ xs.length * k.toNat ≤ sizeLine then .ok (.ref h.length) (h ++ [.lst (List.replicate k.toNat xs).flatten]) else .bad
    | _ => .bad)
  | _, _ => .bad
theorem RepAll.rep {vs : List V} {ds : List D} (r : RepAll K μ H vs ds) : ∀ n : Nat, RepAll K μ H (List.replicate n vs).flatten (List.replicate n ds).flatten
  | 0 => .nil
  | n + 1 => by
    rw [List.replicate_succ, List.replicate_succ, List.flatten_cons, List.flatten_cons]
    exact r.append (r.rep n)
theorem lift_mul : Lift2 K (fun x y H Q => rI CMulX (fun i j => .int (i * j)) x y H Q ∨ rRep x y H Q) dMul := fun μ H hd x y dx dy W σ Q hr rx ry f => by
  unfold dMul at f
  split at f
  · split at f
    · rename_i hc
      cases rx
      cases ry
      exact .inl ⟨_, _, rfl, rfl, MulOk.x hc, FinG.ok (R := RD K) f hr (.int _)⟩
    · exact f.elim
  · split at f
    · rename_i xs q
      split at f
      · rename_i hc
        cases rx with
        | ref hn =>
          cases ry
          obtain ⟨vs, h1, ra⟩ := hr.obj _ _ _ hn q
          exact .inr ⟨_, _, vs, rfl, rfl, h1, hc.1, hc.2.1, by rw [ra.length]; exact hc.2.2, fun p hp => fin_lst hr (ra.rep _) f hp⟩
      · exact f.elim
    · exact f.elim
  · exact f.elim
def dDiv : D → D → M D := dII DivOk fun i j => .int (i / j)
def dMod : D → D → M D := dII (fun _ j => 0 < j) fun i j => .int (i % j)
def dPow : D → D → M D := dII PowOk fun i j => .int (i ^ j.toNat)
section
variable {X : Cx} {W : XW} {a b : Expr} {ma mb : EM} {pos : Pos}
theorem de_sub (ha : DE X W a ma) (hb : DE X W b mb) : DE X W (.BinOp a .Sub b pos) (e2 dSub ma mb) := de_op op_sub (lift_I0 fun _ _ _ _ _ => .int _) ha hb
theorem de_mul (ha : DE X W a ma) (hb : DE X W b mb) : DE X W (.BinOp a .Mult b pos) (e2 dMul ma mb) := de_op (OpR.or op_mulX op_rep) lift_mul ha hb
theorem de_div (ha : DE X W a ma) (hb : DE X W b mb) : DE X W (.BinOp a .FloorDiv b pos) (e2 dDiv ma mb) := de_op op_fdivW (lift_II (fun _ _ h => h) fun _ _ _ _ _ => .int _) ha hb
theorem de_mod (ha : DE X W a ma) (hb : DE X W b mb) : DE X W (.BinOp a .Mod b pos) (e2 dMod ma mb) := de_op op_mod (lift_II (fun _ _ h => h) fun _ _ _ _ _ => .int _) ha hb
theorem de_pow (ha : DE X W a ma) (hb : DE X W b mb) : DE X W (.BinOp a .Pow b pos) (e2 dPow ma mb) := de_op op_pow (lift_II (fun _ _ h => h) fun _ _ _ _ _ => .int _) ha hb
end
def dNeg (x : D) : M D := fun h => match x with
  | .int i => .ok (.int (-i)) h
  | _ => .bad
theorem de_neg {X : Cx} {W : XW} {a : Expr} {ma : EM} {pos : Pos} (ha : DE X W a ma) : DE X W (.UnaryOp .USub a pos) (e1 dNeg ma) := de_un un_neg (fun μ H hd x dx W σ Q hr rx f => by
  cases rx with
  | int i => exact ⟨_, rfl, FinG.ok (R := RD X.K) f hr (.int _)⟩
  | _ => exact f.elim) ha
def dOrd (p : Int → Int → Bool) (q : Str → Str → Bool) (x y : D) : M D := fun h => match x, y with
  | .int i, .int j => .ok (.bl (p i j)) h
  | .str i, .str j => .ok (.bl (q i j)) h
  | _, _ => .bad
def rOrd (p : Int → Int → Bool) (q : Str → Str → Bool) : R2 := fun x y H Q => rI0 (fun i j => .bl (p i j)) x y H Q ∨ ∃ i j, x = .str i ∧ y = .str j ∧ Q (.bl (q i j)) H
theorem lift_ord {p : Int → Int → Bool} {q : Str → Str → Bool} : Lift2 K (rOrd p q) (dOrd p q) := fun μ H hd x y dx dy W σ Q hr rx ry f => by
  cases rx with
  | int i =>
    cases ry with
    | int j => exact .inl ⟨_, _, rfl, rfl, FinG.ok (R := RD K) f hr (.bl _)⟩
    | _ => exact f.elim
  | str i =>
    cases ry with
    | str j => exact .inr ⟨_, _, rfl, rfl, FinG.ok (R := RD K) f hr (.bl _)⟩
    | _ => exact f.elim
  | _ => exact f.elim
def strLt (i j : Str) : Bool := decide (i.cps.toList < j.cps.toList)
def dLt : D → D → M D := dOrd (fun i j => decide (i < j)) strLt
def dGt : D → D → M D := dOrd (fun i j => decide (j < i)) fun i j => strLt j i
def dLe : D → D → M D := dOrd (fun i j => decide (i ≤ j)) fun i j => !strLt j i
def dGe : D → D → M D := dOrd (fun i j => decide (j ≤ i)) fun i j => !strLt i j
theorem op_ltD {X : Cx} : OpR X (compareOp .Lt) (rOrd (fun i j => decide (i < j)) strLt) := OpR.or op_lt op_lt_str
theorem op_gtD {X : Cx} : OpR X (compareOp .Gt) (rOrd (fun i j => decide (j < i)) fun i j => strLt j i) := OpR.or op_gt op_gt_str
theorem op_leD {X : Cx} : OpR X (compareOp .LtE) (rOrd (fun i j => decide (i ≤ j)) fun i j => !strLt j i) := OpR.or op_le op_le_str
theorem op_geD {X : Cx} : OpR X (compareOp .GtE) (rOrd (fun i j => decide (j ≤ i)) fun i j => !strLt i j) := OpR.or op_ge op_ge_str
mutual
def D.py : D → Option PyData
  | .non => some .none
  | .bl b => some (.bool b)
  | .int i => some (.int i)
  | .str x => some (.str x)
  | .tup xs => (D.pyAll xs).map .tuple
  | .rol xs => (D.pyAll xs).map .list
  | .ty _ => none
  | .ref _ => none
  | .con _ => none
def D.pyAll : List D → Option (List PyData)
  | [] => some []
  | x :: xs => match D.py x, D.pyAll xs with
    | some a, some b => some (a :: b)
    | _, _ => none
end
def pyH (h : Hd) (d : D) : Option PyData := match d with
  | .ref n => (match h[n]? with
    | some (.lst xs) => (D.pyAll xs).map .list
    | _ => none)
  | d => d.py
mutual
theorem py_rep {v : V} {d : D} {p : PyData} (e : D.py d = some p) : Rep K μ H v d → Dp K H v p
  | .non => by unfold D.py at e; cases e; exact .non
  | .bl b => by unfold D.py at e; cases e; exact .bl b
  | .int i => by unfold D.py at e; cases e; exact .int i
  | .str x => by unfold D.py at e; cases e; exact .str x
  | .ty n => by unfold D.py at e; cases e
  | .tup h r => by
    unfold D.py at e
    obtain ⟨ps, e1, e2⟩ := Option.map_eq_some_iff.mp e
    cases e2
    exact .tup h (pyAll_rep e1 r)
  | .rol h r => by
    unfold D.py at e
    obtain ⟨ps, e1, e2⟩ := Option.map_eq_some_iff.mp e
    cases e2
    exact .lst h.seq (pyAll_rep e1 r)
  | .ref h => by unfold D.py at e; cases e
  | .con a => by unfold D.py at e; cases e
theorem pyAll_rep {vs : List V} {ds : List D} {ps : List PyData} (e : D.pyAll ds = some ps) : RepAll K μ H vs ds → DpAll K H vs ps
  | .nil => by unfold D.pyAll at e; cases e; exact .nil
  | .cons r t => by
    unfold D.pyAll at e
    split at e
    · rename_i a b e1 e2
      cases e
      exact .cons (py_rep e1 r) (pyAll_rep e2 t)
    · cases e
end
theorem pyH_rep {v : V} {d : D} {p : PyData} (hr : HRel K μ H hd) (e : pyH hd d = some p) (r : Rep K μ H v d) : Dp K H v p := by
  unfold pyH at e
  split at e
  · split at e
    · rename_i xs q
      obtain ⟨ps, e1, e2⟩ := Option.map_eq_some_iff.mp e
      cases e2
      cases r with
      | ref hn =>
        obtain ⟨vs, h1, h2⟩ := hr.obj _ _ _ hn q
        exact .lst (.of h1) (pyAll_rep e1 h2)
    · cases e
  · exact py_rep e r
def dEqn (neg : Bool) (x y : D) : M D := fun h => match pyH h x, pyH h y with
  | some p, some q => if SeqAt.shaped p = true ∧ SeqAt.shaped q = true then .ok (.bl (neg ^^ PyData.eqv p q)) h else .bad
  | _, _ => .bad
def dEq : D → D → M D := dEqn false
def dNe : D → D → M D := dEqn true
theorem lift_eq {neg : Bool} : Lift2 K (fun x y H Q => ∃ d e, Dp K H x d ∧ Dp K H y e ∧ SeqAt.shaped d = true ∧ SeqAt.shaped e = true ∧ Q (.bl (neg ^^ PyData.eqv d e)) H) (dEqn neg) := fun μ H hd x y dx dy W σ Q hr rx ry f => by
  unfold dEqn at f
  split at f
  · rename_i p q e1 e2
    split at f
    · rename_i hs
      exact ⟨p, q, pyH_rep hr e1 rx, pyH_rep hr e2 ry, hs.1, hs.2, FinG.ok (R := RD K) f hr (.bl _)⟩
    · exact f.elim
  · exact f.elim
theorem op_eqD' {X : Cx} (hu : X.A.units + 64 < cLine) : OpR X (compareOp .Eq) (fun x y H Q => ∃ d e, Dp X.K H x d ∧ Dp X.K H y e ∧ SeqAt.shaped d = true ∧ SeqAt.shaped e = true ∧ Q (.bl (false ^^ PyData.eqv d e)) H) := by
  have e : (fun (x y : V) (H : Hp) (Q : VK) => ∃ d e, Dp X.K H x d ∧ Dp X.K H y e ∧ SeqAt.shaped d = true ∧ SeqAt.shaped e = true ∧ Q (.bl (false ^^ PyData.eqv d e)) H) = rEqD X.K := by
    funext x y H Q
    unfold rEqD
    simp only [Bool.false_xor]
  rw [e]
  exact op_eqD hu
theorem op_neD' {X : Cx} (hu : X.A.units + 64 < cLine) : OpR X (compareOp .NotEq) (fun x y H Q => ∃ d e, Dp X.K H x d ∧ Dp X.K H y e ∧ SeqAt.shaped d = true ∧ SeqAt.shaped e = true ∧ Q (.bl (true ^^ PyData.eqv d e)) H) := by
  have e : (fun (x y : V) (H : Hp) (Q : VK) => ∃ d e, Dp X.K H x d ∧ Dp X.K H y e ∧ SeqAt.shaped d = true ∧ SeqAt.shaped e = true ∧ Q (.bl (true ^^ PyData.eqv d e)) H) = rNeD X.K := by
    funext x y H Q
    unfold rNeD
    simp only [Bool.true_xor]
  rw [e]
  exact op_neD hu
def isD (neg : Bool) (x y : D) : M D := fun h => match y with
  | .non => .ok (.bl (neg ^^ (match x with | .non => true | _ => false))) h
  | .bl b => .ok (.bl (neg ^^ (match x with | .bl c => decide (c = b) | _ => false))) h
  | _ => .bad
def rIsD (neg : Bool) : R2 := fun x y H Q => (y = .non ∧ Q (.bl (neg ^^ decide (x = .non))) H) ∨ ∃ b, y = .bl b ∧ Q (.bl (neg ^^ decide (x = .bl b))) H
theorem is_v_bool {M : Model} {A : Around} {E : Value → Shared → Prop} {s : Shared} {Q : Value → Shared → Prop} {x : V} {v : Value} {b : Bool} (r : RelV x v) (h : Q (.bool (v == .bool b)) s) : wpAny M A (compareOp .Is v (.bool b)) Q E s := by
  cases x with
  | int _ => obtain ⟨t, rfl⟩ := r; exact wpAny_pure h
  | str _ => obtain ⟨t, rfl⟩ := r; exact wpAny_pure h
  | byt _ => obtain ⟨t, rfl⟩ := r; exact wpAny_pure h
  | flt _ => obtain ⟨t, rfl⟩ := r; exact wpAny_pure h
  | _ => cases r; exact wpAny_pure h
theorem isnot_v_bool {M : Model} {A : Around} {E : Value → Shared → Prop} {s : Shared} {Q : Value → Shared → Prop} {x : V} {v : Value} {b : Bool} (r : RelV x v) (h : Q (.bool (!(v == .bool b))) s) : wpAny M A (compareOp .IsNot v (.bool b)) Q E s := by
  cases x with
  | int _ => obtain ⟨t, rfl⟩ := r; exact wpAny_pure h
  | str _ => obtain ⟨t, rfl⟩ := r; exact wpAny_pure h
  | byt _ => obtain ⟨t, rfl⟩ := r; exact wpAny_pure h
  | flt _ => obtain ⟨t, rfl⟩ := r; exact wpAny_pure h
  | _ => cases r; exact wpAny_pure h
theorem rel_bool {x : V} {v : Value} {b : Bool} (r : RelV x v) : (v == Value.bool b) = decide (x = .bl b) := by
  cases x with
  | bl c => cases r; cases b <;> cases c <;> rfl
  | non => cases r; rfl
  | int _ => obtain ⟨t, rfl⟩ := r; rfl
  | str _ => obtain ⟨t, rfl⟩ := r; rfl
  | byt _ => obtain ⟨t, rfl⟩ := r; rfl
  | flt _ => obtain ⟨t, rfl⟩ := r; rfl
  | ref _ => cases r; rfl
  | ty _ => cases r; rfl
theorem op_isD {X : Cx} : OpR X (compareOp .Is) (rIsD false) := by
  intro pins s σ H x y v u Q I rx ry h
  rcases h with ⟨rfl, q⟩ | ⟨b, rfl, q⟩
  · cases ry
    exact is_none_gen ⟨.bl _, H, I, by rw [rx.none_iff]; rfl, by simpa using q⟩
  · cases ry
    exact is_v_bool rx ⟨.bl _, H, I, by rw [rel_bool rx]; rfl, by simpa using q⟩
theorem op_notD {X : Cx} : OpR X (compareOp .IsNot) (rIsD true) := by
  intro pins s σ H x y v u Q I rx ry h
  rcases h with ⟨rfl, q⟩ | ⟨b, rfl, q⟩
  · cases ry
    exact isnot_none_gen ⟨.bl _, H, I, by rw [rx.none_iff]; rfl, by simpa using q⟩
  · cases ry
    exact isnot_v_bool rx ⟨.bl _, H, I, by rw [rel_bool rx]; rfl, by simpa using q⟩
theorem lift_is {neg : Bool} : Lift2 K (rIsD neg) (isD neg) := fun μ H hd x y dx dy W σ Q hr rx ry f => by
  cases ry with
  | non =>
    refine .inl ⟨rfl, ?_⟩
    cases rx <;> exact FinG.ok (R := RD K) f hr (.bl _)
  | bl b =>
    refine .inr ⟨b, rfl, ?_⟩
    cases rx with
    | bl c =>
      have e : decide (V.bl c = V.bl b) = decide (c = b) := by cases b <;> cases c <;> rfl
      rw [e]
      exact FinG.ok (R := RD K) f hr (.bl _)
    | _ => exact FinG.ok (R := RD K) f hr (.bl _)
  | _ => exact f.elim
def dIx (x y : D) : M D := fun h => match y with
  | .int i => (match x with
    | .tup xs => (match atI xs i with
      | some d => .ok d h
      | none => .bad)
    | .str z => if z.length ≤ sizeLine then (match atI z.cps.toList i with
      | some c => .ok (.str ⟨#[c]⟩) h
      | none => .bad) else .bad
    | d => (match lstOf h d with
      | some xs => (match atI xs i with
        | some d => .ok d h
        | none => .bad)
      | none => .bad))
  | _ => .bad
theorem at_rep {vs : List V} {ds : List D} {i : Int} {d : D} (r : RepAll K μ H vs ds) (e : atI ds i = some d) : ∃ v, atI vs i = some v ∧ Rep K μ H v d := by
  unfold atI at e ⊢
  rw [r.length]
  cases q : ixN ds.length i with
  | none => rw [q] at e; cases e
  | some j =>
    rw [q] at e
    exact r.get e
theorem lift_ix : Lift2 K (rIx K) dIx := fun μ H hd x y dx dy W σ Q hr rx ry f => by
  cases ry with
  | int i =>
    unfold dIx at f
    simp only at f
    split at f
    · split at f
      · rename_i q
        cases rx with
        | tup hs ra =>
          obtain ⟨v, h1, h2⟩ := at_rep ra q
          exact .inr (.inl ⟨_, _, _, v, rfl, rfl, hs, h1, FinG.ok (R := RD K) f hr h2⟩)
      · exact f.elim
    · split at f
      · rename_i hl
        split at f
        · rename_i c q
          cases rx with
          | str z => exact .inr (.inr ⟨_, _, c, rfl, rfl, hl, q, FinG.ok (R := RD K) f hr (.str _)⟩)
        · exact f.elim
      · exact f.elim
    · split at f
      · rename_i ds q
        split at f
        · rename_i d q2
          obtain ⟨a, vs, rfl, h1, ra⟩ := lstOf_rep hr rx q
          obtain ⟨v, h2, h3⟩ := at_rep ra q2
          exact .inl ⟨_, _, _, v, rfl, rfl, h1, h2, FinG.ok (R := RD K) f hr h3⟩
        · exact f.elim
      · exact f.elim
  | _ => exact f.elim
theorem de_ixD {X : Cx} {W : XW} {a b : Expr} {ma mb : EM} {pos : Pos} (ha : DE X W a ma) (hb : DE X W b mb) (hs : PlainIx b := by exact fun _ _ => rfl) : DE X W (.Subscript a b pos) (e2 dIx ma mb) := de_ix ix_seq lift_ix ha hb hs
def dSetL (x y z : D) : Hd → Res Unit := fun h => match x, y with
  | .ref n, .int i => (match h[n]? with
    | some (.lst xs) => (match ixN xs.length i with
      | some j => .ok () (h.set n (.lst (xs.set j z)))
      | none => .bad)
    | _ => .bad)
  | _, _ => .bad
theorem lift_setL : LiftSet K rSetL dSetL := fun μ H hd x y z dx dy dz W σ Q hr rx ry rz f => by
  cases rx with
  | ref hn =>
    cases ry with
    | int i =>
      unfold dSetL at f
      simp only at f
      split at f
      · rename_i xs q
        split at f
        · rename_i j q2
          obtain ⟨vs, h1, ra⟩ := hr.obj _ _ _ hn q
          have ex : Ext μ H μ (upd H _ (.lst (vs.set j z))) := Ext.write h1 trivial
          refine ⟨_, vs, i, j, rfl, rfl, h1, by rw [ra.length]; exact q2, f μ _ () ex (hr.write hn h1 trivial ⟨_, upd_same, (ra.ext ex).set (rz.ext ex) j⟩) trivial⟩
        · exact f.elim
      · exact f.elim
    | _ => exact f.elim
  | _ => exact f.elim
end
end DL
namespace DL
open PySem PySem.Spec PyProof.Rows L2
section
variable {K : PySem.W.Frag} {μ : List Addr} {H : Hp} {hd : Hd}
def ty0 (h : Hd) : D → Option String
  | .non => some "NoneType"
  | .bl _ => some "bool"
  | .int _ => some "int"
  | .str _ => some "str"
  | .tup _ => some "tuple"
  | .rol _ => some "list"
  | .ref n => (match h[n]? with
    | some (.lst _) => some "list"
    | some (.dK _) => some "dict"
    | some (.dF _) => some "dict"
    | some (.dT _) => some "dict"
    | some (.dG _) => none
    | none => none)
  | _ => none
theorem ty0_rep {x : V} {d : D} {t : String} (hr : HRel K μ H hd) (r : Rep K μ H x d) (e : ty0 hd d = some t) : TyX K H x (.type t) := by
  cases r with
  | non => cases e; exact .base .non
  | bl b => cases e; exact .base (.bl b)
  | int i => cases e; exact .base (.int i)
  | str i => cases e; exact .base (.str i)
  | ty i => cases e
  | con i => cases e
  | tup h _ =>
    cases e
    rcases h with (h | ⟨o, h⟩) | ⟨o, its, n, h, c, _⟩
    · exact .base (.tup h)
    · exact .fTuple h
    · exact .kTuple h c
  | rol h _ =>
    cases e
    rcases h with ⟨o, h⟩ | ⟨o, its, n, h, c, _⟩
    · exact .base (.frz h)
    · exact .kList h c
  | ref hn =>
    unfold ty0 at e
    simp only at e
    split at e
    · rename_i xs q
      cases e
      obtain ⟨vs, h1, _⟩ := hr.obj _ _ _ hn q
      exact .base (.lst h1)
    · rename_i xs q
      cases e
      obtain ⟨vs, h1, _⟩ := hr.obj _ _ _ hn q
      exact .base (.dK h1)
    · rename_i xs q
      cases e
      obtain ⟨o, vs, h1, _⟩ := hr.obj _ _ _ hn q
      exact .fDict h1
    · rename_i xs q
      cases e
      obtain ⟨vs, h1, _⟩ := hr.obj _ _ _ hn q
      exact .base (.dT h1)
    · cases e
    · cases e
def bIsi (ds : List D) : M D := fun h => match ds with
  | [x, .ty c] => (match ty0 h x with
    | some t => (match kitB t c with
      | some b => .ok (.bl b) h
      | none => .bad)
    | none => .bad)
  | _ => .bad
theorem lift_isi : LiftN K (rIsi K) bIsi := fun μ H hd xs dx W σ Q hr rx f => by
  unfold bIsi at f
  split at f
  · rename_i x c
    split at f
    · rename_i t et
      split at f
      · rename_i b eb
        cases rx with
        | cons r1 rr =>
          cases rr with
          | cons r2 rr2 =>
            cases rr2
            cases r2 with
            | ty c => exact ⟨_, _, .type t, .type c, b, rfl, .ty c, ty0_rep hr r1 et, kit_ty eb, FinG.ok (R := RD K) f hr (.bl b)⟩
      · exact f.elim
    · exact f.elim
  · exact f.elim
theorem de_tyname {X : Cx} {W : XW} {x : Str} {n : String} {pos : Pos} (hm : X.mg x = none) (hg : Gl X x := by rfl) (hv : bootBuiltins x = some (.type n) := by decide +kernel) (hn : x ≠ "__name__" := by decide) (hd : (x == ("__debug__" : Str)) = false := by decide) : DE X W (.Name x pos) (eC (.ty n)) :=
  de_c (pe_bltn (v := .ty n) hg hm hv rfl hn hd) fun _ _ => .ty n
def len0 (h : Hd) : D → Option Nat
  | .str z => if z.length ≤ sizeLine then some z.length else none
  | .tup xs => some xs.length
  | .rol xs => some xs.length
  | .ref n => (match h[n]? with
    | some (.lst xs) => some xs.length
    | some (.dK xs) => some xs.length
    | _ => none)
  | _ => none
def bLen (ds : List D) : M D := fun h => match ds with
  | [x] => (match len0 h x with
    | some n => .ok (.int n) h
    | none => .bad)
  | _ => .bad
def rLenA (K : PySem.W.Frag) : List V → Hp → VK → Prop := fun xs H Q => (∃ x n, xs = [x] ∧ LenV K x H n ∧ Q (.int n) H) ∨ ∃ a kvs, xs = [V.ref a] ∧ H a = some (.dK kvs) ∧ Q (.int kvs.length) H
theorem KRep.length : ∀ {vs : List (Key × V)} {ds : List (Key × D)}, KRep K μ H vs ds → vs.length = ds.length
  | _, _, .nil => rfl
  | _, _, .cons _ t => by rw [List.length_cons, List.length_cons, KRep.length t]
theorem lift_len : LiftN K (rLenA K) bLen := fun μ H hd xs dx W σ Q hr rx f => by
  unfold bLen at f
  split at f
  · rename_i x
    split at f
    · rename_i n en
      cases rx with
      | cons r1 rr =>
        cases rr
        have q := FinG.ok (R := RD K) f hr (.int n)
        cases r1 with
        | str z =>
          unfold len0 at en
          simp only at en
          split at en
          · rename_i hl
            cases en
            exact .inl ⟨_, _, rfl, ⟨hl, rfl⟩, q⟩
          · cases en
        | tup hs ra => cases en; exact .inl ⟨_, _, rfl, .inr ⟨_, hs, ra.length.symm⟩, q⟩
        | rol hs ra => cases en; exact .inl ⟨_, _, rfl, .inl ⟨_, hs.seq, ra.length.symm⟩, q⟩
        | ref hn =>
          unfold len0 at en
          simp only at en
          split at en
          · rename_i xs e
            cases en
            obtain ⟨vs, h1, ra⟩ := hr.obj _ _ _ hn e
            exact .inl ⟨_, _, rfl, .inl ⟨_, .of h1, ra.length.symm⟩, q⟩
          · rename_i xs e
            cases en
            obtain ⟨vs, h1, ra⟩ := hr.obj _ _ _ hn e
            exact .inr ⟨_, _, rfl, h1, by rw [ra.length]; exact q⟩
          · cases en
        | _ => cases en
    · exact f.elim
  · exact f.elim
theorem call_lenA {X : Cx} : CallR X (.builtin "len") (rLenA X.K) := CallR.or call_len fun pins s σ H xs us Q I r ⟨a, kvs, e, h, q⟩ => call_lenD pins s σ H xs us Q I r ⟨a, kvs, e, h, q⟩
def bools : List D → Option (List Bool)
  | [] => some []
  | .bl b :: r => (bools r).map (b :: ·)
  | _ :: _ => none
theorem bools_rep : ∀ {vs : List V} {ds : List D} {bs : List Bool}, RepAll K μ H vs ds → bools ds = some bs → vs = bs.map V.bl
  | _, _, _, .nil, e => by cases e; rfl
  | _, _, _, .cons r t, e => by
    cases r with
    | bl b =>
      unfold bools at e
      obtain ⟨cs, e1, e2⟩ := Option.map_eq_some_iff.mp e
      subst e2
      rw [bools_rep t e1]
      rfl
    | _ => cases e
def bAll (ds : List D) : M D := fun h => match ds with
  | [x] => (match (lstOf h x).bind bools with
    | some bs => .ok (.bl (bs.all id)) h
    | none => .bad)
  | _ => .bad
def bAny (ds : List D) : M D := fun h => match ds with
  | [x] => (match (lstOf h x).bind bools with
    | some bs => .ok (.bl (bs.any id)) h
    | none => .bad)
  | _ => .bad
theorem bools_of {x : V} {d : D} {bs : List Bool} (hr : HRel K μ H hd) (r : Rep K μ H x d) (e : (lstOf hd d).bind bools = some bs) : ∃ a, x = .ref a ∧ SqL K H a (bs.map V.bl) := by
  obtain ⟨ds, e1, e2⟩ := Option.bind_eq_some_iff.mp e
  obtain ⟨a, vs, rfl, h, ra⟩ := lstOf_rep hr r e1
  rw [bools_rep ra e2] at h
  exact ⟨a, rfl, h⟩
theorem lift_all : LiftN K (rAll K) bAll := fun μ H hd xs dx W σ Q hr rx f => by
  unfold bAll at f
  split at f
  · split at f
    · rename_i bs e
      cases rx with
      | cons r1 rr =>
        cases rr
        obtain ⟨a, rfl, h⟩ := bools_of hr r1 e
        exact ⟨a, bs, rfl, h, FinG.ok (R := RD K) f hr (.bl _)⟩
    · exact f.elim
  · exact f.elim
theorem lift_any : LiftN K (rAny K) bAny := fun μ H hd xs dx W σ Q hr rx f => by
  unfold bAny at f
  split at f
  · split at f
    · rename_i bs e
      cases rx with
      | cons r1 rr =>
        cases rr
        obtain ⟨a, rfl, h⟩ := bools_of hr r1 e
        exact ⟨a, bs, rfl, h, FinG.ok (R := RD K) f hr (.bl _)⟩
    · exact f.elim
  · exact f.elim
def bII (g : Int → Int → Int) (ds : List D) : M D := fun h => match ds with
  | [.int i, .int j] => .ok (.int (g i j)) h
  | _ => .bad
theorem lift_bII {g : Int → Int → Int} : LiftN K (fun xs H Q => ∃ i j, xs = [.int i, .int j] ∧ Q (.int (g i j)) H) (bII g) := fun μ H hd xs dx W σ Q hr rx f => by
  unfold bII at f
  split at f
  · cases rx with
    | cons r1 rr =>
      cases rr with
      | cons r2 rr2 =>
        cases rr2
        cases r1
        cases r2
        exact ⟨_, _, rfl, FinG.ok (R := RD K) f hr (.int _)⟩
  · exact f.elim
def bMax2 : List D → M D := bII fun i j => if j > i then j else i
def bMin2 : List D → M D := bII fun i j => if j < i then j else i
def bInt (ds : List D) : M D := fun h => match ds with
  | [.int i] => .ok (.int i) h
  | [.bl b] => .ok (.int (if b then 1 else 0)) h
  | _ => .bad
theorem lift_int : LiftN K (fun xs H Q => (∃ i, xs = [.int i] ∧ Q (.int i) H) ∨ ∃ k, xs = [.bl k] ∧ Q (.int (if k then 1 else 0)) H) bInt := fun μ H hd xs dx W σ Q hr rx f => by
  unfold bInt at f
  split at f
  · cases rx with
    | cons r1 rr => cases rr; cases r1; exact .inl ⟨_, rfl, FinG.ok (R := RD K) f hr (.int _)⟩
  · cases rx with
    | cons r1 rr => cases rr; cases r1; exact .inr ⟨_, rfl, FinG.ok (R := RD K) f hr (.int _)⟩
  · exact f.elim
def bStr (ds : List D) : M D := fun h => match ds with
  | [.int i] => if i.natAbs.log2 < 1920 then .ok (.str (toString i)) h else .bad
  | _ => .bad
theorem lift_str : LiftN K (fun xs H Q => ∃ i, xs = [.int i] ∧ i.natAbs.log2 < 1920 ∧ Q (.str (toString i)) H) bStr := fun μ H hd xs dx W σ Q hr rx f => by
  unfold bStr at f
  split at f
  · cases rx with
    | cons r1 rr =>
      cases rr
      cases r1
      split at f
      · rename_i hl
        exact ⟨_, rfl, hl, FinG.ok (R := RD K) f hr (.str _)⟩
      · exact f.elim
  · exact f.elim
def bDivmod (ds : List D) : M D := fun h => match ds with
  | [.int i, .int j] => if DivOk i j then .ok (.tup [.int (i / j), .int (i % j)]) h else .bad
  | _ => .bad
theorem lift_divmod : LiftN K (fun xs H Q => ∃ i j, xs = [.int i, .int j] ∧ CDivP i j ∧ ∀ p, H p = none → Q (.ref p) (upd H p (.tup [.int (i / j), .int (i % j)]))) bDivmod := fun μ H hd xs dx W σ Q hr rx f => by
  unfold bDivmod at f
  split at f
  · cases rx with
    | cons r1 rr =>
      cases rr with
      | cons r2 rr2 =>
        cases rr2
        cases r1
        cases r2
        split at f
        · rename_i i j hc
          exact ⟨_, _, rfl, ⟨hc.1, PyProof.noPylong_of_log2 hc.2⟩, fun p hp => fin_tup hr (.cons (.int _) (.cons (.int _) .nil)) f hp⟩
        · exact f.elim
  · exact f.elim
def bTuple (ds : List D) : M D := fun h => match ds with
  | [.tup xs] => .ok (.tup xs) h
  | [x] => (match lstOf h x with
    | some xs => .ok (.tup xs) h
    | none => .bad)
  | _ => .bad
theorem lift_tuple : LiftN K (fun xs H Q => ∃ p ys, xs = [.ref p] ∧ ((SqL K H p ys ∧ ∀ l, H l = none → Q (.ref l) (upd H l (.tup ys))) ∨ (SqT K H p ys ∧ Q (.ref p) H))) bTuple := fun μ H hd xs dx W σ Q hr rx f => by
  unfold bTuple at f
  split at f
  · cases rx with
    | cons r1 rr =>
      cases rr
      cases r1 with
      | tup hs ra => exact ⟨_, _, rfl, .inr ⟨hs, fin_tupA hr hs ra f⟩⟩
  · split at f
    · rename_i ds e
      cases rx with
      | cons r1 rr =>
        cases rr
        obtain ⟨a, vs, rfl, h1, ra⟩ := lstOf_rep hr r1 e
        exact ⟨a, vs, rfl, .inl ⟨h1, fun l hl => fin_tup hr ra f hl⟩⟩
    · exact f.elim
  · exact f.elim
def bList (ds : List D) : M D := fun h => match ds with
  | [.tup xs] => .ok (.ref h.length) (h ++ [.lst xs])
  | [x] => (match lstOf h x with
    | some xs => .ok (.ref h.length) (h ++ [.lst xs])
    | none => .bad)
  | _ => .bad
theorem lift_list : LiftN K (fun xs H Q => ∃ p ys, xs = [.ref p] ∧ (SqL K H p ys ∨ SqT K H p ys) ∧ ∀ l, H l = none → Q (.ref l) (upd H l (.lst ys))) bList := fun μ H hd xs dx W σ Q hr rx f => by
  unfold bList at f
  split at f
  · cases rx with
    | cons r1 rr =>
      cases rr
      cases r1 with
      | tup hs ra => exact ⟨_, _, rfl, .inr hs, fun l hl => fin_lst hr ra f hl⟩
  · split at f
    · rename_i ds e
      cases rx with
      | cons r1 rr =>
        cases rr
        obtain ⟨a, vs, rfl, h1, ra⟩ := lstOf_rep hr r1 e
        exact ⟨a, vs, rfl, .inl h1, fun l hl => fin_lst hr ra f hl⟩
    · exact f.elim
  · exact f.elim
abbrev OM := Sl → M (Option Int)
def oN : OM := fun _ h => .ok none h
def oS (e : EM) : OM := fun s h => (e s h).bind fun d h1 => match d with
  | .int i => .ok (some i) h1
  | _ => .bad
structure DO (X : Cx) (W : XW) (e : Option Expr) (m : OM) : Prop where
  po : PO X e (TG' (fun _ _ (v d : Option Int) => v = d) X.K W m)
def cutD (ds : List D) (lo hi : Option Int) : List D := (ds.drop (HT.sIx ds.length 0 lo)).take (HT.sIx ds.length ds.length hi - HT.sIx ds.length 0 lo)
theorem cut_rep {vs : List V} {ds : List D} {lo hi : Option Int} (r : RepAll K μ H vs ds) : RepAll K μ H (cutV vs lo hi) (cutD ds lo hi) := by
  unfold cutV cutD
  rw [r.length]
  exact (r.drop _).take _
def dSl (x : D) (lo hi : Option Int) : M D := fun h => match x with
  | .tup xs => .ok (.tup (cutD xs lo hi)) h
  | .str z => if z.length ≤ sizeLine then .ok (.str (cutS z lo hi)) h else .bad
  | d => (match lstOf h d with
    | some xs => .ok (.ref h.length) (h ++ [.lst (cutD xs lo hi)])
    | none => .bad)
def eSl (e : EM) (lo hi : OM) : EM := fun s h => (e s h).bind fun x h1 => (lo s h1).bind fun l h2 => (hi s h2).bind fun u h3 => dSl x l u h3
def rSlD (K : PySem.W.Frag) : V → Option Int → Option Int → Hp → VK → Prop := fun x lo hi H Q => rSlA K x lo hi H Q ∨ rSlL K x lo hi H Q ∨ rSlS x lo hi H Q
end
section
variable {X : Cx} {W : XW} {e : Expr} {m : EM} {lo hi : Option Expr} {ml mh : OM} {pos p2 : Pos}
theorem do_none : DO X W none oN := ⟨⟨fun pins s σ H Q I ⟨μ, sl, hd, sr, hr, f⟩ => po_none.run pins s σ H Q I (FinG.ok (R := fun _ _ (v d : Option Int) => v = d) f hr rfl)⟩⟩
theorem do_some (h : DE X W e m) : DO X W (some e) (oS m) := ⟨⟨fun pins s σ H Q I ⟨μ, sl, hd, sr, hr, f⟩ => (po_some h.pe).run pins s σ H Q I (by
  refine ⟨μ, sl, hd, sr, hr, (FinG.bind f).imp ?_⟩
  rintro x H1 ⟨μ1, hd1, dx, e1, hr1, rx, f1⟩
  cases rx with
  | int i => exact ⟨i, rfl, FinG.ok (R := fun _ _ (v d : Option Int) => v = d) f1 hr1 rfl⟩
  | _ => exact f1.elim)⟩⟩
theorem sl_D : SlR X (rSlD X.K) := SlR.or sl_tupA (SlR.or sl_list sl_str)
theorem de_sl (h : DE X W e m) (hl : DO X W lo ml) (hh : DO X W hi mh) : DE X W (.Subscript e (.Slice lo hi none p2) pos) (eSl m ml mh) := ⟨PE.imp (pe_slice sl_D h.pe hl.po hh.po) fun σ H Q ⟨μ, s, hd, sr, hr, f⟩ => by
  refine ⟨μ, s, hd, sr, hr, (FinG.bind f).imp ?_⟩
  rintro x H1 ⟨μ1, hd1, dx, e1, hr1, rx, f1⟩
  refine ⟨μ1, s, hd1, sr.ext e1, hr1, (FinG.bind f1).imp ?_⟩
  rintro l H2 ⟨μ2, hd2, _, e2, hr2, rfl, f2⟩
  refine ⟨μ2, s, hd2, sr.ext (e1.trans e2), hr2, (FinG.bind f2).imp ?_⟩
  rintro u H3 ⟨μ3, hd3, _, e3, hr3, rfl, f3⟩
  have rx3 := rx.ext (e2.trans e3)
  unfold dSl at f3
  split at f3
  · rename_i ys
    cases rx3 with
    | tup hs ra =>
      refine .inl ⟨_, _, rfl, hs, fun hw => ?_, fun _ p hp => fin_tup hr3 (cut_rep ra) f3 hp⟩
      have ec : cutD ys l u = ys := by
        unfold cutD
        rw [← ra.length, hw.1, hw.2]
        simp [ra.length]
      rw [ec] at f3
      exact fin_tupA hr3 hs ra f3
  · split at f3
    · rename_i hl
      cases rx3 with
      | str z => exact .inr (.inr ⟨_, rfl, hl, FinG.ok (R := RD X.K) f3 hr3 (.str _)⟩)
    · exact f3.elim
  · split at f3
    · rename_i ds ee
      obtain ⟨a, vs, rfl, h1, ra⟩ := lstOf_rep hr3 rx3 ee
      exact .inr (.inl ⟨a, vs, rfl, h1, fun p hp => fin_lst hr3 (cut_rep ra) f3 hp⟩)
    · exact f3.elim⟩
end
end DL
namespace DL
open PySem PySem.Spec PyProof.Rows L2
def iSeq (d : D) : M ItD := fun h => match d with
  | .tup xs => .ok (xs, fun _ => True) h
  | .rol xs => .ok (xs, fun _ => True) h
  | .ref n => (match h[n]? with
    | some (.lst xs) => .ok (xs, fun h' => h'[n]? = some (.lst xs)) h
    | _ => .bad)
  | .str z => .ok (z.cps.toList.map (fun c => .str ⟨#[c]⟩), fun _ => True) h
  | _ => .bad
def i1 (m : EM) (g : D → M ItD) : IM := fun s h => (m s h).bind g
def iA (m : AM) (g : List D → M ItD) : IM := fun s h => (m s h).bind g
section
variable {K : PySem.W.Frag} {μ μ' : List Addr} {H H' : Hp} {hd : Hd}
theorem it_tup {a : Addr} {vs : List V} {ds : List D} {chk : Hd → Prop} (hs : SqT K H a vs) (ra : RepAll K μ H vs ds) : RIt K μ H (Itt K a) (ds, chk) := fun μ' H' hd' e hr _ i => by
  have hs' := e.sqt hs
  refine ⟨fun d hd => ?_, fun h => ⟨vs, hs', by rw [ra.length]; exact Nat.le_of_eq h⟩⟩
  obtain ⟨v, h1, h2⟩ := ra.get hd
  refine ⟨⟨vs, v, hs', h1⟩, fun x H'' ⟨e1, y⟩ => ?_⟩
  subst e1
  have ev := y vs hs'
  rw [h1] at ev
  cases ev
  exact ⟨.refl, hr, h2.ext e⟩
theorem it_rol {a : Addr} {vs : List V} {ds : List D} {chk : Hd → Prop} (hs : Frz K H a vs) (ra : RepAll K μ H vs ds) : RIt K μ H (Itl K a) (ds, chk) := fun μ' H' hd' e hr _ i => by
  have hs' := (e.frz hs).seq
  refine ⟨fun d hd => ?_, fun h => ⟨vs, hs', by rw [ra.length]; exact Nat.le_of_eq h⟩⟩
  obtain ⟨v, h1, h2⟩ := ra.get hd
  refine ⟨⟨vs, v, hs', h1⟩, fun x H'' ⟨e1, y⟩ => ?_⟩
  subst e1
  have ev := y vs hs'
  rw [h1] at ev
  cases ev
  exact ⟨.refl, hr, h2.ext e⟩
theorem it_lst {n : Nat} {a : Addr} {ds : List D} {chk : Hd → Prop} (hn : μ[n]? = some a) (hc : ∀ h, chk h → h[n]? = some (.lst ds)) : RIt K μ H (Itl K a) (ds, chk) := fun μ' H' hd' e hr ck i => by
  obtain ⟨vs, h0, ra⟩ := hr.obj _ _ _ (e.nums _ _ hn) (hc _ ck)
  have hs' : SqL K H' a vs := .of h0
  refine ⟨fun d hd => ?_, fun h => ⟨vs, hs', by rw [ra.length]; exact Nat.le_of_eq h⟩⟩
  obtain ⟨v, h1, h2⟩ := ra.get hd
  refine ⟨⟨vs, v, hs', h1⟩, fun x H'' ⟨e1, y⟩ => ?_⟩
  subst e1
  have ev := y vs hs'
  rw [h1] at ev
  cases ev
  exact ⟨.refl, hr, h2⟩
theorem it_str {z : Str} {chk : Hd → Prop} : RIt K μ H (Its z) (z.cps.toList.map (fun c => D.str ⟨#[c]⟩), chk) := fun μ' H' hd' e hr _ i => by
  refine ⟨fun d hd => ?_, fun h => ?_⟩
  · rw [List.getElem?_map] at hd
    cases q : z.cps.toList[i]? with
    | none => rw [q] at hd; cases hd
    | some c =>
      rw [q] at hd
      cases hd
      rw [Array.getElem?_toList] at q
      refine ⟨(Array.getElem?_eq_some_iff.mp q).1, fun x H'' ⟨e1, c', y1, y2⟩ => ?_⟩
      subst e1
      rw [q] at y1
      cases y1
      subst y2
      exact ⟨.refl, hr, .str _⟩
  · have h' : (z.cps.toList.map (fun c => D.str ⟨#[c]⟩)).length ≤ i := Nat.le_of_eq h
    rw [List.length_map] at h'
    show z.cps.size ≤ i
    simpa using h'
theorem it_rng {lo : Int} {n : Nat} {chk : Hd → Prop} : RIt K μ H (Itr lo n) ((List.range n).map (fun (i : Nat) => D.int (lo + (i : Int))), chk) := fun μ' H' hd' e hr _ i => by
  refine ⟨fun d hd => ?_, fun h => ?_⟩
  · rw [List.getElem?_map] at hd
    rcases Nat.lt_or_ge i n with z | z
    · rw [List.getElem?_range z] at hd
      cases hd
      refine ⟨z, fun x H'' ⟨e1, y⟩ => ?_⟩
      subst e1
      subst y
      exact ⟨.refl, hr, .int _⟩
    · rw [List.getElem?_eq_none (by simpa using z)] at hd; cases hd
  · have h' : ((List.range n).map (fun (i : Nat) => D.int (lo + (i : Int)))).length ≤ i := Nat.le_of_eq h
    rw [List.length_map, List.length_range] at h'
    exact h'
end
section
variable {X : Cx} {W : XW} {e e2 tg : Expr} {es : List Expr} {m : EM} {ma : AM} {p pos : Pos}
theorem di_seq (h : DE X W e m) : DI X W tg e (i1 m iSeq) := ⟨⟨fun pins s σ H R I q => by
  obtain ⟨μ, sl, hd, sr, hr, f⟩ := q
  have rest : ∀ {J : Type} {Rr : List Addr → Hp → J → D → Prop} {Q : J → Hp → Prop}, (∀ d h1, m sl hd = .ok d h1 → FinG Rr X.K W μ H σ (.ok d h1) Q) → FinG Rr X.K W μ H σ (m sl hd) Q := fun {J Rr Q} q => by
    cases z : m sl hd with
    | ok d h1 => exact q d h1 z
    | exc x h1 => unfold i1 at f; rw [z] at f; exact f
    | bad => unfold i1 at f; rw [z] at f; exact f.elim
  unfold i1 at f
  cases z : m sl hd with
  | bad => rw [z] at f; exact f.elim
  | exc x h1 => exact (pi_tup (tg := tg) h.pe).run pins s σ H R I ⟨μ, sl, hd, sr, hr, by rw [z] at f ⊢; exact f⟩
  | ok d h1 =>
    rw [z] at f
    cases d with
    | tup ds => exact (pi_tup (tg := tg) h.pe).run pins s σ H R I ⟨μ, sl, hd, sr, hr, by
        rw [z]
        intro μ' H' v e1 hr1 rv
        cases rv with
        | tup hs ra => exact ⟨_, rfl, ⟨_, hs⟩, f μ' H' _ e1 hr1 (it_tup hs ra)⟩⟩
    | rol ds => exact (pi_list (tg := tg) h.pe).run pins s σ H R I ⟨μ, sl, hd, sr, hr, by
        rw [z]
        intro μ' H' v e1 hr1 rv
        cases rv with
        | rol hs ra => exact ⟨_, rfl, ⟨_, hs.seq⟩, f μ' H' _ e1 hr1 (it_rol hs ra)⟩⟩
    | str x => exact (pi_str (tg := tg) h.pe).run pins s σ H R I ⟨μ, sl, hd, sr, hr, by
        rw [z]
        intro μ' H' v e1 hr1 rv
        cases rv with
        | str x => exact ⟨_, rfl, f μ' H' _ e1 hr1 it_str⟩⟩
    | ref n =>
      simp only [Res.bind, iSeq] at f
      split at f
      · rename_i ds q
        exact (pi_list (tg := tg) h.pe).run pins s σ H R I ⟨μ, sl, hd, sr, hr, by
          rw [z]
          intro μ' H' v e1 hr1 rv
          cases rv with
          | ref hn =>
            obtain ⟨vs, h2, _⟩ := hr1.obj _ _ _ hn q
            exact ⟨_, rfl, ⟨_, .of h2⟩, f μ' H' _ e1 hr1 (it_lst hn fun _ h => h)⟩⟩
      · exact f.elim
    | _ => exact f.elim⟩⟩
def rng (lo : Int) (n : Nat) : List D := (List.range n).map (fun (i : Nat) => D.int (lo + (i : Int)))
def Big (n : Int) : Prop := -(2 ^ 62) ≤ n ∧ n < 2 ^ 62
instance (n : Int) : Decidable (Big n) := by unfold Big; infer_instance
def iRange1 (ds : List D) : M ItD := fun h => match ds with
  | [.int n] => if Big n then .ok (rng 0 n.toNat, fun _ => True) h else .bad
  | _ => .bad
theorem di_range1 {a : Expr} (hm : X.mg "range" = none) (h : DA X W [a] ma) (hg : Gl X "range" := by rfl) (hs : starEach [a] X.env = [(false, eval a X.env)] := by rfl) : DI X W tg (.Call (.Name "range" p) [a] [] pos) (iA ma iRange1) := ⟨PI.imp (pi_range1 hg hm h.pa hs) fun σ H Q ⟨μ, s, hd, sr, hr, f⟩ => by
  refine ⟨μ, s, hd, sr, hr, (FinG.bind f).imp ?_⟩
  rintro vs H1 ⟨μ1, hd1, dx, e1, hr1, rx, f1⟩
  unfold iRange1 at f1
  split at f1
  · split at f1
    · rename_i hb
      cases rx with
      | cons r1 rr =>
        cases rr
        cases r1
        exact ⟨_, rfl, hb.1, hb.2, FinG.ok f1 hr1 it_rng⟩
    · exact f1.elim
  · exact f1.elim⟩
end
end DL
namespace DL
open PySem PySem.Spec PyProof.Rows L2
def asT (d : D) : M Bool := fun h => match d with
  | .bl b => .ok b h
  | .non => .ok false h
  | .int i => .ok (i != 0) h
  | .str z => if z.length ≤ sizeLine then .ok ((z.length : Int) != 0) h else .bad
  | .tup xs => .ok (!xs.isEmpty) h
  | d => (match lstOf h d with
    | some xs => .ok (!xs.isEmpty) h
    | none => .bad)
def tTr (a : EM) : TM := fun s h => (a s h).bind asT
theorem empty_rep {K : PySem.W.Frag} {μ : List Addr} {H : Hp} {vs : List V} {ds : List D} (r : RepAll K μ H vs ds) : vs.isEmpty = ds.isEmpty := by cases r <;> rfl
theorem dt_tr {X : Cx} {W : XW} {e : Expr} {m : EM} (h : DE X W e m) (he : ∀ whole, isTrue e X.env whole = (do let v ← whole; standAt e.pos; holding [v] (truthy v)) := by intro _; rfl) : DT X W e (tTr m) := ⟨PT.imp (pt_truth h.pe he) fun σ H Q ⟨μ, s, hd, sr, hr, f⟩ => by
  refine ⟨μ, s, hd, sr, hr, (FinG.bind f).imp ?_⟩
  rintro x H1 ⟨μ1, hd1, dx, e1, hr1, rx, f1⟩
  unfold asT at f1
  split at f1
  · cases rx; exact ⟨_, rfl, FinG.ok (R := RB) f1 hr1 rfl⟩
  · cases rx; exact ⟨_, rfl, FinG.ok (R := RB) f1 hr1 rfl⟩
  · cases rx; exact ⟨_, rfl, FinG.ok (R := RB) f1 hr1 rfl⟩
  · split at f1
    · rename_i hl
      cases rx
      exact ⟨_, ⟨hl, rfl⟩, FinG.ok (R := RB) f1 hr1 rfl⟩
    · exact f1.elim
  · cases rx with
    | tup hs ra => exact ⟨_, .inr (.inl ⟨_, hs, rfl⟩), by rw [empty_rep ra]; exact FinG.ok (R := RB) f1 hr1 rfl⟩
  · split at f1
    · rename_i ds q
      obtain ⟨a, vs, rfl, h1, ra⟩ := lstOf_rep hr1 rx q
      exact ⟨_, .inl ⟨_, h1, rfl⟩, by rw [empty_rep ra]; exact FinG.ok (R := RB) f1 hr1 rfl⟩
    · exact f1.elim⟩
theorem hu64 {k : Nat} {A : Around} (r : Room k A) : A.units + 64 < cLine := by have := r.un; omega
theorem hu65 {k : Nat} {A : Around} (r : Room k A) : A.units + 65 < cLine := by have := r.un; omega
theorem de_glob {X : Cx} {W : XW} {x : Str} {v : V} {u : Value} {d : D} {pos : Pos} (hm : X.mg x = some u) (r : RelV v u) (hr : ∀ μ H, Rep X.K μ H v d) (hg : Gl X x := by rfl) (hd : (x == ("__debug__" : Str)) = false := by decide) : DE X W (.Name x pos) (eC d) :=
  de_c (pe_glob hg hm r hd) hr
def tyM (T : String) (x : D) (h : Hd) : Bool := match x with
  | .str _ => T == "str"
  | .rol _ => T == "list"
  | .ref n => (match h[n]? with
    | some (.lst _) => T == "list"
    | some (.dK _) => T == "dict"
    | _ => false)
  | _ => false
theorem tyM_rep {K : PySem.W.Frag} {μ : List Addr} {H : Hp} {hd : Hd} {T : String} {x : V} {d : D} (hr : HRel K μ H hd) (r : Rep K μ H x d) (e : tyM T d hd = true) : tyV K T x H := by
  cases r with
  | str z => exact eq_of_beq e
  | rol h _ => exact .inl ⟨eq_of_beq e, _, h.seq⟩
  | ref hn =>
    unfold tyM at e
    simp only at e
    split at e
    · rename_i q
      obtain ⟨vs, h1, _⟩ := hr.obj _ _ _ hn q
      exact .inl ⟨eq_of_beq e, _, .of h1⟩
    · rename_i q
      obtain ⟨vs, h1, _⟩ := hr.obj _ _ _ hn q
      exact .inr (.inr (.inl ⟨eq_of_beq e, .inl ⟨_, h1⟩⟩))
    · cases e
  | _ => cases e
def eM (T : String) (g : D → List D → M D) (o : EM) (a : AM) : EM := fun s h => (o s h).bind fun x h1 => if tyM T x h1 = true then (a s h1).bind fun ds h2 => g x ds h2 else .bad
def LiftM (K : PySem.W.Frag) (r : V → List V → Hp → VK → Prop) (g : D → List D → M D) : Prop := ∀ (μ : List Addr) (H : Hp) (hd : Hd) (x : V) (dx : D) (xs : List V) (dxs : List D) (W : XW) (σ : L2.St) (Q : VK), HRel K μ H hd → Rep K μ H x dx → RepAll K μ H xs dxs → FinG (RD K) K W μ H σ (g dx dxs hd) Q → r x xs H Q
section
variable {X : Cx} {W : XW} {o e : Expr} {es : List Expr} {mo : EM} {ma : AM} {apos cpos : Pos} {T id : String} {name : Str} {r : V → List V → Hp → VK → Prop} {g : D → List D → M D}
theorem de_m (pa : PlainAttrs T) (slot : Slot T name id) (hty : typeOf (.builtin id) = pure (.type "method_descriptor")) (hm : MtR X id r) (l : LiftM X.K r g) (ho : DE X W o mo) (ha : DA X W (e :: es) ma)
    (hbase : attributeBase o name X.env (eval o X.env) = eval o X.env := by rfl)
    (hfew : ((backTo cpos (starEach (e :: es) X.env)).all (fun x => !x.1) && (backToKw cpos (keywordEach [] X.env)).all (fun x => x.1.isSome)
      && decide ((e :: es).length + ([] : List Keyword).length + (if ([] : List Keyword).isEmpty then 0 else 1) < 30)) = true := by rfl)
    (hline : (apos.endLine == cpos.line) = true := by rfl) (hs : starEach (e :: es) X.env = (false, eval e X.env) :: starEach es X.env := by rfl) (hplain : (backTo cpos (starEach es X.env)).any (·.1) = false := by rfl) :
    DE X W (.Call (.Attribute o name apos) (e :: es) [] cpos) (eM T g mo ma) := ⟨PE.imp (pe_bm pa slot hty hm ho.pe ha.pa hbase hfew hline hs hplain) fun σ H Q ⟨μ, s, hd, sr, hr, f⟩ => by
  refine ⟨μ, s, hd, sr, hr, (FinG.bind f).imp ?_⟩
  rintro x H1 ⟨μ1, hd1, dx, e1, hr1, rx, f1⟩
  split at f1
  · rename_i ht
    refine ⟨tyM_rep hr1 rx ht, μ1, s, hd1, sr.ext e1, hr1, (FinG.bind f1).imp ?_⟩
    rintro xs H2 ⟨μ2, hd2, dxs, e2, hr2, rxs, f2⟩
    exact l μ2 H2 hd2 x dx xs dxs W σ Q hr2 (rx.ext e2) rxs f2
  · exact f1.elim⟩
end
def mApp (x : D) (ds : List D) : M D := fun h => match x, ds with
  | .ref n, [d] => (match h[n]? with
    | some (.lst xs) => if xs.length < sizeLine then .ok .non (h.set n (.lst (xs ++ [d]))) else .bad
    | _ => .bad)
  | _, _ => .bad
theorem lift_app {K : PySem.W.Frag} : LiftM K (fun x vs H Q => ∃ l xs y, x = .ref l ∧ vs = [y] ∧ H l = some (.lst xs) ∧ xs.length < sizeLine ∧ Q .non (upd H l (.lst (xs ++ [y])))) mApp := fun μ H hd x dx xs dxs W σ Q hr rx rxs f => by
  cases rx with
  | ref hn =>
    cases rxs with
    | nil => exact f.elim
    | cons r1 rr =>
      rename_i y _ _ _
      cases rr with
      | nil =>
        unfold mApp at f
        simp only at f
        split at f
        · rename_i ds q
          split at f
          · rename_i hl
            obtain ⟨vs, h1, ra⟩ := hr.obj _ _ _ hn q
            have ex : Ext μ H μ (upd H _ (.lst (vs ++ [y]))) := Ext.write h1 trivial
            exact ⟨_, vs, _, rfl, rfl, h1, by rw [ra.length]; exact hl, f μ _ _ ex (hr.write hn h1 trivial ⟨_, upd_same, (ra.ext ex).append (.one (r1.ext ex))⟩) .non⟩
          · exact f.elim
        · exact f.elim
      | cons _ _ => exact f.elim
  | _ => exact f.elim
theorem de_app {X : Cx} {W : XW} {o e : Expr} {mo : EM} {ma : AM} {apos cpos : Pos} (ho : DE X W o mo) (ha : DA X W [e] ma)
    (hbase : attributeBase o "append" X.env (eval o X.env) = eval o X.env := by rfl)
    (hfew : ((backTo cpos (starEach [e] X.env)).all (fun x => !x.1) && (backToKw cpos (keywordEach [] X.env)).all (fun x => x.1.isSome)
      && decide ([e].length + ([] : List Keyword).length + (if ([] : List Keyword).isEmpty then 0 else 1) < 30)) = true := by rfl)
    (hline : (apos.endLine == cpos.line) = true := by rfl) (hs : starEach [e] X.env = (false, eval e X.env) :: starEach [] X.env := by rfl) (hplain : (backTo cpos (starEach [] X.env)).any (·.1) = false := by rfl) :
    DE X W (.Call (.Attribute o "append" apos) [e] [] cpos) (eM "list" mApp mo ma) := de_m PySem.F.plainAttrs_list PySem.F.slot_list_append PySem.F.type_list_append mt_append lift_app ho ha hbase hfew hline hs hplain
end DL
namespace DL
open PySem PySem.Spec PyProof.Rows L2
theorem ints_rep {K : PySem.W.Frag} {μ : List Addr} {H : Hp} : ∀ ns : List Int, RepAll K μ H (ns.map V.int) (ns.map D.int)
  | [] => .nil
  | n :: ns => .cons (.int n) (ints_rep ns)
theorem top_mk {K : PySem.W.Frag} {mg : Str → Option Value} {h : Heap} {x : Str} {st : Stmt} {ps : List Str} {f : Addr} {oc : Value} {od an : Option Addr} {osl : Array (Option Value)} {kV doc pm cdv ct : Value} (X : K.In h) (G : h.Ns mainGlobals mg)
    (a : PySem.W.nsIn K mainGlobals x = some (some (.ref f))) (l : K.lookup f = some ⟨oc, od, .func (PySem.W.fnOf x x (defArgs st) (defBody st) (defScope st) .none kV doc pm an cdv ct), osl⟩) (c : PySem.W.codeIn K cdv x = true) (k : PySem.W.keepIn K (.ref f) = true)
    (hb : ∀ (kV doc pm : Value) (an : Option Addr) (cdv ct : Value) (us : List Value), us.length = ps.length → bindArgs (PySem.W.fnOf x x (defArgs st) (defBody st) (defScope st) .none kV doc pm an cdv ct) ⟨us, []⟩ = pure (ps.zip us)) : Top K mg x st ps :=
  ⟨f, _, fun_mk l c k, PySem.W.mg_of X G a, (fun_mk l c k).binds hb⟩
theorem law_sp {K : PySem.W.Frag} {H : Hp} {a : Addr} {ns : List Int} {F : List D → M D} (hO : Only H) (hS : SqL K H a (ns.map V.int)) (h : ∃ h', F [.rol (ns.map D.int)] [] = .ok (.bl true) h') : spD K 1 F [.ref a] H (fun v _ => v = .bl true) fun _ _ _ => False := by
  obtain ⟨h', e⟩ := h
  have fz : Frz K H a (ns.map V.int) := by
    rcases hS with (z | ⟨o, z⟩) | z
    · rcases hO a with y | ⟨o, xs, y⟩
      · rw [z] at y; cases y
      · rw [z] at y; cases y
    · exact .inl ⟨o, z⟩
    · exact .inr z
  refine ⟨[], [], [.rol (ns.map D.int)], ⟨rfl, fun n m a h => by simp at h, fun n a o h => by simp at h⟩, .cons (.rol fz (ints_rep ns)) .nil, rfl, ?_⟩
  rw [e]
  intro μ' H' v _ _ rv
  cases rv
  rfl
end DL
namespace DL
open PySem PySem.Spec PyProof.Rows L2
section
variable {K : PySem.W.Frag} {μ : List Addr} {H : Hp} {hd : Hd}
def pyL (h : Hd) (d : D) : Option (List PyData) := (lstOf h d).bind D.pyAll
theorem pyL_rep {v : V} {d : D} {ps : List PyData} (hr : HRel K μ H hd) (e : pyL hd d = some ps) (r : Rep K μ H v d) : ∃ a, v = .ref a ∧ Dp K H v (.list ps) := by
  obtain ⟨ds, e1, e2⟩ := Option.bind_eq_some_iff.mp e
  obtain ⟨a, vs, rfl, hs, ra⟩ := lstOf_rep hr r e1
  exact ⟨a, rfl, .lst hs (pyAll_rep e2 ra)⟩
def mCount (x : D) (ds : List D) : M D := fun h => match ds with
  | [y] => (match pyL h x, pyH h y with
    | some ps, some p => if SeqAt.shaped (.list ps) = true ∧ SeqAt.shaped p = true then .ok (.int ((ps.countP fun z => PyData.eqv z p : Nat) : Int)) h else .bad
    | _, _ => .bad)
  | _ => .bad
def rInT (K : PySem.W.Frag) (neg : Bool) : R2 := fun x y H Q => ∃ d ds, Dp K H x d ∧ Dp K H y (.tuple ds) ∧ SeqAt.shaped d = true ∧ SeqAt.shaped (.tuple ds) = true ∧ Q (.bl (neg ^^ ds.any fun z => PyData.eqv z d)) H
theorem op_inT {X : Cx} (hu : X.A.units + 65 < cLine) : OpR X (compareOp .In) (rInT X.K false) := by
  intro pins s σ H x y v u Q I rx ry h
  obtain ⟨d, ds, hd, he, sd, se, q⟩ := h
  obtain ⟨as, r1⟩ := Dp.reads I d x v hd rx
  obtain ⟨bs, r2⟩ := Dp.reads I (.tuple ds) y u he ry
  exact SeqAt.in_tuple_reads r2 r1 (SeqAt.canLay_of_shaped se) (SeqAt.canLay_of_shaped sd) (room_in_shaped sd hu) ⟨.bl _, H, I, rfl, by simpa using q⟩
theorem op_notInT {X : Cx} (hu : X.A.units + 65 < cLine) : OpR X (compareOp .NotIn) (rInT X.K true) := by
  intro pins s σ H x y v u Q I rx ry h
  obtain ⟨d, ds, hd, he, sd, se, q⟩ := h
  obtain ⟨as, r1⟩ := Dp.reads I d x v hd rx
  obtain ⟨bs, r2⟩ := Dp.reads I (.tuple ds) y u he ry
  exact SeqAt.notIn_tuple_reads r2 r1 (SeqAt.canLay_of_shaped se) (SeqAt.canLay_of_shaped sd) (room_in_shaped sd hu) ⟨.bl _, H, I, rfl, by simpa using q⟩
def rInX (K : PySem.W.Frag) (neg : Bool) : R2 := fun x y H Q =>
  (∃ d ds, Dp K H x d ∧ Dp K H y (.list ds) ∧ SeqAt.shaped d = true ∧ SeqAt.shaped (.list ds) = true ∧ Q (.bl (neg ^^ ds.any fun z => PyData.eqv z d)) H) ∨ rInT K neg x y H Q ∨
  (∃ i j, x = .str i ∧ y = .str j ∧ Q (.bl (neg ^^ !(Builtin.Str.occurrences j i 0 j.length 1).isEmpty)) H)
theorem op_inX {X : Cx} (hu : X.A.units + 65 < cLine) : OpR X (compareOp .In) (rInX X.K false) :=
  OpR.or (by
    intro pins s σ H x y v u Q I rx ry ⟨d, ds, a, b, c, e, q⟩
    exact op_inD hu pins s σ H x y v u Q I rx ry ⟨d, ds, a, b, c, e, by simpa using q⟩) (OpR.or (op_inT hu) (by
    intro pins s σ H x y v u Q I rx ry ⟨i, j, a, b, q⟩
    exact op_in_str pins s σ H x y v u Q I rx ry ⟨i, j, a, b, by simpa using q⟩))
theorem op_notInX {X : Cx} (hu : X.A.units + 65 < cLine) : OpR X (compareOp .NotIn) (rInX X.K true) :=
  OpR.or (by
    intro pins s σ H x y v u Q I rx ry ⟨d, ds, a, b, c, e, q⟩
    exact op_notInD hu pins s σ H x y v u Q I rx ry ⟨d, ds, a, b, c, e, by simpa using q⟩) (OpR.or (op_notInT hu) (by
    intro pins s σ H x y v u Q I rx ry ⟨i, j, a, b, q⟩
    exact L2.op_notin_str pins s σ H x y v u Q I rx ry ⟨i, j, a, b, by simpa using q⟩))
def dIn (neg : Bool) (x y : D) : M D := fun h => match y with
  | .str j => (match x with
    | .str i => .ok (.bl (neg ^^ !(Builtin.Str.occurrences j i 0 j.length 1).isEmpty)) h
    | _ => .bad)
  | .tup ys => (match pyH h x, D.pyAll ys with
    | some p, some ps => if SeqAt.shaped p = true ∧ SeqAt.shaped (.tuple ps) = true then .ok (.bl (neg ^^ ps.any fun z => PyData.eqv z p)) h else .bad
    | _, _ => .bad)
  | y => (match pyH h x, pyL h y with
    | some p, some ps => if SeqAt.shaped p = true ∧ SeqAt.shaped (.list ps) = true then .ok (.bl (neg ^^ ps.any fun z => PyData.eqv z p)) h else .bad
    | _, _ => .bad)
theorem lift_in {neg : Bool} : Lift2 K (rInX K neg) (dIn neg) := fun μ H hd x y dx dy W σ Q hr rx ry f => by
  unfold dIn at f
  split at f
  · split at f
    · cases rx
      cases ry
      exact .inr (.inr ⟨_, _, rfl, rfl, FinG.ok (R := RD K) f hr (.bl _)⟩)
    · exact f.elim
  · split at f
    · rename_i p ps e1 e2
      split at f
      · rename_i hs
        cases ry with
        | tup hs2 ra => exact .inr (.inl ⟨p, ps, pyH_rep hr e1 rx, .tup hs2 (pyAll_rep e2 ra), hs.1, hs.2, FinG.ok (R := RD K) f hr (.bl _)⟩)
      · exact f.elim
    · exact f.elim
  · split at f
    · rename_i p ps e1 e2
      split at f
      · rename_i hs
        obtain ⟨a, rfl, hl⟩ := pyL_rep hr e2 ry
        exact .inl ⟨p, ps, pyH_rep hr e1 rx, hl, hs.1, hs.2, FinG.ok (R := RD K) f hr (.bl _)⟩
      · exact f.elim
    · exact f.elim
def mPop (x : D) (ds : List D) : M D := fun h => match x, ds with
  | .ref n, [] => (match h[n]? with
    | some (.lst xs) => (match xs[xs.length - 1]? with
      | some y => .ok y (h.set n (.lst xs.dropLast))
      | none => .bad)
    | _ => .bad)
  | _, _ => .bad
def mExt (x : D) (ds : List D) : M D := fun h => match x, ds with
  | .ref n, [.ref m] => (match h[n]?, h[m]? with
    | some (.lst xs), some (.lst ys) => if xs.length + ys.length ≤ sizeLine then .ok .non (h.set n (.lst (xs ++ ys))) else .bad
    | _, _ => .bad)
  | _, _ => .bad
theorem lift_ext : LiftM K rExtend mExt := fun μ H hd x dx xs dxs W σ Q hr rx rxs f => by
  unfold mExt at f
  split at f
  · split at f
    · rename_i as bs q q2
      split at f
      · rename_i hl
        cases rx with
        | ref hn =>
          cases rxs with
          | cons r1 rr =>
            cases rr
            cases r1 with
            | ref hm =>
              obtain ⟨vs, h1, ra⟩ := hr.obj _ _ _ hn q
              obtain ⟨ws, h2, rb⟩ := hr.obj _ _ _ hm q2
              have ex : Ext μ H μ (upd H _ (.lst (vs ++ ws))) := Ext.write h1 trivial
              exact ⟨_, _, vs, ws, rfl, rfl, h1, h2, by rw [ra.length, rb.length]; exact hl, f μ _ _ ex (hr.write hn h1 trivial ⟨_, upd_same, (ra.ext ex).append (rb.ext ex)⟩) .non⟩
      · exact f.elim
    · exact f.elim
  · exact f.elim
def mIns (x : D) (ds : List D) : M D := fun h => match x, ds with
  | .ref n, [.int i, y] => (match h[n]? with
    | some (.lst xs) => if xs.length < sizeLine ∧ 0 ≤ i ∧ i < 2 ^ 63 then .ok .non (h.set n (.lst (xs.take i.toNat ++ [y] ++ xs.drop i.toNat))) else .bad
    | _ => .bad)
  | _, _ => .bad
theorem lift_ins : LiftM K (fun x vs H Q => ∃ (l : Addr) (xs : List V) (i : Int) (y : V), x = .ref l ∧ vs = [.int i, y] ∧ H l = some (.lst xs) ∧ xs.length < sizeLine ∧ 0 ≤ i ∧ i < 2 ^ 63 ∧
    Q .non (upd H l (.lst (xs.take i.toNat ++ [y] ++ xs.drop i.toNat)))) mIns := fun μ H hd x dx xs dxs W σ Q hr rx rxs f => by
  unfold mIns at f
  split at f
  · split at f
    · rename_i as q
      split at f
      · rename_i hl
        cases rx with
        | ref hn =>
          cases rxs with
          | cons r1 rr =>
            cases rr with
            | @cons y _ _ _ r2 rr =>
              cases rr
              cases r1
              obtain ⟨vs, h1, ra⟩ := hr.obj _ _ _ hn q
              have ex : ∀ zs, Ext μ H μ (upd H _ (.lst zs)) := fun zs => Ext.write h1 trivial
              exact ⟨_, vs, _, y, rfl, rfl, h1, by rw [ra.length]; exact hl.1, hl.2.1, hl.2.2, f μ _ _ (ex _) (hr.write hn h1 trivial ⟨_, upd_same, (((ra.ext (ex _)).take _).append (.one (r2.ext (ex _)))).append ((ra.ext (ex _)).drop _)⟩) .non⟩
      · exact f.elim
    · exact f.elim
  · exact f.elim
def mPart (x : D) (ds : List D) : M D := fun h => match x, ds with
  | .str a, [.str b] => if (b.length == 0) = false ∧ a.length ≤ sizeLine then .ok (.tup [.str (Txt.partition a b).1, .str (Txt.partition a b).2.1, .str (Txt.partition a b).2.2]) h else .bad
  | _, _ => .bad
theorem lift_part : LiftM K (fun x xs H Q => ∃ a b, x = .str a ∧ xs = [.str b] ∧ (b.length == 0) = false ∧ a.length ≤ sizeLine ∧
    ∀ p, H p = none → Q (.ref p) (upd H p (.tup [.str (Txt.partition a b).1, .str (Txt.partition a b).2.1, .str (Txt.partition a b).2.2]))) mPart := fun μ H hd x dx xs dxs W σ Q hr rx rxs f => by
  unfold mPart at f
  split at f
  · split at f
    · rename_i hl
      cases rx
      cases rxs with
      | cons r1 rr =>
        cases rr
        cases r1
        exact ⟨_, _, rfl, rfl, hl.1, hl.2, fun p hp => fin_tup hr (.cons (.str _) (.cons (.str _) (.cons (.str _) .nil))) f hp⟩
    · exact f.elim
  · exact f.elim
def mSIndex (x : D) (ds : List D) : M D := fun h => match x, ds with
  | .str a, [.str b] => (match Builtin.Str.occurrences a b 0 a.length 1 with
    | i :: _ => .ok (.int (i : Nat)) h
    | [] => .bad)
  | _, _ => .bad
theorem lift_sindex : LiftM K (fun x xs H Q => ∃ a b i rest, x = .str a ∧ xs = [.str b] ∧ Builtin.Str.occurrences a b 0 a.length 1 = i :: rest ∧ Q (.int (i : Nat)) H) mSIndex := fun μ H hd x dx xs dxs W σ Q hr rx rxs f => by
  unfold mSIndex at f
  split at f
  · split at f
    · rename_i i r e
      cases rx
      cases rxs with
      | cons r1 rr =>
        cases rr
        cases r1
        exact ⟨_, _, i, r, rfl, rfl, e, FinG.ok (R := RD K) f hr (.int _)⟩
    · exact f.elim
  · exact f.elim
def mSplit (x : D) (ds : List D) : M D := fun h => match x, ds with
  | .str a, [.str b] => if (b.length == 0) = false ∧ a.length + 2 ≤ sizeLine then .ok (.ref h.length) (h ++ [.lst ((Txt.split a b).map D.str)]) else .bad
  | _, _ => .bad
theorem strs_rep : ∀ ns : List Str, RepAll K μ H (ns.map V.str) (ns.map D.str)
  | [] => .nil
  | n :: ns => .cons (.str n) (strs_rep ns)
theorem lift_split : LiftM K (fun x xs H Q => ∃ a b, x = .str a ∧ xs = [.str b] ∧ (b.length == 0) = false ∧ a.length + 2 ≤ sizeLine ∧ rNewStrs (Txt.split a b) H Q) mSplit := fun μ H hd x dx xs dxs W σ Q hr rx rxs f => by
  unfold mSplit at f
  split at f
  · split at f
    · rename_i hl
      cases rx
      cases rxs with
      | cons r1 rr =>
        cases rr
        cases r1
        exact ⟨_, _, rfl, rfl, hl.1, hl.2, fun p hp => fin_lst hr (strs_rep _) f hp⟩
    · exact f.elim
  · exact f.elim
def strsD : List D → Option (List Str)
  | [] => some []
  | .str b :: r => (strsD r).map (b :: ·)
  | _ :: _ => none
theorem strsD_rep : ∀ {vs : List V} {ds : List D} {bs : List Str}, RepAll K μ H vs ds → strsD ds = some bs → vs = bs.map V.str
  | _, _, _, .nil, e => by cases e; rfl
  | _, _, _, .cons r t, e => by
    cases r with
    | str b =>
      unfold strsD at e
      obtain ⟨cs, e1, e2⟩ := Option.map_eq_some_iff.mp e
      subst e2
      rw [strsD_rep t e1]
      rfl
    | _ => cases e
theorem strsD_map (l : List Str) : strsD (l.map D.str) = some l := by
  induction l with
  | nil => rfl
  | cons a l ih => rw [List.map_cons, strsD, ih]; rfl
def mJoin (x : D) (ds : List D) : M D := fun h => match x, ds with
  | .str a, [.tup xs] => (match strsD xs with
    | some ys => if (ys.map (·.length)).sum + ys.length * a.length ≤ 16777216 then .ok (.str (Txt.join a ys)) h else .bad
    | none => .bad)
  | .str a, [y] => (match (lstOf h y).bind strsD with
    | some ys => if (ys.map (·.length)).sum + ys.length * a.length ≤ 16777216 then .ok (.str (Txt.join a ys)) h else .bad
    | none => .bad)
  | _, _ => .bad
theorem lift_join : LiftM K (fun x xs H Q => ∃ a p, ∃ ys : List Str, x = .str a ∧ xs = [.ref p] ∧ (SqL K H p (ys.map V.str) ∨ SqT K H p (ys.map V.str)) ∧
    (ys.map (·.length)).sum + ys.length * a.length ≤ 16777216 ∧ Q (.str (Txt.join a ys)) H) mJoin := fun μ H hd x dx xs dxs W σ Q hr rx rxs f => by
  unfold mJoin at f
  split at f
  · split at f
    · rename_i ys e
      split at f
      · rename_i hl
        cases rx
        cases rxs with
        | cons r1 rr =>
          cases rr
          cases r1 with
          | tup hs ra =>
            rw [strsD_rep ra e] at hs
            exact ⟨_, _, ys, rfl, rfl, .inr hs, hl, FinG.ok (R := RD K) f hr (.str _)⟩
      · exact f.elim
    · exact f.elim
  · split at f
    · rename_i ys e
      split at f
      · rename_i hl
        cases rx
        cases rxs with
        | cons r1 rr =>
          cases rr
          obtain ⟨ds, e1, e2⟩ := Option.bind_eq_some_iff.mp e
          obtain ⟨a, vs, rfl, hs, ra⟩ := lstOf_rep hr r1 e1
          rw [strsD_rep ra e2] at hs
          exact ⟨_, a, ys, rfl, rfl, .inl hs, hl, FinG.ok (R := RD K) f hr (.str _)⟩
      · exact f.elim
    · exact f.elim
  · exact f.elim
end
def sBad : SM := fun _ _ => .bad
theorem ds_bad {X : Cx} {W : XW} {st : Stmt} : DS X W st sBad := ⟨PS.imp ps_never fun D σ H ⟨μ, s, hd, sr, hr, f⟩ => f.elim⟩
section
variable {X : Cx} {W : XW} {o e : Expr} {es : List Expr} {mo : EM} {ma : AM} {apos cpos : Pos}
end
structure CF (K : PySem.W.Frag) (mg : Str → Option Value) (x : Str) (d : D) : Prop where
  ex : ∃ (v : V) (u : Value), mg x = some u ∧ RelV v u ∧ ∀ μ H, Rep K μ H v d
theorem CF.de {X : Cx} {W : XW} {x : Str} {d : D} {pos : Pos} (c : CF X.K X.mg x d) (hg : Gl X x := by rfl) (hd : (x == ("__debug__" : Str)) = false := by decide) : DE X W (.Name x pos) (eC d) := by
  obtain ⟨v, u, h1, h2, h3⟩ := c.ex
  exact de_glob h1 h2 h3 hg hd
section
variable {K : PySem.W.Frag} {mg : Str → Option Value} {h : Heap} {x : Str}
theorem cf_str {z : Str} {t : Tok} (X : K.In h) (G : h.Ns mainGlobals mg) (a : PySem.W.nsIn K mainGlobals x = some (some (.str z t))) : CF K mg x (.str z) := ⟨.str z, _, PySem.W.mg_of X G a, ⟨t, rfl⟩, fun _ _ => .str z⟩
theorem cf_int {z : Int} {t : Tok} (X : K.In h) (G : h.Ns mainGlobals mg) (a : PySem.W.nsIn K mainGlobals x = some (some (.int z t))) : CF K mg x (.int z) := ⟨.int z, _, PySem.W.mg_of X G a, ⟨t, rfl⟩, fun _ _ => .int z⟩
end
end DL
namespace DL
open PySem PySem.Spec PyProof.Rows L2
def Sq1 (K : PySem.W.Frag) (H : Hp) : Bool → Addr → List V → Prop
  | true, a, xs => SqT K H a xs
  | false, a, xs => SqL K H a xs
def ItA (h : Heap) : Bool → Addr → Addr → Nat → Prop
  | true, it, a, i => h.IsTupleIter it a i
  | false, it, a, i => h.IsListIter it a i
def HasA (h : Heap) : Bool → Addr → Array Value → Prop
  | true, a, its => h.IsTuple a its
  | false, a, its => h.IsList a its
def itO : Bool → Addr → Obj
  | true, a => { cls := .type "tuple_iterator", data := .fields #[.ref a, .int 0 0] }
  | false, a => { cls := .type "list_iterator", data := .fields #[.ref a, .int 0 0] }
theorem begins_k (t : Bool) (a : Addr) (its : Array Value) : Begins (.ref a) (itO t a) fun h => HasA h t a its := by
  cases t
  · exact begins_list a its
  · exact begins_tuple a its
theorem draws_k {P : Program} {w : World} {A : Around} (hh : A.handled = none) (t : Bool) {it a : Addr} (ne : a ≠ it) (its : Array Value) : Draws P w A it [it, a] its.size (fun i v => its[i]? = some v) fun i h => ItA h t it a i ∧ HasA h t a its := by
  cases t
  · exact Draws.list hh it a ne its
  · exact Draws.tuple hh it a ne its
section
variable {X : Cx} {pins : List (Addr × Obj)} {σ : L2.St} {H : Hp} {s : Shared}
theorem sq_its (I : Inv X pins σ H s) {t : Bool} {a : Addr} {xs : List V} (h : Sq1 X.K H t a xs) : ∃ its : List Value, Vals xs its ∧ HasA s.heap t a its.toArray ∧ ∃ o, s.heap.get? a = some o := by
  cases t
  · obtain ⟨its, r, p, _⟩ := I.list h
    exact ⟨its, r, p.isList, let ⟨o, _, ho, _⟩ := p; ⟨o, ho⟩⟩
  · obtain ⟨its, r, p, _⟩ := I.tuple h
    exact ⟨its, r, p, let ⟨o, ho, _⟩ := p; ⟨o, ho⟩⟩
theorem sq_inj (I : Inv X pins σ H s) {t : Bool} {a : Addr} {xs ys : List V} (h : Sq1 X.K H t a xs) (h' : Sq1 X.K H t a ys) : xs = ys := by
  cases t
  · exact I.list_inj h h'
  · exact I.tuple_inj h h'
theorem ItA.at {h h' : Heap} {t : Bool} {it a : Addr} {i : Nat} (x : ItA h t it a i) (k : ∀ o, h.get? it = some o → h'.get? it = some o) : ItA h' t it a i := by
  cases t
  · exact Heap.IsListIter.at x k
  · exact Heap.IsTupleIter.at x k
theorem ItA.there {h : Heap} {t : Bool} {it a : Addr} {i : Nat} (x : ItA h t it a i) : ∃ o, h.get? it = some o ∧ ∀ v, o.data ≠ .cell v := by
  cases t
  · obtain ⟨o, e, _, d⟩ := x
    exact ⟨o, e, fun v q => by rw [d] at q; cases q⟩
  · obtain ⟨o, e, _, d⟩ := x
    exact ⟨o, e, fun v q => by rw [d] at q; cases q⟩
theorem ItA.new {h : Heap} {t : Bool} {it a : Addr} (e : h.get? it = some (itO t a)) : ItA h t it a 0 := by
  cases t
  · exact ⟨_, e, rfl, rfl⟩
  · exact ⟨_, e, rfl, rfl⟩
end
theorem sub5 {a b c d e x : Addr} (h : x ∈ [a, c, d, e]) : x ∈ [a, b, c, d, e] := by
  simp only [List.mem_cons, List.not_mem_nil, or_false] at h ⊢
  rcases h with h | h | h | h <;> simp [h]
def Iz2 (K : PySem.W.Frag) (t1 t2 : Bool) (a b : Addr) : It :=
  ⟨fun i H => ∃ (xs ys : List V) (x y : V), Sq1 K H t1 a xs ∧ Sq1 K H t2 b ys ∧ xs[i]? = some x ∧ ys[i]? = some y,
    fun i H v H' => ∃ T x y, v = .ref T ∧ H T = none ∧ H' = upd H T (.tup [x, y]) ∧ (∀ xs, Sq1 K H t1 a xs → xs[i]? = some x) ∧ ∀ ys, Sq1 K H t2 b ys → ys[i]? = some y,
    fun i H => ∃ xs ys : List V, Sq1 K H t1 a xs ∧ Sq1 K H t2 b ys ∧ (xs.length = i ∧ i ≤ ys.length ∨ ys.length = i ∧ i ≤ xs.length)⟩
theorem turn_z2 {P : Program} {w : World} {K : PySem.W.Frag} {elts : List Expr} {kk : Nat} {tpos : Pos} {t1 t2 : Bool} {a b z TI TO i1 i2 : Addr} (S : ZipSep2 z TI TO i1 i2 [i1, a] [i2, b]) (na : a ≠ i1) (nb : b ≠ i2) :
    Turn P w K (.Tuple elts kk tpos) (Iz2 K t1 t2 a b) [z, TI, TO, i1, i2] z (fun i h => IsZip h z TI TO .none ∧ IsTupOf2 h TI (.ref i1) (.ref i2) ∧ (∃ x y, IsTupOf2 h TO x y) ∧ ItA h t1 i1 a i ∧ ItA h t2 i2 b i) where
  mem := by simp
  obj := fun i h ⟨hz, hTI, ⟨x, y, hTO⟩, h1, h2⟩ c hc => by
    have e' : c = z ∨ c = TI ∨ c = TO ∨ c = i1 ∨ c = i2 := by simpa using hc
    rcases e' with rfl | rfl | rfl | rfl | rfl
    · exact ⟨_, hz, nofun⟩
    · exact ⟨_, hTI, nofun⟩
    · exact ⟨_, hTO, nofun⟩
    · exact h1.there
    · exact h2.there
  keep := fun i h h' ⟨hz, hTI, ⟨x, y, hTO⟩, h1, h2⟩ k => ⟨k z (by simp) _ hz, k TI (by simp) _ hTI, ⟨x, y, k TO (by simp) _ hTO⟩, h1.at (k i1 (by simp)), h2.at (k i2 (by simp))⟩
  item := by
    intro X hP hw hK hc i pins s σ H E I hf ⟨hz, hTI, ho, h1, h2⟩ ⟨xs, ys, x, y, hqx, hqy, hx, hy⟩
    subst hP hw hK
    obtain ⟨its, rv, p, _⟩ := sq_its I hqx
    obtain ⟨its2, rv2, p2, _⟩ := sq_its I hqy
    obtain ⟨u, hu, ru⟩ := rv.get hx
    obtain ⟨u2, hu2, ru2⟩ := rv2.get hy
    have W := WalksT.zipD2 (prog := X.prog) (w := X.w) (A := X.A) S (draws_k (A := X.A.in1) (I.ok.hd hc) t1 na its.toArray) (draws_k (A := X.A.in1) (I.ok.hd hc) t2 nb its2.toArray)
    have l1 := (List.getElem?_eq_some_iff.mp hu).1
    have l2 := (List.getElem?_eq_some_iff.mp hu2).1
    refine W.item i s _ E (by simp; omega) ⟨hz, hTI, ho, ⟨h1, p⟩, ⟨h2, p2⟩⟩ fun T vals h' tk ⟨v1, v2, pv1, pv2, ev⟩ hT hIs hMid hk => ?_
    subst ev
    have ev1 : v1 = u := by
      have q : its.toArray[i]? = some v1 := pv1
      rw [List.getElem?_toArray, hu] at q
      exact (Option.some.inj q).symm
    have ev2 : v2 = u2 := by
      have q : its2.toArray[i]? = some v2 := pv2
      rw [List.getElem?_toArray, hu2] at q
      exact (Option.some.inj q).symm
    subst ev1 ev2
    refine ⟨_, rfl, W.go elts kk tpos i T { s with heap := h', toks := tk } _ E hMid fun h'' st' hk' => ?_⟩
    have nT := W.apart i T h' hMid
    obtain ⟨oT, eT, cT, nn, dT⟩ := hIs
    have eT2 : h''.get? T = some oT := hk' T oT nT eT
    have keep : ∀ c o, c ∉ [z, TI, TO, i1, i2] → s.heap.get? c = some o → h''.get? c = some o := fun c o hc e => hk' c o (fun q => hc (sub5 q)) (hk c o (fun q => hc (sub5 q)) e)
    have I1 : Inv X pins σ (upd H T (.tup [x, y])) { s with heap := h'', toks := tk } :=
      I.turnedNew (t' := tk) (ch := [z, TI, TO, i1, i2]) keep hf hT ⟨by show 2 ≤ sizeLine; decide, [v1, v2], .cons ru (.cons ru2 .nil), ⟨oT, eT2, cT, nn, dT⟩⟩
    obtain ⟨z', TI', TO', ⟨h1', _⟩, ⟨h2', _⟩⟩ := st'
    refine ⟨.ref T, _, I1, rfl, ⟨T, x, y, rfl, I.hok.fresh hT, rfl, fun l hl => by rw [sq_inj I hl hqx]; exact hx, fun l hl => by rw [sq_inj I hl hqy]; exact hy⟩, ⟨z', TI', TO', h1', h2'⟩, fun c hcm => ?_⟩
    have ne : c ≠ T := fun e => by
      subst e
      have hlt : ∃ o, s.heap.get? c = some o := by
        have e' : c = z ∨ c = TI ∨ c = TO ∨ c = i1 ∨ c = i2 := by simpa using hcm
        obtain ⟨x0, y0, hTO⟩ := ho
        rcases e' with rfl | rfl | rfl | rfl | rfl
        · exact ⟨_, hz⟩
        · exact ⟨_, hTI⟩
        · exact ⟨_, hTO⟩
        · obtain ⟨o, e, _⟩ := h1.there; exact ⟨o, e⟩
        · obtain ⟨o, e, _⟩ := h2.there; exact ⟨o, e⟩
      obtain ⟨o, e⟩ := hlt
      exact absurd (Heap.lt_size e) (Nat.not_lt.mpr hT)
    rw [upd_ne ne]
    exact (hf c hcm).1
  done := by
    intro X hP hw hK hc i pins s σ H E I hf ⟨hz, hTI, ho, h1, h2⟩ ⟨xs, ys, hqx, hqy, he⟩
    subst hP hw hK
    obtain ⟨its, rv, p, _⟩ := sq_its I hqx
    obtain ⟨its2, rv2, p2, _⟩ := sq_its I hqy
    have W := WalksT.zipD2 (prog := X.prog) (w := X.w) (A := X.A) S (draws_k (A := X.A.in1) (I.ok.hd hc) t1 na its.toArray) (draws_k (A := X.A.in1) (I.ok.hd hc) t2 nb its2.toArray)
    have l1 := rv.length
    have l2 := rv2.length
    have e : min its.toArray.size its2.toArray.size = i := by simp; omega
    rw [e] at W
    exact W.done s _ E ⟨hz, hTI, ho, ⟨h1, p⟩, ⟨h2, p2⟩⟩ fun h' tk hk => ⟨rfl, I.turnedL (t' := tk) (ch := [z, TI, TO, i1, i2]) (fun c o hb q => hk c o (fun q' => hb (sub5 q')) q) hf⟩
  self := fun A i s Q E st h => wpAny_pyIter_zip st.1 h
def iZ2 (K : PySem.W.Frag) (ta : TA) : TI := fun σ H R => ta σ H fun vs H1 => ∃ (t1 t2 : Bool) (a b : Addr) (xs ys : List V), vs = [.ref a, .ref b] ∧ Sq1 K H1 t1 a xs ∧ Sq1 K H1 t2 b ys ∧ R (Iz2 K t1 t2 a b) H1
theorem sep2_new {n a b : Addr} (ha : a < n) (hb : b < n) : ZipSep2 (n + 4) (n + 2) (n + 3) n (n + 1) [n, a] [n + 1, b] := by
  have l : ∀ k : Nat, a ≠ n + k := fun k => Nat.ne_of_lt (Nat.lt_of_lt_of_le ha (Nat.le_add_right _ _))
  have r : ∀ k : Nat, b ≠ n + k := fun k => Nat.ne_of_lt (Nat.lt_of_lt_of_le hb (Nat.le_add_right _ _))
  have d : ∀ j k : Nat, j ≠ k → n + j ≠ n + k := fun j k h e => h (Nat.add_left_cancel e)
  have f : ∀ {x y z : Addr}, x ≠ y → x ≠ z → x ∉ [y, z] := fun h1 h2 h => by
    simp only [List.mem_cons, List.not_mem_nil, or_false] at h
    exact h.elim h1 h2
  exact ⟨d 2 4 (by decide), d 3 4 (by decide), d 2 3 (by decide), d 2 0 (by decide), by simp, f (d 4 0 (by decide)) (l 4).symm, f (d 3 0 (by decide)) (l 3).symm, d 2 1 (by decide), by simp, f (d 4 1 (by decide)) (r 4).symm, f (d 3 1 (by decide)) (r 3).symm,
    f (d 0 1 (by decide)) (r 0).symm, f (d 1 0 (by decide)) (l 1).symm⟩
theorem pi_z2 {X : Cx} {e e2 : Expr} {ta : TA} {p pos tpos : Pos} {elts : List Expr} {kk : Nat} (hg : Gl X "zip") (hm : X.mg "zip" = none) (ha : PA X [e, e2] ta)
    (hpl : (backTo pos (starEach [e2] X.env)).any (·.1) = false := by rfl) (hs : starEach [e, e2] X.env = (false, eval e X.env) :: starEach [e2] X.env := by rfl) :
    PI X (.Tuple elts kk tpos) (.Call (.Name "zip" p) [e, e2] [] pos) (iZ2 X.K ta) := ⟨fun pins s σ H R I h => by
  refine Call_ (ld_blt I hg hm boot_zip (callWith_type1 (thn (ha.run pos pins s σ H _ I h) fun us s1 ⟨vs, H1, I1, r1, q1⟩ => ?_) hs hpl))
  obtain ⟨t1, t2, a, b, xs, ys, ex, hqx, hqy, q⟩ := q1
  subst ex
  cases r1 with
  | cons r rr =>
    cases rr with
    | cons r' rr =>
      cases rr
      cases r
      cases r'
      obtain ⟨its, rv, p1, o1, g1⟩ := sq_its I1 hqx
      obtain ⟨its2, rv2, p2, o2, g2⟩ := sq_its I1 hqy
      refine zip_begins2 (begins_k t1 a its.toArray) (begins_k t2 b its2.toArray) p1 p2 fun h' hz hTI hTO h1 h2 hsz hk => wpAny_pyIter_zip hz ?_
      have S := sep2_new (Heap.lt_size g1) (Heap.lt_size g2)
      refine ⟨s1.heap.objs.size + 4, [s1.heap.objs.size + 4, s1.heap.objs.size + 2, s1.heap.objs.size + 3, s1.heap.objs.size, s1.heap.objs.size + 1], _, _, H1, rfl, I1.kept (t' := s1.toks) hk, turn_z2 S (Nat.ne_of_lt (Heap.lt_size g1)) (Nat.ne_of_lt (Nat.lt_succ_of_lt (Heap.lt_size g2))), ⟨hz, hTI, ⟨_, _, hTO⟩, .new h1, .new h2⟩, fun c hc => ?_, q⟩
      have hle : s1.heap.objs.size ≤ c := by
        simp only [List.mem_cons, List.not_mem_nil, or_false] at hc
        rcases hc with z | z | z | z | z <;> rw [z] <;> first | exact Nat.le_add_right _ _ | exact Nat.le_refl _
      exact I1.fpOk hle (I1.hok.fresh hle)⟩
def sqOf (h : Hd) : D → Option (Bool × List D × (Hd → Prop))
  | .tup xs => some (true, xs, fun _ => True)
  | .rol xs => some (false, xs, fun _ => True)
  | .ref n => (match h[n]? with
    | some (.lst xs) => some (false, xs, fun h' => h'[n]? = some (.lst xs))
    | _ => none)
  | _ => none
section
variable {K : PySem.W.Frag} {μ : List Addr} {H : Hp} {hd : Hd}
theorem sqOf_rep {x : V} {d : D} {t : Bool} {ds : List D} {c : Hd → Prop} (hr : HRel K μ H hd) (r : Rep K μ H x d) (e : sqOf hd d = some (t, ds, c)) :
    ∃ a vs, x = .ref a ∧ Sq1 K H t a vs ∧ ∀ (μ' : List Addr) (H' : Hp) (hd' : Hd), Ext μ H μ' H' → HRel K μ' H' hd' → c hd' → ∃ vs', Sq1 K H' t a vs' ∧ RepAll K μ' H' vs' ds := by
  cases r with
  | tup hs ra =>
    cases e
    exact ⟨_, _, rfl, hs, fun μ' H' hd' ex hr' _ => ⟨_, ex.sqt hs, ra.ext ex⟩⟩
  | rol hs ra =>
    cases e
    exact ⟨_, _, rfl, hs.seq, fun μ' H' hd' ex hr' _ => ⟨_, (ex.frz hs).seq, ra.ext ex⟩⟩
  | ref hn =>
    unfold sqOf at e
    simp only at e
    split at e
    · rename_i xs q
      cases e
      obtain ⟨vs, h1, _⟩ := hr.obj _ _ _ hn q
      refine ⟨_, vs, rfl, .of h1, fun μ' H' hd' ex hr' hc => ?_⟩
      obtain ⟨vs', h1', ra'⟩ := hr'.obj _ _ _ (ex.nums _ _ hn) hc
      exact ⟨vs', .of h1', ra'⟩
    · cases e
  | _ => cases e
def iZip2 (ds : List D) : M ItD := fun h => match ds with
  | [x, y] => (match sqOf h x, sqOf h y with
    | some (_, xs, c), some (_, ys, e) => .ok (List.zipWith (fun a b => D.tup [a, b]) xs ys, fun h' => c h' ∧ e h') h
    | _, _ => .bad)
  | _ => .bad
theorem zip_get {α β γ : Type} {f : α → β → γ} {xs : List α} {ys : List β} {i : Nat} {z : γ} (h : (List.zipWith f xs ys)[i]? = some z) : ∃ x y, xs[i]? = some x ∧ ys[i]? = some y ∧ z = f x y := by
  rw [List.getElem?_zipWith] at h
  cases hx : xs[i]? with
  | none => rw [hx] at h; cases h
  | some x =>
    cases hy : ys[i]? with
    | none => rw [hx, hy] at h; cases h
    | some y => rw [hx, hy] at h; exact ⟨x, y, rfl, rfl, (Option.some.inj h).symm⟩
theorem di_zip2 {X : Cx} {W : XW} {e e2 : Expr} {ma : AM} {p pos tpos : Pos} {elts : List Expr} {kk : Nat} (hm : X.mg "zip" = none) (h : DA X W [e, e2] ma) (hg : Gl X "zip" := by rfl) (hpl : (backTo pos (starEach [e2] X.env)).any (·.1) = false := by rfl) (hs : starEach [e, e2] X.env = (false, eval e X.env) :: starEach [e2] X.env := by rfl) :
    DI X W (.Tuple elts kk tpos) (.Call (.Name "zip" p) [e, e2] [] pos) (iA ma iZip2) := ⟨PI.imp (pi_z2 hg hm h.pa hpl hs) fun σ H Q ⟨μ, s, hd, sr, hr, f⟩ => by
  refine ⟨μ, s, hd, sr, hr, (FinG.bind f).imp ?_⟩
  rintro vs H1 ⟨μ1, hd1, dx, e1, hr1, rx, f1⟩
  unfold iZip2 at f1
  split at f1
  · rename_i dx dy
    split at f1
    · rename_i t1 xs c t2 ys e q1 q2
      cases rx with
      | cons r1 rr =>
        cases rr with
        | cons r2 rr =>
          cases rr
          obtain ⟨a, us, rfl, h1, k1⟩ := sqOf_rep hr1 r1 q1
          obtain ⟨b, ws, rfl, h2, k2⟩ := sqOf_rep hr1 r2 q2
          refine ⟨t1, t2, a, b, us, ws, rfl, h1, h2, FinG.ok f1 hr1 fun μ' H' hd' ex hr' ⟨hc, he⟩ i => ?_⟩
          obtain ⟨us', h1', ra⟩ := k1 μ' H' hd' ex hr' hc
          obtain ⟨ws', h2', rb⟩ := k2 μ' H' hd' ex hr' he
          refine ⟨fun d hd => ?_, fun hl => ?_⟩
          · obtain ⟨x, y, ex1, ey1, rfl⟩ := zip_get hd
            obtain ⟨u, g1, r1'⟩ := ra.get ex1
            obtain ⟨w, g2, r2'⟩ := rb.get ey1
            refine ⟨⟨us', ws', u, w, h1', h2', g1, g2⟩, fun v H'' ⟨T, u', w', ev, hT, eH, y1, y2⟩ => ?_⟩
            have eu : u' = u := Option.some.inj ((y1 us' h1').symm.trans g1)
            have ew : w' = w := Option.some.inj ((y2 ws' h2').symm.trans g2)
            subst ev eH eu ew
            exact ⟨.new hT, hr'.new hT, .tup (.inl (.inl upd_same)) (.cons (r1'.ext (.new hT)) (.cons (r2'.ext (.new hT)) .nil))⟩
          · have hl' : (List.zipWith (fun a b => D.tup [a, b]) xs ys).length = i := hl
            rw [List.length_zipWith] at hl'
            have l1 := ra.length
            have l2 := rb.length
            exact ⟨us', ws', h1', h2', by omega⟩
    · exact f1.elim
  · exact f1.elim⟩
end
end DL
namespace DL
open PySem PySem.Spec PyProof.Rows L2
end DL
namespace DL
open PySem PySem.Spec PyProof.Rows L2
end DL
namespace DL
open PySem PySem.Spec PyProof.Rows L2
def relab (scope sc : Scope) : Scope := { scope with names := scope.names.map fun (n, k) => if (k == .free && sc.kind == .function && sc.names.lookup n == some .cell) then (n, .cell) else (n, k) }
theorem blkOk_nest {N : List Str} {scope1 scope sc : Scope} {own : List (Str × Nat)} {cl : List (Str × Addr)} {C : Addr} {env : Env} (e : env.scope = sc) (h : blkC N (relab scope1 sc) scope own = true) : BlkOk N (compEnvC scope1 cl C env).scope scope own := by
  subst e
  exact blkOk_by (sc := relabel scope1 env) h
end DL
namespace DL
open PySem PySem.Spec PyProof.Rows L2
noncomputable def eG (e : EM) : EM := fun s h => (e s h).bind fun d h1 => gc h d h1
open Classical in
noncomputable def SR.gcS (h : Hd) : SR → SR
  | .nx s1 h1 => if OkBelow h h1 ∧ (∀ d, some d ∈ s1 → d.lo h.length = true) then .nx s1 (h1.take h.length) else .nx s1 h1
  | .rt d h1 => (match gc h d h1 with
    | .ok d2 h2 => .rt d2 h2
    | _ => .bad)
  | r => r
noncomputable def sG (m : SM) : SM := fun s h => (m s h).gcS h
def SR.wp (vs : List Nat) : SR → SR
  | .nx s1 h1 => .nx (wipeD s1 vs) h1
  | r => r
def sW (vs : List Nat) (m : SM) : SM := fun s h => (m s h).wp vs
theorem gc_finW {K : PySem.W.Frag} {W : XW} {μ : List Addr} {H : Hp} {hd : Hd} {σ : L2.St} {r : Res D} {Q : VK} (hr : HRel K μ H hd) (f : FinG (RD K) K W μ H σ (r.bind fun d h1 => gc hd d h1) Q) : FinG (RD K) K W μ H σ r Q := by
  cases r with
  | ok d h1 => exact gc_fin hr f
  | exc x h1 => exact f
  | bad => exact f
noncomputable def tG (t : TM) : TM := fun s h => (t s h).bind fun c h1 => (gc h (.bl c) h1).bind asB
theorem tG_fin {K : PySem.W.Frag} {W : XW} {μ : List Addr} {H : Hp} {hd : Hd} {σ : L2.St} {r : Res Bool} {Q : Bool → Hp → Prop} (hr : HRel K μ H hd) (f : FinG RB K W μ H σ (r.bind fun c h1 => (gc hd (.bl c) h1).bind asB) Q) : FinG RB K W μ H σ r Q := by
  cases r with
  | ok c h1 =>
    have g : ∃ h2, gc hd (.bl c) h1 = .ok (.bl c) h2 := by
      unfold gc
      split
      · split
        · exact ⟨_, rfl⟩
        · exact ⟨_, rfl⟩
      · exact ⟨_, rfl⟩
    obtain ⟨h2, g⟩ := g
    intro μ' H' c' e hr' hc
    change c' = c at hc
    subst hc
    refine gc_fin (W := W) (σ := σ) (d := .bl c') (Q := fun v H' => ∀ k, v = .bl k → Q k H') hr ?_ μ' H' (.bl c') e hr' (.bl c') c' rfl
    rw [g]
    change FinG RB K W μ H σ ((gc hd (.bl c') h1).bind asB) Q at f
    rw [g] at f
    intro μ2 H2 v e2 hr2 rv k hk
    subst hk
    cases rv
    exact f μ2 H2 _ e2 hr2 rfl
  | exc x h1 => exact f
  | bad => exact f
section
variable {X : Cx} {W : XW} {st : Stmt} {sts : List Stmt} {e : Expr} {m : EM} {ms : SM}
theorem de_gc (he : DE X W e m) : DE X W e (eG m) := ⟨PE.imp he.pe fun σ H Q ⟨μ, s, hd, sr, hr, f⟩ => ⟨μ, s, hd, sr, hr, gc_finW hr f⟩⟩
theorem dt_gc {t : TM} (h : DT X W e t) : DT X W e (tG t) := ⟨PT.imp h.pt fun σ H Q ⟨μ, s, hd, sr, hr, f⟩ => ⟨μ, s, hd, sr, hr, tG_fin hr f⟩⟩
theorem wipe_some {s : Sl} : ∀ (vs : List Nat) (i : Nat) (d : D), (wipeD s vs)[i]? = some (some d) → s[i]? = some (some d)
  | [], _, _, h => h
  | v :: vs, i, d, h => by
    unfold wipeD at h
    by_cases hv : v = i
    · subst hv
      rw [List.getElem?_set] at h
      simp at h
    · rw [List.getElem?_set_ne hv] at h
      exact wipe_some vs i d h
theorem wipe_len {s : Sl} : ∀ vs : List Nat, (wipeD s vs).length = s.length
  | [] => rfl
  | v :: vs => by unfold wipeD; rw [List.length_set, wipe_len vs]
theorem wp_fin {K : PySem.W.Frag} {μ : List Addr} {H : Hp} {vs : List Nat} {r : SR} {D : Ends} (f : FinS K W μ H (r.wp vs) D) : FinS K W μ H r D := by
  cases r with
  | nx s1 h1 => exact fun μ' H' σ' e hr sr => f μ' H' σ' e hr ⟨by rw [wipe_len]; exact sr.1, fun i d h => sr.2 i d (wipe_some vs i d h)⟩
  | _ => exact f
theorem gcS_fin {K : PySem.W.Frag} {μ : List Addr} {H : Hp} {hd : Hd} {r : SR} {D : Ends} (hr : HRel K μ H hd) (f : FinS K W μ H (r.gcS hd) D) : FinS K W μ H r D := by
  cases r with
  | nx s1 h1 =>
    unfold SR.gcS at f
    simp only at f
    split at f
    · rename_i c
      intro μ' H' σ' e hr' sr'
      obtain ⟨b1, b2, b3⟩ := gc_back hr hr' e c.1
      refine f μ H' σ' b2 b1 ⟨sr'.1, fun i d h => ?_⟩
      obtain ⟨v, e1, rv⟩ := sr'.2 i d h
      exact ⟨v, e1, Rep.back b3 (c.2 d (List.mem_iff_getElem?.mpr ⟨i, h⟩)) rv⟩
    · exact f
  | rt d h1 =>
    unfold SR.gcS at f
    simp only at f
    intro μ' H' v e' hr' rv
    refine gc_fin (W := W0) (σ := []) (Q := fun v H' => D.rt v H') hr ?_ μ' H' v e' hr' rv
    cases q : gc hd d h1 with
    | ok d2 h2 => rw [q] at f; exact f
    | exc x h => rw [q] at f; exact f.elim
    | bad => rw [q] at f; exact f.elim
  | _ => exact f
theorem ds_gc (h : DS X W st ms) : DS X W st (sG ms) := ⟨PS.imp h.ps fun D σ H ⟨μ, s, hd, sr, hr, f⟩ => ⟨μ, s, hd, sr, hr, gcS_fin hr f⟩⟩
theorem ds_wp (vs : List Nat) (h : DS X W st ms) : DS X W st (sW vs ms) := ⟨PS.imp h.ps fun D σ H ⟨μ, s, hd, sr, hr, f⟩ => ⟨μ, s, hd, sr, hr, wp_fin f⟩⟩
theorem dss_gc (h : DSs X W sts ms) : DSs X W sts (sG ms) := ⟨PSs.imp h.ps fun D σ H ⟨μ, s, hd, sr, hr, f⟩ => ⟨μ, s, hd, sr, hr, gcS_fin hr f⟩⟩
theorem dss_wp (vs : List Nat) (h : DSs X W sts ms) : DSs X W sts (sW vs ms) := ⟨PSs.imp h.ps fun D σ H ⟨μ, s, hd, sr, hr, f⟩ => ⟨μ, s, hd, sr, hr, wp_fin f⟩⟩
end
end DL
namespace DL
open PySem PySem.Spec PyProof.Rows PyProof.V PySem.Calls PySem.W L2
section
variable {prog : Program} {w : World} {A : Around} {E : Value → Shared → Prop} {s : Shared} {z TI TO T i1 i2 : Addr} {fp1 fp2 : List Addr} {n1 n2 i : Nat} {P1 P2 : Nat → Value → Prop} {St1 St2 : Nat → Heap → Prop} {f : Bool} {oT : Obj}
end
section
variable {prog : Program} {w : World} {A : Around} {E : Value → Shared → Prop} {s : Shared} {S z TI TO i1 i2 : Addr} {fp1 fp2 : List Addr} {n1 n2 i : Nat} {P1 P2 : Nat → Value → Prop} {St1 St2 : Nat → Heap → Prop}
end
section
variable {prog : Program} {w : World} {A : Around} {E : Value → Shared → Prop} {s : Shared} {S z TI TO i1 i2 : Addr} {fp1 fp2 : List Addr} {n1 n2 i : Nat} {P1 P2 : Nat → Value → Prop} {St1 St2 : Nat → Heap → Prop}
end
def Grow (H H' : Hp) : Prop := ∀ b u, H b = some u → H' b = some u
section
variable {K : PySem.W.Frag} {μ : List Addr} {H H' : Hp} {hd : Hd}
theorem Ext.grow (g : Grow H H') {l : Addr} : Ext μ H (μ ++ [l]) H' := ⟨fun n a h => by rw [List.getElem?_append_left (List.getElem?_eq_some_iff.mp h).1]; exact h, fun a xs h => g _ _ h, fun a o y h => g _ _ h⟩
theorem HRel.grow (r : HRel K μ H hd) (g : Grow H H') {l : Addr} (hl : H l = none) {m : MO} (q : MRep K (μ ++ [l]) H' l m) : HRel K (μ ++ [l]) H' (hd ++ [m]) := by
  have split : ∀ (n : Nat) (a : Addr), (μ ++ [l])[n]? = some a → (μ[n]? = some a ∧ n < hd.length) ∨ (n = hd.length ∧ a = l) := fun n a h => by
    rcases Nat.lt_or_ge n μ.length with z | z
    · rw [List.getElem?_append_left z] at h
      exact .inl ⟨h, by rw [← r.len]; exact z⟩
    · rw [List.getElem?_append_right z] at h
      rcases Nat.lt_or_ge (n - μ.length) 1 with y | y
      · have e : n = μ.length := by omega
        subst e
        simp at h
        exact .inr ⟨r.len, h.symm⟩
      · rw [List.getElem?_eq_none (by simpa using y)] at h; cases h
  refine ⟨by simp [r.len], fun n k a h1 h2 => ?_, fun n a o h1 h2 => ?_⟩
  · rcases split n a h1 with ⟨x, _⟩ | ⟨x, rfl⟩
    · rcases split k a h2 with ⟨y, _⟩ | ⟨y, rfl⟩
      · exact r.nd n k a x y
      · exact (r.fresh hl x).elim
    · rcases split k _ h2 with ⟨y, _⟩ | ⟨y, _⟩
      · exact (r.fresh hl y).elim
      · rw [x, y]
  · rcases split n a h1 with ⟨x, hlt⟩ | ⟨x, rfl⟩
    · rw [List.getElem?_append_left hlt] at h2
      have m := r.obj n a o x h2
      have e := Ext.grow (μ := μ) g (l := l)
      cases o with
      | lst ds => obtain ⟨vs, q1, q2⟩ := m; exact ⟨vs, g _ _ q1, q2.ext e⟩
      | dK ds => obtain ⟨vs, q1, q2⟩ := m; exact ⟨vs, g _ _ q1, q2.ext e⟩
      | dF ds => obtain ⟨o, vs, q1, q2⟩ := m; exact ⟨o, vs, g _ _ q1, q2.ext e⟩
      | dT ds => obtain ⟨vs, q1, q2⟩ := m; exact ⟨vs, g _ _ q1, q2.ext e⟩
      | dG ds => obtain ⟨o, vs, q1, q2⟩ := m; exact ⟨o, vs, g _ _ q1, q2.ext e⟩
    · subst x
      rw [List.getElem?_append_right (Nat.le_refl _), Nat.sub_self] at h2
      simp at h2
      subst h2
      exact q
end
end DL
namespace DL
open PySem PySem.Spec PyProof.Rows PyProof.V PySem.Calls PySem.W L2
section
variable {X : Cx} {pos : Pos}
end
end DL
namespace DL
open PySem PySem.Spec PyProof.Rows L2
structure FnG (P : Program) (w : World) (K : PySem.W.Frag) (mg : Str → Option Value) (base : Heap) (CX : CXT) (k : Nat) (f : Addr) (fd : FuncData) (ps : List Str) (sp : Sp) : Prop where
  ln : ∀ vs H Q E, sp vs H Q E → vs.length = ps.length
  go : ∀ (A : Around) (out : List Env) (s : Shared) (H : Hp) (ar : Args) (us : List Value) (vs : List V) (Q : VK) (E : XK), A.guards = some [] → Room k A → Env0 P w K mg base A out s H → BindsTo s fd ar (ps.zip us) → Vals vs us → sp vs H Q E →
    codeAny (model P w) A (.call (.ref f) ar) (CR CX out P w H s Q E) s
theorem fnG_of {CX : CXT} {P : Program} {w : World} {K : PySem.W.Frag} {mg : Str → Option Value} {base : Heap} {k : Nat} {f : Addr} {nm qu : Str} {pr : Arguments} {bd : List Stmt} {sc : Scope} {dV kV doc pm cdv ct oc : Value} {an od : Option Addr}
    {osl : Array (Option Value)} {N ps : List Str} {sp : Sp} (lk : K.lookup f = some ⟨oc, od, .func (PySem.W.fnOf nm qu pr bd sc dV kV doc pm an cdv ct), osl⟩) (cd : PySem.W.codeIn K cdv qu = true) (S : FnScope N ps sc)
    (ln : ∀ vs H Q E, sp vs H Q E → vs.length = ps.length)
    (hb : ∀ (A : Around) (out : List Env) (s : Shared) (H : Hp) (vs : List V) (Q : VK) (E : XK), A.guards = some [] → Room k (A.deeper (envOfC qu sc s.heap.objs.size f cdv)) → sp vs H Q E →
      ∃ t, PSs (cxOf CX P w K mg base N qu sc f cdv A out s H E) bd t ∧ t { nx := fun _ G => Q .non G, rt := Q } (start N vs) H) :
    FnG P w K mg base CX (k + 1) f (PySem.W.fnOf nm qu pr bd sc dV kV doc pm an cdv ct) ps sp := ⟨ln, fun A out s H ar us vs Q E hg rm en bt rv hs => by
  have len := ln _ _ _ _ hs
  have kin : K.In s.heap := en.mod.kin.keeps fun b o z => (en.bs b o z).1
  have nol : s.heap.NoLimit := en.mod.nolimit.keeps fun b o z => (en.bs b o z).1
  have knd : ∀ y ∈ ps.zip us, sc.names.lookup y.1 = some .local ∨ (sc.names.lookup y.1 = some .cell ∧ ((cellsFrom (s.heap.objs.size + 1) sc.names []).lookup y.1).isSome = true) := by
    rintro ⟨n, v⟩ hy
    refine (S.par n (List.of_mem_zip hy).1).imp id fun z => ⟨z, PySem.W.cellsFrom_some _ _ _ (.inl z)⟩
  apply codeAny_call_function rm.depth (kin _ _ lk) rfl S.co S.gen rfl (PySem.W.codeRec_of kin cd) (bt _ _ _ _ ?_)
  apply wpAny_newFunctionEnv_cells S.kind knd
  rintro env rfl s1 st
  refine ⟨nol.keeps st.toInCall.keep, codeAny_func ?_⟩
  obtain ⟨t, pt, qt⟩ := hb A out s H vs Q E hg (rm.deeper _) hs
  have inv := inv_start (CX := CX) (E := E) S rm.hd en len rv st
  refine wpAny_mono (pt.run [] s1 (start N vs) H _ inv qt) (fun fl s2 h2 => ?_) fun _ _ z => z
  match fl, h2 with
  | .ret u, ⟨v, _, G, J, ru, qv⟩ => exact ⟨v, G, J.os, J.bare, J.base, J.hok, ru, qv⟩
  | .next, ⟨_, G, J, qv⟩ => exact ⟨V.non, G, J.os, J.bare, J.base, J.hok, rfl, qv⟩
  | .brk, ⟨_, _, _, z⟩ => exact z.elim
  | .cont, ⟨_, _, _, z⟩ => exact z.elim⟩
section
variable {X : Cx} {CX : CXT} {k : Nat} {f : Addr} {fd : FuncData} {ps : List Str} {sp : Sp} {E : XK} {x : Str} {p pos : Pos} {e : Expr} {es : List Expr} {t : TA}
theorem runG {pins : List (Addr × Obj)} {σ : L2.St} {H : Hp} {s : Shared} {Q : VK} {us : List Value} {vs : List V} (F : FnG X.prog X.w X.K X.mg X.base CX k f fd ps sp) (hg : X.A.guards = some []) (rm : Room k X.A) (bn : Binds X.K fd ps []) (px : Passes CX X E)
    (I : Inv X pins σ H s) (r : Vals vs us) (h : sp vs H Q E) : wpAny (model X.prog X.w) X.A (call (.ref f) us) (EP X pins σ Q) X.xe s := by
  have e0 : us ++ [] = us := List.append_nil us
  have ul : (us ++ ([] : List Value)).length = ps.length := by rw [e0, ← r.length]; exact F.ln _ _ _ _ h
  have bt := bn s us I.kIn ul
  rw [e0] at bt
  apply wpAny_call
  refine codeAny_mono (F.go X.A X.stack s H ⟨us, []⟩ us vs Q E hg rm I.env0 bt r h) fun res s2 hq => ?_
  match res, hq with
  | .error z, hq => exact px pins σ H s z s2 I hq
  | .ok (.ret u), hq => exact I.after hq
theorem pe_callG (F : FnG X.prog X.w X.K X.mg X.base CX k f fd ps sp) (hg : X.A.guards = some []) (rm : Room k X.A) (gl : Gl X x) (hm : X.mg x = some (.ref f)) (hk : PySem.W.keepIn X.K (.ref f) = true) (bn : Binds X.K fd ps []) (px : Passes CX X E)
    (ha : PA X (e :: es) t) (hdb : (x == ("__debug__" : Str)) = false := by decide) (he : starEach (e :: es) X.env = (false, eval e X.env) :: starEach es X.env := by rfl) (hpl : (backTo pos (starEach es X.env)).any (·.1) = false := by rfl) :
    PE X (.Call (.Name x p) (e :: es) [] pos) fun σ H Q => t σ H fun vs H1 => sp vs H1 Q E :=
  ⟨fun pins s σ H Q I h => wpAny_Call_Name_kw (ld_glob I gl hm (PySem.W.callWith_K (h₀ := X.base) I.ok.mod.kin hk (thn (ha.run pos pins s σ H _ I h) fun _ _ ⟨_, _, I1, r, q⟩ => ⟨I1.kIn, runG F hg rm bn px I1 r q⟩) he hpl) hdb)⟩
end
section
variable {P : Program} {w : World} {K : PySem.W.Frag} {mg : Str → Option Value} {base : Heap}
structure DefG (P : Program) (w : World) (K : PySem.W.Frag) (mg : Str → Option Value) (base : Heap) (k : Nat) (x : Str) (ps : List Str) (F : List D → M D) : Prop where
  ex : ∃ (f : Addr) (fd : FuncData), FnG P w K mg base CX0 k f fd ps (spD K ps.length F) ∧ mg x = some (.ref f) ∧ PySem.W.keepIn K (.ref f) = true ∧ Binds K fd ps [] ∧ ∃ oc od osl, K.lookup f = some ⟨oc, od, .func fd, osl⟩
theorem defG_mk {x : Str} {st : Stmt} {N ps : List Str} {k : Nat} {body : SM} (T : Top K mg x st ps) (S : FnScope N ps (defScope st))
    (hb : ∀ (f : Addr) (cdv : Value) (A : Around) (out : List Env) (s : Shared) (H : Hp) (E : XK), A.guards = some [] → Room k (A.deeper (envOfC x (defScope st) s.heap.objs.size f cdv)) → DSs (cxOf CX0 P w K mg base N x (defScope st) f cdv A out s H E).nox W0 (defBody st) body) :
    DefG P w K mg base (k + 1) x ps (runB N.length body) := by
  obtain ⟨f, fd, F, hm, hb'⟩ := T.ex
  obtain ⟨oc, od, kV, doc, pm, an, cdv, ct, osl, rfl, lk, hcd⟩ := F.ex
  refine ⟨f, _, fnG_of lk hcd S (fun vs H Q E ⟨μ, hd, ds, _, r, hl, _⟩ => by rw [r.length, hl]) (fun A out s H vs Q E hg rm h => ⟨_, (hb f cdv A out s H E hg rm).ps.nox, ?_⟩), hm, F.kp, hb', ⟨oc, od, osl, lk⟩⟩
  obtain ⟨μ, hd, ds, hr, r, hl, q⟩ := h
  refine ⟨μ, _, hd, start_rel r, hr, ?_⟩
  unfold runB SR.fin at q
  cases z : body (ds.map some ++ List.replicate (N.length - ds.length) none) hd with
  | bad => rw [z] at q; exact q.elim
  | exc x s h => rw [z] at q; exact q.elim
  | nx s h => rw [z] at q; exact fun μ' H' σ' e hr' sr' => gc_fin hr q μ' H' .non e hr' .non
  | rt d h => rw [z] at q; exact fun μ' H' v e hr' rv => gc_fin hr q μ' H' v e hr' rv
variable {X : Cx} {x : Str} {ps : List Str} {k : Nat} {F : List D → M D} {e : Expr} {es : List Expr} {p pos : Pos} {mr : AM}
theorem de_defG (hgd : X.A.guards = some []) (G : DefG X.prog X.w X.K X.mg X.base k x ps F) (hr : Room k X.A) (ha : DA X W0 (e :: es) mr)
    (hg : Gl X x := by rfl) (hdb : (x == ("__debug__" : Str)) = false := by decide) (he : starEach (e :: es) X.env = (false, eval e X.env) :: starEach es X.env := by rfl) (hpl : (backTo pos (starEach es X.env)).any (·.1) = false := by rfl) : DE X W0 (.Call (.Name x p) (e :: es) [] pos) (eA (eF ps.length F) mr) := by
  obtain ⟨f, fd, g, hm, hk, hb, _⟩ := G.ex
  refine ⟨PE.imp (pe_callG (E := E0) g hgd hr hg hm hk hb pass0 ha.pa hdb he hpl) fun σ H Q ⟨μ, s, hd, sr, hr, f⟩ => ?_⟩
  refine ⟨μ, s, hd, sr, hr, (FinG.bind f).imp ?_⟩
  rintro vs H1 ⟨μ1, hd1, dx, e1, hr1, rx, f1⟩
  unfold eF at f1
  split at f1
  · rename_i hl
    exact ⟨μ1, hd1, dx, hr1, rx, hl, f1.w0⟩
  · exact f1.elim
theorem lawG_F {x p : Str} {st : Stmt} {F : List D → M D} {k : Nat} {fa : Addr} (T : Top K mg x st [p]) (hD : ∀ base : Heap, DefG P w K mg base k x [p] F) (hmg : mg x = some (.ref fa))
    (hb : ∀ (kV doc pm : Value) (an : Option Addr) (cdv ct : Value) (s : Shared) (u : Value), BindsTo s (PySem.W.fnOf x x (defArgs st) (defBody st) (defScope st) .none kV doc pm an cdv ct) ⟨[u], []⟩ [(p, u)]) :
    ∃ fd : FuncData, (∀ (s : Shared) (u : Value), BindsTo s fd ⟨[u], []⟩ [(p, u)]) ∧ ∀ base : Heap, K.In base → base.Ns mainGlobals mg → FnG P w K mg base CX0 k fa fd [p] (spD K 1 F) := by
  obtain ⟨f, fd, Fn, hm, _⟩ := T.ex
  rw [hmg] at hm
  cases hm
  obtain ⟨oc, od, kV, doc, pm, an, cdv, ct, osl, e, lk, _⟩ := Fn.ex
  refine ⟨fd, fun s u => by rw [e]; exact hb kV doc pm an cdv ct s u, fun base _ _ => ?_⟩
  obtain ⟨f', fd', G, hm', _, _, oc', od', osl', lk'⟩ := (hD base).ex
  rw [hmg] at hm'
  cases hm'
  rw [lk] at lk'
  cases lk'
  exact G
end
theorem lawG_call {P : Program} {w : World} {K : PySem.W.Frag} {mg mb : Str → Option Value} {CX : CXT} {k : Nat} {fa a : Addr} {fd : FuncData} {x : Str} {sp : Sp} {sB : Shared} {vs : List Value} {ns : List Int}
    (kin : K.In sB.heap) (nsM : sB.heap.Ns mainGlobals mg) (nsB : sB.heap.Ns builtinsNs mb) (boot : ∀ y : Str, y ≠ "__name__" → mb y = bootBuiltins y) (nol : sB.heap.NoLimit) (gn : sB.gens = #[])
    (ga : sB.heap.get? a = some { cls := .type "list", data := .seq vs.toArray }) (ia : IntsAre vs ns) (le : ns.length ≤ sizeLine) (rm : Room k callerA)
    (F : ∀ base : Heap, K.In base → base.Ns mainGlobals mg → FnG P w K mg base CX k fa fd [x] sp) (bd : ∀ (s : Shared) (u : Value), BindsTo s fd ⟨[u], []⟩ [(x, u)])
    (hs : ∀ H : Hp, Only H → SqL K H a (ns.map V.int) → sp [.ref a] H (fun v _ => v = .bl true) fun _ _ _ => False)
    (cx : ∀ H e s', CX [] H sB (fun _ _ _ => False) e s' → False) :
    codeAny (model P w) callerA (.call (.ref fa) ⟨[.ref a], []⟩) (fun r s' => r = .ok (.ret (.bool true)) ∧ OldK sB.heap s'.heap ∧ s'.os = sB.os ∧ AllBare s'.gens) sB := by
  have rv := vals_ints ia
  have lv := ia.length
  have main : ∀ H : Hp, Only H → SqL K H a (ns.map V.int) → HOk P w H sB.heap → (∀ b u, H b = some u → b = a) → ((∃ u, H a = some u) → K.lookup a = none) →
      codeAny (model P w) callerA (.call (.ref fa) ⟨[.ref a], []⟩) (fun r s' => r = .ok (.ret (.bool true)) ∧ OldK sB.heap s'.heap ∧ s'.os = sB.os ∧ AllBare s'.gens) sB := fun H oH sH hok onlyA noK => by
    have free : ∀ {b : Addr} {o : Obj} {es : Array DictEntry} {ep : Nat}, sB.heap.get? b = some o → o.data = .dict es ep → H b = none := fun {b o es ep} g d => by
      rcases hq : H b with _ | u
      · rfl
      · have ba := onlyA b u hq
        rw [ba, ga] at g
        cases g
        cases d
    have nsH : ∀ {b : Addr} {m : Str → Option Value}, sB.heap.Ns b m → (hidT sB.heap H).Ns b m := fun ⟨o, es, ep, g, d, r⟩ => ⟨o, es, ep, hidT_get g (free g d), d, r⟩
    have kinH : K.In (hidT sB.heap H) := fun b o g => by
      refine hidT_get (kin b o g) ?_
      rcases hq : H b with _ | u
      · rfl
      · have ba := onlyA b u hq
        rw [ba] at g hq
        rw [noK ⟨u, hq⟩] at g
        cases g
    obtain ⟨mc, c1, c2⟩ := nol
    have modH : Mod K mg (hidT sB.heap H) := ⟨kinH, nsH nsM, ⟨mb, nsH nsB, boot⟩, mc, nsH c1, c2⟩
    have nil_no : ∀ b : Addr, b ∈ ([] : List Addr) → False := fun b z => by cases z
    have en : Env0 P w K mg (hidT sB.heap H) callerA [] sB H := ⟨rfl, modH, fun b o g => of_hidT g, Nat.le_of_eq (hidT_size _ _), trivial, fun b z => (nil_no b z).elim, hok, .of_eq gn⟩
    refine codeAny_mono ((F _ kinH (nsH nsM)).go callerA [] sB H ⟨[.ref a], []⟩ [.ref a] [.ref a] _ _ rfl rm en (bd sB (.ref a)) (.cons rfl .nil) (hs H oH sH)) fun res s2 h2 => ?_
    match res, h2 with
    | .error e, h2 => exact (cx H e s2 h2).elim
    | .ok (.ret u), ⟨v, G, os, bare, un, hok2, ru, qv⟩ =>
      cases qv
      cases ru
      refine ⟨rfl, OldK.of_keep fun b o g => ?_, os, bare⟩
      rcases hq : H b with _ | u
      · exact un.keep b o g hq (fun z => nil_no b z) (fun z => nil_no b z)
      · rcases oH b with z | ⟨ob, xs, z⟩
        · rw [hq] at z; cases z
        · obtain ⟨g1, _⟩ := hok b _ z
          obtain ⟨g2, _⟩ := hok2 b _ (un.frzs b ob _ z)
          rw [g1] at g
          cases g
          exact g2
  rcases hk : K.lookup a with _ | o
  · refine main (fun b => if b = a then some (.frz { cls := .type "list", data := .seq vs.toArray } (.lst (ns.map V.int))) else none) (fun b => ?_) (.inl (.inr ⟨{ cls := .type "list", data := .seq vs.toArray }, if_pos rfl⟩)) (fun b u z => ?_) (fun b u z => ?_) fun _ => hk
    · by_cases c : b = a
      · exact .inr ⟨_, _, if_pos c⟩
      · exact .inl (if_neg c)
    · by_cases c : b = a
      · have z2 := (if_pos c).symm.trans z
        cases z2
        rw [c]
        exact ⟨ga, by rw [List.length_map]; exact le, vs, _, rv, ga⟩
      · have z2 := (if_neg c).symm.trans z
        cases z2
    · by_cases c : b = a
      · exact c
      · have z2 := (if_neg c).symm.trans z
        cases z2
  · have g := kin a o hk
    rw [ga] at g
    cases g
    exact main (fun _ => none) (fun _ => .inl rfl) (.inr ⟨_, vs.toArray, _, hk, rfl, rfl, rfl, by rw [List.size_toArray, lv]; exact le, by simpa using rv⟩) (fun b u z => by cases (show (none : Option HO) = some u from z)) (fun b u z => by cases z) fun ⟨u, z⟩ => by cases z
theorem walkG {l : PySem.W.OpenLaw} {n k : Nat} {q : Program} {lo : List Str} {XP : (Str → Option Value) → Heap → Prop} {YP : World → Heap → Prop} {d : DefRec} {K : Params → PySem.W.Frag} {CX : World → CXT} {sp : World → Sp} {x : Str}
    (hn : l.most = some n) (hn2 : n ≤ sizeLine) (hdf : d.params.defaults = []) (rm : Room k callerA)
    (hY : ∀ (w : World) (h : Heap), YP w h → (K w.params).In h)
    (F : ∀ (w : World) (mg : Str → Option Value) (fa : Addr) (h : Heap), (K w.params).In h → h.Ns mainGlobals mg → mg d.name = some (.ref fa) →
      ∃ fd : FuncData, (∀ (s : Shared) (u : Value), BindsTo s fd ⟨[u], []⟩ [(x, u)]) ∧
        ∀ base : Heap, (K w.params).In base → base.Ns mainGlobals mg → FnG l.prog w (K w.params) mg base (CX w) k fa fd [x] (sp w))
    (hsp : ∀ (w : World) (H : Hp) (a : Addr) (ns : List Int), ns.length ≤ n → (∀ z ∈ ns, Builtin.Int.intBits z ≤ 1048576) → Only H → SqL (K w.params) H a (ns.map V.int) → sp w [.ref a] H (fun v _ => v = .bl true) fun _ _ _ => False)
    (hCX : ∀ (w : World) (H : Hp) (s : Shared) (e : Value) (s' : Shared), CX w [] H s (fun _ _ _ => False) e s' → False) :
    PySem.W.WalkO q lo XP YP l.row.toRowW d [] (fun f vs => PySem.call f vs) :=
  Att.attach_callB hn hdf fun w _ sB mg _ fa _ _ _ _ a _ ns G Y _ _ _ hmg ga ia len bits gn => by
    have kin := hY w _ Y
    obtain ⟨fd, bd, hF⟩ := F w mg fa _ kin G.T.g hmg
    exact lawG_call kin G.T.g G.T.b G.T.builtins G.T.nolimit gn ga ia (Nat.le_trans len hn2) rm hF bd (fun H oH sH => hsp w H a ns len bits oH sH) fun H e s' => hCX w H sB e s'
end DL
namespace DL
open PySem PySem.Spec PyProof.Rows L2
end DL
namespace DL
open PySem PySem.Spec PyProof.Rows L2
def tr (mg : Str → Option Value) (W : WX) : XW := fun c o σ H => match c with
  | .type n => (match mg (Str.ofString n) with | some C => W C o σ H | none => False)
  | _ => False
section
variable {P : Program} {w : World} {K : PySem.W.Frag} {mg : Str → Option Value} {base : Heap}
end
section
variable {X : Cx} {x : Str} {ps : List Str} {k : Nat} {F : List D → M D} {e : Expr} {es : List Expr} {p pos : Pos} {mr : AM} {W : WX}
end
section
variable {X : Cx} {W : WX}
end
section
variable {X : Cx} {W : WX} {x n : Str} {c : Value} {i : Nat} {body suite : List Stmt} {b₀ : Stmt} {np pos pos' : Pos} {b : SM} {mt : String → Option (Addr → SM)}
end
section
variable {X : Cx} {W : XW} {a : Addr} {b : Bool} {i : Nat} {x n : Str} {p p1 pos : Pos} {e2 : Expr} {m2 : EM} {d2 : D} {r : List V → Hp → VK → Prop}
end
section
variable {X : Cx} {W : XW} {a : Addr} {b : Bool} {i : Nat} {n c m : String} {x : Str} {p p1 p2 pos : Pos} {oe : Obj} {pn : List (Addr × Obj)} {C : Value}
end
section
variable {K : PySem.W.Frag} {mg : Str → Option Value} {h : Heap} {C D : Addr} {b : Bool}
variable (X : K.In h) (G : h.Ns mainGlobals mg)
include X G
end
end DL
namespace DL
open PySem PySem.Spec PyProof.Rows L2
end DL
namespace DL
open PySem PySem.Spec PyProof.Rows L2
section
variable {X : Cx} {W : WX} {x : Str} {c : Value} {body suite : List Stmt} {b₀ : Stmt} {np pos pos' : Pos} {b su : SM} {ms : List String}
end
end DL
namespace DL
open PySem PySem.Spec PyProof.Rows L2
section
variable {P : Program} {w : World} {A : Around} {E : Value → Shared → Prop} {s : Shared}
end
def rSetL (K : PySem.W.Frag) (w : World) : List V → Hp → VK → Prop := fun xs H Q => ∃ (a : Addr) (ns : List Int), xs = [V.ref a] ∧ SqL K H a (ns.map V.int) ∧ ns.length < 60 ∧ ∀ p c, H p = none → c ≤ ns.length → Q (.ref p) (upd H p (SetO w p (fun j => decide (j ∈ ns)) c))
end DL
namespace DL
open PySem PySem.Spec PyProof.Rows L2
theorem callR_or {X : Cx} {f : Value} {r1 r2 : List V → Hp → VK → Prop} (h1 : CallR X f r1) (h2 : CallR X f r2) : CallR X f (fun xs H Q => r1 xs H Q ∨ r2 xs H Q) := by
  intro pins s σ H vs us Q I r h
  rcases h with h | h
  · exact h1 pins s σ H vs us Q I r h
  · exact h2 pins s σ H vs us Q I r h
end DL
namespace DL
open PySem PySem.Spec PyProof.Rows L2
section
variable {K : PySem.W.Frag} {a C d : Addr} {D : Ends} {σ : L2.St}
end
section
variable {P : Program} {w : World} {K : PySem.W.Frag} {mg : Str → Option Value} {base : Heap}
end
section
variable {K : PySem.W.Frag} {μ : List Addr} {H : Hp}
end
section
variable {X : Cx} {W : WX} {Vr : XW}
end
section
variable {X : Cx} {W : WX} {x : Str} {c : Value} {body suite : List Stmt} {b₀ : Stmt} {np pos pos' : Pos} {b su : SM} {ms : List String}
end
section
variable {K : PySem.W.Frag} {mg : Str → Option Value} {h : Heap} {C fI B : Addr} (X : K.In h) (G : h.Ns mainGlobals mg)
include X G
end
end DL
namespace DL
open PySem PySem.Spec PyProof.Rows L2
mutual
def D.refs : D → List Nat
  | .tup xs => D.refsAll xs
  | .rol xs => D.refsAll xs
  | .ref m => [m]
  | _ => []
def D.refsAll : List D → List Nat
  | [] => []
  | x :: xs => D.refs x ++ D.refsAll xs
end
mutual
def D.ren (f : Nat → Nat) : D → D
  | .tup xs => .tup (D.renAll f xs)
  | .rol xs => .rol (D.renAll f xs)
  | .ref m => .ref (f m)
  | d => d
def D.renAll (f : Nat → Nat) : List D → List D
  | [] => []
  | x :: xs => D.ren f x :: D.renAll f xs
end
mutual
def D.inn (n : Nat) (js : List Nat) : D → Bool
  | .tup xs => D.innAll n js xs
  | .rol xs => D.innAll n js xs
  | .ref m => decide (m < n) || js.contains m
  | _ => true
def D.innAll (n : Nat) (js : List Nat) : List D → Bool
  | [] => true
  | x :: xs => D.inn n js x && D.innAll n js xs
end
def KDs.map {κ : Type} (f : D → D) (kvs : List (κ × D)) : List (κ × D) := kvs.map fun kv => (kv.1, f kv.2)
def MO.ren (f : Nat → Nat) : MO → MO
  | .lst xs => .lst (D.renAll f xs)
  | .dK kvs => .dK (KDs.map (D.ren f) kvs)
  | .dF kvs => .dF (KDs.map (D.ren f) kvs)
  | .dT kvs => .dT (KDs.map (D.ren f) kvs)
  | .dG kvs => .dG (KDs.map (D.ren f) kvs)
def MO.inn (n : Nat) (js : List Nat) : MO → Bool
  | .lst xs => D.innAll n js xs
  | .dK kvs => kvs.all fun kv => D.inn n js kv.2
  | .dF kvs => kvs.all fun kv => D.inn n js kv.2
  | .dT kvs => kvs.all fun kv => D.inn n js kv.2
  | .dG kvs => kvs.all fun kv => D.inn n js kv.2
def rn (n : Nat) (js : List Nat) (m : Nat) : Nat := if m < n then m else n + js.idxOf m
section
variable {K : PySem.W.Frag} {μ μ' μ2 : List Addr} {H : Hp} {n : Nat} {js : List Nat} {f : Nat → Nat}
def Rn (μ' μ2 : List Addr) (n : Nat) (js : List Nat) (f : Nat → Nat) : Prop := ∀ (k : Nat) (a : Addr), (k < n ∨ k ∈ js) → μ'[k]? = some a → μ2[f k]? = some a
mutual
theorem Rep.ren (b : Rn μ' μ2 n js f) {v : V} {d : D} (hb : d.inn n js = true) : Rep K μ' H v d → Rep K μ2 H v (d.ren f)
  | .non => .non
  | .bl b => .bl b
  | .int i => .int i
  | .str x => .str x
  | .ty n => .ty n
  | .tup h r => .tup h (RepAll.ren b (by unfold D.inn at hb; exact hb) r)
  | .rol h r => .rol h (RepAll.ren b (by unfold D.inn at hb; exact hb) r)
  | .ref h => .ref (b _ _ (by unfold D.inn at hb; simpa using hb) h)
  | .con a => .con a
theorem RepAll.ren (b : Rn μ' μ2 n js f) {vs : List V} {ds : List D} (hb : D.innAll n js ds = true) : RepAll K μ' H vs ds → RepAll K μ2 H vs (D.renAll f ds)
  | .nil => .nil
  | .cons r t => by
    unfold D.innAll at hb
    rw [Bool.and_eq_true] at hb
    exact .cons (Rep.ren b hb.1 r) (RepAll.ren b hb.2 t)
end
end
section
variable {K : PySem.W.Frag} {μ μ' μ2 : List Addr} {H H' : Hp} {n : Nat} {js : List Nat} {f : Nat → Nat} {hd hd' : Hd}
theorem KRep.ren {κ : Type} (b : Rn μ' μ2 n js f) : ∀ {vs : List (κ × V)} {ds : List (κ × D)}, ds.all (fun kv => D.inn n js kv.2) = true → KRep K μ' H vs ds → KRep K μ2 H vs (KDs.map (D.ren f) ds)
  | _, _, _, .nil => .nil
  | _, _, hb, .cons r t => by
    rw [List.all_cons, Bool.and_eq_true] at hb
    exact .cons (r.ren b hb.1) (KRep.ren b hb.2 t)
theorem MRep.ren (b : Rn μ' μ2 n js f) {a : Addr} {o : MO} (hb : o.inn n js = true) (m : MRep K μ' H a o) : MRep K μ2 H a (o.ren f) := by
  cases o with
  | lst ds => obtain ⟨vs, q, r⟩ := m; exact ⟨vs, q, RepAll.ren b hb r⟩
  | dK ds => obtain ⟨vs, q, r⟩ := m; exact ⟨vs, q, r.ren b hb⟩
  | dF ds => obtain ⟨o, vs, q, r⟩ := m; exact ⟨o, vs, q, r.ren b hb⟩
  | dT ds => obtain ⟨vs, q, r⟩ := m; exact ⟨vs, q, r.ren b hb⟩
  | dG ds => obtain ⟨o, vs, q, r⟩ := m; exact ⟨o, vs, q, r.ren b hb⟩
structure Keeps (h h' : Hd) (js : List Nat) (d : D) : Prop where
  ok : OkBelow h h'
  nd : js.Nodup
  new : ∀ j ∈ js, h.length ≤ j ∧ ∃ o, h'[j]? = some o ∧ o.inn h.length js = true
  inn : d.inn h.length js = true
def keepH (h h' : Hd) (js : List Nat) : Hd := h'.take h.length ++ js.map fun j => ((h'[j]?).getD (.lst [])).ren (rn h.length js)
open Classical in
noncomputable def gc2 (js : List Nat) (h : Hd) (d : D) (h' : Hd) : Res D := if Keeps h h' js d then .ok (d.ren (rn h.length js)) (keepH h h' js) else .ok d h'
theorem gc2_fin {W : XW} {σ : L2.St} {d : D} {Q : VK} (hr : HRel K μ H hd) (f : FinG (RD K) K W μ H σ (gc2 js hd d hd') Q) : FinG (RD K) K W μ H σ (.ok d hd') Q := by
  unfold gc2 at f
  split at f
  · rename_i kp
    intro μ' H' v e hr' rv
    obtain ⟨g1, g2, g3⟩ := gc_back hr hr' e kp.ok
    have at' : ∀ j ∈ js, ∃ a o, μ'[j]? = some a ∧ hd'[j]? = some o ∧ o.inn hd.length js = true := fun j hj => by
      obtain ⟨_, o, ho, hi⟩ := kp.new j hj
      have hl := (List.getElem?_eq_some_iff.mp ho).1
      rw [← hr'.len] at hl
      exact ⟨μ'[j], o, List.getElem?_eq_getElem hl, ho, hi⟩
    have hlt : (hd'.take hd.length).length = hd.length := by rw [← g1.len, hr.len]
    generalize hμ2 : μ ++ js.map (fun j => (μ'[j]?).getD 0) = μ2
    have old : ∀ {i : Nat} {a : Addr}, μ[i]? = some a → μ2[i]? = some a := fun {i a} h => by
      rw [← hμ2, List.getElem?_append_left (List.getElem?_eq_some_iff.mp h).1]
      exact h
    have split : ∀ (i : Nat) (c : Addr), μ2[i]? = some c → (μ[i]? = some c ∧ i < hd.length) ∨ ∃ k j, i = hd.length + k ∧ js[k]? = some j ∧ μ'[j]? = some c := fun i c h => by
      rw [← hμ2] at h
      rcases Nat.lt_or_ge i μ.length with z | z
      · rw [List.getElem?_append_left z] at h
        exact .inl ⟨h, by rw [← hr.len]; exact z⟩
      · rw [List.getElem?_append_right z, List.getElem?_map] at h
        obtain ⟨j, hj, ej⟩ := Option.map_eq_some_iff.mp h
        obtain ⟨a, o, ha, _⟩ := at' j (List.mem_of_getElem? hj)
        rw [ha] at ej
        simp only [Option.getD_some] at ej
        subst ej
        exact .inr ⟨i - μ.length, j, by rw [← hr.len]; omega, hj, ha⟩
    have new : ∀ {k j : Nat} {a : Addr}, js[k]? = some j → μ'[j]? = some a → μ2[hd.length + k]? = some a := fun {k j a} h1 h2 => by
      rw [← hμ2, ← hr.len, List.getElem?_append_right (by omega), Nat.add_sub_cancel_left, List.getElem?_map, h1, Option.map_some, h2]
      rfl
    have b : Rn μ' μ2 hd.length js (rn hd.length js) := fun k a hk ha => by
      unfold rn
      split
      · rename_i hl
        exact old (g3 k a hl ha)
      · rename_i hl
        have hj : k ∈ js := hk.resolve_left hl
        have hi := List.idxOf_lt_length_of_mem hj
        refine new (j := k) ?_ ha
        rw [List.getElem?_eq_getElem hi, List.getElem_idxOf]
    have ex : Ext μ H μ2 H' := ⟨fun _ _ h => old h, g2.tups, g2.stay⟩
    have ex' : Ext μ H' μ2 H' := ⟨fun _ _ h => old h, fun _ _ h => h, fun _ _ _ h => h⟩
    refine f μ2 H' v ex ⟨?_, fun i k c h1 h2 => ?_, fun i c u h1 h2 => ?_⟩ (rv.ren b kp.inn)
    · unfold keepH
      rw [← hμ2, List.length_append, List.length_append, List.length_map, List.length_map, hlt, hr.len]
    · rcases split i c h1 with ⟨x, xl⟩ | ⟨k1, j1, rfl, y1, z1⟩
      · rcases split k c h2 with ⟨y, _⟩ | ⟨k2, j2, rfl, y2, z2⟩
        · exact hr.nd i k c x y
        · have := hr'.nd i j2 c (e.nums i c x) z2
          have := (kp.new j2 (List.mem_of_getElem? y2)).1
          omega
      · rcases split k c h2 with ⟨y, yl⟩ | ⟨k2, j2, rfl, y2, z2⟩
        · have := hr'.nd k j1 c (e.nums k c y) z1
          have := (kp.new j1 (List.mem_of_getElem? y1)).1
          omega
        · have ej := hr'.nd j1 j2 c z1 z2
          subst ej
          obtain ⟨l1, e1⟩ := List.getElem?_eq_some_iff.mp y1
          obtain ⟨l2, e2⟩ := List.getElem?_eq_some_iff.mp y2
          have inj : k1 = k2 := by
            rcases Nat.lt_trichotomy k1 k2 with q | q | q
            · exact absurd (by rw [e1, e2]) (List.pairwise_iff_getElem.mp kp.nd k1 k2 l1 l2 q)
            · exact q
            · exact absurd (by rw [e1, e2]) (List.pairwise_iff_getElem.mp kp.nd k2 k1 l2 l1 q)
          rw [inj]
    · unfold keepH at h2
      rcases split i c h1 with ⟨x, xl⟩ | ⟨k1, j1, rfl, y1, z1⟩
      · rw [List.getElem?_append_left (by rw [hlt]; exact xl)] at h2
        exact (g1.obj i c u x h2).ext ex' rfl
      · rw [List.getElem?_append_right (by rw [hlt]; omega), hlt, Nat.add_sub_cancel_left, List.getElem?_map, y1, Option.map_some] at h2
        cases h2
        obtain ⟨_, o, ho, hi⟩ := kp.new j1 (List.mem_of_getElem? y1)
        rw [ho, Option.getD_some]
        exact (hr'.obj j1 c o z1 ho).ren b hi
  · exact f
end
def MO.refs : MO → List Nat
  | .lst xs => D.refsAll xs
  | .dK kvs => kvs.flatMap fun kv => D.refs kv.2
  | .dF kvs => kvs.flatMap fun kv => D.refs kv.2
  | .dT kvs => kvs.flatMap fun kv => D.refs kv.2
  | .dG kvs => kvs.flatMap fun kv => D.refs kv.2
def newR (n : Nat) (l : List Nat) : List Nat := l.filter fun m => decide (n ≤ m)
def news (h' : Hd) (n : Nat) : Nat → List Nat → List Nat → List Nat
  | 0, _, acc => acc
  | _, [], acc => acc
  | f + 1, j :: t, acc => if acc.contains j = true then news h' n f t acc else news h' n f (newR n (((h'[j]?).map MO.refs).getD []) ++ t) (acc ++ [j])
def newsD (h h' : Hd) (d : D) : List Nat := news h' h.length 1000 (newR h.length d.refs) []
noncomputable def gcT (h : Hd) (d : D) (h' : Hd) : Res D := gc2 (newsD h h' d) h d h'
noncomputable def SR.fin2 (h : Hd) (r : SR) : Res D := match r with
  | .nx _ h' => gc h .non h'
  | .rt d h' => gcT h d h'
  | _ => .bad
noncomputable def runB2 (N : Nat) (body : SM) : List D → M D := fun ds h => (body (ds.map some ++ List.replicate (N - ds.length) none) h).fin2 h
section
variable {P : Program} {w : World} {K : PySem.W.Frag} {mg : Str → Option Value} {base : Heap}
theorem def2_mk {x : Str} {st : Stmt} {N ps : List Str} {k : Nat} {body : SM} (T : Top K mg x st ps) (S : FnScope N ps (defScope st))
    (hb : ∀ (f : Addr) (cdv : Value) (A : Around) (outer : List Env) (s : Shared) (H : Hp) (E : XK), Room k (A.deeper (envOfC x (defScope st) s.heap.objs.size f cdv)) → DSs (cxOf CX0 P w K mg base N x (defScope st) f cdv A outer s H E).nox W0 (defBody st) body) :
    Def P w K mg base (k + 1) x ps (runB2 N.length body) := by
  obtain ⟨f, fd, F, hm, hb'⟩ := T.ex
  refine ⟨f, fd, F.ok S (fun vs H Q E ⟨μ, hd, ds, _, r, hl, _⟩ => by rw [r.length, hl]) (fun cdv A outer s H vs Q E hr h => ⟨_, (hb f cdv A outer s H E hr).ps, ?_⟩), hm, F.kp, hb', let ⟨oc, od, _, _, _, _, _, _, osl, _, lk, _⟩ := F.ex; ⟨oc, od, osl, lk⟩⟩
  obtain ⟨μ, hd, ds, hr, r, hl, q⟩ := h
  refine ⟨μ, _, hd, start_rel r, hr, ?_⟩
  unfold runB2 SR.fin2 gcT at q
  cases z : body (ds.map some ++ List.replicate (N.length - ds.length) none) hd with
  | bad => rw [z] at q; exact q.elim
  | exc x s h => rw [z] at q; exact q.elim
  | nx s h => rw [z] at q; exact fun μ' H' σ' e hr' sr' => gc_fin hr q μ' H' .non e hr' .non
  | rt d h => rw [z] at q; exact fun μ' H' v e hr' rv => gc2_fin hr q μ' H' v e hr' rv
end
end DL
namespace DL
open PySem PySem.Spec PyProof.Rows L2
section
variable {X : Cx} {W : XW} {e : Expr} {st : Stmt} {tg : Expr}
end
def keyD : D → Option Key
  | .int i => some (.inl i)
  | .str x => some (.inr x)
  | _ => none
def kD : Key → D
  | .inl i => .int i
  | .inr x => .str x
def valK {κ : Type} [DecidableEq κ] (kvs : List (κ × D)) (k : κ) : Option D := (kvs.find? fun kv => decide (kv.1 = k)).map (·.2)
def putD {κ : Type} [DecidableEq κ] (kvs : List (κ × D)) (k : κ) (v : D) : List (κ × D) :=
  if (kvs.any fun kv => decide (kv.1 = k)) = true then kvs.map (fun kv => if kv.1 = k then (kv.1, v) else kv) else kvs ++ [(k, v)]
def dctOf (h : Hd) : D → Option (List (Key × D))
  | .ref n => (match h[n]? with
    | some (.dK kvs) => some kvs
    | some (.dF kvs) => some kvs
    | _ => none)
  | _ => none
section
variable {K : PySem.W.Frag} {μ : List Addr} {H : Hp} {hd : Hd}
theorem keyD_rep {y : V} {d : D} {k : Key} (r : Rep K μ H y d) (e : keyD d = some k) : y = kV k := by
  cases r <;> cases e <;> rfl
theorem kD_rep {k : Key} : Rep K μ H (kV k) (kD k) := by
  cases k with
  | inl i => exact .int i
  | inr x => exact .str x
theorem KRep.val {κ : Type} [DecidableEq κ] (k : κ) : ∀ {kvs : List (κ × V)} {kds : List (κ × D)}, KRep K μ H kvs kds → (valV kvs k = none ∧ valK kds k = none) ∨ ∃ v d, valV kvs k = some v ∧ valK kds k = some d ∧ Rep K μ H v d
  | _, _, .nil => .inl ⟨rfl, rfl⟩
  | _, _, .cons (k := q) (v := v) (d := d) r t => by
    by_cases e : q = k
    · refine .inr ⟨v, d, valV_pos e, ?_, r⟩
      simp [valK, List.find?_cons, e]
    · rcases KRep.val k t with ⟨h1, h2⟩ | ⟨v, d, h1, h2, h3⟩
      · exact .inl ⟨by rw [valV_neg e]; exact h1, by simpa [valK, List.find?_cons, e] using h2⟩
      · exact .inr ⟨v, d, by rw [valV_neg e]; exact h1, by simpa [valK, List.find?_cons, e] using h2, h3⟩
theorem dctOf_rep {x : V} {d : D} {kds : List (Key × D)} (hr : HRel K μ H hd) (r : Rep K μ H x d) (e : dctOf hd d = some kds) : ∃ a kvs, x = .ref a ∧ Rd H a (.dK kvs) ∧ KRep K μ H kvs kds := by
  cases r with
  | ref hn =>
    unfold dctOf at e
    simp only at e
    split at e
    · rename_i q
      cases e
      obtain ⟨kvs, h1, h2⟩ := hr.obj _ _ _ hn q
      exact ⟨_, kvs, rfl, .of h1, h2⟩
    · rename_i q
      cases e
      obtain ⟨o, kvs, h1, h2⟩ := hr.obj _ _ _ hn q
      exact ⟨_, kvs, rfl, .inr ⟨o, h1⟩, h2⟩
    · cases e
  | _ => cases e
end
def dDG (x y : D) : M D := fun h => match dctOf h x, keyD y with
  | some kvs, some k => (match valK kvs k with
    | some v => .ok v h
    | none => .bad)
  | _, _ => .bad
section
variable {X : Cx} {W : XW} {o i : Expr} {mo mi : EM} {pos : Pos}
theorem de_dget (hu : X.A.units + 1 < cLine) (ho : DE X W o mo) (hi : DE X W i mi) (hs : NoSl i := by exact fun _ _ => rfl) : DE X W (.Subscript o i pos) (e2 dDG mo mi) := ⟨PE.imp (pe_dget hu ho.pe hi.pe hs) fun σ H Q ⟨μ, s, hd, sr, hr, f⟩ => by
  unfold e2 at f
  refine ⟨μ, s, hd, sr, hr, (FinG.bind f).imp ?_⟩
  rintro x H1 ⟨μ1, hd1, dx, e1, hr1, rx, f1⟩
  refine ⟨μ1, s, hd1, sr.ext e1, hr1, (FinG.bind f1).imp ?_⟩
  rintro y H2 ⟨μ2, hd2, dy, e2', hr2, ry, f2⟩
  unfold dDG at f2
  split at f2
  · rename_i kds k ek ey
    split at f2
    · rename_i d ed
      obtain ⟨a, kvs, rfl, rd, kr⟩ := dctOf_rep hr2 (rx.ext e2') ek
      rcases kr.val k with ⟨_, h2⟩ | ⟨v, d', h1, h2, h3⟩
      · rw [ed] at h2
        cases h2
      · rw [ed] at h2
        cases h2
        exact ⟨a, v, rfl, .inl ⟨kvs, k, rd, keyD_rep ry ey, h1.symm⟩, f2.ok hr2 h3⟩
    · exact f2.elim
  · exact f2.elim⟩
end
def dSetD (x y z : D) : Hd → Res Unit := fun h => match x, keyD y with
  | .ref n, some k => (match h[n]? with
    | some (.dK kvs) => if kvs.length < sizeLine then .ok () (h.set n (.dK (putD kvs k z))) else .bad
    | _ => .bad)
  | _, _ => .bad
section
variable {K : PySem.W.Frag} {μ : List Addr} {H : Hp} {hd : Hd}
theorem KRep.any {κ : Type} [DecidableEq κ] (k : κ) : ∀ {kvs : List (κ × V)} {kds : List (κ × D)}, KRep K μ H kvs kds → (kvs.any fun kv => decide (kv.1 = k)) = kds.any fun kv => decide (kv.1 = k)
  | _, _, .nil => rfl
  | _, _, .cons r t => by rw [List.any_cons, List.any_cons, KRep.any k t]
theorem KRep.app {κ : Type} : ∀ {xs ys : List (κ × V)} {ds es : List (κ × D)}, KRep K μ H xs ds → KRep K μ H ys es → KRep K μ H (xs ++ ys) (ds ++ es)
  | _, _, _, _, .nil, s => s
  | _, _, _, _, .cons r t, s => .cons r (KRep.app t s)
theorem KRep.upd {κ : Type} [DecidableEq κ] {k : κ} {v : V} {d : D} (rv : Rep K μ H v d) : ∀ {kvs : List (κ × V)} {kds : List (κ × D)}, KRep K μ H kvs kds → KRep K μ H (kvs.map fun kv => if kv.1 = k then (kv.1, v) else kv) (kds.map fun kv => if kv.1 = k then (kv.1, d) else kv)
  | _, _, .nil => .nil
  | _, _, .cons (k := q) r t => by
    rw [List.map_cons, List.map_cons]
    by_cases e : q = k
    · simp only [e, if_true]
      exact .cons rv (KRep.upd rv t)
    · simp only [if_neg e]
      exact .cons r (KRep.upd rv t)
theorem KRep.put {κ : Type} [DecidableEq κ] {k : κ} {v : V} {d : D} (rv : Rep K μ H v d) {kvs : List (κ × V)} {kds : List (κ × D)} (r : KRep K μ H kvs kds) : KRep K μ H (putK kvs k v) (putD kds k d) := by
  unfold putK putD
  rw [r.any k]
  split
  · exact r.upd rv
  · exact r.app (.cons rv .nil)
theorem lift_setD : LiftSet K rSetD dSetD := fun μ H hd x y z dx dy dz W σ Q hr rx ry rz f => by
  unfold dSetD at f
  split at f
  · rename_i n k ek
    split at f
    · rename_i kds q
      split at f
      · rename_i hl
        cases rx with
        | ref hn =>
          obtain ⟨kvs, h1, h2⟩ := hr.obj _ _ _ hn q
          have ex : Ext μ H μ (upd H _ (.dK (putK kvs k z))) := Ext.write h1 trivial
          refine ⟨_, _, rfl, .inl ⟨kvs, k, h1, keyD_rep ry ek, by rw [h2.length]; exact hl, rfl⟩, ?_⟩
          exact f μ _ () ex (hr.write hn h1 trivial ⟨_, upd_same, (h2.put rz).ext ex⟩) trivial
      · exact f.elim
    · exact f.elim
  · exact f.elim
end
section
variable {X : Cx} {W : XW} {o i : Expr} {mo mi : EM} {pos : Pos}
def eDN : EM := fun _ h => .ok (.ref h.length) (h ++ [.dK []])
theorem de_dnew : DE X W (.Dict [] [] pos) eDN := ⟨PE.imp pe_dnewK fun σ H Q ⟨μ, s, hd, sr, hr, f⟩ => fun p hp => by
  refine f (μ ++ [p]) _ (.ref p) (Ext.laid hp) (hr.laid hp ⟨[], upd_same, .nil⟩) (.ref ?_)
  rw [← hr.len]
  simp⟩
end
structure Ext0 (μ : List Addr) (H : Hp) (μ' : List Addr) (H' : Hp) : Prop where
  nums : ∀ (n : Nat) (a : Addr), μ[n]? = some a → μ'[n]? = some a
  tups : ∀ a xs, H a = some (.tup xs) → H' a = some (.tup xs)
  frzs : ∀ a o xs, H a = some (.frz o (.lst xs)) → H' a = some (.frz o (.lst xs))
  frzt : ∀ a o xs, H a = some (.frz o (.tup xs)) → H' a = some (.frz o (.tup xs))
section
variable {K : PySem.W.Frag} {μ μ' : List Addr} {H H' : Hp}
theorem Ext0.sqt (e : Ext0 μ H μ' H') {a : Addr} {vs : List V} (h : SqT K H a vs) : SqT K H' a vs := by
  rcases h with (h | ⟨o, h⟩) | h
  · exact .inl (.inl (e.tups _ _ h))
  · exact .inl (.inr ⟨o, e.frzt _ _ _ h⟩)
  · exact .inr h
theorem Ext0.frz (e : Ext0 μ H μ' H') {a : Addr} {vs : List V} (h : Frz K H a vs) : Frz K H' a vs := by
  rcases h with ⟨o, h⟩ | h
  · exact .inl ⟨o, e.frzs _ _ _ h⟩
  · exact .inr h
mutual
theorem Rep.ext0 {v : V} {d : D} (e : Ext0 μ H μ' H') : Rep K μ H v d → Rep K μ' H' v d
  | .non => .non
  | .bl b => .bl b
  | .int i => .int i
  | .str x => .str x
  | .ty n => .ty n
  | .tup h r => .tup (e.sqt h) (RepAll.ext0 e r)
  | .rol h r => .rol (e.frz h) (RepAll.ext0 e r)
  | .ref h => .ref (e.nums _ _ h)
  | .con a => .con a
theorem RepAll.ext0 {vs : List V} {ds : List D} (e : Ext0 μ H μ' H') : RepAll K μ H vs ds → RepAll K μ' H' vs ds
  | .nil => .nil
  | .cons r t => .cons (Rep.ext0 e r) (RepAll.ext0 e t)
end
theorem KRep.ext0 {κ : Type} (e : Ext0 μ H μ' H') : ∀ {kvs : List (κ × V)} {kds : List (κ × D)}, KRep K μ H kvs kds → KRep K μ' H' kvs kds
  | _, _, .nil => .nil
  | _, _, .cons r t => .cons (r.ext0 e) (KRep.ext0 e t)
theorem MRep.ext0 {a : Addr} {o : MO} (m : MRep K μ H a o) (e : Ext0 μ H μ' H') (h : H' a = H a) : MRep K μ' H' a o := by
  cases o with
  | lst ds => obtain ⟨vs, q, r⟩ := m; exact ⟨vs, h.trans q, r.ext0 e⟩
  | dK ds => obtain ⟨vs, q, r⟩ := m; exact ⟨vs, h.trans q, r.ext0 e⟩
  | dF ds => obtain ⟨o, vs, q, r⟩ := m; exact ⟨o, vs, h.trans q, r.ext0 e⟩
  | dT ds => obtain ⟨vs, q, r⟩ := m; exact ⟨vs, h.trans q, r.ext0 e⟩
  | dG ds => obtain ⟨o, vs, q, r⟩ := m; exact ⟨o, vs, h.trans q, r.ext0 e⟩
theorem SRel.ext0 {σ : L2.St} {s : Sl} (r : SRel K μ H σ s) (e : Ext0 μ H μ' H') : SRel K μ' H' σ s := ⟨r.1, fun i d h => by
  obtain ⟨v, h1, h2⟩ := r.2 i d h
  exact ⟨v, h1, h2.ext0 e⟩⟩
theorem HRel.turn {n : Nat} {a : Addr} {o : HO} {m : MO} {hd : Hd} (r : HRel K μ H hd) (hn : μ[n]? = some a) (ex : Ext0 μ H μ (upd H a o)) (q : MRep K μ (upd H a o) a m) : HRel K μ (upd H a o) (hd.set n m) := by
  refine ⟨by simp [r.len], r.nd, fun k b z h1 h2 => ?_⟩
  by_cases hk : n = k
  · subst hk
    rw [hn] at h1; cases h1
    have hl : n < hd.length := by rw [← r.len]; exact (List.getElem?_eq_some_iff.mp hn).1
    rw [List.getElem?_set_self hl] at h2
    cases h2
    exact q
  · rw [List.getElem?_set_ne hk] at h2
    have ne : b ≠ a := fun e => hk (r.nd n k a hn (by rw [h1, e]))
    exact (r.obj k b z h1 h2).ext0 ex (upd_ne ne)
end
def SR.unl (n : Nat) : SR → SR
  | .nx s h => (match h[n]? with
    | some (.dF kds) => .nx s (h.set n (.dK kds))
    | _ => .bad)
  | .rt d h => (match h[n]? with
    | some (.dF kds) => .rt d (h.set n (.dK kds))
    | _ => .bad)
  | .exc x s h => .exc x s h
  | .bad => .bad
def sLock (e : EM) (m : SM) : SM := fun s h => match e s h with
  | .ok (.ref n) _ => (match h[n]? with
    | some (.dK kds) => (m s (h.set n (.dF kds))).unl n
    | _ => m s h)
  | _ => m s h
section
variable {K : PySem.W.Frag} {μ μ' : List Addr} {H H' : Hp} {hd : Hd} {a : Addr} {od : Obj} {kvs : List (Key × V)}
theorem ext0_lock (h : H a = some (.dK kvs)) : Ext0 μ H μ (upd H a (.frz od (.dK kvs))) := by
  have ne : ∀ b o, H b = some o → o ≠ .dK kvs → b ≠ a := fun b o q nk e => by
    rw [e, h] at q
    cases q
    exact nk rfl
  exact ⟨fun _ _ h => h, fun b xs q => by rw [upd_ne (ne b _ q (by intro w; cases w))]; exact q, fun b o xs q => by rw [upd_ne (ne b _ q (by intro w; cases w))]; exact q, fun b o xs q => by rw [upd_ne (ne b _ q (by intro w; cases w))]; exact q⟩
theorem ext_lock (h : H a = some (.dK kvs)) (e : Ext μ (upd H a (.frz od (.dK kvs))) μ' H') : Ext μ H μ' H' := by
  have ne : ∀ b o, H b = some o → o ≠ .dK kvs → b ≠ a := fun b o q nk e => by
    rw [e, h] at q
    cases q
    exact nk rfl
  refine ⟨e.nums, fun b xs q => e.tups b xs ?_, fun b o st q => e.stay b o st ?_⟩
  · rw [upd_ne (ne b _ q (by intro w; cases w))]
    exact q
  · rw [upd_ne (ne b _ q (by intro w; subst w; exact st))]
    exact q
theorem ext0_unlock (h : H a = some (.frz od (.dK kvs))) : Ext0 μ H μ (upd H a (.dK kvs)) := by
  have ne : ∀ b o, H b = some o → o ≠ .frz od (.dK kvs) → b ≠ a := fun b o q nk e => by
    rw [e, h] at q
    cases q
    exact nk rfl
  exact ⟨fun _ _ h => h, fun b xs q => by rw [upd_ne (ne b _ q (by intro w; cases w))]; exact q, fun b o xs q => by rw [upd_ne (ne b _ q (by intro w; cases w))]; exact q, fun b o xs q => by rw [upd_ne (ne b _ q (by intro w; cases w))]; exact q⟩
theorem ext_unlock (h : H a = some (.dK kvs)) (e : Ext μ (upd H a (.frz od (.dK kvs))) μ' H') : Ext μ H μ' (upd H' a (.dK kvs)) := by
  have ne : ∀ b o, H b = some o → o ≠ .dK kvs → b ≠ a := fun b o q nk e => by
    rw [e, h] at q
    cases q
    exact nk rfl
  have e2 := ext_lock h e
  refine ⟨e.nums, fun b xs q => ?_, fun b o st q => ?_⟩
  · rw [upd_ne (ne b _ q (by intro w; cases w))]
    exact e2.tups b xs q
  · rw [upd_ne (ne b _ q (by intro w; subst w; exact st))]
    exact e2.stay b o st q
end
theorem ds_lock {X : Cx} {W : XW} {st : Stmt} {m : SM} (e : EM) (h : DS X W st m) : DS X W st (sLock e m) := ⟨⟨fun pins s σ H D I ⟨μ, sl, hd, sr, hr, f⟩ => by
  unfold sLock at f
  split at f
  · rename_i n h2 en
    split at f
    · rename_i kds q
      have hn : ∃ a, μ[n]? = some a := by
        have hl := (List.getElem?_eq_some_iff.mp q).1
        rw [← hr.len] at hl
        exact ⟨_, List.getElem?_eq_getElem hl⟩
      obtain ⟨a, hn⟩ := hn
      obtain ⟨kvs, h1, h2⟩ := hr.obj _ _ _ hn q
      refine (ps_lock h.ps).run pins s σ H D I ⟨a, _, h1, trivial, fun od => ?_⟩
      have e0 : Ext0 μ H μ (upd H a (.frz od (.dK kvs))) := ext0_lock h1
      refine ⟨μ, sl, hd.set n (.dF kds), sr.ext0 e0, hr.turn hn e0 ⟨od, kvs, upd_same, h2.ext0 e0⟩, ?_⟩
      have back : ∀ {μ' : List Addr} {H' : Hp} {h' : Hd}, Ext μ (upd H a (.frz od (.dK kvs))) μ' H' → HRel X.K μ' H' h' → ∀ kds', h'[n]? = some (.dF kds') → H' a = some (.frz od (.dK kvs)) ∧ HRel X.K μ' (upd H' a (.dK kvs)) (h'.set n (.dK kds')) := fun {μ' H' h'} e hr' kds' q' => by
        have ea : H' a = some (.frz od (.dK kvs)) := e.stay a _ trivial upd_same
        have hn' := e.nums n a hn
        obtain ⟨o', kvs', g1, g2⟩ := hr'.obj _ _ _ hn' q'
        rw [ea] at g1
        cases g1
        exact ⟨ea, hr'.turn hn' (ext0_unlock ea) ⟨kvs, upd_same, g2.ext0 (ext0_unlock ea)⟩⟩
      cases z : m sl (hd.set n (.dF kds)) with
      | bad => rw [z] at f; exact f.elim
      | exc x s1 h1' =>
        rw [z] at f
        exact fun μ' H' σ' o e hr' sr' xr => f μ' H' σ' o (ext_lock h1 e) hr' sr' xr
      | nx s1 h1' =>
        rw [z] at f
        unfold SR.unl at f
        simp only at f
        split at f
        · rename_i kds' q'
          intro μ' H' σ' e hr' sr'
          obtain ⟨ea, hb⟩ := back e hr' kds' q'
          exact ⟨ea, f μ' _ σ' (ext_unlock h1 e) hb (sr'.ext0 (ext0_unlock ea))⟩
        · exact f.elim
      | rt d h1' =>
        rw [z] at f
        unfold SR.unl at f
        simp only at f
        split at f
        · rename_i kds' q'
          intro μ' H' v e hr' rv
          obtain ⟨ea, hb⟩ := back e hr' kds' q'
          exact ⟨ea, f μ' _ v (ext_unlock h1 e) hb (rv.ext0 (ext0_unlock ea))⟩
        · exact f.elim
    · exact h.ps.run pins s σ H D I ⟨μ, sl, hd, sr, hr, f⟩
  · exact h.ps.run pins s σ H D I ⟨μ, sl, hd, sr, hr, f⟩⟩⟩
def dctF (h : Hd) : D → Option (List (Key × D))
  | .ref n => (match h[n]? with
    | some (.dF kvs) => some kvs
    | _ => none)
  | _ => none
def iItm (m : EM) : IM := fun s h => (m s h).bind fun x h1 => match dctF h1 x with
  | some kvs => .ok (kvs.map (fun kv => .tup [kD kv.1, kv.2]), fun _ => True) h1
  | none => .bad
def iVal (m : EM) : IM := fun s h => (m s h).bind fun x h1 => match dctF h1 x with
  | some kvs => .ok (kvs.map (fun kv => kv.2), fun _ => True) h1
  | none => .bad
section
variable {K : PySem.W.Frag} {μ : List Addr} {H : Hp} {hd : Hd}
theorem KRep.get {κ : Type} : ∀ {kvs : List (κ × V)} {kds : List (κ × D)} {i : Nat} {k : κ} {d : D}, KRep K μ H kvs kds → kds[i]? = some (k, d) → ∃ v, kvs[i]? = some (k, v) ∧ Rep K μ H v d
  | _, _, _, _, _, .nil, e => by simp at e
  | _, _, 0, _, _, .cons r _, e => by
    simp at e
    obtain ⟨e1, e2⟩ := e
    subst e1 e2
    exact ⟨_, rfl, r⟩
  | _, _, i + 1, _, _, .cons _ t, e => by
    obtain ⟨v, h1, h2⟩ := KRep.get (i := i) t (by simpa using e)
    exact ⟨v, by simpa using h1, h2⟩
theorem dctF_rep {x : V} {d : D} {kds : List (Key × D)} (hr : HRel K μ H hd) (r : Rep K μ H x d) (e : dctF hd d = some kds) : ∃ a o kvs, x = .ref a ∧ H a = some (.frz o (.dK kvs)) ∧ KRep K μ H kvs kds := by
  cases r with
  | ref hn =>
    unfold dctF at e
    simp only at e
    split at e
    · rename_i q
      cases e
      obtain ⟨o, kvs, h1, h2⟩ := hr.obj _ _ _ hn q
      exact ⟨_, o, kvs, rfl, h1, h2⟩
    · cases e
  | _ => cases e
end
section
variable {X : Cx} {W : XW} {e tg : Expr} {m : EM} {apos cpos tpos : Pos}
theorem di_items {elts : List Expr} {kk : Nat} (he : DE X W e m) (hbase : attributeBase e "items" X.env (eval e X.env) = eval e X.env := by rfl) (hline : (apos.endLine == cpos.line) = true := by rfl) :
    DI X W (.Tuple elts kk tpos) (.Call (.Attribute e "items" apos) [] [] cpos) (iItm m) := ⟨PI.imp (pi_items he.pe hbase hline) fun σ H Q ⟨μ, s, hd, sr, hr, f⟩ => by
  refine ⟨μ, s, hd, sr, hr, (FinG.bind f).imp ?_⟩
  rintro x H1 ⟨μ1, hd1, dx, e1, hr1, rx, f1⟩
  split at f1
  · rename_i kds ek
    obtain ⟨a, o, kvs, rfl, ha, kr⟩ := dctF_rep hr1 rx ek
    refine ⟨a, o, kvs, rfl, ha, f1 μ1 H1 _ .refl hr1 fun μ' H' hd' ex hr' _ i => ⟨fun d hdi => ?_, fun hi => ⟨ex.stay _ _ trivial ha, by rw [kr.length]; simp only [List.length_map] at hi; omega⟩⟩⟩
    rw [List.getElem?_map] at hdi
    obtain ⟨⟨k, dv⟩, hk, rfl⟩ := Option.map_eq_some_iff.mp hdi
    obtain ⟨v, hv, rv⟩ := kr.get hk
    refine ⟨⟨ex.stay _ _ trivial ha, (List.getElem?_eq_some_iff.mp hv).1⟩, fun x H'' ⟨T, k', v', h1, h2, h3, h4⟩ => ?_⟩
    rw [hv] at h1
    cases h1
    subst h2 h4
    exact ⟨Ext.new h3, hr'.new h3, .tup (.inl (.inl upd_same)) (.cons kD_rep (.cons ((rv.ext ex).ext (Ext.new h3)) .nil))⟩
  · exact f1.elim⟩
theorem di_values (he : DE X W e m) (hbase : attributeBase e "values" X.env (eval e X.env) = eval e X.env := by rfl) (hline : (apos.endLine == cpos.line) = true := by rfl) : DI X W tg (.Call (.Attribute e "values" apos) [] [] cpos) (iVal m) := ⟨PI.imp (pi_values he.pe hbase hline) fun σ H Q ⟨μ, s, hd, sr, hr, f⟩ => by
  refine ⟨μ, s, hd, sr, hr, (FinG.bind f).imp ?_⟩
  rintro x H1 ⟨μ1, hd1, dx, e1, hr1, rx, f1⟩
  split at f1
  · rename_i kds ek
    obtain ⟨a, o, kvs, rfl, ha, kr⟩ := dctF_rep hr1 rx ek
    refine ⟨a, o, kvs, rfl, ha, f1 μ1 H1 _ .refl hr1 fun μ' H' hd' ex hr' _ i => ⟨fun d hdi => ?_, fun hi => ⟨ex.stay _ _ trivial ha, by rw [kr.length]; simp only [List.length_map] at hi; omega⟩⟩⟩
    rw [List.getElem?_map] at hdi
    obtain ⟨⟨k, dv⟩, hk, rfl⟩ := Option.map_eq_some_iff.mp hdi
    obtain ⟨v, hv, rv⟩ := kr.get hk
    refine ⟨⟨ex.stay _ _ trivial ha, (List.getElem?_eq_some_iff.mp hv).1⟩, fun x H'' ⟨h0, k', h1⟩ => ?_⟩
    rw [hv] at h1
    cases h1
    subst h0
    exact ⟨.refl, hr', rv.ext ex⟩
  · exact f1.elim⟩
end
def Res.unl {α : Type} (n : Nat) : Res α → Res α
  | .ok d h => (match h[n]? with
    | some (.dF kds) => .ok d (h.set n (.dK kds))
    | _ => .bad)
  | _ => .bad
def eLock (e : EM) (m : EM) : EM := fun s h => match e s h with
  | .ok (.ref n) _ => (match h[n]? with
    | some (.dK kds) => (m s (h.set n (.dF kds))).unl n
    | _ => m s h)
  | _ => m s h
theorem de_lock {X : Cx} {W : XW} {x : Expr} {m : EM} (e : EM) (h : DE X W x m) : DE X W x (eLock e m) := ⟨⟨fun pins s σ H Q I ⟨μ, sl, hd, sr, hr, f⟩ => by
  unfold eLock at f
  split at f
  · rename_i n h2 en
    split at f
    · rename_i kds q
      have hn : ∃ a, μ[n]? = some a := by
        have hl := (List.getElem?_eq_some_iff.mp q).1
        rw [← hr.len] at hl
        exact ⟨_, List.getElem?_eq_getElem hl⟩
      obtain ⟨a, hn⟩ := hn
      obtain ⟨kvs, h1, h2⟩ := hr.obj _ _ _ hn q
      refine (pe_lock h.pe).run pins s σ H Q I ⟨a, _, h1, trivial, fun od => ?_⟩
      have e0 : Ext0 μ H μ (upd H a (.frz od (.dK kvs))) := ext0_lock h1
      refine ⟨μ, sl, hd.set n (.dF kds), sr.ext0 e0, hr.turn hn e0 ⟨od, kvs, upd_same, h2.ext0 e0⟩, ?_⟩
      cases z : m sl (hd.set n (.dF kds)) with
      | bad => rw [z] at f; exact f.elim
      | exc x h1' => rw [z] at f; exact f.elim
      | ok d h1' =>
        rw [z] at f
        unfold Res.unl at f
        simp only at f
        split at f
        · rename_i kds' q'
          intro μ' H' v e hr' rv
          have ea : H' a = some (.frz od (.dK kvs)) := e.stay a _ trivial upd_same
          have hn' := e.nums n a hn
          obtain ⟨o', kvs', g1, g2⟩ := hr'.obj _ _ _ hn' q'
          rw [ea] at g1
          cases g1
          exact ⟨ea, f μ' _ v (ext_unlock h1 e) (hr'.turn hn' (ext0_unlock ea) ⟨kvs, upd_same, g2.ext0 (ext0_unlock ea)⟩) (Rep.ext0 (ext0_unlock ea) rv)⟩
        · exact f.elim
    · exact h.pe.run pins s σ H Q I ⟨μ, sl, hd, sr, hr, f⟩
  · exact h.pe.run pins s σ H Q I ⟨μ, sl, hd, sr, hr, f⟩⟩⟩
end DL
namespace DL
open PySem PySem.Spec PyProof.Rows L2
section
variable {X : Cx} {W : XW} {o e f : Expr} {mo me mf : EM} {apos cpos : Pos}
end
end DL
namespace DL
open PySem PySem.Spec PyProof.Rows L2
theorem lt_tri : ∀ a b : List Nat, ltCps a b = false → ltCps b a = false → a = b
  | [], [], _, _ => rfl
  | [], _ :: _, h, _ => by simp [ltCps] at h
  | _ :: _, [], _, h => by simp [ltCps] at h
  | a :: r, b :: t, h1, h2 => by
    simp only [ltCps, Bool.or_eq_false_iff, decide_eq_false_iff_not, Bool.and_eq_false_iff, beq_eq_false_iff_ne] at h1 h2
    have e : a = b := by omega
    subst e
    rw [lt_tri r t (h1.2.resolve_left (by simp)) (h2.2.resolve_left (by simp))]
theorem lt_asym : ∀ a b : List Nat, ltCps a b = true → ltCps b a = false
  | [], [], h => by simp [ltCps] at h
  | [], _ :: _, _ => by simp [ltCps]
  | _ :: _, [], h => by simp [ltCps] at h
  | a :: r, b :: t, h => by
    simp only [ltCps, Bool.or_eq_true, decide_eq_true_eq, Bool.and_eq_true, beq_iff_eq] at h
    simp only [ltCps, Bool.or_eq_false_iff, decide_eq_false_iff_not, Bool.and_eq_false_iff, beq_eq_false_iff_ne]
    rcases h with h | ⟨rfl, h⟩
    · exact ⟨by omega, .inl (by omega)⟩
    · exact ⟨by omega, .inr (lt_asym r t h)⟩
theorem le_tr : ∀ a b c : List Nat, ltCps b a = false → ltCps c b = false → ltCps c a = false
  | [], b, c, h1, h2 => by cases c <;> simp [ltCps]
  | a :: r, [], c, h1, h2 => by simp [ltCps] at h1
  | a :: r, b :: t, [], h1, h2 => by simp [ltCps] at h2
  | a :: r, b :: t, c :: u, h1, h2 => by
    simp only [ltCps, Bool.or_eq_false_iff, decide_eq_false_iff_not, Bool.and_eq_false_iff, beq_eq_false_iff_ne] at h1 h2 ⊢
    refine ⟨by omega, ?_⟩
    by_cases e : c = a
    · have e1 : b = a := by omega
      subst e e1
      exact .inr (le_tr r t u (h1.2.resolve_left (by simp)) (h2.2.resolve_left (by simp)))
    · exact .inl e
def leT (a b : Str) : Prop := ltCps b.cps.toList a.cps.toList = false
theorem leT_tri {a b : Str} (h1 : leT a b) (h2 : leT b a) : a = b := by
  have := lt_tri _ _ h2 h1
  cases a
  cases b
  simp only at this
  rw [Array.toList_inj.mp this]
theorem leT_tr {a b c : Str} (h1 : leT a b) (h2 : leT b c) : leT a c := le_tr _ _ _ h1 h2
theorem sortedS_pw : ∀ {l : List Str}, sortedS l = true → l.Pairwise leT
  | [], _ => .nil
  | [_], _ => by simp
  | x :: y :: l, h => by
    have h : (!ltCps y.cps.toList x.cps.toList && risingS y l) = true := h
    rw [Bool.and_eq_true] at h
    have ih := sortedS_pw (l := y :: l) h.2
    have xy : leT x y := by unfold leT; simpa using h.1
    refine List.pairwise_cons.mpr ⟨fun z hz => ?_, ih⟩
    rcases List.mem_cons.mp hz with rfl | hz
    · exact xy
    · exact leT_tr xy ((List.pairwise_cons.mp ih).1 z hz)
def insT (x : Str) : List Str → List Str
  | [] => [x]
  | y :: l => if ltCps y.cps.toList x.cps.toList = true then y :: insT x l else x :: y :: l
def sortT (l : List Str) : List Str := l.foldr insT []
theorem insT_perm {x : Str} : ∀ l : List Str, (insT x l).Perm (x :: l)
  | [] => .refl _
  | y :: l => by
    unfold insT
    split
    · exact ((insT_perm l).cons y).trans (.swap x y l)
    · exact .refl _
theorem sortT_perm : ∀ l : List Str, (sortT l).Perm l
  | [] => .refl _
  | x :: l => (insT_perm _).trans ((sortT_perm l).cons x)
theorem insT_pw {x : Str} : ∀ {l : List Str}, l.Pairwise leT → (insT x l).Pairwise leT
  | [], _ => by simp [insT]
  | y :: l, h => by
    unfold insT
    obtain ⟨h1, h2⟩ := List.pairwise_cons.mp h
    split
    · rename_i c
      refine List.pairwise_cons.mpr ⟨fun z hz => ?_, insT_pw h2⟩
      rcases List.mem_cons.mp ((insT_perm l).mem_iff.mp hz) with rfl | hz
      · exact lt_asym _ _ c
      · exact h1 z hz
    · rename_i c
      have xy : leT x y := by unfold leT; simpa using c
      refine List.pairwise_cons.mpr ⟨fun z hz => ?_, h⟩
      rcases List.mem_cons.mp hz with rfl | hz
      · exact xy
      · exact leT_tr xy (h1 z hz)
theorem sortT_pw : ∀ l : List Str, (sortT l).Pairwise leT
  | [] => .nil
  | x :: l => insT_pw (sortT_pw l)
theorem sortT_uniq {ys xs : List Str} (p : ys.Perm xs) (h : sortedS ys = true) : ys = sortT xs :=
  List.Perm.eq_of_pairwise (le := leT) (fun _ _ _ _ h1 h2 => leT_tri h1 h2) (sortedS_pw h) (sortT_pw xs) (p.trans (sortT_perm xs).symm)
def strsOf : List D → Option (List Str)
  | [] => some []
  | .str x :: l => (strsOf l).map (x :: ·)
  | _ => none
def namesOf : List (Key × D) → Option (List Str)
  | [] => some []
  | (.inr x, _) :: l => (namesOf l).map (x :: ·)
  | _ => none
section
variable {K : PySem.W.Frag} {μ : List Addr} {H : Hp} {hd : Hd}
theorem strsOf_rep : ∀ {vs : List V} {ds : List D} {xs : List Str}, RepAll K μ H vs ds → strsOf ds = some xs → vs = xs.map V.str
  | _, _, _, .nil, e => by cases e; rfl
  | _, _, _, .cons r t, e => by
    cases r with
    | str x =>
      unfold strsOf at e
      obtain ⟨l, hl, rfl⟩ := Option.map_eq_some_iff.mp e
      rw [strsOf_rep t hl]
      rfl
    | _ => cases e
theorem strs_rep30 : ∀ {xs : List Str}, RepAll K μ H (xs.map V.str) (xs.map D.str)
  | [] => .nil
  | x :: xs => .cons (.str x) strs_rep30
theorem namesOf_rep : ∀ {kvs : List (Key × V)} {kds : List (Key × D)} {xs : List Str}, KRep K μ H kvs kds → namesOf kds = some xs → kvs.map (·.1) = xs.map Sum.inr
  | _, _, _, .nil, e => by cases e; rfl
  | _, _, _, .cons (k := k) r t, e => by
    cases k with
    | inl i => cases e
    | inr x =>
      unfold namesOf at e
      obtain ⟨l, hl, rfl⟩ := Option.map_eq_some_iff.mp e
      rw [List.map_cons, namesOf_rep t hl]
      rfl
end
def bSortT (ds : List D) : M D := fun h => match ds with
  | [x] => (match (match dctOf h x with
      | some kvs => namesOf kvs
      | none => (lstOf h x).bind strsOf) with
    | some xs => if xs.length < 64 then .ok (.ref h.length) (h ++ [.lst ((sortT xs).map D.str)]) else .bad
    | none => .bad)
  | _ => .bad
abbrev rSortD : List V → Hp → VK → Prop := fun xs H Q => ∃ (a : Addr) (kvs : List (Key × V)) (ks : List Str), xs = [.ref a] ∧ Rd H a (.dK kvs) ∧ kvs.map (·.1) = ks.map Sum.inr ∧ ks.length < 64 ∧ ∀ ys p, ys.Perm ks → sortedS ys = true → H p = none → Q (.ref p) (upd H p (.lst (ys.map V.str)))
theorem lift_sortT {K : PySem.W.Frag} : LiftN K (fun xs H Q => rSortedS K xs H Q ∨ rSortD xs H Q) bSortT := fun μ H hd xs dx W σ Q hr rx f => by
  unfold bSortT at f
  split at f
  · rename_i x
    cases rx with
    | cons r1 r2 =>
      cases r2
      split at f
      · rename_i ns en
        split at f
        · rename_i hl
          have go : ∀ (ys : List Str) (p : Addr), ys.Perm ns → sortedS ys = true → H p = none → Q (.ref p) (upd H p (.lst (ys.map V.str))) := fun ys p hp hs hn => by
            rw [sortT_uniq hp hs]
            refine f (μ ++ [p]) _ (.ref p) (Ext.laid hn) (hr.laid hn ⟨_, upd_same, strs_rep30⟩) (.ref ?_)
            rw [← hr.len]
            simp
          split at en
          · rename_i kds ek
            obtain ⟨a, kvs, rfl, rd, kr⟩ := dctOf_rep hr r1 ek
            exact .inr ⟨a, kvs, ns, rfl, rd, namesOf_rep kr en, hl, go⟩
          · obtain ⟨ds, el, es⟩ := Option.bind_eq_some_iff.mp en
            obtain ⟨a, vs, rfl, hs, rr⟩ := lstOf_rep hr r1 el
            have ev := strsOf_rep rr es
            subst ev
            exact .inl ⟨a, ns, rfl, hs, hl, go⟩
        · exact f.elim
      · exact f.elim
  · exact f.elim
theorem call_sortT {X : Cx} (hc : X.calm = true) : CallR X (.builtin "sorted") (fun xs H Q => rSortedS X.K xs H Q ∨ rSortD xs H Q) := callR_or cr_sortedS (call_sortedD hc)
end DL
namespace DL
open PySem PySem.Spec PyProof.Rows L2
section
variable {K : PySem.W.Frag} {μ : List Addr} {H : Hp} {hd : Hd}
end
end DL
namespace DL
open PySem PySem.Spec PyProof.Rows L2
theorem hu1 {k : Nat} {A : Around} (r : Room k A) : A.units + 1 < cLine := by have := r.un; omega
section
variable {prog : Program} {w : World}
open PySem.MeetsSeq PySem.MeetsSeq2 PySem.MeetsSeq3
open AutoSeq1 (wpAny_loadPart')
end
section
variable {prog : Program} {w : World} {A : Around} {s : Shared}
variable {K : Type} [DecidableEq K] {knd : KeyKind prog w K}
end
section
variable {X : Cx} {pins : List (Addr × Obj)} {σ : L2.St} {H : Hp} {s : Shared}
end
section
variable {K : PySem.W.Frag} {μ : List Addr} {H : Hp} {hd : Hd} {F : D → D → Bool} {E : V → V → Prop}
end
section
variable {X : Cx}
end
section
variable {X : Cx} {W : XW} {o i : Expr} {mo mi : EM} {pos : Pos}
end
end DL
namespace DL
open PySem PySem.Spec PyProof.Rows L2
end DL
namespace DL
open PySem PySem.Spec PyProof.Rows L2
def kCh (g' : D → D → M D) (y : D) (c : EM) (s : Sl) : D → M D := fun d h => match d with
  | .bl true => (c s h).bind fun z h4 => g' y z h4
  | .bl false => .ok (.bl false) h
  | _ => .bad
def eCh (g g' : D → D → M D) (a b c : EM) : EM := fun s h => (a s h).bind fun x h1 => (b s h1).bind fun y h2 => (g x y h2).bind (kCh g' y c s)
section
variable {X : Cx} {W : XW} {a b c : Expr} {ma mb mc : EM} {pos : Pos} {op op' : CmpOp} {r r' : R2} {g g' : D → D → M D}
theorem chain_of (l : Lift2 X.K r g) (l' : Lift2 X.K r' g') {σ : L2.St} {H : Hp} {Q : VK} (h : TEof X.K W (eCh g g' ma mb mc) σ H Q) : tChain r r' (TEof X.K W ma) (TEof X.K W mb) (TEof X.K W mc) σ H Q := by
  obtain ⟨μ, s, hd, sr, hr, f⟩ := h
  refine ⟨μ, s, hd, sr, hr, (FinG.bind f).imp ?_⟩
  rintro x H1 ⟨μ1, hd1, dx, e1, hr1, rx, f1⟩
  refine ⟨μ1, s, hd1, sr.ext e1, hr1, (FinG.bind f1).imp ?_⟩
  rintro y H2 ⟨μ2, hd2, dy, e2, hr2, ry, f2⟩
  refine l μ2 H2 hd2 x y dx dy W σ _ hr2 (rx.ext e2) ry ((FinG.bind f2).imp ?_)
  rintro z H3 ⟨μ3, hd3, dz, e3, hr3, rz, f3⟩
  cases rz with
  | bl k =>
    cases k with
    | false => exact ⟨false, rfl, (if_neg (by decide)).mpr (f3.ok hr3 (.bl false))⟩
    | true =>
      refine ⟨true, rfl, (if_pos rfl).mpr ⟨μ3, s, hd3, ((sr.ext e1).ext e2).ext e3, hr3, (FinG.bind f3).imp ?_⟩⟩
      rintro w H4 ⟨μ4, hd4, dw, e4, hr4, rw', f4⟩
      exact l' μ4 H4 hd4 y w dy dw W σ Q hr4 ((ry.ext e3).ext e4) rw' f4
  | _ => exact f3.elim
theorem dt_chain (o : OpR X (compareOp op) r) (l : Lift2 X.K r g) (o' : OpR X (compareOp op') r') (l' : Lift2 X.K r' g') (ha : DE X W a ma) (hb : DE X W b mb) (hc : DE X W c mc)
    (hm : lastMarks [op, op'] [b, c] = false := by with_unfolding_all rfl) : DT X W (.Compare a [op, op'] [b, c] pos) (tB' (eCh g g' ma mb mc)) := ⟨PT.imp (pt_chain o o' ha.pe hb.pe hc.pe hm) fun σ H Q h => chain_of l l' (tof_B h)⟩
end
end DL
namespace DL
open PySem PySem.Spec PyProof.Rows L2
section
variable {K : PySem.W.Frag} {μ : List Addr} {H : Hp} {hd : Hd}
end
end DL
namespace DL
open PySem PySem.Spec PyProof.Rows L2
def keyP : Key → PyData
  | .inl i => .int i
  | .inr x => .str x
section
variable (K : PySem.W.Frag) (H : Hp)
mutual
inductive DpN : V → PyData → Prop
  | non : DpN .non .none
  | bl (b : Bool) : DpN (.bl b) (.bool b)
  | int (i : Int) : DpN (.int i) (.int i)
  | str (x : Str) : DpN (.str x) (.str x)
  | lst {a : Addr} {xs : List V} {ds : List PyData} : SqL K H a xs → DpNs xs ds → DpN (.ref a) (.list ds)
  | tup {a : Addr} {xs : List V} {ds : List PyData} : SqT K H a xs → DpNs xs ds → DpN (.ref a) (.tuple ds)
  | dic {a : Addr} {kvs : List (Key × V)} {ds : List (PyData × PyData)} : Rd H a (.dK kvs) → DpNk kvs ds → DpN (.ref a) (.dict ds)
inductive DpNs : List V → List PyData → Prop
  | nil : DpNs [] []
  | cons {v : V} {vs : List V} {d : PyData} {ds : List PyData} : DpN v d → DpNs vs ds → DpNs (v :: vs) (d :: ds)
inductive DpNk : List (Key × V) → List (PyData × PyData) → Prop
  | nil : DpNk [] []
  | cons {k : Key} {v : V} {vs : List (Key × V)} {d : PyData} {ds : List (PyData × PyData)} : DpN v d → DpNk vs ds → DpNk ((k, v) :: vs) ((keyP k, d) :: ds)
end
end
mutual
def noL : PyData → Bool
  | .list _ => false
  | .tuple xs => noLs xs
  | .dict kvs => noLk kvs
  | _ => true
def noLs : List PyData → Bool
  | [] => true
  | x :: xs => noL x && noLs xs
def noLk : List (PyData × PyData) → Bool
  | [] => true
  | x :: xs => noL x.2 && noLk xs
end
def noT : PyData → Bool
  | .list xs => noLs xs
  | p => noL p
section
variable {X : Cx} {pins : List (Addr × Obj)} {σ : L2.St} {H : Hp} {s : Shared}
mutual
theorem DpN.rds (I : Inv X pins σ H s) : ∀ {v : V} {d : PyData}, DpN X.K H v d → ∀ u, RelV v u → ∃ l, Reads s.heap u d l ∧ (noL d = true → sysModules ∉ l)
  | _, _, .non, _, r => by
    cases r
    exact ⟨[], .none, fun _ h => by cases h⟩
  | _, _, .bl b, _, r => by
    cases r
    exact ⟨[], .bool b, fun _ h => by cases h⟩
  | _, _, .int i, _, r => by
    obtain ⟨t, rfl⟩ := r
    exact ⟨[], .int i t, fun _ h => by cases h⟩
  | _, _, .str x, _, r => by
    obtain ⟨t, rfl⟩ := r
    exact ⟨[], .str x t, fun _ h => by cases h⟩
  | _, _, .lst hs ha, _, r => by
    cases r
    obtain ⟨its, rv, ⟨o, n, ho, hc, _, hd⟩, _⟩ := I.list hs
    obtain ⟨l, hl, _⟩ := DpNs.rds I ha _ rv
    refine ⟨_, .list ho hc hd hl, fun h => ?_⟩
    unfold noL at h
    cases h
  | _, _, .tup hs ha, _, r => by
    cases r
    obtain ⟨its, rv, ⟨o, ho, hc, n, hd⟩, _⟩ := I.tuple hs
    obtain ⟨l, hl, hn⟩ := DpNs.rds I ha _ rv
    refine ⟨l, .tuple ho hc hd hl, fun h => hn ?_⟩
    unfold noL at h
    exact h
  | _, _, .dic hd hk, _, r => by
    cases r
    obtain ⟨_, hm, vs, rv, dd⟩ := dk_rd I.hok hd
    obtain ⟨l, hl, hn⟩ := DpNk.rds I hk vs rv
    have kk : ∀ (k : Key) (u : Value), (mixKind X.prog X.w).is k u = true → Reads s.heap u (keyP k) [] := fun k u e => by
      rcases keyIs_shape (show keyIs k u = true from e) with ⟨i, t, rfl, rfl⟩ | ⟨x, t, rfl, rfl⟩
      · exact .int i t
      · exact .str x t
    refine ⟨_, PyProof.V.reads_dictOf kk dd hl, fun h hmem => ?_⟩
    unfold noL at h
    rcases List.mem_cons.mp hmem with e | e
    · rw [← e] at hm
      exact absurd hm (by decide)
    · exact hn h e
theorem DpNs.rds (I : Inv X pins σ H s) : ∀ {vs : List V} {ds : List PyData}, DpNs X.K H vs ds → ∀ us, Vals vs us → ∃ l, ReadsAll s.heap us ds l ∧ (noLs ds = true → sysModules ∉ l)
  | _, _, .nil, _, r => by
    cases r
    exact ⟨[], .nil, fun _ h => by cases h⟩
  | _, _, .cons h1 h2, _, r => by
    cases r with
    | cons r1 r2 =>
      obtain ⟨l1, a1, b1⟩ := DpN.rds I h1 _ r1
      obtain ⟨l2, a2, b2⟩ := DpNs.rds I h2 _ r2
      refine ⟨l1 ++ l2, .cons a1 a2, fun h hm => ?_⟩
      unfold noLs at h
      rw [Bool.and_eq_true] at h
      exact (List.mem_append.mp hm).elim (b1 h.1) (b2 h.2)
theorem DpNk.rds (I : Inv X pins σ H s) : ∀ {vs : List (Key × V)} {ds : List (PyData × PyData)}, DpNk X.K H vs ds → ∀ us, KV vs us → ∃ l, PyProof.V.PairsRead s.heap keyP us ds l ∧ (noLk ds = true → sysModules ∉ l)
  | _, _, .nil, _, r => by
    cases r
    exact ⟨[], .nil, fun _ h => by cases h⟩
  | _, _, .cons h1 h2, _, r => by
    cases r with
    | @cons p q _ _ r1 r2 =>
      obtain ⟨k, u⟩ := q
      obtain ⟨e, r1⟩ := r1
      cases (show _ = k from e)
      obtain ⟨l1, a1, b1⟩ := DpN.rds I h1 _ r1
      obtain ⟨l2, a2, b2⟩ := DpNk.rds I h2 _ r2
      refine ⟨l1 ++ l2, .cons a1 a2, fun h hm => ?_⟩
      unfold noLk at h
      rw [Bool.and_eq_true] at h
      exact (List.mem_append.mp hm).elim (b1 h.1) (b2 h.2)
end
def OkP (p : PyData) : Prop := p.showable = true ∧ p.depth ≤ 60 ∧ p.shown.length ≤ sizeLine ∧ (p.hasDict = false ∨ noT p = true)
instance (p : PyData) : Decidable (OkP p) := by
  unfold OkP
  exact inferInstance
theorem call_reprN (hg : X.A.guards = some []) (hu : X.A.units + 64 < cLine) : CallR X (.builtin "repr") (fun xs H Q => ∃ v p, xs = [v] ∧ DpN X.K H v p ∧ OkP p ∧ Q (.str p.shown) H) := by
  intro pins s σ H xs us Q I r h
  obtain ⟨v, p, rfl, dp, ⟨sh, dd, sz, nl⟩, q⟩ := h
  obtain ⟨u, rfl, ru⟩ := vals1 r
  obtain ⟨l, rd, hn⟩ := DpN.rds I dp u ru
  have big : ∀ a, u = .ref a → (p.hasDict = true → sysModules ∉ l) → wpAny (model X.prog X.w) X.A (call (.builtin "repr") [u]) (EP X pins σ Q) X.xe s := fun a e hm => by
    subst e
    exact repr_of_reads' rd sh hm hg (by omega) (fun _ _ z => z) (fun h' u tk hk => ⟨.str _, H, I.kept hk, ⟨_, rfl⟩, q⟩) sz
  cases dp with
  | non =>
    cases ru
    exact P.repr_of_none ⟨.str _, H, I.tok _, ⟨_, rfl⟩, by simpa only [PyData.shown] using q⟩
  | bl b =>
    cases ru
    exact P.repr_of_bool ⟨.str _, H, I.tok _, ⟨_, rfl⟩, by simpa only [PyData.shown] using q⟩
  | int i =>
    obtain ⟨t, rfl⟩ := ru
    exact P.repr_of_int (by simpa [PyData.showable] using sh) ⟨.str _, H, I.tok _, ⟨_, rfl⟩, by simpa only [PyData.shown] using q⟩
  | str x =>
    obtain ⟨t, rfl⟩ := ru
    exact P.repr_of_str ⟨.str _, H, I.tok _, ⟨_, rfl⟩, by simpa only [PyData.shown] using q⟩ (by simpa only [PyData.shown] using sz)
  | @tup a xs ds hs ha =>
    refine big a (show u = Value.ref a from ru) fun hd => ?_
    rcases nl with nl | nl
    · rw [hd] at nl
      cases nl
    · exact hn nl
  | @dic a kvs ds hs ha =>
    refine big a (show u = Value.ref a from ru) fun hd => ?_
    rcases nl with nl | nl
    · rw [hd] at nl
      cases nl
    · exact hn nl
  | @lst a xs ds hs ha =>
    cases hd : (PyData.list ds).hasDict with
    | false => exact big a (show u = Value.ref a from ru) fun h => by rw [hd] at h; cases h
    | true =>
      have nls : noLs ds = true := by
        rcases nl with nl | nl
        · rw [hd] at nl
          cases nl
        · exact nl
      cases (show u = Value.ref a from ru)
      obtain ⟨its, rv, ⟨o, n, ho, hc, _, hda⟩, _⟩ := I.list hs
      obtain ⟨l2, rs, hn2⟩ := DpNs.rds I ha _ rv
      have szs : (listText (PyData.shownAll ds)).length ≤ sizeLine := by simpa only [PyData.shown] using sz
      obtain ⟨bs, hb, hk⟩ := ReprAllK.of_readsAll (prog := X.prog) (w := X.w) rs (by simpa [PyData.showable] using sh) (fun _ => hn2 nls) fun t ht => Nat.le_trans (listText_mem_le ht) szs
      have out : a ∉ bs := not_mem_of_deeper (.list ho hc hda rs) (by simp only [PyData.depth]; omega) hb
      simp only [PyData.depth] at dd
      cases its with
      | nil =>
        cases rs
        simp [PyData.hasDict, PyData.hasDictAll] at hd
      | cons y its =>
        refine call_repr_slot (T := "list") (by omega) ⟨o, ho, hc⟩ PySem.F.slot_list_repr.toG (call_list_reprK ho hc hda out (by simpa using hk.length_eq) (fun i z e => hk.item i z (by simpa using e)) hg (fun b _ => Clear.nil b) (by show X.A.units + 1 + _ < cLine; omega) (fun _ _ z => z) (fun h' u tk hk' => ⟨_, _, rfl, ⟨.str _, H, I.kept hk', ⟨_, rfl⟩, by simpa only [PyData.shown] using q⟩⟩) szs)
end
def pyNs (f : D → Option PyData) : List D → Option (List PyData)
  | [] => some []
  | x :: xs => (f x).bind fun p => (pyNs f xs).map (p :: ·)
def pyNk (f : D → Option PyData) : List (Key × D) → Option (List (PyData × PyData))
  | [] => some []
  | x :: xs => (f x.2).bind fun p => (pyNk f xs).map ((keyP x.1, p) :: ·)
def pyN (h : Hd) : Nat → D → Option PyData
  | 0, _ => none
  | n + 1, d => match d with
    | .non => some .none
    | .bl b => some (.bool b)
    | .int i => some (.int i)
    | .str x => some (.str x)
    | .tup xs => (pyNs (pyN h n) xs).map .tuple
    | x => match lstOf h x with
      | some xs => (pyNs (pyN h n) xs).map .list
      | none => (dctOf h x).bind fun kds => (pyNk (pyN h n) kds).map .dict
noncomputable def bReprN (ds : List D) : M D := fun h => match ds with
  | [x] => (match pyN h 20 x with
    | some p => if OkP p then .ok (.str p.shown) h else .bad
    | none => .bad)
  | _ => .bad
section
variable {K : PySem.W.Frag} {μ : List Addr} {H : Hp} {hd : Hd}
theorem pyNs_rep {f : D → Option PyData} (hf : ∀ v d p, Rep K μ H v d → f d = some p → DpN K H v p) : ∀ {vs : List V} {ds : List D} {ps : List PyData}, RepAll K μ H vs ds → pyNs f ds = some ps → DpNs K H vs ps
  | _, _, _, .nil, e => by
    cases e
    exact .nil
  | _, _, _, .cons r t, e => by
    unfold pyNs at e
    obtain ⟨p, h1, e⟩ := Option.bind_eq_some_iff.mp e
    obtain ⟨l, h2, rfl⟩ := Option.map_eq_some_iff.mp e
    exact .cons (hf _ _ _ r h1) (pyNs_rep hf t h2)
theorem pyNk_rep {f : D → Option PyData} (hf : ∀ v d p, Rep K μ H v d → f d = some p → DpN K H v p) : ∀ {vs : List (Key × V)} {ds : List (Key × D)} {ps : List (PyData × PyData)}, KRep K μ H vs ds → pyNk f ds = some ps → DpNk K H vs ps
  | _, _, _, .nil, e => by
    cases e
    exact .nil
  | _, _, _, .cons r t, e => by
    unfold pyNk at e
    obtain ⟨p, h1, e⟩ := Option.bind_eq_some_iff.mp e
    obtain ⟨l, h2, rfl⟩ := Option.map_eq_some_iff.mp e
    exact .cons (hf _ _ _ r h1) (pyNk_rep hf t h2)
theorem pyN_rep (hr : HRel K μ H hd) : ∀ (n : Nat) (v : V) (d : D) (p : PyData), Rep K μ H v d → pyN hd n d = some p → DpN K H v p
  | 0, _, _, _, _, e => by cases e
  | n + 1, v, d, p, r, e => by
    have ih := pyN_rep hr n
    have go : (match lstOf hd d with
      | some xs => (pyNs (pyN hd n) xs).map .list
      | none => (dctOf hd d).bind fun kds => (pyNk (pyN hd n) kds).map .dict) = some p → DpN K H v p := fun e => by
      split at e
      · rename_i xs el
        obtain ⟨ps, h1, rfl⟩ := Option.map_eq_some_iff.mp e
        obtain ⟨a, vs, rfl, hs, rr⟩ := lstOf_rep hr r el
        exact .lst hs (pyNs_rep ih rr h1)
      · obtain ⟨kds, h1, e⟩ := Option.bind_eq_some_iff.mp e
        obtain ⟨ps, h2, rfl⟩ := Option.map_eq_some_iff.mp e
        obtain ⟨a, kvs, rfl, rd, kr⟩ := dctOf_rep hr r h1
        exact .dic rd (pyNk_rep ih kr h2)
    cases r with
    | non => cases e; exact .non
    | bl b => cases e; exact .bl b
    | int i => cases e; exact .int i
    | str x => cases e; exact .str x
    | tup hs ra =>
      obtain ⟨ps, h1, rfl⟩ := Option.map_eq_some_iff.mp e
      exact .tup hs (pyNs_rep ih ra h1)
    | _ => exact go e
theorem lift_reprN : LiftN K (fun xs H Q => ∃ v p, xs = [v] ∧ DpN K H v p ∧ OkP p ∧ Q (.str p.shown) H) bReprN := fun μ H hd xs dx W σ Q hr rx f => by
  unfold bReprN at f
  split at f
  · split at f
    · rename_i p ep
      split at f
      · rename_i ok
        cases rx with
        | cons r1 r2 =>
          cases r2
          exact ⟨_, p, rfl, pyN_rep hr _ _ _ _ r1 ep, ok, FinG.ok (R := RD K) f hr (.str _)⟩
      · exact f.elim
    · exact f.elim
  · exact f.elim
end
theorem de_reprN {X : Cx} {W : XW} {x : Str} {e : Expr} {es : List Expr} {p pos : Pos} {mr : AM} (hgd : X.A.guards = some []) (hu : X.A.units + 64 < cLine) (hm : X.mg x = none) (ha : DA X W (e :: es) mr) (hg : Gl X x := by rfl) (hv : bootBuiltins x = some (.builtin "repr") := by decide +kernel) (hn : x ≠ "__name__" := by decide) (hdb : (x == ("__debug__" : Str)) = false := by decide)
    (he : starEach (e :: es) X.env = (false, eval e X.env) :: starEach es X.env := by rfl) (hpl : (backTo pos (starEach es X.env)).any (·.1) = false := by rfl) : DE X W (.Call (.Name x p) (e :: es) [] pos) (eA bReprN mr) :=
  de_bt (call_reprN hgd hu) lift_reprN hm ha hg hv hn hdb he hpl
end DL
namespace DL
open PySem PySem.Spec PyProof.Rows L2
section
variable {P : Program} {w : World} {A : Around} {E : Value → Shared → Prop} {s : Shared} {h h' : Heap} {a : Addr} {l : List Str}
end
end DL
namespace DL
open PySem PySem.Spec PyProof.Rows L2
section
variable {K : PySem.W.Frag} {μ : List Addr} {H : Hp}
end
end DL
namespace DL
open PySem PySem.Spec PyProof.Rows L2
section
variable {X : Cx} {W : XW} {o e f : Expr} {m mo me mf : EM} {k : Nat} {p1 p2 p3 pos apos cpos : Pos}
end
end DL
namespace DL
open PySem PySem.Spec PyProof.Rows L2
section
variable {X : Cx} {fe e : Expr} {es : List Expr} {tf : TE} {t : TA} {pos : Pos} {R : Addr → Sp → Prop}
end
section
variable {X : Cx} {k j i n : Nat} {x1 x2 y z : Str} {q1 q2 : List Str} {F G : List D → M D} {e : Expr} {es : List Expr} {p1 p2 p3 p4 p5 p6 pos pos2 : Pos} {ma : AM}
end
end DL
namespace DL
open PySem PySem.Spec PyProof.Rows L2
section
variable {X : Cx} {W : XW} {tg : Expr} {p pos : Pos} {ma : AM}
end
end DL
namespace DL
open PySem PySem.Spec PyProof.Rows L2
end DL
namespace DL
open PySem PySem.Spec PyProof.Rows L2
section
variable {K : PySem.W.Frag} {μ : List Addr} {H : Hp} {hd : Hd}
end
section
variable {X : Cx}
end
end DL
namespace DL
open PySem PySem.Spec PyProof.Rows RT
section
variable {prog : Program} {w : World} {A : Around} {E : Value → Shared → Prop} {s : Shared}
end
end DL
namespace RT
open PySem PySem.Spec PyProof.Rows L2
section
variable {X : Cx}
end
end RT
namespace DL
open PySem PySem.Spec PyProof.Rows L2
end DL
namespace DL
open PySem PySem.Spec PyProof.Rows L2
end DL
namespace RT
open PySem PySem.Spec PyProof.Rows L2
section
variable {X : Cx}
end
end RT
namespace DL
open PySem PySem.Spec PyProof.Rows L2
end DL
namespace RT
open PySem PySem.Spec PyProof.Rows L2
end RT
namespace DL
open PySem PySem.Spec PyProof.Rows L2
end DL
namespace DL
open PySem PySem.Calls PySem.Spec PyProof.Rows L2
open PySem.W
section
variable {prog : Program} {w : World} {A : Around} {E : Value → Shared → Prop} {s : Shared}
def PairS (h : Heap) (v : Value) (y : Str) : Prop := ∃ (a : Addr) (t : Tok) (b : Value), v = .ref a ∧ IsTup h a #[.str y t, b] ∧ (b == b) = true
def pairTx (h : Heap) (v : Value) : Str := DT.txOf (DT.seqAt0 h (DT.refOf (some v)))
theorem PairS.tx {h : Heap} {v : Value} {y : Str} (x : PairS h v y) : pairTx h v = y := by
  obtain ⟨a, t, b, rfl, h1, _⟩ := x
  show DT.txOf (DT.seqAt0 h a) = y
  rw [DT.seqAt0_of h1]
  rfl
theorem firstsS {h : Heap} : ∀ vs : List Value, (∀ v ∈ vs, ∃ y, PairS h v y) → ∃ fs : List Value, KatTups h vs fs ∧ fs.length = vs.length ∧ ∀ f ∈ fs, ∃ (y : Str) (t : Tok), f = Value.str y t
  | [], _ => ⟨[], KatTups.nil, rfl, fun f hf => by simp at hf⟩
  | v :: vs, x => by
    obtain ⟨fs, k, hl, hi⟩ := firstsS vs fun u hu => x u (List.mem_cons_of_mem _ hu)
    obtain ⟨y, a, t, b, rfl, ⟨o, ho, hc, n, hd⟩, _⟩ := x v (List.mem_cons_self ..)
    refine ⟨.str y t :: fs, KatTups.cons ho hc hd rfl k, by rw [List.length_cons, List.length_cons, hl], fun f hf => ?_⟩
    rcases List.mem_cons.mp hf with rfl | hf
    · exact ⟨y, t, rfl⟩
    · exact hi f hf
theorem eqBool_id {v : Value} {Q : Bool → Shared → Prop} (e : (v == v) = true) (h : Q true s) : wpAny (model prog w) A (eqBool v v) Q E s := by
  unfold eqBool
  rw [if_pos e]
  exact wpAny_holding (wpAny_bind (wpAny_rule (wpAny_pure h)))
theorem kind_st {vs : List Value} {ρ : Str → Int} (h2 : 2 ≤ vs.length) (x : ∀ v ∈ vs, ∃ y, PairS s.heap v y) (inj : ∀ v ∈ vs, ∀ u ∈ vs, pairTx s.heap v = pairTx s.heap u → v = u)
    (hρ : ∀ v ∈ vs, ∀ u ∈ vs, decide ((pairTx s.heap v).cps.toList < (pairTx s.heap u).cps.toList) = decide (ρ (pairTx s.heap v) < ρ (pairTx s.heap u))) (Q : SortKind → Shared → Prop)
    (h : ∀ κ, TS.Cmp prog w A s κ (pairsOf vs) (fun v => ρ (pairTx s.heap v)) → Q κ s) : wpAny (model prog w) A (keyKind' vs.toArray) Q E s := by
  obtain ⟨fs, k, hl, hi⟩ := firstsS vs x
  refine kat_kind (T := Value.type "str") k (by omega) (fun f hf => ?_) rfl (h _ ?_)
  · obtain ⟨y, t, rfl⟩ := hi f hf
    exact PySem.W.Looks.now
  · have hb : (Value.type "str" != Value.type "tuple") = true := by first | rfl | decide | simp
    rw [hb]
    intro p q hp hq Q' E' hQ
    rw [pairsOf_toList] at hp hq
    have mp := (mem_zip_self hp).2
    have mq := (mem_zip_self hq).2
    obtain ⟨y, py⟩ := x _ mp
    obtain ⟨z, pz⟩ := x _ mq
    have hr := hρ _ mp _ mq
    have hi := inj _ mp _ mq
    have hQ' : Q' (decide (y.cps.toList < z.cps.toList)) s := by
      rw [py.tx, pz.tx] at hr
      rw [hr]
      have hQ2 : Q' (decide (ρ (pairTx s.heap p.1) < ρ (pairTx s.heap q.1))) s := hQ
      rw [py.tx, pz.tx] at hQ2
      exact hQ2
    rw [py.tx, pz.tx] at hi
    obtain ⟨a, t, b, e1, ⟨o, ho, hc, n, hd⟩, bb⟩ := py
    obtain ⟨a', t', b', e2, ⟨o', ho', hc', n', hd'⟩, bb'⟩ := pz
    by_cases e : y = z
    · have irr : decide (y.cps.toList < z.cps.toList) = false := by
        rw [e]
        first | exact decide_eq_false (List.lt_irrefl _) | simp
      rw [irr] at hQ'
      have e3 : (Value.ref a) = .ref a' := by rw [← e1, ← e2]; exact hi e
      cases e3
      rw [ho] at ho'
      cases ho'
      rw [hd] at hd'
      cases hd'
      rw [e1, e2]
      refine kat_lt ho hd ho hd ?_
      show KatLex prog w A true false Q' [(Value.str y t, Value.str y t), (b, b)] 0 s
      refine kat_cons (wpAny_eqBool_str ?_)
      rw [decide_eq_true rfl]
      refine kat_yes (kat_cons (eqBool_id bb (kat_yes (kat_nil hQ'))))
    · rw [e1, e2]
      refine kat_lt ho hd ho' hd' ?_
      show KatLex prog w A true false Q' [(Value.str y t, Value.str z t'), (b, b')] 0 s
      refine kat_cons (wpAny_eqBool_str ?_)
      rw [decide_eq_false e]
      exact kat_no (oneLt_str hQ')
end
section
variable {X : Cx}
open L2.DX
def rItemsK : V → List V → Hp → VK → Prop := fun x xs H Q => ∃ (a : Addr) (kvs : List (Key × V)), x = .ref a ∧ xs = [] ∧ H a = some (.dK kvs) ∧ ∀ p, H p = none → Q (.ref p) (upd H p (itemsO p a))
theorem mt_itemsK : MtR X "dict.items" rItemsK := by
  intro pins s σ H x xs v us Q I rx rxs h
  obtain ⟨a, kvs, rfl, rfl, ha, q⟩ := h
  cases rx
  cases rxs
  obtain ⟨z, hd, vs, rel, o, es, ep, ho, hx, hdat, _⟩ := dk_of I.hok ha
  refine DT.callItems (es := es) (ep := ep) hd ⟨o, ho, hx, hdat⟩ ?_
  have hf : H s.heap.objs.size = none := I.hok.fresh (Nat.le_refl _)
  exact ⟨.ref s.heap.objs.size, upd H s.heap.objs.size (itemsO s.heap.objs.size a), I.laid (t' := s.toks) (fun b u e => Heap.get?_push_of_some _ e) (Nat.le_refl _) (itemsO_ok (Heap.get?_push_size _ rfl)), rfl, q _ hf⟩
abbrev entK (e : Str × Addr) : Key × V := (Sum.inr e.1, V.ref e.2)
def rSortItK : List V → Hp → VK → Prop := fun vs H Q => ∃ (p a : Addr) (ks : List (Str × Addr)) (ρ : Str → Int), vs = [.ref p] ∧ H p = some (itemsO p a) ∧ H a = some (.dK (ks.map entK)) ∧ ks.length < 64 ∧
  (∀ e ∈ ks, ∀ f ∈ ks, decide (e.1.cps.toList < f.1.cps.toList) = decide (ρ e.1 < ρ f.1)) ∧
  ∀ (H' : Hp) (l : Addr) (ps : List (Addr × Str × Addr)), (∀ b o, H b = some o → H' b = some o) → H l = none → (ps.map (·.2)).Perm ks → (ps.map (·.2)).Pairwise (fun e f => ρ e.1 ≤ ρ f.1) → H' l = some (.lst (ps.map fun z => V.ref z.1)) →
    (∀ z ∈ ps, H' z.1 = some (.tup [.str z.2.1, .ref z.2.2])) → Q (.ref l) H'
theorem pairs_at {K : Type} [DecidableEq K] {prog : Program} {w : World} {knd : KeyKind prog w K} : ∀ {es : List DictEntry} {kvs : List (K × Value)}, Pairs knd es kvs → ∀ {j : Nat} {e : DictEntry}, es[j]? = some e → ∃ kv, kvs[j]? = some kv ∧ knd.is kv.1 e.key = true ∧ e.val = kv.2
  | _, _, .nil, j, e, h => by simp at h
  | _, _, .cons h1 h2 t, 0, e, h => by
    simp only [List.getElem?_cons_zero, Option.some.injEq] at h
    subst h
    exact ⟨_, rfl, h1, h2⟩
  | _, _, .cons _ _ t, j + 1, e, h => by
    simp only [List.getElem?_cons_succ] at h ⊢
    exact pairs_at t h
theorem cr_sortedItK (hc : X.calm = true) : CallR X (.builtin "sorted") rSortItK := by
  intro pins s σ H xs us Q I r h
  obtain ⟨p, a, ks, ρ, rfl, hp, ha, h64, hρ, q⟩ := h
  obtain rfl := Vals.ref1 r
  have view : s.heap.IsItemsView p a := (show ObjOk X.prog X.w H s.heap p (itemsO p a) from I.hok p _ hp).1
  obtain ⟨z, hd, xs', rel, o, es, ep, ho, hx, hdat, _, hes, hn⟩ := dk_of I.hok ha
  have l1 : (ks.map entK).length = xs'.length := Paired.length rel
  rw [List.length_map] at l1
  have l2 : es.size = xs'.length := by rw [← Array.length_toList]; exact hes.length
  have hh : X.A.handled = none := I.ok.hd hc
  refine DT.sortedI (es := es) (ep := ep) hh view ⟨o, ho, hx, hdat⟩ (by rw [sizeLine_eq]; omega) fun h' tk as hk hlt hl hG => ?_
  have lak : as.length = ks.length := by omega
  have nd : as.Nodup := List.Pairwise.imp (fun h => Nat.ne_of_lt h) hG.rise
  have kn : (ks.map (·.1)).Nodup := by
    have e1 : (ks.map entK).map (·.1) = xs'.map (·.1) := rel.keys
    rw [← e1, List.map_map] at hn
    unfold List.Nodup at hn ⊢
    rw [List.pairwise_map] at hn ⊢
    exact hn.imp fun h e => h (congrArg Sum.inr e)
  have pr : ∀ (j : Nat) (b : Addr), as[j]? = some b → ∃ (e : Str × Addr) (t : Tok), ks[j]? = some e ∧ h'.get? b = some { cls := .type "tuple", data := .seq #[Value.str e.1 t, Value.ref e.2] } := by
    intro j b hj
    obtain ⟨en, he, hg⟩ := hG.pairs j b hj
    rw [← Array.getElem?_toList] at he
    obtain ⟨kv, hkv, k1, k2⟩ := pairs_at hes he
    obtain ⟨e0, he0, r1, r2⟩ := pget rel hkv
    rw [List.getElem?_map] at he0
    cases hkj : ks[j]? with
    | none =>
      rw [hkj] at he0
      exact nomatch (show (none : Option (Key × V)) = some e0 from he0)
    | some e =>
      rw [hkj] at he0
      have ee : entK e = e0 := Option.some.inj he0
      rw [← ee] at r1 r2
      rw [← r1] at k1
      obtain ⟨t, et⟩ := Value.isStrOf_shape (x := e.1) (v := en.key) k1
      have r2' : kv.2 = Value.ref e.2 := r2
      refine ⟨e, t, rfl, ?_⟩
      rw [hg, et, k2, r2']
  have hob : (h'.push { cls := .type "list", data := .seq (as.map Value.ref).toArray }).get? h'.objs.size = some (seqObj "list" (as.map Value.ref).toArray 0) := Heap.get?_push_size _ rfl
  have kb : ∀ b o, s.heap.get? b = some o → (h'.push { cls := .type "list", data := .seq (as.map Value.ref).toArray }).get? b = some o := fun b o e => Heap.get?_push_of_some _ (hk b o e)
  have ne0 : ∀ b o, h'.get? b = some o → b ≠ h'.objs.size := fun b o e => Nat.ne_of_lt (Heap.lt_size e)
  generalize hh2 : h'.push { cls := .type "list", data := .seq (as.map Value.ref).toArray } = h2 at hob kb ⊢
  have ka : ∀ b o, h'.get? b = some o → h2.get? b = some o := fun b o e => by rw [← hh2]; exact Heap.get?_push_of_some _ e
  have pin : ∀ (j : Nat) (b : Addr), as[j]? = some b → ∃ e : Str × Addr, ks[j]? = some e ∧ PairS (TS.midHeap h2 h'.objs.size (as.map Value.ref)) (.ref b) e.1 := by
    intro j b hj
    obtain ⟨e, t, he, hg⟩ := pr j b hj
    exact ⟨e, he, b, t, .ref e.2, rfl, ⟨_, TS.midHeap_old (ne0 _ _ hg) (ka _ _ hg), rfl, 0, rfl⟩, by simp⟩
  have tx : ∀ (j : Nat) (b : Addr) (e : Str × Addr), as[j]? = some b → ks[j]? = some e → pairTx (TS.midHeap h2 h'.objs.size (as.map Value.ref)) (.ref b) = e.1 := by
    intro j b e hj he
    obtain ⟨e', he', hp'⟩ := pin j b hj
    have ee : e' = e := Option.some.inj (he'.symm.trans he)
    rw [← ee]
    exact hp'.tx
  have at_ : ∀ v ∈ as.map Value.ref, ∃ (j : Nat) (b : Addr) (e : Str × Addr), v = .ref b ∧ as[j]? = some b ∧ ks[j]? = some e := by
    intro v hv'
    obtain ⟨b, hb, rfl⟩ := List.mem_map.mp hv'
    obtain ⟨j, hj⟩ := List.mem_iff_getElem?.mp hb
    obtain ⟨e, _, he, _⟩ := pr j b hj
    exact ⟨j, b, e, rfl, hj, he⟩
  refine wpAny_call_entry PyProof.Rows.slot_list_sort ⟨_, hob, rfl⟩ PyProof.Rows.entry_list_sort
    (SK.plain_sort (s := { s with heap := h2, toks := tk }) (r := fun v => ρ (pairTx (TS.midHeap h2 h'.objs.size (as.map Value.ref)) v)) hob (by rw [List.length_map]; omega) (fun h2' Qk hQk => ?_) fun ps out o1 o2 o3 => ⟨.none, rfl, ?_⟩) (PyProof.Rows.args_list_sort _)
  · refine kind_st (s := { s with heap := TS.midHeap h2 h'.objs.size (as.map Value.ref), toks := tk }) (ρ := ρ) h2' (fun v hv' => ?_) (fun v hv' u hu' e => ?_) (fun v hv' u hu' => ?_) Qk hQk
    · obtain ⟨j, b, e, rfl, hj, he⟩ := at_ v hv'
      obtain ⟨e', _, hp'⟩ := pin j b hj
      exact ⟨e'.1, hp'⟩
    · obtain ⟨j, b, e1, rfl, hj, he⟩ := at_ v hv'
      obtain ⟨j2, b2, e2, rfl, hj2, he2⟩ := at_ u hu'
      have e' : pairTx (TS.midHeap h2 h'.objs.size (as.map Value.ref)) (.ref b) = pairTx (TS.midHeap h2 h'.objs.size (as.map Value.ref)) (.ref b2) := e
      rw [tx j b e1 hj he, tx j2 b2 e2 hj2 he2] at e'
      have x1 : (ks.map (·.1))[j]? = some e1.1 := by rw [List.getElem?_map, he]; rfl
      have x2 : (ks.map (·.1))[j2]? = some e1.1 := by rw [List.getElem?_map, he2, e']; rfl
      have jj : j = j2 := (List.getElem?_inj (List.getElem?_eq_some_iff.mp x1).1 kn).mp (x1.trans x2.symm)
      subst jj
      rw [hj] at hj2
      cases hj2
      rfl
    · obtain ⟨j, b, e, rfl, hj, he⟩ := at_ v hv'
      obtain ⟨j2, b2, e2, rfl, hj2, he2⟩ := at_ u hu'
      show decide ((pairTx (TS.midHeap h2 h'.objs.size (as.map Value.ref)) (.ref b)).cps.toList < (pairTx (TS.midHeap h2 h'.objs.size (as.map Value.ref)) (.ref b2)).cps.toList) = decide (ρ (pairTx (TS.midHeap h2 h'.objs.size (as.map Value.ref)) (.ref b)) < ρ (pairTx (TS.midHeap h2 h'.objs.size (as.map Value.ref)) (.ref b2)))
      rw [tx j b e hj he, tx j2 b2 e2 hj2 he2]
      exact hρ e (List.mem_of_getElem? he) e2 (List.mem_of_getElem? he2)
  · show EP X pins σ Q (.ref h'.objs.size) { s with heap := sortedHeap h2 h'.objs.size (as.map Value.ref) out, toks := tk }
    obtain ⟨zs, pz, ez⟩ := perm_lift (fun z : Addr × Str × Addr => (Value.ref z.1, Value.ref z.1)) o2 (as.zip ks) (zip_self Value.ref as ks lak)
    have idx : ∀ z ∈ zs, ∃ j : Nat, as[j]? = some z.1 ∧ ks[j]? = some z.2 := by
      intro z' hz'
      obtain ⟨j, hj⟩ := List.mem_iff_getElem?.mp (pz.mem_iff.mp hz')
      exact ⟨j, List.getElem?_zip_eq_some.mp hj⟩
    have hout : out.toList = zs.map fun z => Value.ref z.1 := by
      rw [o1, ← ez, List.map_map]
      all_goals rfl
    have hperm : (zs.map (·.2)).Perm ks := by
      have e := pz.map (·.2)
      have m2 : (as.zip ks).map (·.2) = ks := List.map_snd_zip (by rw [lak]; exact Nat.le_refl _)
      rw [m2] at e
      exact e
    have hsort : (zs.map (·.2)).Pairwise (fun e f => ρ e.1 ≤ ρ f.1) := by
      rw [← ez, List.pairwise_map] at o3
      rw [List.pairwise_map]
      refine List.Pairwise.imp_of_mem (fun {x y} hx hy h => ?_) o3
      obtain ⟨j, j1, j2⟩ := idx x hx
      obtain ⟨i, i1, i2⟩ := idx y hy
      have h' : ρ (pairTx (TS.midHeap h2 h'.objs.size (as.map Value.ref)) (.ref x.1)) ≤ ρ (pairTx (TS.midHeap h2 h'.objs.size (as.map Value.ref)) (.ref y.1)) := h
      rw [tx j _ _ j1 j2, tx i _ _ i1 i2] at h'
      exact h'
    have kF : ∀ b o, b ≠ h'.objs.size → h2.get? b = some o → (sortedHeap h2 h'.objs.size (as.map Value.ref) out).get? b = some o := fun b o hb e => (PyProof.Rows.sortedHeap_old hb (Heap.lt_size e)).trans e
    have kS : ∀ b o, s.heap.get? b = some o → (sortedHeap h2 h'.objs.size (as.map Value.ref) out).get? b = some o := fun b o e => kF b o (ne0 _ _ (hk b o e)) (kb b o e)
    obtain ⟨eF, heF⟩ := PyProof.Rows.sortedHeap_at (vs := as.map Value.ref) (out := out) hob
    have I1 : Inv X pins σ H { s with heap := sortedHeap h2 h'.objs.size (as.map Value.ref) out, toks := tk } := I.kept (t' := tk) kS
    have hn0 : H h'.objs.size = none := I.hok.fresh (Nat.le_of_lt hlt)
    have hlen : (zs.map fun z => V.ref z.1).length ≤ sizeLine := by
      have e := hperm.length_eq
      rw [List.length_map] at e
      rw [List.length_map, sizeLine_eq]
      omega
    have rv : Vals (zs.map fun z => V.ref z.1) out.toList := by
      rw [hout]
      exact vals_maps (fun z : Addr × Str × Addr => V.ref z.1) (fun z => Value.ref z.1) zs fun _ _ => rfl
    have I2 : Inv X pins σ (upd H h'.objs.size (.lst (zs.map fun z => V.ref z.1))) { s with heap := sortedHeap h2 h'.objs.size (as.map Value.ref) out, toks := tk } :=
      I1.take (h' := sortedHeap h2 h'.objs.size (as.map Value.ref) out) (t' := tk) (fun b ob _ e => e) (I.fpOk (Nat.le_of_lt hlt) hn0) ⟨hlen, out.toList, eF, rv, heF⟩
    obtain ⟨H2, I3, g, qt⟩ := takeT (P := fun b vs => ∃ (j : Nat) (e : Str × Addr), as[j]? = some b ∧ ks[j]? = some e ∧ vs = [.str e.1, .ref e.2]) I as _ I2 nd fun b hb => by
      obtain ⟨j, hj⟩ := List.mem_iff_getElem?.mp hb
      obtain ⟨e, t, he, hg⟩ := pr j b hj
      have hbl : s.heap.objs.size ≤ b := Nat.le_of_lt (hG.above b hb)
      refine ⟨hbl, ?_, [.str e.1, .ref e.2], ⟨j, e, hj, he, rfl⟩, fun H3 => ⟨(by rw [sizeLine_eq]; show 2 ≤ 16777216; omega), [Value.str e.1 t, Value.ref e.2], .cons ⟨t, rfl⟩ (.cons rfl .nil), ⟨_, kF _ _ (ne0 _ _ hg) (ka _ _ hg), rfl, 0, rfl⟩⟩⟩
      rw [upd_ne (ne0 _ _ hg)]
      exact I.hok.fresh hbl
    have gr : ∀ b o, H b = some o → H2 b = some o := fun b o e => g b o (by rw [upd_ne (ne_of_none e hn0)]; exact e)
    refine ⟨.ref h'.objs.size, H2, I3, rfl, q H2 h'.objs.size zs gr hn0 hperm hsort (g _ _ upd_same) fun z' hz' => ?_⟩
    obtain ⟨i, i1, i2⟩ := idx z' hz'
    obtain ⟨vs, ⟨j, e, j1, j2, ev⟩, hH⟩ := qt z'.1 (List.mem_of_getElem? i1)
    have eij : i = j := (List.getElem?_inj (List.getElem?_eq_some_iff.mp i1).1 nd).mp (i1.trans j1.symm)
    subst eij
    have ee : e = z'.2 := Option.some.inj (j2.symm.trans i2)
    rw [ev, ee] at hH
    exact hH
end
end DL
namespace DL
open PySem PySem.Calls PySem.Spec PyProof.Rows L2
open PySem.W
def itemsOf : List (Key × D) → Option (List (Str × List D))
  | [] => some []
  | (.inr x, .tup ds) :: l => (itemsOf l).map ((x, ds) :: ·)
  | _ => none
def valIt (es : List (Str × List D)) (k : Str) : List D := ((es.find? fun z => decide (z.1 = k)).map Prod.snd).getD []
def bSortIt (x : D) : M D := fun h => match x with
  | .ref n => (match h[n]? with
    | some (.dK kds) => (match itemsOf kds with
      | some es => if es.length < 60 ∧ (es.map Prod.fst).Nodup then .ok (.ref h.length) (h ++ [.lst ((sortT (es.map Prod.fst)).map fun k => D.tup [.str k, .tup (valIt es k)])]) else .bad
      | none => .bad)
    | _ => .bad)
  | _ => .bad
section
variable {K : PySem.W.Frag} {μ : List Addr} {H : Hp} {hd : Hd}
theorem itemsOf_rep : ∀ {kvs : List (Key × V)} {kds : List (Key × D)} {es : List (Str × List D)}, KRep K μ H kvs kds → itemsOf kds = some es → ∃ zs : List ((Str × Addr) × List D), kvs = (zs.map Prod.fst).map entK ∧ es = zs.map (fun z => (z.1.1, z.2)) ∧ ∀ z ∈ zs, Rep K μ H (.ref z.1.2) (.tup z.2)
  | _, _, _, .nil, e => by cases e; exact ⟨[], rfl, rfl, by simp⟩
  | _, _, _, .cons (k := k) (d := d) r t, e => by
    cases k with
    | inl i => cases e
    | inr x =>
      cases d with
      | tup ds =>
        unfold itemsOf at e
        obtain ⟨l, hl, rfl⟩ := Option.map_eq_some_iff.mp e
        obtain ⟨zs, e1, e2, e3⟩ := itemsOf_rep t hl
        cases r with
        | tup q1 q2 =>
          rename_i a vs
          refine ⟨((x, a), ds) :: zs, by rw [e1]; rfl, by rw [e2]; rfl, fun z hz => ?_⟩
          rcases List.mem_cons.mp hz with rfl | hz
          · exact .tup q1 q2
          · exact e3 z hz
      | _ => cases e
def rankS (L : List Str) (z : Str) : Int := (L.countP fun y => decide (y.cps.toList < z.cps.toList) : Nat)
theorem rank_le {L : List Str} {x z : Str} (h : ¬ x.cps.toList < z.cps.toList) : rankS L z ≤ rankS L x := by
  unfold rankS
  have : L.countP (fun y => decide (y.cps.toList < z.cps.toList)) ≤ L.countP (fun y => decide (y.cps.toList < x.cps.toList)) := List.countP_mono_left fun y _ hy => by
    rw [decide_eq_true_eq] at hy ⊢
    exact Std.lt_of_lt_of_le hy h
  omega
theorem rank_lt {L : List Str} {x z : Str} (hx : x ∈ L) (h : x.cps.toList < z.cps.toList) : rankS L x < rankS L z := by
  unfold rankS
  obtain ⟨A, B, rfl⟩ := List.append_of_mem hx
  have m : ∀ M : List Str, M.countP (fun y => decide (y.cps.toList < x.cps.toList)) ≤ M.countP (fun y => decide (y.cps.toList < z.cps.toList)) := fun M => List.countP_mono_left fun y _ hy => by
    rw [decide_eq_true_eq] at hy ⊢
    exact List.lt_trans hy h
  have m1 := m A
  have m2 := m B
  rw [List.countP_append, List.countP_append, List.countP_cons_of_neg (by rw [decide_eq_true_eq]; exact List.lt_irrefl _), List.countP_cons_of_pos (by rw [decide_eq_true_eq]; exact h)]
  omega
theorem rank_ok {L : List Str} {x z : Str} (hx : x ∈ L) : decide (x.cps.toList < z.cps.toList) = decide (rankS L x < rankS L z) := by
  by_cases c : x.cps.toList < z.cps.toList
  · rw [decide_eq_true c, decide_eq_true (rank_lt hx c)]
  · rw [decide_eq_false c, decide_eq_false (by have := rank_le (L := L) c; omega)]
theorem valIt_of {es : List (Str × List D)} {k : Str} {ds : List D} (nd : (es.map Prod.fst).Nodup) (h : (k, ds) ∈ es) : valIt es k = ds := by
  unfold valIt
  induction es with
  | nil => cases h
  | cons e es ih =>
    rw [List.map_cons, List.nodup_cons] at nd
    rcases List.mem_cons.mp h with rfl | h
    · simp
    · have : e.1 ≠ k := fun q => nd.1 (by rw [q]; exact List.mem_map.mpr ⟨_, h, rfl⟩)
      rw [List.find?_cons_of_neg (by simpa using this)]
      exact ih nd.2 h
theorem de_sortIt {X : Cx} {W : XW} {o : Expr} {mo : EM} {p apos q pos : Pos} (hc : X.calm = true) (hm : X.mg "sorted" = none) (ho : DE X W o mo) (hg : Gl X "sorted" := by rfl)
    (hbase : attributeBase o "items" X.env (eval o X.env) = eval o X.env := by rfl) (hline : (apos.endLine == q.line) = true := by rfl)
    (hs : starEach [.Call (.Attribute o "items" apos) [] [] q] X.env = (false, eval (.Call (.Attribute o "items" apos) [] [] q) X.env) :: starEach [] X.env := by rfl) (hpl2 : (backTo pos (starEach [] X.env)).any (·.1) = false := by rfl) :
    DE X W (.Call (.Name "sorted" p) [.Call (.Attribute o "items" apos) [] [] q] [] pos) (e1 bSortIt mo) := by
  have h1 := pe_bm0 PySem.F.plainAttrs_dict PySem.F.slot_dict_items PySem.F.type_dict_items mt_itemsK ho.pe hbase hline
  have h2 := pe_callB (cr_sortedItK hc) hg hm (by decide +kernel) (pa_cons h1 pa_nil hs) (pos := pos) (p := p) (by decide) (by decide) hs hpl2
  refine ⟨PE.imp h2 fun σ H Q ⟨μ, s, hd, sr, hr, f⟩ => ?_⟩
  refine ⟨μ, s, hd, sr, hr, (FinG.bind f).imp ?_⟩
  rintro x H1 ⟨μ1, hd1, dx, e1, hr1, rx, f1⟩
  unfold bSortIt at f1
  split at f1
  · rename_i n
    split at f1
    · rename_i kds hq
      split at f1
      · rename_i es hes
        split at f1
        · rename_i hl
          obtain ⟨l60, nd⟩ := hl
          cases rx with
          | @ref _ a hn =>
            obtain ⟨kvs, h1, h2⟩ := hr1.obj _ _ _ hn hq
            obtain ⟨zs, ek, ee, er⟩ := itemsOf_rep h2 hes
            subst ek ee
            refine ⟨.inr (.inr (.inl ⟨rfl, .inl ⟨_, h1⟩⟩)), a, _, rfl, rfl, h1, fun v hv => ?_⟩
            have nv : a ≠ v := fun e => by rw [← e, h1] at hv; cases hv
            refine ⟨v, a, zs.map Prod.fst, rankS ((zs.map Prod.fst).map Prod.fst), rfl, upd_same, by rw [upd_ne nv]; exact h1, by simp at l60 ⊢; omega, fun e he f hf => rank_ok (List.mem_map_of_mem he), fun H' l ps gr hl pm pw hL hT => ?_⟩
            have g : Grow H1 H' := fun b u e => gr b u (by rw [upd_ne (ne_of_none e hv)]; exact e)
            have hl1 : H1 l = none := by
              by_cases c : l = v
              · subst c
                rw [upd_same] at hl
                cases hl
              · rw [upd_ne c] at hl
                exact hl
            have en : (zs.map fun z => (z.1.1, z.2)).map Prod.fst = (zs.map Prod.fst).map Prod.fst := by rw [List.map_map, List.map_map]; rfl
            have pn : (ps.map fun z => z.2.1).Perm ((zs.map Prod.fst).map Prod.fst) := by
              have := pm.map Prod.fst
              rw [List.map_map] at this
              exact this
            have sn : sortedS (ps.map fun z => z.2.1) = true := sortedS_of_pairwise _ (by
              rw [List.pairwise_map] at pw ⊢
              refine List.Pairwise.imp_of_mem (fun {x y} hx hy h => ?_) pw
              rw [ltCps_eq]
              refine decide_eq_false fun w => ?_
              have := rank_lt (pn.mem_iff.mp (List.mem_map_of_mem (f := fun z : Addr × Str × Addr => z.2.1) hy)) w
              omega)
            have es := sortT_uniq pn sn
            rw [en, ← es] at f1
            have ex : Ext μ1 H1 (μ1 ++ [l]) H' := Ext.grow g
            have ra : ∀ L : List (Addr × Str × Addr), (∀ z ∈ L, z ∈ ps) → RepAll X.K (μ1 ++ [l]) H' (L.map fun z => V.ref z.1) ((L.map fun z => z.2.1).map fun k => D.tup [.str k, .tup (valIt (zs.map fun z => (z.1.1, z.2)) k)]) := fun L => by
              induction L with
              | nil => exact fun _ => .nil
              | cons z L ih =>
                intro hz
                obtain ⟨y, hy, ey⟩ := List.mem_map.mp (pm.mem_iff.mp (List.mem_map_of_mem (f := fun z : Addr × Str × Addr => z.2) (hz z (by simp))))
                refine .cons (.tup (.inl (.inl (hT z (hz z (by simp))))) (.cons (.str _) (.cons ?_ .nil))) (ih fun u hu => hz u (by simp [hu]))
                have ev : valIt (zs.map fun z => (z.1.1, z.2)) z.2.1 = y.2 := valIt_of nd (List.mem_map.mpr ⟨y, hy, by rw [ey]⟩)
                rw [ev, ← ey]
                exact (er y hy).ext ex
            refine f1 (μ1 ++ [l]) H' (.ref l) ex (hr1.grow g hl1 ⟨_, hL, ra ps fun _ h => h⟩) (.ref ?_)
            rw [← hr1.len, List.getElem?_append_right (Nat.le_refl _)]
            simp
        · exact f1.elim
      · exact f1.elim
    · exact f1.elim
  · exact f1.elim
end
end DL
namespace DL
open PySem PySem.Spec L2
theorem lo_int {n : Nat} {i : Int} : D.lo n (.int i) = true := by unfold D.lo; rfl
theorem lo_bl {n : Nat} {b : Bool} : D.lo n (.bl b) = true := by unfold D.lo; rfl
theorem lo_non {n : Nat} : D.lo n .non = true := by unfold D.lo; rfl
theorem lo_str {n : Nat} {x : Str} : D.lo n (.str x) = true := by unfold D.lo; rfl
theorem lo_tup {n : Nat} {xs : List D} : D.lo n (.tup xs) = D.loAll n xs := by rw [D.lo]
theorem lo_rol {n : Nat} {xs : List D} : D.lo n (.rol xs) = D.loAll n xs := by rw [D.lo]
theorem lo_ref {n m : Nat} : D.lo n (.ref m) = decide (m < n) := by rw [D.lo]
theorem lo_nil {n : Nat} : D.loAll n [] = true := by rw [D.loAll]
theorem lo_cons {n : Nat} {x : D} {xs : List D} : D.loAll n (x :: xs) = (D.lo n x && D.loAll n xs) := by rw [D.loAll]
theorem lo_lst {n : Nat} {xs : List D} : MO.lo n (.lst xs) = D.loAll n xs := rfl
theorem loAll_of {n : Nat} : ∀ {xs : List D}, (∀ x ∈ xs, D.lo n x = true) → D.loAll n xs = true
  | [], _ => lo_nil
  | x :: xs, h => by rw [lo_cons, h x (by simp), loAll_of fun y hy => h y (by simp [hy])]; rfl
theorem okb_app {h g : Hd} : OkBelow h (h ++ g) := fun i o hi e => .inr (by rw [List.getElem?_append_left hi] at e; exact e)
theorem gc_app {h g : Hd} {d : D} (hd : d.lo h.length = true) : gc h d (h ++ g) = .ok d h := by
  unfold gc
  rw [if_pos okb_app, if_pos hd, List.take_left']
  rfl
theorem gc_same {h : Hd} {d : D} (hd : d.lo h.length = true) : gc h d h = .ok d h := by
  have := gc_app (g := []) hd
  rwa [List.append_nil] at this
def Sz (k : Nat) (i : Int) : Prop := i.natAbs < 2 ^ k
theorem Sz.of {k : Nat} {i : Int} (h1 : -(2 ^ k : Int) < i) (h2 : i < (2 ^ k : Int)) : Sz k i := by
  unfold Sz
  have : ((2 ^ k : Nat) : Int) = (2 ^ k : Int) := by simp
  omega
theorem Sz.mul {k l : Nat} {i j : Int} (a : Sz k i) (b : Sz l j) : Sz (k + l) (i * j) := by
  unfold Sz at *
  rw [Int.natAbs_mul, Nat.pow_add]
  exact Nat.mul_lt_mul'' a b
theorem Sz.mono {k l : Nat} {i : Int} (a : Sz k i) (h : k ≤ l) : Sz l i := Nat.lt_of_lt_of_le a (Nat.pow_le_pow_right (by decide) h)
theorem Sz.add {k l : Nat} {i j : Int} (a : Sz k i) (b : Sz l j) : Sz (max k l + 1) (i + j) := by
  have a' := a.mono (Nat.le_max_left k l)
  have b' := b.mono (Nat.le_max_right k l)
  unfold Sz at *
  have := Int.natAbs_add_le i j
  rw [Nat.pow_succ]
  omega
theorem Sz.sub {k l : Nat} {i j : Int} (a : Sz k i) (b : Sz l j) : Sz (max k l + 1) (i - j) := by
  have b' : Sz l (-j) := by unfold Sz at *; rw [Int.natAbs_neg]; exact b
  exact a.add b'
theorem Sz.log {k : Nat} {i : Int} (a : Sz k i) : i.natAbs.log2 ≤ k := by
  rcases Nat.eq_zero_or_pos k with z | z
  · subst z
    have : i.natAbs = 0 := by unfold Sz at a; omega
    rw [this]
    decide
  · exact Nat.le_of_lt (PySem.Flt.log2_lt_of z a)
theorem MulOk.of {k l : Nat} {i j : Int} (a : Sz k i) (b : Sz l j) (h : k + l < 100000000) : MulOk i j := by
  have := a.log
  have := b.log
  unfold MulOk
  omega
theorem DivOk.of {k : Nat} {i j : Int} (h : 0 < j) (b : Sz k j) (hk : k < 9000) : DivOk i j := ⟨h, Nat.lt_of_le_of_lt b.log hk⟩
theorem dMul_ok {i j : Int} {h : Hd} (q : MulOk i j) : dMul (.int i) (.int j) h = .ok (.int (i * j)) h := if_pos q
theorem dDiv_ok {i j : Int} {h : Hd} (q : DivOk i j) : dDiv (.int i) (.int j) h = .ok (.int (i / j)) h := if_pos q
theorem dMod_ok {i j : Int} {h : Hd} (q : 0 < j) : dMod (.int i) (.int j) h = .ok (.int (i % j)) h := if_pos q
theorem dPow_ok {i j : Int} {h : Hd} (q : PowOk i j) : dPow (.int i) (.int j) h = .ok (.int (i ^ j.toNat)) h := if_pos q
theorem bDivmod_ok {i j : Int} {h : Hd} (q : DivOk i j) : bDivmod [.int i, .int j] h = .ok (.tup [.int (i / j), .int (i % j)]) h := if_pos q
def Res.b1 (r : Res D) (g : D → D → M D) (x : D) : Res D := r.bind fun y h => g x y h
def Res.b2 (r : Res D) (g : D → D → M D) (b : EM) (s : Sl) : Res D := r.bind fun x h => (b s h).b1 g x
def Res.bAnd (r : Res Bool) (t : TM) (s : Sl) : Res Bool := r.bind fun c h => if c = true then t s h else .ok false h
def Res.bOr (r : Res Bool) (t : TM) (s : Sl) : Res Bool := r.bind fun c h => if c = true then .ok true h else t s h
def Res.bNot (r : Res Bool) : Res Bool := r.bind fun c h => .ok (!c) h
def Res.bAndV (r : Res Bool) (t : EM) (s : Sl) : Res D := r.bind fun c h => if c = true then t s h else .ok (.bl false) h
def Res.bOrV (r : Res Bool) (t : EM) (s : Sl) : Res D := r.bind fun c h => if c = true then .ok (.bl true) h else t s h
def Res.bNotV (r : Res Bool) : Res D := r.bind fun c h => .ok (.bl (!c)) h
def Res.bIf (r : Res Bool) (a b : EM) (s : Sl) : Res D := r.bind fun c h => if c = true then a s h else b s h
def Res.bC1 (r : Res (List D)) (x : D) : Res (List D) := r.bind fun xs h => .ok (x :: xs) h
def Res.bC (r : Res D) (a : AM) (s : Sl) : Res (List D) := r.bind fun x h => (a s h).bC1 x
def Res.bM1 (r : Res (List D)) (g : D → List D → M D) (x : D) : Res D := r.bind fun xs h => g x xs h
def Res.bM (r : Res D) (T : String) (g : D → List D → M D) (a : AM) (s : Sl) : Res D := r.bind fun x h => if tyM T x h = true then (a s h).bM1 g x else .bad
def Res.bSl2 (r : Res (Option Int)) (x : D) (l : Option Int) : Res D := r.bind fun u h => dSl x l u h
def Res.bSl1 (r : Res (Option Int)) (hi : OM) (x : D) (s : Sl) : Res D := r.bind fun l h => (hi s h).bSl2 x l
def Res.bSl (r : Res D) (lo hi : OM) (s : Sl) : Res D := r.bind fun x h => (lo s h).bSl1 hi x s
def Res.bG (r : Res Sl) (gs : GMs) (xs : List D) : Res Sl := r.bind fun s h => gs xs s h
def Res.bS3 (r : Res Unit) (s : Sl) : Res Sl := r.bind fun _ h => .ok s h
def Res.bS2 (r : Res D) (set : D → D → D → Hd → Res Unit) (x d : D) (s : Sl) : Res Sl := r.bind fun y h => (set x y d h).bS3 s
def Res.bS1 (r : Res D) (i : EM) (set : D → D → D → Hd → Res Unit) (d : D) (s : Sl) : Res Sl := r.bind fun x h => (i s h).bS2 set x d s
def Res.kAsg (r : Res D) (g : GM) (s : Sl) : SR := r.thenS s fun d h => (g d s h).toS
def Res.kSet (r : Res D) (n : Nat) (s : Sl) : SR := r.thenS s fun d h => .nx (s.set n (some d)) h
def Res.kRet (r : Res D) (s : Sl) : SR := r.thenS s fun d h => .rt d h
def Res.kExp (r : Res D) (s : Sl) : SR := r.thenS s fun _ h => .nx s h
def Res.kIf (r : Res Bool) (a b : SM) (s : Sl) : SR := r.thenS s fun c h => if c = true then a s h else b s h
def Res.kPar1 (r : Res D) (n m : Nat) (x : D) (s : Sl) : SR := r.thenS s fun y h => .nx ((s.set n (some x)).set m (some y)) h
def Res.kPar (r : Res D) (n m : Nat) (b : EM) (s : Sl) : SR := r.thenS s fun x h => (b s h).kPar1 n m x s
noncomputable def Res.kFor (r : Res ItD) (g : GM) (sm : SM) (s : Sl) : SR := r.thenS s fun p h => forD p.2 g sm p.1 s h
section
variable {α β : Type} {a : α} {h h1 : Hd} {s s1 : Sl} {d d1 d2 : D} {e1' e2' : EM} {sm sm' : SM} {tm tm' : TM} {am : AM} {b c : Bool} {i j : Int} {x y : Str} {xs : List D} {n m : Nat}
theorem Res.bind_ok {f : α → Hd → Res β} : (Res.ok a h).bind f = f a h := rfl
theorem SR.seq_nx : (SR.nx s h).seq sm = sm s h := rfl
theorem SR.seq_rt : (SR.rt d h).seq sm = .rt d h := rfl
theorem SR.fin_rt : (SR.rt d h).fin h1 = gc h1 d h := rfl
theorem toS_ok : (Res.ok s h).toS = .nx s h := rfl
def slAt (o : Option (Option D)) (h : Hd) : Res D := match o with
  | some (some d) => .ok d h
  | _ => .bad
theorem slAt_some : slAt (some (some d)) h = .ok d h := rfl
theorem ev_V : eV n s h = slAt s[n]? h := rfl
theorem ev_C : eC d s h = .ok d h := rfl
theorem ev_1 {g : D → M D} : e1 g e1' s h = (e1' s h).bind g := rfl
theorem ev_2 {g : D → D → M D} : e2 g e1' e2' s h = (e1' s h).b2 g e2' s := rfl
theorem b2_ok {g : D → D → M D} : (Res.ok d h).b2 g e2' s = (e2' s h).b1 g d := rfl
theorem b1_ok {g : D → D → M D} : (Res.ok d h).b1 g d1 = g d1 d h := rfl
theorem ev_B : tB' e1' s h = (e1' s h).bind asB := rfl
theorem ev_Tr : tTr e1' s h = (e1' s h).bind asT := rfl
theorem ev_tAnd : tAnd' tm tm' s h = (tm s h).bAnd tm' s := rfl
theorem bAnd_ok : (Res.ok b h).bAnd tm' s = if b = true then tm' s h else .ok false h := rfl
theorem ev_tOr : tOr' tm tm' s h = (tm s h).bOr tm' s := rfl
theorem bOr_ok : (Res.ok b h).bOr tm' s = if b = true then .ok true h else tm' s h := rfl
theorem ev_tNot : tNot' tm s h = (tm s h).bNot := rfl
theorem bNot_ok : (Res.ok b h).bNot = .ok (!b) h := rfl
theorem ev_And : eAnd e1' e2' s h = ((e1' s h).bind asB).bAndV e2' s := by
  unfold eAnd
  cases e1' s h <;> rfl
theorem bAndV_ok : (Res.ok b h).bAndV e2' s = if b = true then e2' s h else .ok (.bl false) h := rfl
theorem ev_Or : eOr e1' e2' s h = ((e1' s h).bind asB).bOrV e2' s := by
  unfold eOr
  cases e1' s h <;> rfl
theorem bOrV_ok : (Res.ok b h).bOrV e2' s = if b = true then .ok (.bl true) h else e2' s h := rfl
theorem ev_Not : eNot e1' s h = ((e1' s h).bind asB).bNotV := by
  unfold eNot
  cases e1' s h <;> rfl
theorem bNotV_ok : (Res.ok b h).bNotV = .ok (.bl (!b)) h := rfl
theorem ev_If : eIf tm e1' e2' s h = (tm s h).bIf e1' e2' s := rfl
theorem bIf_ok : (Res.ok b h).bIf e1' e2' s = if b = true then e1' s h else e2' s h := rfl
theorem ev_aN : aN s h = .ok [] h := rfl
theorem ev_aC : aC e1' am s h = (e1' s h).bC am s := rfl
theorem bC_ok : (Res.ok d h).bC am s = (am s h).bC1 d := rfl
theorem bC1_ok : (Res.ok xs h).bC1 d = .ok (d :: xs) h := rfl
theorem ev_A {g : List D → M D} : eA g am s h = (am s h).bind g := rfl
theorem ev_F {F : List D → M D} (q : xs.length = n) : eF n F xs h = F xs h := if_pos q
theorem ev_T (q : xs.length ≤ 1000) : mkT xs h = .ok (.tup xs) h := if_pos (Nat.le_trans q (by decide))
theorem ev_L (q : xs.length ≤ 1000) : mkL xs h = .ok (.ref h.length) (h ++ [.lst xs]) := if_pos (Nat.le_trans q (by decide))
theorem ev_M {T : String} {g : D → List D → M D} : eM T g e1' am s h = (e1' s h).bM T g am s := rfl
theorem bM_ok {T : String} {g : D → List D → M D} (q : tyM T d h = true) : (Res.ok d h).bM T g am s = (am s h).bM1 g d := if_pos q
theorem bM1_ok {g : D → List D → M D} : (Res.ok xs h).bM1 g d = g d xs h := rfl
theorem ev_Sl {lo hi : OM} : eSl e1' lo hi s h = (e1' s h).bSl lo hi s := rfl
theorem bSl_ok {lo hi : OM} : (Res.ok d h).bSl lo hi s = (lo s h).bSl1 hi d s := rfl
theorem bSl1_ok {hi : OM} {l : Option Int} : (Res.ok l h).bSl1 hi d s = (hi s h).bSl2 d l := rfl
theorem bSl2_ok {l u : Option Int} : (Res.ok u h).bSl2 d l = dSl d l u h := rfl
theorem ev_oN : oN s h = .ok none h := rfl
def asO (d : D) : M (Option Int) := fun h => match d with
  | .int i => .ok (some i) h
  | _ => .bad
theorem asO_int : asO (.int i) h = .ok (some i) h := rfl
theorem ev_oS : oS e1' s h = (e1' s h).bind asO := rfl
theorem ev_nil : sNil s h = .nx s h := rfl
theorem ev_seq : sSeq sm sm' s h = (sm s h).seq sm' := rfl
theorem ev_asg {g : GM} : sAsg e1' g s h = (e1' s h).kAsg g s := rfl
theorem kAsg_ok {g : GM} : (Res.ok d h).kAsg g s = (g d s h).toS := rfl
theorem ev_gN : gN n d s h = .ok (s.set n (some d)) h := rfl
theorem ev_gsN : gsN [] s h = .ok s h := rfl
theorem ev_gsC {g : GM} {gs : GMs} : gsC g gs (d :: xs) s h = (g d s h).bG gs xs := rfl
theorem bG_ok {gs : GMs} : (Res.ok s h).bG gs xs = gs xs s h := rfl
theorem ev_gT {gs : GMs} (q : xs.length = n) : gT n gs (.tup xs) s h = gs xs s h := if_pos q
theorem ev_gS {set : D → D → D → Hd → Res Unit} : gS e1' e2' set d s h = (e1' s h).bS1 e2' set d s := rfl
theorem bS1_ok {set : D → D → D → Hd → Res Unit} : (Res.ok d1 h).bS1 e2' set d s = (e2' s h).bS2 set d1 d s := rfl
theorem bS2_ok {set : D → D → D → Hd → Res Unit} : (Res.ok d2 h).bS2 set d1 d s = (set d1 d2 d h).bS3 s := rfl
theorem bS3_ok {u : Unit} : (Res.ok u h).bS3 s = .ok s h := rfl
theorem ev_set : sSet n e1' s h = (e1' s h).kSet n s := rfl
theorem kSet_ok : (Res.ok d h).kSet n s = .nx (s.set n (some d)) h := rfl
theorem ev_ret : sRet e1' s h = (e1' s h).kRet s := rfl
theorem kRet_ok : (Res.ok d h).kRet s = .rt d h := rfl
theorem ev_expr : sExpr e1' s h = (e1' s h).kExp s := rfl
theorem kExp_ok : (Res.ok d h).kExp s = .nx s h := rfl
theorem ev_if : sIf tm sm sm' s h = (tm s h).kIf sm sm' s := rfl
theorem kIf_ok : (Res.ok b h).kIf sm sm' s = if b = true then sm s h else sm' s h := rfl
theorem ev_par2 {a1 a2 : EM} : sPar n m (aC a1 (aC a2 aN)) s h = (a1 s h).kPar n m a2 s := by
  unfold sPar aC aN Res.kPar Res.kPar1
  cases a1 s h with
  | ok x h1 =>
    simp only [Res.bind, Res.thenS]
    cases a2 s h1 <;> rfl
  | _ => rfl
theorem kPar_ok : (Res.ok d h).kPar n m e2' s = (e2' s h).kPar1 n m d s := rfl
theorem kPar1_ok : (Res.ok d h).kPar1 n m d1 s = .nx ((s.set n (some d1)).set m (some d)) h := rfl
theorem ev_for {im : IM} {g : GM} : sFor im g sm s h = (im s h).kFor g sm s := rfl
theorem kFor_ok {g : GM} {c : Hd → Prop} : (Res.ok (xs, c) h).kFor g sm s = forD c g sm xs s h := rfl
theorem ev_i1 {g : D → M ItD} : i1 e1' g s h = (e1' s h).bind g := rfl
theorem ev_iA {g : List D → M ItD} : iA am g s h = (am s h).bind g := rfl
theorem ev_run {N : Nat} : runB N sm xs h = (sm (xs.map some ++ List.replicate (N - xs.length) none) h).fin h := rfl
theorem asB_bl : asB (.bl b) h = .ok b h := rfl
theorem asT_bl : asT (.bl b) h = .ok b h := rfl
theorem dAdd_ii : dAdd (.int i) (.int j) h = .ok (.int (i + j)) h := rfl
theorem dSub_ii : dSub (.int i) (.int j) h = .ok (.int (i - j)) h := rfl
theorem dNeg_i : dNeg (.int i) h = .ok (.int (-i)) h := rfl
theorem dLt_ii : dLt (.int i) (.int j) h = .ok (.bl (decide (i < j))) h := rfl
theorem dGt_ii : dGt (.int i) (.int j) h = .ok (.bl (decide (j < i))) h := rfl
theorem dLe_ii : dLe (.int i) (.int j) h = .ok (.bl (decide (i ≤ j))) h := rfl
theorem dGe_ii : dGe (.int i) (.int j) h = .ok (.bl (decide (j ≤ i))) h := rfl
theorem bMax2_ii : bMax2 [.int i, .int j] h = .ok (.int (if j > i then j else i)) h := rfl
theorem bMin2_ii : bMin2 [.int i, .int j] h = .ok (.int (if j < i then j else i)) h := rfl
theorem bInt_b : bInt [.bl b] h = .ok (.int (if b then 1 else 0)) h := rfl
theorem bLen_t : bLen [.tup xs] h = .ok (.int xs.length) h := rfl
theorem bLen_r : bLen [.rol xs] h = .ok (.int xs.length) h := rfl
def optR (o : Option D) (h : Hd) : Res D := match o with
  | some d => .ok d h
  | none => .bad
theorem optR_some : optR (some d) h = .ok d h := rfl
theorem dIx_t : dIx (.tup xs) (.int i) h = optR (atI xs i) h := by
  show (match atI xs i with | some d => Res.ok d h | none => Res.bad) = _
  cases atI xs i <;> rfl
theorem dIx_r : dIx (.rol xs) (.int i) h = optR (atI xs i) h := by
  show (match atI xs i with | some d => Res.ok d h | none => Res.bad) = _
  cases atI xs i <;> rfl
theorem dIx_l (q : h[n]? = some (.lst xs)) : dIx (.ref n) (.int i) h = optR (atI xs i) h := by
  unfold dIx lstOf
  simp only [q]
  cases atI xs i <;> rfl
theorem at_0 : atI (d :: xs) 0 = some d := by
  unfold atI ixN
  simp
theorem at_1 : atI (d :: d1 :: xs) 1 = some d1 := by
  unfold atI ixN
  rw [if_pos (by decide), if_pos (by simp; omega)]
  rfl
theorem at_2 : atI (d :: d1 :: d2 :: xs) 2 = some d2 := by
  unfold atI ixN
  rw [if_pos (by decide), if_pos (by simp; omega)]
  rfl
theorem at_nat (hm : (m : Nat) < xs.length) : atI xs (m : Int) = some xs[m] := by
  unfold atI ixN
  simp [hm]
theorem dEq_ii : dEq (.int i) (.int j) h = .ok (.bl (decide (i = j))) h := by
  show (if SeqAt.shaped (.int i) = true ∧ SeqAt.shaped (.int j) = true then Res.ok (D.bl (false ^^ PyData.eqv (.int i) (.int j))) h else .bad) = _
  rw [if_pos ⟨rfl, rfl⟩]
  simp [PyData.eqv]
  by_cases e : i = j <;> simp [e]
theorem dNe_ii : dNe (.int i) (.int j) h = .ok (.bl (!decide (i = j))) h := by
  show (if SeqAt.shaped (.int i) = true ∧ SeqAt.shaped (.int j) = true then Res.ok (D.bl (true ^^ PyData.eqv (.int i) (.int j))) h else .bad) = _
  rw [if_pos ⟨rfl, rfl⟩]
  simp [PyData.eqv]
  by_cases e : i = j <;> simp [e]
theorem dEqn_fr {neg : Bool} {a b c d : Int} : dEqn neg (.tup [.int a, .int b]) (.tup [.int c, .int d]) h = .ok (.bl (neg ^^ decide (a = c ∧ b = d))) h := by
  show (if SeqAt.shaped (.tuple [.int a, .int b]) = true ∧ SeqAt.shaped (.tuple [.int c, .int d]) = true then Res.ok (D.bl (neg ^^ PyData.eqv (.tuple [.int a, .int b]) (.tuple [.int c, .int d]))) h else .bad) = _
  rw [if_pos ⟨rfl, rfl⟩]
  simp only [PyData.eqv, PyData.eqvAll, Bool.and_true]
  have e : (a == c && b == d) = decide (a = c ∧ b = d) := by rw [Bool.eq_iff_iff]; simp
  rw [e]
theorem dEq_fr {a b c d : Int} : dEq (.tup [.int a, .int b]) (.tup [.int c, .int d]) h = .ok (.bl (decide (a = c ∧ b = d))) h := by
  unfold dEq
  rw [dEqn_fr, Bool.false_xor]
theorem dNe_fr {a b c d : Int} : dNe (.tup [.int a, .int b]) (.tup [.int c, .int d]) h = .ok (.bl (!decide (a = c ∧ b = d))) h := by
  unfold dNe
  rw [dEqn_fr, Bool.true_xor]
theorem setL_l {k : Nat} (q : h[n]? = some (.lst xs)) (q2 : ixN xs.length i = some k) : dSetL (.ref n) (.int i) d h = .ok () (h.set n (.lst (xs.set k d))) := by unfold dSetL; simp only [q, q2]
theorem iSeq_t : iSeq (.tup xs) h = .ok (xs, fun _ => True) h := rfl
theorem iSeq_l (q : h[n]? = some (.lst xs)) : iSeq (.ref n) h = .ok (xs, fun h' => h'[n]? = some (.lst xs)) h := by unfold iSeq; simp only [q]
theorem mApp_l (q : h[n]? = some (.lst xs)) (q2 : xs.length < sizeLine) : mApp (.ref n) [d] h = .ok .non (h.set n (.lst (xs ++ [d]))) := by unfold mApp; simp only [q]; exact if_pos q2
theorem tyM_l (q : h[n]? = some (.lst xs)) : tyM "list" (.ref n) h = true := by unfold tyM; simp only [q]; rfl
end
theorem kit_ii : kitB "int" "int" = some true := by decide +kernel
theorem kit_bi : kitB "bool" "int" = some true := by decide +kernel
theorem kit_ni : kitB "NoneType" "int" = some false := by decide +kernel
theorem kit_si : kitB "str" "int" = some false := by decide +kernel
theorem kit_ti : kitB "tuple" "int" = some false := by decide +kernel
theorem kit_li : kitB "list" "int" = some false := by decide +kernel
theorem kit_di : kitB "dict" "int" = some false := by decide +kernel
theorem kit_ib : kitB "int" "bool" = some false := by decide +kernel
theorem kit_bb : kitB "bool" "bool" = some true := by decide +kernel
theorem kit_nb : kitB "NoneType" "bool" = some false := by decide +kernel
theorem kit_sb : kitB "str" "bool" = some false := by decide +kernel
theorem kit_tb : kitB "tuple" "bool" = some false := by decide +kernel
theorem kit_lb : kitB "list" "bool" = some false := by decide +kernel
theorem kit_db : kitB "dict" "bool" = some false := by decide +kernel
theorem kit_it : kitB "int" "tuple" = some false := by decide +kernel
theorem kit_bt : kitB "bool" "tuple" = some false := by decide +kernel
theorem kit_nt : kitB "NoneType" "tuple" = some false := by decide +kernel
theorem kit_st : kitB "str" "tuple" = some false := by decide +kernel
theorem kit_tt : kitB "tuple" "tuple" = some true := by decide +kernel
theorem kit_lt : kitB "list" "tuple" = some false := by decide +kernel
theorem kit_dt : kitB "dict" "tuple" = some false := by decide +kernel
theorem kit_ss : kitB "str" "str" = some true := by decide +kernel
theorem isi_int {h : Hd} {x : D} {t : String} (e : ty0 h x = some t) : bIsi [x, .ty "int"] h = .ok (.bl (t == "int" || t == "bool")) h := by
  have all : t = "NoneType" ∨ t = "bool" ∨ t = "int" ∨ t = "str" ∨ t = "tuple" ∨ t = "list" ∨ t = "dict" := by
    unfold ty0 at e
    split at e
    all_goals first | (cases e; simp; done) | (cases e; done) | (split at e <;> first | (cases e; simp; done) | (cases e; done))
  unfold bIsi
  simp only [e]
  rcases all with z | z | z | z | z | z | z <;> subst z <;> simp only [kit_ii, kit_bi, kit_ni, kit_si, kit_ti, kit_li, kit_di] <;> rfl
theorem isi_bool {h : Hd} {x : D} {t : String} (e : ty0 h x = some t) : bIsi [x, .ty "bool"] h = .ok (.bl (t == "bool")) h := by
  have all : t = "NoneType" ∨ t = "bool" ∨ t = "int" ∨ t = "str" ∨ t = "tuple" ∨ t = "list" ∨ t = "dict" := by
    unfold ty0 at e
    split at e
    all_goals first | (cases e; simp; done) | (cases e; done) | (split at e <;> first | (cases e; simp; done) | (cases e; done))
  unfold bIsi
  simp only [e]
  rcases all with z | z | z | z | z | z | z <;> subst z <;> simp only [kit_ib, kit_bb, kit_nb, kit_sb, kit_tb, kit_lb, kit_db] <;> rfl
theorem isi_tuple {h : Hd} {x : D} {t : String} (e : ty0 h x = some t) : bIsi [x, .ty "tuple"] h = .ok (.bl (t == "tuple")) h := by
  have all : t = "NoneType" ∨ t = "bool" ∨ t = "int" ∨ t = "str" ∨ t = "tuple" ∨ t = "list" ∨ t = "dict" := by
    unfold ty0 at e
    split at e
    all_goals first | (cases e; simp; done) | (cases e; done) | (split at e <;> first | (cases e; simp; done) | (cases e; done))
  unfold bIsi
  simp only [e]
  rcases all with z | z | z | z | z | z | z <;> subst z <;> simp only [kit_it, kit_bt, kit_nt, kit_st, kit_tt, kit_lt, kit_dt] <;> rfl
theorem while_step {t : TM} {b : SM} {s s2 : Sl} {h h1 h2 : Hd} (e1 : t s h = .ok true h1) (e2 : b s h1 = .nx s2 h2) : sWhile t b s h = sWhile t b s2 h2 := by
  rw [sWhile_eq, e1]
  show sSeq b (sWhile t b) s h1 = _
  unfold sSeq
  rw [e2]
  rfl
theorem while_end {t : TM} {b : SM} {s : Sl} {h h1 : Hd} (e1 : t s h = .ok false h1) : sWhile t b s h = .nx s h1 := by
  rw [sWhile_eq, e1]
  rfl
theorem appD_ok {h1 : Hd} {acc : List D} {d : D} (hl : acc.length < sizeLine) : appD h1.length d (h1 ++ [.lst acc]) = .ok () (h1 ++ [.lst (acc ++ [d])]) := by
  unfold appD
  rw [List.getElem?_append_right (Nat.le_refl _), Nat.sub_self]
  simp only [List.getElem?_cons_zero]
  rw [if_pos hl, List.set_append_right _ _ (Nat.le_refl _), Nat.sub_self]
  rfl
theorem lcD_ok {chk : Hd → Prop} {g : GM} {t : TM} {e : EM} {vs : List Nat} {s : Sl} {h1 : Hd} {p : D → Bool} {f : D → D} {s1 : D → Sl} : ∀ (xs : List D) (acc : List D), acc.length + xs.length < sizeLine → (∀ acc : List D, chk (h1 ++ [.lst acc])) → (∀ x ∈ xs, ∀ h, g x (wipeD s vs) h = .ok (s1 x) h) →
    (∀ x ∈ xs, ∀ acc, t (s1 x) (h1 ++ [.lst acc]) = .ok (p x) (h1 ++ [.lst acc])) → (∀ x ∈ xs, p x = true → ∀ acc, e (s1 x) (h1 ++ [.lst acc]) = .ok (f x) (h1 ++ [.lst acc])) →
    lcD chk g t e vs h1.length s xs (h1 ++ [.lst acc]) = .ok () (h1 ++ [.lst (acc ++ (xs.filter p).map f)])
  | [], acc, hl, hc, hg, ht, he => by
    unfold lcD
    rw [if_pos (hc acc)]
    simp
  | x :: xs, acc, hl, hc, hg, ht, he => by
    unfold lcD
    rw [if_pos (hc acc), hg x (by simp)]
    simp only
    rw [ht x (by simp), Res.bind_ok]
    by_cases hp : p x = true
    · rw [if_pos hp, he x (by simp) hp, Res.bind_ok, appD_ok (by simp only [List.length_cons] at hl; omega), Res.bind_ok]
      rw [lcD_ok xs (acc ++ [f x]) (by simp only [List.length_append, List.length_cons, List.length_nil] at hl ⊢; omega) hc (fun y hy => hg y (by simp [hy])) (fun y hy => ht y (by simp [hy])) (fun y hy => he y (by simp [hy]))]
      rw [List.filter_cons_of_pos hp, List.map_cons, List.append_assoc]
      rfl
    · rw [if_neg hp]
      rw [lcD_ok xs acc (by simp only [List.length_cons] at hl; omega) hc (fun y hy => hg y (by simp [hy])) (fun y hy => ht y (by simp [hy])) (fun y hy => he y (by simp [hy]))]
      rw [List.filter_cons_of_neg hp]
theorem eLc_ok {im : IM} {g : GM} {t : TM} {e : EM} {vs : List Nat} {s : Sl} {h h1 : Hd} {xs : List D} {chk : Hd → Prop} {p : D → Bool} {f : D → D} {s1 : D → Sl} (hi : im s h = .ok (xs, chk) h1) (hl : xs.length < sizeLine) (hc : ∀ acc : List D, chk (h1 ++ [.lst acc])) (hg : ∀ x ∈ xs, ∀ h, g x (wipeD s vs) h = .ok (s1 x) h)
    (ht : ∀ x ∈ xs, ∀ acc, t (s1 x) (h1 ++ [.lst acc]) = .ok (p x) (h1 ++ [.lst acc])) (he : ∀ x ∈ xs, p x = true → ∀ acc, e (s1 x) (h1 ++ [.lst acc]) = .ok (f x) (h1 ++ [.lst acc])) :
    eLc im g t e vs s h = .ok (.ref h1.length) (h1 ++ [.lst ((xs.filter p).map f)]) := by
  unfold eLc
  rw [hi, Res.bind_ok]
  simp only
  rw [lcD_ok xs [] (by simpa using hl) hc hg ht he, Res.bind_ok]
  simp
theorem eLc_map {im : IM} {e : EM} {i : Nat} {s : Sl} {h h1 : Hd} {xs : List D} {chk : Hd → Prop} {f : D → D} (hi : im s h = .ok (xs, chk) h1) (hl : xs.length < sizeLine) (hc : ∀ acc : List D, chk (h1 ++ [.lst acc])) (he : ∀ x ∈ xs, ∀ acc, e ((s.set i none).set i (some x)) (h1 ++ [.lst acc]) = .ok (f x) (h1 ++ [.lst acc])) :
    eLc im (gN i) tT e [i] s h = .ok (.ref h1.length) (h1 ++ [.lst (xs.map f)]) := by
  have := eLc_ok (p := fun _ => true) (f := f) (t := tT) (g := gN i) (vs := [i]) (e := e) (s1 := fun x => (s.set i none).set i (some x)) hi hl hc (fun x _ h => rfl) (fun x _ acc => rfl) (fun x hx _ acc => he x hx acc)
  rw [this, List.filter_eq_self.mpr fun _ _ => rfl]
theorem bools_map {α : Type} {f : α → Bool} : ∀ xs : List α, bools (xs.map fun x => D.bl (f x)) = some (xs.map f)
  | [] => rfl
  | x :: xs => by
    show (bools (xs.map fun x => D.bl (f x))).map (f x :: ·) = _
    rw [bools_map xs]
    rfl
theorem bAll_map {α : Type} {f : α → Bool} {xs : List α} {n : Nat} {h : Hd} (q : h[n]? = some (.lst (xs.map fun x => D.bl (f x)))) : bAll [.ref n] h = .ok (.bl (xs.all f)) h := by
  unfold bAll lstOf
  simp only [q, Option.bind_some, bools_map]
  simp
theorem bAny_map {α : Type} {f : α → Bool} {xs : List α} {n : Nat} {h : Hd} (q : h[n]? = some (.lst (xs.map fun x => D.bl (f x)))) : bAny [.ref n] h = .ok (.bl (xs.any f)) h := by
  unfold bAny lstOf
  simp only [q, Option.bind_some, bools_map]
  simp
theorem cutD_map {α : Type} {f : α → D} {xs : List α} {lo hi : Option Int} : cutD (xs.map f) lo hi = ((xs.drop (HT.sIx xs.length 0 lo)).take (HT.sIx xs.length xs.length hi - HT.sIx xs.length 0 lo)).map f := by
  unfold cutD
  rw [List.length_map, List.map_take, List.map_drop]
theorem dSl_t {xs : List D} {lo hi : Option Int} {h : Hd} : dSl (.tup xs) lo hi h = .ok (.tup (cutD xs lo hi)) h := rfl
theorem dSl_l {xs : List D} {lo hi : Option Int} {h : Hd} {n : Nat} (q : h[n]? = some (.lst xs)) : dSl (.ref n) lo hi h = .ok (.ref h.length) (h ++ [.lst (cutD xs lo hi)]) := by unfold dSl lstOf; simp only [q]
theorem dAdd_ll {h : Hd} {n m : Nat} {xs ys : List D} (q1 : h[n]? = some (.lst xs)) (q2 : h[m]? = some (.lst ys)) (q : xs.length + ys.length ≤ 1000000) : dAdd (.ref n) (.ref m) h = .ok (.ref h.length) (h ++ [.lst (xs ++ ys)]) := by
  unfold dAdd
  simp only [q1, q2]
  exact if_pos (Nat.le_trans q (by decide))
theorem bStr_ok {i : Int} {h : Hd} {k : Nat} (q : Sz k i) (hk : k < 1920) : bStr [.int i] h = .ok (.str (toString i)) h := if_pos (Nat.lt_of_le_of_lt q.log hk)
theorem get_at {h g : Hd} {k : Nat} : (h ++ g)[h.length + k]? = g[k]? := by
  rw [List.getElem?_append_right (by omega)]
  congr 1
  omega
theorem get_at0 {h g : Hd} : (h ++ g)[h.length]? = g[0]? := by
  rw [List.getElem?_append_right (by omega), Nat.sub_self]
theorem get_new {h : Hd} {o : MO} : (h ++ [o])[h.length]? = some o := by simp
end DL
namespace DL
open PySem PySem.Spec L2
def FQ (q : Rat) : D := .tup [.int q.num, .int (q.den : Int)]
theorem FQ_divInt {n d : Int} (hd : 1 ≤ d) : FQ (Rat.divInt n d) = .tup [.int (n / Int.gcd n d), .int (d / Int.gcd n d)] := by
  unfold FQ
  rw [Rat.num_divInt, Rat.den_divInt, if_neg (by omega), Int.sign_eq_one_of_pos (by omega), Int.one_mul, Int.gcd_comm d n]
  have : ((d.natAbs / Int.gcd n d : Nat) : Int) = d / Int.gcd n d := by
    rw [Int.natCast_ediv, Int.natAbs_of_nonneg (by omega)]
  rw [this]
def SzQ (k : Nat) (q : Rat) : Prop := Sz k q.num ∧ Sz k (q.den : Int)
theorem den_pos (q : Rat) : (1 : Int) ≤ (q.den : Int) := by
  have := q.den_pos
  omega
theorem num_nonneg {q : Rat} (h : 0 ≤ q) : 0 ≤ q.num := Rat.num_nonneg.mpr h
theorem Sz.div {k : Nat} {n : Int} (a : Sz k n) (g : Int) : Sz k (n / g) := by
  unfold Sz at *
  exact Nat.lt_of_le_of_lt (Int.natAbs_ediv_le_natAbs n g) a
theorem SzQ.divInt {k : Nat} {n d : Int} (hd : 1 ≤ d) (a : Sz k n) (b : Sz k d) : SzQ k (Rat.divInt n d) := by
  unfold SzQ
  rw [Rat.num_divInt, Rat.den_divInt, if_neg (by omega), Int.sign_eq_one_of_pos (by omega), Int.one_mul]
  refine ⟨a.div _, ?_⟩
  have : ((d.natAbs / Int.gcd d n : Nat) : Int) = d / Int.gcd d n := by
    rw [Int.natCast_ediv, Int.natAbs_of_nonneg (by omega)]
  rw [this]
  exact b.div _
theorem divInt_nonneg {n d : Int} (hn : 0 ≤ n) (hd : 1 ≤ d) : 0 ≤ Rat.divInt n d := by
  rw [← Rat.num_nonneg, Rat.num_divInt, Int.sign_eq_one_of_pos (by omega), Int.one_mul]
  exact Int.ediv_nonneg hn (by omega)
theorem dIx_FQ0 {a : Rat} {h : Hd} : dIx (FQ a) (.int 0) h = .ok (.int a.num) h := by
  unfold FQ
  rw [dIx_t, at_0]
  rfl
theorem dIx_FQ1 {a : Rat} {h : Hd} : dIx (FQ a) (.int 1) h = .ok (.int a.den) h := by
  unfold FQ
  rw [dIx_t, at_1]
  rfl
theorem eq_FQ {a b : Rat} : (a.num = b.num ∧ (a.den : Int) = b.den) ↔ a = b := ⟨fun ⟨h1, h2⟩ => Rat.ext h1 (Int.ofNat.inj h2), fun e => by subst e; exact ⟨rfl, rfl⟩⟩
theorem dEq_FQ {a b : Rat} {h : Hd} : dEq (FQ a) (FQ b) h = .ok (.bl (decide (a = b))) h := by
  unfold FQ
  rw [dEq_fr]
  simp only [eq_FQ]
theorem dNe_FQ {a b : Rat} {h : Hd} : dNe (FQ a) (FQ b) h = .ok (.bl (!decide (a = b))) h := by
  unfold FQ
  rw [dNe_fr]
  simp only [eq_FQ]
theorem lo_FQ {n : Nat} {a : Rat} : D.lo n (FQ a) = true := by
  unfold FQ
  simp only [lo_tup, lo_cons, lo_int, lo_nil]
  rfl
theorem FQ_01 : D.tup [.int 0, .int 1] = FQ 0 := rfl
theorem ev_gT_FQ {gs : GMs} {a : Rat} {s : Sl} {h : Hd} : gT 2 gs (FQ a) s h = gs [.int a.num, .int a.den] s h := rfl
theorem reduced_gcd (q : Rat) : Int.gcd q.num q.den = 1 := q.reduced
end DL
namespace DL
open PySem PySem.Spec L2
theorem andB {a b : Prop} (x : a) (y : b) : a ∧ b := ⟨x, y⟩
def evB1 := andB @ev_T <| andB @ev_L <| andB @ev_run <| andB @ev_V <| andB @ev_C <| andB @ev_1 <| andB @ev_2 <| andB @ev_B <| andB @ev_Tr <| andB @ev_tAnd <| andB @ev_tOr <| andB @ev_tNot <| andB @ev_And <| andB @ev_Or <| andB @ev_Not <| andB @ev_If <| andB @ev_aN <| andB @ev_aC <| andB @ev_A <| andB @ev_F <| andB @ev_M <| andB @ev_Sl <| andB @ev_oN <| andB @ev_oS <| andB @ev_nil <| andB @ev_seq <| andB @ev_asg <| andB @ev_gN <| andB @ev_gsN <| andB @ev_gsC <| andB @ev_gT <| andB @ev_gS <| andB @ev_set <| andB @ev_ret <| andB @ev_expr <| andB @ev_if <| andB @ev_par2 <| andB @ev_for <| andB @ev_i1 <| @ev_iA
local macro_rules | `(tactic| walk_at "ev") => `(tactic| try simp -implicitDefEqProofs only [evB1, Nat.reduceLeDiff, asO_int, Res.bind_ok, b1_ok, b2_ok, bAnd_ok, bOr_ok, bNot_ok, bAndV_ok, bOrV_ok, bNotV_ok, bIf_ok, bC_ok, bC1_ok, bM_ok, bM1_ok, bSl_ok, bSl1_ok, bSl2_ok, kAsg_ok, bG_ok, bS1_ok, bS2_ok, bS3_ok, kSet_ok, kRet_ok, kExp_ok, kIf_ok, kFor_ok, kPar_ok, kPar1_ok, SR.seq_nx, SR.seq_rt, SR.fin_rt, toS_ok, slAt_some, optR_some, asB_bl, asT_bl, dAdd_ii, dSub_ii, dNeg_i, dLt_ii, dGt_ii, dLe_ii, dGe_ii, bMax2_ii, bMin2_ii, bInt_b, bLen_t, bLen_r, dIx_t, dIx_r, at_0, at_1, at_2, dEq_ii, dNe_ii, iSeq_t, List.map, List.length_cons, List.length_nil, List.replicate_succ, List.replicate_zero, List.cons_append, List.nil_append, List.append_nil, List.getElem?_cons_zero, List.getElem?_cons_succ, List.set_cons_zero, List.set_cons_succ, Nat.reduceSub, Nat.reduceAdd, Nat.sub_self, Bool.not_true, Bool.not_false, if_true, if_false, reduceIte, Bool.false_eq_true, decide_true, decide_false])
local macro_rules | `(tactic| walk_at "evn") => `(tactic| try simp -implicitDefEqProofs only [evB1, List.append_assoc, List.length_append, Nat.add_assoc, get_at, get_at0, Nat.reduceLeDiff, asO_int, Res.bind_ok, b1_ok, b2_ok, bAnd_ok, bOr_ok, bNot_ok, bAndV_ok, bOrV_ok, bNotV_ok, bIf_ok, bC_ok, bC1_ok, bM_ok, bM1_ok, bSl_ok, bSl1_ok, bSl2_ok, kAsg_ok, bG_ok, bS1_ok, bS2_ok, bS3_ok, kSet_ok, kRet_ok, kExp_ok, kIf_ok, kFor_ok, kPar_ok, kPar1_ok, SR.seq_nx, SR.seq_rt, SR.fin_rt, toS_ok, slAt_some, optR_some, asB_bl, asT_bl, dAdd_ii, dSub_ii, dNeg_i, dLt_ii, dGt_ii, dLe_ii, dGe_ii, bMax2_ii, bMin2_ii, bInt_b, bLen_t, bLen_r, dIx_t, dIx_r, at_0, at_1, at_2, dEq_ii, dNe_ii, iSeq_t, List.map, List.length_cons, List.length_nil, List.replicate_succ, List.replicate_zero, List.cons_append, List.nil_append, List.append_nil, List.getElem?_cons_zero, List.getElem?_cons_succ, List.set_cons_zero, List.set_cons_succ, Nat.reduceSub, Nat.reduceAdd, Nat.sub_self, Bool.not_true, Bool.not_false, if_true, if_false, reduceIte, Bool.false_eq_true, decide_true, decide_false])
theorem gcd_step {a b : Int} (ha : 0 ≤ a) (hb : 0 ≤ b) : Int.gcd b (a % b) = Int.gcd a b := by
  obtain ⟨m, rfl⟩ := Int.eq_ofNat_of_zero_le ha
  obtain ⟨n, rfl⟩ := Int.eq_ofNat_of_zero_le hb
  show Nat.gcd n ((m : Int) % (n : Int)).natAbs = Nat.gcd m n
  rw [← Int.natCast_emod, Int.natAbs_natCast, Nat.gcd_comm m n, Nat.gcd_comm n (m % n)]
  exact (Nat.gcd_rec n m).symm
theorem common_while {t : TM} {bd : SM} {h : Hd} (ht : ∀ a b : Int, t [some (.int a), some (.int b)] h = .ok (decide (0 < b)) h) (hb : ∀ a b : Int, 0 < b → bd [some (.int a), some (.int b)] h = .nx [some (.int b), some (.int (a % b))] h) :
    ∀ (n : Nat) (a b : Int), b.toNat ≤ n → 0 ≤ a → 0 ≤ b → sWhile t bd [some (.int a), some (.int b)] h = .nx [some (.int (Int.gcd a b)), some (.int 0)] h := by
  have base : ∀ a : Int, 0 ≤ a → sWhile t bd [some (.int a), some (.int 0)] h = .nx [some (.int (Int.gcd a 0)), some (.int 0)] h := fun a ha => by
    rw [while_end (ht a 0)]
    have : ((Int.gcd a 0 : Nat) : Int) = a := by rw [Int.gcd_zero_right]; omega
    rw [this]
  intro n
  induction n with
  | zero =>
    intro a b hn ha hb'
    obtain rfl : b = 0 := by omega
    exact base a ha
  | succ n ih =>
    intro a b hn ha hb'
    by_cases hz : b = 0
    · subst hz
      exact base a ha
    · have hp : 0 < b := by omega
      rw [while_step (by rw [ht]; simp only [hp, decide_true]) (hb a b hp), ih b (a % b) (by have := Int.emod_lt_of_pos a hp; have := Int.emod_nonneg a hz; omega) hb' (Int.emod_nonneg a hz)]
      rw [gcd_step ha hb']
def isFr : D → Bool
  | .tup [.int n, .int d] => decide (0 ≤ n ∧ 1 ≤ d ∧ Int.gcd n d = 1)
  | _ => false
def isInt : D → Bool
  | .int _ => true
  | _ => false
def Typed (h : Hd) (x : D) : Prop := (∃ t, ty0 h x = some t) ∧ ∀ xs, x = .tup xs → ∀ y ∈ xs, ∃ t, ty0 h y = some t
theorem ty0_app {h g : Hd} {x : D} {t : String} (e : ty0 h x = some t) : ty0 (h ++ g) x = some t := by
  cases x with
  | ref n =>
    unfold ty0 at e ⊢
    simp only at e ⊢
    have hn : n < h.length := by
      rcases Nat.lt_or_ge n h.length with z | z
      · exact z
      · rw [List.getElem?_eq_none z] at e
        cases e
    rw [List.getElem?_append_left hn]
    exact e
  | _ => exact e
theorem fr_tup {x y : D} (q : isInt x = true ∧ isInt y = true) : ∃ n d, x = .int n ∧ y = .int d := by
  cases x with
  | int n =>
    cases y with
    | int d => exact ⟨n, d, rfl, rfl⟩
    | _ => cases q.2
  | _ => cases q.1
theorem isFr_no {x y : D} (q : ¬ (isInt x = true ∧ isInt y = true)) : isFr (.tup [x, y]) = false := by
  cases x with
  | int n =>
    cases y with
    | int d => exact (q ⟨rfl, rfl⟩).elim
    | _ => rfl
  | _ => rfl
theorem isFr_int {n d : Int} : isFr (.tup [.int n, .int d]) = decide (0 ≤ n ∧ 1 ≤ d ∧ Int.gcd n d = 1) := rfl
theorem isFr_len {xs : List D} (q : ¬ xs.length = 2) : isFr (.tup xs) = false := by
  match xs, q with
  | [], _ => rfl
  | [x], _ => cases x <;> rfl
  | [_, _], q => exact (q rfl).elim
  | x :: y :: _ :: _, _ => cases x <;> first | rfl | (cases y <;> rfl)
theorem isFr_not {x : D} (q : ¬ ∃ xs, x = .tup xs) : isFr x = false := by
  cases x with
  | tup xs => exact (q ⟨xs, rfl⟩).elim
  | _ => rfl
theorem ty_not {x : D} {h : Hd} {t : String} (e : ty0 h x = some t) (q : ¬ ∃ xs, x = .tup xs) : (t == "tuple") = false := by
  cases x with
  | tup xs => exact (q ⟨xs, rfl⟩).elim
  | ref n =>
    unfold ty0 at e
    simp only at e
    split at e
    all_goals first | (cases e; done) | (cases e; decide)
  | _ => first | (cases e; done) | (cases e; decide)
theorem fr_last {n d : Int} {h : Hd} {s : Sl} {F : List D → M D} (hF : 0 ≤ n → 1 ≤ d → F [.int n, .int d] h = .ok (.int (Int.gcd n d)) h) :
    (if decide (0 ≤ n) = true then if decide (1 ≤ d) = true then (F [.int n, .int d] h).b2 dEq (eC (.int 1)) s else Res.ok (.bl false) h else Res.ok (.bl false) h) = .ok (.bl (isFr (.tup [.int n, .int d]))) h := by
  rw [isFr_int]
  by_cases a : 0 ≤ n
  · simp only [a, decide_true, if_true]
    by_cases b : 1 ≤ d
    · simp only [b, decide_true, if_true]
      rw [hF a b]
      walk_at "ev"
      congr 2
      simp
      omega
    · simp [b]
  · simp [a]
theorem typed_fr {h : Hd} {n d : Int} : Typed h (.tup [.int n, .int d]) := ⟨⟨_, rfl⟩, fun xs e => by cases e; simp [ty0]⟩
end DL
namespace DL
open PySem PySem.Spec L2
class ZI (k : outParam Nat) (i : Int) : Prop where
  z : Sz k i
class ZQ (k : outParam Nat) (q : Rat) : Prop where
  z : SzQ k q
class Fa (p : Prop) : Prop where
  out : p
section
variable {k l : Nat} {i j : Int} {a b : Rat}
instance zi_num [x : ZQ k a] : ZI k a.num := ⟨x.z.1⟩
instance zi_den [x : ZQ k a] : ZI k (a.den : Int) := ⟨x.z.2⟩
instance zi_add [x : ZI k i] [y : ZI l j] : ZI (max k l + 1) (i + j) := ⟨x.z.add y.z⟩
instance zi_sub [x : ZI k i] [y : ZI l j] : ZI (max k l + 1) (i - j) := ⟨x.z.sub y.z⟩
instance zi_mul [x : ZI k i] [y : ZI l j] : ZI (k + l) (i * j) := ⟨x.z.mul y.z⟩
variable {h : Hd}
theorem dMul_I [x : ZI k i] [y : ZI l j] (hk : k + l < 100000000) : dMul (.int i) (.int j) h = .ok (.int (i * j)) h := dMul_ok (MulOk.of x.z y.z hk)
theorem bStr_I [x : ZI k i] (hk : k < 1920) : bStr [.int i] h = .ok (.str (toString i)) h := bStr_ok x.z hk
theorem lt_FQ : (a.num * b.den < b.num * a.den) = (a < b) := propext (Rat.lt_iff _ _).symm
theorem get_l {o : MO} : (h ++ [o])[h.length]? = some o := get_new
class Ls (h : Hd) (n : Nat) (xs : outParam (List D)) : Prop where
  q : h[n]? = some (.lst xs)
class Lt (g : Hd) (k : Nat) (xs : outParam (List D)) : Prop where
  q : g[k]? = some (.lst xs)
end
section
variable {g h : Hd} {n k : Nat} {xs ys : List D} {d : D} {o : MO}
instance lt_0 : Lt (.lst xs :: g) 0 xs := ⟨rfl⟩
instance lt_s [q : Lt g k xs] : Lt (o :: g) (k + 1) xs := ⟨q.q⟩
instance ls_app [q : Ls h n xs] : Ls (h ++ g) n xs := ⟨by rw [List.getElem?_append_left (List.getElem?_eq_some_iff.mp q.q).1]; exact q.q⟩
instance ls_at [q : Lt g k xs] : Ls (h ++ g) (h.length + k) xs := ⟨by rw [get_at]; exact q.q⟩
instance ls_at0 : Ls (h ++ .lst xs :: g) h.length xs := ⟨by rw [get_at0]; rfl⟩
theorem iSeq_I [q : Ls h n xs] : iSeq (.ref n) h = .ok (xs, fun h' => h'[n]? = some (.lst xs)) h := iSeq_l q.q
theorem tyM_I [q : Ls h n xs] : tyM "list" (.ref n) h = true := tyM_l q.q
theorem lsOf_I [q : Ls h n xs] : lstOf h (.ref n) = some xs := by unfold lstOf; simp only [q.q]
theorem dIx_I [q : Ls h n xs] {i : Int} : dIx (.ref n) (.int i) h = (match atI xs i with
    | some d => .ok d h
    | none => .bad) := dIx_l q.q
theorem mApp_I [q : Ls h n xs] (hl : xs.length < 1000000) : mApp (.ref n) [d] h = .ok .non (h.set n (.lst (xs ++ [d]))) := mApp_l q.q (Nat.lt_of_lt_of_le hl (by decide +kernel))
theorem dSl_I [q : Ls h n xs] {lo hi : Option Int} : dSl (.ref n) lo hi h = .ok (.ref h.length) (h ++ [.lst (cutD xs lo hi)]) := dSl_l q.q
theorem bLen_I [q : Ls h n xs] : bLen [.ref n] h = .ok (.int xs.length) h := by unfold bLen len0; simp only [q.q]
theorem bTuple_I [q : Ls h n xs] : bTuple [.ref n] h = .ok (.tup xs) h := by unfold bTuple; simp only [lsOf_I]
theorem dAdd_I {m : Nat} [q1 : Ls h n xs] [q2 : Ls h m ys] (q : xs.length + ys.length ≤ 1000000) : dAdd (.ref n) (.ref m) h = .ok (.ref h.length) (h ++ [.lst (xs ++ ys)]) := dAdd_ll q1.q q2.q q
theorem set_at_I : (h ++ g).set (h.length + k) o = h ++ g.set k o := by
  rw [List.set_append_right _ _ (by omega)]
  congr 2
  omega
theorem set_at0_I : (h ++ g).set h.length o = h ++ g.set 0 o := by
  rw [List.set_append_right _ _ (by omega)]
  congr 2
  omega
end
theorem cut_mem {xs : List D} {lo hi : Option Int} {x : D} (h : x ∈ cutD xs lo hi) : x ∈ xs := List.mem_of_mem_drop (List.mem_of_mem_take h)
theorem iteA_I {c d : Bool} {h : Hd} : (if c = true then Res.ok d h else Res.ok false h) = Res.ok (c && d) h := by cases c <;> rfl
theorem iteO_I {c d : Bool} {h : Hd} : (if c = true then Res.ok true h else Res.ok d h) = Res.ok (c || d) h := by cases c <;> rfl
theorem iteOV_I {c d : Bool} {h : Hd} : (if c = true then Res.ok (D.bl true) h else Res.ok (D.bl d) h) = Res.ok (.bl (c || d)) h := by cases c <;> rfl
theorem is_in_I {neg : Bool} {i : Int} {h : Hd} : isD neg (.int i) .non h = .ok (.bl (neg ^^ false)) h := rfl
theorem is_nn_I {neg : Bool} {h : Hd} : isD neg .non .non h = .ok (.bl (neg ^^ true)) h := rfl
theorem is_tn_I {neg : Bool} {xs : List D} {h : Hd} : isD neg (.tup xs) .non h = .ok (.bl (neg ^^ false)) h := rfl
theorem dec_nil_I {α : Type} [DecidableEq α] {c : α} {l : List α} : decide (c :: l = []) = false := by simp
theorem appD_mid {h' g : Hd} {n : Nat} {acc : List D} {d : D} (e : h'.length = n) (hl : acc.length < 1000000) : appD n d (h' ++ .lst acc :: g) = .ok () (h' ++ .lst (acc ++ [d]) :: g) := by
  subst e
  unfold appD
  rw [get_at0]
  simp only [List.getElem?_cons_zero]
  rw [if_pos (Nat.lt_of_lt_of_le hl (by decide +kernel)), set_at0_I]
  rfl
theorem bls_py : ∀ bs : List Bool, D.pyAll (bs.map D.bl) = some (bs.map PyData.bool)
  | [] => rfl
  | b :: bs => by rw [List.map_cons, D.pyAll, bls_py bs]; rfl
end DL
namespace DL
open PySem PySem.Spec L2
def T (l : List Nat) : D := .str ⟨l.toArray⟩
theorem T_str {x : Str} : D.str x = T x.cps.toList := rfl
def dig (n : Nat) : List Nat := (Nat.toDigits 10 n).map Char.toNat
section
variable {h : Hd} {a b l : List Nat} {c : Nat} {n : Nat}
theorem str_nat (n : Nat) : (toString (n : Int) : Str) = ⟨(dig n).toArray⟩ := by
  show Str.ofString (toString (n : Int)) = _
  rw [Str.ofString_eq_toList]
  show (⟨((Nat.repr n).toList.map Char.toNat).toArray⟩ : Str) = _
  rw [Nat.toList_repr]
  rfl
theorem bStr_T {i : Int} {k : Nat} (h0 : 0 ≤ i) (q : Sz k i) (hk : k < 1920) : bStr [.int i] h = .ok (T (dig i.toNat)) h := by
  rw [bStr_ok q hk]
  obtain ⟨n, rfl⟩ := Int.eq_ofNat_of_zero_le h0
  rw [str_nat]
  rfl
class Tx (l : List Nat) : Prop where
  ok : ∀ c ∈ l, c < 1114112
instance tx_nil : Tx [] := ⟨by simp⟩
instance tx_cons [q : Fa (c < 1114112)] [t : Tx l] : Tx (c :: l) := ⟨fun x hx => by rcases List.mem_cons.mp hx with rfl | hx; exact q.out; exact t.ok x hx⟩
instance tx_app [q : Tx a] [t : Tx b] : Tx (a ++ b) := ⟨fun x hx => (List.mem_append.mp hx).elim (q.ok x) (t.ok x)⟩
theorem dig_mem {n c : Nat} (h : c ∈ dig n) : 48 ≤ c ∧ c ≤ 57 := by
  obtain ⟨x, hx, rfl⟩ := List.mem_map.mp h
  have q := Nat.isDigit_of_mem_toDigits (by decide) (by decide) hx
  unfold Char.isDigit at q
  rw [Bool.and_eq_true, decide_eq_true_eq, decide_eq_true_eq] at q
  exact ⟨UInt32.le_iff_toNat_le.mp q.1, UInt32.le_iff_toNat_le.mp q.2⟩
instance tx_dig : Tx (dig n) := ⟨fun c hc => by have := dig_mem hc; omega⟩
instance fc_47 : Fa (47 < 1114112) := ⟨by decide⟩
instance fc_48 : Fa (48 < 1114112) := ⟨by decide⟩
instance fc_100 : Fa (100 < 1114112) := ⟨by decide⟩
instance fc_101 : Fa (101 < 1114112) := ⟨by decide⟩
instance fc_105 : Fa (105 < 1114112) := ⟨by decide⟩
instance fc_114 : Fa (114 < 1114112) := ⟨by decide⟩
instance fc_116 : Fa (116 < 1114112) := ⟨by decide⟩
theorem shaped_T [q : Tx a] : SeqAt.shaped (.str ⟨a.toArray⟩) = true := by
  unfold SeqAt.shaped
  rw [PyData.canLay0, PyData.depth]
  have : PyData.strOk ⟨a.toArray⟩ = true := by
    unfold PyData.strOk
    simpa using q.ok
  rw [this]
  rfl
theorem eqn_T {neg : Bool} [p : Tx a] [q : Tx b] : dEqn neg (T a) (T b) h = .ok (.bl (neg ^^ decide (a = b))) h := by
  unfold dEqn T
  rw [show pyH h (.str ⟨a.toArray⟩) = some (.str ⟨a.toArray⟩) from rfl, show pyH h (.str ⟨b.toArray⟩) = some (.str ⟨b.toArray⟩) from rfl]
  simp only
  rw [if_pos ⟨shaped_T, shaped_T⟩]
  congr 3
  show ((⟨a.toArray⟩ : Str) == ⟨b.toArray⟩) = _
  rw [Bool.eq_iff_iff]
  simp
theorem dEq_T_I [p : Tx a] [q : Tx b] : dEq (T a) (T b) h = .ok (.bl (decide (a = b))) h := by
  show dEqn false _ _ h = _
  rw [eqn_T, Bool.false_xor]
theorem dNe_T_I [p : Tx a] [q : Tx b] : dNe (T a) (T b) h = .ok (.bl (!decide (a = b))) h := by
  show dEqn true _ _ h = _
  rw [eqn_T, Bool.true_xor]
theorem dAdd_T_I (hl : a.length + b.length ≤ 1000000) : dAdd (T a) (T b) h = .ok (T (a ++ b)) h := by
  unfold dAdd T
  simp only
  rw [if_pos (Nat.le_trans (show Str.length ⟨a.toArray⟩ + Str.length ⟨b.toArray⟩ ≤ 1000000 by simpa [Str.length] using hl) (by decide +kernel))]
  congr 2
  show Str.mk _ = _
  simp
theorem tyM_T : tyM "str" (T a) h = true := rfl
theorem lo_T {n : Nat} : D.lo n (T a) = true := lo_str
theorem len_T : Str.length ⟨l.toArray⟩ = l.length := by simp [Str.length]
theorem iSeq_T_I : iSeq (T l) h = .ok (l.map fun c => T [c], fun _ => True) h := rfl
theorem dIn_T_I {neg : Bool} : dIn neg (T [c]) (T l) h = .ok (.bl (neg ^^ decide (c ∈ l))) h := by
  unfold dIn T
  simp only
  have := PySem.StrLaws.found_one ⟨l.toArray⟩ c
  rw [show (⟨[c].toArray⟩ : Str) = ⟨#[c]⟩ from rfl, this]
theorem dIx_T_I (hl : (c :: l).length ≤ 1000000) : dIx (T (c :: l)) (.int 0) h = .ok (T [c]) h := by
  unfold dIx T
  simp only
  rw [if_pos (by rw [len_T]; exact Nat.le_trans hl (by decide +kernel))]
  show (match atI (c :: l) 0 with | some c => Res.ok (D.str ⟨#[c]⟩) h | none => .bad) = _
  have : atI (c :: l) 0 = some c := by
    unfold atI ixN
    simp
  rw [this]
theorem bLen_T_I (hl : l.length ≤ 1000000) : bLen [T l] h = .ok (.int l.length) h := by
  unfold bLen len0 T
  simp only
  rw [if_pos (by rw [len_T]; exact Nat.le_trans hl (by decide +kernel)), len_T]
theorem at_one {l : List Nat} {c i : Nat} : StrLaws.At ⟨l.toArray⟩ ⟨#[c]⟩ (Str.length ⟨l.toArray⟩) i ↔ l[i]? = some c := StrLaws.subAt_one ⟨l.toArray⟩ c i
theorem occ_T (l : List Nat) (c : Nat) : (Builtin.Str.occurrences ⟨l.toArray⟩ ⟨#[c]⟩ 0 (Str.length ⟨l.toArray⟩) 1 = [] ∧ c ∉ l) ∨ ∃ i r, Builtin.Str.occurrences ⟨l.toArray⟩ ⟨#[c]⟩ 0 (Str.length ⟨l.toArray⟩) 1 = i :: r ∧ l[i]? = some c ∧ ∀ k, k < i → l[k]? ≠ some c := by
  rcases StrLaws.occ_head ⟨l.toArray⟩ ⟨#[c]⟩ 1 (Nat.le_refl _) with ⟨h0, hn⟩ | ⟨i, r, e, ha, hn⟩
  · refine .inl ⟨h0, fun hc => ?_⟩
    obtain ⟨i, hi⟩ := List.mem_iff_getElem?.mp hc
    exact hn i (at_one.mpr hi)
  · exact .inr ⟨i, r, e, at_one.mp ha, fun k hk q => hn k hk (at_one.mpr q)⟩
theorem occ_no (hc : c ∉ l) : Builtin.Str.occurrences ⟨l.toArray⟩ ⟨#[c]⟩ 0 (Str.length ⟨l.toArray⟩) 1 = [] := by
  rcases occ_T l c with ⟨h0, _⟩ | ⟨i, r, e, ha, hn⟩
  · exact h0
  · exact (hc (List.mem_iff_getElem?.mpr ⟨i, ha⟩)).elim
theorem occ_at (ha : c ∉ a) : ∃ r, Builtin.Str.occurrences ⟨(a ++ c :: b).toArray⟩ ⟨#[c]⟩ 0 (Str.length ⟨(a ++ c :: b).toArray⟩) 1 = a.length :: r := by
  rcases occ_T (a ++ c :: b) c with ⟨_, h0⟩ | ⟨i, r, e, hi, hn⟩
  · exact (h0 (by simp)).elim
  · refine ⟨r, ?_⟩
    rw [e]
    congr 1
    rcases Nat.lt_trichotomy i a.length with z | z | z
    · rw [List.getElem?_append_left z] at hi
      exact (ha (List.mem_iff_getElem?.mpr ⟨i, hi⟩)).elim
    · exact z
    · exact (hn a.length z (by simp)).elim
theorem mPart_no (hc : c ∉ l) (hl : l.length ≤ 1000000) : mPart (T l) [T [c]] h = .ok (.tup [T l, T [], T []]) h := by
  unfold mPart T
  simp only
  rw [if_pos ⟨rfl, by rw [len_T]; exact Nat.le_trans hl (by decide +kernel)⟩]
  have e := occ_no hc
  unfold Txt.partition
  rw [show (⟨[c].toArray⟩ : Str) = ⟨#[c]⟩ from rfl, e]
  rfl
theorem strSub_T {i j : Nat} : Builtin.Str.strSub ⟨l.toArray⟩ i j = ⟨((l.take j).drop i).toArray⟩ := by
  unfold Builtin.Str.strSub
  congr 1
  rw [List.extract_toArray]
  congr 1
  rw [List.drop_take]
theorem mPart_at (ha : c ∉ a) (hl : (a ++ c :: b).length ≤ 1000000) : mPart (T (a ++ c :: b)) [T [c]] h = .ok (.tup [T a, T [c], T b]) h := by
  unfold mPart T
  simp only
  rw [if_pos ⟨rfl, by rw [len_T]; exact Nat.le_trans hl (by decide +kernel)⟩]
  obtain ⟨r, e⟩ := occ_at (b := b) ha
  unfold Txt.partition
  rw [show (⟨[c].toArray⟩ : Str) = ⟨#[c]⟩ from rfl, e]
  simp only
  rw [strSub_T, strSub_T, show Str.length ⟨#[c]⟩ = 1 from rfl, len_T]
  have e2 : List.drop (a.length + 1) (a ++ c :: b) = b := by
    rw [List.drop_append, List.drop_of_length_le (by omega)]
    simp
  rw [List.take_of_length_le (Nat.le_refl _), e2]
  simp
theorem mSIndex_at (ha : c ∉ a) : mSIndex (T (a ++ c :: b)) [T [c]] h = .ok (.int a.length) h := by
  unfold mSIndex T
  simp only
  obtain ⟨r, e⟩ := occ_at (b := b) ha
  rw [show (⟨[c].toArray⟩ : Str) = ⟨#[c]⟩ from rfl, e]
def isDg (c : Nat) : Bool := decide (48 ≤ c ∧ c ≤ 57)
def numV (l : List Nat) : Nat := l.foldl (fun a c => 10 * a + (c - 48)) 0
theorem numV_dig : numV (dig n) = n := by
  have e := Nat.ofDigitChars_ten_toDigits (n := n)
  rw [Nat.ofDigitChars_eq_foldl] at e
  unfold numV dig
  rw [List.foldl_map]
  exact e
theorem dig_all : (dig n).all isDg = true := by
  rw [List.all_eq_true]
  intro c hc
  exact decide_eq_true (dig_mem hc)
theorem dig_ne : dig n ≠ [] := by
  unfold dig
  intro e
  exact Nat.toDigits_ne_nil (List.map_eq_nil_iff.mp e)
theorem dig_0 : dig 0 = [48] := by decide
theorem dig_head : ∀ {n : Nat}, 0 < n → (dig n).head? ≠ some 48 := by
  intro n
  induction n using Nat.strongRecOn with
  | ind n ih =>
    intro hn
    unfold dig at *
    rw [Nat.toDigits_eq_if (by decide)]
    by_cases h : n < 10
    · rw [if_pos h]
      have : ∀ m, m < 10 → 0 < m → ((List.map Char.toNat [m.digitChar]).head? ≠ some 48) := by decide
      exact this n h hn
    · rw [if_neg h, List.map_append]
      have := ih (n / 10) (by omega) (by omega)
      rw [List.head?_append]
      cases e : (List.map Char.toNat (Nat.toDigits 10 (n / 10))).head? with
      | none => rw [List.head?_eq_none_iff] at e; exact (Nat.toDigits_ne_nil (List.map_eq_nil_iff.mp e)).elim
      | some x => rw [e] at this; exact this
def numD (l : List Nat) : D := if l ≠ [] ∧ l.all isDg = true ∧ (l.head? = some 48 → l = [48]) then .int (numV l) else .non
theorem numD_dig : numD (dig n) = .int n := by
  unfold numD
  rw [if_pos ⟨dig_ne, dig_all, fun e => by
    rcases Nat.eq_zero_or_pos n with z | z
    · rw [z, dig_0]
    · exact (dig_head z e).elim⟩, numV_dig]
theorem dig_len_of {k : Nat} (hk : 1 ≤ k) (hn : n < 10 ^ k) : (dig n).length ≤ k := by
  unfold dig
  rw [List.length_map]
  exact (Nat.length_toDigits_le_iff (by decide) hk).mpr hn
end
abbrev FG : List Nat := [48, 49, 50, 51, 52, 53, 54, 55, 56, 57]
theorem mem_FG {c : Nat} : decide (c ∈ FG) = isDg c := by
  unfold isDg FG
  rw [decide_eq_decide]
  simp only [List.mem_cons, List.not_mem_nil, or_false]
  omega
theorem fg_split : ∀ c, isDg c = true → FG = FG.take (c - 48) ++ c :: FG.drop (c - 48 + 1) ∧ c ∉ FG.take (c - 48) ∧ (FG.take (c - 48)).length = c - 48 := by
  intro c h
  have := of_decide_eq_true h
  have : c = 48 ∨ c = 49 ∨ c = 50 ∨ c = 51 ∨ c = 52 ∨ c = 53 ∨ c = 54 ∨ c = 55 ∨ c = 56 ∨ c = 57 := by omega
  rcases this with z | z | z | z | z | z | z | z | z | z <;> subst z <;> decide
theorem fg_index {c : Nat} {h : Hd} (hc : isDg c = true) : mSIndex (T FG) [T [c]] h = .ok (.int ((c - 48 : Nat) : Int)) h := by
  obtain ⟨e, h1, h2⟩ := fg_split c hc
  rw [e, mSIndex_at h1, h2]
theorem all_bl {p : Nat → Bool} {n : Nat} {h : Hd} {l : List Nat} (q : h[n]? = some (.lst (l.map fun c => D.bl (p c)))) : bAll [.ref n] h = .ok (.bl (l.all p)) h := bAll_map q
theorem lc_sign {im : IM} {e : EM} {i : Nat} {s : Sl} {h h1 : Hd} {l : List Nat} {chk : Hd → Prop} {f : Nat → D} (hi : im s h = .ok (l.map fun c => T [c], chk) h1) (hl : l.length < 1000000) (hc : ∀ acc : List D, chk (h1 ++ [.lst acc])) (he : ∀ c ∈ l, ∀ acc, e ((s.set i none).set i (some (T [c]))) (h1 ++ [.lst acc]) = .ok (f c) (h1 ++ [.lst acc])) :
    eLc im (gN i) tT e [i] s h = .ok (.ref h1.length) (h1 ++ [.lst (l.map f)]) := by
  have := eLc_map (f := fun d => match d with | .str z => f (z.cps.toList.headD 0) | _ => .non) hi (by rw [List.length_map]; exact Nat.lt_of_lt_of_le hl (by decide +kernel)) hc (fun x hx acc => by
    obtain ⟨c, hc, rfl⟩ := List.mem_map.mp hx
    exact he c hc acc)
  rw [this, List.map_map]
  rfl
theorem Sz.pow10 {v k : Nat} (hv : v < 10 ^ k) : Sz (4 * k) (v : Int) := by
  unfold Sz
  rw [Int.natAbs_natCast, Nat.pow_mul]
  exact Nat.lt_of_lt_of_le hv (Nat.pow_le_pow_left (by decide) k)
def frT (a : Rat) : List Nat := if a.den = 1 then dig a.num.toNat else dig a.num.toNat ++ (47 :: dig a.den)
instance tx_frT {a : Rat} : Tx (frT a) := ⟨fun c hc => by
  unfold frT at hc
  split at hc
  · exact tx_dig.ok c hc
  · exact (inferInstance : Tx (dig a.num.toNat ++ (47 :: dig a.den))).ok c hc⟩
theorem no_stroke {n : Nat} : 47 ∉ dig n := fun h => by have := dig_mem h; omega
theorem dig_lenS {n k : Nat} (q : Sz k (n : Int)) : (dig n).length ≤ k + 1 := by
  unfold Sz at q
  rw [Int.natAbs_natCast] at q
  exact dig_len_of (by omega) (Nat.lt_of_lt_of_le q (Nat.le_trans (Nat.pow_le_pow_left (by decide) k) (Nat.pow_le_pow_right (by decide) (by omega))))
theorem frT_len {a : Rat} {k : Nat} (ha : 0 ≤ a) (z : SzQ k a) : (frT a).length ≤ 2 * k + 3 := by
  have h1 := dig_lenS (n := a.num.toNat) (k := k) (by rw [Int.toNat_of_nonneg (num_nonneg ha)]; exact z.1)
  have h2 := dig_lenS (n := a.den) (k := k) z.2
  unfold frT
  split
  · omega
  · rw [List.length_append, List.length_cons]
    omega
theorem isFr_FQ {q : Rat} (h : 0 ≤ q) : isFr (FQ q) = true := by
  unfold FQ
  rw [isFr_int]
  exact decide_eq_true ⟨num_nonneg h, den_pos q, reduced_gcd q⟩
theorem typed_FQ {h : Hd} {q : Rat} : Typed h (FQ q) := typed_fr
end DL
namespace DL
open PySem PySem.Spec L2
abbrev Pc := Rat × Rat × Rat
section
variable {h : Hd} {p : Pc} {r : List Pc} {k : Nat}
end
def onP (b : Rat) (p : Pc) (t : Rat) : Rat := if p.1 = b then p.2.1 else p.2.1 + (p.2.2 - p.2.1) * ((t - b) / (p.1 - b))
def cm (b : Rat) : List Pc → Rat → Option Rat
  | [], _ => none
  | p :: r, t => if p.1 < t then cm p.1 r t else some (onP b p t)
end DL
namespace DL
open PySem PySem.Spec L2
def D.pl : Nat → D → Bool
  | _, .non => true
  | _, .int _ => true
  | _, .str x => PyData.strOk x
  | n + 1, .tup xs => xs.all (D.pl n)
  | _, _ => false
theorem pl_py : ∀ (n : Nat) (x : D), D.pl n x = true → ∃ p, D.py x = some p ∧ p.canLay0 = true ∧ p.depth ≤ n
  | n, .non, _ => ⟨.none, by rw [D.py], rfl, by rw [PyData.depth]; exact Nat.zero_le _⟩
  | n, .int i, _ => ⟨.int i, by rw [D.py], rfl, by rw [PyData.depth]; exact Nat.zero_le _⟩
  | n, .str x, h => ⟨.str x, by rw [D.py], by rw [PyData.canLay0]; cases n <;> exact h, by rw [PyData.depth]; exact Nat.zero_le _⟩
  | n + 1, .tup xs, h => by
    have key : ∀ l : List D, (l.all (D.pl n)) = true → ∃ ps, D.pyAll l = some ps ∧ PyData.canLayAll0 ps = true ∧ PyData.depthAll ps ≤ n := by
      intro l
      induction l with
      | nil => exact fun _ => ⟨[], by rw [D.pyAll], rfl, by rw [PyData.depthAll]; exact Nat.zero_le _⟩
      | cons y l ih =>
        intro hl
        rw [List.all_cons, Bool.and_eq_true] at hl
        obtain ⟨p, e1, c1, d1⟩ := pl_py n y hl.1
        obtain ⟨ps, e2, c2, d2⟩ := ih hl.2
        exact ⟨p :: ps, by rw [D.pyAll, e1, e2], by rw [PyData.canLayAll0, c1, c2]; rfl, by rw [PyData.depthAll]; omega⟩
    obtain ⟨ps, e, c, d⟩ := key xs (by rw [D.pl] at h; exact h)
    exact ⟨.tuple ps, by rw [D.py, e]; rfl, by rw [PyData.canLay0]; exact c, by rw [PyData.depth]; omega⟩
  | _, .bl _, h => by simp [D.pl] at h
  | _, .ty _, h => by simp [D.pl] at h
  | _, .rol _, h => by simp [D.pl] at h
  | _, .ref _, h => by simp [D.pl] at h
  | _, .con _, h => by simp [D.pl] at h
  | 0, .tup _, h => by simp [D.pl] at h
theorem pl_cases {n : Nat} {x : D} (h : D.pl n x = true) : x = .non ∨ (∃ i, x = .int i) ∨ (∃ s, x = .str s) ∨ ∃ m xs, n = m + 1 ∧ x = .tup xs ∧ xs.all (D.pl m) = true := by
  cases x with
  | non => exact .inl rfl
  | int i => exact .inr (.inl ⟨i, rfl⟩)
  | str s => exact .inr (.inr (.inl ⟨s, rfl⟩))
  | tup xs =>
    cases n with
    | zero => simp [D.pl] at h
    | succ m => exact .inr (.inr (.inr ⟨m, xs, rfl, rfl, by rw [D.pl] at h; exact h⟩))
  | _ => cases n <;> simp [D.pl] at h
theorem pl_eqv : ∀ (n : Nat) (x y : D) (p q : PyData), D.pl n x = true → D.pl n y = true → D.py x = some p → D.py y = some q → (PyData.eqv p q = true ↔ x = y) := by
  intro n
  induction n with
  | zero =>
    intro x y p q hx hy ex ey
    rcases pl_cases hx with rfl | ⟨i, rfl⟩ | ⟨s, rfl⟩ | ⟨m, xs, hn, _⟩
    all_goals (try (exfalso; omega))
    all_goals rcases pl_cases hy with rfl | ⟨j, rfl⟩ | ⟨u, rfl⟩ | ⟨m, xs, hn, _⟩
    all_goals (try (exfalso; omega))
    all_goals (rw [D.py] at ex; rw [D.py] at ey; cases ex; cases ey; rw [PyData.eqv]; simp)
  | succ n ih =>
    have all : ∀ (xs ys : List D) (ps qs : List PyData), xs.all (D.pl n) = true → ys.all (D.pl n) = true → D.pyAll xs = some ps → D.pyAll ys = some qs → (PyData.eqvAll ps qs = true ↔ xs = ys) := by
      intro xs
      induction xs with
      | nil =>
        intro ys ps qs _ _ ex ey
        rw [D.pyAll] at ex
        cases ex
        cases ys with
        | nil => rw [D.pyAll] at ey; cases ey; rw [PyData.eqvAll]; simp
        | cons y ys =>
          rw [D.pyAll] at ey
          split at ey
          · cases ey; rw [PyData.eqvAll]; simp
          · cases ey
      | cons x xs ihx =>
        intro ys ps qs hx hy ex ey
        rw [D.pyAll] at ex
        split at ex
        · rename_i a b e1 e2
          cases ex
          cases ys with
          | nil => rw [D.pyAll] at ey; cases ey; rw [PyData.eqvAll]; simp
          | cons y ys =>
            rw [D.pyAll] at ey
            split at ey
            · rename_i c d f1 f2
              cases ey
              rw [List.all_cons, Bool.and_eq_true] at hx hy
              rw [PyData.eqvAll, Bool.and_eq_true, ih x y a c hx.1 hy.1 e1 f1, ihx ys b d hx.2 hy.2 e2 f2]
              simp
            · cases ey
        · cases ex
    intro x y p q hx hy ex ey
    rcases pl_cases hx with rfl | ⟨i, rfl⟩ | ⟨s, rfl⟩ | ⟨m, xs, hn, rfl, hx'⟩
    all_goals rcases pl_cases hy with rfl | ⟨j, rfl⟩ | ⟨u, rfl⟩ | ⟨m', ys, hn', rfl, hy'⟩
    all_goals (rw [D.py] at ex; rw [D.py] at ey)
    all_goals first
      | (cases ex; cases ey; rw [PyData.eqv]; simp; done)
      | (obtain ⟨ps, e1, e2⟩ := Option.map_eq_some_iff.mp ex; obtain ⟨qs, f1, f2⟩ := Option.map_eq_some_iff.mp ey; cases e2; cases f2; cases hn; cases hn'; rw [PyData.eqv, all xs ys ps qs hx' hy' e1 f1]; simp; done)
      | (obtain ⟨ps, e1, e2⟩ := Option.map_eq_some_iff.mp ex; cases e2; cases ey; rw [PyData.eqv]; simp; done)
      | (obtain ⟨qs, f1, f2⟩ := Option.map_eq_some_iff.mp ey; cases f2; cases ex; rw [PyData.eqv]; simp; done)
open Classical in
theorem eqn_pl {neg : Bool} {n : Nat} {x y : D} {h : Hd} (hn : n ≤ 64) (hx : D.pl n x = true) (hy : D.pl n y = true) : dEqn neg x y h = .ok (.bl (neg ^^ decide (x = y))) h := by
  obtain ⟨p, e1, c1, d1⟩ := pl_py n x hx
  obtain ⟨q, e2, c2, d2⟩ := pl_py n y hy
  have nr : ∀ {z : D} {r : PyData}, D.py z = some r → pyH h z = some r := fun {z r} e => by
    unfold pyH
    split
    · rw [D.py] at e; cases e
    · exact e
  have hs : ∀ {r : PyData}, r.canLay0 = true → r.depth ≤ n → SeqAt.shaped r = true := fun c d => by
    unfold SeqAt.shaped
    rw [c, Bool.true_and]
    exact decide_eq_true (by omega)
  unfold dEqn
  rw [nr e1, nr e2]
  simp only
  rw [if_pos ⟨hs c1 d1, hs c2 d2⟩]
  congr 3
  rw [Bool.eq_iff_iff, pl_eqv n x y p q hx hy e1 e2, decide_eq_true_eq]
theorem gcd_while {t : TM} {bd : SM} {h : Hd} {S : Int → Int → Sl} (ht : ∀ a b : Int, t (S a b) h = .ok (decide (0 < b)) h) (hb : ∀ a b : Int, 0 < b → bd (S a b) h = .nx (S b (a % b)) h) :
    ∀ (n : Nat) (a b : Int), b.toNat ≤ n → 0 ≤ a → 0 ≤ b → sWhile t bd (S a b) h = .nx (S (Int.gcd a b) 0) h := by
  have base : ∀ a : Int, 0 ≤ a → sWhile t bd (S a 0) h = .nx (S (Int.gcd a 0) 0) h := fun a ha => by
    rw [while_end (ht a 0)]
    have : ((Int.gcd a 0 : Nat) : Int) = a := by rw [Int.gcd_zero_right]; omega
    rw [this]
  intro n
  induction n with
  | zero =>
    intro a b hn ha hb'
    obtain rfl : b = 0 := by omega
    exact base a ha
  | succ n ih =>
    intro a b hn ha hb'
    by_cases hz : b = 0
    · subst hz
      exact base a ha
    · have hp : 0 < b := by omega
      rw [while_step (by rw [ht]; simp only [hp, decide_true]) (hb a b hp), ih b (a % b) (by have := Int.emod_lt_of_pos a hp; have := Int.emod_nonneg a hz; omega) hb' (Int.emod_nonneg a hz), gcd_step ha hb']
theorem gcd_pos1 {a b : Int} (hb : 1 ≤ b) : (0 : Int) < (Int.gcd a b : Int) := by
  have : 0 < Int.gcd a b := Int.gcd_pos_of_ne_zero_right a (by omega)
  omega
theorem gcd_le1 {a b : Int} (hb : 1 ≤ b) : ((Int.gcd a b : Nat) : Int) ≤ b := Int.le_of_dvd (by omega) (Int.gcd_dvd_right a b)
end DL
namespace DL
open PySem PySem.Spec L2
end DL
namespace DL
open PySem PySem.Spec L2
class Lw (h : Hd) (d : D) : Prop where
  lo : d.lo h.length = true
class LwL (h : Hd) (xs : List D) : Prop where
  lo : ∀ x ∈ xs, x.lo h.length = true
class SlLo (h : Hd) (s : Sl) : Prop where
  lo : ∀ d, some d ∈ s → d.lo h.length = true
section
variable {h g A A1 l l1 tk : Hd} {d : D} {xs ys : List D} {n k m : Nat} {s : Sl} {i : Int} {b : Bool} {a : Rat} {p : Pc} {r : List Pc} {w : List Nat}
instance lw_int : Lw h (.int i) := ⟨lo_int⟩
instance lw_bl : Lw h (.bl b) := ⟨lo_bl⟩
instance lw_non : Lw h .non := ⟨lo_non⟩
instance lw_str {x : Str} : Lw h (.str x) := ⟨lo_str⟩
instance lw_T : Lw h (T w) := ⟨lo_T⟩
instance lw_FQ : Lw h (FQ a) := ⟨lo_FQ⟩
instance lw_tup [q : LwL h xs] : Lw h (.tup xs) := ⟨by rw [lo_tup]; exact loAll_of q.lo⟩
instance lw_rol [q : LwL h xs] : Lw h (.rol xs) := ⟨by rw [lo_rol]; exact loAll_of q.lo⟩
instance lwl_nil : LwL h [] := ⟨by simp⟩
instance lwl_cons [q : Lw h d] [t : LwL h xs] : LwL h (d :: xs) := ⟨fun x hx => by rcases List.mem_cons.mp hx with rfl | hx; exact q.lo; exact t.lo x hx⟩
instance lwl_app [q : LwL h xs] [t : LwL h ys] : LwL h (xs ++ ys) := ⟨fun x hx => (List.mem_append.mp hx).elim (q.lo x) (t.lo x)⟩
instance lwl_map {α : Type} {f : α → D} {zs : List α} [q : ∀ z, Lw h (f z)] : LwL h (zs.map f) := ⟨fun x hx => by obtain ⟨z, _, rfl⟩ := List.mem_map.mp hx; exact (q z).lo⟩
instance lwl_cut {lo hi : Option Int} [q : LwL h xs] : LwL h (cutD xs lo hi) := ⟨fun x hx => q.lo x (cut_mem hx)⟩
instance lwl_take [q : LwL h xs] : LwL h (xs.take n) := ⟨fun x hx => q.lo x (List.mem_of_mem_take hx)⟩
instance lwl_drop [q : LwL h xs] : LwL h (xs.drop n) := ⟨fun x hx => q.lo x (List.mem_of_mem_drop hx)⟩
instance sl_nil : SlLo h [] := ⟨by simp⟩
instance sl_none [t : SlLo h s] : SlLo h (none :: s) := ⟨fun x hx => by rcases List.mem_cons.mp hx with z | hx; cases z; exact t.lo x hx⟩
instance sl_some [q : Lw h d] [t : SlLo h s] : SlLo h (some d :: s) := ⟨fun x hx => by rcases List.mem_cons.mp hx with z | hx; (cases z; exact q.lo); exact t.lo x hx⟩
class Hsp (h : Hd) (A : outParam Hd) (l : outParam Hd) : Prop where
  e : h = A ++ l
instance (priority := high) hsp_app : Hsp (A ++ l) A l := ⟨rfl⟩
instance (priority := low) hsp_one : Hsp A A [] := ⟨(List.append_nil A).symm⟩
instance (priority := high) hsp_nil : Hsp [] [] [] := ⟨rfl⟩
class OkA (A A1 : Hd) : Prop where
  len : A1.length = A.length
  ok : ∀ (i : Nat) (o : MO), A1[i]? = some o → (∀ n, o.lo n = true) ∨ A[i]? = some o
instance (priority := high) oka_rfl : OkA A A := ⟨rfl, fun _ _ h => .inr h⟩
class PreL (B l l1 : Hd) (tk : outParam Hd) : Prop where
  tk : l1.take l.length = tk
  len : l.length ≤ l1.length
  ok : ∀ (i : Nat) (o : MO), i < l.length → l1[i]? = some o → o.lo B.length = true ∨ l[i]? = some o
instance pre_nil {B : Hd} : PreL B [] l1 [] := ⟨rfl, Nat.zero_le _, fun i o hi _ => by simp at hi⟩
instance (priority := high) pre_same {B : Hd} {o : MO} [q : PreL B l l1 tk] : PreL B (o :: l) (o :: l1) (o :: tk) := ⟨by simp [q.tk], by simpa using q.len, fun i u hi e => by
  cases i with
  | zero => exact .inr e
  | succ i => exact (q.ok i u (by simpa using hi) (by simpa using e)).imp_right (by simp)⟩
instance (priority := low) pre_lst {B : Hd} {o : MO} [q : PreL B l l1 tk] [z : LwL B xs] : PreL B (o :: l) (.lst xs :: l1) (.lst xs :: tk) := ⟨by simp [q.tk], by simpa using q.len, fun i u hi e => by
  cases i with
  | zero => simp at e; subst e; exact .inl (by rw [lo_lst]; exact loAll_of z.lo)
  | succ i => exact (q.ok i u (by simpa using hi) (by simpa using e)).imp_right (by simp)⟩
theorem okb_of [p1 : Hsp h A l] {h1 : Hd} [p2 : Hsp h1 A1 l1] [q : OkA A A1] [t : PreL h l l1 tk] : OkBelow h h1 ∧ h1.take h.length = A1 ++ tk := by
  obtain rfl := p2.e
  refine ⟨fun i o hi e => ?_, ?_⟩
  · have hi' := hi
    rw [p1.e, List.length_append] at hi'
    by_cases c : i < A1.length
    · rw [List.getElem?_append_left c] at e
      rcases q.ok i o e with z | z
      · exact .inl (z _)
      · exact .inr (by rw [p1.e, List.getElem?_append_left (by rw [← q.len]; exact c)]; exact z)
    · rw [List.getElem?_append_right (by omega)] at e
      have ql := q.len
      refine (t.ok (i - A1.length) o (by omega) e).imp_right fun z => ?_
      rw [p1.e, List.getElem?_append_right (by omega), ← ql]
      exact z
  · rw [show h.length = A1.length + l.length by rw [p1.e, List.length_append, q.len], ← t.tk]
    have := t.len
    rw [List.take_append, List.take_of_length_le (by omega)]
    congr 2
    omega
theorem gc_I [p1 : Hsp h A l] {h1 : Hd} [p2 : Hsp h1 A1 l1] [q : OkA A A1] [t : PreL h l l1 tk] [w : Lw h d] : gc h d h1 = .ok d (A1 ++ tk) := by
  obtain ⟨e1, e2⟩ := okb_of (h := h) (h1 := h1) (tk := tk)
  unfold gc
  rw [if_pos e1, if_pos w.lo, e2]
class Rsp (A : Hd) (m : Nat) (k : outParam Nat) : Prop where
  e : m = A.length + k
instance rsp_0 : Rsp A A.length 0 := ⟨rfl⟩
instance rsp_k : Rsp A (A.length + k) k := ⟨rfl⟩
theorem gcn_I [p1 : Hsp h A l] {h1 : Hd} [p2 : Hsp h1 A1 l1] [q : OkA A A1] [t : PreL h l l1 tk] [e : Rsp A1 m k] [u : Lt l1 k xs] [w : LwL h xs] (hk : l.length ≤ k) : gc h (.ref m) h1 = .ok (.ref h.length) (A1 ++ (tk ++ [.lst xs])) := by
  obtain ⟨e1, e2⟩ := okb_of (h := h) (h1 := h1) (tk := tk)
  have hl : h.length = A1.length + l.length := by rw [p1.e, List.length_append, q.len]
  unfold gc
  rw [if_pos e1, if_neg (by rw [lo_ref, e.e, hl]; simpa using hk)]
  simp only
  rw [e.e, p2.e, get_at, u.q]
  simp only
  rw [if_pos (by rw [lo_lst]; exact loAll_of w.lo), ← p2.e, e2, List.append_assoc]
theorem gcS_I [p1 : Hsp h A l] {h1 : Hd} [p2 : Hsp h1 A1 l1] [q : OkA A A1] [t : PreL h l l1 tk] [w : SlLo h s] : (SR.nx s h1).gcS h = .nx s (A1 ++ tk) := by
  obtain ⟨e1, e2⟩ := okb_of (h := h) (h1 := h1) (tk := tk)
  unfold SR.gcS
  simp only
  rw [if_pos ⟨e1, w.lo⟩, e2]
noncomputable def Res.bTG (r : Res Bool) (h : Hd) : Res Bool := r.bind fun c h1 => (gc h (.bl c) h1).bind asB
theorem ev_G_I {e : EM} : eG e s h = (e s h).bind (gc h) := rfl
theorem ev_tG_I {t : TM} : tG t s h = (t s h).bTG h := rfl
theorem bTG_I {b : Bool} {h1 : Hd} : (Res.ok b h1).bTG h = (gc h (.bl b) h1).bind asB := rfl
theorem ev_sG_I {ms : SM} : sG ms s h = (ms s h).gcS h := rfl
theorem ev_sW_I {ms : SM} {vs : List Nat} : sW vs ms s h = (ms s h).wp vs := rfl
theorem wp_nx_I {vs : List Nat} : (SR.nx s h).wp vs = .nx (wipeD s vs) h := rfl
theorem wipe_nil_I : wipeD s [] = s := rfl
theorem wipe_cons_I {v : Nat} {vs : List Nat} : wipeD s (v :: vs) = (wipeD s vs).set v none := rfl
end
abbrev PS := Int × Int
def HP (h : Hd) (p : Nat) (c : PS) : Hd := h.set p (.lst [.int c.1, .int c.2])
class PotI (c : PS) : Prop where
  v : 0 ≤ c.1 ∧ 0 ≤ c.2 ∧ c.2 < 2147483629
class PL (p : Nat) (h : Hd) : Prop where
  lt : p < h.length
section
variable {h g : Hd} {c c' c2 : PS} {p n k m : Nat} {xs : List D} {o : MO} {d : D}
theorem HP_len_I : (HP h p c).length = h.length := by unfold HP; simp
theorem HP_get [q : PL p h] : (HP h p c)[p]? = some (.lst [.int c.1, .int c.2]) := by unfold HP; rw [List.getElem?_set_self q.lt]
theorem HP_HP_I : HP (HP h p c) p c2 = HP h p c2 := by unfold HP; rw [List.set_set]
instance pl_app [q : PL p h] : PL p (h ++ g) := ⟨by have := q.lt; rw [List.length_append]; omega⟩
instance pl_HP [q : PL p h] {r : Nat} : PL p (HP h r c) := ⟨by rw [HP_len_I]; exact q.lt⟩
theorem HP_app [q : PL p h] : HP (h ++ g) p c = HP h p c ++ g := by unfold HP; rw [List.set_append_left _ _ q.lt]
theorem HP_lo {c : PS} : ∀ n, MO.lo n (.lst [.int c.1, .int c.2]) = true := fun n => by simp only [lo_lst, lo_cons, lo_int, lo_nil]; rfl
instance oka_HP : OkA (HP h p c) (HP h p c') := ⟨by rw [HP_len_I, HP_len_I], fun i o e => by
  unfold HP at *
  by_cases q : p = i
  · subst q
    rw [List.getElem?_set] at e
    split at e
    · split at e
      · cases e; exact .inl HP_lo
      · cases e
    · rename_i w; exact (w rfl).elim
  · rw [List.getElem?_set_ne q] at e ⊢
    exact .inr e⟩
instance rsp_HPk : Rsp (HP h p c) (h.length + k) k := ⟨by rw [HP_len_I]⟩
instance lw_pot [q : PL p h] : Lw h (.ref p) := ⟨by rw [lo_ref]; exact decide_eq_true q.lt⟩
class Ne2 (p n : Nat) : Prop where
  ne : p ≠ n
instance ls_HP [q : Ls h n xs] [z : Ne2 p n] : Ls (HP h p c) n xs := ⟨by unfold HP; rw [List.getElem?_set_ne z.ne]; exact q.q⟩
instance ls_HPk [q : Lt g k xs] : Ls (HP h p c ++ g) (h.length + k) xs := ⟨by
  have := get_at (h := HP h p c) (g := g) (k := k)
  rw [HP_len_I] at this
  rw [this]; exact q.q⟩
instance ls_HP0 : Ls (HP h p c ++ .lst xs :: g) h.length xs := ⟨by
  have := get_at0 (h := HP h p c) (g := .lst xs :: g)
  rw [HP_len_I] at this
  rw [this]; rfl⟩
theorem set_HPk_I : (HP h p c ++ g).set (h.length + k) o = HP h p c ++ g.set k o := by
  have := set_at_I (h := HP h p c) (g := g) (k := k) (o := o)
  rw [HP_len_I] at this
  exact this
theorem set_HP0_I : (HP h p c ++ g).set h.length o = HP h p c ++ g.set 0 o := by
  have := set_at0_I (h := HP h p c) (g := g) (o := o)
  rw [HP_len_I] at this
  exact this
class Hpt (H : Hd) (h : outParam Hd) (p : Nat) (c : outParam PS) (g : outParam Hd) : Prop where
  e : H = HP h p c ++ g
instance (priority := high) hpt_app : Hpt (HP h p c ++ g) h p c g := ⟨rfl⟩
instance hpt_one : Hpt (HP h p c) h p c [] := ⟨(List.append_nil _).symm⟩
theorem frame {F : List D → M D} {args : List D} (e : ∀ h : Hd, PL p h → F args (HP h p c) = .ok d (HP h p c')) {H : Hd} [q : Hpt H h p c g] [z : PL p h] : F args H = .ok d (HP h p c' ++ g) := by
  rw [q.e, ← HP_app, e (h ++ g) inferInstance, HP_app]
end
section
variable {c : PS} {m : Int}
end
instance f1_2 : Fa ((1 : Int) ≤ 2) := ⟨by decide⟩
instance f1_3 : Fa ((1 : Int) ≤ 3) := ⟨by decide⟩
instance f1_4 : Fa ((1 : Int) ≤ 4) := ⟨by decide⟩
instance f1_5 : Fa ((1 : Int) ≤ 5) := ⟨by decide⟩
instance f1_6 : Fa ((1 : Int) ≤ 6) := ⟨by decide⟩
instance f1_8 : Fa ((1 : Int) ≤ 8) := ⟨by decide⟩
instance f1_9 : Fa ((1 : Int) ≤ 9) := ⟨by decide⟩
instance f1_12 : Fa ((1 : Int) ≤ 12) := ⟨by decide⟩
instance zl_1 : ZI 1 1 := ⟨by unfold Sz; decide⟩
instance zl_2 : ZI 2 2 := ⟨by unfold Sz; decide⟩
instance zl_3 : ZI 2 3 := ⟨by unfold Sz; decide⟩
instance zl_4 : ZI 3 4 := ⟨by unfold Sz; decide⟩
instance zl_5 : ZI 3 5 := ⟨by unfold Sz; decide⟩
instance zl_6 : ZI 3 6 := ⟨by unfold Sz; decide⟩
instance zl_8 : ZI 4 8 := ⟨by unfold Sz; decide⟩
instance zl_9 : ZI 4 9 := ⟨by unfold Sz; decide⟩
instance zl_12 : ZI 4 12 := ⟨by unfold Sz; decide⟩
instance zl_100000000000 : ZI 37 100000000000 := ⟨by unfold Sz; decide⟩
instance fa_num {q : Rat} [f : Fa (0 ≤ q)] : Fa (0 ≤ q.num) := ⟨num_nonneg f.out⟩
instance fa_natI {n : Nat} : Fa (0 ≤ (n : Int)) := ⟨by omega⟩
instance zi_ite {b : Bool} : ZI 1 (if b = true then (1 : Int) else 0) := ⟨by cases b <;> (unfold Sz; decide)⟩
def turn (g : GM) (body : SM) (x : D) : SM := fun s h => (g x s h).toS.seq body
theorem ev_turn_I {g : GM} {body : SM} {x : D} {s : Sl} {h : Hd} : turn g body x s h = (g x s h).toS.seq body := rfl
section
variable {α : Type} {emb : α → D} {chk : Hd → Prop} {g : GM} {body : SM} {xs : List α} {s : Sl} {h : Hd} {r : SR}
theorem turn_cons {x : D} {ys : List D} (hc : chk h) : forD chk g body (x :: ys) s h = (turn g body x s h).seq (forD chk g body ys) := by
  unfold turn
  conv => lhs; unfold forD
  rw [if_pos hc]
  cases g x s h with
  | ok s1 h1 =>
    show (match body s1 h1 with | .nx s2 h2 => forD chk g body ys s2 h2 | r => r) = ((SR.nx s1 h1).seq body).seq _
    unfold SR.seq
    simp only
    cases body s1 h1 <;> rfl
  | exc _ _ => rfl
  | bad => rfl
theorem forD_go (hR : forD chk g body (xs.map emb) s h = r) (I : List α → Sl → Hd → Prop) (i0 : I [] s h) (hc : ∀ pre s h, I pre s h → chk h)
    (ht : ∀ pre x post s h, xs = pre ++ x :: post → I pre s h → ∃ s2 h2, turn g body (emb x) s h = .nx s2 h2 ∧ I (pre ++ [x]) s2 h2) : ∃ s2 h2, r = .nx s2 h2 ∧ I xs s2 h2 := by
  have key : ∀ (ys pre : List α) (s : Sl) (h : Hd), xs = pre ++ ys → I pre s h → ∃ s2 h2, forD chk g body (ys.map emb) s h = .nx s2 h2 ∧ I xs s2 h2 := by
    intro ys
    induction ys with
    | nil =>
      intro pre s h e i
      rw [List.append_nil] at e
      subst e
      refine ⟨s, h, ?_, i⟩
      rw [List.map_nil]
      unfold forD
      rw [if_pos (hc _ _ _ i)]
    | cons y ys ih =>
      intro pre s h e i
      obtain ⟨s2, h2, e2, i2⟩ := ht pre y ys s h e i
      rw [List.map_cons, turn_cons (hc _ _ _ i), e2]
      exact ih (pre ++ [y]) s2 h2 (by rw [e, List.append_assoc]; rfl) i2
  obtain ⟨s2, h2, e, i⟩ := key xs [] s h rfl i0
  exact ⟨s2, h2, by rw [← hR, e], i⟩
noncomputable def Res.kLc (r : Res ItD) (g : GM) (t : TM) (e : EM) (vs : List Nat) (s : Sl) : Res D := r.bind fun p h1 => (lcD p.2 g t e vs h1.length s p.1 (h1 ++ [.lst []])).bind fun _ h2 => .ok (.ref h1.length) h2
theorem ev_Lc_I {im : IM} {t : TM} {e : EM} {vs : List Nat} : eLc im g t e vs s h = (im s h).kLc g t e vs s := rfl
theorem kLc_map {t : TM} {e : EM} {vs : List Nat} (p : α → Bool) (f : α → D) (hl : xs.length < 1000000) (hc : ∀ acc : List D, chk (h ++ [.lst acc]))
    (he : ∀ x ∈ xs, ∀ acc : List D, ∃ s1, g (emb x) (wipeD s vs) (h ++ [.lst acc]) = .ok s1 (h ++ [.lst acc]) ∧ t s1 (h ++ [.lst acc]) = .ok (p x) (h ++ [.lst acc]) ∧ (p x = true → e s1 (h ++ [.lst acc]) = .ok (f x) (h ++ [.lst acc]))) :
    (Res.ok (xs.map emb, chk) h).kLc g t e vs s = .ok (.ref h.length) (h ++ [.lst ((xs.filter p).map f)]) := by
  have key : ∀ (xs : List α) (acc : List D), acc.length + xs.length < 1000000 → (∀ x ∈ xs, ∀ acc : List D, ∃ s1, g (emb x) (wipeD s vs) (h ++ [.lst acc]) = .ok s1 (h ++ [.lst acc]) ∧ t s1 (h ++ [.lst acc]) = .ok (p x) (h ++ [.lst acc]) ∧ (p x = true → e s1 (h ++ [.lst acc]) = .ok (f x) (h ++ [.lst acc]))) →
      lcD chk g t e vs h.length s (xs.map emb) (h ++ [.lst acc]) = .ok () (h ++ [.lst (acc ++ (xs.filter p).map f)]) := by
    intro xs
    induction xs with
    | nil =>
      intro acc _ _
      rw [List.map_nil]
      unfold lcD
      rw [if_pos (hc acc)]
      simp
    | cons x xs ih =>
      intro acc hl he
      obtain ⟨s1, e1, e2, e3⟩ := he x (by simp) acc
      rw [List.map_cons]
      unfold lcD
      rw [if_pos (hc acc), e1]
      simp only
      rw [e2, Res.bind_ok]
      by_cases hp : p x = true
      · rw [if_pos hp, e3 hp, Res.bind_ok, appD_ok (Nat.lt_of_lt_of_le (show acc.length < 1000000 by simp only [List.length_cons] at hl; omega) (by decide +kernel)), Res.bind_ok]
        rw [ih (acc ++ [f x]) (by simp only [List.length_append, List.length_cons, List.length_nil] at hl ⊢; omega) fun y hy => he y (by simp [hy])]
        rw [List.filter_cons_of_pos hp, List.map_cons, List.append_assoc]
        rfl
      · rw [if_neg hp]
        rw [ih acc (by simp only [List.length_cons] at hl; omega) fun y hy => he y (by simp [hy])]
        rw [List.filter_cons_of_neg hp]
  show (lcD chk g t e vs h.length s (xs.map emb) (h ++ [.lst []])).bind _ = _
  rw [key xs [] (by simpa using hl) he, Res.bind_ok, List.nil_append]
theorem kLc_all {t : TM} {e : EM} {vs : List Nat} (f : α → D) (hl : xs.length < 1000000) (hc : ∀ acc : List D, chk (h ++ [.lst acc]))
    (he : ∀ x ∈ xs, ∀ acc : List D, ∃ s1, g (emb x) (wipeD s vs) (h ++ [.lst acc]) = .ok s1 (h ++ [.lst acc]) ∧ t s1 (h ++ [.lst acc]) = .ok true (h ++ [.lst acc]) ∧ e s1 (h ++ [.lst acc]) = .ok (f x) (h ++ [.lst acc])) :
    (Res.ok (xs.map emb, chk) h).kLc g t e vs s = .ok (.ref h.length) (h ++ [.lst (xs.map f)]) := by
  rw [kLc_map (p := fun _ => true) (f := f) hl hc fun x hx acc => by
    obtain ⟨s1, a, b, c⟩ := he x hx acc
    exact ⟨s1, a, b, fun _ => c⟩]
  rw [List.filter_eq_self.mpr fun _ _ => rfl]
end
end DL
namespace DL
open PySem PySem.Spec L2
abbrev Un := Int × Int × Int
section
variable {h : Hd} {u : Un} {us : List Un}
theorem cut_dropLast_I {α : Type} {f : α → D} {xs : List α} : cutD (xs.map f) none (some (-1)) = xs.dropLast.map f := by
  rw [cutD_map, HT.sIx_none, show HT.sIx xs.length xs.length (some (-1)) = (-1 + (xs.length : Int)).toNat from rfl]
  rw [List.drop_zero, List.dropLast_eq_take]
  congr 2
  omega
section
variable {i j a b : Int} {k l : Nat}
instance fp_3 : Fa ((0 : Int) < 3) := ⟨by decide⟩
theorem dPow_I (q : PowOk i j) : dPow (.int i) (.int j) h = .ok (.int (i ^ j.toNat)) h := dPow_ok q
theorem dDiv_I [f : Fa (0 < j)] [z : ZI k j] (hk : k < 9000) : dDiv (.int i) (.int j) h = .ok (.int (i / j)) h := dDiv_ok (DivOk.of f.out z.z hk)
theorem Big.of (z : Sz k i) (hk : k ≤ 61) : Big i := by
  have := z.mono hk
  unfold Sz at this
  unfold Big
  omega
theorem iRange1_I [z : ZI k a] (hk : k ≤ 61) : iRange1 [.int a] h = .ok ((List.range a.toNat).map fun (i : Nat) => D.int (0 + (i : Int)), fun _ => True) h := if_pos (Big.of z.z hk)
end
end
section
variable {α : Type} {f : α → D} {r s : List α} {p : α} {h : Hd} {n m : Nat} {xs ys : List D} {i : Int} {d : D} {a b c : Rat} {w : List Pc}
theorem map_snoc_I : r.map f ++ [f p] = (r ++ [p]).map f := by rw [List.map_append]; rfl
theorem map_app_I : r.map f ++ s.map f = (r ++ s).map f := by rw [List.map_append]
theorem mExt_I [q : Ls h n xs] [t : Ls h m ys] (hl : xs.length + ys.length ≤ 1000000) : mExt (.ref n) [.ref m] h = .ok .non (h.set n (.lst (xs ++ ys))) := by
  unfold mExt
  simp only [q.q, t.q]
  rw [if_pos (Nat.le_trans hl (by decide +kernel))]
theorem mIns_I [q : Ls h n xs] (hl : xs.length < 1000000) (h0 : 0 ≤ i) (h1 : i < 1000000) : mIns (.ref n) [.int i, d] h = .ok .non (h.set n (.lst (xs.take i.toNat ++ [d] ++ xs.drop i.toNat))) := by
  unfold mIns
  simp only [q.q]
  rw [if_pos ⟨Nat.lt_of_lt_of_le hl (by decide +kernel), h0, by omega⟩]
end
end DL
namespace DL
open PySem PySem.Spec L2
end DL
namespace DL
open PySem PySem.Spec L2
section
variable {h : Hd} {r : List Pc} {j : Nat}
theorem zero_add_I {n : Nat} : 0 + (n : Int) = (n : Int) := by omega
end
end DL
namespace DL
open PySem PySem.Spec L2
theorem divInt_lt {a b d : Int} (h : 1 ≤ d) : Rat.divInt a d < Rat.divInt b d ↔ a < b := by
  rw [Rat.divInt_eq_div, Rat.divInt_eq_div]
  have hd : (0 : Rat) < (d : Rat) := by exact_mod_cast (show (0 : Int) < d by omega)
  constructor
  · intro q
    have := Rat.mul_lt_mul_of_pos_right q hd
    rw [Rat.div_mul_cancel (by grind), Rat.div_mul_cancel (by grind)] at this
    exact_mod_cast this
  · intro q
    rw [Rat.div_lt_iff hd, Rat.div_mul_cancel (by grind)]
    exact_mod_cast q
theorem divInt_le {a b d : Int} (h : 1 ≤ d) : Rat.divInt a d ≤ Rat.divInt b d ↔ a ≤ b := by
  rw [← Rat.not_lt, divInt_lt h]
  omega
section
variable {h : Hd} {p : Pc} {x y : Option Rat}
end
def loopN (N : Int) (n : Nat) : Nat := (if (if N < (n : Int) then N else (n : Int)) > 1 then (if N < (n : Int) then N else (n : Int)) else 1).toNat
theorem loopN_le {N : Int} {n : Nat} (h : 1 ≤ N) : (loopN N n : Int) ≤ N := by
  unfold loopN
  split <;> split <;> omega
theorem law_rng_I {N : Int} {n : Nat} {h : Hd} (h1 : 1 ≤ N) (h2 : N ≤ 1000) : iRange1 [.int (if (if N < (n : Int) then N else (n : Int)) > 1 then (if N < (n : Int) then N else (n : Int)) else 1)] h = .ok ((List.range (loopN N n)).map fun (i : Nat) => D.int (i : Int), fun _ => True) h := by
  have e : iRange1 [.int (if (if N < (n : Int) then N else (n : Int)) > 1 then (if N < (n : Int) then N else (n : Int)) else 1)] h = .ok ((List.range (loopN N n)).map fun (i : Nat) => D.int (0 + (i : Int)), fun _ => True) h := if_pos (by unfold Big; split <;> split <;> omega)
  rw [e]
  simp only [Int.zero_add]
theorem loop_i {N : Int} {n i : Nat} {pre post : List Nat} (h : 1 ≤ N) (e : List.range (loopN N n) = pre ++ i :: post) : (i : Int) < N := by
  have : i ∈ List.range (loopN N n) := by rw [e]; simp
  have := List.mem_range.mp this
  have := loopN_le (n := n) h
  omega
theorem bAll_map_I {α : Type} {xs : List α} {f : α → Bool} {h : Hd} {n : Nat} [q : Ls h n (xs.map fun x => D.bl (f x))] : bAll [.ref n] h = .ok (.bl (xs.all f)) h := bAll_map q.q
theorem bAny_map_I {α : Type} {xs : List α} {f : α → Bool} {h : Hd} {n : Nat} [q : Ls h n (xs.map fun x => D.bl (f x))] : bAny [.ref n] h = .ok (.bl (xs.any f)) h := bAny_map q.q
theorem all_true_I {α : Type} {xs : List α} : xs.all (fun _ => true) = true := by simp
theorem any_false_I {α : Type} {xs : List α} : xs.any (fun _ => false) = false := by simp
end DL
namespace DL
open PySem PySem.Spec L2
section
variable {h : Hd} {n : Nat} {xs : List D} {r : List Pc} {b : Rat} {q : Rat × Pc} {α : Type} {f : α → D} {l : List α}
end
section
variable {h : Hd} {x y : Option Rat} {neg : Bool}
end
section
variable {h : Hd} {n : Nat} {d : D}
end
end DL
namespace DL
open PySem PySem.Spec L2
end DL
namespace DL
open PySem PySem.Spec L2
def insU : List Rat → Rat → List Rat
  | [], x => [x]
  | y :: l, x => if x < y then x :: y :: l else if x = y then y :: l else y :: insU l x
def inTurn (M : List Rat) : List Rat := M.foldl insU []
section
variable {k l : Nat} {r s : List Pc} {fur : Rat}
end
section
variable {k l : Nat} {r s : List Pc} {fur : Rat}
end
end DL
namespace DL
open PySem PySem.Spec L2
def LinP (K : Nat) (b : Rat) (p : Pc) : Prop := ∃ α β γ : Int, 0 < γ ∧ Sz K α ∧ Sz K β ∧ Sz K γ ∧ ∀ t, onP b p t = ((α : Rat) * t + (β : Rat)) / (γ : Rat)
theorem cast_pos {n : Int} (h : 0 < n) : (0 : Rat) < (n : Rat) := by exact_mod_cast h
theorem den_ne (q : Rat) : (q.den : Rat) ≠ 0 := by exact_mod_cast q.den_nz
theorem num_den (q : Rat) : q * (q.den : Rat) = (q.num : Rat) := by
  have h := Rat.num_divInt_den q
  rw [Rat.divInt_eq_div] at h
  have h : (q.num : Rat) / (q.den : Rat) = q := h
  have := den_ne q
  have e := Rat.div_mul_cancel (a := (q.num : Rat)) this
  rwa [h] at e
end DL
namespace DL
open PySem PySem.Spec L2
section
variable {h : Hd} {n m : Nat} {l : List Rat} {b : Rat} {q : Rat × Rat}
def QdD (q : Rat × Pc) : D := .tup [FQ q.1, FQ q.2.1, FQ q.2.2.1, FQ q.2.2.2]
theorem dIx_Qd1_I {q : Rat × Pc} : dIx (QdD q) (.int 1) h = .ok (FQ q.2.1) h := dIx_t.trans (by rw [at_1]; rfl)
end
section
variable {h : Hd} {n m : Nat} {r s : List Pc} {p q : Pc} {e : Rat} {x : Rat × Rat} {α : Type} {f : α → D} {l : List α} {a b c : α}
end
end DL
namespace DL
open PySem PySem.Spec L2
section
variable {c : PS} {m : Int}
end
end DL
namespace DL
open PySem PySem.Spec L2
theorem divInt_iff {a b d : Int} (h : 1 ≤ d) : Rat.divInt a d = Rat.divInt b d ↔ a = b := by
  constructor
  · intro e
    have h1 := (divInt_le (a := a) (b := b) h).mp (by rw [e]; exact Rat.le_refl)
    have h2 := (divInt_le (a := b) (b := a) h).mp (by rw [e]; exact Rat.le_refl)
    omega
  · intro e
    rw [e]
theorem cross {p q r s : Rat} (hq : q ≠ 0) (hs : s ≠ 0) : p / q = r / s ↔ p * s = r * q := by
  constructor
  · intro e
    have h1 := Rat.div_mul_cancel (a := p) hq
    have h2 := Rat.div_mul_cancel (a := r) hs
    grind
  · intro e
    have h1 := Rat.div_mul_cancel (a := p) hq
    have h2 := Rat.div_mul_cancel (a := r) hs
    grind
end DL
namespace DL
open PySem PySem.Spec L2
end DL
namespace DL
open PySem PySem.Spec L2
end DL
namespace DL
open PySem PySem.Spec L2
abbrev Qu := Rat × Bool × Rat × Rat
end DL
namespace DL
open PySem PySem.Spec L2
def minO : Option Rat → Option Rat → Option Rat
  | none, y => y
  | some x, none => some x
  | some x, some y => some (if y < x then y else x)
end DL
namespace DL
open PySem PySem.Spec L2
abbrev Pr := Int × Int
variable {h : Hd} {q t : Pr} {n m : Nat} {xs : List D}
theorem cut_1_I {α : Type} {f : α → D} {l : List α} : cutD (l.map f) (some 1) none = (l.map f).drop 1 := by
  unfold cutD
  cases l with
  | nil => rfl
  | cons x l =>
    have e : HT.sIx (List.map f (x :: l)).length 0 (some 1) = 1 := by
      show HT.sIx (List.map f (x :: l)).length 0 (some 1) = 1
      rw [List.length_map, List.length_cons]
      simp [HT.sIx]
    have e2 : HT.sIx (List.map f (x :: l)).length (List.map f (x :: l)).length none = (List.map f (x :: l)).length := rfl
    rw [e, e2, List.take_of_length_le (by simp)]
end DL
namespace DL
open PySem PySem.Spec L2
theorem toStr_len {i : Int} {k : Nat} (h : Sz k i) : (toString i : Str).length ≤ k + 6 := by
  rcases Int.le_total 0 i with c | c
  · obtain ⟨n, rfl⟩ := Int.eq_ofNat_of_zero_le c
    rw [show (toString ((n : Nat) : Int) : Str) = ⟨(dig n).toArray⟩ from str_nat n, len_T]
    have := dig_lenS h
    omega
  · obtain ⟨n, e⟩ := Int.eq_ofNat_of_zero_le (show 0 ≤ -i by omega)
    have hz : Sz k (n : Int) := by unfold Sz at *; omega
    have hd := dig_lenS hz
    have e2 : i = -(n : Int) := by omega
    subst e2
    cases n with
    | zero =>
      rw [show (-((0 : Nat) : Int)) = ((0 : Nat) : Int) by omega, show (toString (((0 : Nat) : Nat) : Int) : Str) = ⟨(dig 0).toArray⟩ from str_nat 0, len_T]
      omega
    | succ m =>
      have e3 : (toString (-((m + 1 : Nat) : Int)) : String) = "-" ++ Nat.repr (m + 1) := rfl
      have e4 : (Nat.repr (m + 1) : String).toList.length = (dig (m + 1)).length := by
        rw [Nat.repr, String.toList_ofList]
        unfold dig
        rw [List.length_map]
      show (Str.ofString (toString (-((m + 1 : Nat) : Int)))).length ≤ _
      rw [e3]
      have e5 : ∀ s : String, (Str.ofString s).length = s.toList.length := fun s => by
        rw [Str.ofString_eq_toList]
        unfold Str.length
        simp
      rw [e5, String.toList_append, List.length_append, e4]
      have : ("-" : String).toList.length = 1 := rfl
      omega
def SgOk (s : Str) : Prop := ∀ c ∈ s.cps.toList, c < 1114112
theorem sg_app {a b : Str} (h : SgOk a) (g : SgOk b) : SgOk (a ++ b) := fun c hc => by
  have e : (a ++ b).cps = a.cps ++ b.cps := rfl
  rw [e, Array.toList_append] at hc
  rcases List.mem_append.mp hc with hc | hc
  · exact h c hc
  · exact g c hc
theorem sg_join {p : Str} (hp : SgOk p) : ∀ ts : List Str, (∀ t ∈ ts, SgOk t) → SgOk (Str.join p ts)
  | [], _ => fun c hc => by simp [Str.join, Str.empty] at hc
  | [x], h => h x (by simp)
  | x :: y :: r, h => sg_app (sg_app (h x (by simp)) hp) (sg_join hp (y :: r) fun t ht => h t (by simp [ht]))
theorem sg_of {s : String} (h : ∀ c ∈ s.toList, c.toNat < 1114112) : SgOk (s : Str) := fun c hc => by
  have e : (s : Str) = ⟨(s.toList.map Char.toNat).toArray⟩ := Str.ofString_eq_toList s
  rw [e] at hc
  simp only [List.mem_map] at hc
  obtain ⟨x, hx, rfl⟩ := hc
  exact h x hx
theorem sg_str (s : String) : SgOk (s : Str) := sg_of fun c _ => by
  have h1 : c.toNat.isValidChar := c.valid
  unfold Nat.isValidChar at h1
  omega
theorem sg_same {t : Str} {h : Hd} {neg : Bool} (ok : SgOk t) : dEqn neg (.str t) (.str t) h = .ok (.bl (neg ^^ true)) h := by
  have e : PyData.strOk t = true := by
    unfold PyData.strOk
    first
      | (rw [Array.all_eq_true_iff_forall_mem]; intro c hc; have := ok c (Array.mem_toList_iff.mpr hc); simpa using this)
      | simpa [SgOk] using ok
  have e2 : D.pl 1 (.str t) = true := e
  have e3 := eqn_pl (neg := neg) (n := 1) (h := h) (by decide) e2 e2
  simpa using e3
end DL
namespace DL
open PySem PySem.Spec L2
abbrev Ew := Rat × Bool
def ew (q : Qu) : Ew := (q.1, q.2.1)
variable {h : Hd} {q : Ew} {n m : Nat}
theorem gcS_no {h h1 : Hd} {s : Sl} {m : Nat} (hm : some (D.ref m) ∈ s) (hl : h.length ≤ m) : (SR.nx s h1).gcS h = .nx s h1 := by
  unfold SR.gcS
  simp only
  rw [if_neg]
  rintro ⟨_, w⟩
  have := w _ hm
  rw [lo_ref, decide_eq_true_eq] at this
  omega
end DL
namespace DL
open PySem PySem.Spec L2
end DL
namespace DL
open PySem PySem.Spec L2
abbrev Ru := Int × Int × Int × Int
abbrev Rq := Rat × Pc
def uR (d : Int) (u : Ru) : Rq := (Rat.divInt u.1 d, Rat.divInt u.2.1 d, Rat.divInt u.2.2.1 d, Rat.divInt u.2.2.2 d)
def RuOk (B : Int) (u : Ru) : Prop := 0 ≤ u.1 ∧ u.1 ≤ u.2.1 ∧ u.1 ≤ u.2.2.1 ∧ u.2.1 ≤ u.2.2.2 ∧ (u.1 = u.2.1 → u.2.2.1 = u.2.2.2) ∧ u.2.1 ≤ B ∧ u.2.2.1 ≤ B ∧ u.2.2.2 ≤ B
def rdOk (q : Rq) : Bool := !(decide (q.2.1 < q.1) || (decide (q.2.2.1 < q.1) || decide (q.2.2.2 < q.2.1))) && (!decide (q.1 = q.2.1) || decide (q.2.2.1 = q.2.2.2))
theorem RuOk.rd {B d : Int} {u : Ru} (o : RuOk B u) (hd : 1 ≤ d) : rdOk (uR d u) = true := by
  obtain ⟨a, b, c, e, f, _⟩ := o
  unfold rdOk uR
  simp only
  rw [decide_eq_false (by rw [divInt_lt hd]; omega), decide_eq_false (by rw [divInt_lt hd]; omega), decide_eq_false (by rw [divInt_lt hd]; omega)]
  by_cases g : u.1 = u.2.1
  · rw [g, f g]
    simp
  · rw [decide_eq_false (by rw [divInt_iff hd]; exact g)]
    rfl
variable {h : Hd} {u : Ru} {q : Rq} {n m : Nat}
theorem gT_Qd_I {gs : GMs} {s : Sl} : gT 4 gs (QdD q) s h = gs [FQ q.1, FQ q.2.1, FQ q.2.2.1, FQ q.2.2.2] s h := rfl
theorem isi_Qd_I : bIsi [QdD q, .ty "tuple"] h = .ok (.bl true) h := rfl
theorem bLen_Qd_I : bLen [QdD q] h = .ok (.int 4) h := rfl
theorem lcD_pot {α β : Type} {emb : α → D} {f : β → D} {g : GM} {t : TM} {e : EM} {vs : List Nat} {s : Sl} {p : Nat} {h l : Hd} {Q : PS → Prop} {P : β → Prop} (all : List α)
    (he : ∀ x ∈ all, ∀ c acc, Q c → ∃ s1 y c', Q c' ∧ P y ∧ g (emb x) (wipeD s vs) (HP h p c ++ (l ++ [.lst acc])) = .ok s1 (HP h p c ++ (l ++ [.lst acc])) ∧ t s1 (HP h p c ++ (l ++ [.lst acc])) = .ok true (HP h p c ++ (l ++ [.lst acc])) ∧ e s1 (HP h p c ++ (l ++ [.lst acc])) = .ok (f y) (HP h p c' ++ (l ++ [.lst acc]))) :
    ∀ (xs : List α) (ys : List β) (c : PS), (∀ x ∈ xs, x ∈ all) → ys.length + xs.length < 1000000 → Q c → (∀ y ∈ ys, P y) →
    ∃ (zs : List β) (c' : PS), Q c' ∧ (∀ y ∈ zs, P y) ∧ zs.length = ys.length + xs.length ∧ lcD (fun _ => True) g t e vs (h.length + l.length) s (xs.map emb) (HP h p c ++ (l ++ [.lst (ys.map f)])) = .ok () (HP h p c' ++ (l ++ [.lst (zs.map f)])) := by
  intro xs
  induction xs with
  | nil =>
    intro ys c _ _ qc py
    refine ⟨ys, c, qc, py, rfl, ?_⟩
    rw [List.map_nil]
    unfold lcD
    rw [if_pos trivial]
  | cons x xs ih =>
    intro ys c hx hl qc py
    rw [List.length_cons] at hl
    obtain ⟨s1, y, c', qc', pY, e1, e2, e3⟩ := he x (hx x (by simp)) c (ys.map f) qc
    obtain ⟨zs, c2, q2, p2, l2, e4⟩ := ih (ys ++ [y]) c' (fun z hz => hx z (by simp [hz])) (by rw [List.length_append, List.length_singleton]; omega) qc' (fun z hz => by
      rcases List.mem_append.mp hz with hz | hz
      · exact py z hz
      · rw [List.mem_singleton.mp hz]; exact pY)
    refine ⟨zs, c2, q2, p2, by rw [l2, List.length_append, List.length_singleton, List.length_cons]; omega, ?_⟩
    rw [List.map_cons]
    unfold lcD
    rw [if_pos trivial, e1]
    simp only
    rw [e2, Res.bind_ok, if_pos rfl, e3, Res.bind_ok]
    have ap : appD (h.length + l.length) (f y) (HP h p c' ++ (l ++ [.lst (ys.map f)])) = .ok () (HP h p c' ++ (l ++ [.lst ((ys ++ [y]).map f)])) := by
      have := appD_mid (h' := HP h p c' ++ l) (g := []) (acc := ys.map f) (d := f y) (n := h.length + l.length) (by rw [List.length_append, HP_len_I]) (by rw [List.length_map]; omega)
      rw [List.append_assoc, List.append_assoc] at this
      rw [this, List.map_append]
      rfl
    rw [ap, Res.bind_ok]
    exact e4
theorem kLc_pot {α β : Type} {emb : α → D} {f : β → D} {g : GM} {t : TM} {e : EM} {vs : List Nat} {s : Sl} {p : Nat} {h l : Hd} {c : PS} {xs : List α} (Q : PS → Prop) (P : β → Prop) (hl : xs.length < 1000000) (qc : Q c)
    (he : ∀ x ∈ xs, ∀ c acc, Q c → ∃ s1 y c', Q c' ∧ P y ∧ g (emb x) (wipeD s vs) (HP h p c ++ (l ++ [.lst acc])) = .ok s1 (HP h p c ++ (l ++ [.lst acc])) ∧ t s1 (HP h p c ++ (l ++ [.lst acc])) = .ok true (HP h p c ++ (l ++ [.lst acc])) ∧ e s1 (HP h p c ++ (l ++ [.lst acc])) = .ok (f y) (HP h p c' ++ (l ++ [.lst acc]))) :
    ∃ (zs : List β) (c' : PS), Q c' ∧ (∀ y ∈ zs, P y) ∧ zs.length = xs.length ∧ (Res.ok (xs.map emb, fun _ => True) (HP h p c ++ l)).kLc g t e vs s = .ok (.ref (h.length + l.length)) (HP h p c' ++ (l ++ [.lst (zs.map f)])) := by
  obtain ⟨zs, c', q, pz, lz, ez⟩ := lcD_pot (f := f) (Q := Q) (P := P) xs he xs [] c (fun _ h => h) (by simpa using hl) qc (by simp)
  refine ⟨zs, c', q, pz, by simpa using lz, ?_⟩
  unfold Res.kLc
  rw [Res.bind_ok]
  simp only
  rw [List.length_append, HP_len_I, List.append_assoc]
  rw [List.map_nil] at ez
  rw [ez, Res.bind_ok]
end DL
namespace DL
open PySem PySem.Spec L2
section
variable {α β : Type} {N n : Nat} {body b su : SM} {ds : List D} {h h1 : Hd} {d d1 : D} {s s1 : Sl} {x : XD} {m m2 : EM} {tm tm2 : TM} {am : AM} {vs : List Nat} {c : String} {sm sm2 : SM} {F : List D → M D}
end
theorem str_T_I {i : Int} {k : Nat} [f : Fa (0 ≤ i)] [q : ZI k i] (hk : k < 1920) : D.str (Str.ofString (toString i)) = T (dig i.toNat) := by
  have e1 := bStr_ok (h := []) q.z hk
  have e2 := bStr_T (h := []) f.out q.z hk
  rw [e1] at e2
  injection e2
theorem toNat_cast_I {n : Nat} : ((n : Int)).toNat = n := Int.toNat_natCast n
theorem isi_T_I {h : Hd} {l : List Nat} : bIsi [T l, .ty "str"] h = .ok (.bl true) h := by
  unfold bIsi T
  simp only [ty0, kit_ss]
def mkS (l : List Nat) : Str := ⟨l.toArray⟩
theorem T_mk {l : List Nat} : T l = D.str (mkS l) := rfl
theorem map_T {ts : List (List Nat)} : ts.map T = (ts.map mkS).map D.str := by
  rw [List.map_map]
  rfl
def joinN (s : List Nat) : List (List Nat) → List Nat
  | [] => []
  | [t] => t
  | t :: u :: r => t ++ s ++ joinN s (u :: r)
theorem join_mk (s : List Nat) : ∀ ts : List (List Nat), Txt.join (mkS s) (ts.map mkS) = mkS (joinN s ts)
  | [] => rfl
  | [t] => by
    show Builtin.Str.glued _ _ = _
    rw [StrLaws.glued_eq_join]
    rfl
  | t :: u :: r => by
    have ih := join_mk s (u :: r)
    show Builtin.Str.glued _ _ = _
    have ih : Builtin.Str.glued (mkS s) ((u :: r).map mkS) = mkS (joinN s (u :: r)) := ih
    rw [StrLaws.glued_eq_join] at ih ⊢
    show mkS t ++ mkS s ++ Str.join (mkS s) ((u :: r).map mkS) = _
    rw [ih]
    show (⟨t.toArray ++ s.toArray ++ (joinN s (u :: r)).toArray⟩ : Str) = ⟨(t ++ s ++ joinN s (u :: r)).toArray⟩
    simp
def lenN (s : List Nat) (ts : List (List Nat)) : Nat := (ts.map (·.length)).sum + ts.length * s.length
theorem joinN_len (s : List Nat) : ∀ ts : List (List Nat), (joinN s ts).length ≤ lenN s ts
  | [] => Nat.zero_le _
  | [t] => by
    unfold lenN joinN
    rw [List.map_cons, List.sum_cons]
    omega
  | t :: u :: r => by
    have ih := joinN_len s (u :: r)
    unfold lenN at *
    unfold joinN
    rw [List.length_append, List.length_append, List.map_cons, List.sum_cons, List.length_cons, Nat.succ_mul]
    omega
theorem lenN_le {s : List Nat} {k : Nat} : ∀ {ts : List (List Nat)}, (∀ t ∈ ts, t.length ≤ k) → lenN s ts ≤ ts.length * (k + s.length)
  | [], _ => by simp [lenN]
  | t :: r, h => by
    have ih := lenN_le (s := s) (ts := r) fun x hx => h x (List.mem_cons_of_mem _ hx)
    have := h t (List.mem_cons_self ..)
    unfold lenN at *
    rw [List.map_cons, List.sum_cons, List.length_cons, Nat.succ_mul, Nat.succ_mul]
    omega
theorem len_sum (s : List Nat) (ts : List (List Nat)) : (((ts.map mkS).map (·.length)).sum + (ts.map mkS).length * (mkS s).length) = lenN s ts := by
  unfold lenN
  rw [List.map_map, List.length_map]
  rfl
theorem mJoin_L {n : Nat} {s : List Nat} {ts : List (List Nat)} {h : Hd} [q : Ls h n (ts.map T)] (hb : lenN s ts ≤ 16777216) : mJoin (T s) [.ref n] h = .ok (T (joinN s ts)) h := by
  rw [T_mk]
  unfold mJoin
  show (match (lstOf h (.ref n)).bind strsD with | some ys => _ | none => _) = _
  have e : lstOf h (.ref n) = some ((ts.map mkS).map D.str) := by
    unfold lstOf
    simp only [q.q, map_T]
  rw [e, Option.bind_some, strsD_map]
  simp only
  rw [len_sum, if_pos hb, join_mk]
  rfl
theorem joinN_mem {s : List Nat} {c : Nat} : ∀ {ts : List (List Nat)}, c ∈ joinN s ts → c ∈ s ∨ ∃ t ∈ ts, c ∈ t
  | [], h => absurd h (by simp [joinN])
  | [t], h => .inr ⟨t, by simp, h⟩
  | t :: u :: ts, h => by
    have h : c ∈ t ++ s ++ joinN s (u :: ts) := h
    rcases List.mem_append.mp h with h | h
    · rcases List.mem_append.mp h with h | h
      · exact .inr ⟨t, by simp, h⟩
      · exact .inl h
    · rcases joinN_mem h with h | ⟨x, hx, h⟩
      · exact .inl h
      · exact .inr ⟨x, List.mem_cons_of_mem _ hx, h⟩
theorem tx_joinN {s : List Nat} {ts : List (List Nat)} (h1 : Tx s) (h2 : ∀ t ∈ ts, Tx t) : Tx (joinN s ts) := ⟨fun c hc => by
  rcases joinN_mem hc with h | ⟨t, ht, h⟩
  · exact h1.ok c h
  · exact (h2 t ht).ok c h⟩
theorem frT_sign {a : Rat} {c : Nat} (h : c ∈ frT a) : isDg c = true ∨ c = 47 := by
  unfold frT at h
  split at h
  · exact .inl (List.all_eq_true.mp dig_all c h)
  · rcases List.mem_append.mp h with h | h
    · exact .inl (List.all_eq_true.mp dig_all c h)
    · rcases List.mem_cons.mp h with rfl | h
      · exact .inr rfl
      · exact .inl (List.all_eq_true.mp dig_all c h)
theorem frT_no {a : Rat} {c : Nat} (hc : isDg c = false) (h47 : c ≠ 47) : c ∉ frT a := fun h => by
  rcases frT_sign h with e | e
  · rw [e] at hc
    cases hc
  · exact h47 e
def splitN (s l : List Nat) : List (List Nat) := (Txt.split (mkS l) (mkS s)).map fun z => z.cps.toList
theorem mSplit_T {s l : List Nat} {h : Hd} (hs : s ≠ []) (hl : l.length + 2 ≤ 1000000) : mSplit (T l) [T s] h = .ok (.ref h.length) (h ++ [.lst ((splitN s l).map T)]) := by
  have l0 : ((mkS s).length == 0) = false := by
    rw [beq_eq_false_iff_ne]
    show s.toArray.size ≠ 0
    simpa using hs
  rw [T_mk, T_mk]
  unfold mSplit
  simp only
  rw [if_pos ⟨l0, Nat.le_trans hl (by decide +kernel)⟩]
  unfold splitN
  rw [List.map_map]
  rfl
theorem splitN_join {s : Nat} {S : List Nat} {ts : List (List Nat)} (hk : (s :: S).all (· < 256) = true) (ne : ts ≠ []) (hp : ∀ p ∈ ts, s ∉ p) : splitN (s :: S) (joinN (s :: S) ts) = ts := by
  unfold splitN
  rw [← join_mk, TL.split_join (s := s) (S := S) rfl (by show (s :: S).toArray.all _ = true; simpa using hk) (by simpa using ne) (fun p hp' => by
    obtain ⟨t, ht, rfl⟩ := List.mem_map.mp hp'
    exact hp t ht), List.map_map]
  simp [mkS, Function.comp_def]
end DL
namespace DL
open PySem PySem.Spec L2
end DL
namespace DL
open PySem PySem.Spec L2
structure RqOk (k : Nat) (q : Rq) : Prop where
  nn : 0 ≤ q.1
  rd : rdOk q = true
  z : SzQ k q.1 ∧ SzQ k q.2.1 ∧ SzQ k q.2.2.1 ∧ SzQ k q.2.2.2
theorem rdOk_iff {q : Rq} : rdOk q = true ↔ q.1 ≤ q.2.1 ∧ q.1 ≤ q.2.2.1 ∧ q.2.1 ≤ q.2.2.2 ∧ (q.1 = q.2.1 → q.2.2.1 = q.2.2.2) := by
  unfold rdOk
  simp only [Bool.and_eq_true, Bool.not_eq_true', Bool.or_eq_false_iff, decide_eq_false_iff_not, Rat.not_lt, Bool.or_eq_true, decide_eq_true_eq]
  constructor
  · rintro ⟨⟨a, b, c⟩, d⟩
    refine ⟨a, b, c, fun e => ?_⟩
    rcases d with d | d
    · exact absurd e (by simpa using d)
    · exact d
  · rintro ⟨a, b, c, d⟩
    refine ⟨⟨a, b, c⟩, ?_⟩
    by_cases e : q.1 = q.2.1
    · exact .inr (d e)
    · exact .inl (by simpa using e)
theorem RqOk.le {k : Nat} {q : Rq} (o : RqOk k q) : 0 ≤ q.1 ∧ q.1 ≤ q.2.1 ∧ q.1 ≤ q.2.2.1 ∧ q.2.1 ≤ q.2.2.2 ∧ (q.1 = q.2.1 → q.2.2.1 = q.2.2.2) ∧ 0 ≤ q.2.1 ∧ 0 ≤ q.2.2.1 ∧ 0 ≤ q.2.2.2 := by
  obtain ⟨a, b, c, d⟩ := rdOk_iff.mp o.rd
  have := o.nn
  exact ⟨this, a, b, c, d, by grind, by grind, by grind⟩
def rdHas (q : Rq) (t : Rat) : Bool := !decide (t < q.1) && !decide (q.2.1 < t)
abbrev rdOn (q : Rq) (t : Rat) : Rat := onP q.1 q.2 t
def offStep (t : Rat) (f : Option Rat) (q : Rq) : Option Rat := if rdHas q t = true then minO f (some (rdOn q t)) else f
def offF (R : List Rq) (t : Rat) : Option Rat := R.foldl (offStep t) none
def endsR (R : List Rq) : List Rat := R.map (·.1) ++ R.map (·.2.1)
def soStep (R : List Rq) (f : Option (Rat × Rat)) (m : Rat) : Option (Rat × Rat) := match offF R m, f with
  | none, f => f
  | some c, none => some (m, c)
  | some c, some g => if c < g.2 then some (m, c) else some g
def soF (R : List Rq) (M : List Rat) : Option (Rat × Rat) := M.foldl (soStep R) none
def soM (R : List Rq) (w : Bool) (t : Rat) : List Rat := if w = true then inTurn (t :: (endsR R).filter fun e => decide (t < e)) else [t]
variable {d : Rat}
theorem div_lt_iff' (hd : 0 < d) {a b : Rat} : a / d < b / d ↔ a < b := by
  have e1 : a / d * d = a := Rat.div_mul_cancel (by grind)
  have e2 : b / d * d = b := Rat.div_mul_cancel (by grind)
  constructor
  · intro h
    have := Rat.mul_lt_mul_of_pos_right h hd
    rwa [e1, e2] at this
  · intro h
    rw [← Rat.not_le]
    intro w
    have := Rat.mul_le_mul_of_nonneg_right w (Rat.le_of_lt hd)
    rw [e1, e2] at this
    grind
theorem div_inj' (hd : 0 < d) {a b : Rat} : a / d = b / d ↔ a = b := by
  have e1 : a / d * d = a := Rat.div_mul_cancel (by grind)
  have e2 : b / d * d = b := Rat.div_mul_cancel (by grind)
  exact ⟨fun h => by rw [← e1, h, e2], fun h => by rw [h]⟩
theorem divInt_1 {n : Int} : Rat.divInt n 1 = (n : Rat) := by
  rw [Rat.divInt_eq_div]
  show (n : Rat) / 1 = n
  grind
structure RuS' (k : Nat) (u : Ru) : Prop where
  o : u.1 ≤ u.2.1
  z : Sz k u.1 ∧ Sz k u.2.1 ∧ Sz k u.2.2.1 ∧ Sz k u.2.2.2
end DL
namespace DL
open PySem PySem.Spec L2
def waitG (R : List Rq) (t : Rat) : Option Rat := (soF R (soM R true t)).map (·.2)
theorem ride_lin {u : Ru} {d : Int} (o : RuS' 40 u) (d1 : 1 ≤ d) (zd : Sz 40 d) : LinP 83 (uR d u).1 (uR d u).2 := by
  obtain ⟨z1, z2, z3, z4⟩ := o.z
  have d0 : (0 : Rat) < (d : Rat) := cast_pos (by omega)
  have eu : uR d u = ((u.1 : Rat) / (d : Rat), (u.2.1 : Rat) / (d : Rat), (u.2.2.1 : Rat) / (d : Rat), (u.2.2.2 : Rat) / (d : Rat)) := by
    unfold uR
    simp only [Rat.divInt_eq_div]
  rw [eu]
  by_cases c : u.1 = u.2.1
  · refine ⟨0, u.2.2.1, d, by omega, (by unfold Sz; decide), z3.mono (by decide), zd.mono (by decide), fun t => ?_⟩
    unfold onP
    simp only
    rw [if_pos (by rw [c])]
    simp only [Rat.intCast_zero]
    grind
  · have lt : u.1 < u.2.1 := by have := o.o; omega
    have hl : (0 : Rat) < (u.2.1 : Rat) - (u.1 : Rat) := by
      have : (u.1 : Rat) < (u.2.1 : Rat) := Rat.intCast_lt_intCast.mpr lt
      grind
    refine ⟨(u.2.2.2 - u.2.2.1) * d, u.2.2.1 * (u.2.1 - u.1) - u.1 * (u.2.2.2 - u.2.2.1), (u.2.1 - u.1) * d, Int.mul_pos (by omega) (by omega), ((z4.sub z3).mul zd).mono (by decide), ((z3.mul (z2.sub z1)).sub (z1.mul (z4.sub z3))).mono (by decide), ((z2.sub z1).mul zd).mono (by decide), fun t => ?_⟩
    unfold onP
    simp only
    rw [if_neg (fun w => by rw [div_inj' d0] at w; exact c (Rat.intCast_inj.mp w.symm))]
    simp only [Rat.intCast_mul, Rat.intCast_sub]
    have h1 : (u.2.1 : Rat) / (d : Rat) - (u.1 : Rat) / (d : Rat) = ((u.2.1 : Rat) - (u.1 : Rat)) / (d : Rat) := by
      rw [Rat.div_def, Rat.div_def, Rat.div_def]
      grind
    rw [h1]
    generalize (u.2.1 : Rat) - (u.1 : Rat) = L at *
    have hL : L * (d : Rat) ≠ 0 := by
      have := Rat.mul_pos hl d0
      grind
    have h2 : (t - (u.1 : Rat) / (d : Rat)) / (L / (d : Rat)) = (t * (d : Rat) - (u.1 : Rat)) / L := by
      rw [cross (by
        intro w
        have := Rat.div_mul_cancel (a := L) (b := (d : Rat)) (by grind)
        rw [w] at this
        grind) (by grind)]
      have e1 := Rat.div_mul_cancel (a := L) (b := (d : Rat)) (by grind)
      have e2 := Rat.div_mul_cancel (a := (u.1 : Rat)) (b := (d : Rat)) (by grind)
      generalize L / (d : Rat) = l at *
      generalize (u.1 : Rat) / (d : Rat) = v at *
      rw [← e1, ← e2]
      grind
    rw [h2]
    have e1 := Rat.div_mul_cancel (a := (u.2.2.1 : Rat)) (b := (d : Rat)) (by grind)
    have e2 := Rat.div_mul_cancel (a := (u.2.2.2 : Rat)) (b := (d : Rat)) (by grind)
    have e3 := Rat.div_mul_cancel (a := t * (d : Rat) - (u.1 : Rat)) (b := L) (by grind)
    have e4 := Rat.div_mul_cancel (a := ((u.2.2.2 : Rat) - (u.2.2.1 : Rat)) * (d : Rat) * t + ((u.2.2.1 : Rat) * L - (u.1 : Rat) * ((u.2.2.2 : Rat) - (u.2.2.1 : Rat)))) (b := L * (d : Rat)) hL
    generalize (((u.2.2.2 : Rat) - (u.2.2.1 : Rat)) * (d : Rat) * t + ((u.2.2.1 : Rat) * L - (u.1 : Rat) * ((u.2.2.2 : Rat) - (u.2.2.1 : Rat)))) / (L * (d : Rat)) = X at *
    generalize (t * (d : Rat) - (u.1 : Rat)) / L = w at *
    generalize (u.2.2.1 : Rat) / (d : Rat) = c1 at *
    generalize (u.2.2.2 : Rat) / (d : Rat) = c2 at *
    rw [← e1, ← e2] at e4
    have e5 : t * (d : Rat) = w * L + u.1 := by grind
    have key : (c1 + (c2 - c1) * w) * (L * (d : Rat)) = X * (L * (d : Rat)) := by
      rw [e4]
      have : (c2 * (d : Rat) - c1 * (d : Rat)) * (d : Rat) * t = (c2 - c1) * (d : Rat) * (w * L + u.1) := by
        rw [← e5]
        grind
      rw [this]
      grind
    have := Rat.mul_div_cancel (a := c1 + (c2 - c1) * w) hL
    have := Rat.mul_div_cancel (a := X) hL
    rw [key] at *
    grind
end DL
namespace DL
open PySem PySem.Spec PyProof.Rows L2
end DL
namespace DL
open PySem PySem.Spec L2
section
variable {b su : SM} {ds : List D} {h h1 : Hd} {d d1 d2 d3 : D} {s s1 : Sl} {am : AM} {c : String} {fs : List String} {f1 f2 f3 : String}
end
end DL
namespace DL
open PySem PySem.Spec L2
class Ob (h : Hd) (n : Nat) (o : outParam MO) : Prop where
  q : h[n]? = some o
class Ot (g : Hd) (k : Nat) (o : outParam MO) : Prop where
  q : g[k]? = some o
section
variable {h g : Hd} {n k p : Nat} {o u : MO} {c : PS} {kvs : List (Key × D)} {s : Sl} {d : D} {xs : List D}
instance ot_0 : Ot (o :: g) 0 o := ⟨rfl⟩
instance ot_s [q : Ot g k o] : Ot (u :: g) (k + 1) o := ⟨by simpa using q.q⟩
instance ob_app [q : Ob h n o] : Ob (h ++ g) n o := ⟨by
  have := q.q
  rw [List.getElem?_append_left (List.getElem?_eq_some_iff.mp this).1]
  exact this⟩
instance ob_at0 : Ob (h ++ o :: g) h.length o := ⟨by rw [get_at0]; rfl⟩
instance ob_HP [q : Ob h n o] [z : Ne2 p n] : Ob (HP h p c) n o := ⟨by unfold HP; rw [List.getElem?_set_ne z.ne]; exact q.q⟩
instance ob_HPk [q : Ot g k o] : Ob (HP h p c ++ g) (h.length + k) o := ⟨by
  have := get_at (h := HP h p c) (g := g) (k := k)
  rw [HP_len_I] at this
  rw [this]; exact q.q⟩
instance ob_HP0 : Ob (HP h p c ++ o :: g) h.length o := ⟨by
  have := get_at0 (h := HP h p c) (g := o :: g)
  rw [HP_len_I] at this
  rw [this]; rfl⟩
theorem Ob.lt [q : Ob h n o] : n < h.length := (List.getElem?_eq_some_iff.mp q.q).1
instance ob_set [q : Ob h n o] : Ob (h.set n u) n u := ⟨by rw [List.getElem?_set_self q.lt]⟩
theorem set_back_I [q : Ob h n o] : (h.set n u).set n o = h := by
  rw [List.set_set]
  have := q.q
  apply List.ext_getElem?
  intro i
  by_cases e : n = i
  · subst e
    rw [List.getElem?_set_self q.lt, this]
  · rw [List.getElem?_set_ne e]
theorem set_app_l (hl : n < h.length) : (h ++ g).set n u = h.set n u ++ g := by rw [List.set_append_left _ _ hl]
abbrev kS (w : List Nat) : Key := .inr ⟨w.toArray⟩
theorem kS_inj {a b : List Nat} : (kS a = kS b) ↔ a = b := ⟨fun e => by
  have e := Sum.inr.inj e
  have := congrArg (fun s : Str => s.cps.toList) e
  simpa using this, fun e => by rw [e]⟩
theorem keyD_T {w : List Nat} : keyD (T w) = some (kS w) := rfl
theorem dct_of [q : Ob h n (.dK kvs)] : dctOf h (.ref n) = some kvs := by unfold dctOf; simp only [q.q]
theorem dctF_of [q : Ob h n (.dF kvs)] : dctF h (.ref n) = some kvs := by unfold dctF; simp only [q.q]
def getR (o : Option D) (h : Hd) : Res D := match o with
  | some v => .ok v h
  | none => .bad
theorem getR_I {v : D} : getR (some v) h = .ok v h := rfl
theorem dDG_I {w : List Nat} [q : Ob h n (.dK kvs)] : dDG (.ref n) (T w) h = getR (valK kvs (kS w)) h := by
  unfold dDG
  rw [dct_of, keyD_T]
  rfl
theorem dSetD_I {w : List Nat} {z : D} [q : Ob h n (.dK kvs)] (hl : kvs.length < 1000000) : dSetD (.ref n) (T w) z h = .ok () (h.set n (.dK (putD kvs (kS w) z))) := by
  unfold dSetD
  rw [keyD_T]
  simp only [q.q]
  rw [if_pos (Nat.lt_of_lt_of_le hl (by decide +kernel))]
noncomputable def Res.kLock (r : Res D) (m : SM) (s : Sl) (h : Hd) : SR := match r with
  | .ok (.ref n) _ => (match h[n]? with
    | some (.dK kds) => (m s (h.set n (.dF kds))).unl n
    | _ => m s h)
  | _ => m s h
theorem ev_sLock_I {e : EM} {m : SM} : sLock e m s h = (e s h).kLock m s h := rfl
theorem kLock_I {m : SM} {h1 : Hd} [q : Ob h n (.dK kvs)] : (Res.ok (.ref n) h1).kLock m s h = (m s (h.set n (.dF kvs))).unl n := by
  unfold Res.kLock
  simp only [q.q]
theorem unlS_nx_I [q : Ob h n (.dF kvs)] : (SR.nx s h).unl n = .nx s (h.set n (.dK kvs)) := by
  unfold SR.unl
  simp only [q.q]
noncomputable def Res.kLockE (r : Res D) (m : EM) (s : Sl) (h : Hd) : Res D := match r with
  | .ok (.ref n) _ => (match h[n]? with
    | some (.dK kds) => (m s (h.set n (.dF kds))).unl n
    | _ => m s h)
  | _ => m s h
theorem ev_eLock_I {e m : EM} : eLock e m s h = (e s h).kLockE m s h := rfl
theorem kLockE_I {m : EM} {h1 : Hd} [q : Ob h n (.dK kvs)] : (Res.ok (.ref n) h1).kLockE m s h = (m s (h.set n (.dF kvs))).unl n := by
  unfold Res.kLockE
  simp only [q.q]
theorem unlE_I [q : Ob h n (.dF kvs)] : (Res.ok d h).unl n = .ok d (h.set n (.dK kvs)) := by
  unfold Res.unl
  simp only [q.q]
noncomputable def Res.kItm (r : Res D) : Res ItD := r.bind fun x h1 => match dctF h1 x with
  | some kvs => .ok (kvs.map (fun kv => .tup [kD kv.1, kv.2]), fun _ => True) h1
  | none => .bad
noncomputable def Res.kVal (r : Res D) : Res ItD := r.bind fun x h1 => match dctF h1 x with
  | some kvs => .ok (kvs.map (fun kv => kv.2), fun _ => True) h1
  | none => .bad
theorem ev_iItm_I {m : EM} : iItm m s h = (m s h).kItm := rfl
theorem ev_iVal_I {m : EM} : iVal m s h = (m s h).kVal := rfl
theorem kItm_of [q : Ob h n (.dF kvs)] : (Res.ok (.ref n) h).kItm = .ok (kvs.map (fun kv => .tup [kD kv.1, kv.2]), fun _ => True) h := by
  unfold Res.kItm
  rw [Res.bind_ok, dctF_of]
theorem kVal_of [q : Ob h n (.dF kvs)] : (Res.ok (.ref n) h).kVal = .ok (kvs.map (fun kv => kv.2), fun _ => True) h := by
  unfold Res.kVal
  rw [Res.bind_ok, dctF_of]
theorem ev_DN_I : eDN s h = .ok (.ref h.length) (h ++ [.dK []]) := rfl
theorem cl_refs {d : D} : D.lo 0 d = true → D.refs d = [] := by
  refine D.rec (motive_1 := fun d => D.lo 0 d = true → D.refs d = []) (motive_2 := fun l => D.loAll 0 l = true → D.refsAll l = []) ?_ ?_ ?_ ?_ ?_ ?_ ?_ ?_ ?_ ?_ ?_ d
  · intro _; rfl
  · intro _ _; rfl
  · intro _ _; rfl
  · intro _ _; rfl
  · intro _ _; rfl
  · intro xs ih e; rw [lo_tup] at e; unfold D.refs; exact ih e
  · intro xs ih e; rw [lo_rol] at e; unfold D.refs; exact ih e
  · intro n e; rw [lo_ref] at e; simp at e
  · intro _ _; rfl
  · intro _; rfl
  · intro x xs i1 i2 e; rw [lo_cons, Bool.and_eq_true] at e; unfold D.refsAll; rw [i1 e.1, i2 e.2]; rfl
theorem cl_ren {d : D} {f : Nat → Nat} : D.lo 0 d = true → D.ren f d = d := by
  refine D.rec (motive_1 := fun d => D.lo 0 d = true → D.ren f d = d) (motive_2 := fun l => D.loAll 0 l = true → D.renAll f l = l) ?_ ?_ ?_ ?_ ?_ ?_ ?_ ?_ ?_ ?_ ?_ d
  · intro _; rfl
  · intro _ _; rfl
  · intro _ _; rfl
  · intro _ _; rfl
  · intro _ _; rfl
  · intro xs ih e; rw [lo_tup] at e; unfold D.ren; rw [ih e]
  · intro xs ih e; rw [lo_rol] at e; unfold D.ren; rw [ih e]
  · intro n e; rw [lo_ref] at e; simp at e
  · intro _ _; rfl
  · intro _; rfl
  · intro x xs i1 i2 e; rw [lo_cons, Bool.and_eq_true] at e; unfold D.renAll; rw [i1 e.1, i2 e.2]
theorem cl_inn {d : D} {n : Nat} {js : List Nat} : D.lo 0 d = true → D.inn n js d = true := by
  refine D.rec (motive_1 := fun d => D.lo 0 d = true → D.inn n js d = true) (motive_2 := fun l => D.loAll 0 l = true → D.innAll n js l = true) ?_ ?_ ?_ ?_ ?_ ?_ ?_ ?_ ?_ ?_ ?_ d
  · intro _; rfl
  · intro _ _; rfl
  · intro _ _; rfl
  · intro _ _; rfl
  · intro _ _; rfl
  · intro xs ih e; rw [lo_tup] at e; unfold D.inn; exact ih e
  · intro xs ih e; rw [lo_rol] at e; unfold D.inn; exact ih e
  · intro n e; rw [lo_ref] at e; simp at e
  · intro _ _; rfl
  · intro _; rfl
  · intro x xs i1 i2 e; rw [lo_cons, Bool.and_eq_true] at e; unfold D.innAll; rw [i1 e.1, i2 e.2]; rfl
theorem KDs.lo_iff {κ : Type} {n : Nat} : ∀ {kvs : List (κ × D)}, KDs.lo n kvs = true ↔ ∀ kv ∈ kvs, D.lo n kv.2 = true
  | [] => by simp [KDs.lo]
  | (k, d) :: r => by
    unfold KDs.lo
    rw [Bool.and_eq_true, KDs.lo_iff (kvs := r)]
    simp
theorem cl_mo {o : MO} (h : MO.lo 0 o = true) : MO.refs o = [] ∧ (∀ f, MO.ren f o = o) ∧ ∀ n js, MO.inn n js o = true := by
  have kv : ∀ {κ : Type} {kvs : List (κ × D)}, KDs.lo 0 kvs = true → (kvs.flatMap fun kv => D.refs kv.2) = [] ∧ (∀ f, KDs.map (D.ren f) kvs = kvs) ∧ ∀ n js, (kvs.all fun kv => D.inn n js kv.2) = true := fun {κ kvs} e => by
    rw [KDs.lo_iff] at e
    refine ⟨List.flatMap_eq_nil_iff.mpr fun x hx => cl_refs (e x hx), fun f => ?_, fun n js => List.all_eq_true.mpr fun x hx => cl_inn (e x hx)⟩
    unfold KDs.map
    rw [List.map_congr_left (g := id) fun x hx => by rw [cl_ren (e x hx)]; rfl, List.map_id]
  cases o with
  | lst xs =>
    have e : D.lo 0 (.tup xs) = true := by rw [lo_tup]; exact h
    refine ⟨?_, fun f => ?_, fun n js => ?_⟩
    · have := cl_refs e
      unfold D.refs at this
      exact this
    · have := cl_ren (f := f) e
      unfold D.ren at this
      show MO.lst _ = _
      rw [D.tup.inj this]
    · have := cl_inn (n := n) (js := js) e
      unfold D.inn at this
      exact this
  | dK ks => exact ⟨(kv h).1, fun f => by show MO.dK _ = _; rw [(kv h).2.1 f], (kv h).2.2⟩
  | dF ks => exact ⟨(kv h).1, fun f => by show MO.dF _ = _; rw [(kv h).2.1 f], (kv h).2.2⟩
  | dT ks => exact ⟨(kv h).1, fun f => by show MO.dT _ = _; rw [(kv h).2.1 f], (kv h).2.2⟩
  | dG ks => exact ⟨(kv h).1, fun f => by show MO.dG _ = _; rw [(kv h).2.1 f], (kv h).2.2⟩
theorem gcT_of {h h' H : Hd} {d d' : D} (js : List Nat) (ok : OkBelow h h') (hn : newsD h h' d = js) (nd : js.Nodup) (new : ∀ j ∈ js, h.length ≤ j ∧ ∃ o, h'[j]? = some o ∧ o.inn h.length js = true) (inn : d.inn h.length js = true)
    (hd : d.ren (rn h.length js) = d') (hH : keepH h h' js = H) : gcT h d h' = .ok d' H := by
  unfold gcT gc2
  rw [hn, if_pos ⟨ok, nd, new, inn⟩, hd, hH]
theorem ev_run2_I {N : Nat} {sm : SM} : runB2 N sm xs h = (sm (xs.map some ++ List.replicate (N - xs.length) none) h).fin2 h := rfl
theorem fin2_rt_I {h1 : Hd} : (SR.rt d h).fin2 h1 = gcT h1 d h := rfl
end
section
variable {h g A A1 l l1 tk : Hd} {n k m : Nat} {o : MO} {kvs : List (Key × D)}
class LwK (h : Hd) (kvs : List (Key × D)) : Prop where
  lo : ∀ kv ∈ kvs, kv.2.lo h.length = true
theorem LwK.mo [q : LwK h kvs] : MO.lo h.length (.dK kvs) = true := KDs.lo_iff.mpr q.lo
instance (priority := low) pre_dK {B : Hd} [q : PreL B l l1 tk] [z : LwK B kvs] : PreL B (o :: l) (.dK kvs :: l1) (.dK kvs :: tk) := ⟨by simp [q.tk], by simpa using q.len, fun i u hi e => by
  cases i with
  | zero => simp at e; subst e; exact .inl z.mo
  | succ i => exact (q.ok i u (by simpa using hi) (by simpa using e)).imp_right (by simp)⟩
instance lw_refO [q : Ob h n o] : Lw h (.ref n) := ⟨by rw [lo_ref]; exact decide_eq_true q.lt⟩
theorem gcnK_I [p1 : Hsp h A l] {h1 : Hd} [p2 : Hsp h1 A1 l1] [q : OkA A A1] [t : PreL h l l1 tk] [e : Rsp A1 m k] [u : Ot l1 k (.dK kvs)] [w : LwK h kvs] (hk : l.length ≤ k) : gc h (.ref m) h1 = .ok (.ref h.length) (A1 ++ (tk ++ [.dK kvs])) := by
  obtain ⟨e1, e2⟩ := okb_of (h := h) (h1 := h1) (tk := tk)
  have hl : h.length = A1.length + l.length := by rw [p1.e, List.length_append, q.len]
  unfold gc
  rw [if_pos e1, if_neg (by rw [lo_ref, e.e, hl]; simpa using hk)]
  simp only
  rw [e.e, p2.e, get_at, u.q]
  simp only
  rw [if_pos w.mo, ← p2.e, e2, List.append_assoc]
end
section
variable {α : Type} {f : α → D} {nm : α → List Nat}
def dctK (nm : α → List Nat) (f : α → D) (zs : List α) : List (Key × D) := zs.map fun z => (kS (nm z), f z)
theorem valK_dct {zs : List α} {w : List Nat} : valK (dctK nm f zs) (kS w) = (zs.find? fun z => decide (nm z = w)).map f := by
  unfold valK dctK
  rw [List.find?_map, Option.map_map]
  congr 1
  congr 1
  funext z
  exact decide_eq_decide.mpr kS_inj
theorem putD_new {zs : List α} {z : α} (hn : ∀ y ∈ zs, nm y ≠ nm z) : putD (dctK nm f zs) (kS (nm z)) (f z) = dctK nm f (zs ++ [z]) := by
  unfold putD
  rw [if_neg]
  · unfold dctK
    rw [List.map_append]
    rfl
  · unfold dctK
    rw [List.any_map, List.any_eq_true]
    rintro ⟨y, hy, e⟩
    simp only [Function.comp, decide_eq_true_eq] at e
    exact hn y hy (kS_inj.mp e)
theorem find_mem {zs : List α} {z : α} (nd : (zs.map nm).Nodup) (hz : z ∈ zs) : (zs.find? fun y => decide (nm y = nm z)) = some z := by
  induction zs with
  | nil => cases hz
  | cons y ys ih =>
    rw [List.map_cons, List.nodup_cons] at nd
    rw [List.find?_cons]
    by_cases e : nm y = nm z
    · rw [decide_eq_true e]
      rcases List.mem_cons.mp hz with rfl | hz
      · rfl
      · exact absurd (e ▸ List.mem_map_of_mem hz) nd.1
    · rw [decide_eq_false e]
      rcases List.mem_cons.mp hz with rfl | hz
      · exact absurd rfl e
      · exact ih nd.2 hz
end
section
variable {h : Hd} {n : Nat} {kvs : List (Key × D)} {xs : List D}
end
section
variable {h : Hd}
section
variable {α : Type} {f f' : α → D} {nm : α → List Nat}
end
end
end DL
namespace DL
open PySem PySem.Spec L2
section
variable {c : PS} {m : Int}
end
section
variable {l a b : List Nat} {h : Hd}
def cutT (l : List Nat) (lo hi : Option Int) : List Nat := (l.drop (HT.sIx l.length 0 lo)).take (HT.sIx l.length l.length hi - HT.sIx l.length 0 lo)
theorem dSl_T_I {lo hi : Option Int} (hl : l.length ≤ 1000000) : dSl (T l) lo hi h = .ok (T (cutT l lo hi)) h := by
  have q : Str.length ⟨l.toArray⟩ ≤ sizeLine := by rw [len_T]; exact Nat.le_trans hl (by decide +kernel)
  unfold dSl T
  simp only
  rw [if_pos q]
  unfold cutS cutT
  rw [len_T]
theorem cutT_7 : cutT l none (some 7) = l.take 7 := by
  have e1 : HT.sIx l.length 0 none = 0 := rfl
  have e2 : HT.sIx l.length l.length (some 7) = min 7 l.length := by
    unfold HT.sIx
    simp only
    rw [if_neg (by decide)]
    rfl
  unfold cutT
  rw [e1, e2, List.drop_zero, Nat.sub_zero]
  rcases Nat.le_total 7 l.length with q | q
  · rw [Nat.min_eq_left q]
  · rw [Nat.min_eq_right q, List.take_length, List.take_of_length_le q]
theorem dIx_Tn {i : Int} (hl : l.length ≤ 1000000) (h0 : 0 ≤ i) (h1 : i < (l.length : Int)) : ∃ c ∈ l, dIx (T l) (.int i) h = .ok (T [c]) h := by
  obtain ⟨n, rfl⟩ := Int.eq_ofNat_of_zero_le h0
  have hn : n < l.length := by omega
  refine ⟨l[n], List.getElem_mem hn, ?_⟩
  have q : Str.length ⟨l.toArray⟩ ≤ sizeLine := by rw [len_T]; exact Nat.le_trans hl (by decide +kernel)
  show dIx (.str ⟨l.toArray⟩) (.int (n : Int)) h = _
  unfold dIx
  simp only
  rw [if_pos q]
  have e : atI l (n : Int) = some l[n] := by
    unfold atI ixN
    simp [hn]
  rw [e]
  rfl
end
def NmOk (w : List Nat) : Prop := 1 ≤ w.length ∧ w.length ≤ 8 ∧ ∀ c ∈ w, 97 ≤ c ∧ c ≤ 122
class Nm (w : List Nat) : Prop where
  ok : NmOk w
instance tx_nm {w : List Nat} [q : Nm w] : Tx w := ⟨fun c hc => by have := q.ok.2.2 c hc; omega⟩
abbrev AZ : List Nat := [97, 98, 99, 100, 101, 102, 103, 104, 105, 106, 107, 108, 109, 110, 111, 112, 113, 114, 115, 116, 117, 118, 119, 120, 121, 122]
theorem az_mem {c : Nat} (h : c ∈ AZ) : 97 ≤ c ∧ c ≤ 122 := by
  have : ∀ c ∈ AZ, 97 ≤ c ∧ c ≤ 122 := by decide
  exact this c h
section
variable {w : List Nat} {ws : List (List Nat)} {h : Hd} {neg : Bool}
theorem pyAll_T : ∀ ws : List (List Nat), D.pyAll (ws.map T) = some (ws.map fun w => PyData.str ⟨w.toArray⟩)
  | [] => rfl
  | w :: ws => by
    rw [List.map_cons, List.map_cons]
    unfold D.pyAll
    rw [pyAll_T ws]
    rfl
theorem layAll_T : ∀ ws : List (List Nat), (∀ w ∈ ws, Tx w) → PyData.canLayAll0 (ws.map fun w => PyData.str ⟨w.toArray⟩) = true ∧ PyData.depthAll (ws.map fun w => PyData.str ⟨w.toArray⟩) = 0
  | [], _ => ⟨rfl, rfl⟩
  | w :: ws, hw => by
    obtain ⟨i1, i2⟩ := layAll_T ws fun y hy => hw y (by simp [hy])
    have t := hw w (by simp)
    have := shaped_T (a := w)
    unfold SeqAt.shaped at this
    rw [Bool.and_eq_true] at this
    refine ⟨?_, ?_⟩
    · rw [List.map_cons]
      unfold PyData.canLayAll0
      rw [this.1, i1]
      rfl
    · rw [List.map_cons]
      unfold PyData.depthAll
      rw [i2]
      rfl
theorem any_T (ws : List (List Nat)) : ((ws.map fun w => PyData.str ⟨w.toArray⟩).any fun z => PyData.eqv z (.str ⟨w.toArray⟩)) = decide (w ∈ ws) := by
  rw [List.any_map]
  rw [Bool.eq_iff_iff, List.any_eq_true, decide_eq_true_eq]
  constructor
  · rintro ⟨y, hy, e⟩
    have e : (decide ((⟨y.toArray⟩ : Str) = ⟨w.toArray⟩)) = true := by simpa [PyData.eqv] using e
    have := congrArg (fun s : Str => s.cps.toList) (of_decide_eq_true e)
    simp only at this
    rw [← this]
    exact hy
  · intro hw
    exact ⟨w, hw, by simp [PyData.eqv]⟩
theorem shaped_Ts (hw : ∀ w ∈ ws, Tx w) : SeqAt.shaped (.list (ws.map fun w => PyData.str ⟨w.toArray⟩)) = true ∧ SeqAt.shaped (.tuple (ws.map fun w => PyData.str ⟨w.toArray⟩)) = true := by
  obtain ⟨i1, i2⟩ := layAll_T ws hw
  constructor
  · unfold SeqAt.shaped PyData.canLay0 PyData.depth
    rw [i1, i2]
    rfl
  · unfold SeqAt.shaped PyData.canLay0 PyData.depth
    rw [i1, i2]
    rfl
theorem dIn_Tl {n : Nat} [t : Tx w] (hw : ∀ w ∈ ws, Tx w) [q : Ls h n (ws.map T)] : dIn neg (T w) (.ref n) h = .ok (.bl (neg ^^ decide (w ∈ ws))) h := by
  have e : pyH h (T w) = some (.str ⟨w.toArray⟩) := rfl
  have e2 : pyL h (.ref n) = some (ws.map fun w => PyData.str ⟨w.toArray⟩) := by
    unfold pyL
    simp only [lsOf_I, Option.bind_some, pyAll_T]
  unfold dIn
  simp only [e, e2]
  rw [if_pos ⟨shaped_T, (shaped_Ts hw).1⟩, any_T]
def sortN (ws : List (List Nat)) : List (List Nat) := (sortT (ws.map fun w => (⟨w.toArray⟩ : Str))).map fun s => s.cps.toList
theorem sortN_perm : (sortN ws).Perm ws := by
  unfold sortN
  have := (sortT_perm (ws.map fun w => (⟨w.toArray⟩ : Str))).map fun s => s.cps.toList
  rw [List.map_map] at this
  simpa [Function.comp_def] using this
theorem sortN_T : (sortT (ws.map fun w => (⟨w.toArray⟩ : Str))).map D.str = (sortN ws).map T := by
  unfold sortN
  rw [List.map_map]
  exact List.map_congr_left fun s _ => T_str
theorem strsOf_T : ∀ ws : List (List Nat), strsOf (ws.map T) = some (ws.map fun w => (⟨w.toArray⟩ : Str))
  | [] => rfl
  | w :: ws => by
    rw [List.map_cons]
    show (strsOf (ws.map T)).map _ = _
    rw [strsOf_T ws]
    rfl
theorem bSortT_l {n : Nat} [q : Ls h n (ws.map T)] (hl : ws.length < 64) : bSortT [.ref n] h = .ok (.ref h.length) (h ++ [.lst ((sortN ws).map T)]) := by
  have e : dctOf h (.ref n) = none := by unfold dctOf; simp only [q.q]
  unfold bSortT
  simp only [e, lsOf_I, Option.bind_some, strsOf_T]
  rw [if_pos (by rw [List.length_map]; exact hl), sortN_T]
theorem namesOf_dct {α : Type} {f : α → D} {nm : α → List Nat} : ∀ zs : List α, namesOf (dctK nm f zs) = some ((zs.map nm).map fun w => (⟨w.toArray⟩ : Str))
  | [] => rfl
  | z :: zs => by
    show (namesOf (dctK nm f zs)).map _ = _
    rw [namesOf_dct zs]
    rfl
theorem bSortT_d {α : Type} {f : α → D} {nm : α → List Nat} {zs : List α} {n : Nat} [q : Ob h n (.dK (dctK nm f zs))] (hl : zs.length < 64) : bSortT [.ref n] h = .ok (.ref h.length) (h ++ [.lst ((sortN (zs.map nm)).map T)]) := by
  unfold bSortT
  simp only [dct_of, namesOf_dct]
  rw [if_pos (by rw [List.length_map, List.length_map]; exact hl), sortN_T]
end
section
variable {h h' A A1 g : Hd} {n p : Nat} {o u : MO} {c c' : PS} {xs : List D} {kvs : List (Key × D)}
instance (priority := low) ob_ls [q : Ls h n xs] : Ob h n (.lst xs) := ⟨q.q⟩
theorem setHP_I [z : Ne2 p n] : (HP h p c).set n u = HP (h.set n u) p c := by
  unfold HP
  rw [List.set_comm _ _ z.ne]
theorem set_appO_I [q : Ob A n o] : (A ++ g).set n u = A.set n u ++ g := set_app_l q.lt
instance (priority := low) oka_HPg [q : OkA h h'] : OkA (HP h p c) (HP h' p c') := ⟨by rw [HP_len_I, HP_len_I]; exact q.len, fun i o e => by
  unfold HP at *
  by_cases w : p = i
  · subst w
    rw [List.getElem?_set] at e
    split at e
    · split at e
      · cases e; exact .inl HP_lo
      · cases e
    · rename_i w; exact absurd rfl w
  · rw [List.getElem?_set_ne w] at e
    rcases q.ok i o e with z | z
    · exact .inl z
    · exact .inr (by rw [List.getElem?_set_ne w]; exact z)⟩
theorem lo_any {d : D} (hd : D.lo 0 d = true) (n : Nat) : D.lo n d = true := by
  refine D.rec (motive_1 := fun d => D.lo 0 d = true → D.lo n d = true) (motive_2 := fun l => D.loAll 0 l = true → D.loAll n l = true) ?_ ?_ ?_ ?_ ?_ ?_ ?_ ?_ ?_ ?_ ?_ d hd
  · intro _; exact lo_non
  · intro _ _; exact lo_bl
  · intro _ _; exact lo_int
  · intro _ _; exact lo_str
  · intro _ _; unfold D.lo; rfl
  · intro xs ih e; rw [lo_tup] at e ⊢; exact ih e
  · intro xs ih e; rw [lo_rol] at e ⊢; exact ih e
  · intro n e; rw [lo_ref] at e; simp at e
  · intro _ _; unfold D.lo; rfl
  · intro _; exact lo_nil
  · intro x xs i1 i2 e; rw [lo_cons, Bool.and_eq_true] at e ⊢; exact ⟨i1 e.1, i2 e.2⟩
instance (priority := low) oka_set [q : OkA A A1] [z : LwL [] xs] : OkA A (A1.set n (.lst xs)) := ⟨by rw [List.length_set]; exact q.len, fun i o e => by
  by_cases w : n = i
  · subst w
    rw [List.getElem?_set] at e
    split at e
    · split at e
      · cases e
        refine .inl fun m => ?_
        rw [lo_lst]
        exact loAll_of fun x hx => lo_any (z.lo x hx) m
      · cases e
    · rename_i w; exact absurd rfl w
  · rw [List.getElem?_set_ne w] at e
    exact q.ok i o e⟩
end
theorem nodup_len {α : Type} [DecidableEq α] : ∀ {L ws : List α}, L.Nodup → (∀ w ∈ L, w ∈ ws) → L.length ≤ ws.length
  | [], _, _, _ => Nat.zero_le _
  | a :: L, ws, nd, h => by
    rw [List.nodup_cons] at nd
    have ha := h a (by simp)
    have := nodup_len (L := L) (ws := ws.erase a) nd.2 fun w hw => (List.mem_erase_of_ne (fun e => nd.1 (by rw [← e]; exact hw))).mpr (h w (by simp [hw]))
    rw [List.length_erase_of_mem ha] at this
    have := List.length_pos_of_mem ha
    rw [List.length_cons]
    omega
theorem pigeon {L ws : List (List Nat)} (nd : L.Nodup) (hl : ws.length < L.length) : ∃ a r, L.filter (fun w => decide (w ∉ ws)) = a :: r ∧ a ∈ L ∧ a ∉ ws := by
  cases e : L.filter (fun w => decide (w ∉ ws)) with
  | nil =>
    exfalso
    have all : ∀ w ∈ L, w ∈ ws := fun w hw => by
      have := List.filter_eq_nil_iff.mp e w hw
      simpa using this
    have := nodup_len nd all
    omega
  | cons a r =>
    have : a ∈ L.filter (fun w => decide (w ∉ ws)) := by rw [e]; simp
    rw [List.mem_filter] at this
    exact ⟨a, r, rfl, this.1, by simpa using this.2⟩
end DL
namespace DL
open PySem PySem.Spec L2
section
variable {h g : Hd} {n k p : Nat} {o u : MO} {c : PS} {xs : List D}
theorem len_set_I : (h.set n u).length = h.length := List.length_set
variable {α : Type} {f : α → D} {nm : α → List Nat} {zs : List α}
theorem kItm_I [q : Ob h n (.dF (dctK nm f zs))] : (Res.ok (.ref n) h).kItm = .ok (zs.map (fun z => .tup [T (nm z), f z]), fun _ => True) h := by
  rw [kItm_of]
  unfold dctK
  rw [List.map_map]
  rfl
theorem kVal_I [q : Ob h n (.dF (dctK nm f zs))] : (Res.ok (.ref n) h).kVal = .ok (zs.map f, fun _ => True) h := by
  rw [kVal_of]
  unfold dctK
  rw [List.map_map]
  rfl
instance lwk_dct [q : ∀ z, Lw h (f z)] : LwK h (dctK nm f zs) := ⟨fun kv hk => by
  obtain ⟨z, _, rfl⟩ := List.mem_map.mp hk
  exact (q z).lo⟩
theorem dct_len : (dctK nm f zs).length = zs.length := by unfold dctK; rw [List.length_map]
end
structure Tie where
  nm : List Nat
  a : List Nat
  b : List Nat
  rs : List Rq
def RdsD (rs : List Rq) : D := .tup (rs.map QdD)
def TieD (t : Tie) : D := .tup [T t.a, T t.b, RdsD t.rs]
abbrev tiesK (ts : List Tie) : List (Key × D) := dctK Tie.nm TieD ts
theorem valK_I {ts : List Tie} {w : List Nat} : valK (tiesK ts) (kS w) = (ts.find? fun z => decide (z.nm = w)).map TieD := valK_dct
section
variable {h : Hd} {t : Tie} {q : Rq} {rs : List Rq}
instance lw_QdN {q : Rq} : Lw h (QdD q) := ⟨by
  show D.lo _ (.tup [FQ _, FQ _, FQ _, FQ _]) = true
  rw [lo_tup, lo_cons, lo_cons, lo_cons, lo_cons, lo_nil, lo_FQ, lo_FQ, lo_FQ, lo_FQ]
  rfl⟩
instance lw_Rds : Lw h (RdsD rs) := ⟨by
  show D.lo _ (.tup _) = true
  rw [lo_tup]
  exact loAll_of fun x hx => by
    obtain ⟨q, _, rfl⟩ := List.mem_map.mp hx
    exact lw_QdN.lo⟩
instance lw_Tie : Lw h (TieD t) := ⟨by
  show D.lo _ (.tup [T _, T _, RdsD _]) = true
  rw [lo_tup, lo_cons, lo_cons, lo_cons, lo_nil, lo_T, lo_T, lw_Rds.lo]
  rfl⟩
theorem dIx_Tie0_I : dIx (TieD t) (.int 0) h = .ok (T t.a) h := rfl
theorem dIx_Tie1_I : dIx (TieD t) (.int 1) h = .ok (T t.b) h := rfl
theorem dIx_Tie2_I : dIx (TieD t) (.int 2) h = .ok (RdsD t.rs) h := rfl
theorem gT_Tie_I {gs : GMs} {s : Sl} : gT 3 gs (TieD t) s h = gs [T t.a, T t.b, RdsD t.rs] s h := rfl
theorem iSeq_Rds_I : iSeq (RdsD rs) h = .ok (rs.map QdD, fun _ => True) h := rfl
end
theorem news_closed {h' : Hd} {n : Nat} : ∀ (js acc : List Nat) (f : Nat), (∀ j ∈ js, ∃ o, h'[j]? = some o ∧ MO.lo 0 o = true) → (acc ++ js).Nodup → js.length < f → news h' n f js acc = acc ++ js
  | [], acc, f, _, _, hf => by
    obtain ⟨f, rfl⟩ : ∃ k, f = k + 1 := ⟨f - 1, by simp at hf; omega⟩
    unfold news
    simp
  | j :: js, acc, f, hc, nd, hf => by
    obtain ⟨f, rfl⟩ : ∃ k, f = k + 1 := ⟨f - 1, by simp at hf; omega⟩
    obtain ⟨o, ho, lo⟩ := hc j (by simp)
    have hn : acc.contains j = false := by
      rw [List.contains_eq_mem, decide_eq_false_iff_not]
      intro hj
      exact (List.nodup_append.mp nd).2.2 _ hj _ List.mem_cons_self rfl
    unfold news
    rw [hn, if_neg (by simp), ho]
    simp only [Option.map_some, Option.getD_some, (cl_mo lo).1]
    rw [show newR n [] = [] from rfl, List.nil_append, news_closed js (acc ++ [j]) f (fun i hi => hc i (by simp [hi])) (by rw [List.append_assoc]; exact nd) (by simp at hf; omega), List.append_assoc]
    rfl
theorem gcT_cl {h h' H : Hd} {d d' : D} (js : List Nat) (ok : OkBelow h h') (hr : newR h.length d.refs = js) (nd : js.Nodup) (hl : js.length < 1000) (hc : ∀ j ∈ js, h.length ≤ j ∧ ∃ o, h'[j]? = some o ∧ MO.lo 0 o = true) (inn : d.inn h.length js = true)
    (hd : d.ren (rn h.length js) = d') (hH : h'.take h.length ++ js.map (fun j => (h'[j]?).getD (.lst [])) = H) : gcT h d h' = .ok d' H := by
  refine gcT_of js ok ?_ nd (fun j hj => ?_) inn hd ?_
  · unfold newsD
    rw [hr]
    exact news_closed js [] 1000 (fun j hj => (hc j hj).2) nd hl
  · obtain ⟨h1, o, h2, h3⟩ := hc j hj
    exact ⟨h1, o, h2, (cl_mo h3).2.2 _ _⟩
  · unfold keepH
    rw [← hH]
    congr 1
    refine List.map_congr_left fun j hj => ?_
    obtain ⟨h1, o, h2, h3⟩ := hc j hj
    rw [h2, Option.getD_some]
    exact (cl_mo h3).2.1 _
theorem okb_tail {h g : Hd} : OkBelow h (h ++ g) := fun i o hi e => .inr (by rw [List.getElem?_append_left hi] at e; exact e)
theorem gcT_net {h : Hd} {x w : D} {o : MO} (l1 : Lw ([] : Hd) x) (l2 : Lw ([] : Hd) w) (lo : MO.lo 0 o = true) : gcT h (.tup [x, w, .ref h.length]) (h ++ [o]) = .ok (.tup [x, w, .ref h.length]) (h ++ [o]) := by
  refine gcT_cl [h.length] okb_tail ?_ (by simp) (by simp) (fun j hj => ?_) ?_ ?_ ?_
  · simp only [D.refs, D.refsAll, cl_refs l1.lo, cl_refs l2.lo, List.nil_append, List.append_nil]
    simp [newR]
  · rw [List.mem_singleton.mp hj]
    exact ⟨Nat.le_refl _, o, by simp, lo⟩
  · simp only [D.inn, D.innAll, cl_inn l1.lo, cl_inn l2.lo]
    simp
  · simp only [D.ren, D.renAll, cl_ren l1.lo, cl_ren l2.lo, rn]
    simp
  · simp
theorem kLc_st {σ α β : Type} {emb : α → D} {f : β → D} {g : GM} {t : TM} {e : EM} {vs : List Nat} {s : Sl} {xs : List α} {chk : Hd → Prop} {n : Nat} (G : σ → Hd) (I : List α → σ → List β → Prop) {st0 : σ} (i0 : I [] st0 []) (hn : ∀ st, (G st).length = n) (hc : ∀ pre st ys, I pre st ys → chk (G st ++ [.lst (ys.map f)])) (hl : xs.length < 1000000)
    (he : ∀ pre x post st ys, xs = pre ++ x :: post → I pre st ys → ∃ s1, g (emb x) (wipeD s vs) (G st ++ [.lst (ys.map f)]) = .ok s1 (G st ++ [.lst (ys.map f)]) ∧ ((∃ st1, t s1 (G st ++ [.lst (ys.map f)]) = .ok false (G st1 ++ [.lst (ys.map f)]) ∧ I (pre ++ [x]) st1 ys) ∨
      ∃ st1 st2 y, t s1 (G st ++ [.lst (ys.map f)]) = .ok true (G st1 ++ [.lst (ys.map f)]) ∧ e s1 (G st1 ++ [.lst (ys.map f)]) = .ok (f y) (G st2 ++ [.lst (ys.map f)]) ∧ I (pre ++ [x]) st2 (ys ++ [y]))) :
    ∃ (ys : List β) (st : σ), I xs st ys ∧ (Res.ok (xs.map emb, chk) (G st0)).kLc g t e vs s = .ok (.ref n) (G st ++ [.lst (ys.map f)]) := by
  have key : ∀ (zs pre : List α) (st : σ) (ys : List β), xs = pre ++ zs → ys.length ≤ pre.length → I pre st ys → ∃ (ys2 : List β) (st2 : σ), I xs st2 ys2 ∧ lcD chk g t e vs n s (zs.map emb) (G st ++ [.lst (ys.map f)]) = .ok () (G st2 ++ [.lst (ys2.map f)]) := by
    intro zs
    induction zs with
    | nil =>
      intro pre st ys ex hl2 i
      rw [List.append_nil] at ex
      subst ex
      refine ⟨ys, st, i, ?_⟩
      rw [List.map_nil]
      unfold lcD
      rw [if_pos (hc _ st ys i)]
    | cons x zs ih =>
      intro pre st ys ex hl2 i
      obtain ⟨s1, e1, q⟩ := he pre x zs st ys ex i
      have lx := congrArg List.length ex
      rw [List.length_append, List.length_cons] at lx
      rw [List.map_cons]
      unfold lcD
      rw [if_pos (hc _ st ys i), e1]
      simp only
      rcases q with ⟨st1, e2, i2⟩ | ⟨st1, st2, y, e2, e3, i2⟩
      · rw [e2, Res.bind_ok, if_neg (by simp)]
        exact ih (pre ++ [x]) st1 ys (by rw [ex, List.append_assoc]; rfl) (by rw [List.length_append]; simp; omega) i2
      · rw [e2, Res.bind_ok, if_pos rfl, e3, Res.bind_ok, appD_mid (hn st2) (by rw [List.length_map]; omega), Res.bind_ok]
        have := ih (pre ++ [x]) st2 (ys ++ [y]) (by rw [ex, List.append_assoc]; rfl) (by rw [List.length_append, List.length_append]; simp; omega) i2
        rw [List.map_append] at this
        exact this
  obtain ⟨ys, st, i, ek⟩ := key xs [] st0 [] rfl (Nat.le_refl _) i0
  refine ⟨ys, st, i, ?_⟩
  show (lcD chk g t e vs (G st0).length s (xs.map emb) (G st0 ++ [.lst []])).bind _ = _
  rw [hn st0]
  rw [List.map_nil] at ek
  rw [ek, Res.bind_ok]
theorem at_idx {α : Type} {L : List α} {f : α → D} {i : Int} (h0 : 0 ≤ i) (h1 : i < (L.length : Int)) : ∃ hi : i.toNat < L.length, atI (L.map f) i = some (f L[i.toNat]) := by
  obtain ⟨n, rfl⟩ := Int.eq_ofNat_of_zero_le h0
  have hn : n < L.length := by omega
  refine ⟨by omega, ?_⟩
  rw [at_nat (by rw [List.length_map]; exact hn)]
  simp
theorem idx_ne {α : Type} {L : List α} {i j : Nat} (nd : L.Nodup) (hi : i < L.length) (hj : j < L.length) (h : i ≠ j) : L[i] ≠ L[j] := by
  rw [List.nodup_iff_pairwise_ne, List.pairwise_iff_getElem] at nd
  rcases Nat.lt_or_gt_of_ne h with q | q
  · exact nd i j hi hj q
  · exact fun e => nd j i hj hi q e.symm
section
variable {d : D} {f : Nat → Nat} {n : Nat} {js : List Nat} {h : Hd} {m k p : Nat} {o : MO} {c : PS}
theorem refs_cl [q : Lw ([] : Hd) d] : D.refs d = [] := cl_refs q.lo
theorem ren_cl [q : Lw ([] : Hd) d] : D.ren f d = d := cl_ren q.lo
theorem inn_cl [q : Lw ([] : Hd) d] : D.inn n js d = true := cl_inn q.lo
theorem cl_dK {kvs : List (Key × D)} [q : LwK ([] : Hd) kvs] : MO.lo 0 (.dK kvs) = true := LwK.mo (h := [])
theorem get_HPk {g : Hd} : (HP h p c ++ g)[h.length + k]? = g[k]? := by
  have := get_at (h := HP h p c) (g := g) (k := k)
  rw [HP_len_I] at this
  exact this
theorem newR_cons {l : List Nat} {j : Nat} : newR n (j :: l) = if n ≤ j then j :: newR n l else newR n l := by
  unfold newR
  rw [List.filter_cons]
  simp
theorem newR_nil : newR n [] = [] := rfl
theorem take_HP {g : Hd} : (HP h p c ++ g).take h.length = HP h p c := by
  rw [List.take_append_of_le_length (by rw [HP_len_I]; exact Nat.le_refl _), List.take_of_length_le (by rw [HP_len_I]; exact Nat.le_refl _)]
end
theorem refsAll_T {ws : List (List Nat)} : D.refsAll (ws.map T) = [] := by
  have := refs_cl (d := .tup (ws.map T))
  unfold D.refs at this
  exact this
theorem renAll_T {ws : List (List Nat)} {f : Nat → Nat} : D.renAll f (ws.map T) = ws.map T := by
  have := ren_cl (d := .tup (ws.map T)) (f := f)
  unfold D.ren at this
  exact D.tup.inj this
theorem innAll_T {ws : List (List Nat)} {n : Nat} {js : List Nat} : D.innAll n js (ws.map T) = true := by
  have := inn_cl (d := .tup (ws.map T)) (n := n) (js := js)
  unfold D.inn at this
  exact this
theorem omap_I {α β : Type} {f : α → β} {a : α} : (some a).map f = some (f a) := rfl
section
variable {h : Hd} {n m : Nat} {x w : D} {ts : List Tie}
end
theorem isi_tup_I {xs : List D} {h : Hd} : bIsi [.tup xs, .ty "tuple"] h = .ok (.bl true) h := rfl
theorem gcS0_I {s : Sl} {H : Hd} [q : SlLo [] s] : (SR.nx s H).gcS [] = .nx s [] := by
  unfold SR.gcS
  simp only
  rw [if_pos ⟨fun i o hi => absurd hi (by simp), q.lo⟩]
  rfl
end DL
namespace DL
open PySem PySem.Spec L2
theorem div_le {d a b : Int} (hd : 1 ≤ d) (h : a ≤ b) : Rat.divInt a d ≤ Rat.divInt b d := by
  rw [Rat.divInt_eq_div, Rat.divInt_eq_div]
  have : (a : Rat) ≤ (b : Rat) := Rat.intCast_le_intCast.mpr h
  have hd' := cast_pos (show 0 < d by omega)
  refine Rat.not_lt.mp fun w => ?_
  rw [div_lt_iff' hd'] at w
  exact absurd w (Rat.not_lt.mpr this)
section
variable {β : Type} {g : β → D} {zs : List (List Nat × β)} {w : List Nat} {c : β}
def getP (zs : List (List Nat × β)) (w : List Nat) : Option β := (zs.find? fun p => decide (p.1 = w)).map (·.2)
end
abbrev Tie.G (t : Tie) : Rat → Option Rat := waitG t.rs
theorem loAll_mem {n : Nat} {x : D} : ∀ {xs : List D}, D.loAll n xs = true → x ∈ xs → D.lo n x = true
  | [], _, h => by cases h
  | y :: xs, e, h => by
    rw [lo_cons, Bool.and_eq_true] at e
    rcases List.mem_cons.mp h with rfl | h
    · exact e.1
    · exact loAll_mem e.2 h
theorem gcS_keepL {A h g : Hd} {s : Sl} {n : Nat} {xs : List D} (hs : some (D.ref n) ∈ s) (q : (h ++ g)[n]? = some (.lst xs)) (hl : h.length ≤ A.length) : ∃ g', (SR.nx s (h ++ g)).gcS A = .nx s (h ++ g') ∧ (h ++ g')[n]? = some (.lst xs) := by
  unfold SR.gcS
  simp only
  split
  · rename_i w
    have lo := w.2 _ hs
    rw [lo_ref, decide_eq_true_eq] at lo
    have e1 : (h ++ g).take A.length = h ++ g.take (A.length - h.length) := by rw [List.take_append, List.take_of_length_le hl]
    refine ⟨g.take (A.length - h.length), by rw [e1], ?_⟩
    rw [← e1, List.getElem?_take_of_lt lo]
    exact q
  · exact ⟨g, rfl, q⟩
theorem isi_dict_I {h : Hd} {n : Nat} {kvs : List (Key × D)} [q : Ob h n (.dK kvs)] : bIsi [.ref n, .ty "dict"] h = .ok (.bl true) h := by
  unfold bIsi ty0
  simp only [q.q]
  rfl
end DL
namespace DL
open PySem PySem.Spec L2
abbrev Pl := List Nat
structure Arc where
  a : Pl
  b : Pl
  L : Rat → Option Rat
abbrev Fm := Pl → Option Rat
section
variable {le : Rat → Rat → Prop} {As : List Arc} {g : Pl} {m : Rat} {n : Nat} {f f' f'' : Fm} {A : Arc}
end
end DL
namespace DL
open PySem PySem.Spec L2
section
variable {ws : List (List Nat)} {t : Tie} {x y s : Rat}
end
end DL
namespace DL
open PySem PySem.Spec L2
section
variable {ts : List Tie} {ws P : List Pl} {g : Pl} {mo : Rat} {m : Nat}
abbrev PapS := List (Pl × (Rat × Pl))
def tiesBy (ts : List Tie) (ns : List Pl) : List Tie := ns.filterMap fun w => ts.find? fun t => decide (t.nm = w)
theorem tiesBy_nm : ∀ {ns : List Pl}, (∀ w ∈ ns, w ∈ ts.map Tie.nm) → (ts.map Tie.nm).Nodup → (tiesBy ts ns).map Tie.nm = ns
  | [], _, _ => rfl
  | w :: ns, h, nd => by
    obtain ⟨t, ht, rfl⟩ := List.mem_map.mp (h w (by simp))
    unfold tiesBy
    rw [List.filterMap_cons, find_mem nd ht, List.map_cons]
    exact congrArg _ (tiesBy_nm (fun v hv => h v (by simp [hv])) nd)
theorem tiesBy_mem {ns : List Pl} {t : Tie} (h : t ∈ tiesBy ts ns) : t ∈ ts := by
  obtain ⟨w, _, hw⟩ := List.mem_filterMap.mp h
  exact List.mem_of_find?_eq_some hw
end
end DL
namespace DL
open PySem PySem.Spec L2
def Res.kC3 (r : Res D) (g' : D → D → M D) (y : D) (c : EM) (s : Sl) : Res D := r.bind (kCh g' y c s)
def Res.kC2 (r : Res D) (g g' : D → D → M D) (x : D) (c : EM) (s : Sl) : Res D := r.bind fun y h2 => (g x y h2).kC3 g' y c s
def Res.kC1 (r : Res D) (g g' : D → D → M D) (b c : EM) (s : Sl) : Res D := r.bind fun x h1 => (b s h1).kC2 g g' x c s
section
variable {g g' : D → D → M D} {a b c : EM} {s : Sl} {h : Hd} {x y : D}
theorem ev_Ch_I : eCh g g' a b c s h = (a s h).kC1 g g' b c s := rfl
theorem kC1_I : (Res.ok x h).kC1 g g' b c s = (b s h).kC2 g g' x c s := rfl
theorem kC2_I : (Res.ok y h).kC2 g g' x c s = (g x y h).kC3 g' y c s := rfl
theorem kC3t_I : (Res.ok (.bl true) h).kC3 g' y c s = (c s h).b1 g' y := rfl
end
end DL
namespace DL
open PySem PySem.Spec L2
section
variable {ts : List Tie} {ws P : List Pl} {g : Pl} {mo : Rat} {m : Nat} {b : PapS}
end
end DL
namespace DL
open PySem PySem.Spec L2
section
variable {ts : List Tie} {ws P : List Pl} {g : Pl} {mo : Rat} {m : Nat} {b : PapS} {t : Tie}
end
end DL
namespace DL
open PySem PySem.Spec L2
theorem fr_az {c : Nat} (h1 : 97 ≤ c) (h2 : c ≤ 122) : c ∈ ([97, 98, 99, 100, 101, 102, 103, 104, 105, 106, 107, 108, 109, 110, 111, 112, 113, 114, 115, 116, 117, 118, 119, 120, 121, 122] : List Nat) := by
  have : ∀ d : Fin 26, 97 + d.val ∈ ([97, 98, 99, 100, 101, 102, 103, 104, 105, 106, 107, 108, 109, 110, 111, 112, 113, 114, 115, 116, 117, 118, 119, 120, 121, 122] : List Nat) := by decide
  have h := this ⟨c - 97, by omega⟩
  rwa [show 97 + (c - 97) = c by omega] at h
theorem is_T_I {neg : Bool} {w : Pl} {h : Hd} : isD neg (T w) .non h = .ok (.bl (neg ^^ false)) h := rfl
end DL
namespace DL
open PySem PySem.Spec L2
section
variable {ts S : List Tie} {ws P : List Pl} {bef fnd b : List (Pl × Rat)} {t : Tie} {p q st : Pl} {mo x y z : Rat} {n k : Nat}
end
end DL
namespace DL
open PySem PySem.Spec PyProof.Rows L2
theorem sg_chr (c : Char) : c.toNat < 1114112 := by
  have h1 : c.toNat.isValidChar := c.valid
  unfold Nat.isValidChar at h1
  omega
theorem sg_rc {q c : Nat} (hq : q < 1114112) (hc : c < 1114112) : ∀ d ∈ Builtin.Str.reprChar q c, d < 1114112 := by
  have hx : ∀ (l : List Nat), (∀ d ∈ l, d < 1114112) → ∀ w, ∀ d ∈ l ++ (List.replicate w 48 ++ (Nat.toDigits 16 c).map Char.toNat), d < 1114112 := fun l hl w d hd => by
    rcases List.mem_append.mp hd with h | h
    · exact hl d h
    · rcases List.mem_append.mp h with h | h
      · rw [List.eq_of_mem_replicate h]
        decide
      · obtain ⟨x, _, rfl⟩ := List.mem_map.mp h
        exact sg_chr x
  intro d hd
  unfold Builtin.Str.reprChar at hd
  simp only at hd
  have two : ∀ a b : Nat, a < 1114112 → b < 1114112 → d ∈ [a, b] → d < 1114112 := fun a b h1 h2 h => by
    simp only [List.mem_cons, List.not_mem_nil, or_false] at h
    rcases h with rfl | rfl
    · exact h1
    · exact h2
  split at hd
  · exact two _ _ (by decide) hc hd
  · split at hd
    · exact two _ _ (by decide) (by decide) hd
    · split at hd
      · exact two _ _ (by decide) (by decide) hd
      · split at hd
        · exact two _ _ (by decide) (by decide) hd
        · split at hd
          · rw [List.mem_singleton.mp hd]
            exact hc
          · split at hd
            · exact hx [92, 120] (by decide) _ d hd
            · split at hd
              · exact hx [92, 117] (by decide) _ d hd
              · exact hx [92, 85] (by decide) _ d hd
theorem sg_rt {x : Str} (h : SgOk x) : SgOk (reprText x) := by
  have hq : reprQuote x < 1114112 := by
    unfold reprQuote
    split <;> decide
  have key : ∀ (l : List Nat) (acc : Array Nat), (∀ c ∈ l, c < 1114112) → (∀ c ∈ acc.toList, c < 1114112) → ∀ d ∈ (l.foldl (fun out c => out ++ (Builtin.Str.reprChar (reprQuote x) c).toArray) acc).toList, d < 1114112 := by
    intro l
    induction l with
    | nil => exact fun acc _ h d hd => h d hd
    | cons c l ih =>
      intro acc h1 h2
      refine ih _ (fun e he => h1 e (by simp [he])) fun d hd => ?_
      rw [Array.toList_append] at hd
      rcases List.mem_append.mp hd with hd | hd
      · exact h2 d hd
      · exact sg_rc hq (h1 c (by simp)) d hd
  intro d hd
  unfold reprText at hd
  simp only [Array.toList_push, List.mem_append, List.mem_singleton] at hd
  rcases hd with hd | rfl
  · rw [← Array.foldl_toList] at hd
    exact key _ _ h (fun c hc => by
      simp only [List.mem_singleton] at hc
      rw [hc]
      exact hq) d hd
  · exact hq
inductive Rw : Bool → PyData → Nat → Nat → Prop
  | non {κ : Bool} {n : Nat} : Rw κ .none 8 n
  | bl {κ : Bool} {n : Nat} (b : Bool) : Rw κ (.bool b) 8 n
  | int {κ : Bool} {n k : Nat} {i : Int} : Sz k i → k ≤ 1900 → Rw κ (.int i) (k + 6) n
  | str {κ : Bool} {n : Nat} {l : List Nat} : Tx l → Rw κ (.str ⟨l.toArray⟩) (10 * l.length + 2) n
  | tup {κ : Bool} {n w c : Nat} {ps : List PyData} : (∀ p, p ∈ ps → Rw κ p w n) → ps.length ≤ c → Rw κ (.tuple ps) (c * (w + 2) + 3) (n + 1)
  | lst {n w c : Nat} {ps : List PyData} : (∀ p, p ∈ ps → Rw false p w n) → ps.length ≤ c → Rw false (.list ps) (c * (w + 2) + 3) (n + 1)
  | dic {n w v c : Nat} {ps : List (PyData × PyData)} : (∀ p, p ∈ ps → Rw true p.1 w n) → (∀ p, p ∈ ps → Rw true p.2 v n) → ps.length ≤ c → Rw true (.dict ps) (c * (w + v + 4) + 2) (n + 1)
  | up {κ : Bool} {n m w v : Nat} {p : PyData} : Rw κ p w n → w ≤ v → n ≤ m → Rw κ p v m
theorem Tx.sg {l : List Nat} (t : Tx l) : SgOk ⟨l.toArray⟩ := fun c hc => t.ok c (by simpa using hc)
theorem sum_le {α : Type} {f : α → Nat} {w : Nat} : ∀ {l : List α}, (∀ x ∈ l, f x ≤ w) → (l.map f).sum ≤ l.length * w
  | [], _ => by simp
  | x :: l, h => by
    have := sum_le (f := f) (w := w) (l := l) fun y hy => h y (by simp [hy])
    have h1 := h x (by simp)
    rw [List.map_cons, List.sum_cons, List.length_cons, Nat.succ_mul]
    omega
theorem rw_all {n w : Nat} : ∀ {ps : List PyData}, (∀ p ∈ ps, p.showable = true ∧ p.depth ≤ n ∧ p.shown.length ≤ w ∧ SgOk p.shown) → PyData.showableAll ps = true ∧ PyData.depthAll ps ≤ n ∧ (∀ t ∈ PyData.shownAll ps, t.length ≤ w ∧ SgOk t) ∧ (PyData.shownAll ps).length = ps.length
  | [], _ => ⟨rfl, by simp [PyData.depthAll], by simp [PyData.shownAll], by simp [PyData.shownAll]⟩
  | p :: ps, h => by
    obtain ⟨a1, a2, a3, a4⟩ := h p (by simp)
    obtain ⟨b1, b2, b3, b4⟩ := rw_all (ps := ps) fun q hq => h q (by simp [hq])
    refine ⟨by simp only [PyData.showableAll, a1, b1, Bool.and_self], by simp only [PyData.depthAll]; omega, fun t ht => ?_, by simp only [PyData.shownAll, List.length_cons, b4]⟩
    simp only [PyData.shownAll, List.mem_cons] at ht
    rcases ht with rfl | ht
    · exact ⟨a3, a4⟩
    · exact b3 t ht
theorem tt_len {ts : List Str} {w c : Nat} (h : ∀ t ∈ ts, t.length ≤ w) (hl : ts.length ≤ c) : (tupleText ts).length ≤ c * (w + 2) + 3 := by
  unfold tupleText
  have j := StrLaws.join_length_le (", " : Str) ts
  have l1 : (("(" : String) : Str).length = 1 := rfl
  have l2 : ((", " : String) : Str).length = 2 := rfl
  have l3 : (((if ts.length == 1 then ",)" else ")" : String)) : Str).length ≤ 2 := by split <;> decide
  have s := sum_le (f := fun t : Str => t.length) h
  rw [strLen_append, strLen_append, l1]
  rw [l2] at j
  have m : ts.length * (w + 2) ≤ c * (w + 2) := Nat.mul_le_mul_right _ hl
  rw [Nat.mul_add] at m
  omega
theorem lsT_len {ts : List Str} {w c : Nat} (h : ∀ t ∈ ts, t.length ≤ w) (hl : ts.length ≤ c) : (listText ts).length ≤ c * (w + 2) + 3 := by
  unfold listText
  have j := textFrom_len_le ts 0 ("[" : Str)
  have l1 : (("[" : String) : Str).length = 1 := rfl
  have l2 : (("]" : String) : Str).length = 1 := rfl
  have s := sum_le (f := fun t : Str => t.length) h
  rw [strLen_append, l2]
  rw [l1] at j
  have m : ts.length * (w + 2) ≤ c * (w + 2) := Nat.mul_le_mul_right _ hl
  rw [Nat.mul_add] at m
  omega
theorem sg_tt {ts : List Str} (h : ∀ t ∈ ts, SgOk t) : SgOk (tupleText ts) := by
  unfold tupleText
  exact sg_app (sg_app (sg_str _) (sg_join (sg_str _) _ h)) (sg_str _)
theorem sg_lt {ts : List Str} (h : ∀ t ∈ ts, SgOk t) : SgOk (listText ts) := by
  have key : ∀ (ts : List Str) (k : Nat) (acc : Str), SgOk acc → (∀ t ∈ ts, SgOk t) → SgOk (textFrom k acc ts) := by
    intro ts
    induction ts with
    | nil => exact fun _ _ h _ => h
    | cons t ts ih => exact fun k acc h1 h2 => ih _ _ (sg_app (sg_app h1 (sg_str _)) (h2 t (by simp))) fun u hu => h2 u (by simp [hu])
  exact sg_app (key ts 0 _ (sg_str _) h) (sg_str _)
theorem rw_kv {n w v : Nat} : ∀ {ps : List (PyData × PyData)}, (∀ p ∈ ps, p.1.showable = true ∧ p.1.depth ≤ n ∧ p.1.shown.length ≤ w ∧ SgOk p.1.shown) → (∀ p ∈ ps, p.2.showable = true ∧ p.2.depth ≤ n ∧ p.2.shown.length ≤ v ∧ SgOk p.2.shown) →
    PyData.showableKv ps = true ∧ PyData.depthKv ps ≤ n ∧ (∀ t ∈ PyData.shownKv ps, t.length ≤ w + v + 2 ∧ SgOk t) ∧ (PyData.shownKv ps).length = ps.length
  | [], _, _ => ⟨rfl, by simp [PyData.depthKv], by simp [PyData.shownKv], by simp [PyData.shownKv]⟩
  | (k, p) :: ps, h, g => by
    obtain ⟨a1, a2, a3, a4⟩ := h (k, p) (by simp)
    obtain ⟨c1, c2, c3, c4⟩ := g (k, p) (by simp)
    obtain ⟨b1, b2, b3, b4⟩ := rw_kv (ps := ps) (fun q hq => h q (by simp [hq])) fun q hq => g q (by simp [hq])
    simp only at a1 a2 a3 a4 c1 c2 c3 c4
    refine ⟨by simp only [PyData.showableKv, a1, b1, c1, Bool.and_self], by simp only [PyData.depthKv]; omega, fun t ht => ?_, by simp only [PyData.shownKv, List.length_cons, b4]⟩
    simp only [PyData.shownKv, List.mem_cons] at ht
    rcases ht with rfl | ht
    · have l2 : ((": " : String) : Str).length = 2 := rfl
      exact ⟨by rw [strLen_append, strLen_append, l2]; omega, sg_app (sg_app a4 (sg_str _)) c4⟩
    · exact b3 t ht
theorem Rw.ok {κ : Bool} {p : PyData} {w n : Nat} (r : Rw κ p w n) : p.showable = true ∧ p.depth ≤ n ∧ p.shown.length ≤ w ∧ SgOk p.shown := by
  induction r with
  | non => exact ⟨rfl, by simp [PyData.depth], by simp only [PyData.shown]; decide, by simp only [PyData.shown]; exact sg_str _⟩
  | bl b => exact ⟨rfl, by simp [PyData.depth], by simp only [PyData.shown]; cases b <;> decide, by simp only [PyData.shown]; cases b <;> exact sg_str _⟩
  | int z hk =>
    refine ⟨?_, by simp [PyData.depth], ?_, ?_⟩
    · simp only [PyData.showable, decide_eq_true_eq]
      have := Sz.log z
      omega
    · simp only [PyData.shown]
      exact toStr_len z
    · simp only [PyData.shown]
      exact sg_str _
  | @str κ n l t =>
    refine ⟨rfl, by simp [PyData.depth], ?_, ?_⟩
    · simp only [PyData.shown]
      have := StrLaws.reprText_len ⟨l.toArray⟩ (fun c hc => Nat.lt_trans (t.sg c hc) (by decide))
      exact Nat.le_trans this (by unfold Str.length; simp)
    · simp only [PyData.shown]
      exact sg_rt t.sg
  | tup _ hl ih =>
    obtain ⟨b1, b2, b3, b4⟩ := rw_all ih
    exact ⟨by simp only [PyData.showable, b1], by simp only [PyData.depth]; omega, by simp only [PyData.shown]; exact tt_len (fun t ht => (b3 t ht).1) (by omega), by simp only [PyData.shown]; exact sg_tt fun t ht => (b3 t ht).2⟩
  | lst _ hl ih =>
    obtain ⟨b1, b2, b3, b4⟩ := rw_all ih
    exact ⟨by simp only [PyData.showable, b1], by simp only [PyData.depth]; omega, by simp only [PyData.shown]; exact lsT_len (fun t ht => (b3 t ht).1) (by omega), by simp only [PyData.shown]; exact sg_lt fun t ht => (b3 t ht).2⟩
  | @dic n w v c ps _ _ hl ih1 ih2 =>
    obtain ⟨b1, b2, b3, b4⟩ := rw_kv ih1 ih2
    refine ⟨by simp only [PyData.showable, b1], by simp only [PyData.depth]; omega, ?_, ?_⟩
    · simp only [PyData.shown]
      unfold dictText
      have j := StrLaws.join_length_le (", " : Str) (PyData.shownKv ps)
      have l1 : (("{" : String) : Str).length = 1 := rfl
      have l2 : ((", " : String) : Str).length = 2 := rfl
      have l3 : (("}" : String) : Str).length = 1 := rfl
      have s := sum_le (f := fun t : Str => t.length) (fun t ht => (b3 t ht).1)
      rw [strLen_append, strLen_append, l1, l3]
      rw [l2] at j
      have m : (PyData.shownKv ps).length * (w + v + 4) ≤ c * (w + v + 4) := Nat.mul_le_mul_right _ (by omega)
      rw [show (PyData.shownKv ps).length * (w + v + 4) = (PyData.shownKv ps).length * (w + v + 2) + (PyData.shownKv ps).length * 2 by rw [← Nat.mul_add]] at m
      omega
    · simp only [PyData.shown]
      unfold dictText
      exact sg_app (sg_app (sg_str _) (sg_join (sg_str _) _ fun t ht => (b3 t ht).2)) (sg_str _)
  | up _ hw hn ih => exact ⟨ih.1, Nat.le_trans ih.2.1 hn, Nat.le_trans ih.2.2.1 hw, ih.2.2.2⟩
theorem noLs_all : ∀ {ps : List PyData}, (∀ p ∈ ps, noL p = true) → noLs ps = true
  | [], _ => by simp [noLs]
  | p :: ps, h => by
    simp only [noLs, h p (by simp), noLs_all (ps := ps) fun q hq => h q (by simp [hq]), Bool.and_self]
theorem noLk_all : ∀ {ps : List (PyData × PyData)}, (∀ p ∈ ps, noL p.2 = true) → noLk ps = true
  | [], _ => by simp [noLk]
  | p :: ps, h => by
    simp only [noLk, h p (by simp), noLk_all (ps := ps) fun q hq => h q (by simp [hq]), Bool.and_self]
theorem noD_all : ∀ {ps : List PyData}, (∀ p ∈ ps, p.hasDict = false) → PyData.hasDictAll ps = false
  | [], _ => by simp [PyData.hasDictAll]
  | p :: ps, h => by
    simp only [PyData.hasDictAll, h p (by simp), noD_all (ps := ps) fun q hq => h q (by simp [hq]), Bool.or_self]
theorem Rw.kind {κ : Bool} {p : PyData} {w n : Nat} (r : Rw κ p w n) : (κ = true → noL p = true) ∧ (κ = false → p.hasDict = false) := by
  induction r with
  | non => exact ⟨fun _ => by simp [noL], fun _ => rfl⟩
  | bl b => exact ⟨fun _ => by simp [noL], fun _ => rfl⟩
  | int => exact ⟨fun _ => by simp [noL], fun _ => rfl⟩
  | str => exact ⟨fun _ => by simp [noL], fun _ => rfl⟩
  | tup _ hl ih => exact ⟨fun e => by simp only [noL]; exact noLs_all fun p hp => (ih p hp).1 e, fun e => by simp only [PyData.hasDict]; exact noD_all fun p hp => (ih p hp).2 e⟩
  | lst _ hl ih => exact ⟨(fun e => by cases e), fun e => by simp only [PyData.hasDict]; exact noD_all fun p hp => (ih p hp).2 e⟩
  | dic _ _ hl ih1 ih2 => exact ⟨fun e => by simp only [noL]; exact noLk_all fun p hp => (ih2 p hp).1 e, (fun e => by cases e)⟩
  | up _ _ _ ih => exact ih
theorem noT_of {p : PyData} (h : noL p = true) : noT p = true := by
  cases p with
  | list xs => simp [noL] at h
  | _ => exact h
theorem Rw.okP {κ : Bool} {p : PyData} {w n : Nat} (r : Rw κ p w n) (hw : w ≤ 1000000) (hn : n ≤ 60) : OkP p := by
  obtain ⟨a, b, c, _⟩ := r.ok
  refine ⟨a, by omega, Nat.le_trans (Nat.le_trans c hw) (by decide), ?_⟩
  cases κ with
  | true => exact .inr (noT_of (r.kind.1 rfl))
  | false => exact .inl (r.kind.2 rfl)
theorem reprN_of {h : Hd} {x : D} {p : PyData} (e : pyN h 20 x = some p) (ok : OkP p) : bReprN [x] h = .ok (.str p.shown) h := by
  unfold bReprN
  simp only [e]
  rw [if_pos ok]
theorem pyNs_map {α : Type} {f : D → Option PyData} {g : α → D} {g' : α → PyData} : ∀ {xs : List α}, (∀ x ∈ xs, f (g x) = some (g' x)) → pyNs f (xs.map g) = some (xs.map g')
  | [], _ => rfl
  | x :: xs, h => by
    rw [List.map_cons, pyNs, h x (by simp), pyNs_map (xs := xs) fun y hy => h y (by simp [hy])]
    rfl
abbrev txP (l : List Nat) : PyData := .str ⟨l.toArray⟩
theorem pyNk_dct {α : Type} {f : D → Option PyData} {nm : α → List Nat} {g : α → D} {g' : α → PyData} : ∀ {xs : List α}, (∀ x ∈ xs, f (g x) = some (g' x)) → pyNk f (dctK nm g xs) = some (xs.map fun x => (txP (nm x), g' x))
  | [], _ => rfl
  | x :: xs, h => by
    show (f (g x)).bind _ = _
    rw [h x (by simp)]
    show (pyNk f (dctK nm g xs)).map _ = _
    rw [pyNk_dct (xs := xs) fun y hy => h y (by simp [hy])]
    rfl
def fqP (q : Rat) : PyData := .tuple [.int q.num, .int (q.den : Int)]
def qdP (q : Rq) : PyData := .tuple [fqP q.1, fqP q.2.1, fqP q.2.2.1, fqP q.2.2.2]
def tieP' (t : Tie) : PyData := .tuple [txP t.a, txP t.b, .tuple (t.rs.map qdP)]
def netP (e : Rat) (ws : List Pl) (ts : List Tie) : PyData := .tuple [fqP e, .tuple (ws.map txP), .dict (ts.map fun t => (txP t.nm, tieP' t))]
section
variable {h : Hd} {n : Nat}
theorem pyN_T {l : List Nat} : pyN h (n + 1) (T l) = some (txP l) := rfl
theorem pyN_FQ {q : Rat} : pyN h (n + 2) (FQ q) = some (fqP q) := rfl
theorem pyN_tup {xs : List D} : pyN h (n + 1) (.tup xs) = (pyNs (pyN h n) xs).map .tuple := rfl
theorem pyN_Qd {q : Rq} : pyN h (n + 3) (QdD q) = some (qdP q) := rfl
theorem pyN_Tie {t : Tie} : pyN h (n + 5) (TieD t) = some (tieP' t) := by
  show (pyNs (pyN h (n + 4)) [T t.a, T t.b, .tup (t.rs.map QdD)]).map PyData.tuple = _
  have e : pyN h (n + 4) (.tup (t.rs.map QdD)) = some (.tuple (t.rs.map qdP)) := by
    rw [pyN_tup, pyNs_map (g' := qdP) fun q _ => pyN_Qd (n := n)]
    rfl
  rw [pyNs, pyN_T, pyNs, pyN_T, pyNs, e]
  rfl
theorem pyN_dct {α : Type} {nm : α → List Nat} {g : α → D} {g' : α → PyData} {zs : List α} {k : Nat} [q : Ob h k (.dK (dctK nm g zs))] (hg : ∀ z ∈ zs, pyN h n (g z) = some (g' z)) : pyN h (n + 1) (.ref k) = some (.dict (zs.map fun x => (txP (nm x), g' x))) := by
  have e1 : lstOf h (.ref k) = none := by
    unfold lstOf
    simp only [q.q]
  show (match lstOf h (.ref k) with
    | some xs => (pyNs (pyN h n) xs).map PyData.list
    | none => (dctOf h (.ref k)).bind fun kds => (pyNk (pyN h n) kds).map PyData.dict) = _
  rw [e1, dct_of (kvs := dctK nm g zs)]
  simp only [Option.bind_some]
  rw [pyNk_dct hg]
  rfl
theorem pyN_lst {xs : List D} {k : Nat} [q : Ls h k xs] : pyN h (n + 1) (.ref k) = (pyNs (pyN h n) xs).map .list := by
  have e1 : lstOf h (.ref k) = some xs := by
    unfold lstOf
    simp only [q.q]
  show (match lstOf h (.ref k) with
    | some xs => (pyNs (pyN h n) xs).map PyData.list
    | none => (dctOf h (.ref k)).bind fun kds => (pyNk (pyN h n) kds).map PyData.dict) = _
  rw [e1]
theorem pyN_net {e : Rat} {ws : List Pl} {ts : List Tie} {k : Nat} [q : Ob h k (.dK (tiesK ts))] : pyN h (n + 7) (.tup [FQ e, .tup (ws.map T), .ref k]) = some (netP e ws ts) := by
  rw [pyN_tup, pyNs, pyN_FQ, pyNs, pyN_tup, pyNs_map (g' := txP) fun w _ => pyN_T, pyNs, pyN_dct (g' := tieP') fun t _ => pyN_Tie]
  rfl
end
section
variable {κ : Bool} {n : Nat}
theorem rw_fq {q : Rat} {k : Nat} (z : SzQ k q) (hk : k ≤ 1900) : Rw κ (fqP q) (2 * (k + 8) + 3) (n + 1) := .tup (fun p hp => by
  simp only [List.mem_cons, List.not_mem_nil, or_false] at hp
  rcases hp with rfl | rfl
  · exact .int z.1 hk
  · exact .int z.2 hk) (by simp)
theorem rw_qd {q : Rq} {k : Nat} (z : SzQ k q.1 ∧ SzQ k q.2.1 ∧ SzQ k q.2.2.1 ∧ SzQ k q.2.2.2) (hk : k ≤ 1900) : Rw κ (qdP q) (4 * (2 * (k + 8) + 5) + 3) (n + 2) := .tup (fun p hp => by
  simp only [List.mem_cons, List.not_mem_nil, or_false] at hp
  rcases hp with rfl | rfl | rfl | rfl
  · exact rw_fq z.1 hk
  · exact rw_fq z.2.1 hk
  · exact rw_fq z.2.2.1 hk
  · exact rw_fq z.2.2.2 hk) (by simp)
theorem rw_nm {l : Pl} (h : l.length ≤ 8) (t : Tx l) : Rw κ (txP l) 82 n := (Rw.str t).up (by omega) (Nat.le_refl _)
end
end DL
namespace DL
open PySem PySem.Spec L2
def uhV (c : PS) (m : Int) : Int := if 0 < c.1 then c.1 % m else (c.2 * 39373 + 7919) % 2147483629 * ((c.2 * 39373 + 7919) % 2147483629) % 2147483563 / 11 % m
def uhC (c : PS) (m : Int) : PS := if 0 < c.1 then (c.1 / m, c.2) else (c.1, (c.2 * 39373 + 7919) % 2147483629)
section
variable {c : PS} {m : Int}
theorem uhV_bd (h : 1 ≤ m) : 0 ≤ uhV c m ∧ uhV c m < m := by
  unfold uhV
  split
  · exact ⟨Int.emod_nonneg _ (by omega), Int.emod_lt_of_pos _ (by omega)⟩
  · exact ⟨Int.emod_nonneg _ (by omega), Int.emod_lt_of_pos _ (by omega)⟩
theorem uhC_ok (v : PotI c) (h : 1 ≤ m) : PotI (uhC c m) := ⟨by
  obtain ⟨a, b, d⟩ := v.v
  unfold uhC
  split
  · exact ⟨Int.ediv_nonneg a (by omega), b, d⟩
  · exact ⟨a, Int.emod_nonneg _ (by decide), Int.emod_lt_of_pos _ (by decide)⟩⟩
instance pot_uh [v : PotI c] [q : Fa (1 ≤ m)] : PotI (uhC c m) := uhC_ok v q.out
instance zi_uh {k : Nat} [q : Fa (1 ≤ m)] [z : ZI k m] : ZI k (uhV c m) := ⟨by
  have := uhV_bd (c := c) q.out
  have := z.z
  unfold Sz at *
  omega⟩
end
end DL
namespace DL
open PySem PySem.Spec L2
def RdK (q : Rq) : Prop := ∃ (d : Int) (u : Ru), 1 ≤ d ∧ d ≤ 100000000000 ∧ RuOk 600000000000 u ∧ q = uR d u
theorem RdK.ok {q : Rq} (h : RdK q) : RqOk 40 q ∧ LinP 83 q.1 q.2 := by
  obtain ⟨d, u, d1, d2, o, rfl⟩ := h
  have rd := o.rd d1
  obtain ⟨g1, g2, g3, g4, g5, g6, g7, g8⟩ := o
  have zd : Sz 40 d := Sz.of (by omega) (by omega)
  have ou : RuS' 40 u := ⟨g2, Sz.of (by omega) (by omega), Sz.of (by omega) (by omega), Sz.of (by omega) (by omega), Sz.of (by omega) (by omega)⟩
  obtain ⟨z1, z2, z3, z4⟩ := ou.z
  exact ⟨⟨divInt_nonneg g1 d1, rd, .divInt d1 z1 zd, .divInt d1 z2 zd, .divInt d1 z3 zd, .divInt d1 z4 zd⟩, ride_lin ou d1 zd⟩
theorem mul01 {a m b : Int} (h0 : 0 ≤ a) (h1 : a < m) (hb : b = 0 ∨ b = 1) : 0 ≤ a * b ∧ a * b < m := by
  rcases hb with rfl | rfl
  · rw [Int.mul_zero]
    omega
  · rw [Int.mul_one]
    omega
theorem int01 {b : Bool} : (if b = true then (1 : Int) else 0) = 0 ∨ (if b = true then (1 : Int) else 0) = 1 := by cases b <;> simp
theorem take2 {c : PS} : uhV c 2 = 0 ∨ uhV c 2 = 1 := by
  have := uhV_bd (c := c) (m := 2) (by decide)
  omega
end DL
namespace DL
open PySem PySem.Spec L2
end DL
namespace DL
open PySem PySem.Spec L2
section
variable {h g h' : Hd} {c c' c2 : PS} {p n k m : Nat} {t : Int} {xs : List D} {o u : MO} {d : D}
end
end DL
namespace DL
open PySem PySem.Spec L2
end DL
namespace DL
open PySem PySem.Spec L2
def rideO (us : List Tie) (o : Option Rat) : Option Rat := us.foldl (fun o t => o.bind t.G) o
end DL
namespace DL
open PySem PySem.Spec L2
end DL
namespace DL
open PySem PySem.Spec L2
variable {ts : List Tie} {s p q : Pl} {w u v : List Tie} {t : Tie}
abbrev Wst := Pl → List Tie → Prop
def wayG (e : Rat) (w : List Tie) (x : Rat) : Option Rat := rideO w (if e < x then none else some x)
end DL
namespace DL
open PySem PySem.Spec L2
variable {k n K : Nat} {F : List (List Pc)} {r : List Pc}
end DL
namespace DL
open PySem PySem.Spec L2
variable {ts : List Tie} {s p q : Pl} {w u v : List Tie} {t : Tie}
theorem flat_lenK {α β : Type} {f : α → List β} {c : Nat} : ∀ {L : List α}, (∀ x ∈ L, (f x).length ≤ c) → (L.flatMap f).length ≤ L.length * c
  | [], _ => by simp
  | x :: L, h => by
    have h1 := h x List.mem_cons_self
    have h2 := flat_lenK (L := L) fun y hy => h y (List.mem_cons_of_mem _ hy)
    rw [List.flatMap_cons, List.length_append, List.length_cons, Nat.succ_mul]
    omega
end DL
namespace DL
open PySem PySem.Spec L2
end DL
namespace DL
open PySem PySem.Spec L2
abbrev Sr := Rat × List Pl
end DL
namespace DL
open PySem PySem.Spec L2
variable {ts : List Tie} {s p q : Pl} {w u v : List Tie} {t : Tie} {ws : List Pl} {e : Rat} {S : Wst}
abbrev KV := List Pc × List Sr
abbrev KnS := List (Pl × KV)
end DL
namespace DL
open PySem PySem.Spec L2
variable {ts : List Tie} {s p q : Pl} {w u v : List Tie} {t : Tie} {ws ps : List Pl} {e : Rat}
end DL
namespace DL
open PySem PySem.Spec L2
variable {ts : List Tie} {s p q : Pl} {w u v : List Tie} {t : Tie} {ws : List Pl} {e x : Rat} {S : Wst}
abbrev LwS := List (Pl × Rat)
end DL
namespace DL
open PySem PySem.Spec L2
variable {ts : List Tie} {s p q : Pl} {w u v : List Tie} {t : Tie} {ws : List Pl} {e x : Rat} {S : Wst} {Y : List Rat} {c : Nat} {zs : KnS} {k : LwS}
theorem sortN_same {a b : List Pl} (na : a.Nodup) (nb : b.Nodup) (h : ∀ p, p ∈ a ↔ p ∈ b) : sortN a = sortN b := by
  have pm : a.Perm b := (List.perm_ext_iff_of_nodup na nb).mpr h
  have pm2 := pm.map fun w : Pl => (⟨w.toArray⟩ : Str)
  have : sortT (a.map fun w : Pl => (⟨w.toArray⟩ : Str)) = sortT (b.map fun w : Pl => (⟨w.toArray⟩ : Str)) :=
    List.Perm.eq_of_pairwise (le := leT) (fun _ _ _ _ h1 h2 => leT_tri h1 h2) (sortT_pw _) (sortT_pw _) ((sortT_perm _).trans (pm2.trans (sortT_perm _).symm))
  unfold sortN
  rw [this]
end DL
namespace DL
open PySem PySem.Spec L2
end DL
namespace DL
open PySem PySem.Spec L2
variable {ts : List Tie} {s p q : Pl} {t : Tie} {ws : List Pl} {e : Rat} {S : Wst}
end DL
namespace DL
open PySem PySem.Spec L2
variable {ts : List Tie} {s p q : Pl} {w u v : List Tie} {t : Tie} {ws : List Pl} {e : Rat} {S : Wst}
end DL
namespace DL
open PySem PySem.Spec L2
variable {ts : List Tie} {s p q n : Pl} {w u v : List Tie} {t t0 : Tie} {ws ws' ps : List Pl} {e : Rat} {S S' : Wst}
end DL
namespace DL
open PySem PySem.Spec L2
def wayAt (R : List Sr) (x : Rat) : Option (List Pl) := (R.find? fun r => decide (x ≤ r.1)).map Prod.snd
section
variable {R A B f W : List Sr} {r : Sr} {x e : Rat} {b : Option Rat}
end
def AltS : List Sr → Prop
  | a :: b :: r => a.2 ≠ b.2 ∧ AltS (b :: r)
  | _ => True
end DL
namespace DL
open PySem PySem.Spec L2
variable {ts : List Tie} {s p q : Pl} {w u v : List Tie} {t : Tie} {ws ps : List Pl} {e x : Rat} {S : Wst} {Y : List Rat} {c : Nat} {zs : KnS}
structure ToldOk (e : Rat) (Q : Pl → List Tie → Prop) (p : Pl) (v : KV) : Prop where
  iff : ∀ x, 0 ≤ x → (wayAt v.2 x = none ↔ cm 0 v.1 x = none)
  way : ∀ x w, 0 ≤ x → wayAt v.2 x = some w → ∃ u : List Tie, u.map Tie.nm = w ∧ Q p u ∧ wayG e u x = cm 0 v.1 x
  alt : AltS v.2
end DL
namespace DL
open PySem PySem.Spec L2
variable {ts : List Tie} {s p q : Pl} {w u v : List Tie} {t : Tie} {ws ps : List Pl} {e x : Rat} {S : Wst} {Y : List Rat} {c : Nat} {zs : KnS}
inductive Vw (ts : List Tie) (s : Pl) : List Tie → Pl → Prop
  | nil : Vw ts s [] s
  | snoc {w : List Tie} {t : Tie} : Vw ts s w t.a → t ∈ ts → Vw ts s (w ++ [t]) t.b
def QA (ts : List Tie) (s : Pl) (d : Nat) (p : Pl) (u : List Tie) : Prop := Vw ts s u p ∧ u.length ≤ 1 + d ∧ (p = s → u = [])
def TA (ts : List Tie) (s : Pl) (e : Rat) (S : Wst) (zs : KnS) : Prop := ∃ D : List (List Tie), D.Nodup ∧ (∀ w ∈ D, (∃ p, S p w) ∧ 2 ≤ w.length) ∧ ∀ p v, getP zs p = some v → ToldOk e (QA ts s D.length) p v
end DL
namespace DL
open PySem PySem.Spec L2
variable {ts : List Tie} {s p q : Pl} {w u v : List Tie} {t : Tie} {ws ps : List Pl} {e x : Rat} {S : Wst} {Y : List Rat} {c : Nat} {zs : KnS}
end DL
namespace DL
open PySem PySem.Spec L2
variable {ts : List Tie} {s p q g : Pl} {w u v : List Tie} {t : Tie} {ws ps : List Pl} {e x : Rat} {S : Wst} {Y : List Rat} {c : Nat} {zs : KnS}
end DL
namespace DL
open PySem PySem.Spec L2
theorem zip_adj {α : Type} {x y : α} : ∀ {W : List α}, (x, y) ∈ W.zip (W.drop 1) → ∃ A B, W = A ++ x :: y :: B
  | [], h => by simp at h
  | [a], h => by simp at h
  | a :: b :: W, h => by
    have h : (x, y) = (a, b) ∨ (x, y) ∈ (b :: W).zip W := by simpa using h
    rcases h with h | h
    · cases h
      exact ⟨[], W, rfl⟩
    · obtain ⟨A, B, e⟩ := zip_adj (W := b :: W) h
      exact ⟨a :: A, B, by rw [e]; rfl⟩
end DL
namespace DL
open PySem PySem.Spec L2
variable {ts ts' : List Tie} {s p q g : Pl} {w u v : List Tie} {t : Tie} {ws ws' ps : List Pl} {e x : Rat} {S S' : Wst} {Y Y' : List Rat} {c c' : Nat} {zs zs' : KnS}
variable {f f' : Tie → Tie} {r r' : Pl → Pl}
end DL
namespace DL
open PySem PySem.Spec L2
variable {xs ys : List Pl} {zs : List (Pl × Pl)} {w x y a b : Pl}
section
variable {α β : Type} {R : α → β → Prop}
end
end DL
namespace DL
open PySem PySem.Spec L2
variable {ts ms ts' : List Tie} {s p q g : Pl} {ws ps ps' ns ns' : List Pl} {e : Rat}
end DL
namespace DL
open PySem PySem.Spec L2
section
variable {c : PS} {m : Int}
end
end DL
namespace DL
open PySem PySem.Spec L2
section
variable {ts S : List Tie} {ws P bar : List Pl} {f : List (Pl × Rat)} {z : Tie} {s p : Pl} {mo x y : Rat} {m n : Nat}
end
end DL
namespace DL
open PySem PySem.Spec L2
end DL
namespace DL
open PySem PySem.Spec L2
section
variable {ts S : List Tie} {ws P : List Pl} {s p q g : Pl} {mo x y e : Rat} {m n : Nat}
end
end DL
namespace DL
open PySem PySem.Spec L2
abbrev wEnd : List Nat := [101, 110, 100]
abbrev wWaits : List Nat := [119, 97, 105, 116, 115]
abbrev wTie : List Nat := [116, 105, 101]
abbrev wRide : List Nat := [114, 105, 100, 101]
def rideWs (q : Rq) : List (List Nat) := [frT q.1, frT q.2.1, frT q.2.2.1, frT q.2.2.2]
def tieRows (t : Tie) : List (List (List Nat)) := [wTie, t.nm, t.a, t.b] :: t.rs.map fun q => wRide :: rideWs q
def netRows (e : Rat) (ws : List Pl) (ts : List Tie) : List (List (List Nat)) := [wEnd, frT e] :: (wWaits :: ws) :: ts.flatMap tieRows
abbrev lnT (ws : List (List Nat)) : List Nat := joinN [32] ws
def netT (e : Rat) (ws : List Pl) (ts : List Tie) : List Nat := joinN [] ((netRows e ws ts).map fun r => lnT r ++ [10])
theorem joinN_cons {s : List Nat} {t : List Nat} : ∀ {ts : List (List Nat)}, ts ≠ [] → joinN s (t :: ts) = t ++ s ++ joinN s ts
  | [], h => absurd rfl h
  | _ :: _, _ => rfl
theorem join_lines : ∀ {ls : List (List Nat)}, joinN [] (ls.map fun l => l ++ [10]) = joinN [10] (ls ++ [[]])
  | [] => rfl
  | [l] => by
    show l ++ [10] = l ++ [10] ++ []
    rw [List.append_nil]
  | l :: m :: r => by
    rw [List.map_cons, joinN_cons (by simp), List.cons_append, joinN_cons (by simp), join_lines (ls := m :: r), List.append_nil]
theorem netT_eq {e : Rat} {ws : List Pl} {ts : List Tie} : netT e ws ts = joinN [10] (((netRows e ws ts).map lnT) ++ [[]]) := by
  unfold netT
  rw [show ((netRows e ws ts).map fun r => lnT r ++ [10]) = ((netRows e ws ts).map lnT).map fun l => l ++ [10] by rw [List.map_map]; rfl]
  exact join_lines
def WdOk (w : List Nat) : Prop := 32 ∉ w ∧ 10 ∉ w
theorem wd_nm {w : Pl} (h : NmOk w) : WdOk w := ⟨fun x => by have := h.2.2 _ x; omega, fun x => by have := h.2.2 _ x; omega⟩
theorem wd_fr {a : Rat} : WdOk (frT a) := ⟨frT_no (by decide) (by decide), frT_no (by decide) (by decide)⟩
structure NetN (ts : List Tie) (ws : List Pl) : Prop where
  nm : ∀ t ∈ ts, NmOk t.nm ∧ NmOk t.a ∧ NmOk t.b
  wn : ∀ w ∈ ws, NmOk w
  lr : ∀ t ∈ ts, t.rs.length ≤ 8
  lw : ws.length ≤ 9
  lt : ts.length ≤ 10
  sz : ∀ t ∈ ts, ∀ q ∈ t.rs, (0 ≤ q.1 ∧ 0 ≤ q.2.1 ∧ 0 ≤ q.2.2.1 ∧ 0 ≤ q.2.2.2) ∧ SzQ 40 q.1 ∧ SzQ 40 q.2.1 ∧ SzQ 40 q.2.2.1 ∧ SzQ 40 q.2.2.2
section
variable {ts : List Tie} {ws : List Pl} {e : Rat}
theorem ntRows_wd (N : NetN ts ws) : ∀ r ∈ netRows e ws ts, r ≠ [] ∧ ∀ w ∈ r, WdOk w := fun r hr => by
  have k1 : WdOk wEnd := by unfold WdOk; decide
  have k2 : WdOk wWaits := by unfold WdOk; decide
  have k3 : WdOk wTie := by unfold WdOk; decide
  have k4 : WdOk wRide := by unfold WdOk; decide
  unfold netRows at hr
  rcases List.mem_cons.mp hr with rfl | hr
  · refine ⟨by simp, fun w hw => ?_⟩
    simp only [List.mem_cons, List.not_mem_nil, or_false] at hw
    rcases hw with rfl | rfl
    · exact k1
    · exact wd_fr
  · rcases List.mem_cons.mp hr with rfl | hr
    · refine ⟨by simp, fun w hw => ?_⟩
      rcases List.mem_cons.mp hw with rfl | hw
      · exact k2
      · exact wd_nm (N.wn w hw)
    · obtain ⟨t, ht, hr⟩ := List.mem_flatMap.mp hr
      obtain ⟨n1, n2, n3⟩ := N.nm t ht
      unfold tieRows at hr
      rcases List.mem_cons.mp hr with rfl | hr
      · refine ⟨by simp, fun w hw => ?_⟩
        simp only [List.mem_cons, List.not_mem_nil, or_false] at hw
        rcases hw with rfl | rfl | rfl | rfl
        · exact k3
        · exact wd_nm n1
        · exact wd_nm n2
        · exact wd_nm n3
      · obtain ⟨q, hq, rfl⟩ := List.mem_map.mp hr
        refine ⟨by simp, fun w hw => ?_⟩
        unfold rideWs at hw
        simp only [List.mem_cons, List.not_mem_nil, or_false] at hw
        rcases hw with rfl | rfl | rfl | rfl | rfl
        · exact k4
        all_goals exact wd_fr
theorem no10_join {r : List (List Nat)} (h : ∀ w ∈ r, 10 ∉ w) : 10 ∉ lnT r := fun x => by
  rcases joinN_mem x with y | ⟨t, ht, y⟩
  · simp at y
  · exact h t ht y
theorem netT_lines (N : NetN ts ws) : splitN [10] (netT e ws ts) = (netRows e ws ts).map lnT ++ [[]] := by
  rw [netT_eq]
  refine splitN_join (by decide) (by simp) fun p hp => ?_
  rcases List.mem_append.mp hp with hp | hp
  · obtain ⟨r, hr, rfl⟩ := List.mem_map.mp hp
    exact no10_join fun w hw => ((ntRows_wd N r hr).2 w hw).2
  · rw [List.mem_singleton.mp hp]
    simp
theorem line_words (N : NetN ts ws) {r : List (List Nat)} (hr : r ∈ netRows e ws ts) : splitN [32] (lnT r) = r :=
  splitN_join (by decide) (ntRows_wd N r hr).1 fun p hp => ((ntRows_wd N r hr).2 p hp).1
theorem lnT_len {r : List (List Nat)} {k c : Nat} (h : ∀ w ∈ r, w.length ≤ k) (hl : r.length ≤ c) : lenN [32] r ≤ c * (k + 1) ∧ (lnT r).length ≤ c * (k + 1) := by
  have h1 := lenN_le (s := [32]) h
  have h2 : r.length * (k + 1) ≤ c * (k + 1) := Nat.mul_le_mul_right _ hl
  exact ⟨by simpa using Nat.le_trans h1 h2, Nat.le_trans (joinN_len [32] r) (by simpa using Nat.le_trans h1 h2)⟩
theorem ntRows_len (N : NetN ts ws) (e0 : 0 ≤ e) (ez : SzQ 40 e) : ∀ r ∈ netRows e ws ts, r.length ≤ 10 ∧ ∀ w ∈ r, w.length ≤ 83 := fun r hr => by
  have nl : ∀ {w : Pl}, NmOk w → w.length ≤ 83 := fun h => Nat.le_trans h.2.1 (by decide)
  have fl : ∀ {a : Rat}, 0 ≤ a → SzQ 40 a → (frT a).length ≤ 83 := fun a0 z => frT_len a0 z
  unfold netRows at hr
  rcases List.mem_cons.mp hr with rfl | hr
  · refine ⟨by simp, fun w hw => ?_⟩
    simp only [List.mem_cons, List.not_mem_nil, or_false] at hw
    rcases hw with rfl | rfl
    · decide
    · exact fl e0 ez
  · rcases List.mem_cons.mp hr with rfl | hr
    · refine ⟨by have := N.lw; simp; omega, fun w hw => ?_⟩
      rcases List.mem_cons.mp hw with rfl | hw
      · decide
      · exact nl (N.wn w hw)
    · obtain ⟨t, ht, hr⟩ := List.mem_flatMap.mp hr
      obtain ⟨n1, n2, n3⟩ := N.nm t ht
      unfold tieRows at hr
      rcases List.mem_cons.mp hr with rfl | hr
      · refine ⟨by simp, fun w hw => ?_⟩
        simp only [List.mem_cons, List.not_mem_nil, or_false] at hw
        rcases hw with rfl | rfl | rfl | rfl
        · decide
        · exact nl n1
        · exact nl n2
        · exact nl n3
      · obtain ⟨q, hq, rfl⟩ := List.mem_map.mp hr
        obtain ⟨⟨a1, a2, a3, a4⟩, z1, z2, z3, z4⟩ := N.sz t ht q hq
        refine ⟨by unfold rideWs; simp, fun w hw => ?_⟩
        unfold rideWs at hw
        simp only [List.mem_cons, List.not_mem_nil, or_false] at hw
        rcases hw with rfl | rfl | rfl | rfl | rfl
        · decide
        · exact fl a1 z1
        · exact fl a2 z2
        · exact fl a3 z3
        · exact fl a4 z4
theorem ntRows_many (N : NetN ts ws) : (netRows e ws ts).length ≤ 92 := by
  have h : (ts.flatMap tieRows).length ≤ ts.length * 9 := flat_lenK fun t ht => by
    unfold tieRows
    rw [List.length_cons, List.length_map]
    have := N.lr t ht
    omega
  have := N.lt
  have : ts.length * 9 ≤ 10 * 9 := Nat.mul_le_mul_right _ this
  unfold netRows
  rw [List.length_cons, List.length_cons]
  omega
theorem netT_len (N : NetN ts ws) (e0 : 0 ≤ e) (ez : SzQ 40 e) : lenN [] ((netRows e ws ts).map fun r => lnT r ++ [10]) ≤ 100000 ∧ (netT e ws ts).length ≤ 100000 := by
  have h1 : ∀ l ∈ (netRows e ws ts).map fun r => lnT r ++ [10], l.length ≤ 841 := fun l hl => by
    obtain ⟨r, hr, rfl⟩ := List.mem_map.mp hl
    obtain ⟨q1, q2⟩ := ntRows_len N e0 ez r hr
    have := (lnT_len q2 q1).2
    rw [List.length_append]
    simp only [List.length_cons, List.length_nil]
    omega
  have h2 := lenN_le (s := []) h1
  rw [List.length_map] at h2
  have h3 : (netRows e ws ts).length * (841 + 0) ≤ 92 * 841 := Nat.mul_le_mul_right _ (ntRows_many N)
  have h4 : lenN [] ((netRows e ws ts).map fun r => lnT r ++ [10]) ≤ 100000 := Nat.le_trans h2 (Nat.le_trans h3 (by decide))
  exact ⟨h4, Nat.le_trans (joinN_len [] _) h4⟩
end
end DL
namespace DL
open PySem PySem.Spec L2
end DL
namespace DL
open PySem PySem.Spec L2
def refsN (n k : Nat) : List D := (List.range k).map fun i => D.ref (n + i)
theorem refsN_succ {n k : Nat} : refsN n (k + 1) = refsN n k ++ [D.ref (n + k)] := by
  unfold refsN
  rw [List.range_succ, List.map_append]
  rfl
theorem refsN_len {n k : Nat} : (refsN n k).length = k := by
  unfold refsN
  rw [List.length_map, List.length_range]
theorem appD_at {h g : Hd} {acc : List D} {d : D} (hl : acc.length < 1000000) : appD h.length d (h ++ .lst acc :: g) = .ok () (h ++ .lst (acc ++ [d]) :: g) := by
  unfold appD
  have : (h ++ MO.lst acc :: g)[h.length]? = some (.lst acc) := by rw [get_at0]; rfl
  simp only [this]
  rw [if_pos (Nat.lt_of_lt_of_le hl (by decide +kernel)), List.set_append_right _ _ (Nat.le_refl _), Nat.sub_self, List.set_cons_zero]
theorem kLc_new {α : Type} {emb : α → D} {o : α → MO} {g : GM} {t : TM} {e : EM} {vs : List Nat} {s : Sl} {xs : List α} {chk : Hd → Prop} {h : Hd} (hl : xs.length < 1000000) (hc : ∀ acc G, chk (h ++ .lst acc :: G))
    (he : ∀ x ∈ xs, ∀ acc G, ∃ s1, g (emb x) (wipeD s vs) (h ++ .lst acc :: G) = .ok s1 (h ++ .lst acc :: G) ∧ t s1 (h ++ .lst acc :: G) = .ok true (h ++ .lst acc :: G) ∧ e s1 (h ++ .lst acc :: G) = .ok (.ref (h.length + 1 + G.length)) (h ++ .lst acc :: (G ++ [o x]))) :
    (Res.ok (xs.map emb, chk) h).kLc g t e vs s = .ok (.ref h.length) (h ++ .lst (refsN (h.length + 1) xs.length) :: xs.map o) := by
  have key : ∀ (zs pre : List α), xs = pre ++ zs → lcD chk g t e vs h.length s (zs.map emb) (h ++ .lst (refsN (h.length + 1) pre.length) :: pre.map o) = .ok () (h ++ .lst (refsN (h.length + 1) xs.length) :: xs.map o) := by
    intro zs
    induction zs with
    | nil =>
      intro pre ex
      rw [List.append_nil] at ex
      subst ex
      rw [List.map_nil]
      unfold lcD
      rw [if_pos (hc _ _)]
    | cons x zs ih =>
      intro pre ex
      obtain ⟨s1, e1, e2, e3⟩ := he x (by rw [ex]; simp) (refsN (h.length + 1) pre.length) (pre.map o)
      have lx := congrArg List.length ex
      rw [List.length_append, List.length_cons] at lx
      rw [List.map_cons]
      unfold lcD
      rw [if_pos (hc _ _), e1]
      simp only
      rw [e2, Res.bind_ok, if_pos rfl, e3, Res.bind_ok, appD_at (by rw [refsN_len]; omega), Res.bind_ok, List.length_map, ← refsN_succ]
      have := ih (pre ++ [x]) (by rw [ex, List.append_assoc]; rfl)
      rw [List.map_append, List.length_append] at this
      exact this
  show (lcD chk g t e vs h.length s (xs.map emb) (h ++ [.lst []])).bind _ = _
  have := key xs [] rfl
  rw [show refsN (h.length + 1) ([] : List α).length = [] from rfl] at this
  rw [show [MO.lst []] = MO.lst [] :: ([] : List α).map o from rfl, this, Res.bind_ok]
end DL
namespace DL
open PySem PySem.Spec PyProof.Rows L2
section
variable {ts : List Tie} {ws P : List Pl} {g : Pl} {mo : Rat} {m : Nat} {b : PapS}
end
end DL
namespace DL
open PySem PySem.Spec PyProof.Rows L2
def topS (i : Nat) : Stmt := PySem.Challenge.pw_hourstairs_k53_texts_of_nets.main.body.getD i (.Pass ⟨0, 0, 0, 0⟩)
abbrev k_FIGURES : D := .str "0123456789"
abbrev k_LETTERS : D := .str "abcdefghijklmnopqrstuvwxyz"
abbrev k_MOST_LETTERS : D := .int 8
abbrev s_p_is_whole : Stmt := topS 5
theorem sc_p_is_whole : FnScope ["thing"] ["thing"] (defScope s_p_is_whole) := ⟨rfl, rfl, rfl, by decide +kernel, rfl, by decide +kernel, by decide +kernel⟩
abbrev s_p_common : Stmt := topS 6
theorem sc_p_common : FnScope ["one", "other"] ["one", "other"] (defScope s_p_common) := ⟨rfl, rfl, rfl, by decide +kernel, rfl, by decide +kernel, by decide +kernel⟩
abbrev s_p_is_below : Stmt := topS 8
theorem sc_p_is_below : FnScope ["one", "other"] ["one", "other"] (defScope s_p_is_below) := ⟨rfl, rfl, rfl, by decide +kernel, rfl, by decide +kernel, by decide +kernel⟩
abbrev s_p_fraction_text : Stmt := topS 9
theorem sc_p_fraction_text : FnScope ["moment", "n", "d"] ["moment"] (defScope s_p_fraction_text) := ⟨rfl, rfl, rfl, by decide +kernel, rfl, by decide +kernel, by decide +kernel⟩
abbrev s_p_number_in : Stmt := topS 10
theorem sc_p_number_in : FnScope ["figures", "found", "sign"] ["figures"] (defScope s_p_number_in) := ⟨rfl, rfl, rfl, by decide +kernel, rfl, by decide +kernel, by decide +kernel⟩
abbrev s_p_is_name : Stmt := topS 18
theorem sc_p_is_name : FnScope ["thing", "sign"] ["thing"] (defScope s_p_is_name) := ⟨rfl, rfl, rfl, by decide +kernel, rfl, by decide +kernel, by decide +kernel⟩
abbrev s_at : Stmt := topS 29
theorem sc_at : FnScope ["_law_script", "_law_k"] ["_law_script", "_law_k"] (defScope s_at) := ⟨rfl, rfl, rfl, by decide +kernel, rfl, by decide +kernel, by decide +kernel⟩
abbrev s_take : Stmt := topS 31
theorem sc_take : FnScope ["_law_pot_here", "_law_many", "_law_digit"] ["_law_pot_here", "_law_many"] (defScope s_take) := ⟨rfl, rfl, rfl, by decide +kernel, rfl, by decide +kernel, by decide +kernel⟩
abbrev s_low : Stmt := topS 34
theorem sc_low : FnScope ["_law_n", "_law_d", "_law_one", "_law_other"] ["_law_n", "_law_d"] (defScope s_low) := ⟨rfl, rfl, rfl, by decide +kernel, rfl, by decide +kernel, by decide +kernel⟩
abbrev s_under : Stmt := topS 35
theorem sc_under : FnScope ["_law_one", "_law_other"] ["_law_one", "_law_other"] (defScope s_under) := ⟨rfl, rfl, rfl, by decide +kernel, rfl, by decide +kernel, by decide +kernel⟩
abbrev s_moment_text : Stmt := topS 41
theorem sc_moment_text : FnScope ["_law_moment"] ["_law_moment"] (defScope s_moment_text) := ⟨rfl, rfl, rfl, by decide +kernel, rfl, by decide +kernel, by decide +kernel⟩
abbrev s_is_just : Stmt := topS 43
theorem sc_is_just : FnScope ["_law_told", "_law_net_here"] ["_law_told", "_law_net_here"] (defScope s_is_just) := ⟨rfl, rfl, rfl, by decide +kernel, rfl, by decide +kernel, by decide +kernel⟩
abbrev s_p_is_fraction : Stmt := topS 7
theorem sc_p_is_fraction : FnScope ["thing", "n", "d", "one"] ["thing"] (defScope s_p_is_fraction) := ⟨rfl, rfl, rfl, by decide +kernel, rfl, by decide +kernel, by decide +kernel⟩
abbrev s_p_read_fraction : Stmt := topS 11
theorem sc_p_read_fraction : FnScope ["text", "above", "stroke", "below", "n", "d"] ["text"] (defScope s_p_read_fraction) := ⟨rfl, rfl, rfl, by decide +kernel, rfl, by decide +kernel, by decide +kernel⟩
abbrev s_p_are_names : Stmt := topS 19
theorem sc_p_are_names : FnScope ["thing", "one", "other"] ["thing"] (defScope s_p_are_names) := ⟨rfl, rfl, rfl, by decide +kernel, rfl, by decide +kernel, by decide +kernel⟩
abbrev s_p_tie_lines : Stmt := topS 23
theorem sc_p_tie_lines : FnScope ["name", "tie", "start", "goal", "rides", "found", "ride", "moment"] ["name", "tie"] (defScope s_p_tie_lines) := ⟨rfl, rfl, rfl, by decide +kernel, rfl, by decide +kernel, by decide +kernel⟩
abbrev s_pot : Stmt := topS 30
theorem sc_pot : FnScope ["_law_script", "_law_k", "_law_cell"] ["_law_script", "_law_k"] (defScope s_pot) := ⟨rfl, rfl, rfl, by decide +kernel, rfl, by decide +kernel, by decide +kernel⟩
abbrev s_drawn : Stmt := topS 32
theorem sc_drawn : FnScope ["_law_pot_here", "_law_some"] ["_law_pot_here", "_law_some"] (defScope s_drawn) := ⟨rfl, rfl, rfl, by decide +kernel, rfl, by decide +kernel, by decide +kernel⟩
abbrev s_ride : Stmt := topS 36
theorem sc_ride : FnScope ["_law_pot_here", "_law_room", "_law_den", "_law_first", "_law_final", "_law_come", "_law_comes", "_law_number"] ["_law_pot_here", "_law_room"] (defScope s_ride) := ⟨rfl, rfl, rfl, by decide +kernel, rfl, by decide +kernel, by decide +kernel⟩
abbrev s_chain : Stmt := topS 37
theorem sc_chain : FnScope ["_law_pot_here", "_law_den", "_law_found", "_law_end_here", "_law_high", "_law_k", "_law_begin", "_law_low_here", "_law_ride_here", "_law_number"] ["_law_pot_here"] (defScope s_chain) := ⟨rfl, rfl, rfl, by decide +kernel, rfl, by decide +kernel, by decide +kernel⟩
abbrev s_end : Stmt := topS 39
theorem sc_end : FnScope ["_law_pot_here", "_law_ties", "_law_end_here", "_law_start", "_law_goal", "_law_rides_here", "_law_ride_here"] ["_law_pot_here", "_law_ties"] (defScope s_end) := ⟨rfl, rfl, rfl, by decide +kernel, rfl, by decide +kernel, by decide +kernel⟩
abbrev s_text : Stmt := topS 42
theorem sc_text : FnScope ["_law_net_here", "_law_end_here", "_law_waits", "_law_ties", "_law_lines", "_law_name_here", "_law_a", "_law_b", "_law_rides_here", "_law_ride_here", "_law_one"] ["_law_net_here"] (defScope s_text) := ⟨rfl, rfl, rfl, by decide +kernel, rfl, by decide +kernel, by decide +kernel⟩
abbrev s_p_is_ride : Stmt := topS 13
theorem sc_p_is_ride : FnScope ["thing", "first", "last", "come", "comes", "moment"] ["thing"] (defScope s_p_is_ride) := ⟨rfl, rfl, rfl, by decide +kernel, rfl, by decide +kernel, by decide +kernel⟩
abbrev s_p_net_text : Stmt := topS 24
theorem sc_p_net_text : FnScope ["net", "end", "waits", "ties", "lines", "name", "line"] ["net"] (defScope s_p_net_text) := ⟨rfl, rfl, rfl, by decide +kernel, rfl, by decide +kernel, by decide +kernel⟩
abbrev s_p_ride_in : Stmt := topS 25
theorem sc_p_ride_in : FnScope ["words", "word"] ["words"] (defScope s_p_ride_in) := ⟨rfl, rfl, rfl, by decide +kernel, rfl, by decide +kernel, by decide +kernel⟩
abbrev s_name : Stmt := topS 33
theorem sc_name : FnScope ["_law_pot_here", "_law_taken", "_law_letters", "_law_name_here", "_law_k", "_law_letter"] ["_law_pot_here", "_law_taken"] (defScope s_name) := ⟨rfl, rfl, rfl, by decide +kernel, rfl, by decide +kernel, by decide +kernel⟩
abbrev s_rides : Stmt := topS 38
theorem sc_rides : FnScope ["_law_pot_here", "_law_room", "_law_k"] ["_law_pot_here", "_law_room"] (defScope s_rides) := ⟨rfl, rfl, rfl, by decide +kernel, rfl, by decide +kernel, by decide +kernel⟩
abbrev s_p_is_rides : Stmt := topS 14
theorem sc_p_is_rides : FnScope ["thing", "ride"] ["thing"] (defScope s_p_is_rides) := ⟨rfl, rfl, rfl, by decide +kernel, rfl, by decide +kernel, by decide +kernel⟩
abbrev s_p_ties_in : Stmt := topS 26
theorem sc_p_ties_in : FnScope ["rows", "found", "name", "row", "start", "goal", "rides"] ["rows"] (defScope s_p_ties_in) := ⟨rfl, rfl, rfl, by decide +kernel, rfl, by decide +kernel, by decide +kernel⟩
abbrev s_net : Stmt := topS 40
theorem sc_net : FnScope ["_law_pot_here", "_law_taken", "_law_named", "_law_ties", "_law_places", "_law_room", "_law_many", "_law_great", "_law_k", "_law_a", "_law_b", "_law_rides_here", "_law_waits", "_law_j", "_law_place"] ["_law_pot_here"] (defScope s_net) := ⟨rfl, rfl, rfl, by decide +kernel, rfl, by decide +kernel, by decide +kernel⟩
abbrev s_p_is_tie : Stmt := topS 20
theorem sc_p_is_tie : FnScope ["end", "thing", "ride"] ["end", "thing"] (defScope s_p_is_tie) := ⟨rfl, rfl, rfl, by decide +kernel, rfl, by decide +kernel, by decide +kernel⟩
abbrev s_p_is_net : Stmt := topS 21
theorem sc_p_is_net : FnScope ["thing", "name", "tie"] ["thing"] (defScope s_p_is_net) := ⟨rfl, rfl, rfl, by decide +kernel, rfl, by decide +kernel, by decide +kernel⟩
abbrev s_p_read_net : Stmt := topS 27
theorem sc_p_read_net : FnScope ["text", "rows", "net", "line"] ["text"] (defScope s_p_read_net) := ⟨rfl, rfl, rfl, by decide +kernel, rfl, by decide +kernel, by decide +kernel⟩
abbrev s_right : Stmt := topS 44
theorem sc_right : FnScope ["_law_net_here", "_law_before", "_law_text_here", "_law_told"] ["_law_net_here"] (defScope s_right) := ⟨rfl, rfl, rfl, by decide +kernel, rfl, by decide +kernel, by decide +kernel⟩
abbrev s_law : Stmt := topS 45
theorem sc_law : FnScope ["_law_script", "_law_elder", "_law_k", "_law_net_here"] ["_law_script"] (defScope s_law) := ⟨rfl, rfl, rfl, by decide +kernel, rfl, by decide +kernel, by decide +kernel⟩
noncomputable def B_p_is_whole : SM := (sRet (eAnd (eA bIsi (aC (eV 0) (aC (eC (.ty "int")) aN))) (eNot (eA bIsi (aC (eV 0) (aC (eC (.ty "bool")) aN))))))
noncomputable def F_p_is_whole : List D → M D := runB 1 B_p_is_whole
noncomputable def B_p_common : SM := (sSeq (sWhile (tB' (e2 dGt (eV 1) (eC (.int 0)))) (sPar 0 1 (aC (eV 1) (aC (e2 dMod (eV 0) (eV 1)) aN))))
    (sRet (eV 0)))
noncomputable def F_p_common : List D → M D := runB 2 B_p_common
noncomputable def B_p_is_below : SM := (sRet (e2 dLt (e2 dMul (e2 dIx (eV 0) (eC (.int 0))) (e2 dIx (eV 1) (eC (.int 1)))) (e2 dMul (e2 dIx (eV 1) (eC (.int 0))) (e2 dIx (eV 0) (eC (.int 1))))))
noncomputable def F_p_is_below : List D → M D := runB 2 B_p_is_below
noncomputable def B_p_fraction_text : SM := (sSeq (sAsg (eV 0) (gT 2 (gsC (gN 1) (gsC (gN 2) gsN))))
    (sSeq (sIf (tB' (e2 dEq (eV 2) (eC (.int 1)))) (sRet (eA bStr (aC (eV 1) aN))) sNil)
    (sRet (e2 dAdd (e2 dAdd (eA bStr (aC (eV 1) aN)) (eC (.str "/"))) (eA bStr (aC (eV 2) aN))))))
noncomputable def F_p_fraction_text : List D → M D := runB 3 B_p_fraction_text
noncomputable def B_p_number_in : SM := (sSeq (sIf (tOr' (tB' (e2 dEq (eV 0) (eC (.str "")))) (tNot' (tTr (eA bAll (aC (eLc (i1 (eV 0) iSeq) (gN 2) tT (e2 (dIn false) (eV 2) (eC k_FIGURES)) [2]) aN))))) (sRet (eC .non)) sNil)
    (sSeq (sIf (tAnd' (tB' (e2 dEq (e2 dIx (eV 0) (eC (.int 0))) (eC (.str "0")))) (tB' (e2 dNe (eV 0) (eC (.str "0"))))) (sRet (eC .non)) sNil)
    (sSeq (sSet 1 (eC (.int 0)))
    (sSeq (sFor (i1 (eV 0) iSeq) (gN 2) (sSet 1 (e2 dAdd (e2 dMul (eC (.int 10)) (eV 1)) (eM "str" mSIndex (eC k_FIGURES) (aC (eV 2) aN)))))
    (sRet (eV 1))))))
noncomputable def F_p_number_in : List D → M D := runB 3 B_p_number_in
noncomputable def B_p_is_name : SM := (sSeq (sIf (tOr' (tNot' (tTr (eA bIsi (aC (eV 0) (aC (eC (.ty "str")) aN))))) (tNot' (tB' (eCh dLe dLe (eC (.int 1)) (eA bLen (aC (eV 0) aN)) (eC k_MOST_LETTERS))))) (sRet (eC (.bl false))) sNil)
    (sRet (eG (eA bAll (aC (eLc (i1 (eV 0) iSeq) (gN 1) tT (e2 (dIn false) (eV 1) (eC k_LETTERS)) [1]) aN)))))
noncomputable def F_p_is_name : List D → M D := runB 2 B_p_is_name
noncomputable def B_at : SM := (sRet (eIf (tB' (e2 dLt (eV 1) (eA bLen (aC (eV 0) aN)))) (e2 dIx (eV 0) (eV 1)) (eC (.int 0))))
noncomputable def F_at : List D → M D := runB 2 B_at
noncomputable def B_take : SM := (sSeq (sIf (tB' (e2 dGt (e2 dIx (eV 0) (eC (.int 0))) (eC (.int 0)))) (sSeq (sAsg (eA bDivmod (aC (e2 dIx (eV 0) (eC (.int 0))) (aC (eV 1) aN))) (gT 2 (gsC (gS (eV 0) (eC (.int 0)) dSetL) (gsC (gN 2) gsN))))
    (sRet (eV 2))) sNil)
    (sSeq (sAsg (e2 dMod (e2 dAdd (e2 dMul (e2 dIx (eV 0) (eC (.int 1))) (eC (.int 39373))) (eC (.int 7919))) (eC (.int 2147483629))) (gS (eV 0) (eC (.int 1)) dSetL))
    (sRet (e2 dMod (e2 dDiv (e2 dMod (e2 dMul (e2 dIx (eV 0) (eC (.int 1))) (e2 dIx (eV 0) (eC (.int 1)))) (eC (.int 2147483563))) (eC (.int 11))) (eV 1)))))
noncomputable def F_take : List D → M D := runB 3 B_take
noncomputable def B_low : SM := (sSeq (sPar 2 3 (aC (eV 0) (aC (eV 1) aN)))
    (sSeq (sWhile (tB' (e2 dGt (eV 3) (eC (.int 0)))) (sPar 2 3 (aC (eV 3) (aC (e2 dMod (eV 2) (eV 3)) aN))))
    (sRet (eA mkT (aC (e2 dDiv (eV 0) (eV 2)) (aC (e2 dDiv (eV 1) (eV 2)) aN))))))
noncomputable def F_low : List D → M D := runB 4 B_low
noncomputable def B_under : SM := (sRet (e2 dLt (e2 dMul (e2 dIx (eV 0) (eC (.int 0))) (e2 dIx (eV 1) (eC (.int 1)))) (e2 dMul (e2 dIx (eV 1) (eC (.int 0))) (e2 dIx (eV 0) (eC (.int 1))))))
noncomputable def F_under : List D → M D := runB 2 B_under
noncomputable def B_moment_text : SM := (sSeq (sIf (tB' (e2 dEq (e2 dIx (eV 0) (eC (.int 1))) (eC (.int 1)))) (sRet (eA bStr (aC (e2 dIx (eV 0) (eC (.int 0))) aN))) sNil)
    (sRet (e2 dAdd (e2 dAdd (eA bStr (aC (e2 dIx (eV 0) (eC (.int 0))) aN)) (eC (.str "/"))) (eA bStr (aC (e2 dIx (eV 0) (eC (.int 1))) aN)))))
noncomputable def F_moment_text : List D → M D := runB 1 B_moment_text
noncomputable def B_is_just : SM := (sSeq (sIf (tOr' (tNot' (tTr (eA bIsi (aC (eV 0) (aC (eC (.ty "tuple")) aN))))) (tOr' (tB' (e2 dNe (eA bLen (aC (eV 0) aN)) (eC (.int 3)))) (tNot' (tTr (eA bIsi (aC (e2 dIx (eV 0) (eC (.int 2))) (aC (eC (.ty "dict")) aN))))))) (sRet (eC (.bl false))) sNil)
    (sRet (eG (e2 dEq (eG (eA bReprN (aC (eA mkL (aC (e2 dIx (eV 0) (eC (.int 0))) (aC (e2 dIx (eV 0) (eC (.int 1))) (aC (e1 bSortIt (e2 dIx (eV 0) (eC (.int 2)))) aN)))) aN))) (eG (eA bReprN (aC (eA mkL (aC (e2 dIx (eV 1) (eC (.int 0))) (aC (e2 dIx (eV 1) (eC (.int 1))) (aC (e1 bSortIt (e2 dIx (eV 1) (eC (.int 2)))) aN)))) aN)))))))
noncomputable def F_is_just : List D → M D := runB 2 B_is_just
noncomputable def B_p_is_fraction : SM := (sSeq (sIf (tOr' (tNot' (tTr (eA bIsi (aC (eV 0) (aC (eC (.ty "tuple")) aN))))) (tOr' (tB' (e2 dNe (eA bLen (aC (eV 0) aN)) (eC (.int 2)))) (tNot' (tTr (eA bAll (aC (eLc (i1 (eV 0) iSeq) (gN 3) tT (eA (eF 1 F_p_is_whole) (aC (eV 3) aN)) [3]) aN)))))) (sRet (eC (.bl false))) sNil)
    (sSeq (sAsg (eV 0) (gT 2 (gsC (gN 1) (gsC (gN 2) gsN))))
    (sRet (eAnd (e2 dGe (eV 1) (eC (.int 0))) (eAnd (e2 dGe (eV 2) (eC (.int 1))) (e2 dEq (eA (eF 2 F_p_common) (aC (eV 1) (aC (eV 2) aN))) (eC (.int 1))))))))
noncomputable def F_p_is_fraction : List D → M D := runB 4 B_p_is_fraction
noncomputable def B_p_read_fraction : SM := (sSeq (sIf (tNot' (tTr (eA bIsi (aC (eV 0) (aC (eC (.ty "str")) aN))))) sBad sNil)
    (sSeq (sAsg (eM "str" mPart (eV 0) (aC (eC (.str "/")) aN)) (gT 3 (gsC (gN 1) (gsC (gN 2) (gsC (gN 3) gsN)))))
    (sSeq (sSet 4 (eA (eF 1 F_p_number_in) (aC (eV 1) aN)))
    (sSeq (sSet 5 (eC (.int 1)))
    (sSeq (sIf (tB' (e2 dNe (eV 2) (eC (.str "")))) (sSet 5 (eA (eF 1 F_p_number_in) (aC (eV 3) aN))) sNil)
    (sSeq (sIf (tOr' (tB' (e2 (isD false) (eV 4) (eC .non))) (tOr' (tB' (e2 (isD false) (eV 5) (eC .non))) (tOr' (tAnd' (tB' (e2 dNe (eV 2) (eC (.str "")))) (tB' (e2 dLt (eV 5) (eC (.int 2))))) (tB' (e2 dNe (eA (eF 2 F_p_common) (aC (eV 4) (aC (eV 5) aN))) (eC (.int 1))))))) sBad sNil)
    (sRet (eA mkT (aC (eV 4) (aC (eV 5) aN))))))))))
noncomputable def F_p_read_fraction : List D → M D := runB 6 B_p_read_fraction
noncomputable def B_p_are_names : SM := (sSeq (sIf (tOr' (tNot' (tTr (eA bIsi (aC (eV 0) (aC (eC (.ty "tuple")) aN))))) (tNot' (tTr (eG (eA bAll (aC (eLc (i1 (eV 0) iSeq) (gN 1) tT (eA (eF 1 F_p_is_name) (aC (eV 1) aN)) [1]) aN)))))) (sRet (eC (.bl false))) sNil)
    (sRet (eG (eA bAll (aC (eLc (iA (aC (eV 0) (aC (eSl (eV 0) (oS (eC (.int 1))) oN) aN)) iZip2) (gT 2 (gsC (gN 1) (gsC (gN 2) gsN))) tT (e2 dLt (eV 1) (eV 2)) [1, 2]) aN)))))
noncomputable def F_p_are_names : List D → M D := runB 3 B_p_are_names
noncomputable def B_p_tie_lines : SM := (sSeq (sAsg (eV 1) (gT 3 (gsC (gN 2) (gsC (gN 3) (gsC (gN 4) gsN)))))
    (sSeq (sSet 5 (eA mkL (aC (e2 dAdd (e2 dAdd (e2 dAdd (e2 dAdd (e2 dAdd (eC (.str "tie ")) (eV 0)) (eC (.str " "))) (eV 2)) (eC (.str " "))) (eV 3)) aN)))
    (sSeq (sG (sW [6] (sFor (i1 (eV 4) iSeq) (gN 6) (sG (sW [6] (sExpr (eG (eM "list" mApp (eV 5) (aC (eG (e2 dAdd (eC (.str "ride ")) (eG (eM "str" mJoin (eC (.str " ")) (aC (eLc (i1 (eV 6) iSeq) (gN 7) tT (eA (eF 1 F_p_fraction_text) (aC (eV 7) aN)) [7]) aN))))) aN)))))))))
    (sRet (eV 5)))))
noncomputable def F_p_tie_lines : List D → M D := runB 8 B_p_tie_lines
noncomputable def B_pot : SM := (sSeq (sSet 2 (eA (eF 2 F_at) (aC (eV 0) (aC (eV 1) aN))))
    (sRet (eA mkL (aC (eA bMax2 (aC (eC (.int 0)) (aC (e2 dSub (eV 2) (e2 dPow (eC (.int 10)) (eC (.int 18)))) aN))) (aC (e2 dMod (e2 dAdd (e2 dMod (eV 2) (eC (.int 2147483629))) (e2 dMul (eC (.int 48271)) (e2 dAdd (eV 1) (eC (.int 1))))) (eC (.int 2147483629))) aN)))))
noncomputable def F_pot : List D → M D := runB 3 B_pot
noncomputable def B_drawn : SM := (sRet (e2 dIx (eV 1) (eA (eF 2 F_take) (aC (eV 0) (aC (eA bLen (aC (eV 1) aN)) aN)))))
noncomputable def F_drawn : List D → M D := runB 2 B_drawn
noncomputable def B_ride : SM := (sSeq (sSet 2 (eG (e2 dAdd (eC (.int 1)) (eG (eA (eF 2 F_take) (aC (eV 0) (aC (eG (e2 dIx (eA mkL (aC (eC (.int 6)) (aC (e2 dPow (eC (.int 10)) (eC (.int 11))) aN))) (eA bInt (aC (e2 dGt (eV 1) (eC (.int 99))) aN)))) aN)))))))
    (sSeq (sSet 3 (eA (eF 2 F_take) (aC (eV 0) (aC (eV 1) aN))))
    (sSeq (sSet 4 (e2 dAdd (eV 3) (e2 dMul (eA (eF 2 F_take) (aC (eV 0) (aC (eV 1) aN))) (eA bInt (aC (e2 dGt (eA (eF 2 F_take) (aC (eV 0) (aC (eC (.int 4)) aN))) (eC (.int 0))) aN)))))
    (sSeq (sSet 5 (e2 dAdd (eV 3) (e2 dMul (eA (eF 2 F_take) (aC (eV 0) (aC (eV 1) aN))) (eA bInt (aC (e2 dGt (eA (eF 2 F_take) (aC (eV 0) (aC (eC (.int 3)) aN))) (eC (.int 0))) aN)))))
    (sSeq (sSet 6 (e2 dAdd (eV 4) (e2 dMul (eA (eF 2 F_take) (aC (eV 0) (aC (eV 1) aN))) (eA bInt (aC (e2 dGt (eA (eF 2 F_take) (aC (eV 0) (aC (eC (.int 3)) aN))) (eC (.int 0))) aN)))))
    (sSeq (sIf (tB' (e2 dEq (eV 4) (eV 3))) (sSet 6 (eV 5)) sNil)
    (sRet (eG (eA bTuple (aC (eLc (i1 (eA mkT (aC (eV 3) (aC (eV 4) (aC (eV 5) (aC (eV 6) aN))))) iSeq) (gN 7) tT (eA (eF 2 F_low) (aC (eV 7) (aC (eV 2) aN))) [7]) aN))))))))))
noncomputable def F_ride : List D → M D := runB 8 B_ride
noncomputable def B_chain : SM := (sSeq (sSet 1 (e2 dAdd (eC (.int 1)) (eA (eF 2 F_take) (aC (eV 0) (aC (eC (.int 6)) aN)))))
    (sSeq (sSet 2 (eA mkL aN))
    (sSeq (sAsg (eA mkT (aC (eC (.int 0)) (aC (eC (.int 0)) aN))) (gT 2 (gsC (gN 3) (gsC (gN 4) gsN))))
    (sSeq (sG (sW [3, 4, 5, 6, 7, 8] (sFor (iA (aC (e2 dAdd (eC (.int 1)) (eA (eF 2 F_take) (aC (eV 0) (aC (eC (.int 3)) aN)))) aN) iRange1) (gN 5) (sG (sW [5, 6, 7, 8] (sSeq (sSet 6 (eV 3))
    (sSeq (sSet 3 (e2 dAdd (e2 dAdd (eV 6) (eA (eF 2 F_take) (aC (eV 0) (aC (eC (.int 9)) aN)))) (eA bInt (aC (e2 dGt (eV 5) (eC (.int 0))) aN))))
    (sSeq (sSet 7 (e2 dAdd (eA bMax2 (aC (eV 4) (aC (eV 6) aN))) (e2 dMul (eA (eF 2 F_take) (aC (eV 0) (aC (eC (.int 4)) aN))) (eA (eF 2 F_take) (aC (eV 0) (aC (eC (.int 2)) aN))))))
    (sSeq (sSet 4 (e2 dAdd (eA bMax2 (aC (eV 7) (aC (eV 3) aN))) (e2 dMul (eA (eF 2 F_take) (aC (eV 0) (aC (eC (.int 5)) aN))) (eA bInt (aC (e2 dGt (eV 3) (eV 6)) aN)))))
    (sSeq (sSet 8 (eG (eA bTuple (aC (eLc (i1 (eA mkT (aC (eV 6) (aC (eV 3) (aC (eV 7) (aC (eV 4) aN))))) iSeq) (gN 9) tT (eA (eF 2 F_low) (aC (eV 9) (aC (eV 1) aN))) [9]) aN))))
    (sExpr (eM "list" mIns (eV 2) (aC (eA (eF 2 F_take) (aC (eV 0) (aC (e2 dAdd (eA bLen (aC (eV 2) aN)) (eC (.int 1))) aN))) (aC (eV 8) aN))))))))))))))
    (sRet (eG (e2 dAdd (eV 2) (eSl (eV 2) oN (oS (e2 dDiv (eA (eF 2 F_take) (aC (eV 0) (aC (eC (.int 4)) aN))) (eC (.int 3))))))))))))
noncomputable def F_chain : List D → M D := runB 10 B_chain
noncomputable def B_end : SM := (sSeq (sSet 2 (eA mkT (aC (eC (.int 0)) (aC (eC (.int 1)) aN))))
    (sSeq (sG (sW [3, 4, 5, 6] (sLock (eV 1) (sFor (iVal (eV 1)) (gT 3 (gsC (gN 3) (gsC (gN 4) (gsC (gN 5) gsN)))) (sG (sW [3, 4, 5, 6] (sG (sW [6] (sFor (i1 (eV 5) iSeq) (gN 6) (sG (sW [6] (sIf (tTr (eA (eF 2 F_under) (aC (eV 2) (aC (e2 dIx (eV 6) (eC (.int 1))) aN)))) (sSet 2 (e2 dIx (eV 6) (eC (.int 1)))) sNil))))))))))))
    (sSeq (sIf (tB' (e2 dGt (eA (eF 2 F_take) (aC (eV 0) (aC (eC (.int 3)) aN))) (eC (.int 0)))) (sSet 2 (eA mkT (aC (e2 dAdd (e2 dAdd (e2 dDiv (e2 dIx (eV 2) (eC (.int 0))) (e2 dIx (eV 2) (eC (.int 1)))) (eC (.int 1))) (eA (eF 2 F_take) (aC (eV 0) (aC (eC (.int 5)) aN)))) (aC (eC (.int 1)) aN)))) sNil)
    (sRet (eV 2)))))
noncomputable def F_end : List D → M D := runB 7 B_end
noncomputable def B_text : SM := (sSeq (sAsg (eV 0) (gT 3 (gsC (gN 1) (gsC (gN 2) (gsC (gN 3) gsN)))))
    (sSeq (sSet 4 (eA mkL (aC (e2 dAdd (eC (.str "end ")) (eA (eF 1 F_moment_text) (aC (eV 1) aN))) (aC (eG (eM "str" mJoin (eC (.str " ")) (aC (eG (e2 dAdd (eA mkL (aC (eC (.str "waits")) aN)) (eA bList (aC (eV 2) aN)))) aN))) aN))))
    (sSeq (sG (sW [5, 6, 7, 8] (sFor (i1 (eA bSortT (aC (eV 3) aN)) iSeq) (gN 5) (sG (sW [5, 6, 7, 8] (sSeq (sAsg (e2 dDG (eV 3) (eV 5)) (gT 3 (gsC (gN 6) (gsC (gN 7) (gsC (gN 8) gsN)))))
    (sSeq (sExpr (eM "list" mApp (eV 4) (aC (e2 dAdd (e2 dAdd (e2 dAdd (e2 dAdd (e2 dAdd (eC (.str "tie ")) (eV 5)) (eC (.str " "))) (eV 6)) (eC (.str " "))) (eV 7)) aN)))
    (sSet 4 (eG (e2 dAdd (eV 4) (eLc (i1 (eV 8) iSeq) (gN 9) tT (eG (e2 dAdd (eC (.str "ride ")) (eG (eM "str" mJoin (eC (.str " ")) (aC (eLc (i1 (eV 9) iSeq) (gN 10) tT (eA (eF 1 F_moment_text) (aC (eV 10) aN)) [10]) aN))))) [9])))))))))))
    (sRet (e2 dAdd (eM "str" mJoin (eC (.str "\n")) (aC (eV 4) aN)) (eC (.str "\n")))))))
noncomputable def F_text : List D → M D := runB 11 B_text
noncomputable def B_p_is_ride : SM := (sSeq (sIf (tOr' (tNot' (tTr (eA bIsi (aC (eV 0) (aC (eC (.ty "tuple")) aN))))) (tOr' (tB' (e2 dNe (eA bLen (aC (eV 0) aN)) (eC (.int 4)))) (tNot' (tTr (eG (eA bAll (aC (eLc (i1 (eV 0) iSeq) (gN 5) tT (eA (eF 1 F_p_is_fraction) (aC (eV 5) aN)) [5]) aN))))))) (sRet (eC (.bl false))) sNil)
    (sSeq (sAsg (eV 0) (gT 4 (gsC (gN 1) (gsC (gN 2) (gsC (gN 3) (gsC (gN 4) gsN))))))
    (sSeq (sIf (tOr' (tTr (eA (eF 2 F_p_is_below) (aC (eV 2) (aC (eV 1) aN)))) (tOr' (tTr (eA (eF 2 F_p_is_below) (aC (eV 3) (aC (eV 1) aN)))) (tTr (eA (eF 2 F_p_is_below) (aC (eV 4) (aC (eV 2) aN)))))) (sRet (eC (.bl false))) sNil)
    (sRet (eOr (e2 dNe (eV 1) (eV 2)) (e2 dEq (eV 3) (eV 4)))))))
noncomputable def F_p_is_ride : List D → M D := runB 6 B_p_is_ride
noncomputable def B_p_net_text : SM := (sSeq (sAsg (eV 0) (gT 3 (gsC (gN 1) (gsC (gN 2) (gsC (gN 3) gsN)))))
    (sSeq (sSet 4 (eA mkL (aC (e2 dAdd (eC (.str "end ")) (eA (eF 1 F_p_fraction_text) (aC (eV 1) aN))) (aC (eG (eM "str" mJoin (eC (.str " ")) (aC (eG (e2 dAdd (eA mkL (aC (eC (.str "waits")) aN)) (eA bList (aC (eV 2) aN)))) aN))) aN))))
    (sSeq (sG (sW [5] (sFor (i1 (eA bSortT (aC (eV 3) aN)) iSeq) (gN 5) (sG (sW [5] (sExpr (eG (eM "list" mExt (eV 4) (aC (eA (eF 2 F_p_tie_lines) (aC (eV 5) (aC (e2 dDG (eV 3) (eV 5)) aN))) aN)))))))))
    (sRet (eG (eM "str" mJoin (eC (.str "")) (aC (eLc (i1 (eV 4) iSeq) (gN 6) tT (e2 dAdd (eV 6) (eC (.str "\n"))) [6]) aN)))))))
noncomputable def F_p_net_text : List D → M D := runB 7 B_p_net_text
noncomputable def B_p_ride_in : SM := (sRet (eG (eA bTuple (aC (eLc (i1 (eV 0) iSeq) (gN 1) tT (eA (eF 1 F_p_read_fraction) (aC (eV 1) aN)) [1]) aN))))
noncomputable def F_p_ride_in : List D → M D := runB 2 B_p_ride_in
noncomputable def B_name : SM := (sSeq (sSet 2 (eC (.str "abcdefghijklmnopqrstuvwxyz")))
    (sSeq (sSet 3 (eG (eM "str" mJoin (eC (.str "")) (aC (eLc (iA (aC (e2 dAdd (eC (.int 1)) (e2 dMul (eA (eF 2 F_take) (aC (eV 0) (aC (eC (.int 2)) aN))) (eA (eF 2 F_take) (aC (eV 0) (aC (eC (.int 8)) aN))))) aN) iRange1) (gN 4) tT (eA (eF 2 F_drawn) (aC (eV 0) (aC (eV 2) aN))) [4]) aN))))
    (sSeq (sIf (tB' (e2 dEq (eA (eF 2 F_take) (aC (eV 0) (aC (eC (.int 12)) aN))) (eC (.int 11)))) (sSet 3 (eG (eA (eF 2 F_drawn) (aC (eV 0) (aC (eA mkL (aC (eC (.str "tie")) (aC (eC (.str "ride")) (aC (eC (.str "waits")) (aC (eC (.str "end")) (aC (eC (.str "without")) aN)))))) aN))))) sNil)
    (sSeq (sIf (tB' (e2 (dIn false) (eV 3) (eV 1))) (sSet 3 (eG (e2 dIx (eLc (i1 (eV 2) iSeq) (gN 5) (tG (tB' (e2 (dIn true) (eG (e2 dAdd (eSl (eV 3) oN (oS (eC (.int 7)))) (eV 5))) (eV 1)))) (eG (e2 dAdd (eSl (eV 3) oN (oS (eC (.int 7)))) (eV 5))) [5]) (eC (.int 0))))) sNil)
    (sSeq (sExpr (eM "list" mApp (eV 1) (aC (eV 3) aN)))
    (sRet (eV 3)))))))
noncomputable def F_name : List D → M D := runB 6 B_name
noncomputable def B_rides : SM := (sSeq (sIf (tB' (e2 dEq (eA (eF 2 F_take) (aC (eV 0) (aC (eC (.int 3)) aN))) (eC (.int 0)))) (sRet (eG (eA bTuple (aC (eA (eF 1 F_chain) (aC (eV 0) aN)) aN)))) sNil)
    (sRet (eG (eA bTuple (aC (eLc (iA (aC (eA (eF 2 F_take) (aC (eV 0) (aC (eC (.int 4)) aN))) aN) iRange1) (gN 2) tT (eA (eF 2 F_ride) (aC (eV 0) (aC (eV 1) aN))) [2]) aN)))))
noncomputable def F_rides : List D → M D := runB 3 B_rides
noncomputable def B_p_is_rides : SM := (sRet (eAnd (eA bIsi (aC (eV 0) (aC (eC (.ty "tuple")) aN))) (eG (eA bAll (aC (eLc (i1 (eV 0) iSeq) (gN 1) tT (eA (eF 1 F_p_is_ride) (aC (eV 1) aN)) [1]) aN)))))
noncomputable def F_p_is_rides : List D → M D := runB 2 B_p_is_rides
noncomputable def B_p_ties_in : SM := (sSeq (sSet 1 eDN)
    (sSeq (sSet 2 (eC .non))
    (sSeq (sG (sW [2, 3, 4, 5, 6] (sFor (i1 (eV 0) iSeq) (gN 3) (sG (sW [3, 4, 5, 6] (sIf (tAnd' (tB' (e2 dEq (e2 dIx (eV 3) (eC (.int 0))) (eC (.str "tie")))) (tB' (e2 dEq (eA bLen (aC (eV 3) aN)) (eC (.int 4))))) (sSeq (sSet 2 (e2 dIx (eV 3) (eC (.int 1))))
    (sAsg (eA mkT (aC (e2 dIx (eV 3) (eC (.int 2))) (aC (e2 dIx (eV 3) (eC (.int 3))) (aC (eA mkT aN) aN)))) (gS (eV 1) (eV 2) dSetD))) (sIf (tAnd' (tB' (e2 dEq (e2 dIx (eV 3) (eC (.int 0))) (eC (.str "ride")))) (tAnd' (tB' (e2 dEq (eA bLen (aC (eV 3) aN)) (eC (.int 5)))) (tB' (e2 (isD true) (eV 2) (eC .non))))) (sSeq (sAsg (e2 dDG (eV 1) (eV 2)) (gT 3 (gsC (gN 4) (gsC (gN 5) (gsC (gN 6) gsN)))))
    (sAsg (eA mkT (aC (eV 4) (aC (eV 5) (aC (eG (e2 dAdd (eV 6) (eA mkT (aC (eG (eA (eF 1 F_p_ride_in) (aC (eSl (eV 3) (oS (eC (.int 1))) oN) aN))) aN)))) aN)))) (gS (eV 1) (eV 2) dSetD))) sBad)))))))
    (sRet (eV 1)))))
noncomputable def F_p_ties_in : List D → M D := runB 7 B_p_ties_in
noncomputable def B_net : SM := (sSeq (sAsg (eA mkT (aC (eA mkL aN) (aC (eA mkL aN) (aC eDN aN)))) (gT 3 (gsC (gN 1) (gsC (gN 2) (gsC (gN 3) gsN)))))
    (sSeq (sSet 4 (eLc (iA (aC (e2 dAdd (eC (.int 2)) (eA (eF 2 F_take) (aC (eV 0) (aC (eC (.int 3)) aN)))) aN) iRange1) (gN 8) tT (eA (eF 2 F_name) (aC (eV 0) (aC (eV 1) aN))) [8]))
    (sSeq (sSet 5 (eG (eA (eF 2 F_drawn) (aC (eV 0) (aC (eA mkL (aC (eC (.int 12)) (aC (eC (.int 40)) (aC (e2 dMul (eC (.int 2)) (e2 dPow (eC (.int 10)) (eC (.int 11)))) aN)))) aN)))))
    (sSeq (sPar 6 7 (aC (eA (eF 2 F_take) (aC (eV 0) (aC (eC (.int 6)) aN))) (aC (e2 dEq (eA (eF 2 F_take) (aC (eV 0) (aC (eC (.int 8)) aN))) (eC (.int 7))) aN)))
    (sSeq (sG (sW [8, 9, 10, 11] (sFor (iA (aC (eIf (tTr (eV 7)) (eC (.int 10)) (eV 6)) aN) iRange1) (gN 8) (sG (sW [8, 9, 10, 11] (sSeq (sSet 9 (eA (eF 2 F_take) (aC (eV 0) (aC (eA bLen (aC (eV 4) aN)) aN))))
    (sSeq (sSet 10 (e2 dMod (e2 dAdd (e2 dAdd (eV 9) (eC (.int 1))) (eA (eF 2 F_take) (aC (eV 0) (aC (e2 dSub (eA bLen (aC (eV 4) aN)) (eC (.int 1))) aN)))) (eA bLen (aC (eV 4) aN))))
    (sSeq (sSet 11 (eIf (tTr (eV 7)) (eG (eA bTuple (aC (eLc (iA (aC (eC (.int 8)) aN) iRange1) (gN 13) tT (eA (eF 2 F_ride) (aC (eV 0) (aC (eC (.int 40)) aN))) [13]) aN))) (eA (eF 2 F_rides) (aC (eV 0) (aC (eV 5) aN)))))
    (sAsg (eA mkT (aC (e2 dIx (eV 4) (eV 9)) (aC (e2 dIx (eV 4) (eV 10)) (aC (eV 11) aN)))) (gS (eV 3) (eA (eF 2 F_name) (aC (eV 0) (aC (eV 2) aN))) dSetD))))))))))
    (sSeq (sSet 12 (eG (eA bTuple (aC (eG (eA bSortT (aC (eLc (i1 (eV 4) iSeq) (gN 14) (tB' (e2 dEq (eA (eF 2 F_take) (aC (eV 0) (aC (eC (.int 2)) aN))) (eC (.int 1)))) (eV 14) [14]) aN))) aN))))
    (sRet (eA mkT (aC (eA (eF 2 F_end) (aC (eV 0) (aC (eV 3) aN))) (aC (eV 12) (aC (eV 3) aN)))))))))))
noncomputable def F_net : List D → M D := runB2 15 B_net
noncomputable def B_p_is_tie : SM := (sSeq (sIf (tOr' (tNot' (tTr (eA bIsi (aC (eV 1) (aC (eC (.ty "tuple")) aN))))) (tOr' (tB' (e2 dNe (eA bLen (aC (eV 1) aN)) (eC (.int 3)))) (tOr' (tNot' (tTr (eA (eF 1 F_p_is_name) (aC (e2 dIx (eV 1) (eC (.int 0))) aN)))) (tNot' (tTr (eA (eF 1 F_p_is_name) (aC (e2 dIx (eV 1) (eC (.int 1))) aN))))))) (sRet (eC (.bl false))) sNil)
    (sSeq (sIf (tOr' (tB' (e2 dEq (e2 dIx (eV 1) (eC (.int 0))) (e2 dIx (eV 1) (eC (.int 1))))) (tNot' (tTr (eA (eF 1 F_p_is_rides) (aC (e2 dIx (eV 1) (eC (.int 2))) aN))))) (sRet (eC (.bl false))) sNil)
    (sRet (eNot (eG (eA bAny (aC (eLc (i1 (e2 dIx (eV 1) (eC (.int 2))) iSeq) (gN 2) tT (eA (eF 2 F_p_is_below) (aC (eV 0) (aC (e2 dIx (eV 2) (eC (.int 1))) aN))) [2]) aN)))))))
noncomputable def F_p_is_tie : List D → M D := runB 3 B_p_is_tie
noncomputable def B_p_is_net : SM := (sSeq (sIf (tOr' (tNot' (tTr (eA bIsi (aC (eV 0) (aC (eC (.ty "tuple")) aN))))) (tOr' (tB' (e2 dNe (eA bLen (aC (eV 0) aN)) (eC (.int 3)))) (tOr' (tNot' (tTr (eA (eF 1 F_p_is_fraction) (aC (e2 dIx (eV 0) (eC (.int 0))) aN)))) (tNot' (tTr (eA (eF 1 F_p_are_names) (aC (e2 dIx (eV 0) (eC (.int 1))) aN))))))) (sRet (eC (.bl false))) sNil)
    (sSeq (sIf (tNot' (tTr (eA bIsi (aC (e2 dIx (eV 0) (eC (.int 2))) (aC (eC (.ty "dict")) aN))))) (sRet (eC (.bl false))) sNil)
    (sRet (eG (eA bAll (aC (eLock (e2 dIx (eV 0) (eC (.int 2))) (eLc (iItm (e2 dIx (eV 0) (eC (.int 2)))) (gT 2 (gsC (gN 1) (gsC (gN 2) gsN))) tT (eAnd (eA (eF 1 F_p_is_name) (aC (eV 1) aN)) (eA (eF 2 F_p_is_tie) (aC (e2 dIx (eV 0) (eC (.int 0))) (aC (eV 2) aN)))) [1, 2])) aN))))))
noncomputable def F_p_is_net : List D → M D := runB 3 B_p_is_net
noncomputable def B_p_read_net : SM := (sSeq (sIf (tNot' (tTr (eA bIsi (aC (eV 0) (aC (eC (.ty "str")) aN))))) sBad sNil)
    (sSeq (sSet 1 (eLc (i1 (eSl (eM "str" mSplit (eV 0) (aC (eC (.str "\n")) aN)) oN (oS (e1 dNeg (eC (.int 1))))) iSeq) (gN 3) tT (eM "str" mSplit (eV 3) (aC (eC (.str " ")) aN)) [3]))
    (sSeq (sIf (tOr' (tB' (e2 dLt (eA bLen (aC (eV 1) aN)) (eC (.int 2)))) (tB' (e2 dNe (eA bLen (aC (e2 dIx (eV 1) (eC (.int 0))) aN)) (eC (.int 2))))) sBad sNil)
    (sSeq (sSet 2 (eA mkT (aC (eA (eF 1 F_p_read_fraction) (aC (e2 dIx (e2 dIx (eV 1) (eC (.int 0))) (eC (.int 1))) aN)) (aC (eG (eA bTuple (aC (eSl (e2 dIx (eV 1) (eC (.int 1))) (oS (eC (.int 1))) oN) aN))) (aC (eG (eA (eF 1 F_p_ties_in) (aC (eSl (eV 1) (oS (eC (.int 2))) oN) aN))) aN)))))
    (sSeq (sIf (tOr' (tNot' (tTr (eA (eF 1 F_p_is_net) (aC (eV 2) aN)))) (tG (tB' (e2 dNe (eA (eF 1 F_p_net_text) (aC (eV 2) aN)) (eV 0))))) sBad sNil)
    (sRet (eV 2)))))))
noncomputable def F_p_read_net : List D → M D := runB2 4 B_p_read_net
noncomputable def B_right : SM := (sSeq (sSet 1 (eA bReprN (aC (eV 0) aN)))
    (sSeq (sSet 2 (eA (eF 1 F_p_net_text) (aC (eV 0) aN)))
    (sSeq (sIf (tOr' (tG (tB' (e2 dNe (eV 2) (eA (eF 1 F_text) (aC (eV 0) aN))))) (tB' (e2 dNe (eA bReprN (aC (eV 0) aN)) (eV 1)))) (sRet (eC (.bl false))) sNil)
    (sSeq (sSet 3 (eA (eF 1 F_p_read_net) (aC (eV 2) aN)))
    (sSeq (sIf (tNot' (tTr (eA (eF 2 F_is_just) (aC (eV 3) (aC (eV 0) aN))))) (sRet (eC (.bl false))) sNil)
    (sSeq (sAsg (eA mkT (aC (eC (.str "a")) (aC (eC (.str "b")) (aC (eA mkT aN) aN)))) (gS (e2 dIx (eV 3) (eC (.int 2))) (eC (.str "zz")) dSetD))
    (sRet (eAnd (eG (eA (eF 2 F_is_just) (aC (eA (eF 1 F_p_read_net) (aC (eV 2) aN)) (aC (eV 0) aN)))) (eG (e2 dEq (eA (eF 1 F_p_net_text) (aC (eV 0) aN)) (eV 2)))))))))))
noncomputable def F_right : List D → M D := runB 4 B_right
noncomputable def B_law : SM := (sSeq (sSet 1 (eC .non))
    (sSeq (sG (sW [1, 2, 3] (sFor (iA (aC (eA bMax2 (aC (eC (.int 1)) (aC (eA bMin2 (aC (eA bLen (aC (eV 0) aN)) (aC (eC (.int 8)) aN))) aN))) aN) iRange1) (gN 2) (sG (sW [2, 3] (sSeq (sSet 3 (eA (eF 1 F_net) (aC (eA (eF 2 F_pot) (aC (eV 0) (aC (eV 2) aN))) aN)))
    (sSeq (sIf (tNot' (tTr (eA (eF 1 F_right) (aC (eV 3) aN)))) (sRet (eC (.bl false))) sNil)
    (sSeq (sIf (tAnd' (tB' (e2 (isD true) (eV 1) (eC .non))) (tNot' (tTr (eA (eF 1 F_right) (aC (eV 1) aN))))) (sRet (eC (.bl false))) sNil)
    (sSet 1 (eV 3))))))))))
    (sRet (eC (.bl true)))))
noncomputable def F_law : List D → M D := runB 4 B_law
structure TopF (K : PySem.W.Frag) (mg : Str → Option Value) : Prop where
  t_p_is_whole : Top K mg "is_whole" s_p_is_whole ["thing"]
  t_p_common : Top K mg "common" s_p_common ["one", "other"]
  t_p_is_below : Top K mg "is_below" s_p_is_below ["one", "other"]
  t_p_fraction_text : Top K mg "fraction_text" s_p_fraction_text ["moment"]
  t_p_number_in : Top K mg "number_in" s_p_number_in ["figures"]
  t_p_is_name : Top K mg "is_name" s_p_is_name ["thing"]
  t_at : Top K mg "_law_at" s_at ["_law_script", "_law_k"]
  t_take : Top K mg "_law_take" s_take ["_law_pot_here", "_law_many"]
  t_low : Top K mg "_law_low" s_low ["_law_n", "_law_d"]
  t_under : Top K mg "_law_under" s_under ["_law_one", "_law_other"]
  t_moment_text : Top K mg "_law_moment_text" s_moment_text ["_law_moment"]
  t_is_just : Top K mg "_law_is_just" s_is_just ["_law_told", "_law_net_here"]
  t_p_is_fraction : Top K mg "is_fraction" s_p_is_fraction ["thing"]
  t_p_read_fraction : Top K mg "read_fraction" s_p_read_fraction ["text"]
  t_p_are_names : Top K mg "are_names" s_p_are_names ["thing"]
  t_p_tie_lines : Top K mg "tie_lines" s_p_tie_lines ["name", "tie"]
  t_pot : Top K mg "_law_pot" s_pot ["_law_script", "_law_k"]
  t_drawn : Top K mg "_law_drawn" s_drawn ["_law_pot_here", "_law_some"]
  t_ride : Top K mg "_law_ride" s_ride ["_law_pot_here", "_law_room"]
  t_chain : Top K mg "_law_chain" s_chain ["_law_pot_here"]
  t_end : Top K mg "_law_end" s_end ["_law_pot_here", "_law_ties"]
  t_text : Top K mg "_law_text" s_text ["_law_net_here"]
  t_p_is_ride : Top K mg "is_ride" s_p_is_ride ["thing"]
  t_p_net_text : Top K mg "net_text" s_p_net_text ["net"]
  t_p_ride_in : Top K mg "ride_in" s_p_ride_in ["words"]
  t_name : Top K mg "_law_name" s_name ["_law_pot_here", "_law_taken"]
  t_rides : Top K mg "_law_rides" s_rides ["_law_pot_here", "_law_room"]
  t_p_is_rides : Top K mg "is_rides" s_p_is_rides ["thing"]
  t_p_ties_in : Top K mg "ties_in" s_p_ties_in ["rows"]
  t_net : Top K mg "_law_net" s_net ["_law_pot_here"]
  t_p_is_tie : Top K mg "is_tie" s_p_is_tie ["end", "thing"]
  t_p_is_net : Top K mg "is_net" s_p_is_net ["thing"]
  t_p_read_net : Top K mg "read_net" s_p_read_net ["text"]
  t_right : Top K mg "_law_right" s_right ["_law_net_here"]
  t_law : Top K mg "law" s_law ["_law_script"]
  z_all : mg "all" = none
  z_any : mg "any" = none
  z_bool : mg "bool" = none
  z_dict : mg "dict" = none
  z_divmod : mg "divmod" = none
  z_int : mg "int" = none
  z_isinstance : mg "isinstance" = none
  z_len : mg "len" = none
  z_list : mg "list" = none
  z_max : mg "max" = none
  z_min : mg "min" = none
  z_range : mg "range" = none
  z_repr : mg "repr" = none
  z_sorted : mg "sorted" = none
  z_str : mg "str" = none
  z_tuple : mg "tuple" = none
  z_zip : mg "zip" = none
  c_FIGURES : CF K mg "FIGURES" k_FIGURES
  c_LETTERS : CF K mg "LETTERS" k_LETTERS
  c_MOST_LETTERS : CF K mg "MOST_LETTERS" k_MOST_LETTERS
section
variable {P : Program} {w : World} {K : PySem.W.Frag} {mg : Str → Option Value} {base : Heap}
theorem d_p_is_whole (T : TopF K mg) : Def P w K mg base 1 "is_whole" ["thing"] F_p_is_whole := by
  have sc := sc_p_is_whole
  refine def_mk (body := B_p_is_whole) (N := ["thing"]) T.t_p_is_whole sc fun f cdv A outer s H E hr => ?_
  exact (ds_one (ds_ret (de_and (de_bt call_isi lift_isi T.z_isinstance (da_cons (de_var 0) (da_cons (de_tyname T.z_int) da_nil))) (de_one (de_not (de_bt call_isi lift_isi T.z_isinstance (da_cons (de_var 0) (da_cons (de_tyname T.z_bool) da_nil))))))))
theorem d_p_common (T : TopF K mg) : Def P w K mg base 1 "common" ["one", "other"] F_p_common := by
  have sc := sc_p_common
  refine def_mk (body := B_p_common) (N := ["one", "other"]) T.t_p_common sc fun f cdv A outer s H E hr => ?_
  exact (ds_cons (ds_while PassesOwn.never (dt_cmp op_gtD lift_ord (de_var 1) de_int) (ds_one (ds_par 0 1 rfl sc.nd (da_cons (de_var 1) (da_cons (de_mod (de_var 0) (de_var 1)) da_nil)))))
    (ds_one (ds_ret (de_var 0))))
theorem d_p_is_below (T : TopF K mg) : Def P w K mg base 1 "is_below" ["one", "other"] F_p_is_below := by
  have sc := sc_p_is_below
  refine def_mk (body := B_p_is_below) (N := ["one", "other"]) T.t_p_is_below sc fun f cdv A outer s H E hr => ?_
  exact (ds_one (ds_ret (de_cmp op_ltD lift_ord (de_mul (de_ixD (de_var 0) de_int) (de_ixD (de_var 1) de_int)) (de_mul (de_ixD (de_var 1) de_int) (de_ixD (de_var 0) de_int)))))
theorem d_p_fraction_text (T : TopF K mg) : Def P w K mg base 1 "fraction_text" ["moment"] F_p_fraction_text := by
  have sc := sc_p_fraction_text
  refine def_mk (body := B_p_fraction_text) (N := ["moment", "n", "d"]) T.t_p_fraction_text sc fun f cdv A outer s H E hr => ?_
  exact (ds_cons (ds_asg (de_var 0) (dg_tup rfl (dgs_cons (dg_name sc.nd (i := 1)) (dgs_cons (dg_name sc.nd (i := 2)) dgs_nil))))
    (ds_cons (ds_if (dt_cmp (op_eqD' (hu64 hr)) lift_eq (de_var 2) de_int) (ds_one (ds_ret (de_ty call_str_int lift_str T.z_str (da_cons (de_var 1) da_nil)))) ds_nil)
    (ds_one (ds_ret (de_add (de_add (de_ty call_str_int lift_str T.z_str (da_cons (de_var 1) da_nil)) de_str) (de_ty call_str_int lift_str T.z_str (da_cons (de_var 2) da_nil)))))))
theorem d_p_number_in (T : TopF K mg) : Def P w K mg base 1 "number_in" ["figures"] F_p_number_in := by
  have sc := sc_p_number_in
  refine def_mk (body := B_p_number_in) (N := ["figures", "found", "sign"]) T.t_p_number_in sc fun f cdv A outer s H E hr => ?_
  exact (ds_cons (ds_if (dt_w (dw_or (dt_cmp (op_eqD' (hu64 hr)) lift_eq (de_var 0) de_str) (dw_or1 (dt_not (dt_tr (de_bt (cr_all rfl) lift_all T.z_all (da_cons (de_lc (own := [("sign", 2)]) rfl sc.nd (di_seq (de_var 0)) (blkOk_by (N := ["figures", "found", "sign"]) (sc := defScope s_p_number_in) (by decide +kernel)) (lg_name sc.nd (i := 2)) (fun _ _ _ _ _ => pts_T) (fun _ _ _ _ _ => (de_cmp (op_inX (hu65 hr)) lift_in (de_var 2) (T.c_FIGURES.de)))) da_nil))))))) (ds_one (ds_ret de_non)) ds_nil)
    (ds_cons (ds_if (dt_w (dw_and (dt_cmp (op_eqD' (hu64 hr)) lift_eq (de_ixD (de_var 0) de_int) de_str) (dw_and1 (dt_cmp (op_neD' (hu64 hr)) lift_eq (de_var 0) de_str)))) (ds_one (ds_ret de_non)) ds_nil)
    (ds_cons (ds_set 1 sc.nd de_int)
    (ds_cons (ds_for PassesOwn.never rfl (di_seq (de_var 0)) (dg_name sc.nd (i := 2)) (ds_one (ds_set 1 sc.nd (de_add (de_mul de_int (de_var 1)) (de_m PySem.F.plainAttrs_str PySem.F.slot_str_index PySem.F.type_str_index mt_sindex lift_sindex (T.c_FIGURES.de) (da_cons (de_var 2) da_nil))))))
    (ds_one (ds_ret (de_var 1)))))))
theorem d_p_is_name (T : TopF K mg) : Def P w K mg base 1 "is_name" ["thing"] F_p_is_name := by
  have sc := sc_p_is_name
  refine def_mk (body := B_p_is_name) (N := ["thing", "sign"]) T.t_p_is_name sc fun f cdv A outer s H E hr => ?_
  exact (ds_cons (ds_if (dt_w (dw_or (dt_not (dt_tr (de_bt call_isi lift_isi T.z_isinstance (da_cons (de_var 0) (da_cons (de_tyname T.z_str) da_nil))))) (dw_or1 (dt_not (dt_chain op_leD lift_ord op_leD lift_ord de_int (de_bt call_lenA lift_len T.z_len (da_cons (de_var 0) da_nil)) (T.c_MOST_LETTERS.de)))))) (ds_one (ds_ret de_bl)) ds_nil)
    (ds_one (ds_ret (de_gc (de_bt (cr_all rfl) lift_all T.z_all (da_cons (de_lc (own := [("sign", 1)]) rfl sc.nd (di_seq (de_var 0)) (blkOk_by (N := ["thing", "sign"]) (sc := defScope s_p_is_name) (by decide +kernel)) (lg_name sc.nd (i := 1)) (fun _ _ _ _ _ => pts_T) (fun _ _ _ _ _ => (de_cmp (op_inX (hu65 hr)) lift_in (de_var 1) (T.c_LETTERS.de)))) da_nil))))))
theorem d_at (T : TopF K mg) : Def P w K mg base 1 "_law_at" ["_law_script", "_law_k"] F_at := by
  have sc := sc_at
  refine def_mk (body := B_at) (N := ["_law_script", "_law_k"]) T.t_at sc fun f cdv A outer s H E hr => ?_
  exact (ds_one (ds_ret (de_if (dt_cmp op_ltD lift_ord (de_var 1) (de_bt call_lenA lift_len T.z_len (da_cons (de_var 0) da_nil))) (de_ixD (de_var 0) (de_var 1)) de_int)))
theorem d_take (T : TopF K mg) : Def P w K mg base 1 "_law_take" ["_law_pot_here", "_law_many"] F_take := by
  have sc := sc_take
  refine def_mk (body := B_take) (N := ["_law_pot_here", "_law_many", "_law_digit"]) T.t_take sc fun f cdv A outer s H E hr => ?_
  exact (ds_cons (ds_if (dt_cmp op_gtD lift_ord (de_ixD (de_var 0) de_int) de_int) (ds_cons (ds_asg (de_bt call_divmodW lift_divmod T.z_divmod (da_cons (de_ixD (de_var 0) de_int) (da_cons (de_var 1) da_nil))) (dg_tup rfl (dgs_cons (dg_sub set_list lift_setL (de_var 0) de_int) (dgs_cons (dg_name sc.nd (i := 2)) dgs_nil))))
    (ds_one (ds_ret (de_var 2)))) ds_nil)
    (ds_cons (ds_asg (de_mod (de_add (de_mul (de_ixD (de_var 0) de_int) de_int) de_int) de_int) (dg_sub set_list lift_setL (de_var 0) de_int))
    (ds_one (ds_ret (de_mod (de_div (de_mod (de_mul (de_ixD (de_var 0) de_int) (de_ixD (de_var 0) de_int)) de_int) de_int) (de_var 1))))))
theorem d_low (T : TopF K mg) : Def P w K mg base 1 "_law_low" ["_law_n", "_law_d"] F_low := by
  have sc := sc_low
  refine def_mk (body := B_low) (N := ["_law_n", "_law_d", "_law_one", "_law_other"]) T.t_low sc fun f cdv A outer s H E hr => ?_
  exact (ds_cons (ds_par 2 3 rfl sc.nd (da_cons (de_var 0) (da_cons (de_var 1) da_nil)))
    (ds_cons (ds_while PassesOwn.never (dt_cmp op_gtD lift_ord (de_var 3) de_int) (ds_one (ds_par 2 3 rfl sc.nd (da_cons (de_var 3) (da_cons (de_mod (de_var 2) (de_var 3)) da_nil)))))
    (ds_one (ds_ret (de_tup (da_cons (de_div (de_var 0) (de_var 2)) (da_cons (de_div (de_var 1) (de_var 2)) da_nil)))))))
theorem d_under (T : TopF K mg) : Def P w K mg base 1 "_law_under" ["_law_one", "_law_other"] F_under := by
  have sc := sc_under
  refine def_mk (body := B_under) (N := ["_law_one", "_law_other"]) T.t_under sc fun f cdv A outer s H E hr => ?_
  exact (ds_one (ds_ret (de_cmp op_ltD lift_ord (de_mul (de_ixD (de_var 0) de_int) (de_ixD (de_var 1) de_int)) (de_mul (de_ixD (de_var 1) de_int) (de_ixD (de_var 0) de_int)))))
theorem d_moment_text (T : TopF K mg) : Def P w K mg base 1 "_law_moment_text" ["_law_moment"] F_moment_text := by
  have sc := sc_moment_text
  refine def_mk (body := B_moment_text) (N := ["_law_moment"]) T.t_moment_text sc fun f cdv A outer s H E hr => ?_
  exact (ds_cons (ds_if (dt_cmp (op_eqD' (hu64 hr)) lift_eq (de_ixD (de_var 0) de_int) de_int) (ds_one (ds_ret (de_ty call_str_int lift_str T.z_str (da_cons (de_ixD (de_var 0) de_int) da_nil)))) ds_nil)
    (ds_one (ds_ret (de_add (de_add (de_ty call_str_int lift_str T.z_str (da_cons (de_ixD (de_var 0) de_int) da_nil)) de_str) (de_ty call_str_int lift_str T.z_str (da_cons (de_ixD (de_var 0) de_int) da_nil))))))
theorem d_is_just (T : TopF K mg) : DefG P w K mg base 1 "_law_is_just" ["_law_told", "_law_net_here"] F_is_just := by
  have sc := sc_is_just
  refine defG_mk (body := B_is_just) (N := ["_law_told", "_law_net_here"]) T.t_is_just sc fun f cdv A outer s H E hgd hr => ?_
  exact (ds_cons (ds_if (dt_w (dw_or (dt_not (dt_tr (de_bt call_isi lift_isi T.z_isinstance (da_cons (de_var 0) (da_cons (de_tyname T.z_tuple) da_nil))))) (dw_or (dt_cmp (op_neD' (hu64 hr)) lift_eq (de_bt call_lenA lift_len T.z_len (da_cons (de_var 0) da_nil)) de_int) (dw_or1 (dt_not (dt_tr (de_bt call_isi lift_isi T.z_isinstance (da_cons (de_ixD (de_var 0) de_int) (da_cons (de_tyname T.z_dict) da_nil))))))))) (ds_one (ds_ret de_bl)) ds_nil)
    (ds_one (ds_ret (de_gc (de_cmp (op_eqD' (hu64 hr)) lift_eq (de_gc (de_reprN hgd (hu64 hr) T.z_repr (da_cons (de_lst (da_cons (de_ixD (de_var 0) de_int) (da_cons (de_ixD (de_var 0) de_int) (da_cons (de_sortIt rfl T.z_sorted (de_ixD (de_var 0) de_int)) da_nil)))) da_nil))) (de_gc (de_reprN hgd (hu64 hr) T.z_repr (da_cons (de_lst (da_cons (de_ixD (de_var 1) de_int) (da_cons (de_ixD (de_var 1) de_int) (da_cons (de_sortIt rfl T.z_sorted (de_ixD (de_var 1) de_int)) da_nil)))) da_nil))))))))
theorem d_p_is_fraction (T : TopF K mg) : Def P w K mg base 2 "is_fraction" ["thing"] F_p_is_fraction := by
  have sc := sc_p_is_fraction
  refine def_mk (body := B_p_is_fraction) (N := ["thing", "n", "d", "one"]) T.t_p_is_fraction sc fun f cdv A outer s H E hr => ?_
  exact (ds_cons (ds_if (dt_w (dw_or (dt_not (dt_tr (de_bt call_isi lift_isi T.z_isinstance (da_cons (de_var 0) (da_cons (de_tyname T.z_tuple) da_nil))))) (dw_or (dt_cmp (op_neD' (hu64 hr)) lift_eq (de_bt call_lenA lift_len T.z_len (da_cons (de_var 0) da_nil)) de_int) (dw_or1 (dt_not (dt_tr (de_bt (cr_all rfl) lift_all T.z_all (da_cons (de_lc (own := [("one", 3)]) rfl sc.nd (di_seq (de_var 0)) (blkOk_by (N := ["thing", "n", "d", "one"]) (sc := defScope s_p_is_fraction) (by decide +kernel)) (lg_name sc.nd (i := 3)) (fun _ _ _ _ _ => pts_T) (fun _ _ _ _ _ => (de_def (d_p_is_whole T) (hr.mono (by decide)) (da_cons (de_var 3) da_nil)))) da_nil)))))))) (ds_one (ds_ret de_bl)) ds_nil)
    (ds_cons (ds_asg (de_var 0) (dg_tup rfl (dgs_cons (dg_name sc.nd (i := 1)) (dgs_cons (dg_name sc.nd (i := 2)) dgs_nil))))
    (ds_one (ds_ret (de_and (de_cmp op_geD lift_ord (de_var 1) de_int) (de_and (de_cmp op_geD lift_ord (de_var 2) de_int) (de_one (de_cmp (op_eqD' (hu64 hr)) lift_eq (de_def (d_p_common T) (hr.mono (by decide)) (da_cons (de_var 1) (da_cons (de_var 2) da_nil))) de_int))))))))
theorem d_p_read_fraction (T : TopF K mg) : Def P w K mg base 2 "read_fraction" ["text"] F_p_read_fraction := by
  have sc := sc_p_read_fraction
  refine def_mk (body := B_p_read_fraction) (N := ["text", "above", "stroke", "below", "n", "d"]) T.t_p_read_fraction sc fun f cdv A outer s H E hr => ?_
  exact (ds_cons (ds_if (dt_not (dt_tr (de_bt call_isi lift_isi T.z_isinstance (da_cons (de_var 0) (da_cons (de_tyname T.z_str) da_nil))))) (ds_one ds_bad) ds_nil)
    (ds_cons (ds_asg (de_m PySem.F.plainAttrs_str PySem.F.slot_str_partition PySem.F.type_str_partition mt_partition lift_part (de_var 0) (da_cons de_str da_nil)) (dg_tup rfl (dgs_cons (dg_name sc.nd (i := 1)) (dgs_cons (dg_name sc.nd (i := 2)) (dgs_cons (dg_name sc.nd (i := 3)) dgs_nil)))))
    (ds_cons (ds_set 4 sc.nd (de_def (d_p_number_in T) (hr.mono (by decide)) (da_cons (de_var 1) da_nil)))
    (ds_cons (ds_set 5 sc.nd de_int)
    (ds_cons (ds_if (dt_cmp (op_neD' (hu64 hr)) lift_eq (de_var 2) de_str) (ds_one (ds_set 5 sc.nd (de_def (d_p_number_in T) (hr.mono (by decide)) (da_cons (de_var 3) da_nil)))) ds_nil)
    (ds_cons (ds_if (dt_w (dw_or (dt_cmp op_isD lift_is (de_var 4) de_non) (dw_or (dt_cmp op_isD lift_is (de_var 5) de_non) (dw_or (dt_w (dw_and (dt_cmp (op_neD' (hu64 hr)) lift_eq (de_var 2) de_str) (dw_and1 (dt_cmp op_ltD lift_ord (de_var 5) de_int)))) (dw_or1 (dt_cmp (op_neD' (hu64 hr)) lift_eq (de_def (d_p_common T) (hr.mono (by decide)) (da_cons (de_var 4) (da_cons (de_var 5) da_nil))) de_int)))))) (ds_one ds_bad) ds_nil)
    (ds_one (ds_ret (de_tup (da_cons (de_var 4) (da_cons (de_var 5) da_nil)))))))))))
theorem d_p_are_names (T : TopF K mg) : Def P w K mg base 2 "are_names" ["thing"] F_p_are_names := by
  have sc := sc_p_are_names
  refine def_mk (body := B_p_are_names) (N := ["thing", "one", "other"]) T.t_p_are_names sc fun f cdv A outer s H E hr => ?_
  exact (ds_cons (ds_if (dt_w (dw_or (dt_not (dt_tr (de_bt call_isi lift_isi T.z_isinstance (da_cons (de_var 0) (da_cons (de_tyname T.z_tuple) da_nil))))) (dw_or1 (dt_not (dt_tr (de_gc (de_bt (cr_all rfl) lift_all T.z_all (da_cons (de_lc (own := [("one", 1)]) rfl sc.nd (di_seq (de_var 0)) (blkOk_by (N := ["thing", "one", "other"]) (sc := defScope s_p_are_names) (by decide +kernel)) (lg_name sc.nd (i := 1)) (fun _ _ _ _ _ => pts_T) (fun _ _ _ _ _ => (de_def (d_p_is_name T) (hr.mono (by decide)) (da_cons (de_var 1) da_nil)))) da_nil)))))))) (ds_one (ds_ret de_bl)) ds_nil)
    (ds_one (ds_ret (de_gc (de_bt (cr_all rfl) lift_all T.z_all (da_cons (de_lc (own := [("one", 1), ("other", 2)]) rfl sc.nd (di_zip2 T.z_zip (da_cons (de_var 0) (da_cons (de_sl (de_var 0) (do_some de_int) do_none) da_nil))) (blkOk_by (N := ["thing", "one", "other"]) (sc := defScope s_p_are_names) (by decide +kernel)) (lg_tup rfl (lgs_cons (lg_name sc.nd (i := 1)) (lgs_cons (lg_name sc.nd (i := 2)) lgs_nil))) (fun _ _ _ _ _ => pts_T) (fun _ _ _ _ _ => (de_cmp op_ltD lift_ord (de_var 1) (de_var 2)))) da_nil))))))
theorem d_p_tie_lines (T : TopF K mg) : Def P w K mg base 2 "tie_lines" ["name", "tie"] F_p_tie_lines := by
  have sc := sc_p_tie_lines
  refine def_mk (body := B_p_tie_lines) (N := ["name", "tie", "start", "goal", "rides", "found", "ride", "moment"]) T.t_p_tie_lines sc fun f cdv A outer s H E hr => ?_
  exact (ds_cons (ds_asg (de_var 1) (dg_tup rfl (dgs_cons (dg_name sc.nd (i := 2)) (dgs_cons (dg_name sc.nd (i := 3)) (dgs_cons (dg_name sc.nd (i := 4)) dgs_nil)))))
    (ds_cons (ds_set 5 sc.nd (de_lst (da_cons (de_add (de_add (de_add (de_add (de_add de_str (de_var 0)) de_str) (de_var 2)) de_str) (de_var 3)) da_nil)))
    (ds_cons (ds_gc (ds_wp [6] (ds_for PassesOwn.never rfl (di_seq (de_var 4)) (dg_name sc.nd (i := 6)) (dss_gc (dss_wp [6] (ds_one (ds_expr (de_gc (de_app (de_var 5) (da_cons (de_gc (de_add de_str (de_gc (de_m PySem.F.plainAttrs_str PySem.F.slot_str_join PySem.F.type_str_join mt_join lift_join de_str (da_cons (de_lc (own := [("moment", 7)]) rfl sc.nd (di_seq (de_var 6)) (blkOk_by (N := ["name", "tie", "start", "goal", "rides", "found", "ride", "moment"]) (sc := defScope s_p_tie_lines) (by decide +kernel)) (lg_name sc.nd (i := 7)) (fun _ _ _ _ _ => pts_T) (fun _ _ _ _ _ => (de_def (d_p_fraction_text T) (hr.mono (by decide)) (da_cons (de_var 7) da_nil)))) da_nil))))) da_nil))))))))))
    (ds_one (ds_ret (de_var 5))))))
theorem d_pot (T : TopF K mg) : Def P w K mg base 2 "_law_pot" ["_law_script", "_law_k"] F_pot := by
  have sc := sc_pot
  refine def_mk (body := B_pot) (N := ["_law_script", "_law_k", "_law_cell"]) T.t_pot sc fun f cdv A outer s H E hr => ?_
  exact (ds_cons (ds_set 2 sc.nd (de_def (d_at T) (hr.mono (by decide)) (da_cons (de_var 0) (da_cons (de_var 1) da_nil))))
    (ds_one (ds_ret (de_lst (da_cons (de_bt (call_max2 rfl) lift_bII T.z_max (da_cons de_int (da_cons (de_sub (de_var 2) (de_pow de_int de_int)) da_nil))) (da_cons (de_mod (de_add (de_mod (de_var 2) de_int) (de_mul de_int (de_add (de_var 1) de_int))) de_int) da_nil))))))
theorem d_drawn (T : TopF K mg) : Def P w K mg base 2 "_law_drawn" ["_law_pot_here", "_law_some"] F_drawn := by
  have sc := sc_drawn
  refine def_mk (body := B_drawn) (N := ["_law_pot_here", "_law_some"]) T.t_drawn sc fun f cdv A outer s H E hr => ?_
  exact (ds_one (ds_ret (de_ixD (de_var 1) (de_def (d_take T) (hr.mono (by decide)) (da_cons (de_var 0) (da_cons (de_bt call_lenA lift_len T.z_len (da_cons (de_var 1) da_nil)) da_nil))))))
theorem d_ride (T : TopF K mg) : Def P w K mg base 2 "_law_ride" ["_law_pot_here", "_law_room"] F_ride := by
  have sc := sc_ride
  refine def_mk (body := B_ride) (N := ["_law_pot_here", "_law_room", "_law_den", "_law_first", "_law_final", "_law_come", "_law_comes", "_law_number"]) T.t_ride sc fun f cdv A outer s H E hr => ?_
  exact (ds_cons (ds_set 2 sc.nd (de_gc (de_add de_int (de_gc (de_def (d_take T) (hr.mono (by decide)) (da_cons (de_var 0) (da_cons (de_gc (de_ixD (de_lst (da_cons de_int (da_cons (de_pow de_int de_int) da_nil))) (de_ty call_int1 lift_int T.z_int (da_cons (de_cmp op_gtD lift_ord (de_var 1) de_int) da_nil)))) da_nil)))))))
    (ds_cons (ds_set 3 sc.nd (de_def (d_take T) (hr.mono (by decide)) (da_cons (de_var 0) (da_cons (de_var 1) da_nil))))
    (ds_cons (ds_set 4 sc.nd (de_add (de_var 3) (de_mul (de_def (d_take T) (hr.mono (by decide)) (da_cons (de_var 0) (da_cons (de_var 1) da_nil))) (de_ty call_int1 lift_int T.z_int (da_cons (de_cmp op_gtD lift_ord (de_def (d_take T) (hr.mono (by decide)) (da_cons (de_var 0) (da_cons de_int da_nil))) de_int) da_nil)))))
    (ds_cons (ds_set 5 sc.nd (de_add (de_var 3) (de_mul (de_def (d_take T) (hr.mono (by decide)) (da_cons (de_var 0) (da_cons (de_var 1) da_nil))) (de_ty call_int1 lift_int T.z_int (da_cons (de_cmp op_gtD lift_ord (de_def (d_take T) (hr.mono (by decide)) (da_cons (de_var 0) (da_cons de_int da_nil))) de_int) da_nil)))))
    (ds_cons (ds_set 6 sc.nd (de_add (de_var 4) (de_mul (de_def (d_take T) (hr.mono (by decide)) (da_cons (de_var 0) (da_cons (de_var 1) da_nil))) (de_ty call_int1 lift_int T.z_int (da_cons (de_cmp op_gtD lift_ord (de_def (d_take T) (hr.mono (by decide)) (da_cons (de_var 0) (da_cons de_int da_nil))) de_int) da_nil)))))
    (ds_cons (ds_if (dt_cmp (op_eqD' (hu64 hr)) lift_eq (de_var 4) (de_var 3)) (ds_one (ds_set 6 sc.nd (de_var 5))) ds_nil)
    (ds_one (ds_ret (de_gc (de_ty call_tuple_of lift_tuple T.z_tuple (da_cons (de_lc (own := [("_law_number", 7)]) rfl sc.nd (di_seq (de_tup (da_cons (de_var 3) (da_cons (de_var 4) (da_cons (de_var 5) (da_cons (de_var 6) da_nil)))))) (blkOk_by (N := ["_law_pot_here", "_law_room", "_law_den", "_law_first", "_law_final", "_law_come", "_law_comes", "_law_number"]) (sc := defScope s_ride) (by decide +kernel)) (lg_name sc.nd (i := 7)) (fun _ _ _ _ _ => pts_T) (fun _ _ _ _ _ => (de_def (d_low T) (hr.mono (by decide)) (da_cons (de_var 7) (da_cons (de_var 2) da_nil))))) da_nil)))))))))))
theorem d_chain (T : TopF K mg) : Def P w K mg base 2 "_law_chain" ["_law_pot_here"] F_chain := by
  have sc := sc_chain
  refine def_mk (body := B_chain) (N := ["_law_pot_here", "_law_den", "_law_found", "_law_end_here", "_law_high", "_law_k", "_law_begin", "_law_low_here", "_law_ride_here", "_law_number"]) T.t_chain sc fun f cdv A outer s H E hr => ?_
  exact (ds_cons (ds_set 1 sc.nd (de_add de_int (de_def (d_take T) (hr.mono (by decide)) (da_cons (de_var 0) (da_cons de_int da_nil)))))
    (ds_cons (ds_set 2 sc.nd (de_lst da_nil))
    (ds_cons (ds_asg (de_tup (da_cons de_int (da_cons de_int da_nil))) (dg_tup rfl (dgs_cons (dg_name sc.nd (i := 3)) (dgs_cons (dg_name sc.nd (i := 4)) dgs_nil))))
    (ds_cons (ds_gc (ds_wp [3, 4, 5, 6, 7, 8] (ds_for PassesOwn.never rfl (di_range1 T.z_range (da_cons (de_add de_int (de_def (d_take T) (hr.mono (by decide)) (da_cons (de_var 0) (da_cons de_int da_nil)))) da_nil)) (dg_name sc.nd (i := 5)) (dss_gc (dss_wp [5, 6, 7, 8] (ds_cons (ds_set 6 sc.nd (de_var 3))
    (ds_cons (ds_set 3 sc.nd (de_add (de_add (de_var 6) (de_def (d_take T) (hr.mono (by decide)) (da_cons (de_var 0) (da_cons de_int da_nil)))) (de_ty call_int1 lift_int T.z_int (da_cons (de_cmp op_gtD lift_ord (de_var 5) de_int) da_nil))))
    (ds_cons (ds_set 7 sc.nd (de_add (de_bt (call_max2 rfl) lift_bII T.z_max (da_cons (de_var 4) (da_cons (de_var 6) da_nil))) (de_mul (de_def (d_take T) (hr.mono (by decide)) (da_cons (de_var 0) (da_cons de_int da_nil))) (de_def (d_take T) (hr.mono (by decide)) (da_cons (de_var 0) (da_cons de_int da_nil))))))
    (ds_cons (ds_set 4 sc.nd (de_add (de_bt (call_max2 rfl) lift_bII T.z_max (da_cons (de_var 7) (da_cons (de_var 3) da_nil))) (de_mul (de_def (d_take T) (hr.mono (by decide)) (da_cons (de_var 0) (da_cons de_int da_nil))) (de_ty call_int1 lift_int T.z_int (da_cons (de_cmp op_gtD lift_ord (de_var 3) (de_var 6)) da_nil)))))
    (ds_cons (ds_set 8 sc.nd (de_gc (de_ty call_tuple_of lift_tuple T.z_tuple (da_cons (de_lc (own := [("_law_number", 9)]) rfl sc.nd (di_seq (de_tup (da_cons (de_var 6) (da_cons (de_var 3) (da_cons (de_var 7) (da_cons (de_var 4) da_nil)))))) (blkOk_by (N := ["_law_pot_here", "_law_den", "_law_found", "_law_end_here", "_law_high", "_law_k", "_law_begin", "_law_low_here", "_law_ride_here", "_law_number"]) (sc := defScope s_chain) (by decide +kernel)) (lg_name sc.nd (i := 9)) (fun _ _ _ _ _ => pts_T) (fun _ _ _ _ _ => (de_def (d_low T) (hr.mono (by decide)) (da_cons (de_var 9) (da_cons (de_var 1) da_nil))))) da_nil))))
    (ds_one (ds_expr (de_m PySem.F.plainAttrs_list PySem.F.slot_list_insert PySem.F.type_list_insert mt_insert lift_ins (de_var 2) (da_cons (de_def (d_take T) (hr.mono (by decide)) (da_cons (de_var 0) (da_cons (de_add (de_bt call_lenA lift_len T.z_len (da_cons (de_var 2) da_nil)) de_int) da_nil))) (da_cons (de_var 8) da_nil)))))))))))))))
    (ds_one (ds_ret (de_gc (de_add (de_var 2) (de_sl (de_var 2) do_none (do_some (de_div (de_def (d_take T) (hr.mono (by decide)) (da_cons (de_var 0) (da_cons de_int da_nil))) de_int)))))))))))
theorem d_end (T : TopF K mg) : Def P w K mg base 2 "_law_end" ["_law_pot_here", "_law_ties"] F_end := by
  have sc := sc_end
  refine def_mk (body := B_end) (N := ["_law_pot_here", "_law_ties", "_law_end_here", "_law_start", "_law_goal", "_law_rides_here", "_law_ride_here"]) T.t_end sc fun f cdv A outer s H E hr => ?_
  exact (ds_cons (ds_set 2 sc.nd (de_tup (da_cons de_int (da_cons de_int da_nil))))
    (ds_cons (ds_gc (ds_wp [3, 4, 5, 6] (ds_lock (eV 1) (ds_for PassesOwn.never rfl (di_values (de_var 1)) (dg_tup rfl (dgs_cons (dg_name sc.nd (i := 3)) (dgs_cons (dg_name sc.nd (i := 4)) (dgs_cons (dg_name sc.nd (i := 5)) dgs_nil)))) (dss_gc (dss_wp [3, 4, 5, 6] (ds_one (ds_gc (ds_wp [6] (ds_for PassesOwn.never rfl (di_seq (de_var 5)) (dg_name sc.nd (i := 6)) (dss_gc (dss_wp [6] (ds_one (ds_if (dt_tr (de_def (d_under T) (hr.mono (by decide)) (da_cons (de_var 2) (da_cons (de_ixD (de_var 6) de_int) da_nil)))) (ds_one (ds_set 2 sc.nd (de_ixD (de_var 6) de_int))) ds_nil))))))))))))))
    (ds_cons (ds_if (dt_cmp op_gtD lift_ord (de_def (d_take T) (hr.mono (by decide)) (da_cons (de_var 0) (da_cons de_int da_nil))) de_int) (ds_one (ds_set 2 sc.nd (de_tup (da_cons (de_add (de_add (de_div (de_ixD (de_var 2) de_int) (de_ixD (de_var 2) de_int)) de_int) (de_def (d_take T) (hr.mono (by decide)) (da_cons (de_var 0) (da_cons de_int da_nil)))) (da_cons de_int da_nil))))) ds_nil)
    (ds_one (ds_ret (de_var 2))))))
theorem d_text (T : TopF K mg) : Def P w K mg base 2 "_law_text" ["_law_net_here"] F_text := by
  have sc := sc_text
  refine def_mk (body := B_text) (N := ["_law_net_here", "_law_end_here", "_law_waits", "_law_ties", "_law_lines", "_law_name_here", "_law_a", "_law_b", "_law_rides_here", "_law_ride_here", "_law_one"]) T.t_text sc fun f cdv A outer s H E hr => ?_
  exact (ds_cons (ds_asg (de_var 0) (dg_tup rfl (dgs_cons (dg_name sc.nd (i := 1)) (dgs_cons (dg_name sc.nd (i := 2)) (dgs_cons (dg_name sc.nd (i := 3)) dgs_nil)))))
    (ds_cons (ds_set 4 sc.nd (de_lst (da_cons (de_add de_str (de_def (d_moment_text T) (hr.mono (by decide)) (da_cons (de_var 1) da_nil))) (da_cons (de_gc (de_m PySem.F.plainAttrs_str PySem.F.slot_str_join PySem.F.type_str_join mt_join lift_join de_str (da_cons (de_gc (de_add (de_lst (da_cons de_str da_nil)) (de_ty call_list_of lift_list T.z_list (da_cons (de_var 2) da_nil)))) da_nil))) da_nil))))
    (ds_cons (ds_gc (ds_wp [5, 6, 7, 8] (ds_for PassesOwn.never rfl (di_seq (de_bt (call_sortT rfl) lift_sortT T.z_sorted (da_cons (de_var 3) da_nil))) (dg_name sc.nd (i := 5)) (dss_gc (dss_wp [5, 6, 7, 8] (ds_cons (ds_asg (de_dget (hu1 hr) (de_var 3) (de_var 5)) (dg_tup rfl (dgs_cons (dg_name sc.nd (i := 6)) (dgs_cons (dg_name sc.nd (i := 7)) (dgs_cons (dg_name sc.nd (i := 8)) dgs_nil)))))
    (ds_cons (ds_expr (de_app (de_var 4) (da_cons (de_add (de_add (de_add (de_add (de_add de_str (de_var 5)) de_str) (de_var 6)) de_str) (de_var 7)) da_nil)))
    (ds_one (ds_set 4 sc.nd (de_gc (de_add (de_var 4) (de_lc (own := [("_law_ride_here", 9)]) rfl sc.nd (di_seq (de_var 8)) (blkOk_by (N := ["_law_net_here", "_law_end_here", "_law_waits", "_law_ties", "_law_lines", "_law_name_here", "_law_a", "_law_b", "_law_rides_here", "_law_ride_here", "_law_one"]) (sc := defScope s_text) (by decide +kernel)) (lg_name sc.nd (i := 9)) (fun _ _ _ _ _ => pts_T) (fun _ _ _ _ _ => (de_gc (de_add de_str (de_gc (de_m PySem.F.plainAttrs_str PySem.F.slot_str_join PySem.F.type_str_join mt_join lift_join de_str (da_cons (de_lc (own := [("_law_one", 10)]) rfl sc.nd (di_seq (de_var 9)) (blkOk_nest (N := ["_law_net_here", "_law_end_here", "_law_waits", "_law_ties", "_law_lines", "_law_name_here", "_law_a", "_law_b", "_law_rides_here", "_law_ride_here", "_law_one"]) (sc := defScope s_text) rfl (by decide +kernel)) (lg_name sc.nd (i := 10)) (fun _ _ _ _ _ => pts_T) (fun _ _ _ _ _ => (de_def (d_moment_text T) (hr.mono (by decide)) (da_cons (de_var 10) da_nil)))) da_nil))))))))))))))))))
    (ds_one (ds_ret (de_add (de_m PySem.F.plainAttrs_str PySem.F.slot_str_join PySem.F.type_str_join mt_join lift_join de_str (da_cons (de_var 4) da_nil)) de_str))))))
theorem d_p_is_ride (T : TopF K mg) : Def P w K mg base 3 "is_ride" ["thing"] F_p_is_ride := by
  have sc := sc_p_is_ride
  refine def_mk (body := B_p_is_ride) (N := ["thing", "first", "last", "come", "comes", "moment"]) T.t_p_is_ride sc fun f cdv A outer s H E hr => ?_
  exact (ds_cons (ds_if (dt_w (dw_or (dt_not (dt_tr (de_bt call_isi lift_isi T.z_isinstance (da_cons (de_var 0) (da_cons (de_tyname T.z_tuple) da_nil))))) (dw_or (dt_cmp (op_neD' (hu64 hr)) lift_eq (de_bt call_lenA lift_len T.z_len (da_cons (de_var 0) da_nil)) de_int) (dw_or1 (dt_not (dt_tr (de_gc (de_bt (cr_all rfl) lift_all T.z_all (da_cons (de_lc (own := [("moment", 5)]) rfl sc.nd (di_seq (de_var 0)) (blkOk_by (N := ["thing", "first", "last", "come", "comes", "moment"]) (sc := defScope s_p_is_ride) (by decide +kernel)) (lg_name sc.nd (i := 5)) (fun _ _ _ _ _ => pts_T) (fun _ _ _ _ _ => (de_def (d_p_is_fraction T) (hr.mono (by decide)) (da_cons (de_var 5) da_nil)))) da_nil))))))))) (ds_one (ds_ret de_bl)) ds_nil)
    (ds_cons (ds_asg (de_var 0) (dg_tup rfl (dgs_cons (dg_name sc.nd (i := 1)) (dgs_cons (dg_name sc.nd (i := 2)) (dgs_cons (dg_name sc.nd (i := 3)) (dgs_cons (dg_name sc.nd (i := 4)) dgs_nil))))))
    (ds_cons (ds_if (dt_w (dw_or (dt_tr (de_def (d_p_is_below T) (hr.mono (by decide)) (da_cons (de_var 2) (da_cons (de_var 1) da_nil)))) (dw_or (dt_tr (de_def (d_p_is_below T) (hr.mono (by decide)) (da_cons (de_var 3) (da_cons (de_var 1) da_nil)))) (dw_or1 (dt_tr (de_def (d_p_is_below T) (hr.mono (by decide)) (da_cons (de_var 4) (da_cons (de_var 2) da_nil)))))))) (ds_one (ds_ret de_bl)) ds_nil)
    (ds_one (ds_ret (de_or (de_cmp (op_neD' (hu64 hr)) lift_eq (de_var 1) (de_var 2)) (de_one (de_cmp (op_eqD' (hu64 hr)) lift_eq (de_var 3) (de_var 4)))))))))
theorem d_p_net_text (T : TopF K mg) : Def P w K mg base 3 "net_text" ["net"] F_p_net_text := by
  have sc := sc_p_net_text
  refine def_mk (body := B_p_net_text) (N := ["net", "end", "waits", "ties", "lines", "name", "line"]) T.t_p_net_text sc fun f cdv A outer s H E hr => ?_
  exact (ds_cons (ds_asg (de_var 0) (dg_tup rfl (dgs_cons (dg_name sc.nd (i := 1)) (dgs_cons (dg_name sc.nd (i := 2)) (dgs_cons (dg_name sc.nd (i := 3)) dgs_nil)))))
    (ds_cons (ds_set 4 sc.nd (de_lst (da_cons (de_add de_str (de_def (d_p_fraction_text T) (hr.mono (by decide)) (da_cons (de_var 1) da_nil))) (da_cons (de_gc (de_m PySem.F.plainAttrs_str PySem.F.slot_str_join PySem.F.type_str_join mt_join lift_join de_str (da_cons (de_gc (de_add (de_lst (da_cons de_str da_nil)) (de_ty call_list_of lift_list T.z_list (da_cons (de_var 2) da_nil)))) da_nil))) da_nil))))
    (ds_cons (ds_gc (ds_wp [5] (ds_for PassesOwn.never rfl (di_seq (de_bt (call_sortT rfl) lift_sortT T.z_sorted (da_cons (de_var 3) da_nil))) (dg_name sc.nd (i := 5)) (dss_gc (dss_wp [5] (ds_one (ds_expr (de_gc (de_m PySem.F.plainAttrs_list PySem.F.slot_list_extend PySem.F.type_list_extend mt_extend lift_ext (de_var 4) (da_cons (de_def (d_p_tie_lines T) (hr.mono (by decide)) (da_cons (de_var 5) (da_cons (de_dget (hu1 hr) (de_var 3) (de_var 5)) da_nil))) da_nil))))))))))
    (ds_one (ds_ret (de_gc (de_m PySem.F.plainAttrs_str PySem.F.slot_str_join PySem.F.type_str_join mt_join lift_join de_str (da_cons (de_lc (own := [("line", 6)]) rfl sc.nd (di_seq (de_var 4)) (blkOk_by (N := ["net", "end", "waits", "ties", "lines", "name", "line"]) (sc := defScope s_p_net_text) (by decide +kernel)) (lg_name sc.nd (i := 6)) (fun _ _ _ _ _ => pts_T) (fun _ _ _ _ _ => (de_add (de_var 6) de_str))) da_nil))))))))
theorem d_p_ride_in (T : TopF K mg) : Def P w K mg base 3 "ride_in" ["words"] F_p_ride_in := by
  have sc := sc_p_ride_in
  refine def_mk (body := B_p_ride_in) (N := ["words", "word"]) T.t_p_ride_in sc fun f cdv A outer s H E hr => ?_
  exact (ds_one (ds_ret (de_gc (de_ty call_tuple_of lift_tuple T.z_tuple (da_cons (de_lc (own := [("word", 1)]) rfl sc.nd (di_seq (de_var 0)) (blkOk_by (N := ["words", "word"]) (sc := defScope s_p_ride_in) (by decide +kernel)) (lg_name sc.nd (i := 1)) (fun _ _ _ _ _ => pts_T) (fun _ _ _ _ _ => (de_def (d_p_read_fraction T) (hr.mono (by decide)) (da_cons (de_var 1) da_nil)))) da_nil)))))
theorem d_name (T : TopF K mg) : Def P w K mg base 3 "_law_name" ["_law_pot_here", "_law_taken"] F_name := by
  have sc := sc_name
  refine def_mk (body := B_name) (N := ["_law_pot_here", "_law_taken", "_law_letters", "_law_name_here", "_law_k", "_law_letter"]) T.t_name sc fun f cdv A outer s H E hr => ?_
  exact (ds_cons (ds_set 2 sc.nd de_str)
    (ds_cons (ds_set 3 sc.nd (de_gc (de_m PySem.F.plainAttrs_str PySem.F.slot_str_join PySem.F.type_str_join mt_join lift_join de_str (da_cons (de_lc (own := [("_law_k", 4)]) rfl sc.nd (di_range1 T.z_range (da_cons (de_add de_int (de_mul (de_def (d_take T) (hr.mono (by decide)) (da_cons (de_var 0) (da_cons de_int da_nil))) (de_def (d_take T) (hr.mono (by decide)) (da_cons (de_var 0) (da_cons de_int da_nil))))) da_nil)) (blkOk_by (N := ["_law_pot_here", "_law_taken", "_law_letters", "_law_name_here", "_law_k", "_law_letter"]) (sc := defScope s_name) (by decide +kernel)) (lg_name sc.nd (i := 4)) (fun _ _ _ _ _ => pts_T) (fun _ _ _ _ _ => (de_def (d_drawn T) (hr.mono (by decide)) (da_cons (de_var 0) (da_cons (de_var 2) da_nil))))) da_nil))))
    (ds_cons (ds_if (dt_cmp (op_eqD' (hu64 hr)) lift_eq (de_def (d_take T) (hr.mono (by decide)) (da_cons (de_var 0) (da_cons de_int da_nil))) de_int) (ds_one (ds_set 3 sc.nd (de_gc (de_def (d_drawn T) (hr.mono (by decide)) (da_cons (de_var 0) (da_cons (de_lst (da_cons de_str (da_cons de_str (da_cons de_str (da_cons de_str (da_cons de_str da_nil)))))) da_nil)))))) ds_nil)
    (ds_cons (ds_if (dt_cmp (op_inX (hu65 hr)) lift_in (de_var 3) (de_var 1)) (ds_one (ds_set 3 sc.nd (de_gc (de_ixD (de_lc (own := [("_law_letter", 5)]) rfl sc.nd (di_seq (de_var 2)) (blkOk_by (N := ["_law_pot_here", "_law_taken", "_law_letters", "_law_name_here", "_law_k", "_law_letter"]) (sc := defScope s_name) (by decide +kernel)) (lg_name sc.nd (i := 5)) (fun _ _ _ _ _ => pts_1 (dt_gc (dt_cmp (op_notInX (hu65 hr)) lift_in (de_gc (de_add (de_sl (de_var 3) do_none (do_some de_int)) (de_var 5))) (de_var 1)))) (fun _ _ _ _ _ => (de_gc (de_add (de_sl (de_var 3) do_none (do_some de_int)) (de_var 5))))) de_int)))) ds_nil)
    (ds_cons (ds_expr (de_app (de_var 1) (da_cons (de_var 3) da_nil)))
    (ds_one (ds_ret (de_var 3))))))))
theorem d_rides (T : TopF K mg) : Def P w K mg base 3 "_law_rides" ["_law_pot_here", "_law_room"] F_rides := by
  have sc := sc_rides
  refine def_mk (body := B_rides) (N := ["_law_pot_here", "_law_room", "_law_k"]) T.t_rides sc fun f cdv A outer s H E hr => ?_
  exact (ds_cons (ds_if (dt_cmp (op_eqD' (hu64 hr)) lift_eq (de_def (d_take T) (hr.mono (by decide)) (da_cons (de_var 0) (da_cons de_int da_nil))) de_int) (ds_one (ds_ret (de_gc (de_ty call_tuple_of lift_tuple T.z_tuple (da_cons (de_def (d_chain T) (hr.mono (by decide)) (da_cons (de_var 0) da_nil)) da_nil))))) ds_nil)
    (ds_one (ds_ret (de_gc (de_ty call_tuple_of lift_tuple T.z_tuple (da_cons (de_lc (own := [("_law_k", 2)]) rfl sc.nd (di_range1 T.z_range (da_cons (de_def (d_take T) (hr.mono (by decide)) (da_cons (de_var 0) (da_cons de_int da_nil))) da_nil)) (blkOk_by (N := ["_law_pot_here", "_law_room", "_law_k"]) (sc := defScope s_rides) (by decide +kernel)) (lg_name sc.nd (i := 2)) (fun _ _ _ _ _ => pts_T) (fun _ _ _ _ _ => (de_def (d_ride T) (hr.mono (by decide)) (da_cons (de_var 0) (da_cons (de_var 1) da_nil))))) da_nil))))))
theorem d_p_is_rides (T : TopF K mg) : Def P w K mg base 4 "is_rides" ["thing"] F_p_is_rides := by
  have sc := sc_p_is_rides
  refine def_mk (body := B_p_is_rides) (N := ["thing", "ride"]) T.t_p_is_rides sc fun f cdv A outer s H E hr => ?_
  exact (ds_one (ds_ret (de_and (de_bt call_isi lift_isi T.z_isinstance (da_cons (de_var 0) (da_cons (de_tyname T.z_tuple) da_nil))) (de_one (de_gc (de_bt (cr_all rfl) lift_all T.z_all (da_cons (de_lc (own := [("ride", 1)]) rfl sc.nd (di_seq (de_var 0)) (blkOk_by (N := ["thing", "ride"]) (sc := defScope s_p_is_rides) (by decide +kernel)) (lg_name sc.nd (i := 1)) (fun _ _ _ _ _ => pts_T) (fun _ _ _ _ _ => (de_def (d_p_is_ride T) (hr.mono (by decide)) (da_cons (de_var 1) da_nil)))) da_nil)))))))
theorem d_p_ties_in (T : TopF K mg) : Def P w K mg base 4 "ties_in" ["rows"] F_p_ties_in := by
  have sc := sc_p_ties_in
  refine def_mk (body := B_p_ties_in) (N := ["rows", "found", "name", "row", "start", "goal", "rides"]) T.t_p_ties_in sc fun f cdv A outer s H E hr => ?_
  exact (ds_cons (ds_set 1 sc.nd de_dnew)
    (ds_cons (ds_set 2 sc.nd de_non)
    (ds_cons (ds_gc (ds_wp [2, 3, 4, 5, 6] (ds_for PassesOwn.never rfl (di_seq (de_var 0)) (dg_name sc.nd (i := 3)) (dss_gc (dss_wp [3, 4, 5, 6] (ds_one (ds_if (dt_w (dw_and (dt_cmp (op_eqD' (hu64 hr)) lift_eq (de_ixD (de_var 3) de_int) de_str) (dw_and1 (dt_cmp (op_eqD' (hu64 hr)) lift_eq (de_bt call_lenA lift_len T.z_len (da_cons (de_var 3) da_nil)) de_int)))) (ds_cons (ds_set 2 sc.nd (de_ixD (de_var 3) de_int))
    (ds_one (ds_asg (de_tup (da_cons (de_ixD (de_var 3) de_int) (da_cons (de_ixD (de_var 3) de_int) (da_cons (de_tup da_nil) da_nil)))) (dg_sub (set_dict (hu1 hr)) lift_setD (de_var 1) (de_var 2))))) (ds_one (ds_if (dt_w (dw_and (dt_cmp (op_eqD' (hu64 hr)) lift_eq (de_ixD (de_var 3) de_int) de_str) (dw_and (dt_cmp (op_eqD' (hu64 hr)) lift_eq (de_bt call_lenA lift_len T.z_len (da_cons (de_var 3) da_nil)) de_int) (dw_and1 (dt_cmp op_notD lift_is (de_var 2) de_non))))) (ds_cons (ds_asg (de_dget (hu1 hr) (de_var 1) (de_var 2)) (dg_tup rfl (dgs_cons (dg_name sc.nd (i := 4)) (dgs_cons (dg_name sc.nd (i := 5)) (dgs_cons (dg_name sc.nd (i := 6)) dgs_nil)))))
    (ds_one (ds_asg (de_tup (da_cons (de_var 4) (da_cons (de_var 5) (da_cons (de_gc (de_add (de_var 6) (de_tup (da_cons (de_gc (de_def (d_p_ride_in T) (hr.mono (by decide)) (da_cons (de_sl (de_var 3) (do_some de_int) do_none) da_nil))) da_nil)))) da_nil)))) (dg_sub (set_dict (hu1 hr)) lift_setD (de_var 1) (de_var 2))))) (ds_one ds_bad))))))))))
    (ds_one (ds_ret (de_var 1))))))
theorem d_net (T : TopF K mg) : Def P w K mg base 4 "_law_net" ["_law_pot_here"] F_net := by
  have sc := sc_net
  refine def2_mk (body := B_net) (N := ["_law_pot_here", "_law_taken", "_law_named", "_law_ties", "_law_places", "_law_room", "_law_many", "_law_great", "_law_k", "_law_a", "_law_b", "_law_rides_here", "_law_waits", "_law_j", "_law_place"]) T.t_net sc fun f cdv A outer s H E hr => ?_
  exact (ds_cons (ds_asg (de_tup (da_cons (de_lst da_nil) (da_cons (de_lst da_nil) (da_cons de_dnew da_nil)))) (dg_tup rfl (dgs_cons (dg_name sc.nd (i := 1)) (dgs_cons (dg_name sc.nd (i := 2)) (dgs_cons (dg_name sc.nd (i := 3)) dgs_nil)))))
    (ds_cons (ds_setLc 4 (own := [("_law_k", 8)]) rfl sc.nd (di_range1 T.z_range (da_cons (de_add de_int (de_def (d_take T) (hr.mono (by decide)) (da_cons (de_var 0) (da_cons de_int da_nil)))) da_nil)) (blkOk_by (N := ["_law_pot_here", "_law_taken", "_law_named", "_law_ties", "_law_places", "_law_room", "_law_many", "_law_great", "_law_k", "_law_a", "_law_b", "_law_rides_here", "_law_waits", "_law_j", "_law_place"]) (sc := defScope s_net) (by decide +kernel)) (lg_name sc.nd (i := 8)) (fun _ _ _ _ _ => pts_T) (fun _ _ _ _ _ => (de_def (d_name T) (hr.mono (by decide)) (da_cons (de_var 0) (da_cons (de_var 1) da_nil)))) (sw_true rfl rfl rfl (by decide +kernel)))
    (ds_cons (ds_set 5 sc.nd (de_gc (de_def (d_drawn T) (hr.mono (by decide)) (da_cons (de_var 0) (da_cons (de_lst (da_cons de_int (da_cons de_int (da_cons (de_mul de_int (de_pow de_int de_int)) da_nil)))) da_nil)))))
    (ds_cons (ds_par 6 7 rfl sc.nd (da_cons (de_def (d_take T) (hr.mono (by decide)) (da_cons (de_var 0) (da_cons de_int da_nil))) (da_cons (de_cmp (op_eqD' (hu64 hr)) lift_eq (de_def (d_take T) (hr.mono (by decide)) (da_cons (de_var 0) (da_cons de_int da_nil))) de_int) da_nil)))
    (ds_cons (ds_gc (ds_wp [8, 9, 10, 11] (ds_for PassesOwn.never rfl (di_range1 T.z_range (da_cons (de_if (dt_tr (de_var 7)) de_int (de_var 6)) da_nil)) (dg_name sc.nd (i := 8)) (dss_gc (dss_wp [8, 9, 10, 11] (ds_cons (ds_set 9 sc.nd (de_def (d_take T) (hr.mono (by decide)) (da_cons (de_var 0) (da_cons (de_bt call_lenA lift_len T.z_len (da_cons (de_var 4) da_nil)) da_nil))))
    (ds_cons (ds_set 10 sc.nd (de_mod (de_add (de_add (de_var 9) de_int) (de_def (d_take T) (hr.mono (by decide)) (da_cons (de_var 0) (da_cons (de_sub (de_bt call_lenA lift_len T.z_len (da_cons (de_var 4) da_nil)) de_int) da_nil)))) (de_bt call_lenA lift_len T.z_len (da_cons (de_var 4) da_nil))))
    (ds_cons (ds_set 11 sc.nd (de_if (dt_tr (de_var 7)) (de_gc (de_ty call_tuple_of lift_tuple T.z_tuple (da_cons (de_lc (own := [("_law_j", 13)]) rfl sc.nd (di_range1 T.z_range (da_cons de_int da_nil)) (blkOk_by (N := ["_law_pot_here", "_law_taken", "_law_named", "_law_ties", "_law_places", "_law_room", "_law_many", "_law_great", "_law_k", "_law_a", "_law_b", "_law_rides_here", "_law_waits", "_law_j", "_law_place"]) (sc := defScope s_net) (by decide +kernel)) (lg_name sc.nd (i := 13)) (fun _ _ _ _ _ => pts_T) (fun _ _ _ _ _ => (de_def (d_ride T) (hr.mono (by decide)) (da_cons (de_var 0) (da_cons de_int da_nil))))) da_nil))) (de_def (d_rides T) (hr.mono (by decide)) (da_cons (de_var 0) (da_cons (de_var 5) da_nil)))))
    (ds_one (ds_asg (de_tup (da_cons (de_ixD (de_var 4) (de_var 9)) (da_cons (de_ixD (de_var 4) (de_var 10)) (da_cons (de_var 11) da_nil)))) (dg_sub (set_dict (hu1 hr)) lift_setD (de_var 3) (de_def (d_name T) (hr.mono (by decide)) (da_cons (de_var 0) (da_cons (de_var 2) da_nil))))))))))))))
    (ds_cons (ds_set 12 sc.nd (de_gc (de_ty call_tuple_of lift_tuple T.z_tuple (da_cons (de_gc (de_bt (call_sortT rfl) lift_sortT T.z_sorted (da_cons (de_lc (own := [("_law_place", 14)]) rfl sc.nd (di_seq (de_var 4)) (blkOk_by (N := ["_law_pot_here", "_law_taken", "_law_named", "_law_ties", "_law_places", "_law_room", "_law_many", "_law_great", "_law_k", "_law_a", "_law_b", "_law_rides_here", "_law_waits", "_law_j", "_law_place"]) (sc := defScope s_net) (by decide +kernel)) (lg_name sc.nd (i := 14)) (fun _ _ _ _ _ => pts_1 (dt_cmp (op_eqD' (hu64 hr)) lift_eq (de_def (d_take T) (hr.mono (by decide)) (da_cons (de_var 0) (da_cons de_int da_nil))) de_int)) (fun _ _ _ _ _ => (de_var 14))) da_nil))) da_nil))))
    (ds_one (ds_ret (de_tup (da_cons (de_def (d_end T) (hr.mono (by decide)) (da_cons (de_var 0) (da_cons (de_var 3) da_nil))) (da_cons (de_var 12) (da_cons (de_var 3) da_nil))))))))))))
theorem d_p_is_tie (T : TopF K mg) : Def P w K mg base 5 "is_tie" ["end", "thing"] F_p_is_tie := by
  have sc := sc_p_is_tie
  refine def_mk (body := B_p_is_tie) (N := ["end", "thing", "ride"]) T.t_p_is_tie sc fun f cdv A outer s H E hr => ?_
  exact (ds_cons (ds_if (dt_w (dw_or (dt_not (dt_tr (de_bt call_isi lift_isi T.z_isinstance (da_cons (de_var 1) (da_cons (de_tyname T.z_tuple) da_nil))))) (dw_or (dt_cmp (op_neD' (hu64 hr)) lift_eq (de_bt call_lenA lift_len T.z_len (da_cons (de_var 1) da_nil)) de_int) (dw_or (dt_not (dt_tr (de_def (d_p_is_name T) (hr.mono (by decide)) (da_cons (de_ixD (de_var 1) de_int) da_nil)))) (dw_or1 (dt_not (dt_tr (de_def (d_p_is_name T) (hr.mono (by decide)) (da_cons (de_ixD (de_var 1) de_int) da_nil))))))))) (ds_one (ds_ret de_bl)) ds_nil)
    (ds_cons (ds_if (dt_w (dw_or (dt_cmp (op_eqD' (hu64 hr)) lift_eq (de_ixD (de_var 1) de_int) (de_ixD (de_var 1) de_int)) (dw_or1 (dt_not (dt_tr (de_def (d_p_is_rides T) (hr.mono (by decide)) (da_cons (de_ixD (de_var 1) de_int) da_nil))))))) (ds_one (ds_ret de_bl)) ds_nil)
    (ds_one (ds_ret (de_not (de_gc (de_bt (cr_any rfl) lift_any T.z_any (da_cons (de_lc (own := [("ride", 2)]) rfl sc.nd (di_seq (de_ixD (de_var 1) de_int)) (blkOk_by (N := ["end", "thing", "ride"]) (sc := defScope s_p_is_tie) (by decide +kernel)) (lg_name sc.nd (i := 2)) (fun _ _ _ _ _ => pts_T) (fun _ _ _ _ _ => (de_def (d_p_is_below T) (hr.mono (by decide)) (da_cons (de_var 0) (da_cons (de_ixD (de_var 2) de_int) da_nil))))) da_nil))))))))
theorem d_p_is_net (T : TopF K mg) : Def P w K mg base 6 "is_net" ["thing"] F_p_is_net := by
  have sc := sc_p_is_net
  refine def_mk (body := B_p_is_net) (N := ["thing", "name", "tie"]) T.t_p_is_net sc fun f cdv A outer s H E hr => ?_
  exact (ds_cons (ds_if (dt_w (dw_or (dt_not (dt_tr (de_bt call_isi lift_isi T.z_isinstance (da_cons (de_var 0) (da_cons (de_tyname T.z_tuple) da_nil))))) (dw_or (dt_cmp (op_neD' (hu64 hr)) lift_eq (de_bt call_lenA lift_len T.z_len (da_cons (de_var 0) da_nil)) de_int) (dw_or (dt_not (dt_tr (de_def (d_p_is_fraction T) (hr.mono (by decide)) (da_cons (de_ixD (de_var 0) de_int) da_nil)))) (dw_or1 (dt_not (dt_tr (de_def (d_p_are_names T) (hr.mono (by decide)) (da_cons (de_ixD (de_var 0) de_int) da_nil))))))))) (ds_one (ds_ret de_bl)) ds_nil)
    (ds_cons (ds_if (dt_not (dt_tr (de_bt call_isi lift_isi T.z_isinstance (da_cons (de_ixD (de_var 0) de_int) (da_cons (de_tyname T.z_dict) da_nil))))) (ds_one (ds_ret de_bl)) ds_nil)
    (ds_one (ds_ret (de_gc (de_bt (cr_all rfl) lift_all T.z_all (da_cons (de_lock (e2 dIx (eV 0) (eC (.int 2))) (de_lc (own := [("name", 1), ("tie", 2)]) rfl sc.nd (di_items (de_ixD (de_var 0) de_int)) (blkOk_by (N := ["thing", "name", "tie"]) (sc := defScope s_p_is_net) (by decide +kernel)) (lg_tup rfl (lgs_cons (lg_name sc.nd (i := 1)) (lgs_cons (lg_name sc.nd (i := 2)) lgs_nil))) (fun _ _ _ _ _ => pts_T) (fun _ _ _ _ _ => (de_and (de_def (d_p_is_name T) (hr.mono (by decide)) (da_cons (de_var 1) da_nil)) (de_one (de_def (d_p_is_tie T) (hr.mono (by decide)) (da_cons (de_ixD (de_var 0) de_int) (da_cons (de_var 2) da_nil)))))))) da_nil)))))))
theorem d_p_read_net (T : TopF K mg) : Def P w K mg base 7 "read_net" ["text"] F_p_read_net := by
  have sc := sc_p_read_net
  refine def2_mk (body := B_p_read_net) (N := ["text", "rows", "net", "line"]) T.t_p_read_net sc fun f cdv A outer s H E hr => ?_
  exact (ds_cons (ds_if (dt_not (dt_tr (de_bt call_isi lift_isi T.z_isinstance (da_cons (de_var 0) (da_cons (de_tyname T.z_str) da_nil))))) (ds_one ds_bad) ds_nil)
    (ds_cons (ds_setLc 1 (own := [("line", 3)]) rfl sc.nd (di_seq (de_sl (de_m PySem.F.plainAttrs_str PySem.F.slot_str_split PySem.F.type_str_split mt_split lift_split (de_var 0) (da_cons de_str da_nil)) do_none (do_some (de_neg de_int)))) (blkOk_by (N := ["text", "rows", "net", "line"]) (sc := defScope s_p_read_net) (by decide +kernel)) (lg_name sc.nd (i := 3)) (fun _ _ _ _ _ => pts_T) (fun _ _ _ _ _ => (de_m PySem.F.plainAttrs_str PySem.F.slot_str_split PySem.F.type_str_split mt_split lift_split (de_var 3) (da_cons de_str da_nil))) (sw_true rfl rfl rfl (by decide +kernel)))
    (ds_cons (ds_if (dt_w (dw_or (dt_cmp op_ltD lift_ord (de_bt call_lenA lift_len T.z_len (da_cons (de_var 1) da_nil)) de_int) (dw_or1 (dt_cmp (op_neD' (hu64 hr)) lift_eq (de_bt call_lenA lift_len T.z_len (da_cons (de_ixD (de_var 1) de_int) da_nil)) de_int)))) (ds_one ds_bad) ds_nil)
    (ds_cons (ds_set 2 sc.nd (de_tup (da_cons (de_def (d_p_read_fraction T) (hr.mono (by decide)) (da_cons (de_ixD (de_ixD (de_var 1) de_int) de_int) da_nil)) (da_cons (de_gc (de_ty call_tuple_of lift_tuple T.z_tuple (da_cons (de_sl (de_ixD (de_var 1) de_int) (do_some de_int) do_none) da_nil))) (da_cons (de_gc (de_def (d_p_ties_in T) (hr.mono (by decide)) (da_cons (de_sl (de_var 1) (do_some de_int) do_none) da_nil))) da_nil)))))
    (ds_cons (ds_if (dt_w (dw_or (dt_not (dt_tr (de_def (d_p_is_net T) (hr.mono (by decide)) (da_cons (de_var 2) da_nil)))) (dw_or1 (dt_gc (dt_cmp (op_neD' (hu64 hr)) lift_eq (de_def (d_p_net_text T) (hr.mono (by decide)) (da_cons (de_var 2) da_nil)) (de_var 0)))))) (ds_one ds_bad) ds_nil)
    (ds_one (ds_ret (de_var 2))))))))
theorem d_right (T : TopF K mg) : DefG P w K mg base 8 "_law_right" ["_law_net_here"] F_right := by
  have sc := sc_right
  refine defG_mk (body := B_right) (N := ["_law_net_here", "_law_before", "_law_text_here", "_law_told"]) T.t_right sc fun f cdv A outer s H E hgd hr => ?_
  exact (ds_cons (ds_set 1 sc.nd (de_reprN hgd (hu64 hr) T.z_repr (da_cons (de_var 0) da_nil)))
    (ds_cons (ds_set 2 sc.nd (de_def (d_p_net_text T) (hr.mono (by decide)) (da_cons (de_var 0) da_nil)))
    (ds_cons (ds_if (dt_w (dw_or (dt_gc (dt_cmp (op_neD' (hu64 hr)) lift_eq (de_var 2) (de_def (d_text T) (hr.mono (by decide)) (da_cons (de_var 0) da_nil)))) (dw_or1 (dt_cmp (op_neD' (hu64 hr)) lift_eq (de_reprN hgd (hu64 hr) T.z_repr (da_cons (de_var 0) da_nil)) (de_var 1))))) (ds_one (ds_ret de_bl)) ds_nil)
    (ds_cons (ds_set 3 sc.nd (de_def (d_p_read_net T) (hr.mono (by decide)) (da_cons (de_var 2) da_nil)))
    (ds_cons (ds_if (dt_not (dt_tr (de_defG hgd (d_is_just T) (hr.mono (by decide)) (da_cons (de_var 3) (da_cons (de_var 0) da_nil))))) (ds_one (ds_ret de_bl)) ds_nil)
    (ds_cons (ds_asg (de_tup (da_cons de_str (da_cons de_str (da_cons (de_tup da_nil) da_nil)))) (dg_sub (set_dict (hu1 hr)) lift_setD (de_ixD (de_var 3) de_int) de_str))
    (ds_one (ds_ret (de_and (de_gc (de_defG hgd (d_is_just T) (hr.mono (by decide)) (da_cons (de_def (d_p_read_net T) (hr.mono (by decide)) (da_cons (de_var 2) da_nil)) (da_cons (de_var 0) da_nil)))) (de_one (de_gc (de_cmp (op_eqD' (hu64 hr)) lift_eq (de_def (d_p_net_text T) (hr.mono (by decide)) (da_cons (de_var 0) da_nil)) (de_var 2)))))))))))))
theorem d_law (T : TopF K mg) : DefG P w K mg base 9 "law" ["_law_script"] F_law := by
  have sc := sc_law
  refine defG_mk (body := B_law) (N := ["_law_script", "_law_elder", "_law_k", "_law_net_here"]) T.t_law sc fun f cdv A outer s H E hgd hr => ?_
  exact (ds_cons (ds_set 1 sc.nd de_non)
    (ds_cons (ds_gc (ds_wp [1, 2, 3] (ds_for PassesOwn.never rfl (di_range1 T.z_range (da_cons (de_bt (call_max2 rfl) lift_bII T.z_max (da_cons de_int (da_cons (de_bt (call_min2 rfl) lift_bII T.z_min (da_cons (de_bt call_lenA lift_len T.z_len (da_cons (de_var 0) da_nil)) (da_cons de_int da_nil))) da_nil))) da_nil)) (dg_name sc.nd (i := 2)) (dss_gc (dss_wp [2, 3] (ds_cons (ds_set 3 sc.nd (de_def (d_net T) (hr.mono (by decide)) (da_cons (de_def (d_pot T) (hr.mono (by decide)) (da_cons (de_var 0) (da_cons (de_var 2) da_nil))) da_nil)))
    (ds_cons (ds_if (dt_not (dt_tr (de_defG hgd (d_right T) (hr.mono (by decide)) (da_cons (de_var 3) da_nil)))) (ds_one (ds_ret de_bl)) ds_nil)
    (ds_cons (ds_if (dt_w (dw_and (dt_cmp op_notD lift_is (de_var 1) de_non) (dw_and1 (dt_not (dt_tr (de_defG hgd (d_right T) (hr.mono (by decide)) (da_cons (de_var 1) da_nil))))))) (ds_one (ds_ret de_bl)) ds_nil)
    (ds_one (ds_set 1 sc.nd (de_var 3)))))))))))
    (ds_one (ds_ret de_bl))))
end
theorem topF_mk {K : PySem.W.Frag} {mg : Str → Option Value} {h : Heap} (X : K.In h) (G : h.Ns mainGlobals mg)
    {f0 : Addr} {oc0 : Value} {od0 an0 : Option Addr} {sl0 : Array (Option Value)} {kV0 dc0 pm0 cd0 ct0 : Value}
    (a0 : PySem.W.nsIn K mainGlobals "is_whole" = some (some (.ref f0))) (l0 : K.lookup f0 = some ⟨oc0, od0, .func (PySem.W.fnOf "is_whole" "is_whole" (defArgs s_p_is_whole) (defBody s_p_is_whole) (defScope s_p_is_whole) .none kV0 dc0 pm0 an0 cd0 ct0), sl0⟩) (c0 : PySem.W.codeIn K cd0 "is_whole" = true) (k0 : PySem.W.keepIn K (.ref f0) = true)
    {f1 : Addr} {oc1 : Value} {od1 an1 : Option Addr} {sl1 : Array (Option Value)} {kV1 dc1 pm1 cd1 ct1 : Value}
    (a1 : PySem.W.nsIn K mainGlobals "common" = some (some (.ref f1))) (l1 : K.lookup f1 = some ⟨oc1, od1, .func (PySem.W.fnOf "common" "common" (defArgs s_p_common) (defBody s_p_common) (defScope s_p_common) .none kV1 dc1 pm1 an1 cd1 ct1), sl1⟩) (c1 : PySem.W.codeIn K cd1 "common" = true) (k1 : PySem.W.keepIn K (.ref f1) = true)
    {f2 : Addr} {oc2 : Value} {od2 an2 : Option Addr} {sl2 : Array (Option Value)} {kV2 dc2 pm2 cd2 ct2 : Value}
    (a2 : PySem.W.nsIn K mainGlobals "is_below" = some (some (.ref f2))) (l2 : K.lookup f2 = some ⟨oc2, od2, .func (PySem.W.fnOf "is_below" "is_below" (defArgs s_p_is_below) (defBody s_p_is_below) (defScope s_p_is_below) .none kV2 dc2 pm2 an2 cd2 ct2), sl2⟩) (c2 : PySem.W.codeIn K cd2 "is_below" = true) (k2 : PySem.W.keepIn K (.ref f2) = true)
    {f3 : Addr} {oc3 : Value} {od3 an3 : Option Addr} {sl3 : Array (Option Value)} {kV3 dc3 pm3 cd3 ct3 : Value}
    (a3 : PySem.W.nsIn K mainGlobals "fraction_text" = some (some (.ref f3))) (l3 : K.lookup f3 = some ⟨oc3, od3, .func (PySem.W.fnOf "fraction_text" "fraction_text" (defArgs s_p_fraction_text) (defBody s_p_fraction_text) (defScope s_p_fraction_text) .none kV3 dc3 pm3 an3 cd3 ct3), sl3⟩) (c3 : PySem.W.codeIn K cd3 "fraction_text" = true) (k3 : PySem.W.keepIn K (.ref f3) = true)
    {f4 : Addr} {oc4 : Value} {od4 an4 : Option Addr} {sl4 : Array (Option Value)} {kV4 dc4 pm4 cd4 ct4 : Value}
    (a4 : PySem.W.nsIn K mainGlobals "number_in" = some (some (.ref f4))) (l4 : K.lookup f4 = some ⟨oc4, od4, .func (PySem.W.fnOf "number_in" "number_in" (defArgs s_p_number_in) (defBody s_p_number_in) (defScope s_p_number_in) .none kV4 dc4 pm4 an4 cd4 ct4), sl4⟩) (c4 : PySem.W.codeIn K cd4 "number_in" = true) (k4 : PySem.W.keepIn K (.ref f4) = true)
    {f5 : Addr} {oc5 : Value} {od5 an5 : Option Addr} {sl5 : Array (Option Value)} {kV5 dc5 pm5 cd5 ct5 : Value}
    (a5 : PySem.W.nsIn K mainGlobals "is_name" = some (some (.ref f5))) (l5 : K.lookup f5 = some ⟨oc5, od5, .func (PySem.W.fnOf "is_name" "is_name" (defArgs s_p_is_name) (defBody s_p_is_name) (defScope s_p_is_name) .none kV5 dc5 pm5 an5 cd5 ct5), sl5⟩) (c5 : PySem.W.codeIn K cd5 "is_name" = true) (k5 : PySem.W.keepIn K (.ref f5) = true)
    {f6 : Addr} {oc6 : Value} {od6 an6 : Option Addr} {sl6 : Array (Option Value)} {kV6 dc6 pm6 cd6 ct6 : Value}
    (a6 : PySem.W.nsIn K mainGlobals "_law_at" = some (some (.ref f6))) (l6 : K.lookup f6 = some ⟨oc6, od6, .func (PySem.W.fnOf "_law_at" "_law_at" (defArgs s_at) (defBody s_at) (defScope s_at) .none kV6 dc6 pm6 an6 cd6 ct6), sl6⟩) (c6 : PySem.W.codeIn K cd6 "_law_at" = true) (k6 : PySem.W.keepIn K (.ref f6) = true)
    {f7 : Addr} {oc7 : Value} {od7 an7 : Option Addr} {sl7 : Array (Option Value)} {kV7 dc7 pm7 cd7 ct7 : Value}
    (a7 : PySem.W.nsIn K mainGlobals "_law_take" = some (some (.ref f7))) (l7 : K.lookup f7 = some ⟨oc7, od7, .func (PySem.W.fnOf "_law_take" "_law_take" (defArgs s_take) (defBody s_take) (defScope s_take) .none kV7 dc7 pm7 an7 cd7 ct7), sl7⟩) (c7 : PySem.W.codeIn K cd7 "_law_take" = true) (k7 : PySem.W.keepIn K (.ref f7) = true)
    {f8 : Addr} {oc8 : Value} {od8 an8 : Option Addr} {sl8 : Array (Option Value)} {kV8 dc8 pm8 cd8 ct8 : Value}
    (a8 : PySem.W.nsIn K mainGlobals "_law_low" = some (some (.ref f8))) (l8 : K.lookup f8 = some ⟨oc8, od8, .func (PySem.W.fnOf "_law_low" "_law_low" (defArgs s_low) (defBody s_low) (defScope s_low) .none kV8 dc8 pm8 an8 cd8 ct8), sl8⟩) (c8 : PySem.W.codeIn K cd8 "_law_low" = true) (k8 : PySem.W.keepIn K (.ref f8) = true)
    {f9 : Addr} {oc9 : Value} {od9 an9 : Option Addr} {sl9 : Array (Option Value)} {kV9 dc9 pm9 cd9 ct9 : Value}
    (a9 : PySem.W.nsIn K mainGlobals "_law_under" = some (some (.ref f9))) (l9 : K.lookup f9 = some ⟨oc9, od9, .func (PySem.W.fnOf "_law_under" "_law_under" (defArgs s_under) (defBody s_under) (defScope s_under) .none kV9 dc9 pm9 an9 cd9 ct9), sl9⟩) (c9 : PySem.W.codeIn K cd9 "_law_under" = true) (k9 : PySem.W.keepIn K (.ref f9) = true)
    {f10 : Addr} {oc10 : Value} {od10 an10 : Option Addr} {sl10 : Array (Option Value)} {kV10 dc10 pm10 cd10 ct10 : Value}
    (a10 : PySem.W.nsIn K mainGlobals "_law_moment_text" = some (some (.ref f10))) (l10 : K.lookup f10 = some ⟨oc10, od10, .func (PySem.W.fnOf "_law_moment_text" "_law_moment_text" (defArgs s_moment_text) (defBody s_moment_text) (defScope s_moment_text) .none kV10 dc10 pm10 an10 cd10 ct10), sl10⟩) (c10 : PySem.W.codeIn K cd10 "_law_moment_text" = true) (k10 : PySem.W.keepIn K (.ref f10) = true)
    {f11 : Addr} {oc11 : Value} {od11 an11 : Option Addr} {sl11 : Array (Option Value)} {kV11 dc11 pm11 cd11 ct11 : Value}
    (a11 : PySem.W.nsIn K mainGlobals "_law_is_just" = some (some (.ref f11))) (l11 : K.lookup f11 = some ⟨oc11, od11, .func (PySem.W.fnOf "_law_is_just" "_law_is_just" (defArgs s_is_just) (defBody s_is_just) (defScope s_is_just) .none kV11 dc11 pm11 an11 cd11 ct11), sl11⟩) (c11 : PySem.W.codeIn K cd11 "_law_is_just" = true) (k11 : PySem.W.keepIn K (.ref f11) = true)
    {f12 : Addr} {oc12 : Value} {od12 an12 : Option Addr} {sl12 : Array (Option Value)} {kV12 dc12 pm12 cd12 ct12 : Value}
    (a12 : PySem.W.nsIn K mainGlobals "is_fraction" = some (some (.ref f12))) (l12 : K.lookup f12 = some ⟨oc12, od12, .func (PySem.W.fnOf "is_fraction" "is_fraction" (defArgs s_p_is_fraction) (defBody s_p_is_fraction) (defScope s_p_is_fraction) .none kV12 dc12 pm12 an12 cd12 ct12), sl12⟩) (c12 : PySem.W.codeIn K cd12 "is_fraction" = true) (k12 : PySem.W.keepIn K (.ref f12) = true)
    {f13 : Addr} {oc13 : Value} {od13 an13 : Option Addr} {sl13 : Array (Option Value)} {kV13 dc13 pm13 cd13 ct13 : Value}
    (a13 : PySem.W.nsIn K mainGlobals "read_fraction" = some (some (.ref f13))) (l13 : K.lookup f13 = some ⟨oc13, od13, .func (PySem.W.fnOf "read_fraction" "read_fraction" (defArgs s_p_read_fraction) (defBody s_p_read_fraction) (defScope s_p_read_fraction) .none kV13 dc13 pm13 an13 cd13 ct13), sl13⟩) (c13 : PySem.W.codeIn K cd13 "read_fraction" = true) (k13 : PySem.W.keepIn K (.ref f13) = true)
    {f14 : Addr} {oc14 : Value} {od14 an14 : Option Addr} {sl14 : Array (Option Value)} {kV14 dc14 pm14 cd14 ct14 : Value}
    (a14 : PySem.W.nsIn K mainGlobals "are_names" = some (some (.ref f14))) (l14 : K.lookup f14 = some ⟨oc14, od14, .func (PySem.W.fnOf "are_names" "are_names" (defArgs s_p_are_names) (defBody s_p_are_names) (defScope s_p_are_names) .none kV14 dc14 pm14 an14 cd14 ct14), sl14⟩) (c14 : PySem.W.codeIn K cd14 "are_names" = true) (k14 : PySem.W.keepIn K (.ref f14) = true)
    {f15 : Addr} {oc15 : Value} {od15 an15 : Option Addr} {sl15 : Array (Option Value)} {kV15 dc15 pm15 cd15 ct15 : Value}
    (a15 : PySem.W.nsIn K mainGlobals "tie_lines" = some (some (.ref f15))) (l15 : K.lookup f15 = some ⟨oc15, od15, .func (PySem.W.fnOf "tie_lines" "tie_lines" (defArgs s_p_tie_lines) (defBody s_p_tie_lines) (defScope s_p_tie_lines) .none kV15 dc15 pm15 an15 cd15 ct15), sl15⟩) (c15 : PySem.W.codeIn K cd15 "tie_lines" = true) (k15 : PySem.W.keepIn K (.ref f15) = true)
    {f16 : Addr} {oc16 : Value} {od16 an16 : Option Addr} {sl16 : Array (Option Value)} {kV16 dc16 pm16 cd16 ct16 : Value}
    (a16 : PySem.W.nsIn K mainGlobals "_law_pot" = some (some (.ref f16))) (l16 : K.lookup f16 = some ⟨oc16, od16, .func (PySem.W.fnOf "_law_pot" "_law_pot" (defArgs s_pot) (defBody s_pot) (defScope s_pot) .none kV16 dc16 pm16 an16 cd16 ct16), sl16⟩) (c16 : PySem.W.codeIn K cd16 "_law_pot" = true) (k16 : PySem.W.keepIn K (.ref f16) = true)
    {f17 : Addr} {oc17 : Value} {od17 an17 : Option Addr} {sl17 : Array (Option Value)} {kV17 dc17 pm17 cd17 ct17 : Value}
    (a17 : PySem.W.nsIn K mainGlobals "_law_drawn" = some (some (.ref f17))) (l17 : K.lookup f17 = some ⟨oc17, od17, .func (PySem.W.fnOf "_law_drawn" "_law_drawn" (defArgs s_drawn) (defBody s_drawn) (defScope s_drawn) .none kV17 dc17 pm17 an17 cd17 ct17), sl17⟩) (c17 : PySem.W.codeIn K cd17 "_law_drawn" = true) (k17 : PySem.W.keepIn K (.ref f17) = true)
    {f18 : Addr} {oc18 : Value} {od18 an18 : Option Addr} {sl18 : Array (Option Value)} {kV18 dc18 pm18 cd18 ct18 : Value}
    (a18 : PySem.W.nsIn K mainGlobals "_law_ride" = some (some (.ref f18))) (l18 : K.lookup f18 = some ⟨oc18, od18, .func (PySem.W.fnOf "_law_ride" "_law_ride" (defArgs s_ride) (defBody s_ride) (defScope s_ride) .none kV18 dc18 pm18 an18 cd18 ct18), sl18⟩) (c18 : PySem.W.codeIn K cd18 "_law_ride" = true) (k18 : PySem.W.keepIn K (.ref f18) = true)
    {f19 : Addr} {oc19 : Value} {od19 an19 : Option Addr} {sl19 : Array (Option Value)} {kV19 dc19 pm19 cd19 ct19 : Value}
    (a19 : PySem.W.nsIn K mainGlobals "_law_chain" = some (some (.ref f19))) (l19 : K.lookup f19 = some ⟨oc19, od19, .func (PySem.W.fnOf "_law_chain" "_law_chain" (defArgs s_chain) (defBody s_chain) (defScope s_chain) .none kV19 dc19 pm19 an19 cd19 ct19), sl19⟩) (c19 : PySem.W.codeIn K cd19 "_law_chain" = true) (k19 : PySem.W.keepIn K (.ref f19) = true)
    {f20 : Addr} {oc20 : Value} {od20 an20 : Option Addr} {sl20 : Array (Option Value)} {kV20 dc20 pm20 cd20 ct20 : Value}
    (a20 : PySem.W.nsIn K mainGlobals "_law_end" = some (some (.ref f20))) (l20 : K.lookup f20 = some ⟨oc20, od20, .func (PySem.W.fnOf "_law_end" "_law_end" (defArgs s_end) (defBody s_end) (defScope s_end) .none kV20 dc20 pm20 an20 cd20 ct20), sl20⟩) (c20 : PySem.W.codeIn K cd20 "_law_end" = true) (k20 : PySem.W.keepIn K (.ref f20) = true)
    {f21 : Addr} {oc21 : Value} {od21 an21 : Option Addr} {sl21 : Array (Option Value)} {kV21 dc21 pm21 cd21 ct21 : Value}
    (a21 : PySem.W.nsIn K mainGlobals "_law_text" = some (some (.ref f21))) (l21 : K.lookup f21 = some ⟨oc21, od21, .func (PySem.W.fnOf "_law_text" "_law_text" (defArgs s_text) (defBody s_text) (defScope s_text) .none kV21 dc21 pm21 an21 cd21 ct21), sl21⟩) (c21 : PySem.W.codeIn K cd21 "_law_text" = true) (k21 : PySem.W.keepIn K (.ref f21) = true)
    {f22 : Addr} {oc22 : Value} {od22 an22 : Option Addr} {sl22 : Array (Option Value)} {kV22 dc22 pm22 cd22 ct22 : Value}
    (a22 : PySem.W.nsIn K mainGlobals "is_ride" = some (some (.ref f22))) (l22 : K.lookup f22 = some ⟨oc22, od22, .func (PySem.W.fnOf "is_ride" "is_ride" (defArgs s_p_is_ride) (defBody s_p_is_ride) (defScope s_p_is_ride) .none kV22 dc22 pm22 an22 cd22 ct22), sl22⟩) (c22 : PySem.W.codeIn K cd22 "is_ride" = true) (k22 : PySem.W.keepIn K (.ref f22) = true)
    {f23 : Addr} {oc23 : Value} {od23 an23 : Option Addr} {sl23 : Array (Option Value)} {kV23 dc23 pm23 cd23 ct23 : Value}
    (a23 : PySem.W.nsIn K mainGlobals "net_text" = some (some (.ref f23))) (l23 : K.lookup f23 = some ⟨oc23, od23, .func (PySem.W.fnOf "net_text" "net_text" (defArgs s_p_net_text) (defBody s_p_net_text) (defScope s_p_net_text) .none kV23 dc23 pm23 an23 cd23 ct23), sl23⟩) (c23 : PySem.W.codeIn K cd23 "net_text" = true) (k23 : PySem.W.keepIn K (.ref f23) = true)
    {f24 : Addr} {oc24 : Value} {od24 an24 : Option Addr} {sl24 : Array (Option Value)} {kV24 dc24 pm24 cd24 ct24 : Value}
    (a24 : PySem.W.nsIn K mainGlobals "ride_in" = some (some (.ref f24))) (l24 : K.lookup f24 = some ⟨oc24, od24, .func (PySem.W.fnOf "ride_in" "ride_in" (defArgs s_p_ride_in) (defBody s_p_ride_in) (defScope s_p_ride_in) .none kV24 dc24 pm24 an24 cd24 ct24), sl24⟩) (c24 : PySem.W.codeIn K cd24 "ride_in" = true) (k24 : PySem.W.keepIn K (.ref f24) = true)
    {f25 : Addr} {oc25 : Value} {od25 an25 : Option Addr} {sl25 : Array (Option Value)} {kV25 dc25 pm25 cd25 ct25 : Value}
    (a25 : PySem.W.nsIn K mainGlobals "_law_name" = some (some (.ref f25))) (l25 : K.lookup f25 = some ⟨oc25, od25, .func (PySem.W.fnOf "_law_name" "_law_name" (defArgs s_name) (defBody s_name) (defScope s_name) .none kV25 dc25 pm25 an25 cd25 ct25), sl25⟩) (c25 : PySem.W.codeIn K cd25 "_law_name" = true) (k25 : PySem.W.keepIn K (.ref f25) = true)
    {f26 : Addr} {oc26 : Value} {od26 an26 : Option Addr} {sl26 : Array (Option Value)} {kV26 dc26 pm26 cd26 ct26 : Value}
    (a26 : PySem.W.nsIn K mainGlobals "_law_rides" = some (some (.ref f26))) (l26 : K.lookup f26 = some ⟨oc26, od26, .func (PySem.W.fnOf "_law_rides" "_law_rides" (defArgs s_rides) (defBody s_rides) (defScope s_rides) .none kV26 dc26 pm26 an26 cd26 ct26), sl26⟩) (c26 : PySem.W.codeIn K cd26 "_law_rides" = true) (k26 : PySem.W.keepIn K (.ref f26) = true)
    {f27 : Addr} {oc27 : Value} {od27 an27 : Option Addr} {sl27 : Array (Option Value)} {kV27 dc27 pm27 cd27 ct27 : Value}
    (a27 : PySem.W.nsIn K mainGlobals "is_rides" = some (some (.ref f27))) (l27 : K.lookup f27 = some ⟨oc27, od27, .func (PySem.W.fnOf "is_rides" "is_rides" (defArgs s_p_is_rides) (defBody s_p_is_rides) (defScope s_p_is_rides) .none kV27 dc27 pm27 an27 cd27 ct27), sl27⟩) (c27 : PySem.W.codeIn K cd27 "is_rides" = true) (k27 : PySem.W.keepIn K (.ref f27) = true)
    {f28 : Addr} {oc28 : Value} {od28 an28 : Option Addr} {sl28 : Array (Option Value)} {kV28 dc28 pm28 cd28 ct28 : Value}
    (a28 : PySem.W.nsIn K mainGlobals "ties_in" = some (some (.ref f28))) (l28 : K.lookup f28 = some ⟨oc28, od28, .func (PySem.W.fnOf "ties_in" "ties_in" (defArgs s_p_ties_in) (defBody s_p_ties_in) (defScope s_p_ties_in) .none kV28 dc28 pm28 an28 cd28 ct28), sl28⟩) (c28 : PySem.W.codeIn K cd28 "ties_in" = true) (k28 : PySem.W.keepIn K (.ref f28) = true)
    {f29 : Addr} {oc29 : Value} {od29 an29 : Option Addr} {sl29 : Array (Option Value)} {kV29 dc29 pm29 cd29 ct29 : Value}
    (a29 : PySem.W.nsIn K mainGlobals "_law_net" = some (some (.ref f29))) (l29 : K.lookup f29 = some ⟨oc29, od29, .func (PySem.W.fnOf "_law_net" "_law_net" (defArgs s_net) (defBody s_net) (defScope s_net) .none kV29 dc29 pm29 an29 cd29 ct29), sl29⟩) (c29 : PySem.W.codeIn K cd29 "_law_net" = true) (k29 : PySem.W.keepIn K (.ref f29) = true)
    {f30 : Addr} {oc30 : Value} {od30 an30 : Option Addr} {sl30 : Array (Option Value)} {kV30 dc30 pm30 cd30 ct30 : Value}
    (a30 : PySem.W.nsIn K mainGlobals "is_tie" = some (some (.ref f30))) (l30 : K.lookup f30 = some ⟨oc30, od30, .func (PySem.W.fnOf "is_tie" "is_tie" (defArgs s_p_is_tie) (defBody s_p_is_tie) (defScope s_p_is_tie) .none kV30 dc30 pm30 an30 cd30 ct30), sl30⟩) (c30 : PySem.W.codeIn K cd30 "is_tie" = true) (k30 : PySem.W.keepIn K (.ref f30) = true)
    {f31 : Addr} {oc31 : Value} {od31 an31 : Option Addr} {sl31 : Array (Option Value)} {kV31 dc31 pm31 cd31 ct31 : Value}
    (a31 : PySem.W.nsIn K mainGlobals "is_net" = some (some (.ref f31))) (l31 : K.lookup f31 = some ⟨oc31, od31, .func (PySem.W.fnOf "is_net" "is_net" (defArgs s_p_is_net) (defBody s_p_is_net) (defScope s_p_is_net) .none kV31 dc31 pm31 an31 cd31 ct31), sl31⟩) (c31 : PySem.W.codeIn K cd31 "is_net" = true) (k31 : PySem.W.keepIn K (.ref f31) = true)
    {f32 : Addr} {oc32 : Value} {od32 an32 : Option Addr} {sl32 : Array (Option Value)} {kV32 dc32 pm32 cd32 ct32 : Value}
    (a32 : PySem.W.nsIn K mainGlobals "read_net" = some (some (.ref f32))) (l32 : K.lookup f32 = some ⟨oc32, od32, .func (PySem.W.fnOf "read_net" "read_net" (defArgs s_p_read_net) (defBody s_p_read_net) (defScope s_p_read_net) .none kV32 dc32 pm32 an32 cd32 ct32), sl32⟩) (c32 : PySem.W.codeIn K cd32 "read_net" = true) (k32 : PySem.W.keepIn K (.ref f32) = true)
    {f33 : Addr} {oc33 : Value} {od33 an33 : Option Addr} {sl33 : Array (Option Value)} {kV33 dc33 pm33 cd33 ct33 : Value}
    (a33 : PySem.W.nsIn K mainGlobals "_law_right" = some (some (.ref f33))) (l33 : K.lookup f33 = some ⟨oc33, od33, .func (PySem.W.fnOf "_law_right" "_law_right" (defArgs s_right) (defBody s_right) (defScope s_right) .none kV33 dc33 pm33 an33 cd33 ct33), sl33⟩) (c33 : PySem.W.codeIn K cd33 "_law_right" = true) (k33 : PySem.W.keepIn K (.ref f33) = true)
    {f34 : Addr} {oc34 : Value} {od34 an34 : Option Addr} {sl34 : Array (Option Value)} {kV34 dc34 pm34 cd34 ct34 : Value}
    (a34 : PySem.W.nsIn K mainGlobals "law" = some (some (.ref f34))) (l34 : K.lookup f34 = some ⟨oc34, od34, .func (PySem.W.fnOf "law" "law" (defArgs s_law) (defBody s_law) (defScope s_law) .none kV34 dc34 pm34 an34 cd34 ct34), sl34⟩) (c34 : PySem.W.codeIn K cd34 "law" = true) (k34 : PySem.W.keepIn K (.ref f34) = true)
    (z_all : PySem.W.nsIn K mainGlobals "all" = some none)
    (z_any : PySem.W.nsIn K mainGlobals "any" = some none)
    (z_bool : PySem.W.nsIn K mainGlobals "bool" = some none)
    (z_dict : PySem.W.nsIn K mainGlobals "dict" = some none)
    (z_divmod : PySem.W.nsIn K mainGlobals "divmod" = some none)
    (z_int : PySem.W.nsIn K mainGlobals "int" = some none)
    (z_isinstance : PySem.W.nsIn K mainGlobals "isinstance" = some none)
    (z_len : PySem.W.nsIn K mainGlobals "len" = some none)
    (z_list : PySem.W.nsIn K mainGlobals "list" = some none)
    (z_max : PySem.W.nsIn K mainGlobals "max" = some none)
    (z_min : PySem.W.nsIn K mainGlobals "min" = some none)
    (z_range : PySem.W.nsIn K mainGlobals "range" = some none)
    (z_repr : PySem.W.nsIn K mainGlobals "repr" = some none)
    (z_sorted : PySem.W.nsIn K mainGlobals "sorted" = some none)
    (z_str : PySem.W.nsIn K mainGlobals "str" = some none)
    (z_tuple : PySem.W.nsIn K mainGlobals "tuple" = some none)
    (z_zip : PySem.W.nsIn K mainGlobals "zip" = some none)
    {tk_FIGURES : Tok} (ca_FIGURES : PySem.W.nsIn K mainGlobals "FIGURES" = some (some (.str "0123456789" tk_FIGURES)))
    {tk_LETTERS : Tok} (ca_LETTERS : PySem.W.nsIn K mainGlobals "LETTERS" = some (some (.str "abcdefghijklmnopqrstuvwxyz" tk_LETTERS)))
    {tk_MOST_LETTERS : Tok} (ca_MOST_LETTERS : PySem.W.nsIn K mainGlobals "MOST_LETTERS" = some (some (.int 8 tk_MOST_LETTERS)))
    : TopF K mg where
  t_p_is_whole := top_mk X G a0 l0 c0 k0 (fun _ _ _ _ _ _ us hl => match us, hl with | [_], _ => rfl)
  t_p_common := top_mk X G a1 l1 c1 k1 (fun _ _ _ _ _ _ us hl => match us, hl with | [_, _], _ => rfl)
  t_p_is_below := top_mk X G a2 l2 c2 k2 (fun _ _ _ _ _ _ us hl => match us, hl with | [_, _], _ => rfl)
  t_p_fraction_text := top_mk X G a3 l3 c3 k3 (fun _ _ _ _ _ _ us hl => match us, hl with | [_], _ => rfl)
  t_p_number_in := top_mk X G a4 l4 c4 k4 (fun _ _ _ _ _ _ us hl => match us, hl with | [_], _ => rfl)
  t_p_is_name := top_mk X G a5 l5 c5 k5 (fun _ _ _ _ _ _ us hl => match us, hl with | [_], _ => rfl)
  t_at := top_mk X G a6 l6 c6 k6 (fun _ _ _ _ _ _ us hl => match us, hl with | [_, _], _ => rfl)
  t_take := top_mk X G a7 l7 c7 k7 (fun _ _ _ _ _ _ us hl => match us, hl with | [_, _], _ => rfl)
  t_low := top_mk X G a8 l8 c8 k8 (fun _ _ _ _ _ _ us hl => match us, hl with | [_, _], _ => rfl)
  t_under := top_mk X G a9 l9 c9 k9 (fun _ _ _ _ _ _ us hl => match us, hl with | [_, _], _ => rfl)
  t_moment_text := top_mk X G a10 l10 c10 k10 (fun _ _ _ _ _ _ us hl => match us, hl with | [_], _ => rfl)
  t_is_just := top_mk X G a11 l11 c11 k11 (fun _ _ _ _ _ _ us hl => match us, hl with | [_, _], _ => rfl)
  t_p_is_fraction := top_mk X G a12 l12 c12 k12 (fun _ _ _ _ _ _ us hl => match us, hl with | [_], _ => rfl)
  t_p_read_fraction := top_mk X G a13 l13 c13 k13 (fun _ _ _ _ _ _ us hl => match us, hl with | [_], _ => rfl)
  t_p_are_names := top_mk X G a14 l14 c14 k14 (fun _ _ _ _ _ _ us hl => match us, hl with | [_], _ => rfl)
  t_p_tie_lines := top_mk X G a15 l15 c15 k15 (fun _ _ _ _ _ _ us hl => match us, hl with | [_, _], _ => rfl)
  t_pot := top_mk X G a16 l16 c16 k16 (fun _ _ _ _ _ _ us hl => match us, hl with | [_, _], _ => rfl)
  t_drawn := top_mk X G a17 l17 c17 k17 (fun _ _ _ _ _ _ us hl => match us, hl with | [_, _], _ => rfl)
  t_ride := top_mk X G a18 l18 c18 k18 (fun _ _ _ _ _ _ us hl => match us, hl with | [_, _], _ => rfl)
  t_chain := top_mk X G a19 l19 c19 k19 (fun _ _ _ _ _ _ us hl => match us, hl with | [_], _ => rfl)
  t_end := top_mk X G a20 l20 c20 k20 (fun _ _ _ _ _ _ us hl => match us, hl with | [_, _], _ => rfl)
  t_text := top_mk X G a21 l21 c21 k21 (fun _ _ _ _ _ _ us hl => match us, hl with | [_], _ => rfl)
  t_p_is_ride := top_mk X G a22 l22 c22 k22 (fun _ _ _ _ _ _ us hl => match us, hl with | [_], _ => rfl)
  t_p_net_text := top_mk X G a23 l23 c23 k23 (fun _ _ _ _ _ _ us hl => match us, hl with | [_], _ => rfl)
  t_p_ride_in := top_mk X G a24 l24 c24 k24 (fun _ _ _ _ _ _ us hl => match us, hl with | [_], _ => rfl)
  t_name := top_mk X G a25 l25 c25 k25 (fun _ _ _ _ _ _ us hl => match us, hl with | [_, _], _ => rfl)
  t_rides := top_mk X G a26 l26 c26 k26 (fun _ _ _ _ _ _ us hl => match us, hl with | [_, _], _ => rfl)
  t_p_is_rides := top_mk X G a27 l27 c27 k27 (fun _ _ _ _ _ _ us hl => match us, hl with | [_], _ => rfl)
  t_p_ties_in := top_mk X G a28 l28 c28 k28 (fun _ _ _ _ _ _ us hl => match us, hl with | [_], _ => rfl)
  t_net := top_mk X G a29 l29 c29 k29 (fun _ _ _ _ _ _ us hl => match us, hl with | [_], _ => rfl)
  t_p_is_tie := top_mk X G a30 l30 c30 k30 (fun _ _ _ _ _ _ us hl => match us, hl with | [_, _], _ => rfl)
  t_p_is_net := top_mk X G a31 l31 c31 k31 (fun _ _ _ _ _ _ us hl => match us, hl with | [_], _ => rfl)
  t_p_read_net := top_mk X G a32 l32 c32 k32 (fun _ _ _ _ _ _ us hl => match us, hl with | [_], _ => rfl)
  t_right := top_mk X G a33 l33 c33 k33 (fun _ _ _ _ _ _ us hl => match us, hl with | [_], _ => rfl)
  t_law := top_mk X G a34 l34 c34 k34 (fun _ _ _ _ _ _ us hl => match us, hl with | [_], _ => rfl)
  z_all := PySem.W.mg_none_of X G z_all
  z_any := PySem.W.mg_none_of X G z_any
  z_bool := PySem.W.mg_none_of X G z_bool
  z_dict := PySem.W.mg_none_of X G z_dict
  z_divmod := PySem.W.mg_none_of X G z_divmod
  z_int := PySem.W.mg_none_of X G z_int
  z_isinstance := PySem.W.mg_none_of X G z_isinstance
  z_len := PySem.W.mg_none_of X G z_len
  z_list := PySem.W.mg_none_of X G z_list
  z_max := PySem.W.mg_none_of X G z_max
  z_min := PySem.W.mg_none_of X G z_min
  z_range := PySem.W.mg_none_of X G z_range
  z_repr := PySem.W.mg_none_of X G z_repr
  z_sorted := PySem.W.mg_none_of X G z_sorted
  z_str := PySem.W.mg_none_of X G z_str
  z_tuple := PySem.W.mg_none_of X G z_tuple
  z_zip := PySem.W.mg_none_of X G z_zip
  c_FIGURES := cf_str X G ca_FIGURES
  c_LETTERS := cf_str X G ca_LETTERS
  c_MOST_LETTERS := cf_int X G ca_MOST_LETTERS
theorem law_end {P : Program} {w : World} {K : PySem.W.Frag} {mg : Str → Option Value} {fa : Addr} (T : TopF K mg) (hmg : mg "law" = some (.ref fa)) :
    ∃ fd : FuncData, (∀ (s : Shared) (u : Value), BindsTo s fd ⟨[u], []⟩ [("_law_script", u)]) ∧ ∀ base : Heap, K.In base → base.Ns mainGlobals mg → FnG P w K mg base CX0 9 fa fd ["_law_script"] (spD K 1 F_law) := lawG_F T.t_law (fun base => d_law T) hmg fun _ _ _ _ _ _ _ _ => .of_eq rfl
end DL
namespace DL
open PySem PySem.Spec L2
local macro_rules | `(tactic| walk_at "ev") => `(tactic| try simp -implicitDefEqProofs only [evB1, Nat.reduceLeDiff, asO_int, Res.bind_ok, b1_ok, b2_ok, bAnd_ok, bOr_ok, bNot_ok, bAndV_ok, bOrV_ok, bNotV_ok, bIf_ok, bC_ok, bC1_ok, bM_ok, bM1_ok, bSl_ok, bSl1_ok, bSl2_ok, kAsg_ok, bG_ok, bS1_ok, bS2_ok, bS3_ok, kSet_ok, kRet_ok, kExp_ok, kIf_ok, kFor_ok, kPar_ok, kPar1_ok, SR.seq_nx, SR.seq_rt, SR.fin_rt, toS_ok, slAt_some, optR_some, asB_bl, asT_bl, dAdd_ii, dSub_ii, dNeg_i, dLt_ii, dGt_ii, dLe_ii, dGe_ii, bMax2_ii, bMin2_ii, bInt_b, bLen_t, bLen_r, dIx_t, dIx_r, at_0, at_1, at_2, dEq_ii, dNe_ii, iSeq_t, List.map, List.length_cons, List.length_nil, List.replicate_succ, List.replicate_zero, List.cons_append, List.nil_append, List.append_nil, List.getElem?_cons_zero, List.getElem?_cons_succ, List.set_cons_zero, List.set_cons_succ, Nat.reduceSub, Nat.reduceAdd, Nat.sub_self, Bool.not_true, Bool.not_false, if_true, if_false, reduceIte, Bool.false_eq_true, decide_true, decide_false])
local macro_rules | `(tactic| walk_at "evn") => `(tactic| try simp -implicitDefEqProofs only [evB1, List.append_assoc, List.length_append, Nat.add_assoc, get_at, get_at0, Nat.reduceLeDiff, asO_int, Res.bind_ok, b1_ok, b2_ok, bAnd_ok, bOr_ok, bNot_ok, bAndV_ok, bOrV_ok, bNotV_ok, bIf_ok, bC_ok, bC1_ok, bM_ok, bM1_ok, bSl_ok, bSl1_ok, bSl2_ok, kAsg_ok, bG_ok, bS1_ok, bS2_ok, bS3_ok, kSet_ok, kRet_ok, kExp_ok, kIf_ok, kFor_ok, kPar_ok, kPar1_ok, SR.seq_nx, SR.seq_rt, SR.fin_rt, toS_ok, slAt_some, optR_some, asB_bl, asT_bl, dAdd_ii, dSub_ii, dNeg_i, dLt_ii, dGt_ii, dLe_ii, dGe_ii, bMax2_ii, bMin2_ii, bInt_b, bLen_t, bLen_r, dIx_t, dIx_r, at_0, at_1, at_2, dEq_ii, dNe_ii, iSeq_t, List.map, List.length_cons, List.length_nil, List.replicate_succ, List.replicate_zero, List.cons_append, List.nil_append, List.append_nil, List.getElem?_cons_zero, List.getElem?_cons_succ, List.set_cons_zero, List.set_cons_succ, Nat.reduceSub, Nat.reduceAdd, Nat.sub_self, Bool.not_true, Bool.not_false, if_true, if_false, reduceIte, Bool.false_eq_true, decide_true, decide_false])
local macro_rules | `(tactic| walk_at "evq") => `(tactic| try simp -implicitDefEqProofs only [evB1, ev_gT_FQ, dIx_FQ0, dIx_FQ1, dEq_FQ, dNe_FQ, FQ_01, List.append_assoc, List.length_append, Nat.add_assoc, get_at, get_at0, Nat.reduceLeDiff, asO_int, Res.bind_ok, b1_ok, b2_ok, bAnd_ok, bOr_ok, bNot_ok, bAndV_ok, bOrV_ok, bNotV_ok, bIf_ok, bC_ok, bC1_ok, bM_ok, bM1_ok, bSl_ok, bSl1_ok, bSl2_ok, kAsg_ok, bG_ok, bS1_ok, bS2_ok, bS3_ok, kSet_ok, kRet_ok, kExp_ok, kIf_ok, kFor_ok, kPar_ok, kPar1_ok, SR.seq_nx, SR.seq_rt, SR.fin_rt, toS_ok, slAt_some, optR_some, asB_bl, asT_bl, dAdd_ii, dSub_ii, dNeg_i, dLt_ii, dGt_ii, dLe_ii, dGe_ii, bMax2_ii, bMin2_ii, bInt_b, bLen_t, bLen_r, dIx_t, dIx_r, at_0, at_1, at_2, dEq_ii, dNe_ii, iSeq_t, List.map, List.length_cons, List.length_nil, List.replicate_succ, List.replicate_zero, List.cons_append, List.nil_append, List.append_nil, List.getElem?_cons_zero, List.getElem?_cons_succ, List.set_cons_zero, List.set_cons_succ, Nat.reduceSub, Nat.reduceAdd, Nat.sub_self, Bool.not_true, Bool.not_false, if_true, if_false, reduceIte, Bool.false_eq_true, decide_true, decide_false])
theorem sl0_I : D.str (Str.ofString "0123456789") = T [48, 49, 50, 51, 52, 53, 54, 55, 56, 57] := by
  show D.str _ = D.str _
  congr 1
theorem sl1_I : D.str (Str.ofString "abcdefghijklmnopqrstuvwxyz") = T [97, 98, 99, 100, 101, 102, 103, 104, 105, 106, 107, 108, 109, 110, 111, 112, 113, 114, 115, 116, 117, 118, 119, 120, 121, 122] := by
  show D.str _ = D.str _
  congr 1
theorem sl2_I : D.str (Str.ofString "/") = T [47] := by
  show D.str _ = D.str _
  congr 1
theorem sl3_I : D.str (Str.ofString "") = T [] := by
  show D.str _ = D.str _
  congr 1
theorem sl4_I : D.str (Str.ofString "0") = T [48] := by
  show D.str _ = D.str _
  congr 1
theorem sl5_I : D.str (Str.ofString "tie ") = T [116, 105, 101, 32] := by
  show D.str _ = D.str _
  congr 1
theorem sl6_I : D.str (Str.ofString " ") = T [32] := by
  show D.str _ = D.str _
  congr 1
theorem sl7_I : D.str (Str.ofString "ride ") = T [114, 105, 100, 101, 32] := by
  show D.str _ = D.str _
  congr 1
theorem sl8_I : D.str (Str.ofString "end ") = T [101, 110, 100, 32] := by
  show D.str _ = D.str _
  congr 1
theorem sl9_I : D.str (Str.ofString "waits") = T [119, 97, 105, 116, 115] := by
  show D.str _ = D.str _
  congr 1
theorem sl10_I : D.str (Str.ofString "\n") = T [10] := by
  show D.str _ = D.str _
  congr 1
theorem sl11_I : D.str (Str.ofString "tie") = T [116, 105, 101] := by
  show D.str _ = D.str _
  congr 1
theorem sl12_I : D.str (Str.ofString "ride") = T [114, 105, 100, 101] := by
  show D.str _ = D.str _
  congr 1
theorem sl13_I : D.str (Str.ofString "end") = T [101, 110, 100] := by
  show D.str _ = D.str _
  congr 1
theorem sl14_I : D.str (Str.ofString "without") = T [119, 105, 116, 104, 111, 117, 116] := by
  show D.str _ = D.str _
  congr 1
theorem sl15_I : D.str (Str.ofString "a") = T [97] := by
  show D.str _ = D.str _
  congr 1
theorem sl16_I : D.str (Str.ofString "b") = T [98] := by
  show D.str _ = D.str _
  congr 1
theorem sl17_I : D.str (Str.ofString "zz") = T [122, 122] := by
  show D.str _ = D.str _
  congr 1
theorem p_is_whole {x : D} {h : Hd} {t : String} (e : ty0 h x = some t) : F_p_is_whole [x] h = .ok (.bl (isInt x)) h := by
  simp only [F_p_is_whole, B_p_is_whole]
  walk_at "ev"
  simp only [isi_int e, isi_bool e]
  cases x with
  | ref n =>
    unfold ty0 at e
    simp only at e
    split at e
    all_goals first | (cases e; done) | (cases e; exact gc_same lo_bl)
  | _ => first | (cases e; done) | (cases e; exact gc_same lo_bl)
theorem p_common {a b : Int} {h : Hd} (ha : 0 ≤ a) (hb : 0 ≤ b) : F_p_common [.int a, .int b] h = .ok (.int (Int.gcd a b)) h := by
  simp only [F_p_common, B_p_common]
  walk_at "ev"
  rw [common_while (fun a b => by walk_at "ev") (fun a b q => by walk_at "ev"; rw [dMod_ok q]; rfl) b.toNat a b (Nat.le_refl _) ha hb]
  walk_at "ev"
  exact gc_same lo_int
theorem p_is_below_ok {a b : Rat} {h : Hd} {k l : Nat} (x : SzQ k a) (y : SzQ l b) (hk : k + l ≤ 7999) : F_p_is_below [FQ a, FQ b] h = .ok (.bl (decide (a < b))) h := by
  simp only [F_p_is_below, B_p_is_below]
  walk_at "evq"
  rw [dMul_ok (MulOk.of x.1 y.2 (by omega))]
  walk_at "evq"
  rw [dMul_ok (MulOk.of y.1 x.2 (by omega))]
  walk_at "evq"
  simp only [lt_FQ]
  exact gc_same lo_bl
theorem p_is_below_I {a b : Rat} {h : Hd} {k l : Nat} [x : ZQ k a] [y : ZQ l b] (hk : k + l ≤ 7999) : F_p_is_below [FQ a, FQ b] h = .ok (.bl (decide (a < b))) h := p_is_below_ok x.z y.z hk
def evB2 := andB @lt_FQ <| andB @dMul_I <| andB @bStr_I <| andB @iSeq_I <| andB @tyM_I <| andB @lsOf_I <| andB @dIx_I <| andB @mApp_I <| andB @dSl_I <| andB @bLen_I <| andB @bTuple_I <| andB @dAdd_I <| andB @set_at_I <| andB @set_at0_I <| andB @iteA_I <| andB @iteO_I <| andB @iteOV_I <| andB @is_in_I <| andB @is_nn_I <| andB @is_tn_I <| andB @dec_nil_I <| andB @dEq_T_I <| andB @dNe_T_I <| andB @dAdd_T_I <| andB @iSeq_T_I <| andB @dIn_T_I <| andB @dIx_T_I <| andB @bLen_T_I <| andB @sl0_I <| andB @sl1_I <| andB @sl2_I <| andB @sl3_I <| andB @sl4_I <| andB @sl5_I <| andB @sl6_I <| andB @sl7_I <| andB @sl8_I <| andB @sl9_I <| andB @sl10_I <| andB @sl11_I <| andB @sl12_I <| andB @sl13_I <| andB @sl14_I <| andB @sl15_I <| andB @sl16_I <| andB @sl17_I <| andB @p_is_below_I <| @ev_gT_FQ
local macro_rules | `(tactic| walk_at "evi") => `(tactic| try simp -implicitDefEqProofs (disch := first | (simp only [List.length_cons, List.length_nil, Nat.reduceAdd, Nat.reduceLeDiff]; done) | exact tyM_I | exact tyM_T | decide | omega | assumption) only [evB1, evB2, Bool.false_xor, Bool.true_xor, k_FIGURES, k_LETTERS, k_MOST_LETTERS, dIx_FQ0, dIx_FQ1, dEq_FQ, dNe_FQ, FQ_01, List.append_assoc, List.length_append, Nat.add_assoc, get_at, get_at0, Nat.reduceLeDiff, asO_int, Res.bind_ok, b1_ok, b2_ok, bAnd_ok, bOr_ok, bNot_ok, bAndV_ok, bOrV_ok, bNotV_ok, bIf_ok, bC_ok, bC1_ok, bM_ok, bM1_ok, bSl_ok, bSl1_ok, bSl2_ok, kAsg_ok, bG_ok, bS1_ok, bS2_ok, bS3_ok, kSet_ok, kRet_ok, kExp_ok, kIf_ok, kFor_ok, kPar_ok, kPar1_ok, SR.seq_nx, SR.seq_rt, SR.fin_rt, toS_ok, slAt_some, optR_some, asB_bl, asT_bl, dAdd_ii, dSub_ii, dNeg_i, dLt_ii, dGt_ii, dLe_ii, dGe_ii, bMax2_ii, bMin2_ii, bInt_b, bLen_t, bLen_r, dIx_t, dIx_r, at_0, at_1, at_2, dEq_ii, dNe_ii, iSeq_t, List.map, List.length_cons, List.length_nil, List.replicate_succ, List.replicate_zero, List.cons_append, List.nil_append, List.append_nil, List.getElem?_cons_zero, List.getElem?_cons_succ, List.set_cons_zero, List.set_cons_succ, Nat.reduceSub, Nat.reduceAdd, Nat.sub_self, Bool.not_true, Bool.not_false, if_true, if_false, reduceIte, Bool.false_eq_true, decide_true, decide_false])
theorem p_fraction_text_ok {a : Rat} {h : Hd} {k : Nat} (a0 : 0 ≤ a) (z : SzQ k a) (hk : k < 1000) : F_p_fraction_text [FQ a] h = .ok (T (frT a)) h := by
  have n0 := num_nonneg a0
  have l1 := dig_lenS (n := a.num.toNat) (k := k) (by rw [Int.toNat_of_nonneg n0]; exact z.1)
  have l2 := dig_lenS (n := a.den) (k := k) z.2
  simp only [F_p_fraction_text, B_p_fraction_text]
  walk_at "evi"
  unfold frT
  by_cases h1 : a.den = 1
  · rw [if_pos h1, decide_eq_true (show (a.den : Int) = 1 by omega)]
    walk_at "evi"
    rw [bStr_T n0 z.1 (by omega)]
    walk_at "evi"
    exact gc_same lo_T
  · rw [if_neg h1, decide_eq_false (show ¬ (a.den : Int) = 1 by omega)]
    walk_at "evi"
    rw [bStr_T n0 z.1 (by omega)]
    walk_at "evi"
    rw [dAdd_T_I (by rw [List.length_cons, List.length_nil]; omega)]
    walk_at "evi"
    rw [bStr_T (by omega) z.2 (by omega)]
    walk_at "evi"
    rw [Int.toNat_natCast, dAdd_T_I (by rw [List.length_append, List.length_cons, List.length_nil]; omega)]
    walk_at "evi"
    exact gc_same lo_T
theorem p_fraction_text_I {a : Rat} {h : Hd} {k : Nat} [a0 : Fa (0 ≤ a)] [z : ZQ k a] (hk : k < 1000) : F_p_fraction_text [FQ a] h = .ok (T (frT a)) h := p_fraction_text_ok a0.out z.z hk
def evB3 := andB @gc_I <| andB @gcn_I <| andB @gcS_I <| andB @ev_G_I <| andB @ev_tG_I <| andB @bTG_I <| andB @ev_sG_I <| andB @ev_sW_I <| andB @wp_nx_I <| andB @wipe_nil_I <| andB @wipe_cons_I <| andB @HP_len_I <| andB @HP_HP_I <| andB @set_HPk_I <| andB @set_HP0_I <| andB @ev_turn_I <| andB @ev_Lc_I <| andB @cut_dropLast_I <| andB @dPow_I <| andB @dDiv_I <| andB @iRange1_I <| andB @map_snoc_I <| andB @map_app_I <| andB @mExt_I <| andB @mIns_I <| andB @zero_add_I <| andB @law_rng_I <| andB @bAll_map_I <| andB @bAny_map_I <| andB @all_true_I <| andB @any_false_I <| andB @dIx_Qd1_I <| andB @cut_1_I <| andB @gT_Qd_I <| andB @isi_Qd_I <| andB @bLen_Qd_I <| andB @str_T_I <| andB @toNat_cast_I <| andB @isi_T_I <| andB @set_back_I <| andB @getR_I <| andB @dDG_I <| andB @dSetD_I <| andB @ev_sLock_I <| andB @kLock_I <| andB @unlS_nx_I <| andB @ev_eLock_I <| andB @kLockE_I <| andB @unlE_I <| andB @ev_iItm_I <| andB @ev_iVal_I <| andB @ev_DN_I <| andB @ev_run2_I <| andB @fin2_rt_I <| andB @gcnK_I <| andB @dSl_T_I <| andB @setHP_I <| andB @set_appO_I <| andB @len_set_I <| andB @kItm_I <| andB @kVal_I <| andB @valK_I <| andB @dIx_Tie0_I <| andB @dIx_Tie1_I <| andB @dIx_Tie2_I <| andB @gT_Tie_I <| andB @iSeq_Rds_I <| andB @omap_I <| andB @isi_tup_I <| andB @gcS0_I <| andB @isi_dict_I <| andB @ev_Ch_I <| andB @kC1_I <| andB @kC2_I <| andB @kC3t_I <| andB @is_T_I <| @p_fraction_text_I
local macro_rules | `(tactic| walk_at "evj") => `(tactic| try simp -implicitDefEqProofs (disch := first | (simp only [List.length_cons, List.length_nil, Nat.reduceAdd, Nat.reduceLeDiff]; done) | exact tyM_I | exact tyM_T | decide | omega | (simp only [List.length_map, List.length_cons, List.length_nil, List.length_append, List.length_replicate, List.length_take, List.length_dropLast]; omega) | assumption) only [evB1, evB2, evB3, Bool.false_xor, Bool.true_xor, beq_self_eq_true, Bool.true_and, Bool.and_true, Bool.false_and, Bool.and_false, Bool.true_or, Bool.or_true, Bool.false_or, Bool.or_false, Int.reduceToNat, Int.reducePow, Int.reduceSub, Int.reduceAdd, Int.reduceNeg, Int.reduceMul, List.singleton_append, k_FIGURES, k_LETTERS, k_MOST_LETTERS, dIx_FQ0, dIx_FQ1, dEq_FQ, dNe_FQ, FQ_01, List.append_assoc, List.length_append, Nat.add_assoc, get_at, get_at0, Nat.reduceLeDiff, asO_int, Res.bind_ok, b1_ok, b2_ok, bAnd_ok, bOr_ok, bNot_ok, bAndV_ok, bOrV_ok, bNotV_ok, bIf_ok, bC_ok, bC1_ok, bM_ok, bM1_ok, bSl_ok, bSl1_ok, bSl2_ok, kAsg_ok, bG_ok, bS1_ok, bS2_ok, bS3_ok, kSet_ok, kRet_ok, kExp_ok, kIf_ok, kFor_ok, kPar_ok, kPar1_ok, SR.seq_nx, SR.seq_rt, SR.fin_rt, toS_ok, slAt_some, optR_some, asB_bl, asT_bl, dAdd_ii, dSub_ii, dNeg_i, dLt_ii, dGt_ii, dLe_ii, dGe_ii, bMax2_ii, bMin2_ii, bInt_b, bLen_t, bLen_r, dIx_t, dIx_r, at_0, at_1, at_2, dEq_ii, dNe_ii, iSeq_t, List.map, List.length_cons, List.length_nil, List.replicate_succ, List.replicate_zero, List.cons_append, List.nil_append, List.append_nil, List.getElem?_cons_zero, List.getElem?_cons_succ, List.set_cons_zero, List.set_cons_succ, Nat.reduceSub, Nat.reduceAdd, Nat.sub_self, Bool.not_true, Bool.not_false, if_true, if_false, reduceIte, Bool.false_eq_true, decide_true, decide_false])
theorem num_loop5 {g : GM} {body : SM} {h : Hd} {S : D → Option D → Sl} (hg : ∀ (v : D) (u : Option D) (c : Nat), g (T [c]) (S v u) h = .ok (S v (some (T [c]))) h) (hb : ∀ (v c k : Nat), isDg c = true → v < 10 ^ k → k ≤ 5000 → body (S (.int v) (some (T [c]))) h = .nx (S (.int ((10 * v + (c - 48) : Nat) : Int)) (some (T [c]))) h) :
    ∀ (l : List Nat) (v k : Nat) (u : Option D), l.all isDg = true → v < 10 ^ k → k + l.length ≤ 5000 → ∃ u', forD (fun _ => True) g body (l.map fun c => T [c]) (S (.int v) u) h = .nx (S (.int ((l.foldl (fun a c => 10 * a + (c - 48)) v : Nat) : Int)) u') h
  | [], v, k, u, _, _, _ => ⟨u, by rw [List.map_nil]; unfold forD; rw [if_pos trivial]; rfl⟩
  | c :: l, v, k, u, hd, hv, hk => by
    rw [List.all_cons, Bool.and_eq_true] at hd
    have hc := of_decide_eq_true hd.1
    obtain ⟨u', e⟩ := num_loop5 hg hb l (10 * v + (c - 48)) (k + 1) (some (T [c])) hd.2 (by rw [Nat.pow_succ]; omega) (by rw [List.length_cons] at hk; omega)
    refine ⟨u', ?_⟩
    rw [List.map_cons]
    unfold forD
    rw [if_pos trivial, hg]
    simp only
    rw [hb v c k hd.1 hv (by rw [List.length_cons] at hk; omega)]
    exact e
theorem p_number_in_ok {l : List Nat} {h : Hd} [tl : Tx l] (hl : l.length ≤ 5000) : F_p_number_in [T l] h = .ok (numD l) h := by
  simp only [F_p_number_in, B_p_number_in]
  walk_at "evi"
  by_cases h0 : l = []
  · subst h0
    walk_at "evi"
    exact gc_same lo_non
  rw [decide_eq_false h0]
  walk_at "evi"
  rw [lc_sign (l := l) (f := fun c => .bl (isDg c)) (chk := fun _ => True) (h1 := h) (by walk_at "evi") (by omega) (fun _ => trivial) (fun c hc acc => by
    walk_at "evi"
    rw [mem_FG])]
  walk_at "evi"
  rw [all_bl get_new]
  walk_at "evi"
  by_cases hd : l.all isDg = true
  rotate_left
  · have e : l.all isDg = false := by simpa using hd
    rw [e]
    walk_at "evi"
    unfold numD
    rw [if_neg fun q => hd q.2.1]
    exact gc_app lo_non
  rw [hd]
  walk_at "evi"
  obtain ⟨c, r, rfl⟩ : ∃ c r, l = c :: r := by
    cases l with
    | nil => exact (h0 rfl).elim
    | cons c r => exact ⟨c, r, rfl⟩
  have tc : Tx [c] := ⟨fun x hx => tl.ok x (by rw [List.mem_singleton.mp hx]; simp)⟩
  rw [dIx_T_I (by omega)]
  walk_at "evi"
  have e1 : decide ([c] = [48]) = decide (c = 48) := by rw [decide_eq_decide]; simp
  rw [e1]
  generalize hH : h ++ [MO.lst _] = H
  by_cases hz : c = 48 ∧ ¬ c :: r = [48]
  · have e3 : (decide (c = 48) && !decide (c :: r = [48])) = true := by rw [decide_eq_true hz.1, decide_eq_false hz.2]; rfl
    rw [e3]
    walk_at "evi"
    unfold numD
    rw [if_neg fun q => hz.2 (q.2.2 (by rw [hz.1]; rfl)), ← hH]
    exact gc_app lo_non
  · have e3 : (decide (c = 48) && !decide (c :: r = [48])) = false := by
      rw [Bool.eq_false_iff]
      intro q
      rw [Bool.and_eq_true, Bool.not_eq_true', decide_eq_true_eq, decide_eq_false_iff_not] at q
      exact hz q
    rw [e3]
    walk_at "evi"
    obtain ⟨u', e4⟩ := num_loop5 (h := H) (S := fun v u => [some (T (c :: r)), some v, u]) (g := gN 2) (body := (sSet 1 (DL.e2 dAdd (DL.e2 dMul (eC (D.int 10)) (eV 1)) (eM "str" mSIndex (eC (T FG)) (aC (eV 2) aN))))) (fun v u c => rfl) (fun v c k hc hv hk => by
      walk_at "evi"
      rw [dMul_ok (MulOk.of (k := 4) (by unfold Sz; decide) (Sz.pow10 hv) (by omega))]
      walk_at "evi"
      rw [fg_index hc]
      walk_at "evi"
      norm_cast) (c :: r) 0 0 none hd (by decide) (by simpa using hl)
    refine (congrArg (fun R => SR.fin h (R.seq (sRet (eV 1)))) e4).trans ?_
    walk_at "evi"
    have e5 : numD (c :: r) = .int (numV (c :: r)) := by
      unfold numD
      rw [if_pos ⟨by simp, hd, fun q => by
        by_cases z : c :: r = [48]
        · exact z
        · exact (hz ⟨by simpa using q, z⟩).elim⟩]
    rw [e5, ← hH]
    exact gc_app lo_int
theorem p_is_name_ok {p : Pl} {h : Hd} (o : NmOk p) : F_p_is_name [T p] h = .ok (.bl true) h := by
  obtain ⟨l1, l2, l3⟩ := o
  have np : Nm p := ⟨⟨l1, l2, l3⟩⟩
  have i1 : ZI 10 (p.length : Int) := ⟨Sz.of (by omega) (by omega)⟩
  simp only [F_p_is_name, B_p_is_name]
  walk_at "evj"
  rw [decide_eq_true (by omega : (1 : Int) ≤ (p.length : Int))]
  walk_at "evj"
  rw [decide_eq_true (by omega : (p.length : Int) ≤ 8)]
  walk_at "evj"
  rw [kLc_all (xs := p) (f := fun _ => D.bl true) (by omega) (fun _ => trivial) (fun c hc acc => ⟨_, rfl, rfl, by
    walk_at "evj"
    rw [decide_eq_true (fr_az (l3 c hc).1 (l3 c hc).2)]⟩)]
  walk_at "evj"
theorem at_ok {ns : List Int} {k : Nat} {h : Hd} (hk : k < 64) : F_at [.rol (ns.map D.int), .int k] h = .ok (.int (ns.getD k 0)) h := by
  simp only [F_at, B_at]
  walk_at "evj"
  by_cases c : k < ns.length
  · have e1 : decide ((k : Int) < ((ns.map D.int).length : Int)) = true := decide_eq_true (by rw [List.length_map]; omega)
    have e2 : atI (ns.map D.int) (k : Int) = some (.int ns[k]) := by
      rw [at_nat (by rw [List.length_map]; exact c)]
      simp
    rw [e1, e2]
    walk_at "evj"
    rw [List.getD_eq_getElem?_getD, List.getElem?_eq_getElem c]
    rfl
  · have e1 : decide ((k : Int) < ((ns.map D.int).length : Int)) = false := decide_eq_false (by rw [List.length_map]; omega)
    rw [e1]
    walk_at "evj"
    rw [List.getD_eq_getElem?_getD, List.getElem?_eq_none (by omega)]
    rfl
theorem takeH_ok {p : Nat} {h : Hd} {c : PS} {m : Int} [z : PL p h] (v : PotI c) (h1 : 1 ≤ m) (h2 : m < 2 ^ 60) : F_take [.ref p, .int m] (HP h p c) = .ok (.int (uhV c m)) (HP h p (uhC c m)) := by
  obtain ⟨hx, hy, hy2⟩ := v.v
  obtain ⟨x, y⟩ := c
  simp only at hx hy hy2
  have hp : p < (HP h p (x, y)).length := by rw [HP_len_I]; exact z.lt
  have e : (HP h p (x, y))[p]? = some (.lst [.int x, .int y]) := HP_get
  have mz : DivOk x m := DivOk.of (by omega) (Sz.of (k := 60) (by omega) (by omega)) (by decide)
  simp only [F_take, B_take]
  walk_at "ev"
  simp only [dIx_l e]
  walk_at "ev"
  unfold uhV uhC
  simp only
  by_cases hx0 : 0 < x
  · simp only [hx0, decide_true, if_true]
    walk_at "ev"
    simp only [dIx_l e]
    walk_at "ev"
    rw [bDivmod_ok mz]
    walk_at "ev"
    rw [setL_l (k := 0) e (by rfl)]
    walk_at "ev"
    rw [show (HP h p (x, y)).set p (.lst [.int (x / m), .int y]) = HP h p (x / m, y) from HP_HP_I (c := (x, y)) (c2 := (x / m, y))]
    have := gc_I (h := HP h p (x, y)) (h1 := HP h p (x / m, y)) (d := .int (x % m)) (tk := [])
    rw [this, List.append_nil]
  · simp only [hx0]
    walk_at "ev"
    simp only [dIx_l e]
    walk_at "ev"
    rw [dMul_ok (MulOk.of (Sz.of (k := 40) (by omega) (by omega)) (Sz.of (k := 40) (by omega) (by omega)) (by decide))]
    walk_at "ev"
    rw [dMod_ok (by decide)]
    walk_at "ev"
    rw [setL_l (k := 1) e (by rfl)]
    walk_at "ev"
    generalize hy' : (y * 39373 + 7919) % 2147483629 = y'
    have b1 : 0 ≤ y' := by omega
    have b2 : y' < 2147483629 := by omega
    rw [show (HP h p (x, y)).set p (.lst [.int x, .int y']) = HP h p (x, y') from HP_HP_I (c := (x, y)) (c2 := (x, y'))]
    have e' : (HP h p (x, y'))[p]? = some (.lst [.int x, .int y']) := HP_get
    simp only [dIx_l e']
    walk_at "ev"
    simp only [dIx_l e']
    walk_at "ev"
    rw [dMul_ok (MulOk.of (Sz.of (k := 40) (by omega) (by omega)) (Sz.of (k := 40) (by omega) (by omega)) (by decide))]
    walk_at "ev"
    rw [dMod_ok (by decide)]
    walk_at "ev"
    rw [dDiv_ok (DivOk.of (by decide) (Sz.of (k := 40) (by omega) (by omega)) (by decide))]
    walk_at "ev"
    rw [dMod_ok (by omega)]
    walk_at "ev"
    have := gc_I (h := HP h p (x, y)) (h1 := HP h p (x, y')) (d := .int (y' * y' % 2147483563 / 11 % m)) (tk := [])
    rw [this, List.append_nil]
theorem take_I {H h g : Hd} {p k : Nat} {c : PS} {m : Int} [q : Hpt H h p c g] [v : PotI c] [z : PL p h] [f : Fa (1 ≤ m)] [w : ZI k m] (hk : k ≤ 60) : F_take [.ref p, .int m] H = .ok (.int (uhV c m)) (HP h p (uhC c m) ++ g) :=
  frame (fun h _ => takeH_ok v f.out (by have := w.z.mono hk; unfold Sz at this; omega))
theorem low_ok {n d : Int} {h : Hd} {k : Nat} (h0 : 0 ≤ n) (h1 : 1 ≤ d) (z : Sz k d) (hk : k < 9000) : F_low [.int n, .int d] h = .ok (FQ (Rat.divInt n d)) h := by
  simp only [F_low, B_low]
  walk_at "evi"
  rw [gcd_while (S := fun a b => [some (.int n), some (.int d), some (.int a), some (.int b)]) (fun a b => by walk_at "evi") (fun a b q => by walk_at "evi"; rw [dMod_ok q]; rfl) d.toNat n d (Nat.le_refl _) h0 (by omega)]
  walk_at "evi"
  have zg : Sz k ((Int.gcd n d : Nat) : Int) := by
    have := gcd_pos1 (a := n) h1
    have := gcd_le1 (a := n) h1
    unfold Sz at z ⊢
    omega
  rw [dDiv_ok (DivOk.of (gcd_pos1 h1) zg hk)]
  walk_at "evi"
  rw [dDiv_ok (DivOk.of (gcd_pos1 h1) zg hk)]
  walk_at "evi"
  rw [← FQ_divInt h1]
  exact gc_same lo_FQ
theorem low_I {n d : Int} {h : Hd} {k : Nat} [f : Fa (0 ≤ n)] [g : Fa (1 ≤ d)] [z : ZI k d] (hk : k < 9000) : F_low [.int n, .int d] h = .ok (FQ (Rat.divInt n d)) h := low_ok f.out g.out z.z hk
theorem under_ok {a b : Rat} {h : Hd} {k l : Nat} (x : SzQ k a) (y : SzQ l b) (hk : k + l ≤ 7999) : F_under [FQ a, FQ b] h = .ok (.bl (decide (a < b))) h := by
  have ia : ZQ k a := ⟨x⟩
  have ib : ZQ l b := ⟨y⟩
  simp only [F_under, B_under]
  walk_at "evj"
theorem under_I {a b : Rat} {h : Hd} {k l : Nat} [x : ZQ k a] [y : ZQ l b] (hk : k + l ≤ 7999) : F_under [FQ a, FQ b] h = .ok (.bl (decide (a < b))) h := under_ok x.z y.z hk
def evB4 := andB @p_fraction_text_I <| andB @take_I <| andB @low_I <| @under_I
local macro_rules | `(tactic| walk_at "evi") => `(tactic| try simp -implicitDefEqProofs (disch := first | (simp only [List.length_cons, List.length_nil, Nat.reduceAdd, Nat.reduceLeDiff]; done) | exact tyM_I | exact tyM_T | decide | omega | assumption) only [evB1, evB2, evB4, Bool.false_xor, Bool.true_xor, k_FIGURES, k_LETTERS, k_MOST_LETTERS, dIx_FQ0, dIx_FQ1, dEq_FQ, dNe_FQ, FQ_01, List.append_assoc, List.length_append, Nat.add_assoc, get_at, get_at0, Nat.reduceLeDiff, asO_int, Res.bind_ok, b1_ok, b2_ok, bAnd_ok, bOr_ok, bNot_ok, bAndV_ok, bOrV_ok, bNotV_ok, bIf_ok, bC_ok, bC1_ok, bM_ok, bM1_ok, bSl_ok, bSl1_ok, bSl2_ok, kAsg_ok, bG_ok, bS1_ok, bS2_ok, bS3_ok, kSet_ok, kRet_ok, kExp_ok, kIf_ok, kFor_ok, kPar_ok, kPar1_ok, SR.seq_nx, SR.seq_rt, SR.fin_rt, toS_ok, slAt_some, optR_some, asB_bl, asT_bl, dAdd_ii, dSub_ii, dNeg_i, dLt_ii, dGt_ii, dLe_ii, dGe_ii, bMax2_ii, bMin2_ii, bInt_b, bLen_t, bLen_r, dIx_t, dIx_r, at_0, at_1, at_2, dEq_ii, dNe_ii, iSeq_t, List.map, List.length_cons, List.length_nil, List.replicate_succ, List.replicate_zero, List.cons_append, List.nil_append, List.append_nil, List.getElem?_cons_zero, List.getElem?_cons_succ, List.set_cons_zero, List.set_cons_succ, Nat.reduceSub, Nat.reduceAdd, Nat.sub_self, Bool.not_true, Bool.not_false, if_true, if_false, reduceIte, Bool.false_eq_true, decide_true, decide_false])
def evB5 := andB @take_I <| andB @low_I <| @under_I
local macro_rules | `(tactic| walk_at "evj") => `(tactic| try simp -implicitDefEqProofs (disch := first | (simp only [List.length_cons, List.length_nil, Nat.reduceAdd, Nat.reduceLeDiff]; done) | exact tyM_I | exact tyM_T | decide | omega | (simp only [List.length_map, List.length_cons, List.length_nil, List.length_append, List.length_replicate, List.length_take, List.length_dropLast]; omega) | assumption) only [evB1, evB2, evB3, evB5, Bool.false_xor, Bool.true_xor, beq_self_eq_true, Bool.true_and, Bool.and_true, Bool.false_and, Bool.and_false, Bool.true_or, Bool.or_true, Bool.false_or, Bool.or_false, Int.reduceToNat, Int.reducePow, Int.reduceSub, Int.reduceAdd, Int.reduceNeg, Int.reduceMul, List.singleton_append, k_FIGURES, k_LETTERS, k_MOST_LETTERS, dIx_FQ0, dIx_FQ1, dEq_FQ, dNe_FQ, FQ_01, List.append_assoc, List.length_append, Nat.add_assoc, get_at, get_at0, Nat.reduceLeDiff, asO_int, Res.bind_ok, b1_ok, b2_ok, bAnd_ok, bOr_ok, bNot_ok, bAndV_ok, bOrV_ok, bNotV_ok, bIf_ok, bC_ok, bC1_ok, bM_ok, bM1_ok, bSl_ok, bSl1_ok, bSl2_ok, kAsg_ok, bG_ok, bS1_ok, bS2_ok, bS3_ok, kSet_ok, kRet_ok, kExp_ok, kIf_ok, kFor_ok, kPar_ok, kPar1_ok, SR.seq_nx, SR.seq_rt, SR.fin_rt, toS_ok, slAt_some, optR_some, asB_bl, asT_bl, dAdd_ii, dSub_ii, dNeg_i, dLt_ii, dGt_ii, dLe_ii, dGe_ii, bMax2_ii, bMin2_ii, bInt_b, bLen_t, bLen_r, dIx_t, dIx_r, at_0, at_1, at_2, dEq_ii, dNe_ii, iSeq_t, List.map, List.length_cons, List.length_nil, List.replicate_succ, List.replicate_zero, List.cons_append, List.nil_append, List.append_nil, List.getElem?_cons_zero, List.getElem?_cons_succ, List.set_cons_zero, List.set_cons_succ, Nat.reduceSub, Nat.reduceAdd, Nat.sub_self, Bool.not_true, Bool.not_false, if_true, if_false, reduceIte, Bool.false_eq_true, decide_true, decide_false])
theorem moment_text_ok {a : Rat} {h : Hd} {k : Nat} (a0 : 0 ≤ a) (z : SzQ k a) (hk : k < 1000) : F_moment_text [FQ a] h = .ok (T (frT a)) h := by
  have n0 := num_nonneg a0
  have l1 := dig_lenS (n := a.num.toNat) (k := k) (by rw [Int.toNat_of_nonneg n0]; exact z.1)
  have l2 := dig_lenS (n := a.den) (k := k) z.2
  have fa : Fa (0 ≤ a) := ⟨a0⟩
  have za : ZQ k a := ⟨z⟩
  simp only [F_moment_text, B_moment_text]
  walk_at "evj"
  unfold frT
  by_cases h1 : a.den = 1
  · rw [if_pos h1, decide_eq_true (show (a.den : Int) = 1 by omega)]
    walk_at "evj"
  · rw [if_neg h1, decide_eq_false (show ¬ (a.den : Int) = 1 by omega)]
    walk_at "evj"
theorem p_is_fraction {x : D} {h : Hd} (T : Typed h x) : F_p_is_fraction [x] h = .ok (.bl (isFr x)) h := by
  obtain ⟨⟨t, e⟩, T⟩ := T
  simp only [F_p_is_fraction, B_p_is_fraction]
  walk_at "ev"
  simp only [isi_tuple e, Res.bind_ok, asT_bl]
  by_cases ht : ∃ xs, x = .tup xs
  · obtain ⟨xs, rfl⟩ := ht
    cases e
    simp only [beq_self_eq_true]
    walk_at "ev"
    by_cases h2 : xs.length = 2
    · obtain ⟨a, b, rfl⟩ : ∃ a b, xs = [a, b] := by
        match xs, h2 with
        | [a, b], _ => exact ⟨a, b, rfl⟩
      have hT := T _ rfl
      simp only [List.length_cons, List.length_nil, show (((0 + 1 + 1 : Nat) : Int) = 2) = True by simp]
      walk_at "ev"
      rw [eLc_map (xs := [a, b]) (chk := fun _ => True) (h1 := h) (f := fun x => .bl (isInt x)) (by walk_at "ev") (show 2 < sizeLine by decide) (fun _ => trivial) (fun x hx acc => by
        walk_at "ev"
        obtain ⟨t, et⟩ := hT x hx
        exact p_is_whole (ty0_app et))]
      walk_at "ev"
      have hb : bAll [.ref h.length] (h ++ [.lst [.bl (isInt a), .bl (isInt b)]]) = .ok (.bl ([a, b].all isInt)) _ := bAll_map (xs := [a, b]) (f := isInt) get_new
      rw [hb]
      walk_at "ev"
      by_cases q : isInt a = true ∧ isInt b = true
      · obtain ⟨n, d, rfl, rfl⟩ := fr_tup q
        simp only [List.all_cons, isInt, List.all_nil, Bool.and_true]
        walk_at "ev"
        rw [fr_last fun a b => p_common a (by omega)]
        walk_at "ev"
        exact gc_app lo_bl
      · rw [isFr_no q]
        have : ([a, b].all isInt) = false := by
          simp only [List.all_cons, List.all_nil, Bool.and_true]
          cases ha : isInt a <;> cases hb : isInt b <;> simp_all
        simp only [this]
        walk_at "ev"
        exact gc_app lo_bl
    · rw [isFr_len h2]
      simp only [show ((xs.length : Int) = 2) = False by simp; omega]
      walk_at "ev"
      exact gc_same lo_bl
  · rw [isFr_not ht]
    simp only [ty_not e ht]
    walk_at "ev"
    exact gc_same lo_bl
theorem isi_str_T {h : Hd} {l : List Nat} : bIsi [T l, .ty "str"] h = .ok (.bl true) h := by
  unfold bIsi T
  simp only [ty0, kit_ss]
theorem p_read_fraction_ok {a : Rat} {h : Hd} {k : Nat} (a0 : 0 ≤ a) (z : SzQ k a) (hk : k < 400) : F_p_read_fraction [T (frT a)] h = .ok (FQ a) h := by
  have n0 := num_nonneg a0
  have d1 := den_pos a
  have l1 := dig_lenS (n := a.num.toNat) (k := k) (by rw [Int.toNat_of_nonneg n0]; exact z.1)
  have l2 := dig_lenS (n := a.den) (k := k) z.2
  simp only [F_p_read_fraction, B_p_read_fraction]
  walk_at "evi"
  rw [isi_str_T]
  walk_at "evi"
  unfold frT
  by_cases h1 : a.den = 1
  · rw [if_pos h1, mPart_no no_stroke (by omega)]
    walk_at "evi"
    rw [p_number_in_ok (by omega), numD_dig, Int.toNat_of_nonneg n0]
    walk_at "evi"
    rw [p_common n0 (by decide), Int.gcd_one, show ((1 : Nat) : Int) = 1 from rfl]
    walk_at "evi"
    have e : D.tup [.int a.num, .int 1] = FQ a := by
      unfold FQ
      rw [h1]
      rfl
    rw [e]
    exact gc_same lo_FQ
  · rw [if_neg h1, mPart_at no_stroke (by rw [List.length_append, List.length_cons]; omega)]
    walk_at "evi"
    rw [p_number_in_ok (by omega), numD_dig, Int.toNat_of_nonneg n0]
    walk_at "evi"
    rw [p_number_in_ok (by omega), numD_dig]
    walk_at "evi"
    rw [decide_eq_false (show ¬ (a.den : Int) < 2 by omega)]
    walk_at "evi"
    rw [p_common n0 (by omega), reduced_gcd, show ((1 : Nat) : Int) = 1 from rfl]
    walk_at "evi"
    exact gc_same lo_FQ
theorem lt_T {a b : List Nat} {h : Hd} : dLt (T a) (T b) h = .ok (.bl (decide (a < b))) h := by
  show Res.ok (D.bl (strLt ⟨a.toArray⟩ ⟨b.toArray⟩)) h = _
  unfold strLt
  simp
theorem p_are_names_ok {h : Hd} {ws : List Pl} (hw : ∀ w ∈ ws, NmOk w) (up : ws.Pairwise (· < ·)) (lw : ws.length ≤ 100) : F_p_are_names [.tup (ws.map T)] h = .ok (.bl true) h := by
  simp only [F_p_are_names, B_p_are_names]
  walk_at "evj"
  rw [kLc_all (f := fun _ : Pl => D.bl true) (by omega) (fun _ => trivial) (fun y hy acc => ⟨_, rfl, rfl, by
    walk_at "evj"
    rw [p_is_name_ok (hw y hy)]⟩)]
  walk_at "evj"
  rw [show dSl (D.tup (ws.map T)) (some 1) none h = .ok (.tup ((ws.map T).drop 1)) h by
    rw [dSl_t, cut_1_I]]
  walk_at "evj"
  rw [show iZip2 [.tup (ws.map T), .tup ((ws.map T).drop 1)] h = .ok ((ws.zip (ws.drop 1)).map (fun q => D.tup [T q.1, T q.2]), fun _ => True ∧ True) h by
    show Res.ok (List.zipWith (fun a b => D.tup [a, b]) (ws.map T) ((ws.map T).drop 1), fun _ => True ∧ True) h = _
    rw [← List.map_drop, List.zipWith_map, List.zip, List.map_zipWith]]
  walk_at "evj"
  rw [kLc_all (f := fun _ : Pl × Pl => D.bl true) (by rw [List.length_zip]; omega) (fun _ => ⟨trivial, trivial⟩) (fun y hy acc => ⟨_, rfl, rfl, by
    obtain ⟨A, B, e⟩ := zip_adj hy
    rw [e] at up
    have h1 := (List.pairwise_append.mp up).2.1
    have : y.1 < y.2 := (List.pairwise_cons.mp h1).1 y.2 (by simp)
    walk_at "evj"
    rw [lt_T, decide_eq_true this]⟩)]
  walk_at "evj"
theorem tie_head {t : Tie} : (116 :: 105 :: 101 :: 32 :: (t.nm ++ 32 :: (t.a ++ 32 :: t.b)) : List Nat) = lnT [wTie, t.nm, t.a, t.b] := by
  simp [joinN]
theorem ride_line {q : Rq} : ([114, 105, 100, 101, 32] : List Nat) ++ joinN [32] (rideWs q) = lnT (wRide :: rideWs q) := by
  unfold rideWs
  simp [joinN]
theorem p_tie_lines_ok {h : Hd} {t : Tie} (nm : NmOk t.nm ∧ NmOk t.a ∧ NmOk t.b) (lr : t.rs.length ≤ 8) (sz : ∀ q ∈ t.rs, (0 ≤ q.1 ∧ 0 ≤ q.2.1 ∧ 0 ≤ q.2.2.1 ∧ 0 ≤ q.2.2.2) ∧ SzQ 40 q.1 ∧ SzQ 40 q.2.1 ∧ SzQ 40 q.2.2.1 ∧ SzQ 40 q.2.2.2) :
    F_p_tie_lines [T t.nm, TieD t] h = .ok (.ref h.length) (h ++ [.lst (((tieRows t).map lnT).map T)]) := by
  obtain ⟨n1, n2, n3⟩ := nm
  have l1 := n1.2.1
  have l2 := n2.2.1
  have l3 := n3.2.1
  have i1 : Nm t.nm := ⟨n1⟩
  have i2 : Nm t.a := ⟨n2⟩
  have i3 : Nm t.b := ⟨n3⟩
  simp only [F_p_tie_lines, B_p_tie_lines]
  walk_at "evj"
  rw [tie_head]
  obtain ⟨tl, t0, ts⟩ : ∃ tl : List Rq → List (List Nat), tl [] = [lnT [wTie, t.nm, t.a, t.b]] ∧ (∀ pre q, tl (pre ++ [q]) = tl pre ++ [lnT (wRide :: rideWs q)]) ∧ (∀ pre, (tl pre).length = 1 + pre.length) ∧ tl t.rs = (tieRows t).map lnT := by
    refine ⟨fun pre => lnT [wTie, t.nm, t.a, t.b] :: pre.map fun q => lnT (wRide :: rideWs q), rfl, fun pre q => by simp, fun pre => by simp; omega, ?_⟩
    unfold tieRows
    rw [List.map_cons, List.map_map]
    rfl
  rw [show [T (lnT [wTie, t.nm, t.a, t.b])] = (tl []).map T by rw [t0]; rfl]
  obtain ⟨ts, tll, te⟩ := ts
  generalize hR : forD _ _ _ _ _ _ = R
  obtain ⟨s2, h2, rfl, rfl, rfl⟩ := forD_go (xs := t.rs) (emb := QdD) hR (fun pre s H => s = [some (T t.nm), some (TieD t), some (T t.a), some (T t.b), some (RdsD t.rs), some (.ref h.length), none, none] ∧ H = h ++ [.lst ((tl pre).map T)])
    ⟨rfl, rfl⟩ (fun _ _ _ _ => trivial) (fun pre q post s H hx ⟨e, eH⟩ => by
    subst e eH
    obtain ⟨⟨a1, a2, a3, a4⟩, z1, z2, z3, z4⟩ := sz q (by rw [hx]; simp)
    have lp := congrArg List.length hx
    rw [List.length_append, List.length_cons] at lp
    have tl1 := tll pre
    rw [ts]
    have l1 := frT_len a1 z1
    have l2 := frT_len a2 z2
    have l3 := frT_len a3 z3
    have l4 := frT_len a4 z4
    walk_at "evj"
    rw [show iSeq (QdD q) (h ++ [MO.lst ((tl pre).map T)]) = .ok ([q.1, q.2.1, q.2.2.1, q.2.2.2].map FQ, fun _ => True) (h ++ [MO.lst ((tl pre).map T)]) from rfl]
    rw [kLc_all (h := h ++ [MO.lst ((tl pre).map T)]) (f := fun a => T (frT a)) (by simp) (fun _ => trivial) (fun y hy acc => ⟨_, rfl, rfl, by
      have h2 : 0 ≤ y ∧ SzQ 40 y := by
        simp only [List.mem_cons, List.not_mem_nil, or_false] at hy
        rcases hy with rfl | rfl | rfl | rfl
        · exact ⟨a1, z1⟩
        · exact ⟨a2, z2⟩
        · exact ⟨a3, z3⟩
        · exact ⟨a4, z4⟩
      walk_at "evj"
      exact p_fraction_text_ok h2.1 h2.2 (by decide)⟩)]
    walk_at "evj"
    have qj : Ls (h ++ [MO.lst ((tl pre).map T), MO.lst [T (frT q.1), T (frT q.2.1), T (frT q.2.2.1), T (frT q.2.2.2)]]) (h.length + 1) ((rideWs q).map T) := ⟨by rw [get_at]; rfl⟩
    rw [mJoin_L (q := qj) (by unfold rideWs lenN; simp only [List.map_cons, List.map_nil, List.sum_cons, List.sum_nil, List.length_cons, List.length_nil]; omega)]
    walk_at "evj"
    have lj := joinN_len [32] (rideWs q)
    have lj2 : lenN [32] (rideWs q) ≤ 500 := by unfold rideWs lenN; simp only [List.map_cons, List.map_nil, List.sum_cons, List.sum_nil, List.length_cons, List.length_nil]; omega
    rw [dAdd_T_I (by simp only [List.length_cons, List.length_nil]; omega), ride_line]
    walk_at "evj"
    exact ⟨_, _, rfl, rfl, rfl⟩)
  clear hR
  walk_at "evj"
  rw [te]
theorem pot_ok {ns : List Int} {k : Nat} {h : Hd} (hk : k < 9) : ∃ c : PS, PotI c ∧ F_pot [.rol (ns.map D.int), .int k] h = .ok (.ref h.length) (h ++ [.lst [.int c.1, .int c.2]]) := by
  have zk : ZI 5 (k : Int) := ⟨Sz.of (by omega) (by omega)⟩
  simp only [F_pot, B_pot]
  walk_at "evj"
  rw [at_ok (by omega)]
  generalize ns.getD k 0 = z
  walk_at "evj"
  rw [dMod_ok (by decide)]
  walk_at "evj"
  rw [show ((48271 : Int)) = 48271 from rfl, dMul_ok (MulOk.of (k := 16) (l := 6) (Sz.of (by decide) (by decide)) (Sz.of (by omega) (by omega)) (by decide))]
  walk_at "evj"
  rw [dMod_ok (by decide)]
  walk_at "evj"
  refine ⟨(if 0 < z - 1000000000000000000 then z - 1000000000000000000 else 0, (z % 2147483629 + 48271 * (k + 1)) % 2147483629), ⟨⟨by simp only; split <;> omega, by simp only; omega, by simp only; omega⟩⟩, ?_⟩
  rfl
theorem drawn_ok {α : Type} {f : α → D} {p n : Nat} {h : Hd} {c : PS} {L : List α} (lw : ∀ (h : Hd) y, Lw h (f y)) (v : PotI c) (pl : PL p h) (q : Ls h n (L.map f)) (ne : Ne2 p n) (hL : L ≠ []) (hl : L.length < 1000000) : ∃ y ∈ L, ∃ c', PotI c' ∧ F_drawn [.ref p, .ref n] (HP h p c) = .ok (f y) (HP h p c') := by
  have l1 : (1 : Int) ≤ (L.length : Int) := by have := List.length_pos_iff.mpr hL; omega
  have f1 : Fa (1 ≤ (L.length : Int)) := ⟨l1⟩
  have z1 : ZI 21 (L.length : Int) := ⟨Sz.of (by omega) (by omega)⟩
  have b1 := uhV_bd (c := c) (m := (L.length : Int)) l1
  obtain ⟨hi, e⟩ := at_idx (L := L) (f := f) b1.1 b1.2
  have i1 := lw h L[(uhV c (L.length : Int)).toNat]
  refine ⟨L[(uhV c (L.length : Int)).toNat], List.getElem_mem hi, uhC c (L.length : Int), inferInstance, ?_⟩
  simp only [F_drawn, B_drawn]
  walk_at "evj"
  simp only [List.length_map]
  walk_at "evj"
  rw [e]
  walk_at "evj"
theorem drawn_at {α : Type} {f : α → D} {p k : Nat} {h g : Hd} {c : PS} {L : List α} (lw : ∀ (h : Hd) y, Lw h (f y)) (v : PotI c) (pl : PL p h) (q : g[k]? = some (.lst (L.map f))) (hL : L ≠ []) (hl : L.length < 1000000) : ∃ y ∈ L, ∃ c', PotI c' ∧ F_drawn [.ref p, .ref (h.length + k)] (HP h p c ++ g) = .ok (f y) (HP h p c' ++ g) := by
  have pl2 : PL p (h ++ g) := inferInstance
  obtain ⟨y, hy, c', v', e⟩ := drawn_ok (h := h ++ g) (n := h.length + k) (c := c) lw v pl2 ⟨by rw [get_at]; exact q⟩ ⟨by have := pl.lt; omega⟩ hL hl
  refine ⟨y, hy, c', v', ?_⟩
  rw [← HP_app, e, HP_app]
theorem ride_ok {p : Nat} {h : Hd} {c : PS} {room : Int} (v : PotI c) (pl : PL p h) (r1 : 1 ≤ room) (r2 : room ≤ 200000000000) : ∃ q c', PotI c' ∧ RdK q ∧ F_ride [.ref p, .int room] (HP h p c) = .ok (QdD q) (HP h p c') := by
  have f1 : Fa (1 ≤ room) := ⟨r1⟩
  have z1 : ZI 40 room := ⟨Sz.of (by omega) (by omega)⟩
  obtain ⟨m, em, m1, m2⟩ : ∃ m : Int, atI [D.int 6, .int 100000000000] (if decide (99 < room) = true then 1 else 0) = some (.int m) ∧ 1 ≤ m ∧ m ≤ 100000000000 := by
    cases decide (99 < room)
    · exact ⟨6, at_0, by decide, by decide⟩
    · exact ⟨100000000000, at_1, by decide, by decide⟩
  have f2 : Fa (1 ≤ m) := ⟨m1⟩
  have z2 : ZI 40 m := ⟨Sz.of (by omega) (by omega)⟩
  simp only [F_ride, B_ride]
  walk_at "evj"
  rw [em]
  walk_at "evj"
  have v1 : PotI (uhC c m) := inferInstance
  have b0 := uhV_bd (c := c) m1
  generalize uhC c m = c1 at v1 ⊢
  generalize uhV c m = a0 at b0 ⊢
  have v2 : PotI (uhC c1 room) := inferInstance
  have b1 := uhV_bd (c := c1) r1
  generalize uhC c1 room = c2 at v2 ⊢
  generalize uhV c1 room = a1 at b1 ⊢
  have v3 : PotI (uhC c2 room) := inferInstance
  have b2 := uhV_bd (c := c2) r1
  generalize uhC c2 room = c3 at v3 ⊢
  generalize uhV c2 room = a2 at b2 ⊢
  have v4 : PotI (uhC c3 4) := inferInstance
  have m1 := mul01 b2.1 b2.2 (int01 (b := decide (0 < uhV c3 4)))
  generalize uhC c3 4 = c4 at v4 ⊢
  generalize (a2 * if decide (0 < uhV c3 4) = true then (1 : Int) else 0) = y1 at m1 ⊢
  have v5 : PotI (uhC c4 room) := inferInstance
  have b4 := uhV_bd (c := c4) r1
  generalize uhC c4 room = c5 at v5 ⊢
  generalize uhV c4 room = a4 at b4 ⊢
  have v6 : PotI (uhC c5 3) := inferInstance
  have m2 := mul01 b4.1 b4.2 (int01 (b := decide (0 < uhV c5 3)))
  generalize uhC c5 3 = c6 at v6 ⊢
  generalize (a4 * if decide (0 < uhV c5 3) = true then (1 : Int) else 0) = y2 at m2 ⊢
  have v7 : PotI (uhC c6 room) := inferInstance
  have b6 := uhV_bd (c := c6) r1
  generalize uhC c6 room = c7 at v7 ⊢
  generalize uhV c6 room = a6 at b6 ⊢
  have v8 : PotI (uhC c7 3) := inferInstance
  have m3 := mul01 b6.1 b6.2 (int01 (b := decide (0 < uhV c7 3)))
  generalize uhC c7 3 = c8 at v8 ⊢
  generalize (a6 * if decide (0 < uhV c7 3) = true then (1 : Int) else 0) = y3 at m3 ⊢
  have g0 : Fa (1 ≤ 1 + a0) := ⟨by omega⟩
  have zg : ZI 41 (1 + a0) := ⟨Sz.of (by omega) (by omega)⟩
  by_cases e : a1 + y1 = a1
  · rw [decide_eq_true e]
    walk_at "evj"
    rw [show ([D.int a1, D.int (a1 + y1), D.int (a1 + y2), D.int (a1 + y2)] : List D) = ([a1, a1 + y1, a1 + y2, a1 + y2] : List Int).map D.int from rfl]
    rw [kLc_all (f := fun z : Int => FQ (Rat.divInt z (1 + a0))) (by simp only [List.length_cons, List.length_nil]; decide) (fun _ => trivial) (fun z hz acc => ⟨_, rfl, rfl, by
      have fz : Fa (0 ≤ z) := ⟨by
        simp only [List.mem_cons, List.not_mem_nil, or_false] at hz
        omega⟩
      walk_at "evj"⟩)]
    walk_at "evj"
    exact ⟨uR (1 + a0) (a1, a1 + y1, a1 + y2, a1 + y2), c8, v8, ⟨1 + a0, _, by omega, by omega, ⟨by simp only; omega, by simp only; omega, by simp only; omega, by simp only; omega, fun _ => rfl, by simp only; omega, by simp only; omega, by simp only; omega⟩, rfl⟩, rfl⟩
  · rw [decide_eq_false e]
    walk_at "evj"
    rw [show ([D.int a1, D.int (a1 + y1), D.int (a1 + y2), D.int (a1 + y1 + y3)] : List D) = ([a1, a1 + y1, a1 + y2, a1 + y1 + y3] : List Int).map D.int from rfl]
    rw [kLc_all (f := fun z : Int => FQ (Rat.divInt z (1 + a0))) (by simp only [List.length_cons, List.length_nil]; decide) (fun _ => trivial) (fun z hz acc => ⟨_, rfl, rfl, by
      have fz : Fa (0 ≤ z) := ⟨by
        simp only [List.mem_cons, List.not_mem_nil, or_false] at hz
        omega⟩
      walk_at "evj"⟩)]
    walk_at "evj"
    exact ⟨uR (1 + a0) (a1, a1 + y1, a1 + y2, a1 + y1 + y3), c8, v8, ⟨1 + a0, _, by omega, by omega, ⟨by simp only; omega, by simp only; omega, by simp only; omega, by simp only; omega, by simp only; omega, by simp only; omega, by simp only; omega, by simp only; omega⟩, rfl⟩, rfl⟩
theorem chain_ok {p : Nat} {h : Hd} {c : PS} (v : PotI c) (pl : PL p h) : ∃ (rs : List Rq) (c' : PS), PotI c' ∧ (∀ q ∈ rs, RdK q) ∧ rs.length ≤ 6 ∧ F_chain [.ref p] (HP h p c) = .ok (.ref h.length) (HP h p c' ++ [.lst (rs.map QdD)]) := by
  have b0 := uhV_bd (c := c) (m := 6) (by decide)
  have v1 : PotI (uhC c 6) := inferInstance
  simp only [F_chain, B_chain]
  walk_at "evj"
  generalize uhC c 6 = c1 at v1 ⊢
  generalize uhV c 6 = a0 at b0 ⊢
  have g0 : Fa (1 ≤ 1 + a0) := ⟨by omega⟩
  have zg : ZI 41 (1 + a0) := ⟨Sz.of (by omega) (by omega)⟩
  have b1 := uhV_bd (c := c1) (m := 3) (by decide)
  generalize hR : forD _ _ _ _ _ _ = K
  obtain ⟨s2, h2, rfl, rs, e, hi, c2, v2, gr, lr, e0, e1, h0, h1, rfl, rfl⟩ := forD_go hR (fun pre s H => ∃ (rs : List Rq) (e hi : Int) (c2 : PS), PotI c2 ∧ (∀ q ∈ rs, RdK q) ∧ rs.length = pre.length ∧ (0 : Int) ≤ e ∧ e ≤ 20 * (pre.length : Int) ∧ (0 : Int) ≤ hi ∧ hi ≤ 100 * (pre.length : Int) ∧ s = [some (.ref p), some (.int (1 + a0)), some (.ref h.length), some (.int e), some (.int hi), none, none, none, none, none] ∧ H = HP h p c2 ++ [.lst (rs.map QdD)])
    ⟨[], 0, 0, uhC c1 3, inferInstance, by simp, rfl, by omega, by simp, by omega, by simp, rfl, rfl⟩ (fun _ _ _ _ => trivial) (fun pre k post s H hx ⟨rs, e, hi, c2, v2, gr, lr, e0, e1, h0, h1, es, eH⟩ => by
    subst es eH
    have lp := congrArg List.length hx
    simp only [List.length_range, List.length_append, List.length_cons] at lp
    have lpre : pre.length ≤ 2 := by omega
    walk_at "evj"
    have w1 := uhV_bd (c := c2) (m := 9) (by decide)
    have v3 : PotI (uhC c2 9) := inferInstance
    generalize uhC c2 9 = c3 at v3 ⊢
    generalize uhV c2 9 = t1 at w1 ⊢
    have w2 := uhV_bd (c := c3) (m := 4) (by decide)
    have v4 : PotI (uhC c3 4) := inferInstance
    generalize uhC c3 4 = c4 at v4 ⊢
    generalize uhV c3 4 = t2 at w2 ⊢
    have w3 := mul01 w2.1 w2.2 (take2 (c := c4))
    have v5 : PotI (uhC c4 2) := inferInstance
    generalize uhC c4 2 = c5 at v5 ⊢
    generalize t2 * uhV c4 2 = y1 at w3 ⊢
    have w4 := uhV_bd (c := c5) (m := 5) (by decide)
    have v6 : PotI (uhC c5 5) := inferInstance
    generalize uhC c5 5 = c6 at v6 ⊢
    generalize uhV c5 5 = t3 at w4 ⊢
    generalize hk1 : (if decide (0 < (k : Int)) = true then (1 : Int) else 0) = k1
    have gk : 0 ≤ k1 ∧ k1 ≤ 1 := by rw [← hk1]; split <;> omega
    generalize hlo : (if e > hi then e else hi) + y1 = lo
    have glo : e ≤ lo ∧ lo ≤ 100 * (pre.length : Int) + 4 := by
      rw [← hlo]
      split <;> omega
    generalize hen : e + t1 + k1 = en
    have gen : e ≤ en ∧ en ≤ 20 * (pre.length : Int) + 9 := by omega
    have w5 := mul01 w4.1 w4.2 (int01 (b := decide (e < en)))
    generalize hy2 : (t3 * if decide (e < en) = true then (1 : Int) else 0) = y2 at w5 ⊢
    generalize hgh : (if en > lo then en else lo) + y2 = gh
    have ggh : en ≤ gh ∧ gh ≤ 100 * (pre.length : Int) + 13 ∧ (e = en → lo = gh) := by
      rw [← hgh]
      refine ⟨by split <;> omega, by split <;> omega, fun w => ?_⟩
      have : y2 = 0 := by
        rw [← hy2, w, decide_eq_false (by omega), if_neg (by simp), Int.mul_zero]
      rw [if_neg (by omega)]
      omega
    rw [show ([D.int e, D.int en, D.int lo, D.int gh] : List D) = ([e, en, lo, gh] : List Int).map D.int from rfl]
    rw [kLc_all (f := fun z : Int => FQ (Rat.divInt z (1 + a0))) (by simp only [List.length_cons, List.length_nil]; decide) (fun _ => trivial) (fun z hz acc => ⟨_, rfl, rfl, by
      have fz : Fa (0 ≤ z) := ⟨by
        simp only [List.mem_cons, List.not_mem_nil, or_false] at hz
        omega⟩
      walk_at "evj"⟩)]
    walk_at "evj"
    rw [show (D.tup [FQ (Rat.divInt e (1 + a0)), FQ (Rat.divInt en (1 + a0)), FQ (Rat.divInt lo (1 + a0)), FQ (Rat.divInt gh (1 + a0))]) = QdD (uR (1 + a0) (e, en, lo, gh)) from rfl]
    have f5 : Fa (1 ≤ (rs.length : Int) + 1) := ⟨by omega⟩
    have z5 : ZI 5 ((rs.length : Int) + 1) := ⟨Sz.of (by omega) (by omega)⟩
    simp only [List.length_map]
    walk_at "evj"
    have w6 := uhV_bd (c := c6) (m := (rs.length : Int) + 1) f5.out
    have v7 : PotI (uhC c6 ((rs.length : Int) + 1)) := inferInstance
    generalize uhC c6 ((rs.length : Int) + 1) = c7 at v7 ⊢
    generalize uhV c6 ((rs.length : Int) + 1) = ix at w6 ⊢
    rw [mIns_I (xs := rs.map QdD) (by rw [List.length_map]; omega) w6.1 (by omega)]
    walk_at "evj"
    refine ⟨_, _, rfl, rs.take ix.toNat ++ [uR (1 + a0) (e, en, lo, gh)] ++ rs.drop ix.toNat, en, gh, c7, v7, fun q hq => ?_, ?_, by omega, by omega, by omega, by omega, rfl, ?_⟩
    · rcases List.mem_append.mp hq with hq | hq
      · rcases List.mem_append.mp hq with hq | hq
        · exact gr q (List.mem_of_mem_take hq)
        · rw [List.mem_singleton.mp hq]
          exact ⟨1 + a0, (e, en, lo, gh), by omega, by omega, ⟨e0, gen.1, glo.1, ggh.1, ggh.2.2, by simp only; omega, by simp only; omega, by simp only; omega⟩, rfl⟩
      · exact gr q (List.mem_of_mem_drop hq)
    · simp only [List.length_append, List.length_take, List.length_drop, List.length_singleton]
      omega
    · simp only [List.map_append, List.map_take, List.map_drop, List.map_cons, List.map_nil, List.append_assoc, List.singleton_append])
  clear hR
  rw [List.length_range] at lr
  have lr3 : rs.length ≤ 3 := by omega
  walk_at "evj"
  obtain ⟨rs2, e2, m2, l2⟩ : ∃ rs2 : List Rq, cutD (rs.map QdD) none (some (uhV c2 4 / 3)) = rs2.map QdD ∧ (∀ q ∈ rs2, q ∈ rs) ∧ rs2.length ≤ rs.length := by
    rw [cutD_map]
    exact ⟨_, rfl, fun z hz => List.mem_of_mem_drop (List.mem_of_mem_take hz), by rw [List.length_take, List.length_drop]; omega⟩
  rw [e2]
  walk_at "evj"
  have v9 : PotI (uhC c2 4) := inferInstance
  refine ⟨rs ++ rs2, _, v9, fun q hq => ?_, by rw [List.length_append]; omega, rfl⟩
  rcases List.mem_append.mp hq with hq | hq
  · exact gr q hq
  · exact gr q (m2 q hq)
theorem p_is_ride_good {q : Rq} {k : Nat} {h : Hd} (hk : k ≤ 3900) (h1 : 0 ≤ q.1) (h2 : 0 ≤ q.2.1) (h3 : 0 ≤ q.2.2.1) (h4 : 0 ≤ q.2.2.2) (z : SzQ k q.1 ∧ SzQ k q.2.1 ∧ SzQ k q.2.2.1 ∧ SzQ k q.2.2.2) : F_p_is_ride [QdD q] h = .ok (.bl (rdOk q)) h := by
  have i1 : ZQ k q.1 := ⟨z.1⟩
  have i2 : ZQ k q.2.1 := ⟨z.2.1⟩
  have i3 : ZQ k q.2.2.1 := ⟨z.2.2.1⟩
  have i4 : ZQ k q.2.2.2 := ⟨z.2.2.2⟩
  simp only [F_p_is_ride, B_p_is_ride]
  walk_at "evj"
  rw [show iSeq (QdD q) h = .ok ([q.1, q.2.1, q.2.2.1, q.2.2.2].map FQ, fun _ => True) h from rfl]
  rw [kLc_all (f := fun _ : Rat => D.bl true) (by simp) (fun _ => trivial) (fun y hy acc => ⟨_, rfl, rfl, by
    walk_at "evj"
    rw [p_is_fraction typed_FQ, isFr_FQ (by
      simp only [List.mem_cons, List.not_mem_nil, or_false] at hy
      rcases hy with rfl | rfl | rfl | rfl <;> assumption)]⟩)]
  walk_at "evj"
  have hb : bAll [.ref h.length] (h ++ [.lst [.bl true, .bl true, .bl true, .bl true]]) = .ok (.bl true) _ := bAll_map (xs := [D.non, .non, .non, .non]) (f := fun _ => true) get_new
  rw [hb]
  walk_at "evj"
  unfold rdOk
  cases decide (q.2.1 < q.1) <;> cases decide (q.2.2.1 < q.1) <;> cases decide (q.2.2.2 < q.2.1) <;> (walk_at "evj"; try rfl)
theorem end_line {e : Rat} : (101 :: 110 :: 100 :: 32 :: frT e : List Nat) = lnT [wEnd, frT e] := by
  simp [joinN]
theorem bList_t {xs : List D} {h : Hd} : bList [.tup xs] h = .ok (.ref h.length) (h ++ [.lst xs]) := rfl
theorem p_net_text_ok {h : Hd} {n : Nat} {e : Rat} {ws : List Pl} {ts : List Tie} (N : NetN ts ws) (q : Ob h n (.dK (tiesK ts))) (nd : (ts.map Tie.nm).Nodup) (e0 : 0 ≤ e) (ez : SzQ 40 e) :
    F_p_net_text [.tup [FQ e, .tup (ws.map T), .ref n]] h = .ok (T (netT e ws (tiesBy ts (sortN (ts.map Tie.nm))))) h := by
  have ie : ZQ 40 e := ⟨ez⟩
  have fe : Fa (0 ≤ e) := ⟨e0⟩
  have le := frT_len e0 ez
  have lw := N.lw
  have lt := N.lt
  have lo1 : ∀ w ∈ sortN (ts.map Tie.nm), w ∈ ts.map Tie.nm := fun w hw => sortN_perm.mem_iff.mp hw
  have eN := tiesBy_nm lo1 nd
  have S1 : ∀ t ∈ tiesBy ts (sortN (ts.map Tie.nm)), t ∈ ts := fun t ht => tiesBy_mem ht
  have lS : (tiesBy ts (sortN (ts.map Tie.nm))).length = ts.length := by
    have := congrArg List.length eN
    rw [List.length_map, sortN_perm.length_eq, List.length_map] at this
    exact this
  generalize hL : tiesBy ts (sortN (ts.map Tie.nm)) = L at *
  have hTE : (sortN (ts.map Tie.nm)).map T = L.map fun t => T t.nm := by
    rw [← eN, List.map_map]
    rfl
  have NL : NetN L ws := ⟨fun t ht => N.nm t (S1 t ht), N.wn, fun t ht => N.lr t (S1 t ht), N.lw, by omega, fun t ht => N.sz t (S1 t ht)⟩
  simp only [F_p_net_text, B_p_net_text]
  walk_at "evj"
  rw [bList_t]
  walk_at "evj"
  rw [show T [119, 97, 105, 116, 115] :: ws.map T = (wWaits :: ws).map T from rfl]
  have lwl : ∀ w ∈ wWaits :: ws, w.length ≤ 83 := fun w hw => by
    rcases List.mem_cons.mp hw with rfl | hw
    · decide
    · exact Nat.le_trans (N.wn w hw).2.1 (by decide)
  have lww := lnT_len (c := 10) lwl (by rw [List.length_cons]; omega)
  have qw : Ls (h ++ [MO.lst (T wWaits :: ws.map T)]) h.length ((wWaits :: ws).map T) := ⟨by rw [get_at0]; rfl⟩
  walk_at "evj"
  rw [mJoin_L (q := qw) (by omega)]
  walk_at "evj"
  obtain ⟨nl, n0, ns, nll, ne⟩ : ∃ nl : List Tie → List (List Nat), nl [] = [lnT [wEnd, frT e], lnT (wWaits :: ws)] ∧ (∀ pre t, nl (pre ++ [t]) = nl pre ++ (tieRows t).map lnT) ∧ (∀ pre : List Tie, (∀ t ∈ pre, t.rs.length ≤ 8) → (nl pre).length ≤ 2 + 9 * pre.length) ∧ nl L = (netRows e ws L).map lnT := by
    refine ⟨fun pre => lnT [wEnd, frT e] :: lnT (wWaits :: ws) :: (pre.flatMap tieRows).map lnT, rfl, fun pre t => by simp, fun pre hp => ?_, rfl⟩
    have h : (pre.flatMap tieRows).length ≤ pre.length * 9 := flat_lenK fun t ht => by
      unfold tieRows
      rw [List.length_cons, List.length_map]
      have := hp t ht
      omega
    rw [List.length_cons, List.length_cons, List.length_map]
    omega
  rw [end_line, show [T (lnT [wEnd, frT e]), T (joinN [32] (wWaits :: ws))] = (nl []).map T by rw [n0]; rfl]
  walk_at "evj"
  rw [bSortT_d (by omega), hTE]
  walk_at "evj"
  generalize hR : forD _ _ _ _ _ _ = R
  obtain ⟨s2, h2, rfl, rfl, rfl⟩ := forD_go (xs := L) (emb := fun t => T t.nm) hR (fun pre s H => s = [some (D.tup [FQ e, D.tup (List.map T ws), D.ref n]), some (FQ e), some (D.tup (List.map T ws)), some (D.ref n), some (.ref h.length), none, none] ∧ H = h ++ [.lst ((nl pre).map T), .lst (L.map fun t => T t.nm)])
    ⟨rfl, rfl⟩ (fun _ s H ⟨_, e⟩ => by rw [e]; exact Ls.q) (fun pre t post s H hx ⟨e1, eH⟩ => by
    subst e1 eH
    have htL : t ∈ L := by rw [hx]; simp
    have ht := S1 t htL
    have lp := congrArg List.length hx
    rw [List.length_append, List.length_cons] at lp
    have nlp := nll pre (fun u hu => NL.lr u (by rw [hx]; simp [hu]))
    have fm := find_mem nd ht
    rw [ns]
    walk_at "evj"
    rw [fm]
    walk_at "evj"
    rw [p_tie_lines_ok (N.nm t ht) (N.lr t ht) (N.sz t ht)]
    have ltr : ((tieRows t).map lnT).length ≤ 9 := by
      unfold tieRows
      rw [List.length_map, List.length_cons, List.length_map]
      have := N.lr t ht
      omega
    generalize (tieRows t).map lnT = tr at *
    walk_at "evj"
    exact ⟨_, _, rfl, rfl, rfl⟩)
  clear hR
  walk_at "evj"
  have lnl : (nl L).length ≤ 92 := by rw [ne, List.length_map]; exact ntRows_many NL
  have lll : ∀ l ∈ nl L, l.length ≤ 840 := fun l hl => by
    rw [ne] at hl
    obtain ⟨r, hr, rfl⟩ := List.mem_map.mp hl
    obtain ⟨q1, q2⟩ := ntRows_len NL e0 ez r hr
    exact (lnT_len q2 q1).2
  rw [kLc_all (f := fun l => T (l ++ [10])) (by omega) (fun _ => Ls.q) (fun y hy acc => ⟨_, rfl, rfl, by
    have := lll y hy
    walk_at "evj"⟩)]
  walk_at "evj"
  have qj : Ls (h ++ [MO.lst ((nl L).map T), MO.lst ((nl L).map fun l => T (l ++ [10]))]) (h.length + 1) (((netRows e ws L).map fun r => lnT r ++ [10]).map T) := ⟨by
    rw [get_at, ne, List.map_map, List.map_map, List.map_map]
    rfl⟩
  rw [mJoin_L (q := qj) (by have := (netT_len NL e0 ez).1; omega)]
  walk_at "evj"
  rfl
theorem p_ride_in_ok {h : Hd} {n : Nat} {q : Rq} (qn : Ls h n ((rideWs q).map T)) (a : 0 ≤ q.1 ∧ 0 ≤ q.2.1 ∧ 0 ≤ q.2.2.1 ∧ 0 ≤ q.2.2.2) (z : SzQ 40 q.1 ∧ SzQ 40 q.2.1 ∧ SzQ 40 q.2.2.1 ∧ SzQ 40 q.2.2.2) : F_p_ride_in [.ref n] h = .ok (QdD q) h := by
  simp only [F_p_ride_in, B_p_ride_in]
  walk_at "evj"
  rw [show (rideWs q).map T = [q.1, q.2.1, q.2.2.1, q.2.2.2].map fun a => T (frT a) from rfl]
  rw [kLc_all (f := FQ) (by simp) (fun _ => Ls.q) (fun y hy acc => ⟨_, rfl, rfl, by
    have h2 : 0 ≤ y ∧ SzQ 40 y := by
      simp only [List.mem_cons, List.not_mem_nil, or_false] at hy
      rcases hy with rfl | rfl | rfl | rfl
      · exact ⟨a.1, z.1⟩
      · exact ⟨a.2.1, z.2.1⟩
      · exact ⟨a.2.2.1, z.2.2.1⟩
      · exact ⟨a.2.2.2, z.2.2.2⟩
    walk_at "evj"
    rw [p_read_fraction_ok h2.1 h2.2 (by decide)]⟩)]
  walk_at "evj"
  rfl
theorem joinN_nil1 : ∀ w : List Nat, joinN [] (w.map fun c => [c]) = w
  | [] => rfl
  | [c] => rfl
  | c :: d :: r => by
    have ih := joinN_nil1 (d :: r)
    rw [List.map_cons] at ih
    show [c] ++ [] ++ joinN [] ([d] :: r.map fun c => [c]) = _
    rw [ih]
    rfl
theorem drawn_T {p : Nat} {h : Hd} {c : PS} {l : List Nat} (v : PotI c) (pl : PL p h) (hL : l ≠ []) (hl : l.length < 1000000) : ∃ y ∈ l, ∃ c', PotI c' ∧ F_drawn [.ref p, T l] (HP h p c) = .ok (T [y]) (HP h p c') := by
  have l1 : (1 : Int) ≤ (l.length : Int) := by have := List.length_pos_iff.mpr hL; omega
  have f1 : Fa (1 ≤ (l.length : Int)) := ⟨l1⟩
  have z1 : ZI 21 (l.length : Int) := ⟨Sz.of (by omega) (by omega)⟩
  have b1 := uhV_bd (c := c) (m := (l.length : Int)) l1
  obtain ⟨y, my, ey⟩ := dIx_Tn (l := l) (i := uhV c (l.length : Int)) (h := HP h p (uhC c (l.length : Int))) (by omega) b1.1 b1.2
  refine ⟨y, my, uhC c (l.length : Int), inferInstance, ?_⟩
  simp only [F_drawn, B_drawn]
  walk_at "evj"
  rw [ey]
  walk_at "evj"
theorem drawn_fr {α : Type} {f : α → D} {p : Nat} {h : Hd} {c : PS} {L : List α} (lw : ∀ (h : Hd) y, Lw h (f y)) (v : PotI c) (pl : PL p h) (hL : L ≠ []) (hl : L.length < 1000000) : ∃ y ∈ L, ∃ c', PotI c' ∧ F_drawn [.ref p, .ref h.length] (HP h p c ++ [.lst (L.map f)]) = .ok (f y) (HP h p c' ++ [.lst (L.map f)]) := by
  have pl2 : PL p (h ++ [MO.lst (L.map f)]) := inferInstance
  obtain ⟨y, hy, c', v', e⟩ := drawn_ok (h := h ++ [.lst (L.map f)]) (n := h.length) (c := c) lw v pl2 ⟨by rw [get_at0]; rfl⟩ ⟨by have := pl.lt; omega⟩ hL hl
  refine ⟨y, hy, c', v', ?_⟩
  rw [← HP_app, e, HP_app]
theorem name_ok {p n : Nat} {h : Hd} {c : PS} {ws : List (List Nat)} (v : PotI c) (pl : PL p h) (q : Ls h n (ws.map T)) (ne : Ne2 p n) (hw : ∀ w ∈ ws, NmOk w) (hl : ws.length < 26) : ∃ w c', PotI c' ∧ NmOk w ∧ w ∉ ws ∧ F_name [.ref p, .ref n] (HP h p c) = .ok (T w) (HP (h.set n (.lst ((ws ++ [w]).map T))) p c') := by
  have nl : n < h.length := Ob.lt (h := h) (n := n) (o := .lst (ws.map T)) (q := ⟨q.q⟩)
  have v0 : PotI (uhC (uhC c 2) 8) := inferInstance
  have b1 := uhV_bd (c := uhC c 2) (m := 8) (by decide)
  simp only [F_name, B_name]
  walk_at "evj"
  have b2 : 0 ≤ uhV c 2 * uhV (uhC c 2) 8 ∧ uhV c 2 * uhV (uhC c 2) 8 ≤ 7 := by
    rcases take2 (c := c) with e | e <;> rw [e] <;> omega
  generalize uhC (uhC c 2) 8 = c0 at v0 ⊢
  generalize uhV c 2 * uhV (uhC c 2) 8 = k0 at b2 ⊢
  obtain ⟨zs, c2, v2, gz, lz, ez⟩ := kLc_pot (p := p) (h := h) (l := []) (c := c0) (f := fun y : Nat => T [y]) (g := gN 4) (t := tT) (vs := [4]) (e := eA (eF 2 F_drawn) (aC (eV 0) (aC (eV 2) aN))) (s := [some (.ref p), some (.ref n), some (T AZ), none, none, none]) (xs := List.range (1 + k0).toNat) (emb := fun i : Nat => .int (i : Int)) PotI (fun y => 97 ≤ y ∧ y ≤ 122) (by rw [List.length_range]; omega) v0 (fun x hx c acc vc => by
    obtain ⟨y, my, c', v', eu⟩ := drawn_T (h := h ++ [.lst acc]) (l := AZ) vc (inferInstance : PL p (h ++ [.lst acc])) (by decide) (by decide)
    rw [HP_app, HP_app] at eu
    refine ⟨_, y, c', v', az_mem my, rfl, rfl, ?_⟩
    walk_at "evj"
    exact eu)
  rw [List.append_nil] at ez
  rw [List.length_range] at lz
  generalize hT : sSeq (sIf (tB' (e2 (dIn false) (eV 3) (eV 1))) _ _) _ = TL
  have tw : ∀ w ∈ ws, Tx w := fun w hw' => by
    have : Nm w := ⟨hw w hw'⟩
    exact inferInstance
  have key : ∀ (w : List Nat) (c3 : PS), PotI c3 → NmOk w → ∃ w' c', PotI c' ∧ NmOk w' ∧ w' ∉ ws ∧ SR.fin (HP h p c) (TL [some (.ref p), some (.ref n), some (T AZ), some (T w), none, none] (HP h p c3)) = .ok (T w') (HP (h.set n (.lst ((ws ++ [w']).map T))) p c') := fun w c3 v3 nmw => by
    have nw : Nm w := ⟨nmw⟩
    have lsn : Ls (HP h p c3) n (ws.map T) := inferInstance
    rw [← hT]
    walk_at "evj"
    rw [dIn_Tl tw]
    walk_at "evj"
    by_cases hm2 : w ∈ ws
    · rw [decide_eq_true hm2]
      walk_at "evj"
      obtain ⟨Z, lZ, mZ, nZ, eZ⟩ : ∃ Z : List Nat, Z.length = 26 ∧ (∀ c ∈ Z, 97 ≤ c ∧ c ≤ 122) ∧ Z.Nodup ∧ Z = AZ := ⟨AZ, rfl, fun c hc => az_mem hc, by decide, rfl⟩
      rw [show ([T [97], T [98], T [99], T [100], T [101], T [102], T [103], T [104], T [105], T [106], T [107], T [108], T [109], T [110], T [111], T [112], T [113], T [114], T [115], T [116], T [117], T [118], T [119], T [120], T [121], T [122]] : List D) = Z.map fun c => T [c] by rw [eZ]; rfl]
      clear eZ
      have okL : ∀ u ∈ Z.map (fun c => w.take 7 ++ [c]), NmOk u := fun u hu => by
        obtain ⟨c, hc, rfl⟩ := List.mem_map.mp hu
        have k := nw.ok
        refine ⟨by simp, by rw [List.length_append, List.length_take]; simp; omega, fun x hx => ?_⟩
        rcases List.mem_append.mp hx with hx | hx
        · exact k.2.2 x (List.mem_of_mem_take hx)
        · rw [List.mem_singleton.mp hx]; exact mZ c hc
      rw [kLc_map (fun c => decide (w.take 7 ++ [c] ∉ ws)) (fun c => T (w.take 7 ++ [c])) (by omega) (fun _ => trivial) (fun c hc acc => ⟨_, rfl, by
        have tc : Tx [c] := ⟨fun x hx => by rw [List.mem_singleton.mp hx]; have := mZ c hc; omega⟩
        have : Nm (w.take 7 ++ [c]) := ⟨okL _ (List.mem_map.mpr ⟨c, hc, rfl⟩)⟩
        walk_at "evj"
        rw [dSl_T_I (by have := nw.ok.2.1; omega), cutT_7]
        walk_at "evj"
        rw [dIn_Tl tw]
        walk_at "evj"
        simp, fun _ => by
        have tc : Tx [c] := ⟨fun x hx => by rw [List.mem_singleton.mp hx]; have := mZ c hc; omega⟩
        walk_at "evj"
        rw [dSl_T_I (by have := nw.ok.2.1; omega), cutT_7]
        walk_at "evj"⟩)]
      rw [show ((Z.filter fun c => decide (w.take 7 ++ [c] ∉ ws)).map fun c => T (w.take 7 ++ [c])) = ((Z.map fun c => w.take 7 ++ [c]).filter fun u => decide (u ∉ ws)).map T by rw [List.filter_map, List.map_map]; rfl]
      have ndL : (Z.map fun c => w.take 7 ++ [c]).Nodup := by
        rw [List.nodup_iff_pairwise_ne, List.pairwise_map]
        rw [List.nodup_iff_pairwise_ne] at nZ
        exact List.Pairwise.imp (fun {a b} hab => fun e => hab (by simpa using List.append_cancel_left e)) nZ
      obtain ⟨a, r, ef, ha, hna⟩ := pigeon ndL (ws := ws) (by rw [List.length_map, lZ]; exact hl)
      rw [ef]
      walk_at "evj"
      exact ⟨a, c3, v3, okL a ha, hna, rfl⟩
    · rw [decide_eq_false hm2]
      walk_at "evj"
      exact ⟨w, c3, v3, nw.ok, hm2, rfl⟩
  clear hT
  have nz : NmOk zs := ⟨by omega, by omega, gz⟩
  have nzi : Nm zs := ⟨nz⟩
  rw [ez]
  walk_at "evj"
  rw [show (zs.map fun y => T [y]) = (zs.map fun y => [y]).map T by rw [List.map_map]; rfl]
  rw [mJoin_L (Nat.le_trans (lenN_le (k := 1) (fun t ht => by
    obtain ⟨y, _, rfl⟩ := List.mem_map.mp ht
    exact Nat.le_refl 1)) (by rw [List.length_map]; simp; omega)), joinN_nil1]
  walk_at "evj"
  have v3 : PotI (uhC c2 12) := inferInstance
  by_cases d : uhV c2 12 = 11
  · rw [decide_eq_true d]
    walk_at "evj"
    rw [show ([T [116, 105, 101], T [114, 105, 100, 101], T [119, 97, 105, 116, 115], T [101, 110, 100], T [119, 105, 116, 104, 111, 117, 116]] : List D) = ([[116, 105, 101], [114, 105, 100, 101], [119, 97, 105, 116, 115], [101, 110, 100], [119, 105, 116, 104, 111, 117, 116]] : List (List Nat)).map T from rfl]
    obtain ⟨y, my, c4, v4, e4⟩ := drawn_fr (f := T) (L := ([[116, 105, 101], [114, 105, 100, 101], [119, 97, 105, 116, 115], [101, 110, 100], [119, 105, 116, 104, 111, 117, 116]] : List (List Nat))) (fun _ _ => inferInstance) v3 pl (by simp) (by simp)
    have ny : NmOk y := by
      have : ∀ y ∈ ([[116, 105, 101], [114, 105, 100, 101], [119, 97, 105, 116, 115], [101, 110, 100], [119, 105, 116, 104, 111, 117, 116]] : List (List Nat)), 1 ≤ y.length ∧ y.length ≤ 8 ∧ ∀ c ∈ y, 97 ≤ c ∧ c ≤ 122 := by decide
      exact this y my
    have nyi : Nm y := ⟨ny⟩
    rw [e4]
    walk_at "evj"
    exact key y c4 v4 ny
  · rw [decide_eq_false d]
    walk_at "evj"
    exact key zs _ v3 nz
theorem rides_ok {p : Nat} {h : Hd} {c : PS} {room : Int} (v : PotI c) (pl : PL p h) (r1 : 1 ≤ room) (r2 : room ≤ 200000000000) : ∃ (rs : List Rq) (c' : PS), PotI c' ∧ (∀ q ∈ rs, RdK q) ∧ rs.length ≤ 6 ∧ F_rides [.ref p, .int room] (HP h p c) = .ok (RdsD rs) (HP h p c') := by
  have f1 : Fa (1 ≤ room) := ⟨r1⟩
  have z1 : ZI 40 room := ⟨Sz.of (by omega) (by omega)⟩
  have v1 : PotI (uhC c 3) := inferInstance
  simp only [F_rides, B_rides]
  walk_at "evj"
  by_cases e : uhV c 3 = 0
  · rw [decide_eq_true e]
    walk_at "evj"
    obtain ⟨rs, c2, v2, g, l, e2⟩ := chain_ok v1 pl
    rw [e2]
    walk_at "evj"
    exact ⟨rs, c2, v2, g, l, rfl⟩
  · rw [decide_eq_false e]
    walk_at "evj"
    have b4 := uhV_bd (c := uhC c 3) (m := 4) (by decide)
    obtain ⟨rs, c2, v2, g, l, e2⟩ := kLc_pot (p := p) (h := h) (l := []) (c := uhC (uhC c 3) 4) (f := QdD) (g := gN 2) (t := tT) (vs := [2]) (e := eA (eF 2 F_ride) (aC (eV 0) (aC (eV 1) aN))) (s := [some (.ref p), some (.int room), none]) (xs := List.range (uhV (uhC c 3) 4).toNat) (emb := fun i : Nat => .int (i : Int)) PotI RdK (by rw [List.length_range]; omega) inferInstance (fun x hx c acc vc => by
      obtain ⟨u, c', v', ou, eu⟩ := ride_ok (h := h ++ [.lst acc]) vc (inferInstance : PL p (h ++ [.lst acc])) r1 r2
      rw [HP_app, HP_app] at eu
      refine ⟨_, u, c', v', ou, rfl, rfl, ?_⟩
      walk_at "evj"
      exact eu)
    rw [List.append_nil] at e2
    rw [e2]
    walk_at "evj"
    exact ⟨rs, c2, v2, g, by rw [l, List.length_range]; omega, rfl⟩
theorem p_is_rides_all {xs : List D} {b : D → Bool} {h : Hd} (hl : xs.length ≤ 1000) (he : ∀ y ∈ xs, ∀ acc, F_p_is_ride [y] (h ++ [.lst acc]) = .ok (.bl (b y)) (h ++ [.lst acc])) : F_p_is_rides [.tup xs] h = .ok (.bl (xs.all b)) h := by
  simp only [F_p_is_rides, B_p_is_rides]
  walk_at "evj"
  try rw [isi_tuple (t := "tuple") rfl]
  walk_at "evj"
  rw [← List.map_id xs]
  rw [kLc_all (f := fun y : D => D.bl (b y)) (by omega) (fun _ => trivial) (fun y hy acc => ⟨_, rfl, rfl, by
    walk_at "evj"
    exact he y hy acc⟩)]
  walk_at "evj"
  rw [List.map_id]
abbrev LR := Sum Tie Rq
def lrW : LR → List (List Nat)
  | .inl t => [wTie, t.nm, t.a, t.b]
  | .inr q => wRide :: rideWs q
def lrOf (ts : List Tie) : List LR := ts.flatMap fun t => .inl t :: t.rs.map .inr
theorem lr_rows {ts : List Tie} : (lrOf ts).map lrW = ts.flatMap tieRows := by
  unfold lrOf
  rw [List.map_flatMap]
  congr 1
  funext t
  unfold tieRows
  rw [List.map_cons, List.map_map]
  rfl
def bst (acc : List Tie) : LR → List Tie
  | .inl t => acc ++ [{ t with rs := [] }]
  | .inr q => match acc.getLast? with
    | some l => acc.dropLast ++ [{ l with rs := l.rs ++ [q] }]
    | none => acc
theorem bst_snoc {acc : List Tie} {l : Tie} {q : Rq} : bst (acc ++ [l]) (.inr q) = acc ++ [{ l with rs := l.rs ++ [q] }] := by
  unfold bst
  simp
theorem bst_rides : ∀ {rs : List Rq} {acc : List Tie} {l : Tie}, (rs.map Sum.inr).foldl bst (acc ++ [l]) = acc ++ [{ l with rs := l.rs ++ rs }]
  | [], acc, l => by simp
  | q :: rs, acc, l => by
    rw [List.map_cons, List.foldl_cons, bst_snoc, bst_rides]
    simp
theorem bst_all : ∀ {ts acc : List Tie}, (lrOf ts).foldl bst acc = acc ++ ts
  | [], acc => by simp [lrOf]
  | t :: ts, acc => by
    have : lrOf (t :: ts) = (.inl t :: t.rs.map .inr) ++ lrOf ts := by simp [lrOf]
    rw [this, List.foldl_append, List.foldl_cons]
    show (lrOf ts).foldl bst ((t.rs.map Sum.inr).foldl bst (acc ++ [{ t with rs := [] }])) = _
    rw [bst_rides, bst_all]
    simp
def lefts (L : List LR) : List Tie := L.filterMap fun x => match x with | .inl t => some t | .inr _ => none
theorem lefts_app {A B : List LR} : lefts (A ++ B) = lefts A ++ lefts B := List.filterMap_append ..
theorem lefts_lr : ∀ {ts : List Tie}, lefts (lrOf ts) = ts
  | [] => rfl
  | t :: ts => by
    have : lrOf (t :: ts) = .inl t :: (t.rs.map .inr ++ lrOf ts) := by simp [lrOf]
    rw [this]
    show t :: lefts (t.rs.map .inr ++ lrOf ts) = _
    rw [lefts_app, lefts_lr]
    have : lefts (t.rs.map .inr) = [] := by
      unfold lefts
      rw [List.filterMap_map]
      exact List.filterMap_eq_nil_iff.mpr fun _ _ => rfl
    rw [this]
    rfl
theorem bst_names : ∀ (L : List LR) (acc : List Tie), (L.foldl bst acc).map Tie.nm = acc.map Tie.nm ++ (lefts L).map Tie.nm
  | [], acc => by simp [lefts]
  | x :: L, acc => by
    rw [List.foldl_cons, bst_names L]
    cases x with
    | inl t =>
      show (acc ++ [{ t with rs := [] }]).map Tie.nm ++ _ = _ ++ (t :: lefts L).map Tie.nm
      simp
    | inr q =>
      show _ = _ ++ (lefts L).map Tie.nm
      congr 1
      unfold bst
      rcases List.eq_nil_or_concat acc with rfl | ⟨A, l, rfl⟩
      · rfl
      · simp
theorem bst_ne : ∀ (L : List LR) (acc : List Tie), acc ≠ [] → L.foldl bst acc ≠ []
  | [], _, h => h
  | x :: L, acc, h => by
    rw [List.foldl_cons]
    refine bst_ne L _ ?_
    obtain ⟨A, l, rfl⟩ := (List.eq_nil_or_concat acc).resolve_left h
    rw [List.concat_eq_append]
    cases x with
    | inl t => unfold bst; simp
    | inr q => rw [bst_snoc]; simp
theorem bst_some {ts : List Tie} {pre post : List LR} {q : Rq} (hx : lrOf ts = pre ++ .inr q :: post) : ∃ A l, pre.foldl bst [] = A ++ [l] := by
  have ne : pre.foldl bst [] ≠ [] := by
    cases pre with
    | nil =>
      cases ts with
      | nil => simp [lrOf] at hx
      | cons t ts => simp [lrOf] at hx
    | cons x pre =>
      cases ts with
      | nil => simp [lrOf] at hx
      | cons t ts =>
        have : x = .inl t := by
          have : lrOf (t :: ts) = .inl t :: (t.rs.map .inr ++ lrOf ts) := by simp [lrOf]
          rw [this] at hx
          exact (List.cons.inj hx).1.symm
        subst this
        rw [List.foldl_cons]
        refine bst_ne pre _ ?_
        unfold bst
        simp
  obtain ⟨A, l, e⟩ := (List.eq_nil_or_concat _).resolve_left ne
  exact ⟨A, l, by rw [e, List.concat_eq_append]⟩
theorem put_last {A : List Tie} {l l' : Tie} (nd : ((A ++ [l]).map Tie.nm).Nodup) (e : l'.nm = l.nm) : putD (tiesK (A ++ [l])) (kS l.nm) (TieD l') = tiesK (A ++ [l']) := by
  unfold putD
  have ha : ((tiesK (A ++ [l])).any fun kv => decide (kv.1 = kS l.nm)) = true := by
    rw [List.any_eq_true]
    exact ⟨(kS l.nm, TieD l), List.mem_map.mpr ⟨l, by simp, rfl⟩, by simp⟩
  rw [if_pos ha]
  show (((A ++ [l]).map fun z => (kS z.nm, TieD z)).map _) = ((A ++ [l']).map fun z => (kS z.nm, TieD z))
  rw [List.map_append, List.map_append, List.map_append]
  have nd2 := List.nodup_append.mp (by rw [List.map_append] at nd; exact nd)
  congr 1
  · rw [List.map_map]
    refine List.map_congr_left fun z hz => ?_
    have : z.nm ≠ l.nm := fun e => nd2.2.2 z.nm (List.mem_map_of_mem hz) l.nm (by simp) e
    simp only [Function.comp_apply, if_neg (fun w => this (kS_inj.mp w))]
  · simp [e]
def lastN (acc : List Tie) : D := match acc.getLast? with
  | some l => T l.nm
  | none => .non
theorem lastN_snoc {A : List Tie} {l : Tie} : lastN (A ++ [l]) = T l.nm := by
  unfold lastN
  simp
theorem dAdd_Rds {rs : List Rq} {q : Rq} {h : Hd} (hl : rs.length ≤ 100) : dAdd (RdsD rs) (.tup [QdD q]) h = .ok (RdsD (rs ++ [q])) h := by
  show (if (rs.map QdD).length + [QdD q].length ≤ sizeLine then Res.ok (D.tup (rs.map QdD ++ [QdD q])) h else Res.bad) = _
  rw [if_pos (by rw [List.length_map]; exact Nat.le_trans (Nat.add_le_add_right hl 1) (by decide +kernel))]
  show Res.ok (D.tup (rs.map QdD ++ [QdD q])) h = Res.ok (D.tup ((rs ++ [q]).map QdD)) h
  rw [List.map_append]
  rfl
theorem bst_count : ∀ (L : List LR) (acc : List Tie) (n : Nat), (∀ t ∈ acc, t.rs.length ≤ n) → ∀ t ∈ L.foldl bst acc, t.rs.length ≤ n + L.length
  | [], acc, n, h, t, ht => Nat.le_trans (h t ht) (Nat.le_add_right _ _)
  | x :: L, acc, n, h, t, ht => by
    rw [List.foldl_cons] at ht
    have := bst_count L (bst acc x) (n + 1) (fun u hu => by
      cases x with
      | inl z =>
        rcases List.mem_append.mp (show u ∈ acc ++ [{ z with rs := [] }] from hu) with hu | hu
        · have := h u hu
          omega
        · rw [List.mem_singleton.mp hu]
          exact Nat.zero_le _
      | inr q =>
        rcases List.eq_nil_or_concat acc with rfl | ⟨A, l, rfl⟩
        · exact absurd hu (by simp [bst])
        · rw [List.concat_eq_append] at hu h
          rw [bst_snoc] at hu
          rcases List.mem_append.mp hu with hu | hu
          · have := h u (by simp [hu])
            omega
          · rw [List.mem_singleton.mp hu]
            have := h l (by simp)
            simp only [List.length_append, List.length_singleton]
            omega) t ht
    rw [List.length_cons]
    omega
theorem lr_short {ts : List Tie} {ws : List Pl} (N : NetN ts ws) : (lrOf ts).length ≤ 90 := by
  have h : (lrOf ts).length ≤ ts.length * 9 := flat_lenK fun t ht => by
    rw [List.length_cons, List.length_map]
    have := N.lr t ht
    omega
  have := N.lt
  omega
theorem bst_short {ts : List Tie} {ws : List Pl} {m : Nat} {l : Tie} (N : NetN ts ws) (hl : l ∈ ((lrOf ts).take m).foldl bst []) : l.rs.length ≤ 100 := by
  have h1 := bst_count _ [] 0 (fun t ht => absurd ht (by simp)) l hl
  have h2 := lr_short N
  rw [List.length_take] at h1
  omega
theorem p_ties_in_ok {h : Hd} {m n0 : Nat} {ts : List Tie} {ws : List Pl} (N : NetN ts ws) (nd : (ts.map Tie.nm).Nodup) (qm : Ls h m (refsN n0 (lrOf ts).length)) (qr : ∀ i x, (lrOf ts)[i]? = some x → Ls h (n0 + i) ((lrW x).map T)) : F_p_ties_in [.ref m] h = .ok (.ref h.length) (h ++ [.dK (tiesK ts)]) := by
  simp only [F_p_ties_in, B_p_ties_in]
  walk_at "evj"
  unfold refsN at *
  walk_at "evj"
  generalize hR : forD _ _ _ _ _ _ = R
  obtain ⟨s2, h2, rfl, rfl, rfl⟩ := forD_go (xs := List.range (lrOf ts).length) (emb := fun i => D.ref (n0 + i)) hR (fun pre s H => s = [some (.ref m), some (.ref h.length), some (lastN (((lrOf ts).take pre.length).foldl bst [])), none, none, none, none] ∧ H = h ++ [.dK (tiesK (((lrOf ts).take pre.length).foldl bst []))])
    ⟨rfl, rfl⟩ (fun _ s H ⟨_, e⟩ => by rw [e]; exact Ls.q) (fun pre i post s H hx ⟨e1, eH⟩ => by
    subst e1 eH
    have lp := congrArg List.length hx
    rw [List.length_range, List.length_append, List.length_cons] at lp
    have hi : i = pre.length := by
      have := congrArg (fun l => l[pre.length]?) hx
      simp only [List.getElem?_range (show pre.length < (lrOf ts).length by omega), List.getElem?_append_right (Nat.le_refl _), Nat.sub_self, List.getElem?_cons_zero, Option.some.injEq] at this
      exact this.symm
    subst hi
    have hl : pre.length < (lrOf ts).length := by omega
    obtain ⟨x, ex⟩ : ∃ x, (lrOf ts)[pre.length]? = some x := ⟨_, List.getElem?_eq_getElem hl⟩
    have qx := qr _ x ex
    have tk : (lrOf ts).take (pre.length + 1) = (lrOf ts).take pre.length ++ [x] := by rw [List.take_add_one, ex]; rfl
    have sp : lrOf ts = (lrOf ts).take pre.length ++ x :: (lrOf ts).drop (pre.length + 1) := by
      have := (List.take_append_drop (pre.length + 1) (lrOf ts)).symm
      rw [tk, List.append_assoc] at this
      exact this
    rw [List.length_append, List.length_singleton, tk, List.foldl_append, List.foldl_cons, List.foldl_nil]
    have nm := bst_names ((lrOf ts).take pre.length) []
    have lf : ts = lefts ((lrOf ts).take pre.length) ++ lefts (x :: (lrOf ts).drop (pre.length + 1)) := by
      rw [← lefts_app, ← sp, lefts_lr]
    generalize hacc : ((lrOf ts).take pre.length).foldl bst [] = acc at *
    have lacc : acc.length ≤ ts.length := by
      have := congrArg List.length nm
      have l2 := congrArg List.length lf
      simp only [List.length_map, List.length_append, List.length_nil, List.map_nil, List.nil_append] at this l2
      omega
    have lt := N.lt
    cases x with
    | inl t =>
      have qx : Ls h (n0 + pre.length) [T wTie, T t.nm, T t.a, T t.b] := qx
      have nw : ∀ y ∈ acc, y.nm ≠ t.nm := fun y hy e => by
        have h1 : y.nm ∈ (lefts ((lrOf ts).take pre.length)).map Tie.nm := by
          rw [show (lefts ((lrOf ts).take pre.length)).map Tie.nm = acc.map Tie.nm by rw [nm]; simp]
          exact List.mem_map_of_mem hy
        have nd2 := nd
        rw [lf, List.map_append] at nd2
        exact (List.nodup_append.mp nd2).2.2 _ h1 t.nm (List.mem_map.mpr ⟨t, by simp [lefts], rfl⟩) e
      generalize hK : sIf _ (sSeq (sAsg (e2 dDG _ _) _) _) _ = K
      walk_at "evj"
      rw [if_pos (by decide), show atI [T wTie, T t.nm, T t.a, T t.b] 3 = some (T t.b) from rfl]
      walk_at "evj"
      rw [dSetD_I (by rw [dct_len]; omega), show D.tup [T t.a, T t.b, D.tup []] = TieD { t with rs := [] } from rfl, putD_new (z := ({ t with rs := [] } : Tie)) nw]
      walk_at "evj"
      refine ⟨_, _, rfl, ?_, rfl⟩
      rw [show bst acc (.inl t) = acc ++ [{ t with rs := [] }] from rfl, lastN_snoc]
    | inr q =>
      have qx : Ls h (n0 + pre.length) [T wRide, T (frT q.1), T (frT q.2.1), T (frT q.2.2.1), T (frT q.2.2.2)] := qx
      obtain ⟨A, l, rfl⟩ : ∃ A l, acc = A ++ [l] := by rw [← hacc]; exact bst_some sp
      rw [lastN_snoc, bst_snoc, lastN_snoc]
      have ndA : ((A ++ [l]).map Tie.nm).Nodup := by
        rw [nm]
        have nd2 := nd
        rw [lf, List.map_append] at nd2
        simpa using (List.nodup_append.mp nd2).1
      have fm := find_mem ndA (show l ∈ A ++ [l] by simp)
      generalize hK : sSeq (sAsg (e2 dDG _ _) _) _ = K
      walk_at "evj"
      rw [if_neg (by decide), if_pos (by decide)]
      subst hK
      walk_at "evj"
      rw [fm]
      walk_at "evj"
      rw [show cutD [T wRide, T (frT q.1), T (frT q.2.1), T (frT q.2.2.1), T (frT q.2.2.2)] (some 1) none = (rideWs q).map T from cut_1_I (f := T) (l := wRide :: rideWs q)]
      obtain ⟨t, ht, hq⟩ : ∃ t ∈ ts, q ∈ t.rs := by
        have : Sum.inr q ∈ lrOf ts := List.mem_of_getElem? ex
        obtain ⟨t, ht, hm⟩ := List.mem_flatMap.mp this
        refine ⟨t, ht, ?_⟩
        rcases List.mem_cons.mp hm with e | hm
        · exact absurd e (by simp)
        · obtain ⟨q2, h2, e2⟩ := List.mem_map.mp hm
          rw [← Sum.inr.inj e2]
          exact h2
      obtain ⟨qa, qz⟩ := N.sz t ht q hq
      have qy : Ls (h ++ [MO.dK (tiesK (A ++ [l])), MO.lst ((rideWs q).map T)]) (h.length + 1) ((rideWs q).map T) := ⟨by rw [get_at]; rfl⟩
      rw [p_ride_in_ok qy qa qz]
      walk_at "evj"
      have lrs : l.rs.length ≤ 100 := by
        have : l ∈ A ++ [l] := by simp
        rw [← hacc] at this
        exact bst_short N this
      rw [dAdd_Rds (show l.rs.length ≤ 100 from lrs)]
      walk_at "evj"
      rw [dSetD_I (by rw [dct_len]; omega), show D.tup [T l.a, T l.b, RdsD (l.rs ++ [q])] = TieD { l with rs := l.rs ++ [q] } from rfl, put_last (l' := { l with rs := l.rs ++ [q] }) ndA rfl]
      walk_at "evj"
      exact ⟨_, _, rfl, rfl, rfl⟩)
  clear hR
  rw [List.length_range, List.take_length, bst_all, List.nil_append]
  walk_at "evj"
  done
structure TieN (tk : List Pl) (t : Tie) : Prop where
  nm : NmOk t.nm
  a : t.a ∈ tk
  b : t.b ∈ tk
  ab : t.a ≠ t.b
  o : ∀ q ∈ t.rs, RdK q
  ln : t.rs.length ≤ 8
structure NetT (e : Rat) (ws tk : List Pl) (ts : List Tie) : Prop where
  e0 : 0 ≤ e
  ez : SzQ 40 e
  hk : ∀ w ∈ tk, NmOk w
  hw : ∀ w ∈ ws, w ∈ tk
  up : ws.Pairwise (· < ·)
  lw : ws.length ≤ 5
  nd : (ts.map Tie.nm).Nodup
  ok : ∀ t ∈ ts, TieN tk t
  lt : ts.length ≤ 10
  en : ∀ t ∈ ts, ∀ q ∈ t.rs, q.2.1 ≤ e
theorem div_den_le {n d : Int} (hn : 0 ≤ n) (hd : 1 ≤ d) : Rat.divInt n d ≤ Rat.divInt n 1 := by
  have h2 : Rat.divInt n d * (d : Rat) ≤ Rat.divInt n 1 * (d : Rat) := by
    rw [divInt_1, show Rat.divInt n d * (d : Rat) = (n : Rat) by
      rw [Rat.divInt_eq_div]
      exact Rat.div_mul_cancel (by exact_mod_cast (by omega : d ≠ 0))]
    have h1 : (n : Int) * 1 ≤ n * d := Int.mul_le_mul_of_nonneg_left hd hn
    exact_mod_cast (by omega : n ≤ n * d)
  exact Rat.le_of_mul_le_mul_right h2 (by exact_mod_cast hd)
theorem RdK.low {q : Rq} (h : RdK q) : 0 ≤ q.2.1 ∧ q.2.1 ≤ 600000000000 := by
  obtain ⟨d, u, d1, d2, o, rfl⟩ := h
  obtain ⟨g1, g2, g3, g4, g5, g6, g7, g8⟩ := o
  refine ⟨divInt_nonneg (by omega) d1, ?_⟩
  show Rat.divInt u.2.1 d ≤ 600000000000
  refine Rat.le_trans (div_le d1 g6) ?_
  rw [show (600000000000 : Rat) = Rat.divInt 600000000000 1 from rfl]
  exact div_den_le (by decide) d1
theorem low_num {e : Rat} (h : e ≤ 600000000000) : e.num / (e.den : Int) ≤ 600000000000 := by
  have d0 := den_pos e
  refine Int.ediv_le_of_le_mul (by omega) ?_
  have h0 : e ≤ ((600000000000 : Int) : Rat) := h
  generalize (600000000000 : Int) = B at *
  have h1 : e * (e.den : Rat) ≤ (B : Rat) * (e.den : Rat) := Rat.mul_le_mul_of_nonneg_right h0 (by exact_mod_cast Nat.zero_le _)
  rw [num_den] at h1
  exact_mod_cast h1
theorem le_floor {e : Rat} {z : Int} (h : e.num / (e.den : Int) + 1 ≤ z) : e ≤ (z : Rat) := by
  have d0 := den_pos e
  have h1 : e.num ≤ z * (e.den : Int) := by
    have := Int.lt_ediv_add_one_mul_self e.num (show 0 < (e.den : Int) by omega)
    have h2 : (e.num / (e.den : Int) + 1) * (e.den : Int) ≤ z * (e.den : Int) := Int.mul_le_mul_of_nonneg_right h (by omega)
    omega
  have h2 : e * (e.den : Rat) ≤ (z : Rat) * (e.den : Rat) := by
    rw [num_den]
    exact_mod_cast h1
  exact Rat.le_of_mul_le_mul_right h2 (by exact_mod_cast d0)
theorem end_okT {p n : Nat} {h : Hd} {c : PS} {ts : List Tie} {tk : List Pl} (hk : ∀ w ∈ tk, NmOk w) (v : PotI c) (pl : PL p h) (q : Ob h n (.dK (tiesK ts))) (ne : Ne2 p n) (ok : ∀ t ∈ ts, TieN tk t) (lt : ts.length ≤ 60) : ∃ (x : Rat) (c' : PS), PotI c' ∧ 0 ≤ x ∧ SzQ 40 x ∧ (∀ t ∈ ts, ∀ q ∈ t.rs, q.2.1 ≤ x) ∧ F_end [.ref p, .ref n] (HP h p c) = .ok (FQ x) (HP h p c') := by
  simp only [F_end, B_end]
  walk_at "evj"
  generalize hA : HP (List.set h n (MO.dF (tiesK ts))) p c = A
  have pA : PL p A := ⟨by rw [← hA, HP_len_I, List.length_set]; exact pl.lt⟩
  have qA : Ob A n (.dF (tiesK ts)) := by rw [← hA]; infer_instance
  generalize hR : forD _ _ _ _ _ _ = K
  obtain ⟨s2, h2, rfl, e, e0, ez, el, en, rfl, rfl⟩ := forD_go hR (fun pre s H => ∃ e : Rat, 0 ≤ e ∧ SzQ 40 e ∧ e ≤ 600000000000 ∧ (∀ t ∈ pre, ∀ q ∈ t.rs, q.2.1 ≤ e) ∧ s = [some (.ref p), some (.ref n), some (FQ e), none, none, none, none] ∧ H = A)
    ⟨0, Rat.le_refl, ⟨Sz.of (by decide) (by decide), Sz.of (by decide) (by decide)⟩, by decide, by simp, rfl, rfl⟩ (fun _ _ _ _ => trivial) (fun pre t post s H hx ⟨e, e0, ez, el, en, es, eH⟩ => by
    subst es
    rw [eH]
    have ht : t ∈ ts := by rw [hx]; simp
    have o := ok t ht
    have ta : Tx t.a := @tx_nm _ ⟨hk _ o.a⟩
    have tb : Tx t.b := @tx_nm _ ⟨hk _ o.b⟩
    have lrs := o.ln
    walk_at "evj"
    generalize hR2 : forD _ _ _ _ _ _ = K2
    obtain ⟨s3, h3, rfl, e2, f0, fz, fl, fn, rfl, rfl⟩ := forD_go hR2 (fun pre2 s H => ∃ e : Rat, 0 ≤ e ∧ SzQ 40 e ∧ e ≤ 600000000000 ∧ (∀ q, q ∈ pre2 ∨ (∃ t ∈ pre, q ∈ t.rs) → q.2.1 ≤ e) ∧ s = [some (.ref p), some (.ref n), some (FQ e), some (T t.a), some (T t.b), some (RdsD t.rs), none] ∧ H = A)
      ⟨e, e0, ez, el, fun q h => h.elim (fun h => (by cases h)) (fun ⟨t, ht, hq⟩ => en t ht q hq), rfl, rfl⟩ (fun _ _ _ _ => trivial) (fun pre2 r post2 s H hx2 ⟨e, e0, ez, el, en, es, eH⟩ => by
      subst es
      rw [eH]
      have hR := o.o r (by rw [hx2]; simp)
      have hr := hR.ok.1
      have i1 : ZQ 40 e := ⟨ez⟩
      have i2 : ZQ 40 r.2.1 := ⟨hr.z.2.1⟩
      walk_at "evj"
      by_cases d : e < r.2.1
      · rw [decide_eq_true d]
        walk_at "evj"
        refine ⟨_, _, rfl, r.2.1, hR.low.1, hr.z.2.1, hR.low.2, fun q h => ?_, rfl, rfl⟩
        rcases h with h | h
        · rcases List.mem_append.mp h with h | h
          · exact Rat.le_trans (en q (.inl h)) (Rat.le_of_lt d)
          · rw [List.mem_singleton.mp h]
            exact Rat.le_refl
        · exact Rat.le_trans (en q (.inr h)) (Rat.le_of_lt d)
      · rw [decide_eq_false d]
        walk_at "evj"
        refine ⟨_, _, rfl, e, e0, ez, el, fun q h => ?_, rfl, rfl⟩
        rcases h with h | h
        · rcases List.mem_append.mp h with h | h
          · exact en q (.inl h)
          · rw [List.mem_singleton.mp h]
            exact Rat.not_lt.mp d
        · exact en q (.inr h))
    clear hR2
    walk_at "evj"
    refine ⟨_, _, rfl, e2, f0, fz, fl, fun u hu q hq => ?_, rfl, rfl⟩
    rcases List.mem_append.mp hu with hu | hu
    · exact fn q (.inr ⟨u, hu, hq⟩)
    · rw [List.mem_singleton.mp hu] at hq
      exact fn q (.inl hq))
  clear hR
  subst hA
  walk_at "evj"
  have i1 : ZQ 40 e := ⟨ez⟩
  have v1 : PotI (uhC c 3) := inferInstance
  by_cases d : 0 < uhV c 3
  · rw [decide_eq_true d]
    have i3 : Fa (1 ≤ (e.den : Int)) := ⟨den_pos e⟩
    walk_at "evj"
    rw [dDiv_ok (DivOk.of (den_pos e) ez.2 (by decide))]
    walk_at "evj"
    have b5 := uhV_bd (c := uhC c 3) (m := 5) (by decide)
    have v2 : PotI (uhC (uhC c 3) 5) := inferInstance
    have g1 : 0 ≤ e.num / (e.den : Int) := Int.ediv_nonneg (num_nonneg e0) (by omega)
    have g2 : e.num / (e.den : Int) ≤ e.num := Int.ediv_le_self _ (num_nonneg e0)
    have g3 : e.num.natAbs < 2 ^ 40 := ez.1
    generalize hz : e.num / (e.den : Int) + 1 + uhV (uhC c 3) 5 = z
    have z0 : 0 ≤ z := by omega
    have zl := low_num el
    have ze : e ≤ (z : Rat) := le_floor (by omega)
    refine ⟨(z : Rat), _, v2, ?_, ?_, fun t ht q hq => Rat.le_trans (en t ht q hq) ze, rfl⟩
    · rw [← divInt_1]
      exact divInt_nonneg z0 (by decide)
    · rw [← divInt_1]
      exact .divInt (by decide) (Sz.of (by omega) (by omega)) (Sz.of (by decide) (by decide))
  · rw [decide_eq_false d]
    walk_at "evj"
    exact ⟨e, _, v1, e0, ez, en, rfl⟩
theorem name_fr {p k : Nat} {h g : Hd} {c : PS} {ws : List (List Nat)} (v : PotI c) (pl : PL p h) (q : g[k]? = some (.lst (ws.map T))) (hw : ∀ w ∈ ws, NmOk w) (hl : ws.length < 26) : ∃ w c', PotI c' ∧ NmOk w ∧ w ∉ ws ∧ F_name [.ref p, .ref (h.length + k)] (HP h p c ++ g) = .ok (T w) (HP h p c' ++ g.set k (.lst ((ws ++ [w]).map T))) := by
  have pl2 : PL p (h ++ g) := inferInstance
  obtain ⟨w, c', v', o, hn, e⟩ := name_ok (h := h ++ g) (n := h.length + k) (ws := ws) v pl2 ⟨by rw [get_at]; exact q⟩ ⟨by have := pl.lt; omega⟩ hw hl
  refine ⟨w, c', v', o, hn, ?_⟩
  rw [← HP_app, e, set_at_I, HP_app]
theorem rides_fr {p : Nat} {h g : Hd} {c : PS} {room : Int} (v : PotI c) (pl : PL p h) (r1 : 1 ≤ room) (r2 : room ≤ 200000000000) : ∃ (rs : List Rq) (c' : PS), PotI c' ∧ (∀ q ∈ rs, RdK q) ∧ rs.length ≤ 6 ∧ F_rides [.ref p, .int room] (HP h p c ++ g) = .ok (RdsD rs) (HP h p c' ++ g) := by
  have pl2 : PL p (h ++ g) := inferInstance
  obtain ⟨rs, c', v', o, l, e⟩ := rides_ok (h := h ++ g) v pl2 r1 r2
  refine ⟨rs, c', v', o, l, ?_⟩
  rw [← HP_app, e, HP_app]
theorem sortN_up {ws : List Pl} (nd : ws.Nodup) : (sortN ws).Pairwise (· < ·) := by
  have nd2 : (sortN ws).Nodup := sortN_perm.nodup_iff.mpr nd
  have pw : (sortN ws).Pairwise (fun a b => ¬ b < a) := by
    unfold sortN
    rw [List.pairwise_map]
    refine (sortT_pw _).imp fun {x y} h => ?_
    unfold leT at h
    rw [PyProof.Rows.ltCps_eq] at h
    exact of_decide_eq_false h
  refine (pw.and nd2).imp fun {a b} ⟨h1, h2⟩ => ?_
  exact Classical.byContradiction fun h3 => h2 (List.le_antisymm (List.not_lt.mp h1) (List.not_lt.mp h3))
theorem net_ok {p : Nat} {h : Hd} {c : PS} (v : PotI c) (pl : PL p h) : ∃ (e : Rat) (ws tk : List Pl) (ts : List Tie) (c' : PS), PotI c' ∧ NetT e ws tk ts ∧ F_net [.ref p] (HP h p c) = .ok (.tup [FQ e, .tup (ws.map T), .ref h.length]) (HP h p c' ++ [.dK (tiesK ts)]) := by
  have b1 := uhV_bd (c := c) (m := 3) (by decide)
  have v1 : PotI (uhC c 3) := inferInstance
  simp only [F_net, B_net]
  generalize hK : sSeq (sSet 5 _) _ = K
  walk_at "evj"
  generalize uhC c 3 = c3 at v1 ⊢
  generalize hm : 2 + uhV c 3 = mny
  have hm2 : 2 ≤ mny ∧ mny ≤ 4 := by omega
  obtain ⟨ps, st, ⟨v2, et, pn, po, lp⟩, ek⟩ := kLc_st (f := T) (emb := fun i : Nat => .int (i : Int)) (g := gN 8) (t := tT) (e := eA (eF 2 F_name) (aC (eV 0) (aC (eV 1) aN))) (vs := [8]) (s := [some (.ref p), some (.ref h.length), some (.ref (h.length + 1)), some (.ref (h.length + 2)), none, none, none, none, none, none, none, none, none, none, none]) (xs := List.range mny.toNat) (chk := fun _ => True) (n := h.length + 3)
    (fun st : PS × List (List Nat) => HP h p st.1 ++ [.lst (st.2.map T), .lst [], .dK []]) (fun pre st ys => PotI st.1 ∧ st.2 = ys ∧ ys.Nodup ∧ (∀ w ∈ ys, NmOk w) ∧ ys.length = pre.length) (st0 := (c3, [])) ⟨v1, rfl, by simp, by simp, rfl⟩ (fun st => by rw [List.length_append, HP_len_I]; rfl) (fun _ _ _ _ => trivial) (by rw [List.length_range]; omega) (fun pre x post st ys hx ⟨v2, et, nd, po, lp⟩ => by
      have lx := congrArg List.length hx
      rw [List.length_range, List.length_append, List.length_cons] at lx
      obtain ⟨w, c', v', ow, hw, ew⟩ := name_fr (p := p) (k := 0) (h := h) (c := st.1) (g := [.lst (st.2.map T), .lst [], .dK [], .lst (ys.map T)]) (ws := st.2) v2 pl rfl (by rw [et]; exact po) (by rw [et]; omega)
      rw [Nat.add_zero] at ew
      refine ⟨_, rfl, .inr ⟨st, (c', st.2 ++ [w]), w, rfl, ?_, v', by rw [et], ?_, ?_, by simp [lp]⟩⟩
      · walk_at "evj"
        rw [ew]
        walk_at "evj"
      · rw [List.nodup_append]
        exact ⟨nd, by simp, fun a ha b hb => by
          rw [List.mem_singleton.mp hb]
          exact fun e => hw (by rw [et, ← e]; exact ha)⟩
      · intro u hu
        rcases List.mem_append.mp hu with hu | hu
        · exact po u hu
        · rw [List.mem_singleton.mp hu]; exact ow)
  obtain ⟨c4, tk⟩ := st
  simp only at v2 et ek
  subst et
  rw [List.length_range] at lp
  rw [show (Res.ok (List.map (fun i : Nat => D.int (i : Int)) (List.range mny.toNat), fun x => True) (HP h p c3 ++ [MO.lst [], MO.lst [], MO.dK []])).kLc _ _ _ _ _ = _ from ek]
  clear ek
  subst hK
  generalize hK : sSeq (sPar 6 7 _) _ = K
  walk_at "evj"
  rw [show ([D.int 12, D.int 40, D.int 200000000000] : List D) = ([12, 40, 200000000000] : List Int).map D.int from rfl]
  obtain ⟨room, hroom, c6, v6, er⟩ := drawn_at (f := D.int) (k := 4) (L := ([12, 40, 200000000000] : List Int)) (h := h) (c := c4) (g := [.lst (tk.map T), .lst [], .dK [], .lst (tk.map T), .lst (([12, 40, 200000000000] : List Int).map D.int)]) (fun _ _ => inferInstance) v2 pl rfl (by simp) (by simp)
  rw [er]
  have r12 : 1 ≤ room ∧ room ≤ 200000000000 := by
    simp only [List.mem_cons, List.not_mem_nil, or_false] at hroom
    omega
  walk_at "evj"
  subst hK
  generalize hK : sSeq (sSet 12 _) _ = K
  have v7 : PotI (uhC c6 6) := inferInstance
  have b7 := uhV_bd (c := c6) (m := 6) (by decide)
  walk_at "evj"
  generalize uhC c6 6 = c7 at v7 ⊢
  generalize uhV c6 6 = many at b7 ⊢
  have v8 : PotI (uhC c7 8) := inferInstance
  generalize uhC c7 8 = c8 at v8 ⊢
  generalize decide (uhV c7 8 = 7) = great
  walk_at "evj"
  rw [show ∀ H : Hd, (if great = true then Res.ok (D.int 10) H else Res.ok (D.int many) H) = Res.ok (D.int (if great = true then 10 else many)) H by intro H; cases great <;> rfl]
  have bM : 0 ≤ (if great = true then 10 else many) ∧ (if great = true then 10 else many) ≤ 10 := by split <;> omega
  generalize (if great = true then 10 else many) = mny2 at bM ⊢
  have izm : ZI 10 mny2 := ⟨Sz.of (by omega) (by omega)⟩
  walk_at "evj"
  generalize hR : forD _ _ _ _ _ _ = R
  obtain ⟨s2, h2, rfl, ts, c9, v9, ot, nt, lt, rfl, rfl⟩ := forD_go hR (fun pre s H => ∃ (ts : List Tie) (c4 : PS), PotI c4 ∧ (∀ t ∈ ts, TieN tk t) ∧ (ts.map Tie.nm).Nodup ∧ ts.length ≤ pre.length ∧ s = [some (.ref p), some (.ref h.length), some (.ref (h.length + 1)), some (.ref (h.length + 2)), some (.ref (h.length + 3)), some (.int room), some (.int many), some (.bl great), none, none, none, none, none, none, none] ∧ H = HP h p c4 ++ [.lst (tk.map T), .lst ((ts.map Tie.nm).map T), .dK (tiesK ts), .lst (tk.map T)])
    ⟨[], _, v8, by simp, by simp, by simp, rfl, rfl⟩ (fun _ _ _ _ => trivial) (fun pre x post s H hx ⟨ts, c4, v4, ot, nt, lt, e, eH⟩ => by
    subst e eH
    have lx := congrArg List.length hx
    rw [List.length_range, List.length_append, List.length_cons] at lx
    have i1 : Fa (1 ≤ ((tk.map T).length : Int)) := ⟨by rw [List.length_map]; omega⟩
    have i2 : ZI 20 ((tk.map T).length : Int) := ⟨by rw [List.length_map]; exact Sz.of (by omega) (by omega)⟩
    have i3 : Fa (1 ≤ ((tk.map T).length : Int) - 1) := ⟨by rw [List.length_map]; omega⟩
    have b5 := uhV_bd (c := c4) i1.out
    have b6 := uhV_bd (c := uhC c4 ((tk.map T).length : Int)) i3.out
    have vx : PotI (uhC (uhC c4 ((tk.map T).length : Int)) (((tk.map T).length : Int) - 1)) := inferInstance
    rw [ev_turn_I]
    generalize hK2 : sSeq (sSet 11 _) _ = K2
    walk_at "evj"
    generalize uhC (uhC c4 ((tk.map T).length : Int)) (((tk.map T).length : Int) - 1) = c9 at *
    simp only [List.length_map] at *
    generalize uhV (uhC c4 (tk.length : Int)) ((tk.length : Int) - 1) = y at *
    generalize uhV c4 (tk.length : Int) = a at *
    rw [dMod_ok (by omega)]
    walk_at "evj"
    have q0 : 0 ≤ (a + 1 + y) % (tk.length : Int) := Int.emod_nonneg _ (by omega)
    have q1 : (a + 1 + y) % (tk.length : Int) < (tk.length : Int) := Int.emod_lt_of_pos _ (by omega)
    have qne : a.toNat ≠ ((a + 1 + y) % (tk.length : Int)).toNat := by
      intro w
      have w2 : a = (a + 1 + y) % (tk.length : Int) := by omega
      by_cases lt : a + 1 + y < (tk.length : Int)
      · rw [Int.emod_eq_of_lt (by omega) lt] at w2
        omega
      · rw [← Int.sub_emod_right, Int.emod_eq_of_lt (by omega) (by omega)] at w2
        omega
    generalize (a + 1 + y) % (tk.length : Int) = b at *
    obtain ⟨ha, ea⟩ := at_idx (L := tk) (f := T) b5.1 b5.2
    obtain ⟨hb, eb⟩ := at_idx (L := tk) (f := T) q0 q1
    have ab := idx_ne pn ha hb qne
    have ma : tk[a.toNat] ∈ tk := List.getElem_mem ha
    have mb : tk[b.toNat] ∈ tk := List.getElem_mem hb
    generalize tk[a.toNat] = na at *
    generalize tk[b.toNat] = nb at *
    have nna : Nm na := ⟨po na ma⟩
    have nnb : Nm nb := ⟨po nb mb⟩
    subst hK2
    generalize hK2 : sAsg _ _ = K2
    walk_at "evj"
    obtain ⟨G, hG⟩ : ∃ G : Hd, G = [.lst (tk.map T), .lst ((ts.map Tie.nm).map T), .dK (tiesK ts), .lst (tk.map T)] := ⟨_, rfl⟩
    rw [← hG]
    obtain ⟨rs, c10, v10, ors, lrs, eu⟩ : ∃ (rs : List Rq) (c' : PS), PotI c' ∧ (∀ q ∈ rs, RdK q) ∧ rs.length ≤ 8 ∧ (if great = true then ((((Res.ok (List.map (fun i : Nat => D.int (i : Int)) (List.range 8), fun x => True) (HP h p c9 ++ G)).kLc (gN 13) tT (eA (eF 2 F_ride) (aC (eV 0) (aC (eC (D.int 40)) aN))) [13] [some (D.ref p), some (D.ref (List.length h)), some (D.ref (List.length h + 1)), some (D.ref (List.length h + 2)), some (D.ref (List.length h + 3)), some (D.int room), some (D.int many), some (D.bl great), some (D.int ↑x), some (D.int a), some (D.int b), none, none, none, none]).bC aN [some (D.ref p), some (D.ref (List.length h)), some (D.ref (List.length h + 1)), some (D.ref (List.length h + 2)), some (D.ref (List.length h + 3)), some (D.int room), some (D.int many), some (D.bl great), some (D.int ↑x), some (D.int a), some (D.int b), none, none, none, none]).bind bTuple).bind (gc (HP h p c9 ++ G)) else F_rides [D.ref p, D.int room] (HP h p c9 ++ G)) = .ok (RdsD rs) (HP h p c' ++ G) := by
      cases great with
      | false =>
        obtain ⟨rs, c10, v10, ors, lrs, eu⟩ := rides_fr (h := h) (c := c9) (g := G) vx pl r12.1 r12.2
        exact ⟨rs, c10, v10, ors, by omega, by rw [if_neg (by decide), eu]⟩
      | true =>
        have pl2 : PL p (h ++ G) := inferInstance
        rw [if_pos rfl, ← HP_app]
        obtain ⟨B, hB⟩ : ∃ B, B = h ++ G := ⟨_, rfl⟩
        rw [← hB] at pl2 ⊢
        obtain ⟨rs, c2, v2, g, l, e2⟩ := kLc_pot (p := p) (h := B) (l := []) (c := c9) (f := QdD) (g := gN 13) (t := tT) (vs := [13]) (e := eA (eF 2 F_ride) (aC (eV 0) (aC (eC (D.int 40)) aN))) (s := [some (D.ref p), some (D.ref (List.length h)), some (D.ref (List.length h + 1)), some (D.ref (List.length h + 2)), some (D.ref (List.length h + 3)), some (D.int room), some (D.int many), some (D.bl true), some (D.int ↑x), some (D.int a), some (D.int b), none, none, none, none]) (xs := List.range 8) (emb := fun i : Nat => .int (i : Int)) PotI RdK (by rw [List.length_range]; omega) vx (fun x hx c acc vc => by
          obtain ⟨u, c', v', ou, eu⟩ := ride_ok (h := B ++ [.lst acc]) (room := 40) vc (inferInstance : PL p (B ++ [.lst acc])) (by decide) (by decide)
          rw [HP_app, HP_app] at eu
          refine ⟨_, u, c', v', ou, rfl, rfl, ?_⟩
          walk_at "evj"
          exact eu)
        rw [List.append_nil] at e2
        rw [e2]
        refine ⟨rs, c2, v2, g, by rw [l, List.length_range]; omega, ?_⟩
        walk_at "evj"
        rw [hB, HP_app]
        rfl
    rw [eu]
    subst hG
    walk_at "evj"
    subst hK2
    walk_at "evj"
    rw [ea]
    walk_at "evj"
    rw [eb]
    walk_at "evj"
    have nmo : ∀ w ∈ ts.map Tie.nm, NmOk w := fun w hw => by
      obtain ⟨t, ht, rfl⟩ := List.mem_map.mp hw
      exact (ot t ht).nm
    obtain ⟨w, c11, v11, ow, hw, ew⟩ := name_fr (p := p) (k := 1) (h := h) (c := c10) (g := [.lst (tk.map T), .lst ((ts.map Tie.nm).map T), .dK (tiesK ts), .lst (tk.map T)]) (ws := ts.map Tie.nm) v10 pl rfl nmo (by rw [List.length_map]; omega)
    rw [ew]
    walk_at "evj"
    rw [dSetD_I (by rw [dct_len]; omega)]
    rw [show D.tup [T na, T nb, RdsD rs] = TieD ⟨w, na, nb, rs⟩ from rfl]
    rw [show kS w = kS (Tie.nm ⟨w, na, nb, rs⟩) from rfl, putD_new (z := (⟨w, na, nb, rs⟩ : Tie)) (fun y hy e => hw (List.mem_map.mpr ⟨y, hy, e⟩))]
    walk_at "evj"
    have nt2 : ((ts ++ [(⟨w, na, nb, rs⟩ : Tie)]).map Tie.nm).Nodup := by
      rw [List.map_append, List.nodup_append]
      exact ⟨nt, by simp, fun u hu v hv e => hw (by
        have ev : v = w := List.mem_singleton.mp hv
        rw [e, ev] at hu
        exact hu)⟩
    refine ⟨_, _, rfl, ts ++ [(⟨w, na, nb, rs⟩ : Tie)], c11, v11, fun t ht => ?_, nt2, by simp; omega, rfl, ?_⟩
    · rcases List.mem_append.mp ht with ht | ht
      · exact ot t ht
      · rw [List.mem_singleton.mp ht]
        exact ⟨ow, ma, mb, ab, ors, lrs⟩
    · simp only [List.map_append, List.map_cons, List.map_nil])
  clear hR
  walk_at "evj"
  rw [List.length_range] at lt
  subst hK
  generalize hK : sRet _ = K
  walk_at "evj"
  obtain ⟨wz0, c10, ⟨v10, wp⟩, ek⟩ := kLc_st (α := List Nat) (f := T) (emb := T) (g := gN 14) (t := tB' (e2 dEq (eA (eF 2 F_take) (aC (eV 0) (aC (eC (.int 2)) aN))) (eC (.int 1)))) (e := eV 14) (vs := [14]) (s := [some (.ref p), some (.ref h.length), some (.ref (h.length + 1)), some (.ref (h.length + 2)), some (.ref (h.length + 3)), some (.int room), some (.int many), some (.bl great), none, none, none, none, none, none, none]) (xs := tk) (chk := fun h' => h'[h.length + 3]? = some (.lst (tk.map T))) (n := h.length + 4)
    (fun c : PS => HP h p c ++ [.lst (tk.map T), .lst ((ts.map Tie.nm).map T), .dK (tiesK ts), .lst (tk.map T)]) (fun pre c ys => PotI c ∧ ys.Sublist pre) (st0 := c9) ⟨v9, List.Sublist.refl _⟩ (fun st => by rw [List.length_append, HP_len_I]; rfl) (fun _ _ _ _ => by
      rw [List.append_assoc, List.cons_append, List.cons_append, List.cons_append, List.cons_append, List.nil_append]
      exact Ls.q) (by omega) (fun pre x post c ys hx ⟨v3, ws⟩ => by
      refine ⟨_, rfl, ?_⟩
      by_cases q : uhV c 2 = 1
      · refine .inr ⟨uhC c 2, uhC c 2, x, ?_, ?_, inferInstance, ws.append (List.Sublist.refl _)⟩
        · walk_at "evj"
          rw [decide_eq_true q]
        · walk_at "evj"
      · refine .inl ⟨uhC c 2, ?_, inferInstance, ?_⟩
        · walk_at "evj"
          rw [decide_eq_false q]
        · have := ws.append (List.nil_sublist [x])
          rwa [List.append_nil] at this)
  rw [ek]
  clear ek
  have lw := wp.length_le
  walk_at "evj"
  rw [bSortT_l (by omega)]
  walk_at "evj"
  subst hK
  walk_at "evj"
  obtain ⟨e, c11, v11, e0, ez, en, ee⟩ := end_okT (p := p) (n := h.length + 2) (h := h ++ [.lst (tk.map T), .lst ((ts.map Tie.nm).map T), .dK (tiesK ts), .lst (tk.map T)]) (c := c10) (ts := ts) (tk := tk) po v10 inferInstance ⟨by rw [get_at]; rfl⟩ ⟨by have := pl.lt; omega⟩ ot (by omega)
  rw [HP_app, HP_app] at ee
  rw [ee]
  walk_at "evj"
  refine ⟨e, sortN wz0, tk, ts, c11, v11, ⟨e0, ez, po, fun w hw => wp.subset (sortN_perm.mem_iff.mp hw), sortN_up (wp.nodup pn), by rw [sortN_perm.length_eq]; omega, nt, ot, by omega, en⟩, ?_⟩
  have q1 : (HP h p c11 ++ [.lst (tk.map T), .lst ((ts.map Tie.nm).map T), .dK (tiesK ts), .lst (tk.map T)])[h.length + 2]? = some (.dK (tiesK ts)) := get_HPk.trans rfl
  refine gcT_cl [h.length + 2] (okb_of (tk := [])).1 ?_ (by simp) (by simp) (fun j hj => ?_) ?_ ?_ ?_
  · simp only [refs_cl, refsAll_T, D.refs, D.refsAll, HP_len_I, List.nil_append, List.append_nil, List.cons_append, newR_cons, newR_nil]
    rw [if_pos (by omega)]
  · rw [HP_len_I, List.mem_singleton.mp hj]
    exact ⟨by omega, _, q1, cl_dK⟩
  · simp only [inn_cl, innAll_T, D.inn, D.innAll]
    simp
  · simp only [ren_cl, renAll_T, D.ren, D.renAll, HP_len_I]
    unfold rn
    simp [List.idxOf_cons]
  · rw [HP_len_I, take_HP]
    simp only [List.map_cons, List.map_nil, q1]
    rfl
theorem p_is_tie_ok {h : Hd} {e : Rat} {t : Tie} (nm : NmOk t.a ∧ NmOk t.b) (ab : t.a ≠ t.b) (lr : t.rs.length ≤ 8) (ok : ∀ q ∈ t.rs, RqOk 40 q) (ez : SzQ 40 e) (en : ∀ q ∈ t.rs, q.2.1 ≤ e) : F_p_is_tie [FQ e, TieD t] h = .ok (.bl true) h := by
  have i1 : Nm t.a := ⟨nm.1⟩
  have i2 : Nm t.b := ⟨nm.2⟩
  have ie : ZQ 40 e := ⟨ez⟩
  simp only [F_p_is_tie, B_p_is_tie]
  walk_at "evj"
  rw [show bIsi [TieD t, .ty "tuple"] h = .ok (.bl true) h from rfl]
  walk_at "evj"
  rw [show bLen [TieD t] h = .ok (.int 3) h from rfl]
  walk_at "evj"
  rw [p_is_name_ok nm.1]
  walk_at "evj"
  rw [p_is_name_ok nm.2]
  walk_at "evj"
  rw [decide_eq_false ab]
  walk_at "evj"
  rw [show RdsD t.rs = .tup (t.rs.map QdD) from rfl, p_is_rides_all (b := fun _ => true) (by rw [List.length_map]; omega) (fun y hy acc => by
    obtain ⟨q, hq, rfl⟩ := List.mem_map.mp hy
    have o := ok q hq
    obtain ⟨_, _, _, _, _, a1, a2, a3⟩ := o.le
    rw [p_is_ride_good (k := 40) (by decide) o.nn a1 a2 a3 o.z, o.rd])]
  walk_at "evj"
  rw [kLc_all (f := fun _ : Rq => D.bl false) (by omega) (fun _ => trivial) (fun y hy acc => ⟨_, rfl, rfl, by
    have iy : ZQ 40 y.2.1 := ⟨(ok y hy).z.2.1⟩
    walk_at "evj"
    rw [decide_eq_false (Rat.not_lt.mpr (en y hy))]⟩)]
  walk_at "evj"
theorem p_is_net_ok {h : Hd} {n : Nat} {e : Rat} {ws : List Pl} {ts : List Tie} (N : NetN ts ws) (up : ws.Pairwise (· < ·)) (q : Ob h n (.dK (tiesK ts))) (e0 : 0 ≤ e) (ez : SzQ 40 e) (ab : ∀ t ∈ ts, t.a ≠ t.b) (ok : ∀ t ∈ ts, ∀ q ∈ t.rs, RqOk 40 q) (en : ∀ t ∈ ts, ∀ q ∈ t.rs, q.2.1 ≤ e) : F_p_is_net [.tup [FQ e, .tup (ws.map T), .ref n]] h = .ok (.bl true) h := by
  have lt := N.lt
  simp only [F_p_is_net, B_p_is_net]
  walk_at "evj"
  rw [if_neg (by decide)]
  walk_at "evj"
  rw [p_is_fraction typed_FQ, isFr_FQ e0]
  walk_at "evj"
  rw [p_are_names_ok N.wn up (by have := N.lw; omega)]
  walk_at "evj"
  have nl : n < h.length := q.lt
  rw [kLc_all (emb := fun z : Tie => D.tup [T z.nm, TieD z]) (xs := ts) (f := fun _ : Tie => D.bl true) (by omega) (fun _ => trivial) (fun y hy acc => ⟨_, rfl, rfl, by
    obtain ⟨n1, n2, n3⟩ := N.nm y hy
    walk_at "evj"
    rw [p_is_name_ok n1]
    walk_at "evj"
    rw [p_is_tie_ok ⟨n2, n3⟩ (ab y hy) (N.lr y hy) (ok y hy) ez (en y hy)]⟩)]
  walk_at "evj"
theorem mSplit_ln {ts : List Tie} {ws : List Pl} {e : Rat} {r : List (List Nat)} {h : Hd} (N : NetN ts ws) (hr : r ∈ netRows e ws ts) (e0 : 0 ≤ e) (ez : SzQ 40 e) : mSplit (T (lnT r)) [T [32]] h = .ok (.ref h.length) (h ++ [.lst (r.map T)]) := by
  obtain ⟨l1, l2⟩ := ntRows_len N e0 ez r hr
  have := (lnT_len l2 l1).2
  rw [mSplit_T (by simp) (by omega), line_words N hr]
theorem ntRows_tx {ts : List Tie} {ws : List Pl} {e : Rat} (N : NetN ts ws) : ∀ r ∈ netRows e ws ts, r ≠ [] ∧ ∀ w ∈ r, Tx w := fun r hr => by
  have k1 : Tx wEnd := ⟨by decide⟩
  have k2 : Tx wWaits := ⟨by decide⟩
  have k3 : Tx wTie := ⟨by decide⟩
  have k4 : Tx wRide := ⟨by decide⟩
  unfold netRows at hr
  rcases List.mem_cons.mp hr with rfl | hr
  · refine ⟨by simp, fun w hw => ?_⟩
    simp only [List.mem_cons, List.not_mem_nil, or_false] at hw
    rcases hw with rfl | rfl
    · exact k1
    · exact tx_frT
  · rcases List.mem_cons.mp hr with rfl | hr
    · refine ⟨by simp, fun w hw => ?_⟩
      rcases List.mem_cons.mp hw with rfl | hw
      · exact k2
      · exact @tx_nm _ ⟨N.wn w hw⟩
    · obtain ⟨t, ht, hr⟩ := List.mem_flatMap.mp hr
      obtain ⟨n1, n2, n3⟩ := N.nm t ht
      unfold tieRows at hr
      rcases List.mem_cons.mp hr with rfl | hr
      · refine ⟨by simp, fun w hw => ?_⟩
        simp only [List.mem_cons, List.not_mem_nil, or_false] at hw
        rcases hw with rfl | rfl | rfl | rfl
        · exact k3
        · exact @tx_nm _ ⟨n1⟩
        · exact @tx_nm _ ⟨n2⟩
        · exact @tx_nm _ ⟨n3⟩
      · obtain ⟨q, hq, rfl⟩ := List.mem_map.mp hr
        refine ⟨by simp, fun w hw => ?_⟩
        unfold rideWs at hw
        simp only [List.mem_cons, List.not_mem_nil, or_false] at hw
        rcases hw with rfl | rfl | rfl | rfl | rfl
        · exact k4
        all_goals exact tx_frT
theorem tx_netT {ts : List Tie} {ws : List Pl} {e : Rat} (N : NetN ts ws) : Tx (netT e ws ts) := tx_joinN inferInstance fun l hl => by
  obtain ⟨r, hr, rfl⟩ := List.mem_map.mp hl
  have : Tx (lnT r) := tx_joinN ⟨by decide⟩ (ntRows_tx N r hr).2
  exact @tx_app _ _ this ⟨by decide⟩
theorem refsN_two {n k : Nat} : refsN n (k + 2) = .ref n :: .ref (n + 1) :: refsN (n + 2) k := by
  unfold refsN
  rw [List.range_succ_eq_map, List.range_succ_eq_map]
  simp only [List.map_cons, List.map_map]
  congr 1
  congr 1
  refine List.map_congr_left fun i _ => ?_
  show D.ref (n + (i + 1 + 1)) = D.ref (n + 2 + i)
  congr 1
  omega
theorem cut_two {x y : D} {l : List D} : cutD (x :: y :: l) (some 2) none = l := by
  unfold cutD
  have e : HT.sIx (x :: y :: l).length 0 (some 2) = 2 := by
    rw [List.length_cons, List.length_cons]
    simp [HT.sIx]
  have e2 : HT.sIx (x :: y :: l).length (x :: y :: l).length none = (x :: y :: l).length := rfl
  rw [e, e2, List.take_of_length_le (by simp)]
  rfl
theorem p_read_net_ok {h : Hd} {e : Rat} {ws : List Pl} {ts : List Tie} (N : NetN ts ws) (up : ws.Pairwise (· < ·)) (st : tiesBy ts (sortN (ts.map Tie.nm)) = ts) (nd : (ts.map Tie.nm).Nodup) (e0 : 0 ≤ e) (ez : SzQ 40 e) (ab : ∀ t ∈ ts, t.a ≠ t.b) (ok : ∀ t ∈ ts, ∀ q ∈ t.rs, RqOk 40 q) (en : ∀ t ∈ ts, ∀ q ∈ t.rs, q.2.1 ≤ e) :
    F_p_read_net [T (netT e ws ts)] h = .ok (.tup [FQ e, .tup (ws.map T), .ref h.length]) (h ++ [.dK (tiesK ts)]) := by
  have ie : ZQ 40 e := ⟨ez⟩
  have fe : Fa (0 ≤ e) := ⟨e0⟩
  have many := ntRows_many (e := e) N
  simp only [F_p_read_net, B_p_read_net]
  walk_at "evj"
  rw [mSplit_T (by simp) (by have := (netT_len N e0 ez).2; omega), netT_lines N]
  walk_at "evj"
  have edl : ((netRows e ws ts).map lnT ++ ([[]] : List (List Nat))).dropLast = (netRows e ws ts).map lnT := List.dropLast_concat
  rw [edl, show ((netRows e ws ts).map lnT).map T = (netRows e ws ts).map (fun r => T (lnT r)) by rw [List.map_map]; rfl]
  generalize MO.lst (((netRows e ws ts).map lnT ++ ([[]] : List (List Nat))).map T) = A
  generalize MO.lst ((netRows e ws ts).map fun r => T (lnT r)) = B
  rw [kLc_new (h := h ++ [A, B]) (xs := netRows e ws ts) (emb := fun r => T (lnT r)) (o := fun r => MO.lst (r.map T)) (by omega) (fun _ _ => by rw [List.append_assoc, get_at]; rfl) (fun r hr acc G => ⟨_, rfl, rfl, by
    walk_at "evj"
    rw [mSplit_ln N hr e0 ez]
    walk_at "evj"
    simp [Nat.add_assoc, Nat.add_comm]⟩)]
  rw [List.length_append, show ([A, B] : Hd).length = 2 from rfl, show (h ++ [A, B] ++ MO.lst (refsN (h.length + 2 + 1) (netRows e ws ts).length) :: (netRows e ws ts).map fun r => MO.lst (r.map T)) = h ++ ([A, B, MO.lst (refsN (h.length + 2 + 1) (netRows e ws ts).length)] ++ (netRows e ws ts).map fun r => MO.lst (r.map T)) by rw [List.append_assoc]; rfl]
  obtain ⟨R, eR, eL⟩ : ∃ R, netRows e ws ts = [wEnd, frT e] :: (wWaits :: ws) :: R ∧ R = (lrOf ts).map lrW := ⟨_, rfl, lr_rows.symm⟩
  have q2 : Ls (h ++ ([A, B, .lst (refsN (h.length + 2 + 1) (netRows e ws ts).length)] ++ (netRows e ws ts).map fun r => MO.lst (r.map T))) (h.length + 2) (refsN (h.length + 2 + 1) (netRows e ws ts).length) := ⟨by rw [get_at]; rfl⟩
  have qr : ∀ i r, (netRows e ws ts)[i]? = some r → Ls (h ++ ([A, B, .lst (refsN (h.length + 2 + 1) (netRows e ws ts).length)] ++ (netRows e ws ts).map fun r => MO.lst (r.map T))) (h.length + 3 + i) (r.map T) := fun i r hi => ⟨by
    rw [show h.length + 3 + i = h.length + (3 + i) by omega, get_at, List.getElem?_append_right (by simp), show 3 + i - _ = i by simp, List.getElem?_map, hi]
    rfl⟩
  have el : (netRows e ws ts).length = R.length + 2 := by rw [eR]; rfl
  have elR : R.length = (lrOf ts).length := by rw [eL, List.length_map]
  have q0 := qr 0 [wEnd, frT e] (by rw [eR]; rfl)
  have q1 := qr 1 (wWaits :: ws) (by rw [eR]; rfl)
  have qL : ∀ i x, (lrOf ts)[i]? = some x → Ls (h ++ ([A, B, .lst (refsN (h.length + 2 + 1) (netRows e ws ts).length)] ++ (netRows e ws ts).map fun r => MO.lst (r.map T))) (h.length + 5 + i) ((lrW x).map T) := fun i x hx => by
    have := qr (i + 2) (lrW x) (by rw [eR, eL, List.getElem?_cons_succ, List.getElem?_cons_succ, List.getElem?_map, hx]; rfl)
    rwa [show h.length + 3 + (i + 2) = h.length + 5 + i by omega] at this
  rw [Nat.add_zero] at q0
  rw [el, refsN_two] at q2
  rw [el, refsN_two]
  rw [el, refsN_two] at q0 q1 qL
  clear qr
  generalize [A, B, MO.lst (.ref (h.length + 2 + 1) :: .ref (h.length + 2 + 1 + 1) :: refsN (h.length + 2 + 1 + 2) R.length)] ++ (netRows e ws ts).map (fun r => MO.lst (r.map T)) = G at *
  obtain ⟨H, eH⟩ : ∃ H, h ++ G = H := ⟨_, rfl⟩
  simp only [eH] at q0 q1 q2 qL ⊢
  have ec1 : cutD (T wWaits :: ws.map T) (some 1) none = ws.map T := cut_1_I (f := T) (l := wWaits :: ws)
  walk_at "evj"
  rw [show decide ((((refsN (h.length + 5) R.length).length + 2 : Nat) : Int) < 2) = false from decide_eq_false (by omega), if_neg (by decide)]
  walk_at "evj"
  rw [p_read_fraction_ok e0 ez (by decide)]
  walk_at "evj"
  rw [ec1]
  walk_at "evj"
  rw [cut_two, elR]
  walk_at "evj"
  have qc : Ls (H ++ [MO.lst (refsN (h.length + 5) (lrOf ts).length)]) H.length (refsN (h.length + 5) (lrOf ts).length) := ⟨get_l⟩
  rw [p_ties_in_ok N nd qc (fun i x hx => ⟨by
    have := (qL i x hx).q
    rw [List.getElem?_append_left (List.getElem?_eq_some_iff.mp this).1]
    exact this⟩)]
  walk_at "evj"
  have qd : Ob (H ++ [MO.dK (tiesK ts)]) H.length (.dK (tiesK ts)) := ⟨get_l⟩
  rw [p_is_net_ok N up qd e0 ez ab ok en]
  walk_at "evj"
  rw [p_net_text_ok N qd nd e0 ez, st]
  walk_at "evj"
  have tn : Tx (netT e ws ts) := tx_netT N
  walk_at "evj"
  subst eH
  have q1 : (h ++ G ++ [MO.dK (tiesK ts)])[h.length + G.length]? = some (.dK (tiesK ts)) := by rw [← List.length_append]; exact get_l
  show gcT h _ (h ++ G ++ [MO.dK (tiesK ts)]) = _
  rw [List.length_append]
  refine gcT_cl [h.length + G.length] (by rw [List.append_assoc]; exact okb_tail) ?_ (by simp) (by simp) (fun j hj => ?_) ?_ ?_ ?_
  · simp only [refs_cl, refsAll_T, D.refs, D.refsAll, List.nil_append, List.append_nil, List.cons_append, newR_cons, newR_nil]
    rw [if_pos (by omega)]
  · rw [List.mem_singleton.mp hj]
    exact ⟨by omega, _, q1, cl_dK⟩
  · simp only [inn_cl, innAll_T, D.inn, D.innAll]
    simp
  · simp only [ren_cl, renAll_T, D.ren, D.renAll]
    unfold rn
    simp [List.idxOf_cons]
    intro w
    omega
  · rw [List.append_assoc, List.take_left]
    simp only [List.map_cons, List.map_nil]
    rw [← List.append_assoc, q1]
    rfl
theorem joinN_snoc {s : List Nat} : ∀ {ls : List (List Nat)}, ls ≠ [] → joinN s (ls ++ [[]]) = joinN s ls ++ s
  | [], h => (h rfl).elim
  | [l], _ => by simp [joinN]
  | l :: m :: r, _ => by
    show l ++ s ++ joinN s ((m :: r) ++ [[]]) = l ++ s ++ joinN s (m :: r) ++ s
    rw [joinN_snoc (by simp)]
    simp
theorem lenN_lines : ∀ {ls : List (List Nat)}, lenN [10] ls = lenN [] (ls.map fun l => l ++ [10])
  | [] => rfl
  | l :: ls => by
    have := lenN_lines (ls := ls)
    unfold lenN at this ⊢
    simp only [List.map_cons, List.sum_cons, List.length_cons, List.length_append, List.length_map, List.length_nil] at this ⊢
    omega
theorem text_ok {h : Hd} {n : Nat} {e : Rat} {ws : List Pl} {ts : List Tie} (N : NetN ts ws) (q : Ob h n (.dK (tiesK ts))) (nd : (ts.map Tie.nm).Nodup) (e0 : 0 ≤ e) (ez : SzQ 40 e) :
    F_text [.tup [FQ e, .tup (ws.map T), .ref n]] h = .ok (T (netT e ws (tiesBy ts (sortN (ts.map Tie.nm))))) h := by
  have ie : ZQ 40 e := ⟨ez⟩
  have fe : Fa (0 ≤ e) := ⟨e0⟩
  have le := frT_len e0 ez
  have lw := N.lw
  have lt := N.lt
  have nl := q.lt
  have lo1 : ∀ w ∈ sortN (ts.map Tie.nm), w ∈ ts.map Tie.nm := fun w hw => sortN_perm.mem_iff.mp hw
  have eN := tiesBy_nm lo1 nd
  have S1 : ∀ t ∈ tiesBy ts (sortN (ts.map Tie.nm)), t ∈ ts := fun t ht => tiesBy_mem ht
  have lS : (tiesBy ts (sortN (ts.map Tie.nm))).length = ts.length := by
    have := congrArg List.length eN
    rw [List.length_map, sortN_perm.length_eq, List.length_map] at this
    exact this
  generalize hL : tiesBy ts (sortN (ts.map Tie.nm)) = L at *
  have hTE : (sortN (ts.map Tie.nm)).map T = L.map fun t => T t.nm := by
    rw [← eN, List.map_map]
    rfl
  have NL : NetN L ws := ⟨fun t ht => N.nm t (S1 t ht), N.wn, fun t ht => N.lr t (S1 t ht), N.lw, by omega, fun t ht => N.sz t (S1 t ht)⟩
  simp only [F_text, B_text]
  walk_at "evj"
  rw [moment_text_ok e0 ez (by decide)]
  walk_at "evj"
  rw [bList_t]
  walk_at "evj"
  rw [show T [119, 97, 105, 116, 115] :: ws.map T = (wWaits :: ws).map T from rfl]
  have lwl : ∀ w ∈ wWaits :: ws, w.length ≤ 83 := fun w hw => by
    rcases List.mem_cons.mp hw with rfl | hw
    · decide
    · exact Nat.le_trans (N.wn w hw).2.1 (by decide)
  have lww := lnT_len (c := 10) lwl (by rw [List.length_cons]; omega)
  have qw : Ls (h ++ [MO.lst (T wWaits :: ws.map T)]) h.length ((wWaits :: ws).map T) := ⟨by rw [get_at0]; rfl⟩
  walk_at "evj"
  rw [mJoin_L (q := qw) (by omega)]
  walk_at "evj"
  obtain ⟨nl', n0, ns, nll, ne⟩ : ∃ nl : List Tie → List (List Nat), nl [] = [lnT [wEnd, frT e], lnT (wWaits :: ws)] ∧ (∀ pre t, nl (pre ++ [t]) = nl pre ++ [lnT [wTie, t.nm, t.a, t.b]] ++ t.rs.map fun q => lnT (wRide :: rideWs q)) ∧ (∀ pre : List Tie, (∀ t ∈ pre, t.rs.length ≤ 8) → (nl pre).length ≤ 2 + 9 * pre.length) ∧ nl L = (netRows e ws L).map lnT := by
    refine ⟨fun pre => lnT [wEnd, frT e] :: lnT (wWaits :: ws) :: (pre.flatMap tieRows).map lnT, rfl, fun pre t => by simp [tieRows], fun pre hp => ?_, rfl⟩
    have h : (pre.flatMap tieRows).length ≤ pre.length * 9 := flat_lenK fun t ht => by
      unfold tieRows
      rw [List.length_cons, List.length_map]
      have := hp t ht
      omega
    rw [List.length_cons, List.length_cons, List.length_map]
    omega
  rw [end_line, show [T (lnT [wEnd, frT e]), T (joinN [32] (wWaits :: ws))] = (nl' []).map T by rw [n0]; rfl]
  walk_at "evj"
  rw [bSortT_d (by omega), hTE]
  walk_at "evj"
  generalize hR : forD _ _ _ _ _ _ = R
  obtain ⟨s2, h2, rfl, f, g', ⟨hf, hf2, en⟩, ef, rfl, rfl⟩ := forD_go (xs := L) (emb := fun t => T t.nm) hR (fun pre s H => ∃ (f : Nat) (g' : Hd), (h.length ≤ f ∧ f ≠ h.length + 1 ∧ (h ++ g')[h.length + 1]? = some (.lst (L.map fun t => T t.nm))) ∧ (h ++ g')[f]? = some (.lst ((nl' pre).map T)) ∧
      s = [some (D.tup [FQ e, D.tup (List.map T ws), D.ref n]), some (FQ e), some (D.tup (List.map T ws)), some (D.ref n), some (.ref f), none, none, none, none, none, none] ∧ H = h ++ g')
    ⟨h.length, [.lst ((nl' []).map T), .lst (L.map fun t => T t.nm)], ⟨Nat.le_refl _, by omega, by rw [get_at]; rfl⟩, by rw [get_at0]; rfl, rfl, rfl⟩ (fun _ s H ⟨_, _, ⟨_, _, e⟩, _, _, eH⟩ => by rw [eH]; exact e) (fun pre t post s H hx ⟨f, g', ⟨hf, hf2, en⟩, ef, e1, eH⟩ => by
    subst e1 eH
    have htL : t ∈ L := by rw [hx]; simp
    have ht := S1 t htL
    have lp := congrArg List.length hx
    rw [List.length_append, List.length_cons] at lp
    have nlp := nll pre (fun u hu => NL.lr u (by rw [hx]; simp [hu]))
    have fm := find_mem nd ht
    obtain ⟨n1, n2, n3⟩ := N.nm t ht
    have l1 := n1.2.1
    have l2 := n2.2.1
    have l3 := n3.2.1
    have lr := N.lr t ht
    have hfl := (List.getElem?_eq_some_iff.mp ef).1
    obtain ⟨H0, eH0⟩ : ∃ H0, H0 = h ++ g' := ⟨_, rfl⟩
    have q0 : Ob H0 n (.dK (tiesK ts)) := by rw [eH0]; infer_instance
    have lH0 : h.length ≤ H0.length := by rw [eH0, List.length_append]; omega
    rw [← eH0] at ef en hfl ⊢
    have qf : Ls H0 f ((nl' pre).map T) := ⟨ef⟩
    walk_at "evj"
    rw [fm]
    walk_at "evj"
    rw [tie_head]
    obtain ⟨H1, eH1⟩ : ∃ H1, H1 = List.set H0 f (MO.lst (List.map T (nl' pre ++ [lnT [wTie, t.nm, t.a, t.b]]))) := ⟨_, rfl⟩
    rw [← eH1]
    have lH1 : H1.length = H0.length := by rw [eH1, List.length_set]
    have q1 : Ls H1 f ((nl' pre ++ [lnT [wTie, t.nm, t.a, t.b]]).map T) := ⟨by rw [eH1, List.getElem?_set_self hfl]⟩
    have en1 : H1[h.length + 1]? = some (.lst (L.map fun t => T t.nm)) := by rw [eH1, List.getElem?_set_ne hf2]; exact en
    rw [kLc_all (xs := t.rs) (h := H1) (f := fun q => T (lnT (wRide :: rideWs q))) (by omega) (fun _ => trivial) (fun q hq acc => ⟨_, rfl, rfl, by
      obtain ⟨⟨a1, a2, a3, a4⟩, z1, z2, z3, z4⟩ := N.sz t ht q hq
      have l1 := frT_len a1 z1
      have l2 := frT_len a2 z2
      have l3 := frT_len a3 z3
      have l4 := frT_len a4 z4
      have lwx : ∀ hd : Hd, ∀ x : List Nat, Lw hd (T x) := fun _ _ => inferInstance
      obtain ⟨H2, eH2⟩ : ∃ H2, H2 = H1 ++ [MO.lst acc] := ⟨_, rfl⟩
      rw [← eH2]
      walk_at "evj"
      rw [show iSeq (QdD q) H2 = .ok ([q.1, q.2.1, q.2.2.1, q.2.2.2].map FQ, fun _ => True) H2 from rfl]
      rw [kLc_all (h := H2) (f := fun a => T (frT a)) (by simp) (fun _ => trivial) (fun y hy acc => ⟨_, rfl, rfl, by
        have h2 : 0 ≤ y ∧ SzQ 40 y := by
          simp only [List.mem_cons, List.not_mem_nil, or_false] at hy
          rcases hy with rfl | rfl | rfl | rfl
          · exact ⟨a1, z1⟩
          · exact ⟨a2, z2⟩
          · exact ⟨a3, z3⟩
          · exact ⟨a4, z4⟩
        walk_at "evj"
        exact moment_text_ok h2.1 h2.2 (by decide)⟩)]
      walk_at "evj"
      have qj : Ls (H2 ++ [MO.lst [T (frT q.1), T (frT q.2.1), T (frT q.2.2.1), T (frT q.2.2.2)]]) H2.length ((rideWs q).map T) := ⟨by rw [get_at0]; rfl⟩
      rw [mJoin_L (q := qj) (by unfold rideWs lenN; simp only [List.map_cons, List.map_nil, List.sum_cons, List.sum_nil, List.length_cons, List.length_nil]; omega)]
      walk_at "evj"
      have lj := joinN_len [32] (rideWs q)
      have lj2 : lenN [32] (rideWs q) ≤ 500 := by unfold rideWs lenN; simp only [List.map_cons, List.map_nil, List.sum_cons, List.sum_nil, List.length_cons, List.length_nil]; omega
      rw [dAdd_T_I (by simp only [List.length_cons, List.length_nil]; omega), ride_line]
      walk_at "evj"⟩)]
    walk_at "evj"
    have l2n : h.length + 1 < H0.length := (List.getElem?_eq_some_iff.mp en).1
    rw [gcS_no (m := H1.length) (by simp) (by omega)]
    obtain ⟨G1, hG1⟩ : ∃ G1, H1 = h ++ G1 := ⟨g'.set (f - h.length) (MO.lst (List.map T (nl' pre ++ [lnT [wTie, t.nm, t.a, t.b]]))), by rw [eH1, eH0, List.set_append_right _ _ hf]⟩
    have en2 : G1[1]? = some (.lst (L.map fun t => T t.nm)) := by
      rw [hG1, List.getElem?_append_right (by omega), Nat.add_sub_cancel_left] at en1
      exact en1
    refine ⟨_, _, rfl, H1.length, G1 ++ [.lst ((nl' (pre ++ [t])).map T)], ⟨by omega, by omega, ?_⟩, ?_, rfl, ?_⟩
    · rw [List.getElem?_append_left (List.getElem?_eq_some_iff.mp en2).1]
      exact en2
    · rw [← List.append_assoc, ← hG1, List.getElem?_append_right (Nat.le_refl _), Nat.sub_self]
      rfl
    · rw [← List.append_assoc, ← hG1, ns]
      simp only [List.map_append, List.map_map]
      rfl)
  clear hR
  walk_at "evj"
  obtain ⟨g2, e1, e2⟩ := gcS_keepL (A := h ++ [MO.lst (List.map T (nl' []))]) (s := [some (D.tup [FQ e, D.tup (List.map T ws), D.ref n]), some (FQ e), some (D.tup (List.map T ws)), some (D.ref n), some (D.ref f), none, none, none, none, none, none]) (by simp) ef (by simp)
  rw [e1]
  have qf : Ls (h ++ g2) f ((nl' L).map T) := ⟨e2⟩
  walk_at "evj"
  have NN := netT_len NL e0 ez
  have eT : netT e ws L = joinN [10] (nl' L) ++ [10] := by rw [netT_eq, ne, joinN_snoc (by unfold netRows; simp)]
  have lj : lenN [10] (nl' L) ≤ 100000 := by
    have h1 := NN.1
    rw [show ((netRows e ws L).map fun r => lnT r ++ [10]) = ((netRows e ws L).map lnT).map (fun l => l ++ [10]) by rw [List.map_map]; rfl, ← lenN_lines, ← ne] at h1
    exact h1
  have lj2 := joinN_len [10] (nl' L)
  rw [mJoin_L (q := qf) (by omega)]
  walk_at "evj"
  rw [eT]
theorem itemsOf_ties : ∀ {ts : List Tie}, itemsOf (tiesK ts) = some (ts.map fun t => (mkS t.nm, [T t.a, T t.b, RdsD t.rs]))
  | [] => rfl
  | t :: ts => by
    show (itemsOf (tiesK ts)).map _ = _
    rw [itemsOf_ties]
    rfl
theorem mkS_inj {a b : List Nat} (h : mkS a = mkS b) : a = b := by
  have := congrArg (fun s : Str => s.cps.toList) h
  simpa [mkS] using this
theorem sortT_nms {ns : List (List Nat)} : sortT (ns.map mkS) = (sortN ns).map mkS := by
  unfold sortN
  rw [List.map_map]
  exact (List.map_id _).symm
def parD (t : Tie) : D := .tup [T t.nm, TieD t]
theorem bSortIt_ties {h : Hd} {n : Nat} {ts : List Tie} (q : Ob h n (.dK (tiesK ts))) (lt : ts.length < 60) (nd : (ts.map Tie.nm).Nodup) : bSortIt (.ref n) h = .ok (.ref h.length) (h ++ [.lst ((tiesBy ts (sortN (ts.map Tie.nm))).map parD)]) := by
  have lo1 : ∀ w ∈ sortN (ts.map Tie.nm), w ∈ ts.map Tie.nm := fun w hw => sortN_perm.mem_iff.mp hw
  have eN := tiesBy_nm lo1 nd
  have eF : (ts.map fun t => (mkS t.nm, [T t.a, T t.b, RdsD t.rs])).map Prod.fst = (ts.map Tie.nm).map mkS := by
    rw [List.map_map, List.map_map]
    rfl
  have S1 : ∀ t ∈ tiesBy ts (sortN (ts.map Tie.nm)), t ∈ ts := fun t ht => tiesBy_mem ht
  generalize tiesBy ts (sortN (ts.map Tie.nm)) = L at *
  have ndm : ((ts.map Tie.nm).map mkS).Nodup := by
    unfold List.Nodup
    rw [List.pairwise_map]
    exact nd.imp fun h e => h (mkS_inj e)
  unfold bSortIt
  simp only [q.q, itemsOf_ties]
  rw [if_pos ⟨by rw [List.length_map]; exact lt, by rw [eF]; exact ndm⟩, eF, sortT_nms, ← eN, List.map_map, List.map_map]
  congr 4
  refine List.map_congr_left fun t ht => ?_
  have e : valIt (ts.map fun t => (mkS t.nm, [T t.a, T t.b, RdsD t.rs])) (mkS t.nm) = [T t.a, T t.b, RdsD t.rs] := valIt_of (by rw [eF]; exact ndm) (List.mem_map.mpr ⟨t, S1 t ht, rfl⟩)
  show D.tup [.str (mkS t.nm), .tup (valIt _ (mkS t.nm))] = _
  rw [e]
  rfl
def parP (t : Tie) : PyData := .tuple [txP t.nm, tieP' t]
def justP (e : Rat) (ws : List Pl) (L : List Tie) : PyData := .list [fqP e, .tuple (ws.map txP), .list (L.map parP)]
theorem rw_tieN {κ : Bool} {t : Tie} {ts : List Tie} {ws : List Pl} {n : Nat} (N : NetN ts ws) (ht : t ∈ ts) : Rw κ (tieP' t) 9840 (n + 4) := by
  obtain ⟨_, n2, n3⟩ := N.nm t ht
  have i2 : Nm t.a := ⟨n2⟩
  have i3 : Nm t.b := ⟨n3⟩
  unfold tieP'
  refine .up (.tup (w := 3275) (c := 3) (n := n + 3) (fun p hp => ?_) (by simp)) (by decide) (Nat.le_refl _)
  simp only [List.mem_cons, List.not_mem_nil, or_false] at hp
  rcases hp with rfl | rfl | rfl
  · exact .up (rw_nm (n := n) n2.2.1 (tx_nm (w := t.a))) (by decide) (by omega)
  · exact .up (rw_nm (n := n) n3.2.1 (tx_nm (w := t.b))) (by decide) (by omega)
  · refine .tup (w := 407) (c := 8) (n := n + 2) (fun p hp => ?_) (by rw [List.length_map]; exact N.lr t ht)
    obtain ⟨q, hq, rfl⟩ := List.mem_map.mp hp
    exact rw_qd (k := 40) (N.sz t ht q hq).2 (by decide)
theorem rw_just {e : Rat} {ws : List Pl} {L : List Tie} (N : NetN L ws) (ez : SzQ 40 e) : Rw false (justP e ws L) 591000 8 := by
  refine .up (.lst (w := 196900) (c := 3) (n := 7) (fun p hp => ?_) (by simp)) (by decide) (by decide)
  simp only [List.mem_cons, List.not_mem_nil, or_false] at hp
  rcases hp with rfl | rfl | rfl
  · exact .up (rw_fq (n := 0) ez (by decide)) (by decide) (by decide)
  · refine .up (.tup (w := 82) (c := 9) (n := 0) (fun p hp => ?_) (by rw [List.length_map]; exact N.lw)) (by decide) (by decide)
    obtain ⟨w, hw, rfl⟩ := List.mem_map.mp hp
    have i : Nm w := ⟨N.wn w hw⟩
    exact rw_nm (N.wn w hw).2.1 (tx_nm (w := w))
  · refine .up (.lst (w := 19687) (c := 10) (n := 5) (fun p hp => ?_) (by rw [List.length_map]; exact N.lt)) (by decide) (by decide)
    obtain ⟨t, ht, rfl⟩ := List.mem_map.mp hp
    refine .up (.tup (w := 9840) (c := 2) (n := 4) (fun p hp => ?_) (by simp)) (by decide) (by decide)
    simp only [List.mem_cons, List.not_mem_nil, or_false] at hp
    rcases hp with rfl | rfl
    · have i : Nm t.nm := ⟨(N.nm t ht).1⟩
      exact .up (rw_nm (n := 0) (N.nm t ht).1.2.1 (tx_nm (w := t.nm))) (by decide) (by decide)
    · exact rw_tieN (n := 0) N ht
theorem pyN_par {h : Hd} {n : Nat} {t : Tie} : pyN h (n + 6) (parD t) = some (parP t) := by
  unfold parD
  rw [pyN_tup]
  show (pyNs (pyN h (n + 5)) [T t.nm, TieD t]).map _ = _
  rw [pyNs, pyN_T (n := n + 4), pyNs, pyN_Tie (n := n)]
  rfl
theorem just_told {h : Hd} {e : Rat} {ws : List Pl} {L : List Tie} {m : Nat} (N : NetN L ws) (ez : SzQ 40 e) (q : Ls h m (L.map parD)) (k : Nat) (qk : Ls h k [FQ e, .tup (ws.map T), .ref m]) : bReprN [.ref k] h = .ok (.str (justP e ws L).shown) h := by
  have r := rw_just N ez
  refine reprN_of (p := justP e ws L) ?_ (r.okP (by decide) (by decide))
  rw [pyN_lst (n := 19) (q := qk), pyNs, pyN_FQ (n := 17), pyNs, pyN_tup (n := 18), pyNs_map (g' := txP) fun w _ => pyN_T (n := 17), pyNs, pyN_lst (n := 18) (q := q), pyNs_map (g' := parP) fun t _ => pyN_par (n := 12)]
  rfl
theorem is_just_ok {h : Hd} {m n : Nat} {e : Rat} {ws : List Pl} {t1 t2 L : List Tie} (N : NetN L ws) (ez : SzQ 40 e) (q1 : Ob h m (.dK (tiesK t1))) (q2 : Ob h n (.dK (tiesK t2))) (n1 : (t1.map Tie.nm).Nodup) (n2 : (t2.map Tie.nm).Nodup) (l1 : t1.length ≤ 10) (l2 : t2.length ≤ 10)
    (e1 : tiesBy t1 (sortN (t1.map Tie.nm)) = L) (e2 : tiesBy t2 (sortN (t2.map Tie.nm)) = L) : F_is_just [.tup [FQ e, .tup (ws.map T), .ref m], .tup [FQ e, .tup (ws.map T), .ref n]] h = .ok (.bl true) h := by
  have r := (rw_just N ez).ok.2.2.2
  simp only [F_is_just, B_is_just]
  walk_at "evj"
  rw [show decide (((3 : Nat) : Int) = 3) = true from rfl]
  walk_at "evj"
  rw [bSortIt_ties q1 (by omega) n1, e1]
  walk_at "evj"
  have aux : ∀ h : Hd, bReprN [.ref (h.length + 1)] (h ++ [.lst (L.map parD), .lst [FQ e, .tup (ws.map T), .ref h.length]]) = .ok (.str (justP e ws L).shown) (h ++ [.lst (L.map parD), .lst [FQ e, .tup (ws.map T), .ref h.length]]) := fun h =>
    just_told N ez (m := h.length) ⟨by rw [get_at0]; rfl⟩ _ ⟨by rw [get_at]; rfl⟩
  rw [aux]
  walk_at "evj"
  rw [bSortIt_ties q2 (by omega) n2, e2]
  walk_at "evj"
  rw [aux]
  walk_at "evj"
  rw [show dEq (.str (justP e ws L).shown) (.str (justP e ws L).shown) h = .ok (.bl true) h from sg_same (neg := false) r]
  walk_at "evj"
theorem rw_netN {e : Rat} {ws : List Pl} {ts : List Tie} (N : NetN ts ws) (ez : SzQ 40 e) : Rw true (netP e ws ts) 300000 8 := by
  refine .up (.tup (w := 99500) (c := 3) (n := 7) (fun p hp => ?_) (by simp)) (by decide) (by decide)
  simp only [List.mem_cons, List.not_mem_nil, or_false] at hp
  rcases hp with rfl | rfl | rfl
  · exact .up (rw_fq (n := 0) ez (by decide)) (by decide) (by decide)
  · refine .up (.tup (w := 82) (c := 9) (n := 0) (fun p hp => ?_) (by rw [List.length_map]; exact N.lw)) (by decide) (by decide)
    obtain ⟨w, hw, rfl⟩ := List.mem_map.mp hp
    have i : Nm w := ⟨N.wn w hw⟩
    exact rw_nm (N.wn w hw).2.1 (tx_nm (w := w))
  · refine .up (.dic (w := 82) (v := 9840) (c := 10) (n := 4) (fun p hp => ?_) (fun p hp => ?_) (by rw [List.length_map]; exact N.lt)) (by decide) (by decide)
    · obtain ⟨t, ht, rfl⟩ := List.mem_map.mp hp
      have i : Nm t.nm := ⟨(N.nm t ht).1⟩
      exact rw_nm (N.nm t ht).1.2.1 (tx_nm (w := t.nm))
    · obtain ⟨t, ht, rfl⟩ := List.mem_map.mp hp
      exact rw_tieN (n := 0) N ht
theorem tiesBy_self {ts : List Tie} (nd : (ts.map Tie.nm).Nodup) : tiesBy ts (ts.map Tie.nm) = ts := by
  unfold tiesBy
  rw [List.filterMap_map]
  have : ∀ S : List Tie, (∀ t ∈ S, t ∈ ts) → S.filterMap ((fun w => ts.find? fun t => decide (t.nm = w)) ∘ Tie.nm) = S := fun S => by
    induction S with
    | nil => exact fun _ => rfl
    | cons t S ih =>
      intro h
      rw [List.filterMap_cons, show ((fun w => ts.find? fun t => decide (t.nm = w)) ∘ Tie.nm) t = some t from find_mem nd (h t (by simp)), ih fun u hu => h u (by simp [hu])]
  exact this ts fun _ h => h
theorem ties_sorted {ts : List Tie} (nd : (ts.map Tie.nm).Nodup) : ((tiesBy ts (sortN (ts.map Tie.nm))).map Tie.nm).Nodup ∧ (tiesBy ts (sortN (ts.map Tie.nm))).length = ts.length ∧
    tiesBy (tiesBy ts (sortN (ts.map Tie.nm))) (sortN ((tiesBy ts (sortN (ts.map Tie.nm))).map Tie.nm)) = tiesBy ts (sortN (ts.map Tie.nm)) := by
  have lo1 : ∀ w ∈ sortN (ts.map Tie.nm), w ∈ ts.map Tie.nm := fun w hw => sortN_perm.mem_iff.mp hw
  have eN := tiesBy_nm lo1 nd
  have nd2 : ((tiesBy ts (sortN (ts.map Tie.nm))).map Tie.nm).Nodup := by
    rw [eN]
    exact sortN_perm.nodup_iff.mpr nd
  refine ⟨nd2, ?_, ?_⟩
  · have := congrArg List.length eN
    rw [List.length_map, sortN_perm.length_eq, List.length_map] at this
    exact this
  · have e2 : sortN ((tiesBy ts (sortN (ts.map Tie.nm))).map Tie.nm) = (tiesBy ts (sortN (ts.map Tie.nm))).map Tie.nm := by
      rw [eN]
      exact sortN_same (sortN_perm.nodup_iff.mpr nd) nd fun p => sortN_perm.mem_iff
    rw [e2, tiesBy_self nd2]
theorem right_ok {h : Hd} {n : Nat} {e : Rat} {ws tk : List Pl} {ts : List Tie} (N : NetT e ws tk ts) (q : Ob h n (.dK (tiesK ts))) : F_right [.tup [FQ e, .tup (ws.map T), .ref n]] h = .ok (.bl true) h := by
  obtain ⟨nd2, l2, e2⟩ := ties_sorted N.nd
  have S1 : ∀ t ∈ tiesBy ts (sortN (ts.map Tie.nm)), t ∈ ts := fun t ht => tiesBy_mem ht
  have o : ∀ t ∈ ts, ∀ q ∈ t.rs, RqOk 40 q := fun t ht q hq => ((N.ok t ht).o q hq).ok.1
  have NN : NetN ts ws := ⟨fun t ht => ⟨(N.ok t ht).nm, N.hk _ (N.ok t ht).a, N.hk _ (N.ok t ht).b⟩, fun w hw => N.hk w (N.hw w hw), fun t ht => (N.ok t ht).ln, by have := N.lw; omega, N.lt, fun t ht q hq => by
    have o := o t ht q hq
    obtain ⟨_, _, _, _, _, a1, a2, a3⟩ := o.le
    exact ⟨⟨o.nn, a1, a2, a3⟩, o.z⟩⟩
  have lt := N.lt
  generalize hL : tiesBy ts (sortN (ts.map Tie.nm)) = L at *
  have NL : NetN L ws := ⟨fun t ht => NN.nm t (S1 t ht), NN.wn, fun t ht => NN.lr t (S1 t ht), NN.lw, by omega, fun t ht => NN.sz t (S1 t ht)⟩
  have R := rw_netN NN N.ez
  have er : ∀ (h : Hd) (k : Nat), Ob h k (.dK (tiesK ts)) → bReprN [.tup [FQ e, .tup (ws.map T), .ref k]] h = .ok (.str (netP e ws ts).shown) h := fun h k q => reprN_of (pyN_net (n := 13)) (R.okP (by decide) (by decide))
  have sg := R.ok.2.2.2
  generalize (netP e ws ts).shown = rt at *
  have P1 : ∀ (h : Hd), Ob h n (.dK (tiesK ts)) → F_p_net_text [.tup [FQ e, .tup (ws.map T), .ref n]] h = .ok (T (netT e ws L)) h := fun h q => by rw [p_net_text_ok NN q N.nd N.e0 N.ez, hL]
  have P2 : ∀ (h : Hd), F_p_read_net [T (netT e ws L)] h = .ok (.tup [FQ e, .tup (ws.map T), .ref h.length]) (h ++ [.dK (tiesK L)]) := fun h => p_read_net_ok NL N.up e2 nd2 N.e0 N.ez (fun t ht => (N.ok t (S1 t ht)).ab) (fun t ht => o t (S1 t ht)) (fun t ht => N.en t (S1 t ht))
  have P3 : ∀ (h : Hd) (m : Nat), Ob h n (.dK (tiesK ts)) → Ob h m (.dK (tiesK L)) → F_is_just [.tup [FQ e, .tup (ws.map T), .ref m], .tup [FQ e, .tup (ws.map T), .ref n]] h = .ok (.bl true) h := fun h m q1 q2 => is_just_ok NL N.ez q2 q1 nd2 N.nd (by omega) (by omega) e2 hL
  have tn := tx_netT (e := e) NL
  have nl := q.lt
  simp only [F_right, B_right]
  walk_at "evj"
  rw [er h n q]
  walk_at "evj"
  rw [P1 h q]
  walk_at "evj"
  rw [text_ok NN q N.nd N.e0 N.ez, hL]
  walk_at "evj"
  rw [er h n q]
  walk_at "evj"
  rw [show dNe (.str rt) (.str rt) h = .ok (.bl false) h from sg_same (neg := true) sg]
  walk_at "evj"
  rw [P2]
  walk_at "evj"
  rw [P3 _ _ inferInstance ob_at0]
  walk_at "evj"
  have hl3 : (tiesK L).length < 1000000 := by
    show (dctK Tie.nm TieD L).length < 1000000
    unfold dctK
    rw [List.length_map]
    omega
  rw [dSetD_I (q := ob_at0) hl3]
  generalize putD (tiesK L) (kS [122, 122]) (D.tup [T [97], T [98], D.tup []]) = Z
  rw [show (h ++ [MO.dK (tiesK L)]).set h.length (MO.dK Z) = h ++ [MO.dK Z] by simp]
  walk_at "evj"
  rw [P2]
  walk_at "evj"
  rw [P3 (h ++ [MO.dK Z, MO.dK (tiesK L)]) (h.length + 1) inferInstance ⟨by rw [get_at]; rfl⟩]
  walk_at "evj"
  rw [P1 _ inferInstance]
  walk_at "evj"
end DL
namespace DL
open PySem PySem.Spec L2
local macro_rules | `(tactic| walk_at "evn") => `(tactic| try simp -implicitDefEqProofs only [evB1, List.append_assoc, List.length_append, Nat.add_assoc, get_at, get_at0, Nat.reduceLeDiff, asO_int, Res.bind_ok, b1_ok, b2_ok, bAnd_ok, bOr_ok, bNot_ok, bAndV_ok, bOrV_ok, bNotV_ok, bIf_ok, bC_ok, bC1_ok, bM_ok, bM1_ok, bSl_ok, bSl1_ok, bSl2_ok, kAsg_ok, bG_ok, bS1_ok, bS2_ok, bS3_ok, kSet_ok, kRet_ok, kExp_ok, kIf_ok, kFor_ok, kPar_ok, kPar1_ok, SR.seq_nx, SR.seq_rt, SR.fin_rt, toS_ok, slAt_some, optR_some, asB_bl, asT_bl, dAdd_ii, dSub_ii, dNeg_i, dLt_ii, dGt_ii, dLe_ii, dGe_ii, bMax2_ii, bMin2_ii, bInt_b, bLen_t, bLen_r, dIx_t, dIx_r, at_0, at_1, at_2, dEq_ii, dNe_ii, iSeq_t, List.map, List.length_cons, List.length_nil, List.replicate_succ, List.replicate_zero, List.cons_append, List.nil_append, List.append_nil, List.getElem?_cons_zero, List.getElem?_cons_succ, List.set_cons_zero, List.set_cons_succ, Nat.reduceSub, Nat.reduceAdd, Nat.sub_self, Bool.not_true, Bool.not_false, if_true, if_false, reduceIte, Bool.false_eq_true, decide_true, decide_false])
local macro_rules | `(tactic| walk_at "evj") => `(tactic| try simp -implicitDefEqProofs (disch := first | (simp only [List.length_cons, List.length_nil, Nat.reduceAdd, Nat.reduceLeDiff]; done) | exact tyM_I | exact tyM_T | decide | omega | (simp only [List.length_map, List.length_cons, List.length_nil, List.length_append, List.length_replicate, List.length_take, List.length_dropLast]; omega) | assumption) only [evB1, evB2, evB3, evB5, Bool.false_xor, Bool.true_xor, beq_self_eq_true, Bool.true_and, Bool.and_true, Bool.false_and, Bool.and_false, Bool.true_or, Bool.or_true, Bool.false_or, Bool.or_false, Int.reduceToNat, Int.reducePow, Int.reduceSub, Int.reduceAdd, Int.reduceNeg, Int.reduceMul, List.singleton_append, k_FIGURES, k_LETTERS, k_MOST_LETTERS, dIx_FQ0, dIx_FQ1, dEq_FQ, dNe_FQ, FQ_01, List.append_assoc, List.length_append, Nat.add_assoc, get_at, get_at0, Nat.reduceLeDiff, asO_int, Res.bind_ok, b1_ok, b2_ok, bAnd_ok, bOr_ok, bNot_ok, bAndV_ok, bOrV_ok, bNotV_ok, bIf_ok, bC_ok, bC1_ok, bM_ok, bM1_ok, bSl_ok, bSl1_ok, bSl2_ok, kAsg_ok, bG_ok, bS1_ok, bS2_ok, bS3_ok, kSet_ok, kRet_ok, kExp_ok, kIf_ok, kFor_ok, kPar_ok, kPar1_ok, SR.seq_nx, SR.seq_rt, SR.fin_rt, toS_ok, slAt_some, optR_some, asB_bl, asT_bl, dAdd_ii, dSub_ii, dNeg_i, dLt_ii, dGt_ii, dLe_ii, dGe_ii, bMax2_ii, bMin2_ii, bInt_b, bLen_t, bLen_r, dIx_t, dIx_r, at_0, at_1, at_2, dEq_ii, dNe_ii, iSeq_t, List.map, List.length_cons, List.length_nil, List.replicate_succ, List.replicate_zero, List.cons_append, List.nil_append, List.append_nil, List.getElem?_cons_zero, List.getElem?_cons_succ, List.set_cons_zero, List.set_cons_succ, Nat.reduceSub, Nat.reduceAdd, Nat.sub_self, Bool.not_true, Bool.not_false, if_true, if_false, reduceIte, Bool.false_eq_true, decide_true, decide_false])
theorem gcS_netD {h h1 : Hd} {s : Sl} {n : Nat} {x y : D} {o : MO} (hs : some (D.tup [x, y, .ref n]) ∈ s) (q : h1[n]? = some o) : ∃ h', (SR.nx s h1).gcS h = .nx s h' ∧ h'[n]? = some o := by
  unfold SR.gcS
  simp only
  split
  · rename_i w
    have lo := w.2 _ hs
    refine ⟨_, rfl, ?_⟩
    rw [lo_tup] at lo
    have l2 := loAll_mem lo (show D.ref n ∈ _ by simp)
    rw [lo_ref] at l2
    rw [List.getElem?_take_of_lt (of_decide_eq_true l2)]
    exact q
  · exact ⟨_, rfl, q⟩
theorem law_true (ns : List Int) (hl : ns.length ≤ 63) (hb : ∀ z ∈ ns, PySem.Builtin.Int.intBits z ≤ 1048576) : ∃ h', F_law [.rol (ns.map D.int)] [] = .ok (.bl true) h' := by
  simp only [F_law, B_law]
  walk_at "evj"
  generalize hR : forD _ _ _ _ _ _ = R
  obtain ⟨s2, h2, rfl, ⟨el2, rfl, _⟩⟩ := forD_go hR (fun pre s H => ∃ el : D, s = [some (.rol (ns.map D.int)), some el, none, none] ∧ (el = .non ∨ ∃ e ws tk ts n, el = .tup [FQ e, .tup (ws.map T), .ref n] ∧ NetT e ws tk ts ∧ Ob H n (.dK (tiesK ts)))) ⟨.non, rfl, .inl rfl⟩ (fun _ _ _ _ => trivial) (fun pre i post s H hx ⟨el, e, E⟩ => by
    subst e
    have hi := loop_i (by decide) hx
    obtain ⟨c, v, ep⟩ := pot_ok (ns := ns) (k := i) (h := H) (by omega)
    have eB : H ++ [MO.lst [.int c.1, .int c.2]] = HP (H ++ [.lst []]) H.length c := by
      unfold HP
      rw [List.set_append_right _ _ (Nat.le_refl _), Nat.sub_self]
      rfl
    rw [eB] at ep
    have pl : PL H.length (H ++ [MO.lst []]) := ⟨by rw [List.length_append]; simp⟩
    obtain ⟨e, ws, tk, ts, c', v', N, en⟩ := net_ok v pl
    rw [ev_turn_I]
    walk_at "evj"
    rw [ep]
    walk_at "evj"
    rw [en]
    walk_at "evj"
    have qN : Ob (HP (H ++ [MO.lst []]) H.length c' ++ [MO.dK (tiesK ts)]) (H.length + 1) (.dK (tiesK ts)) := ⟨by
      rw [show H.length + 1 = (HP (H ++ [MO.lst []]) H.length c').length + 0 by rw [HP_len_I, List.length_append]; rfl, get_at]; rfl⟩
    rw [right_ok N qN]
    walk_at "evj"
    obtain ⟨H2, eH2⟩ : ∃ H2, H2 = HP (H ++ [MO.lst []]) H.length c' ++ [MO.dK (tiesK ts)] := ⟨_, rfl⟩
    rw [← eH2] at qN ⊢
    obtain ⟨h', eh, qh⟩ := gcS_netD (h := H) (h1 := H2) (s := [some (.rol (ns.map D.int)), some (D.tup [FQ e, D.tup (ws.map T), D.ref (H.length + 1)]), none, none]) (n := H.length + 1) (x := FQ e) (y := .tup (ws.map T)) (by simp) qN.q
    rcases E with rfl | ⟨e2, ws2, tk2, ts2, n2, rfl, N2, q2⟩
    · walk_at "evj"
      exact ⟨_, _, eh, _, rfl, .inr ⟨e, ws, tk, ts, _, rfl, N, ⟨qh⟩⟩⟩
    · have q3 : Ob H2 n2 (.dK (tiesK ts2)) := by
        have q0 := q2.lt
        refine ⟨?_⟩
        rw [eH2, List.getElem?_append_left (by rw [HP_len_I, List.length_append]; omega)]
        unfold HP
        rw [List.getElem?_set_ne (by omega), List.getElem?_append_left q0]
        exact q2.q
      walk_at "evj"
      rw [right_ok N2 q3]
      walk_at "evj"
      exact ⟨_, _, eh, _, rfl, .inr ⟨e, ws, tk, ts, _, rfl, N, ⟨qh⟩⟩⟩)
  walk_at "evj"
  exact ⟨_, rfl⟩
end DL
open PySem PySem.W PyProof.Rows
set_option maxHeartbeats 0 in
theorem PySem.Challenge.cw_hourstairs_k53_texts_of_nets_holds : PySem.Challenge.rw_hourstairs_k53_texts_of_nets.Holds := by
  w_on; o_law; k_head; (case hw => w_witness2)
  k_fill
  refine DL.walkG (l := PySem.Challenge.rw_hourstairs_k53_texts_of_nets) (n := 63) (k := 9) (x := "_law_script") (CX := fun _ => L2.CX0) (sp := fun w => DL.spD _ 1 DL.F_law) rfl (by decide) rfl ⟨rfl, by decide, by decide⟩ (fun w h Y => PySem.W.kIn_of Y) ?F (fun _ _ _ ns hl hb hO hS => DL.law_sp hO hS (DL.law_true ns hl hb)) (fun _ _ _ _ _ h => h)
  case F =>
    intro w mg fa h KX G hmg
    refine' DL.law_end (DL.topF_mk KX G ?a0 ?l0 ?c0 ?k0 ?a1 ?l1 ?c1 ?k1 ?a2 ?l2 ?c2 ?k2 ?a3 ?l3 ?c3 ?k3 ?a4 ?l4 ?c4 ?k4 ?a5 ?l5 ?c5 ?k5 ?a6 ?l6 ?c6 ?k6 ?a7 ?l7 ?c7 ?k7 ?a8 ?l8 ?c8 ?k8 ?a9 ?l9 ?c9 ?k9 ?a10 ?l10 ?c10 ?k10 ?a11 ?l11 ?c11 ?k11 ?a12 ?l12 ?c12 ?k12 ?a13 ?l13 ?c13 ?k13 ?a14 ?l14 ?c14 ?k14 ?a15 ?l15 ?c15 ?k15 ?a16 ?l16 ?c16 ?k16 ?a17 ?l17 ?c17 ?k17 ?a18 ?l18 ?c18 ?k18 ?a19 ?l19 ?c19 ?k19 ?a20 ?l20 ?c20 ?k20 ?a21 ?l21 ?c21 ?k21 ?a22 ?l22 ?c22 ?k22 ?a23 ?l23 ?c23 ?k23 ?a24 ?l24 ?c24 ?k24 ?a25 ?l25 ?c25 ?k25 ?a26 ?l26 ?c26 ?k26 ?a27 ?l27 ?c27 ?k27 ?a28 ?l28 ?c28 ?k28 ?a29 ?l29 ?c29 ?k29 ?a30 ?l30 ?c30 ?k30 ?a31 ?l31 ?c31 ?k31 ?a32 ?l32 ?c32 ?k32 ?a33 ?l33 ?c33 ?k33 ?a34 ?l34 ?c34 ?k34 ?z_all ?z_any ?z_bool ?z_dict ?z_divmod ?z_int ?z_isinstance ?z_len ?z_list ?z_max ?z_min ?z_range ?z_repr ?z_sorted ?z_str ?z_tuple ?z_zip ?ca_FIGURES ?ca_LETTERS ?ca_MOST_LETTERS) hmg
    (case a0 => k_is); (case l0 => k_is); (case c0 => k_is); (case k0 => k_is); (case a1 => k_is); (case l1 => k_is); (case c1 => k_is); (case k1 => k_is); (case a2 => k_is); (case l2 => k_is); (case c2 => k_is); (case k2 => k_is); (case a3 => k_is); (case l3 => k_is); (case c3 => k_is); (case k3 => k_is); (case a4 => k_is); (case l4 => k_is); (case c4 => k_is); (case k4 => k_is); (case a5 => k_is); (case l5 => k_is); (case c5 => k_is); (case k5 => k_is); (case a6 => k_is); (case l6 => k_is); (case c6 => k_is); (case k6 => k_is); (case a7 => k_is); (case l7 => k_is); (case c7 => k_is); (case k7 => k_is); (case a8 => k_is); (case l8 => k_is); (case c8 => k_is); (case k8 => k_is); (case a9 => k_is); (case l9 => k_is); (case c9 => k_is); (case k9 => k_is); (case a10 => k_is); (case l10 => k_is); (case c10 => k_is); (case k10 => k_is); (case a11 => k_is); (case l11 => k_is); (case c11 => k_is); (case k11 => k_is); (case a12 => k_is); (case l12 => k_is); (case c12 => k_is); (case k12 => k_is); (case a13 => k_is); (case l13 => k_is); (case c13 => k_is); (case k13 => k_is); (case a14 => k_is); (case l14 => k_is); (case c14 => k_is); (case k14 => k_is); (case a15 => k_is); (case l15 => k_is); (case c15 => k_is); (case k15 => k_is); (case a16 => k_is); (case l16 => k_is); (case c16 => k_is); (case k16 => k_is); (case a17 => k_is); (case l17 => k_is); (case c17 => k_is); (case k17 => k_is); (case a18 => k_is); (case l18 => k_is); (case c18 => k_is); (case k18 => k_is); (case a19 => k_is); (case l19 => k_is); (case c19 => k_is); (case k19 => k_is); (case a20 => k_is); (case l20 => k_is); (case c20 => k_is); (case k20 => k_is); (case a21 => k_is); (case l21 => k_is); (case c21 => k_is); (case k21 => k_is); (case a22 => k_is); (case l22 => k_is); (case c22 => k_is); (case k22 => k_is); (case a23 => k_is); (case l23 => k_is); (case c23 => k_is); (case k23 => k_is); (case a24 => k_is); (case l24 => k_is); (case c24 => k_is); (case k24 => k_is); (case a25 => k_is); (case l25 => k_is); (case c25 => k_is); (case k25 => k_is); (case a26 => k_is); (case l26 => k_is); (case c26 => k_is); (case k26 => k_is); (case a27 => k_is); (case l27 => k_is); (case c27 => k_is); (case k27 => k_is); (case a28 => k_is); (case l28 => k_is); (case c28 => k_is); (case k28 => k_is); (case a29 => k_is); (case l29 => k_is); (case c29 => k_is); (case k29 => k_is); (case a30 => k_is); (case l30 => k_is); (case c30 => k_is); (case k30 => k_is); (case a31 => k_is); (case l31 => k_is); (case c31 => k_is); (case k31 => k_is); (case a32 => k_is); (case l32 => k_is); (case c32 => k_is); (case k32 => k_is); (case a33 => k_is); (case l33 => k_is); (case c33 => k_is); (case k33 => k_is); (case a34 => k_is); (case l34 => k_is); (case c34 => k_is); (case k34 => k_is); (case z_all => k_is); (case z_any => k_is); (case z_bool => k_is); (case z_dict => k_is); (case z_divmod => k_is); (case z_int => k_is); (case z_isinstance => k_is); (case z_len => k_is); (case z_list => k_is); (case z_max => k_is); (case z_min => k_is); (case z_range => k_is); (case z_repr => k_is); (case z_sorted => k_is); (case z_str => k_is); (case z_tuple => k_is); (case z_zip => k_is); (case ca_FIGURES => k_is); (case ca_LETTERS => k_is); (case ca_MOST_LETTERS => k_is)

