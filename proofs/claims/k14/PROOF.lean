import PyProof.Rows.All
import Wide.All
import OpenK.AllK
import Wide.FinOn
import HandS.ForMost
import HandS.EndBits
import HandS.Wide
import HandS.WideBits
import HandS.IsInst
import HandS.TupAny
import HandS.TupLe
import HandS.Zip
import HandS.Rev
import HandS.Style
import HandS.Deep
import HandS.More
import HandS.Replace
import HandS.Text
import HandS.SortInts
import PySem.Challenge.RW_hourstairs_k14_texts_there_and_back
set_option Elab.async false
set_option linter.all false
set_option maxRecDepth 100000
set_option autoImplicit false
set_option maxHeartbeats 4000000
/-! DL: a layer of data over HandS: values as trees, mutable things by numbers, defs as functions. -/
namespace DL
open PySem PySem.Spec PyProof.Rows L2

/-- a value as data: tup, rol: a tuple, a list that nobody writes; ref n: the n-th mutable thing; con a: a thing of the text -/
inductive D where
  | non | bl (b : Bool) | int (i : Int) | str (x : Str) | ty (n : String) | tup (xs : List D) | rol (xs : List D) | ref (n : Nat) | con (a : Addr)
/-- a mutable thing -/
inductive MO where
  | lst (xs : List D)
  | dK (kvs : List (Key × D))
  | dF (kvs : List (Key × D))
abbrev Hd := List MO
/-- an exception on its way: its class, its own fields -/
structure XD where
  cls : Value
  fs : Option (List (Str × D))
inductive Res (α : Type) where
  | ok (a : α) (h : Hd)
  | exc (x : XD) (h : Hd)
  | bad
abbrev M (α : Type) := Hd → Res α
abbrev Sl := List (Option D)
abbrev EM := Sl → M D
abbrev TM := Sl → M Bool
abbrev AM := Sl → M (List D)
def Res.bind {α β : Type} (r : Res α) (f : α → Hd → Res β) : Res β := match r with
  | .ok a h => f a h
  | .exc x h => .exc x h
  | .bad => .bad
inductive SR where
  | nx (s : Sl) (h : Hd)
  | rt (d : D) (h : Hd)
  | exc (x : XD) (s : Sl) (h : Hd)
  | bad
abbrev SM := Sl → Hd → SR

section
variable (K : PySem.W.Frag)
/-- a list that nobody writes -/
def Frz (H : Hp) (a : Addr) (vs : List V) : Prop :=
  (∃ o, H a = some (.frz o (.lst vs))) ∨ ∃ (o : Obj) (its : Array Value) (n : Nat), K.lookup a = some o ∧ o.cls = .type "list" ∧ o.dict = none ∧ o.data = .seq its n ∧ its.size ≤ sizeLine ∧ Vals vs its.toList
theorem Frz.seq {K : PySem.W.Frag} {H : Hp} {a : Addr} {vs : List V} (h : Frz K H a vs) : SqL K H a vs := by
  rcases h with ⟨o, h⟩ | h
  · exact .inl (.inr ⟨o, h⟩)
  · exact .inr h
variable (μ : List Addr) (H : Hp)
mutual
inductive Rep : V → D → Prop
  | non : Rep .non .non
  | bl (b : Bool) : Rep (.bl b) (.bl b)
  | int (i : Int) : Rep (.int i) (.int i)
  | str (x : Str) : Rep (.str x) (.str x)
  | ty (n : String) : Rep (.ty n) (.ty n)
  | tup {a : Addr} {vs : List V} {ds : List D} : SqT K H a vs → RepAll vs ds → Rep (.ref a) (.tup ds)
  | rol {a : Addr} {vs : List V} {ds : List D} : Frz K H a vs → RepAll vs ds → Rep (.ref a) (.rol ds)
  | ref {n : Nat} {a : Addr} : μ[n]? = some a → Rep (.ref a) (.ref n)
  | con (a : Addr) : Rep (.ref a) (.con a)
inductive RepAll : List V → List D → Prop
  | nil : RepAll [] []
  | cons {v : V} {d : D} {vs : List V} {ds : List D} : Rep v d → RepAll vs ds → RepAll (v :: vs) (d :: ds)
end
end

section
variable {K : PySem.W.Frag} {μ μ' μ'' : List Addr} {H H' H'' : Hp}
/-- what stays: tuples, frozen things, the numbers -/
structure Ext (μ : List Addr) (H : Hp) (μ' : List Addr) (H' : Hp) : Prop where
  nums : ∀ (n : Nat) (a : Addr), μ[n]? = some a → μ'[n]? = some a
  tups : ∀ a xs, H a = some (.tup xs) → H' a = some (.tup xs)
  frzs : ∀ a o xs, H a = some (.frz o (.lst xs)) → H' a = some (.frz o (.lst xs))
  frzt : ∀ a o xs, H a = some (.frz o (.tup xs)) → H' a = some (.frz o (.tup xs))
theorem Ext.refl : Ext μ H μ H := ⟨fun _ _ h => h, fun _ _ h => h, fun _ _ _ h => h, fun _ _ _ h => h⟩
theorem Ext.trans (a : Ext μ H μ' H') (b : Ext μ' H' μ'' H'') : Ext μ H μ'' H'' :=
  ⟨fun n c h => b.nums n c (a.nums n c h), fun c xs h => b.tups c xs (a.tups c xs h), fun c o xs h => b.frzs c o xs (a.frzs c o xs h), fun c o xs h => b.frzt c o xs (a.frzt c o xs h)⟩
theorem Ext.sqt (e : Ext μ H μ' H') {a : Addr} {vs : List V} (h : SqT K H a vs) : SqT K H' a vs := by
  rcases h with (h | ⟨o, h⟩) | h
  · exact .inl (.inl (e.tups _ _ h))
  · exact .inl (.inr ⟨o, e.frzt _ _ _ h⟩)
  · exact .inr h
theorem Ext.frz (e : Ext μ H μ' H') {a : Addr} {vs : List V} (h : Frz K H a vs) : Frz K H' a vs := by
  rcases h with ⟨o, h⟩ | h
  · exact .inl ⟨o, e.frzs _ _ _ h⟩
  · exact .inr h
mutual
theorem Rep.ext {v : V} {d : D} (e : Ext μ H μ' H') : Rep K μ H v d → Rep K μ' H' v d
  | .non => .non
  | .bl b => .bl b
  | .int i => .int i
  | .str x => .str x
  | .ty n => .ty n
  | .tup h r => .tup (e.sqt h) (RepAll.ext e r)
  | .rol h r => .rol (e.frz h) (RepAll.ext e r)
  | .ref h => .ref (e.nums _ _ h)
  | .con a => .con a
theorem RepAll.ext {vs : List V} {ds : List D} (e : Ext μ H μ' H') : RepAll K μ H vs ds → RepAll K μ' H' vs ds
  | .nil => .nil
  | .cons r t => .cons (Rep.ext e r) (RepAll.ext e t)
end
theorem RepAll.length : ∀ {vs : List V} {ds : List D}, RepAll K μ H vs ds → vs.length = ds.length
  | _, _, .nil => rfl
  | _, _, .cons _ t => by rw [List.length_cons, List.length_cons, RepAll.length t]
theorem RepAll.get : ∀ {vs : List V} {ds : List D} {i : Nat} {d : D}, RepAll K μ H vs ds → ds[i]? = some d → ∃ v, vs[i]? = some v ∧ Rep K μ H v d
  | _, _, _, _, .nil, e => by simp at e
  | _, _, 0, _, .cons r _, e => by simp at e; subst e; exact ⟨_, rfl, r⟩
  | _, _, i + 1, _, .cons _ t, e => by
    obtain ⟨v, h1, h2⟩ := RepAll.get (i := i) t (by simpa using e)
    exact ⟨v, by simpa using h1, h2⟩
theorem RepAll.append : ∀ {vs ws : List V} {ds es : List D}, RepAll K μ H vs ds → RepAll K μ H ws es → RepAll K μ H (vs ++ ws) (ds ++ es)
  | _, _, _, _, .nil, s => s
  | _, _, _, _, .cons r t, s => .cons r (RepAll.append t s)
theorem RepAll.take : ∀ {vs : List V} {ds : List D} (n : Nat), RepAll K μ H vs ds → RepAll K μ H (vs.take n) (ds.take n)
  | _, _, 0, _ => .nil
  | _, _, _ + 1, .nil => .nil
  | _, _, n + 1, .cons r t => .cons r (RepAll.take n t)
theorem RepAll.drop : ∀ {vs : List V} {ds : List D} (n : Nat), RepAll K μ H vs ds → RepAll K μ H (vs.drop n) (ds.drop n)
  | _, _, 0, r => r
  | _, _, _ + 1, .nil => .nil
  | _, _, n + 1, .cons _ t => RepAll.drop n t
theorem RepAll.set {v : V} {d : D} (r : Rep K μ H v d) : ∀ {vs : List V} {ds : List D} (i : Nat), RepAll K μ H vs ds → RepAll K μ H (vs.set i v) (ds.set i d)
  | _, _, _, .nil => .nil
  | _, _, 0, .cons _ t => .cons r t
  | _, _, i + 1, .cons q t => .cons q (RepAll.set r i t)
theorem RepAll.one {v : V} {d : D} (r : Rep K μ H v d) : RepAll K μ H [v] [d] := .cons r .nil
theorem RepAll.reverse : ∀ {vs : List V} {ds : List D}, RepAll K μ H vs ds → RepAll K μ H vs.reverse ds.reverse
  | _, _, .nil => .nil
  | _, _, .cons r t => by
    rw [List.reverse_cons, List.reverse_cons]
    exact (RepAll.reverse t).append (.one r)
end

/-- the slots -/
def SRel (K : PySem.W.Frag) (μ : List Addr) (H : Hp) (σ : L2.St) (s : Sl) : Prop :=
  σ.length = s.length ∧ ∀ (i : Nat) (d : D), s[i]? = some (some d) → ∃ v, σ[i]? = some (some v) ∧ Rep K μ H v d
inductive KRep (K : PySem.W.Frag) (μ : List Addr) (H : Hp) : List (Key × V) → List (Key × D) → Prop
  | nil : KRep K μ H [] []
  | cons {k : Key} {v : V} {d : D} {kvs : List (Key × V)} {kds : List (Key × D)} : Rep K μ H v d → KRep K μ H kvs kds → KRep K μ H ((k, v) :: kvs) ((k, d) :: kds)
def MRep (K : PySem.W.Frag) (μ : List Addr) (H : Hp) (a : Addr) : MO → Prop
  | .lst ds => ∃ vs, H a = some (.lst vs) ∧ RepAll K μ H vs ds
  | .dK kds => ∃ kvs, H a = some (.dK kvs) ∧ KRep K μ H kvs kds
  | .dF kds => ∃ o kvs, H a = some (.frz o (.dK kvs)) ∧ KRep K μ H kvs kds
structure HRel (K : PySem.W.Frag) (μ : List Addr) (H : Hp) (hd : Hd) : Prop where
  len : μ.length = hd.length
  nd : ∀ (n m : Nat) (a : Addr), μ[n]? = some a → μ[m]? = some a → n = m
  obj : ∀ (n : Nat) (a : Addr) (o : MO), μ[n]? = some a → hd[n]? = some o → MRep K μ H a o
section
variable {K : PySem.W.Frag} {μ μ' : List Addr} {H H' : Hp} {hd hd' : Hd}
theorem KRep.ext (e : Ext μ H μ' H') : ∀ {kvs : List (Key × V)} {kds : List (Key × D)}, KRep K μ H kvs kds → KRep K μ' H' kvs kds
  | _, _, .nil => .nil
  | _, _, .cons r t => .cons (r.ext e) (KRep.ext e t)
theorem SRel.ext {σ : L2.St} {s : Sl} (r : SRel K μ H σ s) (e : Ext μ H μ' H') : SRel K μ' H' σ s := ⟨r.1, fun i d h => by
  obtain ⟨v, h1, h2⟩ := r.2 i d h
  exact ⟨v, h1, h2.ext e⟩⟩
theorem SRel.set {σ : L2.St} {s : Sl} {v : V} {d : D} (i : Nat) (r : SRel K μ H σ s) (q : Rep K μ H v d) : SRel K μ H (σ.set i (some v)) (s.set i (some d)) := ⟨by simp [r.1], fun j e h => by
  by_cases hj : i = j
  · subst hj
    have hl : i < s.length := by
      rcases Nat.lt_or_ge i s.length with z | z
      · exact z
      · rw [List.getElem?_eq_none (by simpa using z)] at h; cases h
    rw [List.getElem?_set_self hl] at h
    cases h
    exact ⟨v, List.getElem?_set_self (by rw [r.1]; exact hl), q⟩
  · rw [List.getElem?_set_ne hj] at h
    obtain ⟨w, h1, h2⟩ := r.2 j e h
    exact ⟨w, by rw [List.getElem?_set_ne hj]; exact h1, h2⟩⟩
theorem MRep.isThere {a : Addr} {o : MO} (m : MRep K μ H a o) : ∃ u, H a = .some u := by
  cases o with
  | lst ds => obtain ⟨vs, h, _⟩ := m; exact ⟨_, h⟩
  | dK ds => obtain ⟨vs, h, _⟩ := m; exact ⟨_, h⟩
  | dF ds => obtain ⟨o, vs, h, _⟩ := m; exact ⟨_, h⟩
theorem HRel.there (r : HRel K μ H hd) {n : Nat} {a : Addr} (h : μ[n]? = .some a) : ∃ u, H a = .some u := by
  have hl : n < hd.length := by
    rw [← r.len]
    exact (List.getElem?_eq_some_iff.mp h).1
  exact (r.obj n a hd[n] h (List.getElem?_eq_getElem hl)).isThere
theorem HRel.fresh (r : HRel K μ H hd) {p : Addr} (hp : H p = none) {n : Nat} : μ[n]? ≠ .some p := fun h => by
  obtain ⟨u, e⟩ := r.there h
  rw [hp] at e; cases e
/-- a thing at a new place that isn't tracked here -/
theorem Ext.new {p : Addr} {o : HO} (hp : H p = none) : Ext μ H μ (upd H p o) :=
  ⟨fun _ _ h => h, fun a xs h => by rw [upd_ne (ne_of_none h hp)]; exact h, fun a o xs h => by rw [upd_ne (ne_of_none h hp)]; exact h, fun a o xs h => by rw [upd_ne (ne_of_none h hp)]; exact h⟩
theorem MRep.ext {a : Addr} {o : MO} (m : MRep K μ H a o) (e : Ext μ H μ' H') (h : H' a = H a) : MRep K μ' H' a o := by
  cases o with
  | lst ds => obtain ⟨vs, q, r⟩ := m; exact ⟨vs, h.trans q, r.ext e⟩
  | dK ds => obtain ⟨vs, q, r⟩ := m; exact ⟨vs, h.trans q, r.ext e⟩
  | dF ds => obtain ⟨o, vs, q, r⟩ := m; exact ⟨o, vs, h.trans q, r.ext e⟩
theorem HRel.new {p : Addr} {o : HO} (r : HRel K μ H hd) (hp : H p = none) : HRel K μ (upd H p o) hd := ⟨r.len, r.nd, fun n a m h1 h2 => by
  have ne : a ≠ p := fun e => r.fresh hp (n := n) (by rw [h1, e])
  exact (r.obj n a m h1 h2).ext (Ext.new hp) (upd_ne ne)⟩
/-- .. and is given the next number -/
theorem Ext.laid {p : Addr} {o : HO} (hp : H p = none) : Ext μ H (μ ++ [p]) (upd H p o) :=
  ⟨fun n a h => by rw [List.getElem?_append_left (List.getElem?_eq_some_iff.mp h).1]; exact h, (Ext.new (μ := μ) hp).tups, (Ext.new (μ := μ) hp).frzs, (Ext.new (μ := μ) hp).frzt⟩
theorem HRel.laid {p : Addr} {o : HO} {m : MO} (r : HRel K μ H hd) (hp : H p = none) (q : MRep K (μ ++ [p]) (upd H p o) p m) : HRel K (μ ++ [p]) (upd H p o) (hd ++ [m]) := by
  have split : ∀ (n : Nat) (a : Addr), (μ ++ [p])[n]? = some a → (μ[n]? = some a ∧ n < hd.length) ∨ (n = hd.length ∧ a = p) := fun n a h => by
    rcases Nat.lt_or_ge n μ.length with z | z
    · rw [List.getElem?_append_left z] at h
      exact .inl ⟨h, by rw [← r.len]; exact z⟩
    · rw [List.getElem?_append_right z] at h
      rcases Nat.lt_or_ge (n - μ.length) 1 with y | y
      · have e : n = μ.length := by omega
        subst e
        simp at h
        exact .inr ⟨r.len, h.symm⟩
      · rw [List.getElem?_eq_none (by simpa using y)] at h; cases h
  refine ⟨by simp [r.len], fun n k a h1 h2 => ?_, fun n a o h1 h2 => ?_⟩
  · rcases split n a h1 with ⟨x, _⟩ | ⟨x, rfl⟩
    · rcases split k a h2 with ⟨y, _⟩ | ⟨y, rfl⟩
      · exact r.nd n k a x y
      · exact (r.fresh hp x).elim
    · rcases split k _ h2 with ⟨y, _⟩ | ⟨y, _⟩
      · exact (r.fresh hp y).elim
      · rw [x, y]
  · rcases split n a h1 with ⟨x, hl⟩ | ⟨x, rfl⟩
    · rw [List.getElem?_append_left hl] at h2
      have ne : a ≠ p := fun e => r.fresh hp (n := n) (by rw [x, e])
      exact (r.obj n a o x h2).ext (Ext.laid hp) (upd_ne ne)
    · subst x
      rw [List.getElem?_append_right (Nat.le_refl _)] at h2
      simp at h2
      subst h2
      exact q
/-- the n-th thing is written -/
theorem Ext.write {a : Addr} {o u : HO} (h : H a = some u) (hu : Mut (some u)) : Ext μ H μ (upd H a o) := by
  have ne : ∀ b z, H b = some z → ¬ Mut (some z) → b ≠ a := fun b z q nm e => by subst e; rw [h] at q; cases q; exact nm hu
  exact ⟨fun _ _ h => h, fun b xs q => by rw [upd_ne (ne b _ q (fun z => z))]; exact q, fun b o xs q => by rw [upd_ne (ne b _ q (fun z => z))]; exact q, fun b o xs q => by rw [upd_ne (ne b _ q (fun z => z))]; exact q⟩
theorem HRel.write {n : Nat} {a : Addr} {o u : HO} {m : MO} (r : HRel K μ H hd) (hn : μ[n]? = some a) (h : H a = some u) (hu : Mut (some u)) (q : MRep K μ (upd H a o) a m) : HRel K μ (upd H a o) (hd.set n m) := by
  refine ⟨by simp [r.len], r.nd, fun k b z h1 h2 => ?_⟩
  by_cases hk : n = k
  · subst hk
    rw [hn] at h1; cases h1
    have hl : n < hd.length := by rw [← r.len]; exact (List.getElem?_eq_some_iff.mp hn).1
    rw [List.getElem?_set_self hl] at h2
    cases h2
    exact q
  · rw [List.getElem?_set_ne hk] at h2
    have ne : b ≠ a := fun e => hk (r.nd n k a hn (by rw [h1, e]))
    exact (r.obj k b z h1 h2).ext (Ext.write h hu) (upd_ne ne)
end
end DL

namespace DL
open PySem PySem.Spec PyProof.Rows L2

/-! ### readings of what is reckoned over data -/
abbrev XW := Value → Option Addr → L2.St → Hp → Prop
def W0 : XW := fun _ _ _ _ => False
inductive FRep (K : PySem.W.Frag) (μ : List Addr) (H : Hp) : List (Str × V) → List (Str × D) → Prop
  | nil : FRep K μ H [] []
  | cons {k : Str} {v : V} {d : D} {kvs : List (Str × V)} {kds : List (Str × D)} : Rep K μ H v d → FRep K μ H kvs kds → FRep K μ H ((k, v) :: kvs) ((k, d) :: kds)
def XRel (K : PySem.W.Frag) (μ : List Addr) (H : Hp) (x : XD) (o : Option Addr) : Prop :=
  match x.fs, o with
  | none, none => True
  | some fs, some a => ∃ vs, H a = some (.xd vs) ∧ FRep K μ H vs fs
  | _, _ => False
def FinG {A B : Type} (R : List Addr → Hp → A → B → Prop) (K : PySem.W.Frag) (W : XW) (μ : List Addr) (H : Hp) (σ : L2.St) (r : Res B) (Q : A → Hp → Prop) : Prop :=
  match r with
  | .ok d hd' => ∀ (μ' : List Addr) (H' : Hp) (v : A), Ext μ H μ' H' → HRel K μ' H' hd' → R μ' H' v d → Q v H'
  | .exc x hd' => ∀ (μ' : List Addr) (H' : Hp) (o : Option Addr), Ext μ H μ' H' → HRel K μ' H' hd' → XRel K μ' H' x o → W x.cls o σ H'
  | .bad => False
abbrev RD (K : PySem.W.Frag) : List Addr → Hp → V → D → Prop := fun μ H v d => Rep K μ H v d
abbrev RA (K : PySem.W.Frag) : List Addr → Hp → List V → List D → Prop := fun μ H v d => RepAll K μ H v d
abbrev RB : List Addr → Hp → Bool → Bool → Prop := fun _ _ v d => v = d
def TG' {A B : Type} (R : List Addr → Hp → A → B → Prop) (K : PySem.W.Frag) (W : XW) (m : Sl → M B) (σ : L2.St) (H : Hp) (Q : A → Hp → Prop) : Prop :=
  ∃ (μ : List Addr) (s : Sl) (hd : Hd), SRel K μ H σ s ∧ HRel K μ H hd ∧ FinG R K W μ H σ (m s hd) Q
def TEof (K : PySem.W.Frag) (W : XW) (m : EM) : TE := TG' (RD K) K W m
def TTof (K : PySem.W.Frag) (W : XW) (m : TM) : TT := TG' RB K W m
def TAof (K : PySem.W.Frag) (W : XW) (m : AM) : TA := TG' (RA K) K W m
def FinS (K : PySem.W.Frag) (W : XW) (μ : List Addr) (H : Hp) (r : SR) (D : Ends) : Prop :=
  match r with
  | .nx s' hd' => ∀ (μ' : List Addr) (H' : Hp) (σ' : L2.St), Ext μ H μ' H' → HRel K μ' H' hd' → SRel K μ' H' σ' s' → D.nx σ' H'
  | .rt d hd' => ∀ (μ' : List Addr) (H' : Hp) (v : V), Ext μ H μ' H' → HRel K μ' H' hd' → Rep K μ' H' v d → D.rt v H'
  | .exc x s' hd' => ∀ (μ' : List Addr) (H' : Hp) (σ' : L2.St) (o : Option Addr), Ext μ H μ' H' → HRel K μ' H' hd' → SRel K μ' H' σ' s' → XRel K μ' H' x o → W x.cls o σ' H'
  | .bad => False
def TSof (K : PySem.W.Frag) (W : XW) (m : SM) : TS := fun D σ H => ∃ (μ : List Addr) (s : Sl) (hd : Hd), SRel K μ H σ s ∧ HRel K μ H hd ∧ FinS K W μ H (m s hd) D

structure DE (X : Cx) (W : XW) (e : Expr) (m : EM) : Prop where
  pe : PE X e (TEof X.K W m)
structure DT (X : Cx) (W : XW) (e : Expr) (m : TM) : Prop where
  pt : PT X e (TTof X.K W m)
structure DW (X : Cx) (W : XW) (e : Expr) (m : TM) : Prop where
  pw : PW X e (TTof X.K W m)
structure DA (X : Cx) (W : XW) (es : List Expr) (m : AM) : Prop where
  pa : PA X es (TAof X.K W m)
structure DS (X : Cx) (W : XW) (st : Stmt) (m : SM) : Prop where
  ps : PS X st (TSof X.K W m)
structure DSs (X : Cx) (W : XW) (st : List Stmt) (m : SM) : Prop where
  ps : PSs X st (TSof X.K W m)

section
variable {A B A' B' : Type} {R : List Addr → Hp → A → B → Prop} {R' : List Addr → Hp → A' → B' → Prop} {K : PySem.W.Frag} {W : XW} {μ μ' : List Addr} {H H' : Hp} {σ : L2.St} {r : Res B} {Q Q' : A → Hp → Prop}
theorem FinG.base (f : FinG R K W μ H σ r Q) (e : Ext μ H μ' H') : FinG R K W μ' H' σ r Q := by
  cases r with
  | ok d h => exact fun μ2 H2 v e2 hr rv => f μ2 H2 v (e.trans e2) hr rv
  | exc x h => exact fun μ2 H2 v e2 hr rv => f μ2 H2 v (e.trans e2) hr rv
  | bad => exact f
theorem FinG.imp (f : FinG R K W μ H σ r Q) (h : ∀ v H', Q v H' → Q' v H') : FinG R K W μ H σ r Q' := by
  cases r with
  | ok d h' => exact fun μ2 H2 v e2 hr rv => h _ _ (f μ2 H2 v e2 hr rv)
  | exc x h' => exact f
  | bad => exact f
/-- one part, then the rest -/
theorem FinG.bind {k : B → Hd → Res B'} {Q : A' → Hp → Prop} (f : FinG R' K W μ H σ (r.bind k) Q) :
    FinG R K W μ H σ r fun v H1 => ∃ μ1 hd1 d, Ext μ H μ1 H1 ∧ HRel K μ1 H1 hd1 ∧ R μ1 H1 v d ∧ FinG R' K W μ1 H1 σ (k d hd1) Q := by
  cases r with
  | ok d h => exact fun μ2 H2 v e2 hr rv => ⟨μ2, h, d, e2, hr, rv, FinG.base (r := k d h) f e2⟩
  | exc x h => exact f
  | bad => exact f
theorem FinG.ok {d : B} {hd : Hd} {v : A} (f : FinG R K W μ H σ (.ok d hd) Q) (h : HRel K μ H hd) (r : R μ H v d) : Q v H := f μ H v .refl h r
end
theorem FinS.base {K : PySem.W.Frag} {W : XW} {μ μ' : List Addr} {H H' : Hp} {r : SR} {D : Ends} (f : FinS K W μ H r D) (e : Ext μ H μ' H') : FinS K W μ' H' r D := by
  cases r with
  | nx s h => exact fun μ2 H2 v e2 hr rv => f μ2 H2 v (e.trans e2) hr rv
  | rt d h => exact fun μ2 H2 v e2 hr rv => f μ2 H2 v (e.trans e2) hr rv
  | exc x s h => exact fun μ2 H2 v o e2 hr rv => f μ2 H2 v o (e.trans e2) hr rv
  | bad => exact f

/-! ### weakening -/
theorem PE.imp {X : Cx} {e : Expr} {t t' : TE} (h : PE X e t) (i : ∀ σ H Q, t' σ H Q → t σ H Q) : PE X e t' := ⟨fun pins s σ H Q I q => h.run pins s σ H Q I (i _ _ _ q)⟩
theorem PT.imp {X : Cx} {e : Expr} {t t' : TT} (h : PT X e t) (i : ∀ σ H Q, t' σ H Q → t σ H Q) : PT X e t' := ⟨fun pins s σ H Q I q => h.run pins s σ H Q I (i _ _ _ q)⟩
theorem PW.imp {X : Cx} {e : Expr} {t t' : TT} (h : PW X e t) (i : ∀ σ H Q, t' σ H Q → t σ H Q) : PW X e t' := ⟨fun w pins s σ H Q I q => h.run w pins s σ H Q I (i _ _ _ q)⟩
theorem PA.imp {X : Cx} {e : List Expr} {t t' : TA} (h : PA X e t) (i : ∀ σ H Q, t' σ H Q → t σ H Q) : PA X e t' := ⟨fun p pins s σ H Q I q => h.run p pins s σ H Q I (i _ _ _ q)⟩
theorem PS.imp {X : Cx} {e : Stmt} {t t' : TS} (h : PS X e t) (i : ∀ D σ H, t' D σ H → t D σ H) : PS X e t' := ⟨fun pins s σ H D I q => h.run pins s σ H D I (i _ _ _ q)⟩
theorem PSs.imp {X : Cx} {e : List Stmt} {t t' : TS} (h : PSs X e t) (i : ∀ D σ H, t' D σ H → t D σ H) : PSs X e t' := ⟨fun pins s σ H D I q => h.run pins s σ H D I (i _ _ _ q)⟩

/-! ### expressions -/
def eV (i : Nat) : EM := fun s h => match s[i]? with
  | some (some d) => .ok d h
  | _ => .bad
def eC (d : D) : EM := fun _ h => .ok d h
def e1 (g : D → M D) (a : EM) : EM := fun s h => (a s h).bind g
def e2 (g : D → D → M D) (a b : EM) : EM := fun s h => (a s h).bind fun x h1 => (b s h1).bind fun y h2 => g x y h2
def asB (d : D) : M Bool := fun h => match d with
  | .bl b => .ok b h
  | _ => .bad
def tB' (a : EM) : TM := fun s h => (a s h).bind asB
def tAnd' (a b : TM) : TM := fun s h => (a s h).bind fun c h1 => if c = true then b s h1 else .ok false h1
def tOr' (a b : TM) : TM := fun s h => (a s h).bind fun c h1 => if c = true then .ok true h1 else b s h1
def tNot' (a : TM) : TM := fun s h => (a s h).bind fun c h1 => .ok (!c) h1
def eAnd (a b : EM) : EM := fun s h => (a s h).bind fun x h1 => (asB x h1).bind fun c h1 => if c = true then b s h1 else .ok (.bl false) h1
def eOr (a b : EM) : EM := fun s h => (a s h).bind fun x h1 => (asB x h1).bind fun c h1 => if c = true then .ok (.bl true) h1 else b s h1
def eNot (a : EM) : EM := fun s h => (a s h).bind fun x h1 => (asB x h1).bind fun c h1 => .ok (.bl (!c)) h1
def eIf (t : TM) (a b : EM) : EM := fun s h => (t s h).bind fun c h1 => if c = true then a s h1 else b s h1
def aN : AM := fun _ h => .ok [] h
def aC (a : EM) (r : AM) : AM := fun s h => (a s h).bind fun x h1 => (r s h1).bind fun xs h2 => .ok (x :: xs) h2
def eA (g : List D → M D) (a : AM) : EM := fun s h => (a s h).bind g
def mkT (ds : List D) : M D := fun h => if ds.length ≤ sizeLine then .ok (.tup ds) h else .bad
def mkL (ds : List D) : M D := fun h => if ds.length ≤ sizeLine then .ok (.ref h.length) (h ++ [.lst ds]) else .bad

section
variable {X : Cx} {W : XW} {a b : Expr} {ma mb : EM} {pos : Pos}
theorem de_var (i : Nat) {x : Str} (hN : X.N[i]? = some x := by rfl) (hv : Vis X.env.scope x := by first | exact Or.inl rfl | exact Or.inr (Or.inl rfl) | exact Or.inr (Or.inr rfl)) (hd : (x == ("__debug__" : Str)) = false := by decide)
    (hcd : (x == ("__classdict__" : Str)) = false := by decide) : DE X W (.Name x pos) (eV i) := ⟨PE.imp (pe_var hN hv hd hcd) fun σ H Q ⟨μ, s, hd, sr, hr, f⟩ => by
  unfold eV at f
  split at f
  · rename_i d e
    obtain ⟨v, e1, rv⟩ := sr.2 i d e
    exact ⟨v, e1, f.ok hr rv⟩
  · exact f.elim⟩
theorem de_c {e : Expr} {v : V} {d : D} (h : PE X e (tC v)) (r : ∀ μ H, Rep X.K μ H v d) : DE X W e (eC d) := ⟨PE.imp h fun σ H Q ⟨μ, s, hd, sr, hr, f⟩ => FinG.ok f hr (r μ H)⟩
theorem de_int {i j} : DE X W (.Constant (.int i) j pos) (eC (.int i)) := de_c pe_int fun _ _ => .int i
theorem de_bl {i j} : DE X W (.Constant (.bool i) j pos) (eC (.bl i)) := de_c pe_bl fun _ _ => .bl i
theorem de_str {i j} : DE X W (.Constant (.str i) j pos) (eC (.str i)) := de_c pe_str fun _ _ => .str i
theorem de_non {j} : DE X W (.Constant .none j pos) (eC .non) := de_c pe_non fun _ _ => .non
/-- a two-place operation by values -/
def Lift2 (K : PySem.W.Frag) (r : R2) (g : D → D → M D) : Prop := ∀ (μ : List Addr) (H : Hp) (hd : Hd) (x y : V) (dx dy : D) (W : XW) (σ : L2.St) (Q : VK), HRel K μ H hd → Rep K μ H x dx → Rep K μ H y dy → FinG (RD K) K W μ H σ (g dx dy hd) Q → r x y H Q
theorem de_2' {e : Expr} {r : R2} {g : D → D → M D} (l : Lift2 X.K r g) (ha : DE X W a ma) (hb : DE X W b mb) (h : PE X e (tOp r (TEof X.K W ma) (TEof X.K W mb))) : DE X W e (e2 g ma mb) := ⟨PE.imp h fun σ H Q ⟨μ, s, hd, sr, hr, f⟩ => by
  refine ⟨μ, s, hd, sr, hr, (FinG.bind f).imp ?_⟩
  rintro x H1 ⟨μ1, hd1, dx, e1, hr1, rx, f1⟩
  refine ⟨μ1, s, hd1, sr.ext e1, hr1, (FinG.bind f1).imp ?_⟩
  rintro y H2 ⟨μ2, hd2, dy, e2, hr2, ry, f2⟩
  exact l μ2 H2 hd2 x y dx dy W σ Q hr2 (rx.ext e2) ry f2⟩
theorem de_op {op : Operator} {r : R2} {g : D → D → M D} (o : OpR X (binaryOp op) r) (l : Lift2 X.K r g) (ha : DE X W a ma) (hb : DE X W b mb) : DE X W (.BinOp a op b pos) (e2 g ma mb) := de_2' l ha hb (pe_op o ha.pe hb.pe)
theorem de_cmp {op : CmpOp} {r : R2} {g : D → D → M D} (o : OpR X (compareOp op) r) (l : Lift2 X.K r g) (ha : DE X W a ma) (hb : DE X W b mb) (hm : behindInMarks op b = false := by first | exact nobehind _ (by decide) (by decide) | rfl) : DE X W (.Compare a [op] [b] pos) (e2 g ma mb) := de_2' l ha hb (pe_cmpR o ha.pe hb.pe hm)
theorem de_ix {r : R2} {g : D → D → M D} (o : IxR X r) (l : Lift2 X.K r g) (ha : DE X W a ma) (hb : DE X W b mb) (hs : PlainIx b := by exact fun _ _ => rfl) : DE X W (.Subscript a b pos) (e2 g ma mb) := de_2' l ha hb (pe_ix o ha.pe hb.pe hs)
def Lift1 (K : PySem.W.Frag) (r : V → Hp → VK → Prop) (g : D → M D) : Prop := ∀ (μ : List Addr) (H : Hp) (hd : Hd) (x : V) (dx : D) (W : XW) (σ : L2.St) (Q : VK), HRel K μ H hd → Rep K μ H x dx → FinG (RD K) K W μ H σ (g dx hd) Q → r x H Q
theorem de_1' {e : Expr} {r : V → Hp → VK → Prop} {g : D → M D} (l : Lift1 X.K r g) (ha : DE X W a ma) (h : PE X e (tUn r (TEof X.K W ma))) : DE X W e (e1 g ma) := ⟨PE.imp h fun σ H Q ⟨μ, s, hd, sr, hr, f⟩ => by
  refine ⟨μ, s, hd, sr, hr, (FinG.bind f).imp ?_⟩
  rintro x H1 ⟨μ1, hd1, dx, e1, hr1, rx, f1⟩
  exact l μ1 H1 hd1 x dx W σ Q hr1 rx f1⟩
theorem de_un {op : UnaryOp} {r : V → Hp → VK → Prop} {g : D → M D} (o : UnR X (unaryOp op) r) (l : Lift1 X.K r g) (ha : DE X W a ma) : DE X W (.UnaryOp op a pos) (e1 g ma) := de_1' l ha (pe_un o ha.pe)
/-! tests -/
theorem tof_B {σ : L2.St} {H : Hp} {Q : Bool → Hp → Prop} (h : TTof X.K W (tB' ma) σ H Q) : TEof X.K W ma σ H fun x H' => ∃ k, x = .bl k ∧ Q k H' := by
  obtain ⟨μ, s, hd, sr, hr, f⟩ := h
  refine ⟨μ, s, hd, sr, hr, (FinG.bind f).imp ?_⟩
  rintro x H1 ⟨μ1, hd1, dx, e1, hr1, rx, f1⟩
  cases rx with
  | bl k => exact ⟨k, rfl, f1.ok hr1 rfl⟩
  | _ => exact f1.elim
theorem dt_val {e : Expr} {m : EM} (h : DE X W e m) (he : ∀ whole, isTrue e X.env whole = (do let v ← whole; standAt e.pos; holding [v] (truthy v)) := by intro _; rfl) : DT X W e (tB' m) := ⟨PT.imp (pt_val h.pe he) fun σ H Q q => tof_B q⟩
theorem dt_cmp {op : CmpOp} {r : R2} {g : D → D → M D} (o : OpR X (compareOp op) r) (l : Lift2 X.K r g) (ha : DE X W a ma) (hb : DE X W b mb) (hm : behindInMarks op b = false := by first | exact nobehind _ (by decide) (by decide) | rfl) : DT X W (.Compare a [op] [b] pos) (tB' (e2 g ma mb)) := ⟨PT.imp (pt_cmpR o ha.pe hb.pe hm) fun σ H Q h => by
  obtain ⟨μ, s, hd, sr, hr, f⟩ := h
  have f' := FinG.bind (R := RD X.K) (k := asB) f
  refine ⟨μ, s, hd, sr, hr, (FinG.bind f').imp ?_⟩
  rintro x H1 ⟨μ1, hd1, dx, e1, hr1, rx, f1⟩
  refine ⟨μ1, s, hd1, sr.ext e1, hr1, (FinG.bind f1).imp ?_⟩
  rintro y H2 ⟨μ2, hd2, dy, e2, hr2, ry, f2⟩
  refine l μ2 H2 hd2 x y dx dy W σ _ hr2 (rx.ext e2) ry (f2.imp ?_)
  rintro z H3 ⟨μ3, hd3, dz, e3, hr3, rz, f3⟩
  cases rz with
  | bl k => exact ⟨k, rfl, f3.ok hr3 rfl⟩
  | _ => exact f3.elim⟩
variable {ta tb : TM} {rest : List Expr}
theorem dw_and1 (h : DT X W a ta) : DW X W (.BoolOp .And [a] pos) ta := ⟨pw_and1 h.pt⟩
theorem dw_or1 (h : DT X W a ta) : DW X W (.BoolOp .Or [a] pos) ta := ⟨pw_or1 h.pt⟩
theorem dw_and (h : DT X W a ta) (q : DW X W (.BoolOp .And (b :: rest) pos) tb) : DW X W (.BoolOp .And (a :: b :: rest) pos) (tAnd' ta tb) := ⟨PW.imp (pw_and h.pt q.pw) fun σ H Q ⟨μ, s, hd, sr, hr, f⟩ => by
  refine ⟨μ, s, hd, sr, hr, (FinG.bind f).imp ?_⟩
  rintro x H1 ⟨μ1, hd1, dx, e1, hr1, rfl, f1⟩
  cases x with
  | true => exact ⟨μ1, s, hd1, sr.ext e1, hr1, f1⟩
  | false => exact FinG.ok f1 hr1 rfl⟩
theorem dw_or (h : DT X W a ta) (q : DW X W (.BoolOp .Or (b :: rest) pos) tb) : DW X W (.BoolOp .Or (a :: b :: rest) pos) (tOr' ta tb) := ⟨PW.imp (pw_or h.pt q.pw) fun σ H Q ⟨μ, s, hd, sr, hr, f⟩ => by
  refine ⟨μ, s, hd, sr, hr, (FinG.bind f).imp ?_⟩
  rintro x H1 ⟨μ1, hd1, dx, e1, hr1, rfl, f1⟩
  cases x with
  | false => exact ⟨μ1, s, hd1, sr.ext e1, hr1, f1⟩
  | true => exact FinG.ok f1 hr1 rfl⟩
theorem dt_w {e : Expr} {t : TM} (h : DW X W e t) : DT X W e t := ⟨h.pw.pt⟩
theorem dt_not (h : DT X W a ta) : DT X W (.UnaryOp .Not a pos) (tNot' ta) := ⟨PT.imp (pt_not h.pt) fun σ H Q ⟨μ, s, hd, sr, hr, f⟩ => by
  refine ⟨μ, s, hd, sr, hr, (FinG.bind f).imp ?_⟩
  rintro x H1 ⟨μ1, hd1, dx, e1, hr1, rfl, f1⟩
  exact FinG.ok f1 hr1 rfl⟩
/-! bools as values -/
theorem de_one {op} (h : DE X W a ma) : DE X W (.BoolOp op [a] pos) ma := ⟨pe_one h.pe⟩
theorem de_and (h : DE X W a ma) (q : DE X W (.BoolOp .And (b :: rest) pos) mb) : DE X W (.BoolOp .And (a :: b :: rest) pos) (eAnd ma mb) := ⟨PE.imp (pe_and h.pe q.pe) fun σ H Q ⟨μ, s, hd, sr, hr, f⟩ => by
  refine ⟨μ, s, hd, sr, hr, (FinG.bind f).imp ?_⟩
  rintro x H1 ⟨μ1, hd1, dx, e1, hr1, rx, f1⟩
  cases rx with
  | bl k =>
    refine ⟨k, rfl, ?_⟩
    cases k with
    | true => exact ⟨μ1, s, hd1, sr.ext e1, hr1, f1⟩
    | false => exact FinG.ok (R := RD X.K) f1 hr1 (.bl false)
  | _ => exact f1.elim⟩
theorem de_or (h : DE X W a ma) (q : DE X W (.BoolOp .Or (b :: rest) pos) mb) : DE X W (.BoolOp .Or (a :: b :: rest) pos) (eOr ma mb) := ⟨PE.imp (pe_or h.pe q.pe) fun σ H Q ⟨μ, s, hd, sr, hr, f⟩ => by
  refine ⟨μ, s, hd, sr, hr, (FinG.bind f).imp ?_⟩
  rintro x H1 ⟨μ1, hd1, dx, e1, hr1, rx, f1⟩
  cases rx with
  | bl k =>
    refine ⟨k, rfl, ?_⟩
    cases k with
    | false => exact ⟨μ1, s, hd1, sr.ext e1, hr1, f1⟩
    | true => exact FinG.ok (R := RD X.K) f1 hr1 (.bl true)
  | _ => exact f1.elim⟩
theorem de_not (h : DE X W a ma) : DE X W (.UnaryOp .Not a pos) (eNot ma) := ⟨PE.imp (pe_not h.pe) fun σ H Q ⟨μ, s, hd, sr, hr, f⟩ => by
  refine ⟨μ, s, hd, sr, hr, (FinG.bind f).imp ?_⟩
  rintro x H1 ⟨μ1, hd1, dx, e1, hr1, rx, f1⟩
  cases rx with
  | bl k => exact ⟨k, rfl, FinG.ok (R := RD X.K) f1 hr1 (.bl _)⟩
  | _ => exact f1.elim⟩
theorem de_if {c : Expr} (hc : DT X W c ta) (ha : DE X W a ma) (hb : DE X W b mb) : DE X W (.IfExp c a b pos) (eIf ta ma mb) := ⟨PE.imp (pe_ifExp hc.pt ha.pe hb.pe) fun σ H Q ⟨μ, s, hd, sr, hr, f⟩ => by
  refine ⟨μ, s, hd, sr, hr, (FinG.bind f).imp ?_⟩
  rintro x H1 ⟨μ1, hd1, dx, e1, hr1, rfl, f1⟩
  cases x with
  | true => exact ⟨μ1, s, hd1, sr.ext e1, hr1, f1⟩
  | false => exact ⟨μ1, s, hd1, sr.ext e1, hr1, f1⟩⟩
/-! arguments, displays, calls -/
variable {es : List Expr} {mr : AM}
theorem da_nil : DA X W [] aN := ⟨PA.imp pa_nil fun σ H Q ⟨μ, s, hd, sr, hr, f⟩ => FinG.ok (R := RA X.K) f hr .nil⟩
theorem da_cons (ha : DE X W a ma) (hr : DA X W es mr) (hs : starEach (a :: es) X.env = (false, eval a X.env) :: starEach es X.env := by rfl) : DA X W (a :: es) (aC ma mr) := ⟨PA.imp (pa_cons ha.pe hr.pa hs) fun σ H Q ⟨μ, s, hd, sr, hr, f⟩ => by
  refine ⟨μ, s, hd, sr, hr, (FinG.bind f).imp ?_⟩
  rintro x H1 ⟨μ1, hd1, dx, e1, hr1, rx, f1⟩
  refine ⟨μ1, s, hd1, sr.ext e1, hr1, (FinG.bind f1).imp ?_⟩
  rintro y H2 ⟨μ2, hd2, dy, e2, hr2, ry, f2⟩
  exact FinG.ok (R := RA X.K) f2 hr2 (.cons (rx.ext e2) ry)⟩
def LiftN (K : PySem.W.Frag) (r : List V → Hp → VK → Prop) (g : List D → M D) : Prop := ∀ (μ : List Addr) (H : Hp) (hd : Hd) (xs : List V) (dx : List D) (W : XW) (σ : L2.St) (Q : VK), HRel K μ H hd → RepAll K μ H xs dx → FinG (RD K) K W μ H σ (g dx hd) Q → r xs H Q
theorem de_A {e : Expr} {r : List V → Hp → VK → Prop} {g : List D → M D} (l : LiftN X.K r g) (h : PE X e fun σ H Q => TAof X.K W mr σ H fun vs H1 => r vs H1 Q) : DE X W e (eA g mr) := ⟨PE.imp h fun σ H Q ⟨μ, s, hd, sr, hr, f⟩ => by
  refine ⟨μ, s, hd, sr, hr, (FinG.bind f).imp ?_⟩
  rintro x H1 ⟨μ1, hd1, dx, e1, hr1, rx, f1⟩
  exact l μ1 H1 hd1 x dx W σ Q hr1 rx f1⟩
theorem lift_mkT {K : PySem.W.Frag} : LiftN K (fun xs H Q => xs.length ≤ sizeLine ∧ ∀ p, H p = none → Q (.ref p) (upd H p (.tup xs))) mkT := fun μ H hd xs dx W σ Q hr rx f => by
  unfold mkT at f
  split at f
  · rename_i hl
    exact ⟨by rw [rx.length]; exact hl, fun p hp => f μ _ _ (Ext.new hp) (hr.new hp) (.tup (.inl (.inl upd_same)) (rx.ext (Ext.new hp)))⟩
  · exact f.elim
theorem lift_mkL {K : PySem.W.Frag} : LiftN K (fun xs H Q => xs.length ≤ sizeLine ∧ ∀ p, H p = none → Q (.ref p) (upd H p (.lst xs))) mkL := fun μ H hd xs dx W σ Q hr rx f => by
  unfold mkL at f
  split at f
  · rename_i hl
    refine ⟨by rw [rx.length]; exact hl, fun p hp => f (μ ++ [p]) _ _ (Ext.laid hp) (hr.laid hp ⟨xs, upd_same, rx.ext (Ext.laid hp)⟩) (.ref ?_)⟩
    rw [← hr.len, List.getElem?_append_right (Nat.le_refl _)]
    simp
  · exact f.elim
theorem de_tup {k : Nat} (h : DA X W es mr) : DE X W (.Tuple es k pos) (eA mkT mr) := de_A lift_mkT (pe_tup h.pa)
theorem de_lst (h : DA X W es mr) : DE X W (.List es pos) (eA mkL mr) := de_A lift_mkL (pe_lst h.pa)
theorem de_bt {id : String} {r : List V → Hp → VK → Prop} {g : List D → M D} {x : Str} {e : Expr} {p : Pos} (hc : CallR X (.builtin id) r) (l : LiftN X.K r g) (hm : X.mg x = none) (ha : DA X W (e :: es) mr) (hg : Gl X x := by rfl) (hv : bootBuiltins x = some (.builtin id) := by decide +kernel) (hn : x ≠ "__name__" := by decide) (hdb : (x == ("__debug__" : Str)) = false := by decide)
    (he : starEach (e :: es) X.env = (false, eval e X.env) :: starEach es X.env := by rfl) (hpl : (backTo pos (starEach es X.env)).any (·.1) = false := by rfl) : DE X W (.Call (.Name x p) (e :: es) [] pos) (eA g mr) := de_A l (pe_callB hc hg hm hv ha.pa hn hdb he hpl)
theorem de_ty {T : String} {r : List V → Hp → VK → Prop} {g : List D → M D} {x : Str} {e : Expr} {p : Pos} (hc : CallR X (.type T) r) (l : LiftN X.K r g) (hm : X.mg x = none) (ha : DA X W (e :: es) mr) (hg : Gl X x := by rfl) (hv : bootBuiltins x = some (.type T) := by decide +kernel) (hn : x ≠ "__name__" := by decide) (hdb : (x == ("__debug__" : Str)) = false := by decide)
    (he : starEach (e :: es) X.env = (false, eval e X.env) :: starEach es X.env := by rfl) (hpl : (backTo pos (starEach es X.env)).any (·.1) = false := by rfl) : DE X W (.Call (.Name x p) (e :: es) [] pos) (eA g mr) := de_A l (pe_callTy hc hg hm hv ha.pa hn hdb he hpl)
/-- a def's promise over data -/
def spD (K : PySem.W.Frag) (n : Nat) (F : List D → M D) : Sp := fun vs H Q E => ∃ (μ : List Addr) (hd : Hd) (ds : List D), HRel K μ H hd ∧ RepAll K μ H vs ds ∧ ds.length = n ∧ FinG (RD K) K (fun c o _ H' => E c o H') μ H [] (F ds hd) Q
def eF (n : Nat) (F : List D → M D) : List D → M D := fun ds h => if ds.length = n then F ds h else .bad
theorem FinG.w0 {A B : Type} {R : List Addr → Hp → A → B → Prop} {K : PySem.W.Frag} {μ : List Addr} {H : Hp} {σ σ' : L2.St} {r : Res B} {Q : A → Hp → Prop} (f : FinG R K W0 μ H σ r Q) : FinG R K (fun c o _ H' => E0 c o H') μ H σ' r Q := by
  cases r with
  | ok d h => exact f
  | exc x h => exact f
  | bad => exact f
theorem de_call {n k : Nat} {F : List D → M D} {f : Addr} {fd : FuncData} {ps : List Str} {x : Str} {e : Expr} {p : Pos} (G : FnOk X.prog X.w X.K X.mg X.base CX0 k f fd ps (spD X.K n F)) (hr : Room k X.A) (hm : X.mg x = some (.ref f)) (hk : PySem.W.keepIn X.K (.ref f) = true) (hb : Binds X.K fd ps []) (ha : DA X W0 (e :: es) mr)
    (hg : Gl X x := by rfl) (hdb : (x == ("__debug__" : Str)) = false := by decide) (he : starEach (e :: es) X.env = (false, eval e X.env) :: starEach es X.env := by rfl) (hpl : (backTo pos (starEach es X.env)).any (·.1) = false := by rfl) : DE X W0 (.Call (.Name x p) (e :: es) [] pos) (eA (eF n F) mr) :=
  ⟨PE.imp (pe_call G hr hg hm hk hb .nil pass0 ha.pa hdb he hpl) fun σ H Q ⟨μ, s, hd, sr, hr, f⟩ => by
  refine ⟨μ, s, hd, sr, hr, (FinG.bind f).imp ?_⟩
  rintro vs H1 ⟨μ1, hd1, dx, e1, hr1, rx, f1⟩
  unfold eF at f1
  split at f1
  · rename_i hl
    exact ⟨μ1, hd1, dx, hr1, by rw [List.append_nil]; exact rx, hl, f1.w0⟩
  · exact f1.elim⟩
end
end DL

namespace DL
open PySem PySem.Spec PyProof.Rows L2

/-! ### statements -/
abbrev GM := D → Sl → Hd → Res Sl
abbrev GMs := List D → Sl → Hd → Res Sl
abbrev RS (K : PySem.W.Frag) : List Addr → Hp → L2.St → Sl → Prop := fun μ H σ s => SRel K μ H σ s
def Res.thenS {B : Type} (r : Res B) (s : Sl) (k : B → Hd → SR) : SR := match r with
  | .ok d h => k d h
  | .exc x h => .exc x s h
  | .bad => .bad
def TGof (K : PySem.W.Frag) (g : GM) : TG := fun v σ H Q => ∃ (μ : List Addr) (s : Sl) (hd : Hd) (d : D), SRel K μ H σ s ∧ HRel K μ H hd ∧ Rep K μ H v d ∧ FinG (RS K) K W0 μ H σ (g d s hd) Q
def TGsof (K : PySem.W.Frag) (g : GMs) : TGs := fun v σ H Q => ∃ (μ : List Addr) (s : Sl) (hd : Hd) (d : List D), SRel K μ H σ s ∧ HRel K μ H hd ∧ RepAll K μ H v d ∧ FinG (RS K) K W0 μ H σ (g d s hd) Q
structure DG (X : Cx) (e : Expr) (m : GM) : Prop where
  pg : PG X e (TGof X.K m)
structure DGs (X : Cx) (e : List Expr) (m : GMs) : Prop where
  pg : PGs X e (TGsof X.K m)
theorem PG.imp {X : Cx} {e : Expr} {t t' : TG} (h : PG X e t) (i : ∀ v σ H Q, t' v σ H Q → t v σ H Q) : PG X e t' := ⟨fun pins s σ H v u Q I r q => h.run pins s σ H v u Q I r (i _ _ _ _ q)⟩
theorem PGs.imp {X : Cx} {e : List Expr} {t t' : TGs} (h : PGs X e t) (i : ∀ v σ H Q, t' v σ H Q → t v σ H Q) : PGs X e t' := ⟨fun pins s σ H v u Q I r q => h.run pins s σ H v u Q I r (i _ _ _ _ q)⟩
theorem FinS.bind {A B : Type} {R : List Addr → Hp → A → B → Prop} {K : PySem.W.Frag} {W : XW} {μ : List Addr} {H : Hp} {σ : L2.St} {s : Sl} {r : Res B} {k : B → Hd → SR} {D : Ends} (f : FinS K W μ H (r.thenS s k) D) (sr : SRel K μ H σ s) :
    FinG R K W μ H σ r fun v H1 => ∃ μ1 hd1 d, Ext μ H μ1 H1 ∧ HRel K μ1 H1 hd1 ∧ R μ1 H1 v d ∧ SRel K μ1 H1 σ s ∧ FinS K W μ1 H1 (k d hd1) D := by
  cases r with
  | ok d h => exact fun μ2 H2 v e2 hr rv => ⟨μ2, h, d, e2, hr, rv, sr.ext e2, FinS.base (r := k d h) f e2⟩
  | exc x h => exact fun μ2 H2 o e2 hr rv => f μ2 H2 σ o e2 hr (sr.ext e2) rv
  | bad => exact f
theorem FinS.nx {K : PySem.W.Frag} {W : XW} {μ : List Addr} {H : Hp} {σ : L2.St} {s : Sl} {hd : Hd} {D : Ends} (f : FinS K W μ H (.nx s hd) D) (hr : HRel K μ H hd) (sr : SRel K μ H σ s) : D.nx σ H := f μ H σ .refl hr sr
theorem FinS.rt {K : PySem.W.Frag} {W : XW} {μ : List Addr} {H : Hp} {v : V} {d : DL.D} {hd : Hd} {D : Ends} (f : FinS K W μ H (.rt d hd) D) (hr : HRel K μ H hd) (sr : Rep K μ H v d) : D.rt v H := f μ H v .refl hr sr

def sNil : SM := fun s h => .nx s h
def SR.seq (r : SR) (b : SM) : SR := match r with
  | .nx s1 h1 => b s1 h1
  | .rt d h1 => .rt d h1
  | .exc x s1 h1 => .exc x s1 h1
  | .bad => .bad
def sSeq (a b : SM) : SM := fun s h => (a s h).seq b
def Res.toS (r : Res Sl) : SR := match r with
  | .ok s1 h2 => .nx s1 h2
  | _ => .bad
def sAsg (e : EM) (g : GM) : SM := fun s h => (e s h).thenS s fun d h1 => (g d s h1).toS
def gN (i : Nat) : GM := fun d s h => .ok (s.set i (some d)) h
def gsN : GMs := fun ds s h => match ds with
  | [] => .ok s h
  | _ => .bad
def gsC (g : GM) (gs : GMs) : GMs := fun ds s h => match ds with
  | d :: r => (g d s h).bind fun s1 h1 => gs r s1 h1
  | [] => .bad
def gT (n : Nat) (gs : GMs) : GM := fun d s h => match d with
  | .tup ds => if ds.length = n then gs ds s h else .bad
  | _ => .bad
def gS (o i : EM) (set : D → D → D → Hd → Res Unit) : GM := fun d s h => (o s h).bind fun x h1 => (i s h1).bind fun y h2 => (set x y d h2).bind fun _ h3 => .ok s h3
def sSet (i : Nat) (e : EM) : SM := sAsg e (gN i)
def sRet (e : EM) : SM := fun s h => (e s h).thenS s fun d h1 => .rt d h1
def sRetN : SM := fun _ h => .rt .non h
def sExpr (e : EM) : SM := fun s h => (e s h).thenS s fun _ h1 => .nx s h1
def sIf (t : TM) (a b : SM) : SM := fun s h => (t s h).thenS s fun c h1 => if c = true then a s h1 else b s h1
def sPar (i j : Nat) (a : AM) : SM := fun s h => (a s h).thenS s fun ds h1 => match ds with
  | [x, y] => .nx ((s.set i (some x)).set j (some y)) h1
  | _ => .bad
/-- a while, by turns -/
def whN (t : TM) (b : SM) : Nat → Sl → Hd → Option SR
  | 0, _, _ => none
  | n + 1, s, h => match t s h with
    | .ok true h1 => (match b s h1 with
      | .nx s2 h2 => whN t b n s2 h2
      | r => some r)
    | .ok false h1 => some (.nx s h1)
    | .exc x h1 => some (.exc x s h1)
    | .bad => some .bad
open Classical in
noncomputable def sWhile (t : TM) (b : SM) : SM := fun s h => if q : ∃ n r, whN t b n s h = some r then (Classical.choose_spec q).choose else .bad
theorem whN_mono {t : TM} {b : SM} : ∀ {n : Nat} {s : Sl} {h : Hd} {r : SR}, whN t b n s h = some r → whN t b (n + 1) s h = some r
  | 0, _, _, _, e => by cases e
  | n + 1, s, h, r, e => by
    unfold whN at e ⊢
    split
    · rename_i h1 q
      rw [q] at e
      simp only at e
      split
      · rename_i s2 h2 q2
        rw [q2] at e
        exact whN_mono e
      · rename_i q2
        split at e
        · rename_i s2 h2 q3
          exact (q2 _ _ q3).elim
        · exact e
    · rename_i h1 q
      rw [q] at e
      exact e
    · rename_i x h1 q
      rw [q] at e
      exact e
    · rename_i q
      rw [q] at e
      exact e
theorem whN_le {t : TM} {b : SM} {n : Nat} {s : Sl} {h : Hd} {r : SR} (e : whN t b n s h = some r) : ∀ k, whN t b (n + k) s h = some r
  | 0 => e
  | k + 1 => whN_mono (whN_le e k)
theorem sWhile_of {t : TM} {b : SM} {n : Nat} {s : Sl} {h : Hd} {r : SR} (e : whN t b n s h = some r) : sWhile t b s h = r := by
  unfold sWhile
  have q : ∃ n r, whN t b n s h = some r := ⟨n, r, e⟩
  rw [dif_pos q]
  have q2 := (Classical.choose_spec q).choose_spec
  have e1 := whN_le e (Classical.choose q)
  have e2 := whN_le q2 n
  rw [Nat.add_comm] at e2
  exact Option.some.inj (e2.symm.trans e1)
theorem sWhile_none {t : TM} {b : SM} {s : Sl} {h : Hd} (e : ∀ n, whN t b n s h = none) : sWhile t b s h = .bad := by
  unfold sWhile
  rw [dif_neg]
  rintro ⟨n, r, q⟩
  rw [e n] at q; cases q
/-- one turn -/
theorem sWhile_eq {t : TM} {b : SM} {s : Sl} {h : Hd} : sWhile t b s h = (t s h).thenS s fun c h1 => if c = true then sSeq b (sWhile t b) s h1 else .nx s h1 := by
  cases q : t s h with
  | bad => exact sWhile_of (n := 1) (by unfold whN; rw [q]; rfl)
  | exc x h1 => exact sWhile_of (n := 1) (by unfold whN; rw [q]; rfl)
  | ok c h1 =>
    cases c with
    | false => exact sWhile_of (n := 1) (by unfold whN; rw [q]; rfl)
    | true =>
      show sWhile t b s h = sSeq b (sWhile t b) s h1
      unfold sSeq SR.seq
      cases q2 : b s h1 with
      | bad => exact sWhile_of (n := 1) (by unfold whN; rw [q]; simp only; rw [q2])
      | rt d h2 => exact sWhile_of (n := 1) (by unfold whN; rw [q]; simp only; rw [q2])
      | exc x s2 h2 => exact sWhile_of (n := 1) (by unfold whN; rw [q]; simp only; rw [q2])
      | nx s2 h2 =>
        simp only
        by_cases z : ∃ n r, whN t b n s2 h2 = some r
        · obtain ⟨n, r, z⟩ := z
          rw [sWhile_of z]
          exact sWhile_of (n := n + 1) (by unfold whN; rw [q]; simp only; rw [q2]; exact z)
        · have z' : ∀ n, whN t b n s2 h2 = none := fun n => by
            cases y : whN t b n s2 h2 with
            | none => rfl
            | some r => exact (z ⟨n, r, y⟩).elim
          rw [sWhile_none z']
          refine sWhile_none fun n => ?_
          cases n with
          | zero => rfl
          | succ n => unfold whN; rw [q]; simp only; rw [q2]; exact z' n

section
variable {X : Cx} {W : XW} {st : Stmt} {rest : List Stmt} {e a b tg : Expr} {m ma mb : EM} {ms mr : SM} {g : GM} {gs : GMs} {pos : Pos}
theorem ds_nil : DSs X W [] sNil := ⟨PSs.imp pss_nil fun D σ H ⟨μ, s, hd, sr, hr, f⟩ => FinS.nx f hr sr⟩
theorem ds_cons (h1 : DS X W st ms) (h2 : DSs X W rest mr) : DSs X W (st :: rest) (sSeq ms mr) := ⟨PSs.imp (pss_cons h1.ps h2.ps) fun D σ H ⟨μ, s, hd, sr, hr, f⟩ => by
  refine ⟨μ, s, hd, sr, hr, ?_⟩
  unfold sSeq SR.seq at f
  cases q : ms s hd with
  | nx s1 h1 =>
    rw [q] at f
    exact fun μ' H' σ' e hr' sr' => ⟨μ', s1, h1, sr', hr', FinS.base f e⟩
  | rt d h1 => rw [q] at f; exact f
  | exc x s1 h1 => rw [q] at f; exact f
  | bad => rw [q] at f; exact f.elim⟩
theorem ds_one (h1 : DS X W st ms) : DSs X W [st] ms := ⟨pss_one h1.ps⟩
theorem ds_pass : DS X W (.Pass pos) sNil := ⟨PS.imp ps_pass fun D σ H ⟨μ, s, hd, sr, hr, f⟩ => FinS.nx f hr sr⟩
theorem ds_doc {x j pos pos'} : DS X W (.Expr (.Constant (.str x) j pos) pos') sNil := ⟨PS.imp ps_doc fun D σ H ⟨μ, s, hd, sr, hr, f⟩ => FinS.nx f hr sr⟩
theorem ds_expr (he : DE X W e m) (hs : swapsWith e none pos.line X.env = pure false := by rfl) : DS X W (.Expr e pos) (sExpr m) := ⟨PS.imp (ps_expr he.pe hs) fun D σ H ⟨μ, s, hd, sr, hr, f⟩ => by
  refine ⟨μ, s, hd, sr, hr, (FinS.bind f sr).imp ?_⟩
  rintro v H1 ⟨μ1, hd1, d, e1, hr1, rv, sr1, f1⟩
  exact FinS.nx f1 hr1 sr1⟩
theorem ds_ret (he : DE X W e m) : DS X W (.Return (some e) pos) (sRet m) := ⟨PS.imp (ps_ret he.pe) fun D σ H ⟨μ, s, hd, sr, hr, f⟩ => by
  refine ⟨μ, s, hd, sr, hr, (FinS.bind f sr).imp ?_⟩
  rintro v H1 ⟨μ1, hd1, d, e1, hr1, rv, sr1, f1⟩
  exact FinS.rt f1 hr1 rv⟩
theorem ds_retN : DS X W (.Return none pos) sRetN := ⟨PS.imp ps_retN fun D σ H ⟨μ, s, hd, sr, hr, f⟩ => FinS.rt f hr .non⟩
theorem ds_if {t : TM} {ba bb : List Stmt} (hc : DT X W a t) (ha : DSs X W ba ms) (hb : DSs X W bb mr) : DS X W (.If a ba bb pos) (sIf t ms mr) := ⟨PS.imp (ps_if hc.pt ha.ps hb.ps) fun D σ H ⟨μ, s, hd, sr, hr, f⟩ => by
  refine ⟨μ, s, hd, sr, hr, (FinS.bind f sr).imp ?_⟩
  rintro v H1 ⟨μ1, hd1, d, e1, hr1, rfl, sr1, f1⟩
  cases v with
  | true => exact ⟨μ1, s, hd1, sr1, hr1, f1⟩
  | false => exact ⟨μ1, s, hd1, sr1, hr1, f1⟩⟩
theorem dg_name {i : Nat} {x : Str} (hN : X.N.Nodup) (hi : X.N[i]? = some x := by rfl) (hx : Loc X.env.scope x := by first | exact Or.inl rfl | exact Or.inr rfl) (hf : X.fn x = true ∨ X.env.scope.names.lookup x = some .local := by first | exact .inl rfl | exact .inr rfl | assumption) : DG X (.Name x pos) (gN i) :=
  ⟨PG.imp (pg_name hN hi hx hf) fun v σ H Q ⟨μ, s, hd, d, sr, hr, rv, f⟩ => FinG.ok (R := RS X.K) f hr (sr.set i rv)⟩
theorem dgs_nil : DGs X [] gsN := ⟨PGs.imp pgs_nil fun v σ H Q ⟨μ, s, hd, d, sr, hr, rv, f⟩ => by
  cases rv with
  | nil => exact ⟨rfl, FinG.ok (R := RS X.K) f hr sr⟩
  | cons _ _ => exact f.elim⟩
theorem dgs_cons {es : List Expr} (h1 : DG X e g) (h2 : DGs X es gs) (hs : (assignEach (e :: es) X.env).map (·.2) = assign e X.env :: (assignEach es X.env).map (·.2) := by rfl) : DGs X (e :: es) (gsC g gs) := ⟨PGs.imp (pgs_cons h1.pg h2.pg hs) fun v σ H Q ⟨μ, s, hd, d, sr, hr, rv, f⟩ => by
  cases rv with
  | nil => exact f.elim
  | cons r1 r2 =>
    refine ⟨_, _, rfl, μ, s, hd, _, sr, hr, r1, (FinG.bind f).imp ?_⟩
    rintro σ1 H1 ⟨μ1, hd1, s1, e1, hr1, sr1, f1⟩
    refine ⟨μ1, s1, hd1, _, sr1, hr1, r2.ext e1, ?_⟩
    cases q : gs _ s1 hd1 with
    | ok d h => rw [q] at f1; exact f1
    | exc x h => rw [q] at f1; exact fun μ' H' o e hr rv => f1 μ' H' o e hr rv
    | bad => rw [q] at f1; exact f1⟩
theorem dg_tup {es : List Expr} {k n : Nat} (hc : X.calm = true) (h : DGs X es gs) (hn : (assignEach es X.env).length = n := by rfl) (hst : (assignEach es X.env).findIdx? (·.1) = none := by rfl) : DG X (.Tuple es k pos) (gT n gs) := ⟨PG.imp (pg_tup hc h.pg hn hst) fun v σ H Q ⟨μ, s, hd, d, sr, hr, rv, f⟩ => by
  cases rv with
  | tup hs ra =>
    unfold gT at f
    simp only at f
    split at f
    · rename_i hl
      exact ⟨_, _, rfl, hs, by rw [ra.length]; exact hl, μ, s, hd, _, sr, hr, ra, f⟩
    · exact f.elim
  | _ => exact f.elim⟩
/-- o[i] = v by values -/
def LiftSet (K : PySem.W.Frag) (t : TSet) (g : D → D → D → Hd → Res Unit) : Prop := ∀ (μ : List Addr) (H : Hp) (hd : Hd) (x y z : V) (dx dy dz : D) (W : XW) (σ : L2.St) (Q : Hp → Prop), HRel K μ H hd → Rep K μ H x dx → Rep K μ H y dy → Rep K μ H z dz →
  FinG (fun _ _ (_ : Unit) (_ : Unit) => True) K W μ H σ (g dx dy dz hd) (fun _ H' => Q H') → t x y z H Q
theorem dg_sub {o i : Expr} {mo mi : EM} {t : TSet} {set : D → D → D → Hd → Res Unit} (hs : PSet X t) (l : LiftSet X.K t set) (ho : DE X W0 o mo) (hi : DE X W0 i mi)
    (ha : ∀ v, assign (.Subscript o i pos) X.env v = (do
      let ov ← holding [v] (eval o X.env)
      let iv ← holding [v, ov] (eval i X.env)
      standAt pos
      holding [v, ov, iv] (setItem ov iv v)
      release [v, ov, iv] []) := by intro _; rfl) : DG X (.Subscript o i pos) (gS mo mi set) := ⟨PG.imp (pg_sub ho.pe hi.pe hs ha) fun v σ H Q ⟨μ, s, hd, d, sr, hr, rv, f⟩ => by
  refine ⟨μ, s, hd, sr, hr, (FinG.bind f).imp ?_⟩
  rintro x H1 ⟨μ1, hd1, dx, e1, hr1, rx, f1⟩
  refine ⟨μ1, s, hd1, sr.ext e1, hr1, (FinG.bind f1).imp ?_⟩
  rintro y H2 ⟨μ2, hd2, dy, e2, hr2, ry, f2⟩
  refine l μ2 H2 hd2 x y v dx dy d W0 σ _ hr2 (rx.ext e2) ry (rv.ext (e1.trans e2)) ((FinG.bind f2).imp ?_)
  rintro _ H3 ⟨μ3, hd3, _, e3, hr3, _, f3⟩
  exact FinG.ok (R := RS X.K) f3 hr3 (sr.ext (e1.trans (e2.trans e3)))⟩
theorem ds_asg' {t : TS} (he : DE X W e m) (hg : DG X tg g) (h : PS X st (tAsg (TEof X.K W m) (TGof X.K g))) : DS X W st (sAsg m g) := ⟨PS.imp h fun D σ H ⟨μ, s, hd, sr, hr, f⟩ => by
  refine ⟨μ, s, hd, sr, hr, (FinS.bind f sr).imp ?_⟩
  rintro v H1 ⟨μ1, hd1, d, e1, hr1, rv, sr1, f1⟩
  refine ⟨μ1, s, hd1, d, sr1, hr1, rv, ?_⟩
  cases q : g d s hd1 with
  | ok s1 h1 => rw [q] at f1; exact fun μ' H' σ' e hr' sr' => f1 μ' H' σ' e hr' sr'
  | exc x h1 => rw [q] at f1; exact f1.elim
  | bad => rw [q] at f1; exact f1.elim⟩
theorem ds_asg (he : DE X W e m) (hg : DG X tg g) (hs : swapsWithSole [tg] e pos.line X.env = pure false := by rfl) (hw : swappedStores [tg] e X.env = pure none := by rfl) (h1 : (assignEach [tg] X.env).map (·.2) = [assign tg X.env] := by rfl) : DS X W (.Assign [tg] e pos) (sAsg m g) := ds_asg' (t := tNever) he hg (ps_asg he.pe hg.pg hs hw h1)
theorem ds_set (i : Nat) {x : Str} {pos' : Pos} (hN : X.N.Nodup) (he : DE X W e m) (hi : X.N[i]? = some x := by rfl) (hx : Loc X.env.scope x := by first | exact Or.inl rfl | exact Or.inr rfl) (hs : swapsWith e (some (.Name x pos')) pos.line X.env = pure false := by rfl) (hf : X.fn x = true ∨ X.env.scope.names.lookup x = some .local := by first | exact .inl rfl | exact .inr rfl | assumption) :
    DS X W (.Assign [.Name x pos'] e pos) (sSet i m) := ⟨PS.imp (ps_set hN hi hx he.pe hs hf) fun D σ H ⟨μ, s, hd, sr, hr, f⟩ => by
  refine ⟨μ, s, hd, sr, hr, (FinS.bind f sr).imp ?_⟩
  rintro v H1 ⟨μ1, hd1, d, e1, hr1, rv, sr1, f1⟩
  exact FinS.nx f1 hr1 (sr1.set i rv)⟩
theorem ds_par (i j : Nat) {x y : Str} {px py pt : Pos} {kt k2 pt2} {ma : AM} (hc : X.calm = true) (hN : X.N.Nodup) (ha : DA X W [a, b] ma) (hi : X.N[i]? = some x := by rfl) (hj : X.N[j]? = some y := by rfl) (hij : i ≠ j := by decide)
    (hx : X.env.scope.names.lookup x = some .local := by rfl) (hy : X.env.scope.names.lookup y = some .local := by rfl)
    (hw : swappedStores [.Tuple [.Name x px, .Name y py] kt pt] (.Tuple [a, b] k2 pt2) X.env = pure (some [x, y]) := by rfl)
    (hs : swapsWithSole [.Tuple [.Name x px, .Name y py] kt pt] (.Tuple [a, b] k2 pt2) pos.line X.env = pure false := by rfl) :
    DS X W (.Assign [.Tuple [.Name x px, .Name y py] kt pt] (.Tuple [a, b] k2 pt2) pos) (sPar i j ma) := ⟨PS.imp (ps_par hc hN hi hj hij hx hy ha.pa hw hs) fun D σ H ⟨μ, s, hd, sr, hr, f⟩ => by
  refine ⟨μ, s, hd, sr, hr, (FinS.bind f sr).imp ?_⟩
  rintro v H1 ⟨μ1, hd1, d, e1, hr1, rv, sr1, f1⟩
  cases rv with
  | nil => exact f1.elim
  | cons r1 rr =>
    cases rr with
    | nil => exact f1.elim
    | cons r2 rr2 =>
      cases rr2 with
      | nil => exact ⟨_, _, rfl, FinS.nx f1 hr1 ((sr1.set i r1).set j r2)⟩
      | cons _ _ => exact f1.elim⟩
theorem ds_while {t : TM} {body : List Stmt} (hp : PassesOwn (model X.prog X.w) X.A X.env X.xe) (hc : DT X W a t) (hb : DSs X W body ms) : DS X W (.While a body [] pos) (sWhile t ms) := ⟨PS.imp (ps_while hp hc.pt hb.ps) fun D σ H ⟨μ, s, hd, sr, hr, f⟩ => by
  refine ⟨fun m σ H => ∃ μ s hd r, SRel X.K μ H σ s ∧ HRel X.K μ H hd ∧ whN t ms m s hd = some r ∧ FinS X.K W μ H r D, ?_, ?_⟩
  · by_cases q : ∃ n r, whN t ms n s hd = some r
    · obtain ⟨n, r, q⟩ := q
      exact ⟨n, μ, s, hd, r, sr, hr, q, by rw [sWhile_of q] at f; exact f⟩
    · rw [sWhile_none fun n => by
        cases y : whN t ms n s hd with
        | none => rfl
        | some r => exact (q ⟨n, r, y⟩).elim] at f
      exact f.elim
  · rintro m σ H ⟨μ, s, hd, r, sr, hr, q, f⟩
    cases m with
    | zero => cases q
    | succ m =>
      unfold whN at q
      refine ⟨μ, s, hd, sr, hr, ?_⟩
      cases y : t s hd with
      | bad => rw [y] at q; simp only [Option.some.injEq] at q; subst q; exact f
      | exc x h1 => rw [y] at q; simp only [Option.some.injEq] at q; subst q; exact fun μ' H' o e hr' xr => f μ' H' σ o e hr' (sr.ext e) xr
      | ok c h1 =>
        rw [y] at q
        cases c with
        | false =>
          simp only [Option.some.injEq] at q
          subst q
          rintro μ' H' _ e hr' rfl
          rw [if_neg (by decide)]
          exact f μ' H' σ e hr' (sr.ext e)
        | true =>
          simp only at q
          rintro μ' H' _ e hr' rfl
          rw [if_pos rfl]
          refine ⟨fun σ' H' => ∃ μ s hd r, SRel X.K μ H' σ' s ∧ HRel X.K μ H' hd ∧ whN t ms m s hd = some r ∧ FinS X.K W μ H' r D, fun σ' H' h => ⟨m, Nat.lt_succ_self m, h⟩, μ', s, h1, sr.ext e, hr', ?_⟩
          cases z : ms s h1 with
          | nx s2 h2 =>
            rw [z] at q
            exact fun μ2 H2 σ2 e2 hr2 sr2 => ⟨μ2, s2, h2, r, sr2, hr2, q, FinS.base f (e.trans e2)⟩
          | rt d h2 => rw [z] at q; simp only [Option.some.injEq] at q; subst q; exact FinS.base f e
          | exc x s2 h2 => rw [z] at q; simp only [Option.some.injEq] at q; subst q; exact FinS.base f e
          | bad => rw [z] at q; simp only [Option.some.injEq] at q; subst q; exact f⟩
end
end DL

namespace DL
open PySem PySem.Spec PyProof.Rows L2

/-! ### what is walked -/
/-- what comes, and what must stand at each turn -/
abbrev ItD := List D × (Hd → Prop)
abbrev IM := Sl → M ItD
def RIt (K : PySem.W.Frag) (μ : List Addr) (H : Hp) (J : It) (p : ItD) : Prop :=
  ∀ (μ' : List Addr) (H' : Hp) (hd : Hd), Ext μ H μ' H' → HRel K μ' H' hd → p.2 hd → ∀ i : Nat,
    (∀ d, p.1[i]? = some d → J.go i H' ∧ ∀ x H'', J.yld i H' x H'' → Ext μ' H' μ' H'' ∧ HRel K μ' H'' hd ∧ Rep K μ' H'' x d) ∧ (p.1.length ≤ i → J.stop i H')
def TIof (K : PySem.W.Frag) (W : XW) (m : IM) : TI := TG' (fun μ H J p => RIt K μ H J p) K W m
structure DI (X : Cx) (W : XW) (tg e : Expr) (m : IM) : Prop where
  pi : PI X tg e (TIof X.K W m)
theorem PI.imp {X : Cx} {tg e : Expr} {t t' : TI} (h : PI X tg e t) (i : ∀ σ H Q, t' σ H Q → t σ H Q) : PI X tg e t' := ⟨fun pins s σ H Q I q => h.run pins s σ H Q I (i _ _ _ q)⟩

open Classical in
/-- a for, turn by turn -/
noncomputable def forD (chk : Hd → Prop) (g : GM) (body : SM) : List D → Sl → Hd → SR
  | [], s, h => if chk h then .nx s h else .bad
  | x :: xs, s, h => if chk h then (match g x s h with
    | .ok s1 h1 => (match body s1 h1 with
      | .nx s2 h2 => forD chk g body xs s2 h2
      | r => r)
    | _ => .bad) else .bad
noncomputable def sFor (it : IM) (g : GM) (body : SM) : SM := fun s h => (it s h).thenS s fun p h1 => forD p.2 g body p.1 s h1
/-- a comprehension's turns: the list is the n-th thing -/
def appD (n : Nat) (d : D) (h : Hd) : Res Unit := match h[n]? with
  | some (.lst xs) => if xs.length < sizeLine then .ok () (h.set n (.lst (xs ++ [d]))) else .bad
  | _ => .bad
def wipeD (s : Sl) : List Nat → Sl
  | [] => s
  | v :: vs => (wipeD s vs).set v none
open Classical in
noncomputable def lcD (chk : Hd → Prop) (g : GM) (t : TM) (e : EM) (vs : List Nat) (n : Nat) (s : Sl) : List D → Hd → Res Unit
  | [], h => if chk h then .ok () h else .bad
  | x :: xs, h => if chk h then (match g x (wipeD s vs) h with
    | .ok s1 h1 => (t s1 h1).bind fun c h2 => if c = true then (e s1 h2).bind fun d h3 => (appD n d h3).bind fun _ h4 => lcD chk g t e vs n s xs h4 else lcD chk g t e vs n s xs h2
    | _ => .bad) else .bad
noncomputable def eLc (it : IM) (g : GM) (t : TM) (e : EM) (vs : List Nat) : EM := fun s h => (it s h).bind fun p h1 => (lcD p.2 g t e vs h1.length s p.1 (h1 ++ [.lst []])).bind fun _ h2 => .ok (.ref h1.length) h2
def tT : TM := fun _ h => .ok true h

section
variable {X : Cx} {W : XW} {st : Stmt} {rest : List Stmt} {e a b tg : Expr} {m ma mb : EM} {ms mr : SM} {g : GM} {gs : GMs} {pos : Pos} {im : IM}
theorem ds_for {body : List Stmt} (hp : PassesOwn (model X.prog X.w) X.A X.env X.xe) (hc : X.calm = true) (hi : DI X W tg a im) (hg : DG X tg g) (hb : DSs X W body ms) (hs : ∀ x, foldedSetIterable a X.env x = pure x := by intro _; rfl) : DS X W (.For tg a body [] pos) (sFor im g ms) := ⟨PS.imp (ps_for hp hc hi.pi hg.pg hb.ps hs) fun D σ H ⟨μ, s, hd, sr, hr, f⟩ => by
  refine ⟨μ, s, hd, sr, hr, (FinS.bind f sr).imp ?_⟩
  rintro J H1 ⟨μ1, hd1, ⟨items, chk⟩, e1, hr1, rJ, sr1, f1⟩
  refine ⟨fun i m σ H => ∃ μ s hd, Ext μ1 H1 μ H ∧ SRel X.K μ H σ s ∧ HRel X.K μ H hd ∧ i + m = items.length ∧ FinS X.K W μ H (forD chk g ms (items.drop i) s hd) D, ⟨items.length, μ1, s, hd1, .refl, sr1, hr1, by simp, f1⟩, ?_⟩
  rintro i m σ H ⟨μ, s, hd, e0, sr, hr, hm, f⟩
  by_cases hi : i < items.length
  · have ed : items.drop i = items[i] :: items.drop (i + 1) := List.drop_eq_getElem_cons hi
    rw [ed] at f
    unfold forD at f
    by_cases hck : chk hd
    · rw [if_pos hck] at f
      obtain ⟨h1, h2⟩ := (rJ μ H hd e0 hr hck i).1 items[i] (List.getElem?_eq_getElem hi)
      refine .inr ⟨h1, fun σ' H' => ∃ μ s hd, Ext μ1 H1 μ H' ∧ SRel X.K μ H' σ' s ∧ HRel X.K μ H' hd ∧ FinS X.K W μ H' (forD chk g ms (items.drop (i + 1)) s hd) D, fun σ' H' ⟨μ, s, hd, a1, a2, a3, a4⟩ => ⟨m - 1, by omega, μ, s, hd, a1, a2, a3, by omega, a4⟩, fun x H' y => ?_⟩
      obtain ⟨q1, q2, q3⟩ := h2 x H' y
      refine ⟨μ, s, hd, items[i], sr.ext q1, q2, q3, ?_⟩
      cases z : g items[i] s hd with
      | bad => rw [z] at f; exact f.elim
      | exc x h => rw [z] at f; exact f.elim
      | ok s1 h1 =>
        rw [z] at f
        simp only at f
        intro μ' H2 σ2 e2 hr2 sr2
        refine ⟨μ', s1, h1, sr2, hr2, ?_⟩
        cases z2 : ms s1 h1 with
        | bad => rw [z2] at f; exact f.elim
        | exc x s2 h2 => rw [z2] at f; exact FinS.base f (q1.trans e2)
        | rt d h2 => rw [z2] at f; exact FinS.base f (q1.trans e2)
        | nx s2 h2 =>
          rw [z2] at f
          exact fun μ3 H3 σ3 e3 hr3 sr3 => ⟨μ3, s2, h2, e0.trans (q1.trans (e2.trans e3)), sr3, hr3, FinS.base f (q1.trans (e2.trans e3))⟩
    · rw [if_neg hck] at f; exact f.elim
  · have ed : items.drop i = [] := List.drop_eq_nil_of_le (by omega)
    rw [ed] at f
    unfold forD at f
    by_cases hck : chk hd
    · rw [if_pos hck] at f
      exact .inl ⟨(rJ μ H hd e0 hr hck i).2 (Nat.le_of_not_lt hi), FinS.nx f hr sr⟩
    · rw [if_neg hck] at f; exact f.elim⟩
theorem wipe_rel {K : PySem.W.Frag} {μ : List Addr} {H : Hp} {σ : L2.St} {s : Sl} (r : SRel K μ H σ s) : ∀ vs : List Nat, SRel K μ H (wipe σ vs) (wipeD s vs)
  | [] => r
  | v :: vs => by
    have q := wipe_rel r vs
    unfold wipe wipeD
    refine ⟨by simp [q.1], fun i d h => ?_⟩
    by_cases hv : v = i
    · subst hv
      by_cases hl : v < (wipeD s vs).length
      · rw [List.getElem?_set_self hl] at h; cases h
      · rw [List.getElem?_eq_none (by simpa using hl)] at h; cases h
    · rw [List.getElem?_set_ne hv] at h ⊢
      exact q.2 i d h
theorem wipe_get (σ : L2.St) (j : Nat) : ∀ vs : List Nat, (wipe σ vs)[j]? = if j ∈ vs then (σ[j]?).map (fun _ => none) else σ[j]?
  | [] => by simp [wipe]
  | v :: vs => by
    unfold wipe
    by_cases e : v = j
    · subst e
      rw [if_pos List.mem_cons_self]
      by_cases hl : v < σ.length
      · rw [List.getElem?_set_self (by rw [wipe_length]; exact hl), List.getElem?_eq_getElem hl]; rfl
      · rw [List.getElem?_eq_none (by rw [List.length_set, wipe_length]; omega), List.getElem?_eq_none (by omega)]; rfl
    · rw [List.getElem?_set_ne e, wipe_get σ j vs]
      have e' : (j ∈ v :: vs) ↔ (j ∈ vs) := by rw [List.mem_cons]; exact ⟨fun z => z.elim (fun y => (e y.symm).elim) id, .inr⟩
      simp only [e']
theorem wipe_set {σ : L2.St} {i : Nat} {x : Option V} {vs : List Nat} (h : i ∈ vs) : wipe (σ.set i x) vs = wipe σ vs := by
  apply List.ext_getElem?
  intro j
  rw [wipe_get, wipe_get]
  by_cases hj : j ∈ vs
  · rw [if_pos hj, if_pos hj]
    by_cases e : i = j
    · subst e
      by_cases hl : i < σ.length
      · rw [List.getElem?_set_self hl, List.getElem?_eq_getElem hl]; rfl
      · rw [List.getElem?_eq_none (by simpa using hl), List.getElem?_eq_none (by omega)]
    · rw [List.getElem?_set_ne e]
  · rw [if_neg hj, if_neg hj, List.getElem?_set_ne (fun e => hj (by rw [← e]; exact h))]
theorem wipe_wipe {σ : L2.St} {vs : List Nat} : wipe (wipe σ vs) vs = wipe σ vs := by
  apply List.ext_getElem?
  intro j
  rw [wipe_get, wipe_get]
  by_cases hj : j ∈ vs
  · rw [if_pos hj, if_pos hj]
    cases σ[j]? <;> rfl
  · rw [if_neg hj, if_neg hj]
/-- the stores of a comprehension's own names -/
structure LG (X : Cx) (scope : Scope) (vs : List Nat) (tg : Expr) (g : GM) : Prop where
  ex : ∃ t : TG, (∀ (s : Shared) (H : Hp) (C : Addr) (cl : List (Str × Addr)) (fp : List Addr), PG (X.blk s H scope (compEnvC scope cl C X.env) fp) tg t) ∧ (∀ v σ H Q, TGof X.K g v σ H Q → t v σ H Q) ∧ ∀ v σ H Q Q', (∀ σ' H', wipe σ' vs = wipe σ vs → Q σ' H' → Q' σ' H') → t v σ H Q → t v σ H Q'
structure LGs (X : Cx) (scope : Scope) (vs : List Nat) (tg : List Expr) (g : GMs) : Prop where
  ex : ∃ t : TGs, (∀ (s : Shared) (H : Hp) (C : Addr) (cl : List (Str × Addr)) (fp : List Addr), PGs (X.blk s H scope (compEnvC scope cl C X.env) fp) tg t) ∧ (∀ v σ H Q, TGsof X.K g v σ H Q → t v σ H Q) ∧ ∀ v σ H Q Q', (∀ σ' H', wipe σ' vs = wipe σ vs → Q σ' H' → Q' σ' H') → t v σ H Q → t v σ H Q'
theorem lg_name {scope : Scope} {vs : List Nat} {i : Nat} {x : Str} (hN : X.N.Nodup) (hi : X.N[i]? = some x := by rfl) (hx : ∀ (C : Addr) (cl : List (Str × Addr)), Loc (compEnvC scope cl C X.env).scope x := by intros; first | exact Or.inl rfl | exact Or.inr rfl) (hf : ∀ (C : Addr) (cl : List (Str × Addr)), (scope.names.lookup x == some .cell) = true ∨ (compEnvC scope cl C X.env).scope.names.lookup x = some .local := by intros; first | exact .inl rfl | exact .inr rfl) (hv : i ∈ vs := by decide) : LG X scope vs (.Name x pos) (gN i) :=
  ⟨gName i, fun s H C cl fp => pg_name (X := X.blk s H scope (compEnvC scope cl C X.env) fp) hN hi (hx C cl) (hf C cl), fun v σ H Q ⟨μ, s, hd, d, sr, hr, rv, f⟩ => FinG.ok (R := RS X.K) f hr (sr.set i rv), fun v σ H Q Q' i q => i _ _ (wipe_set hv) q⟩
theorem lgs_nil {scope : Scope} {vs : List Nat} : LGs X scope vs [] gsN := ⟨gNil, fun s H C cl fp => pgs_nil, fun v σ H Q ⟨μ, s, hd, d, sr, hr, rv, f⟩ => by
  cases rv with
  | nil => exact ⟨rfl, FinG.ok (R := RS X.K) f hr sr⟩
  | cons _ _ => exact f.elim, fun v σ H Q Q' i q => ⟨q.1, i _ _ rfl q.2⟩⟩
theorem lgs_cons {scope : Scope} {vs : List Nat} {es : List Expr} (h1 : LG X scope vs e g) (h2 : LGs X scope vs es gs)
    (hs : ∀ (C : Addr) (cl : List (Str × Addr)), (assignEach (e :: es) (compEnvC scope cl C X.env)).map (·.2) = assign e (compEnvC scope cl C X.env) :: (assignEach es (compEnvC scope cl C X.env)).map (·.2) := by intros; rfl) : LGs X scope vs (e :: es) (gsC g gs) := by
  obtain ⟨t, p1, p2, p3⟩ := h1.ex
  obtain ⟨u, q1, q2, q3⟩ := h2.ex
  refine ⟨gCons t u, fun s H C cl fp => pgs_cons (p1 s H C cl fp) (q1 s H C cl fp) (hs C cl), fun v σ H Q ⟨μ, s, hd, d, sr, hr, rv, f⟩ => ?_, fun v σ H Q Q' i q => ?_⟩
  · cases rv with
    | nil => exact f.elim
    | cons r1 r2 =>
      refine ⟨_, _, rfl, p2 _ _ _ _ ⟨μ, s, hd, _, sr, hr, r1, (FinG.bind f).imp ?_⟩⟩
      rintro σ1 H1 ⟨μ1, hd1, s1, e1, hr1, sr1, f1⟩
      refine q2 _ _ _ _ ⟨μ1, s1, hd1, _, sr1, hr1, r2.ext e1, ?_⟩
      cases q : gs _ s1 hd1 with
      | ok d h => rw [q] at f1; exact f1
      | exc x h => rw [q] at f1; exact fun μ' H' o e hr rv => f1 μ' H' o e hr rv
      | bad => rw [q] at f1; exact f1
  · obtain ⟨x, r, ev, q⟩ := q
    exact ⟨x, r, ev, p3 _ _ _ _ _ (fun σ1 H1 w1 z => q3 _ _ _ _ _ (fun σ2 H2 w2 y => i σ2 H2 (w2.trans w1) y) z) q⟩
theorem lg_tup {scope : Scope} {vs : List Nat} {es : List Expr} {k n : Nat} (hc : X.calm = true) (h : LGs X scope vs es gs) (hn : ∀ (C : Addr) (cl : List (Str × Addr)), (assignEach es (compEnvC scope cl C X.env)).length = n := by intros; rfl) (hst : ∀ (C : Addr) (cl : List (Str × Addr)), (assignEach es (compEnvC scope cl C X.env)).findIdx? (·.1) = none := by intros; rfl) : LG X scope vs (.Tuple es k pos) (gT n gs) := by
  obtain ⟨u, q1, q2, q3⟩ := h.ex
  refine ⟨gTup X.K n u, fun s H C cl fp => pg_tup (X := X.blk s H scope (compEnvC scope cl C X.env) fp) hc (q1 s H C cl fp) (hn C cl) (hst C cl), fun v σ H Q ⟨μ, s, hd, d, sr, hr, rv, f⟩ => ?_, fun v σ H Q Q' i q => ?_⟩
  · cases rv with
    | tup hs ra =>
      unfold gT at f
      simp only at f
      split at f
      · rename_i hl
        exact ⟨_, _, rfl, hs, by rw [ra.length]; exact hl, q2 _ _ _ _ ⟨μ, s, hd, _, sr, hr, ra, f⟩⟩
      · exact f.elim
    | _ => exact f.elim
  · obtain ⟨a, xs, e1, e2, e3, q⟩ := q
    exact ⟨a, xs, e1, e2, e3, q3 _ _ _ _ _ i q⟩
theorem app_lift {K : PySem.W.Frag} {μ : List Addr} {H : Hp} {hd : Hd} {n : Nat} {D : Addr} {y : V} {d : DL.D} {W : XW} {σ : L2.St} {Q : Hp → Prop} (hr : HRel K μ H hd) (hn : μ[n]? = some D) (ry : Rep K μ H y d) (f : FinG (fun _ _ (_ : Unit) (_ : Unit) => True) K W μ H σ (appD n d hd) (fun _ H' => Q H')) :
    ∃ acc, H D = some (.lst acc) ∧ acc.length < sizeLine ∧ Q (upd H D (.lst (acc ++ [y]))) := by
  unfold appD at f
  split at f
  · rename_i xs e
    split at f
    · rename_i hl
      obtain ⟨vs, h1, h2⟩ := hr.obj n D _ hn e
      have ex : Ext μ H μ (upd H D (.lst (vs ++ [y]))) := Ext.write h1 trivial
      exact ⟨vs, h1, by rw [h2.length]; exact hl, f μ _ () ex (hr.write hn h1 trivial ⟨_, upd_same, (h2.ext ex).append (.one (ry.ext ex))⟩) trivial⟩
    · exact f.elim
  · exact f.elim
theorem lc_imp {K : PySem.W.Frag} {t : TG} {tm : TM} {em : EM} {vs : List Nat} (g2 : ∀ v σ H Q, TGof K g v σ H Q → t v σ H Q) (g3 : ∀ v σ H Q Q', (∀ σ' H', wipe σ' vs = wipe σ vs → Q σ' H' → Q' σ' H') → t v σ H Q → t v σ H Q') {σ : L2.St} {H : Hp} {Q : VK}
    (h : TEof K W0 (eLc im g tm em vs) σ H Q) : tLc (TIof K W0 im) t (TTof K W0 tm) (TEof K W0 em) vs σ H Q := by
  obtain ⟨μ, s, hd, sr, hr, f⟩ := h
  refine ⟨μ, s, hd, sr, hr, (FinG.bind f).imp ?_⟩
  rintro J H1 ⟨μ1, hd1, ⟨items, chk⟩, e1, hr1, rJ, f1⟩ D hD
  have exD : Ext μ1 H1 (μ1 ++ [D]) (upd H1 D (.lst [])) := Ext.laid hD
  have hnD : (μ1 ++ [D])[hd1.length]? = some D := by
    rw [← hr1.len, List.getElem?_append_right (Nat.le_refl _)]
    simp
  generalize hn : hd1.length = n at hnD
  refine ⟨fun i m H => ∃ μ hd, Ext (μ1 ++ [D]) (upd H1 D (.lst [])) μ H ∧ HRel K μ H hd ∧ i + m = items.length ∧ FinG (RD K) K W0 μ H σ ((lcD chk g tm em vs n s (items.drop i) hd).bind fun _ h2 => .ok (.ref n) h2) Q,
    ⟨items.length, μ1 ++ [D], hd1 ++ [.lst []], .refl, hr1.laid (m := .lst []) hD ⟨[], upd_same, .nil⟩, by simp, ?_⟩, ?_⟩
  · rw [← hn]
    exact FinG.base f1 exD
  rintro i m H2 ⟨μ2, hd2, e2, hr2, hm, f2⟩
  have nD : μ2[n]? = some D := e2.nums _ _ hnD
  have e12 : Ext μ1 H1 μ2 H2 := exD.trans e2
  have sr2 : SRel K μ2 H2 (wipe σ vs) (wipeD s vs) := wipe_rel (sr.ext (e1.trans e12)) vs
  by_cases hi : i < items.length
  · have ed : items.drop i = items[i] :: items.drop (i + 1) := List.drop_eq_getElem_cons hi
    rw [ed] at f2
    unfold lcD at f2
    by_cases hck : chk hd2
    · rw [if_pos hck] at f2
      obtain ⟨h1, h2⟩ := (rJ μ2 H2 hd2 e12 hr2 hck i).1 items[i] (List.getElem?_eq_getElem hi)
      refine .inr ⟨h1, fun H' => ∃ μ hd, Ext (μ1 ++ [D]) (upd H1 D (.lst [])) μ H' ∧ HRel K μ H' hd ∧ FinG (RD K) K W0 μ H' σ ((lcD chk g tm em vs n s (items.drop (i + 1)) hd).bind fun _ h2 => .ok (.ref n) h2) Q, fun H' ⟨μ, hd, a1, a2, a3⟩ => ⟨m - 1, by omega, μ, hd, a1, a2, by omega, a3⟩, fun x H3 y => ?_⟩
      obtain ⟨q1, q2, q3⟩ := h2 x H3 y
      have gq := g2 x (wipe σ vs) H3 (fun σ4 H4 => ∃ μ4 hd4 s4, Ext μ2 H3 μ4 H4 ∧ HRel K μ4 H4 hd4 ∧ SRel K μ4 H4 σ4 s4 ∧ FinG (RD K) K W0 μ4 H4 σ (((tm s4 hd4).bind fun c h2 => if c = true then (em s4 h2).bind fun d h3 => (appD n d h3).bind fun _ h4 => lcD chk g tm em vs n s (items.drop (i + 1)) h4 else lcD chk g tm em vs n s (items.drop (i + 1)) h2).bind fun _ h2 => .ok (.ref n) h2) Q)
        ⟨μ2, wipeD s vs, hd2, items[i], sr2.ext q1, q2, q3, by
          cases z : g items[i] (wipeD s vs) hd2 with
          | bad => rw [z] at f2; exact f2.elim
          | exc x h => rw [z] at f2; exact f2.elim
          | ok s1 h1 => rw [z] at f2; exact fun μ4 H4 σ4 e4 hr4 sr4 => ⟨μ4, h1, s1, e4, hr4, sr4, FinG.base f2 (q1.trans e4)⟩⟩
      refine g3 _ _ _ _ _ ?_ gq
      rintro σ4 H4 w4 ⟨μ4, hd4, s4, e4, hr4, sr4, f4⟩
      refine ⟨w4.trans wipe_wipe, μ4, s4, hd4, sr4, hr4, ?_⟩
      cases z : tm s4 hd4 with
      | bad => rw [z] at f4; exact f4.elim
      | exc x h => rw [z] at f4; exact fun μ' H' o e hr xr => f4 μ' H' o e hr xr
      | ok c h5 =>
        rw [z] at f4
        intro μ5 H5 c' e5 hr5 hcc
        rw [show c' = c from hcc]
        have e05 : Ext (μ1 ++ [D]) (upd H1 D (.lst [])) μ5 H5 := e2.trans (q1.trans (e4.trans e5))
        cases c with
        | false =>
          rw [if_neg (by decide)]
          exact ⟨μ5, h5, e05, hr5, FinG.base f4 e5⟩
        | true =>
          rw [if_pos rfl]
          have f5 : FinG (RD K) K W0 μ5 H5 σ (((em s4 h5).bind fun d h3 => (appD n d h3).bind fun _ h4 => lcD chk g tm em vs n s (items.drop (i + 1)) h4).bind fun _ h2 => .ok (.ref n) h2) Q := FinG.base f4 e5
          refine ⟨μ5, s4, h5, sr4.ext e5, hr5, ?_⟩
          cases z2 : em s4 h5 with
          | bad => rw [z2] at f5; exact f5.elim
          | exc x h => rw [z2] at f5; exact fun μ' H' o e hr xr => f5 μ' H' o e hr xr
          | ok d h6 =>
            rw [z2] at f5
            intro μ6 H6 y6 e6 hr6 r6
            refine app_lift (Q := fun H' => ∃ μ hd, Ext (μ1 ++ [D]) (upd H1 D (.lst [])) μ H' ∧ HRel K μ H' hd ∧ FinG (RD K) K W0 μ H' σ ((lcD chk g tm em vs n s (items.drop (i + 1)) hd).bind fun _ h2 => .ok (.ref n) h2) Q) (W := W0) (σ := σ) hr6 ((e05.trans e6).nums _ _ hnD) r6 ?_
            have f6 := FinG.base f5 e6
            cases z3 : appD n d h6 with
            | bad => simp only [Res.bind, z3] at f6; exact f6.elim
            | exc x h => simp only [Res.bind, z3] at f6; exact fun μ' H' o e hr xr => f6 μ' H' o e hr xr
            | ok u h7 =>
              simp only [Res.bind, z3] at f6
              exact fun μ7 H7 _ e7 hr7 _ => ⟨μ7, h7, (e05.trans e6).trans e7, hr7, FinG.base f6 e7⟩
    · rw [if_neg hck] at f2; exact f2.elim
  · have ed : items.drop i = [] := List.drop_eq_nil_of_le (by omega)
    rw [ed] at f2
    unfold lcD at f2
    by_cases hck : chk hd2
    · rw [if_pos hck] at f2
      exact .inl ⟨(rJ μ2 H2 hd2 e12 hr2 hck i).2 (Nat.le_of_not_lt hi), FinG.ok (R := RD K) f2 hr2 (.ref nD)⟩
    · rw [if_neg hck] at f2; exact f2.elim
theorem de_lc {iter elt : Expr} {ifs : List Expr} {scope : Scope} {own : List (Str × Nat)} {tm : TM} {em : EM} (hc : X.calm = true) (hN : X.N.Nodup) (hi : DI X W0 tg iter im) (ok : BlkOk X.N X.env.scope scope own) (hg : LG X scope (own.map (·.2)) tg g)
    (ht : ∀ (s : Shared) (H : Hp) (C : Addr) (cl : List (Str × Addr)) (fp : List Addr), PTs (X.blk s H scope (compEnvC scope cl C X.env) fp) ifs (TTof X.K W0 tm))
    (he : ∀ (s : Shared) (H : Hp) (C : Addr) (cl : List (Str × Addr)) (fp : List Addr), DE (X.blk s H scope (compEnvC scope cl C X.env) fp) W0 elt em)
    (hs : ∀ x, foldedSetIterable iter X.env x = pure x := by intro _; rfl) :
    DE X W0 (.ListComp elt [⟨tg, iter, ifs, 0⟩] scope pos) (eLc im g tm em (own.map (·.2))) := by
  obtain ⟨t, g1, g2, g3⟩ := hg.ex
  exact ⟨PE.imp (pe_lc (te := TEof X.K W0 em) hc hN hi.pi ok g1 ht (fun s H C cl fp => (he s H C cl fp).pe) hs) fun σ H Q h => lc_imp g2 g3 h⟩
theorem ds_setLc (i : Nat) {y : Str} {py : Pos} {iter elt : Expr} {ifs : List Expr} {scope : Scope} {own : List (Str × Nat)} {tm : TM} {em : EM} {spos : Pos} (hc : X.calm = true) (hN : X.N.Nodup) (hi : DI X W0 tg iter im) (ok : BlkOk X.N X.env.scope scope own) (hg : LG X scope (own.map (·.2)) tg g)
    (ht : ∀ (s : Shared) (H : Hp) (C : Addr) (cl : List (Str × Addr)) (fp : List Addr), PTs (X.blk s H scope (compEnvC scope cl C X.env) fp) ifs (TTof X.K W0 tm))
    (he : ∀ (s : Shared) (H : Hp) (C : Addr) (cl : List (Str × Addr)) (fp : List Addr), DE (X.blk s H scope (compEnvC scope cl C X.env) fp) W0 elt em)
    (hsw : swapsWith (.ListComp elt [⟨tg, iter, ifs, 0⟩] scope pos) (some (.Name y py)) spos.line X.env = pure true) (hy : X.N[i]? = some y := by rfl) (hyl : X.env.scope.names.lookup y = some .local := by rfl)
    (hs : ∀ x, foldedSetIterable iter X.env x = pure x := by intro _; rfl) :
    DS X W0 (.Assign [.Name y py] (.ListComp elt [⟨tg, iter, ifs, 0⟩] scope pos) spos) (sSet i (eLc im g tm em (own.map (·.2)))) := by
  obtain ⟨t, g1, g2, g3⟩ := hg.ex
  refine ⟨PS.imp (ps_setLc (te := TEof X.K W0 em) hc hN hy hyl hsw hi.pi ok g1 ht (fun s H C cl fp => (he s H C cl fp).pe) hs) fun D σ H ⟨μ, s, hd, sr, hr, f⟩ => lc_imp g2 g3 ?_⟩
  refine ⟨μ, s, hd, sr, hr, (FinS.bind f sr).imp ?_⟩
  rintro v H1 ⟨μ1, hd1, d, e1, hr1, rv, sr1, f1⟩
  exact FinS.nx f1 hr1 (sr1.set i rv)
theorem pts_T {X : Cx} : PTs X [] (TTof X.K W0 tT) := ⟨fun pins s σ H Q I ⟨μ, sl, hd, sr, hr, f⟩ => pts_nil.run pins s σ H Q I (FinG.ok (R := RB) f hr rfl)⟩
theorem pts_1 {X : Cx} {c : Expr} {t : TM} (h : DT X W0 c t) : PTs X [c] (TTof X.K W0 t) := pts_one h.pt
end
end DL

namespace DL
open PySem PySem.Spec PyProof.Rows L2

/-! ### what is left behind a def: its own things are forgotten, but the one it hands back -/
mutual
def D.lo (n : Nat) : D → Bool
  | .tup xs => D.loAll n xs
  | .rol xs => D.loAll n xs
  | .ref m => decide (m < n)
  | .non => true
  | .bl _ => true
  | .int _ => true
  | .str _ => true
  | .ty _ => true
  | .con _ => true
def D.loAll (n : Nat) : List D → Bool
  | [] => true
  | x :: xs => D.lo n x && D.loAll n xs
end
def KDs.lo (n : Nat) : List (Key × D) → Bool
  | [] => true
  | (_, d) :: r => d.lo n && KDs.lo n r
def MO.lo (n : Nat) : MO → Bool
  | .lst xs => D.loAll n xs
  | .dK kvs => KDs.lo n kvs
  | .dF kvs => KDs.lo n kvs
def OkBelow (h h' : Hd) : Prop := ∀ (i : Nat) (o : MO), i < h.length → h'[i]? = some o → o.lo h.length = true ∨ h[i]? = some o
open Classical in
noncomputable def gc (h : Hd) (d : D) (h' : Hd) : Res D :=
  if OkBelow h h' then
    if d.lo h.length = true then .ok d (h'.take h.length) else match d with
      | .ref m => (match h'[m]? with
        | some o => if o.lo h.length = true then .ok (.ref h.length) (h'.take h.length ++ [o]) else .ok d h'
        | none => .ok d h')
      | _ => .ok d h'
  else .ok d h'
section
variable {K : PySem.W.Frag} {μ μ' : List Addr} {H H' : Hp} {hd hd' : Hd}
mutual
theorem Rep.back {n : Nat} (b : ∀ (k : Nat) (a : Addr), k < n → μ'[k]? = some a → μ[k]? = some a) {v : V} {d : D} (hb : d.lo n = true) : Rep K μ' H v d → Rep K μ H v d
  | .non => .non
  | .bl b => .bl b
  | .int i => .int i
  | .str x => .str x
  | .ty n => .ty n
  | .tup h r => .tup h (RepAll.back b (by unfold D.lo at hb; exact hb) r)
  | .rol h r => .rol h (RepAll.back b (by unfold D.lo at hb; exact hb) r)
  | .ref h => .ref (b _ _ (by unfold D.lo at hb; exact of_decide_eq_true hb) h)
  | .con a => .con a
theorem RepAll.back {n : Nat} (b : ∀ (k : Nat) (a : Addr), k < n → μ'[k]? = some a → μ[k]? = some a) {vs : List V} {ds : List D} (hb : D.loAll n ds = true) : RepAll K μ' H vs ds → RepAll K μ H vs ds
  | .nil => .nil
  | .cons r t => by
    unfold D.loAll at hb
    rw [Bool.and_eq_true] at hb
    exact .cons (Rep.back b hb.1 r) (RepAll.back b hb.2 t)
end
mutual
theorem Rep.lo {v : V} {d : D} : Rep K μ H v d → d.lo μ.length = true
  | .non => by unfold D.lo; rfl
  | .bl b => by unfold D.lo; rfl
  | .int i => by unfold D.lo; rfl
  | .str x => by unfold D.lo; rfl
  | .ty n => by unfold D.lo; rfl
  | .tup h r => by unfold D.lo; exact RepAll.lo r
  | .rol h r => by unfold D.lo; exact RepAll.lo r
  | .ref h => by unfold D.lo; exact decide_eq_true (List.getElem?_eq_some_iff.mp h).1
  | .con a => by unfold D.lo; rfl
theorem RepAll.lo {vs : List V} {ds : List D} : RepAll K μ H vs ds → D.loAll μ.length ds = true
  | .nil => by unfold D.loAll; rfl
  | .cons r t => by unfold D.loAll; rw [Rep.lo r, RepAll.lo t]; rfl
end
theorem KRep.back {n : Nat} (b : ∀ (k : Nat) (a : Addr), k < n → μ'[k]? = some a → μ[k]? = some a) : ∀ {vs : List (Key × V)} {ds : List (Key × D)}, KDs.lo n ds = true → KRep K μ' H vs ds → KRep K μ H vs ds
  | _, _, _, .nil => .nil
  | _, _, hb, .cons r t => by
    unfold KDs.lo at hb
    rw [Bool.and_eq_true] at hb
    exact .cons (r.back b hb.1) (KRep.back b hb.2 t)
theorem KRep.lo : ∀ {vs : List (Key × V)} {ds : List (Key × D)}, KRep K μ H vs ds → KDs.lo μ.length ds = true
  | _, _, .nil => rfl
  | _, _, .cons r t => by unfold KDs.lo; rw [r.lo, KRep.lo t]; rfl
theorem MRep.back {n : Nat} (b : ∀ (k : Nat) (a : Addr), k < n → μ'[k]? = some a → μ[k]? = some a) {a : Addr} {o : MO} (hb : o.lo n = true) (m : MRep K μ' H a o) : MRep K μ H a o := by
  cases o with
  | lst ds => obtain ⟨vs, q, r⟩ := m; exact ⟨vs, q, r.back b hb⟩
  | dK ds => obtain ⟨vs, q, r⟩ := m; exact ⟨vs, q, r.back b hb⟩
  | dF ds => obtain ⟨o, vs, q, r⟩ := m; exact ⟨o, vs, q, r.back b hb⟩
theorem MRep.lo {a : Addr} {o : MO} (m : MRep K μ H a o) : o.lo μ.length = true := by
  cases o with
  | lst ds => obtain ⟨vs, q, r⟩ := m; exact r.lo
  | dK ds => obtain ⟨vs, q, r⟩ := m; exact r.lo
  | dF ds => obtain ⟨o, vs, q, r⟩ := m; exact r.lo
theorem HRel.lo (r : HRel K μ H hd) {i : Nat} {o : MO} (h : hd[i]? = some o) : o.lo hd.length = true := by
  have hl : i < μ.length := by rw [r.len]; exact (List.getElem?_eq_some_iff.mp h).1
  have := (r.obj i μ[i] o (List.getElem?_eq_getElem hl) h).lo
  rw [r.len] at this
  exact this
theorem gc_back (hr : HRel K μ H hd) (hr' : HRel K μ' H' hd') (e : Ext μ H μ' H') (ok : OkBelow hd hd') : HRel K μ H' (hd'.take hd.length) ∧ Ext μ H μ H' ∧ ∀ (k : Nat) (a : Addr), k < hd.length → μ'[k]? = some a → μ[k]? = some a := by
  have b : ∀ (k : Nat) (a : Addr), k < hd.length → μ'[k]? = some a → μ[k]? = some a := fun k a hk h => by
    rw [← hr.len] at hk
    have q := e.nums k μ[k] (List.getElem?_eq_getElem hk)
    rw [h] at q
    rw [Option.some.inj q]
    exact List.getElem?_eq_getElem hk
  have hle : hd.length ≤ hd'.length := by
    rcases Nat.eq_zero_or_pos hd.length with z | z
    · omega
    · have hk : hd.length - 1 < μ.length := by rw [hr.len]; omega
      have q := e.nums _ _ (List.getElem?_eq_getElem hk)
      have q2 := (List.getElem?_eq_some_iff.mp q).1
      rw [hr'.len] at q2
      omega
  refine ⟨⟨by rw [List.length_take, hr.len]; omega, hr.nd, fun i a o h1 h2 => ?_⟩, ⟨fun _ _ h => h, e.tups, e.frzs, e.frzt⟩, b⟩
  have hi : i < hd.length := by rw [← hr.len]; exact (List.getElem?_eq_some_iff.mp h1).1
  rw [List.getElem?_take_of_lt hi] at h2
  refine (hr'.obj i a o (e.nums i a h1) h2).back b ?_
  rcases ok i o hi h2 with z | z
  · exact z
  · exact hr.lo z
theorem gc_fin {W : XW} {σ : L2.St} {d : D} {Q : VK} (hr : HRel K μ H hd) (f : FinG (RD K) K W μ H σ (gc hd d hd') Q) : FinG (RD K) K W μ H σ (.ok d hd') Q := by
  unfold gc at f
  split at f
  · rename_i ok
    split at f
    · rename_i hb
      intro μ' H' v e hr' rv
      obtain ⟨g1, g2, g3⟩ := gc_back hr hr' e ok
      exact f μ H' v g2 g1 (rv.back g3 hb)
    · rename_i hb
      split at f
      · rename_i m
        split at f
        · rename_i o ho
          split at f
          · rename_i hob
            intro μ' H' v e hr' rv
            obtain ⟨g1, g2, g3⟩ := gc_back hr hr' e ok
            cases rv with
            | ref hm =>
              rename_i a
              have hml : hd.length ≤ m := by
                unfold D.lo at hb
                simpa using hb
              have anew : ∀ k : Nat, μ[k]? ≠ some a := fun k h => by
                have q := hr'.nd k m a (e.nums k a h) hm
                have := (List.getElem?_eq_some_iff.mp h).1
                rw [hr.len] at this
                omega
              have ex : Ext μ H (μ ++ [a]) H' := ⟨fun n c h => by rw [List.getElem?_append_left (List.getElem?_eq_some_iff.mp h).1]; exact h, g2.tups, g2.frzs, g2.frzt⟩
              have ex' : Ext μ H' (μ ++ [a]) H' := ⟨ex.nums, fun _ _ h => h, fun _ _ _ h => h, fun _ _ _ h => h⟩
              have split : ∀ (n : Nat) (c : Addr), (μ ++ [a])[n]? = some c → (μ[n]? = some c ∧ n < hd.length) ∨ (n = hd.length ∧ c = a) := fun n c h => by
                rcases Nat.lt_or_ge n μ.length with z | z
                · rw [List.getElem?_append_left z] at h
                  exact .inl ⟨h, by rw [← hr.len]; exact z⟩
                · rw [List.getElem?_append_right z] at h
                  rcases Nat.lt_or_ge (n - μ.length) 1 with y | y
                  · have e : n = μ.length := by omega
                    subst e
                    simp at h
                    exact .inr ⟨hr.len, h.symm⟩
                  · rw [List.getElem?_eq_none (by simpa using y)] at h; cases h
              have hlt : (hd'.take hd.length).length = hd.length := by rw [← g1.len, hr.len]
              refine f (μ ++ [a]) H' (.ref a) ex ⟨by simp only [List.length_append, g1.len, List.length_singleton], fun n k c h1 h2 => ?_, fun n c u h1 h2 => ?_⟩ (.ref ?_)
              · rcases split n c h1 with ⟨x, _⟩ | ⟨x, rfl⟩
                · rcases split k c h2 with ⟨y, _⟩ | ⟨y, rfl⟩
                  · exact hr.nd n k c x y
                  · exact (anew n x).elim
                · rcases split k _ h2 with ⟨y, _⟩ | ⟨y, _⟩
                  · exact (anew k y).elim
                  · rw [x, y]
              · rcases split n c h1 with ⟨x, hl⟩ | ⟨x, rfl⟩
                · rw [List.getElem?_append_left (by rw [hlt]; exact hl)] at h2
                  exact (g1.obj n c u x h2).ext ex' rfl
                · subst x
                  rw [List.getElem?_append_right (by rw [hlt]; exact Nat.le_refl _), hlt] at h2
                  simp at h2
                  subst h2
                  exact ((hr'.obj m c o hm ho).back g3 hob).ext ex' rfl
              · rw [← hr.len, List.getElem?_append_right (Nat.le_refl _)]
                simp
          · exact f
        · exact f
      · exact f
  · exact f
end
/-- a def's body, run -/
noncomputable def SR.fin (h : Hd) (r : SR) : Res D := match r with
  | .nx _ h' => gc h .non h'
  | .rt d h' => gc h d h'
  | _ => .bad
noncomputable def runB (N : Nat) (body : SM) : List D → M D := fun ds h => (body (ds.map some ++ List.replicate (N - ds.length) none) h).fin h
theorem start_rel {K : PySem.W.Frag} {μ : List Addr} {H : Hp} {N : List Str} {vs : List V} {ds : List D} (r : RepAll K μ H vs ds) : SRel K μ H (L2.start N vs) (ds.map some ++ List.replicate (N.length - ds.length) none) := by
  refine ⟨by unfold L2.start; simp [r.length], fun i d h => ?_⟩
  unfold L2.start
  rcases Nat.lt_or_ge i ds.length with z | z
  · rw [List.getElem?_append_left (by simpa using z), List.getElem?_map] at h
    cases q : ds[i]? with
    | none => rw [q] at h; cases h
    | some d' =>
      rw [q] at h
      cases h
      obtain ⟨v, h1, h2⟩ := r.get q
      exact ⟨v, by rw [List.getElem?_append_left (by simpa [r.length] using z), List.getElem?_map, h1]; rfl, h2⟩
  · rw [List.getElem?_append_right (by simpa using z), List.getElem?_replicate] at h
    split at h <;> cases h
section
variable {P : Program} {w : World} {K : PySem.W.Frag} {mg : Str → Option Value} {base : Heap}
/-- a def of the text that keeps what its body over data says -/
structure Def (P : Program) (w : World) (K : PySem.W.Frag) (mg : Str → Option Value) (base : Heap) (k : Nat) (x : Str) (ps : List Str) (F : List D → M D) : Prop where
  ex : ∃ (f : Addr) (fd : FuncData), FnOk P w K mg base CX0 k f fd ps (spD K ps.length F) ∧ mg x = some (.ref f) ∧ PySem.W.keepIn K (.ref f) = true ∧ Binds K fd ps [] ∧ ∃ oc od osl, K.lookup f = some ⟨oc, od, .func fd, osl⟩
/-- a def as the top left it -/
structure Top (K : PySem.W.Frag) (mg : Str → Option Value) (x : Str) (st : Stmt) (ps : List Str) : Prop where
  ex : ∃ (f : Addr) (fd : FuncData), Fun K x x st f fd ∧ mg x = some (.ref f) ∧ Binds K fd ps []
theorem def_mk {x : Str} {st : Stmt} {N ps : List Str} {k : Nat} {body : SM} (T : Top K mg x st ps) (S : FnScope N ps (defScope st))
    (hb : ∀ (f : Addr) (cdv : Value) (A : Around) (outer : List Env) (s : Shared) (H : Hp) (E : XK), Room k (A.deeper (envOfC x (defScope st) s.heap.objs.size f cdv)) → DSs (cxOf CX0 P w K mg base N x (defScope st) f cdv A outer s H E).nox W0 (defBody st) body) :
    Def P w K mg base (k + 1) x ps (runB N.length body) := by
  obtain ⟨f, fd, F, hm, hb'⟩ := T.ex
  refine ⟨f, fd, F.ok S (fun vs H Q E ⟨μ, hd, ds, _, r, hl, _⟩ => by rw [r.length, hl]) (fun cdv A outer s H vs Q E hr h => ⟨_, (hb f cdv A outer s H E hr).ps, ?_⟩), hm, F.kp, hb', let ⟨oc, od, _, _, _, _, _, _, osl, _, lk, _⟩ := F.ex; ⟨oc, od, osl, lk⟩⟩
  obtain ⟨μ, hd, ds, hr, r, hl, q⟩ := h
  refine ⟨μ, _, hd, start_rel r, hr, ?_⟩
  unfold runB SR.fin at q
  cases z : body (ds.map some ++ List.replicate (N.length - ds.length) none) hd with
  | bad => rw [z] at q; exact q.elim
  | exc x s h => rw [z] at q; exact q.elim
  | nx s h => rw [z] at q; exact fun μ' H' σ' e hr' sr' => gc_fin hr q μ' H' .non e hr' .non
  | rt d h => rw [z] at q; exact fun μ' H' v e hr' rv => gc_fin hr q μ' H' v e hr' rv
variable {X : Cx} {x : Str} {ps : List Str} {k : Nat} {F : List D → M D} {e : Expr} {es : List Expr} {p pos : Pos} {mr : AM}
theorem de_def (G : Def X.prog X.w X.K X.mg X.base k x ps F) (hr : Room k X.A) (ha : DA X W0 (e :: es) mr)
    (hg : Gl X x := by rfl) (hdb : (x == ("__debug__" : Str)) = false := by decide) (he : starEach (e :: es) X.env = (false, eval e X.env) :: starEach es X.env := by rfl) (hpl : (backTo pos (starEach es X.env)).any (·.1) = false := by rfl) : DE X W0 (.Call (.Name x p) (e :: es) [] pos) (eA (eF ps.length F) mr) := by
  obtain ⟨f, fd, g, hm, hk, hb, _⟩ := G.ex
  exact de_call g hr hm hk hb ha hg hdb he hpl
end
end DL

namespace DL
open PySem PySem.Spec PyProof.Rows L2

/-! ### operations on data -/
/-- a list's items, whatever holds them -/
def lstOf (h : Hd) : D → Option (List D)
  | .rol xs => some xs
  | .ref n => (match h[n]? with
    | some (.lst xs) => some xs
    | _ => none)
  | _ => none
section
variable {K : PySem.W.Frag} {μ : List Addr} {H : Hp} {hd : Hd}
theorem lstOf_rep {x : V} {d : D} {ds : List D} (hr : HRel K μ H hd) (r : Rep K μ H x d) (e : lstOf hd d = some ds) : ∃ a vs, x = .ref a ∧ SqL K H a vs ∧ RepAll K μ H vs ds := by
  cases r with
  | rol hs ra => cases e; exact ⟨_, _, rfl, hs.seq, ra⟩
  | ref hn =>
    unfold lstOf at e
    simp only at e
    split at e
    · rename_i xs q
      cases e
      obtain ⟨vs, h1, h2⟩ := hr.obj _ _ _ hn q
      exact ⟨_, vs, rfl, .of h1, h2⟩
    · cases e
  | _ => cases e
def dAdd (x y : D) : M D := fun h => match x, y with
  | .int i, .int j => .ok (.int (i + j)) h
  | .int i, .bl b => .ok (.int (i + b2i b)) h
  | .str i, .str j => if i.length + j.length ≤ sizeLine then .ok (.str (i ++ j)) h else .bad
  | .tup xs, .tup ys => if xs.length + ys.length ≤ sizeLine then .ok (.tup (xs ++ ys)) h else .bad
  | .ref n, .ref m => (match h[n]?, h[m]? with
    | some (.lst xs), some (.lst ys) => if xs.length + ys.length ≤ sizeLine then .ok (.ref h.length) (h ++ [.lst (xs ++ ys)]) else .bad
    | _, _ => .bad)
  | _, _ => .bad
theorem fin_lst {W : XW} {σ : L2.St} {Q : VK} {vs : List V} {ds : List D} (hr : HRel K μ H hd) (r : RepAll K μ H vs ds) (f : FinG (RD K) K W μ H σ (.ok (.ref hd.length) (hd ++ [.lst ds])) Q) {p : Addr} (hp : H p = none) : Q (.ref p) (upd H p (.lst vs)) := by
  refine f (μ ++ [p]) _ _ (Ext.laid hp) (hr.laid hp ⟨vs, upd_same, r.ext (Ext.laid hp)⟩) (.ref ?_)
  rw [← hr.len, List.getElem?_append_right (Nat.le_refl _)]
  simp
theorem fin_tup {W : XW} {σ : L2.St} {Q : VK} {vs : List V} {ds : List D} (hr : HRel K μ H hd) (r : RepAll K μ H vs ds) (f : FinG (RD K) K W μ H σ (.ok (.tup ds) hd) Q) {p : Addr} (hp : H p = none) : Q (.ref p) (upd H p (.tup vs)) :=
  f μ _ _ (Ext.new hp) (hr.new hp) (.tup (.inl (.inl upd_same)) (r.ext (Ext.new hp)))
/-- a tuple's place may be any -/
theorem fin_tupA {W : XW} {σ : L2.St} {Q : VK} {vs : List V} {ds : List D} {a : Addr} (hr : HRel K μ H hd) (hs : SqT K H a vs) (r : RepAll K μ H vs ds) (f : FinG (RD K) K W μ H σ (.ok (.tup ds) hd) Q) : Q (.ref a) H := FinG.ok (R := RD K) f hr (.tup hs r)
theorem nil_of {vs : List V} {ds : List D} (r : RepAll K μ H vs ds) : vs = [] ↔ ds = [] := by
  cases r with
  | nil => simp
  | cons _ _ => simp
def rAddD (K : PySem.W.Frag) : R2 := fun x y H Q => (rI0 (fun i j => .int (i + j)) x y H Q) ∨ (∃ i k, x = .int i ∧ y = .bl k ∧ Q (.int (i + b2i k)) H) ∨ (∃ i j, x = .str i ∧ y = .str j ∧ i.length + j.length ≤ sizeLine ∧ Q (.str (i ++ j)) H) ∨ rCatA K x y H Q ∨ rCat x y H Q
theorem op_addD {X : Cx} : OpR X (binaryOp .Add) (rAddD X.K) := OpR.or op_add (OpR.or op_add_ib (OpR.or op_add_str (OpR.or op_catA op_cat)))
theorem lift_add : Lift2 K (rAddD K) dAdd := fun μ H hd x y dx dy W σ Q hr rx ry f => by
  cases rx with
  | int i =>
    cases ry with
    | int j => exact .inl ⟨_, _, rfl, rfl, FinG.ok (R := RD K) f hr (.int _)⟩
    | bl b => exact .inr (.inl ⟨_, _, rfl, rfl, FinG.ok (R := RD K) f hr (.int _)⟩)
    | _ => exact f.elim
  | str i =>
    cases ry with
    | str j =>
      unfold dAdd at f
      simp only at f
      split at f
      · rename_i hl
        exact .inr (.inr (.inl ⟨_, _, rfl, rfl, hl, FinG.ok (R := RD K) f hr (.str _)⟩))
      · exact f.elim
    | _ => exact f.elim
  | tup hs ra =>
    cases ry with
    | tup hs' ra' =>
      unfold dAdd at f
      simp only at f
      split at f
      · rename_i hl
        refine .inr (.inr (.inr (.inl ⟨_, _, _, _, rfl, rfl, hs, hs', by rw [ra.length, ra'.length]; exact hl, fun e => ?_, fun _ e => ?_, fun _ _ p hp => fin_tup hr (ra.append ra') f hp⟩)))
        · rw [(nil_of ra).mp e] at f
          exact fin_tupA hr hs' ra' f
        · rw [(nil_of ra').mp e, List.append_nil] at f
          exact fin_tupA hr hs ra f
      · exact f.elim
    | _ => exact f.elim
  | ref hn =>
    cases ry with
    | ref hm =>
      unfold dAdd at f
      simp only at f
      split at f
      · rename_i xs ys q1 q2
        obtain ⟨vs, h1, r1⟩ := hr.obj _ _ _ hn q1
        obtain ⟨ws, h2, r2⟩ := hr.obj _ _ _ hm q2
        split at f
        · rename_i hl
          exact .inr (.inr (.inr (.inr ⟨_, _, _, _, rfl, rfl, h1, h2, by rw [r1.length, r2.length]; exact hl, fun p hp => fin_lst hr (r1.append r2) f hp⟩)))
        · exact f.elim
      · exact f.elim
    | _ => exact f.elim
  | _ => exact f.elim
theorem de_add {X : Cx} {W : XW} {a b : Expr} {ma mb : EM} {pos : Pos} (ha : DE X W a ma) (hb : DE X W b mb) : DE X W (.BinOp a .Add b pos) (e2 dAdd ma mb) := de_op op_addD lift_add ha hb
/-- two ints, under a condition -/
def dII (C : Int → Int → Prop) [∀ i j, Decidable (C i j)] (g : Int → Int → D) (x y : D) : M D := fun h => match x, y with
  | .int i, .int j => if C i j then .ok (g i j) h else .bad
  | _, _ => .bad
theorem lift_II {C C' : Int → Int → Prop} [∀ i j, Decidable (C i j)] {g : Int → Int → D} {g' : Int → Int → V} (hc : ∀ i j, C i j → C' i j) (hg : ∀ K μ H i j, Rep K μ H (g' i j) (g i j)) : Lift2 K (rI C' g') (dII C g) := fun μ H hd x y dx dy W σ Q hr rx ry f => by
  cases rx with
  | int i =>
    cases ry with
    | int j =>
      unfold dII at f
      simp only at f
      split at f
      · rename_i h
        exact ⟨_, _, rfl, rfl, hc _ _ h, FinG.ok (R := RD K) f hr (hg _ _ _ _ _)⟩
      · exact f.elim
    | _ => exact f.elim
  | _ => exact f.elim
def dI0 (g : Int → Int → D) (x y : D) : M D := fun h => match x, y with
  | .int i, .int j => .ok (g i j) h
  | _, _ => .bad
theorem lift_I0 {g : Int → Int → D} {g' : Int → Int → V} (hg : ∀ K μ H i j, Rep K μ H (g' i j) (g i j)) : Lift2 K (rI0 g') (dI0 g) := fun μ H hd x y dx dy W σ Q hr rx ry f => by
  cases rx with
  | int i =>
    cases ry with
    | int j => exact ⟨_, _, rfl, rfl, FinG.ok (R := RD K) f hr (hg _ _ _ _ _)⟩
    | _ => exact f.elim
  | _ => exact f.elim
/-- the sizes that a product, a share may have -/
def MulOk (i j : Int) : Prop := i.natAbs.log2 + j.natAbs.log2 < 100000000
def DivOk (_ j : Int) : Prop := 0 < j ∧ j.natAbs.log2 < 9000
def PowOk (i j : Int) : Prop := 0 ≤ j ∧ j ≤ 1000000 ∧ i.natAbs < 2 ^ 64
theorem MulOk.x {i j : Int} (h : MulOk i j) : CMulX i j := by
  unfold MulOk at h
  have b : ∀ z : Int, Builtin.Int.intBits z ≤ z.natAbs.log2 + 1 := by
    intro z
    unfold Builtin.Int.intBits
    split
    · omega
    · omega
  have := b i
  have := b j
  unfold CMulX
  omega
instance (i j : Int) : Decidable (MulOk i j) := by unfold MulOk; infer_instance
instance (i j : Int) : Decidable (DivOk i j) := by unfold DivOk; infer_instance
instance (i j : Int) : Decidable (PowOk i j) := by unfold PowOk; infer_instance
def dSub : D → D → M D := dI0 fun i j => .int (i - j)
def dMul : D → D → M D := dII MulOk fun i j => .int (i * j)
def dDiv : D → D → M D := dII DivOk fun i j => .int (i / j)
def dMod : D → D → M D := dII (fun _ j => 0 < j) fun i j => .int (i % j)
def dPow : D → D → M D := dII PowOk fun i j => .int (i ^ j.toNat)
section
variable {X : Cx} {W : XW} {a b : Expr} {ma mb : EM} {pos : Pos}
theorem de_sub (ha : DE X W a ma) (hb : DE X W b mb) : DE X W (.BinOp a .Sub b pos) (e2 dSub ma mb) := de_op op_sub (lift_I0 fun _ _ _ _ _ => .int _) ha hb
theorem de_mul (ha : DE X W a ma) (hb : DE X W b mb) : DE X W (.BinOp a .Mult b pos) (e2 dMul ma mb) := de_op op_mulX (lift_II (fun _ _ h => h.x) fun _ _ _ _ _ => .int _) ha hb
theorem de_div (ha : DE X W a ma) (hb : DE X W b mb) : DE X W (.BinOp a .FloorDiv b pos) (e2 dDiv ma mb) := de_op op_fdivW (lift_II (fun _ _ h => h) fun _ _ _ _ _ => .int _) ha hb
theorem de_mod (ha : DE X W a ma) (hb : DE X W b mb) : DE X W (.BinOp a .Mod b pos) (e2 dMod ma mb) := de_op op_mod (lift_II (fun _ _ h => h) fun _ _ _ _ _ => .int _) ha hb
theorem de_pow (ha : DE X W a ma) (hb : DE X W b mb) : DE X W (.BinOp a .Pow b pos) (e2 dPow ma mb) := de_op op_pow (lift_II (fun _ _ h => h) fun _ _ _ _ _ => .int _) ha hb
end
def dNeg (x : D) : M D := fun h => match x with
  | .int i => .ok (.int (-i)) h
  | _ => .bad
theorem de_neg {X : Cx} {W : XW} {a : Expr} {ma : EM} {pos : Pos} (ha : DE X W a ma) : DE X W (.UnaryOp .USub a pos) (e1 dNeg ma) := de_un un_neg (fun μ H hd x dx W σ Q hr rx f => by
  cases rx with
  | int i => exact ⟨_, rfl, FinG.ok (R := RD X.K) f hr (.int _)⟩
  | _ => exact f.elim) ha
/-- order: ints, texts -/
def dOrd (p : Int → Int → Bool) (q : Str → Str → Bool) (x y : D) : M D := fun h => match x, y with
  | .int i, .int j => .ok (.bl (p i j)) h
  | .str i, .str j => .ok (.bl (q i j)) h
  | _, _ => .bad
def rOrd (p : Int → Int → Bool) (q : Str → Str → Bool) : R2 := fun x y H Q => rI0 (fun i j => .bl (p i j)) x y H Q ∨ ∃ i j, x = .str i ∧ y = .str j ∧ Q (.bl (q i j)) H
theorem lift_ord {p : Int → Int → Bool} {q : Str → Str → Bool} : Lift2 K (rOrd p q) (dOrd p q) := fun μ H hd x y dx dy W σ Q hr rx ry f => by
  cases rx with
  | int i =>
    cases ry with
    | int j => exact .inl ⟨_, _, rfl, rfl, FinG.ok (R := RD K) f hr (.bl _)⟩
    | _ => exact f.elim
  | str i =>
    cases ry with
    | str j => exact .inr ⟨_, _, rfl, rfl, FinG.ok (R := RD K) f hr (.bl _)⟩
    | _ => exact f.elim
  | _ => exact f.elim
def strLt (i j : Str) : Bool := decide (i.cps.toList < j.cps.toList)
def dLt : D → D → M D := dOrd (fun i j => decide (i < j)) strLt
def dGt : D → D → M D := dOrd (fun i j => decide (j < i)) fun i j => strLt j i
def dLe : D → D → M D := dOrd (fun i j => decide (i ≤ j)) fun i j => !strLt j i
def dGe : D → D → M D := dOrd (fun i j => decide (j ≤ i)) fun i j => !strLt i j
theorem op_ltD {X : Cx} : OpR X (compareOp .Lt) (rOrd (fun i j => decide (i < j)) strLt) := OpR.or op_lt op_lt_str
theorem op_gtD {X : Cx} : OpR X (compareOp .Gt) (rOrd (fun i j => decide (j < i)) fun i j => strLt j i) := OpR.or op_gt op_gt_str
theorem op_leD {X : Cx} : OpR X (compareOp .LtE) (rOrd (fun i j => decide (i ≤ j)) fun i j => !strLt j i) := OpR.or op_le op_le_str
theorem op_geD {X : Cx} : OpR X (compareOp .GtE) (rOrd (fun i j => decide (j ≤ i)) fun i j => !strLt i j) := OpR.or op_ge op_ge_str
/-! equality of data at any depth -/
mutual
def D.py : D → Option PyData
  | .non => some .none
  | .bl b => some (.bool b)
  | .int i => some (.int i)
  | .str x => some (.str x)
  | .tup xs => (D.pyAll xs).map .tuple
  | .rol xs => (D.pyAll xs).map .list
  | .ty _ => none
  | .ref _ => none
  | .con _ => none
def D.pyAll : List D → Option (List PyData)
  | [] => some []
  | x :: xs => match D.py x, D.pyAll xs with
    | some a, some b => some (a :: b)
    | _, _ => none
end
def pyH (h : Hd) (d : D) : Option PyData := match d with
  | .ref n => (match h[n]? with
    | some (.lst xs) => (D.pyAll xs).map .list
    | _ => none)
  | d => d.py
mutual
theorem py_rep {v : V} {d : D} {p : PyData} (e : D.py d = some p) : Rep K μ H v d → Dp K H v p
  | .non => by unfold D.py at e; cases e; exact .non
  | .bl b => by unfold D.py at e; cases e; exact .bl b
  | .int i => by unfold D.py at e; cases e; exact .int i
  | .str x => by unfold D.py at e; cases e; exact .str x
  | .ty n => by unfold D.py at e; cases e
  | .tup h r => by
    unfold D.py at e
    obtain ⟨ps, e1, e2⟩ := Option.map_eq_some_iff.mp e
    cases e2
    exact .tup h (pyAll_rep e1 r)
  | .rol h r => by
    unfold D.py at e
    obtain ⟨ps, e1, e2⟩ := Option.map_eq_some_iff.mp e
    cases e2
    exact .lst h.seq (pyAll_rep e1 r)
  | .ref h => by unfold D.py at e; cases e
  | .con a => by unfold D.py at e; cases e
theorem pyAll_rep {vs : List V} {ds : List D} {ps : List PyData} (e : D.pyAll ds = some ps) : RepAll K μ H vs ds → DpAll K H vs ps
  | .nil => by unfold D.pyAll at e; cases e; exact .nil
  | .cons r t => by
    unfold D.pyAll at e
    split at e
    · rename_i a b e1 e2
      cases e
      exact .cons (py_rep e1 r) (pyAll_rep e2 t)
    · cases e
end
theorem pyH_rep {v : V} {d : D} {p : PyData} (hr : HRel K μ H hd) (e : pyH hd d = some p) (r : Rep K μ H v d) : Dp K H v p := by
  unfold pyH at e
  split at e
  · split at e
    · rename_i xs q
      obtain ⟨ps, e1, e2⟩ := Option.map_eq_some_iff.mp e
      cases e2
      cases r with
      | ref hn =>
        obtain ⟨vs, h1, h2⟩ := hr.obj _ _ _ hn q
        exact .lst (.of h1) (pyAll_rep e1 h2)
    · cases e
  · exact py_rep e r
def dEqn (neg : Bool) (x y : D) : M D := fun h => match pyH h x, pyH h y with
  | some p, some q => if SeqAt.shaped p = true ∧ SeqAt.shaped q = true then .ok (.bl (neg ^^ PyData.eqv p q)) h else .bad
  | _, _ => .bad
def dEq : D → D → M D := dEqn false
def dNe : D → D → M D := dEqn true
theorem lift_eq {neg : Bool} : Lift2 K (fun x y H Q => ∃ d e, Dp K H x d ∧ Dp K H y e ∧ SeqAt.shaped d = true ∧ SeqAt.shaped e = true ∧ Q (.bl (neg ^^ PyData.eqv d e)) H) (dEqn neg) := fun μ H hd x y dx dy W σ Q hr rx ry f => by
  unfold dEqn at f
  split at f
  · rename_i p q e1 e2
    split at f
    · rename_i hs
      exact ⟨p, q, pyH_rep hr e1 rx, pyH_rep hr e2 ry, hs.1, hs.2, FinG.ok (R := RD K) f hr (.bl _)⟩
    · exact f.elim
  · exact f.elim
theorem op_eqD' {X : Cx} (hu : X.A.units + 64 < cLine) : OpR X (compareOp .Eq) (fun x y H Q => ∃ d e, Dp X.K H x d ∧ Dp X.K H y e ∧ SeqAt.shaped d = true ∧ SeqAt.shaped e = true ∧ Q (.bl (false ^^ PyData.eqv d e)) H) := by
  have e : (fun (x y : V) (H : Hp) (Q : VK) => ∃ d e, Dp X.K H x d ∧ Dp X.K H y e ∧ SeqAt.shaped d = true ∧ SeqAt.shaped e = true ∧ Q (.bl (false ^^ PyData.eqv d e)) H) = rEqD X.K := by
    funext x y H Q
    unfold rEqD
    simp only [Bool.false_xor]
  rw [e]
  exact op_eqD hu
theorem op_neD' {X : Cx} (hu : X.A.units + 64 < cLine) : OpR X (compareOp .NotEq) (fun x y H Q => ∃ d e, Dp X.K H x d ∧ Dp X.K H y e ∧ SeqAt.shaped d = true ∧ SeqAt.shaped e = true ∧ Q (.bl (true ^^ PyData.eqv d e)) H) := by
  have e : (fun (x y : V) (H : Hp) (Q : VK) => ∃ d e, Dp X.K H x d ∧ Dp X.K H y e ∧ SeqAt.shaped d = true ∧ SeqAt.shaped e = true ∧ Q (.bl (true ^^ PyData.eqv d e)) H) = rNeD X.K := by
    funext x y H Q
    unfold rNeD
    simp only [Bool.true_xor]
  rw [e]
  exact op_neD hu
/-! is True, is False, is None -/
def isD (neg : Bool) (x y : D) : M D := fun h => match y with
  | .non => .ok (.bl (neg ^^ (match x with | .non => true | _ => false))) h
  | .bl b => .ok (.bl (neg ^^ (match x with | .bl c => decide (c = b) | _ => false))) h
  | _ => .bad
def rIsD (neg : Bool) : R2 := fun x y H Q => (y = .non ∧ Q (.bl (neg ^^ decide (x = .non))) H) ∨ ∃ b, y = .bl b ∧ Q (.bl (neg ^^ decide (x = .bl b))) H
theorem is_v_bool {M : Model} {A : Around} {E : Value → Shared → Prop} {s : Shared} {Q : Value → Shared → Prop} {x : V} {v : Value} {b : Bool} (r : RelV x v) (h : Q (.bool (v == .bool b)) s) : wpAny M A (compareOp .Is v (.bool b)) Q E s := by
  cases x with
  | int _ => obtain ⟨t, rfl⟩ := r; exact wpAny_pure h
  | str _ => obtain ⟨t, rfl⟩ := r; exact wpAny_pure h
  | byt _ => obtain ⟨t, rfl⟩ := r; exact wpAny_pure h
  | flt _ => obtain ⟨t, rfl⟩ := r; exact wpAny_pure h
  | _ => cases r; exact wpAny_pure h
theorem isnot_v_bool {M : Model} {A : Around} {E : Value → Shared → Prop} {s : Shared} {Q : Value → Shared → Prop} {x : V} {v : Value} {b : Bool} (r : RelV x v) (h : Q (.bool (!(v == .bool b))) s) : wpAny M A (compareOp .IsNot v (.bool b)) Q E s := by
  cases x with
  | int _ => obtain ⟨t, rfl⟩ := r; exact wpAny_pure h
  | str _ => obtain ⟨t, rfl⟩ := r; exact wpAny_pure h
  | byt _ => obtain ⟨t, rfl⟩ := r; exact wpAny_pure h
  | flt _ => obtain ⟨t, rfl⟩ := r; exact wpAny_pure h
  | _ => cases r; exact wpAny_pure h
theorem rel_bool {x : V} {v : Value} {b : Bool} (r : RelV x v) : (v == Value.bool b) = decide (x = .bl b) := by
  cases x with
  | bl c => cases r; cases b <;> cases c <;> rfl
  | non => cases r; rfl
  | int _ => obtain ⟨t, rfl⟩ := r; rfl
  | str _ => obtain ⟨t, rfl⟩ := r; rfl
  | byt _ => obtain ⟨t, rfl⟩ := r; rfl
  | flt _ => obtain ⟨t, rfl⟩ := r; rfl
  | ref _ => cases r; rfl
  | ty _ => cases r; rfl
theorem op_isD {X : Cx} : OpR X (compareOp .Is) (rIsD false) := by
  intro pins s σ H x y v u Q I rx ry h
  rcases h with ⟨rfl, q⟩ | ⟨b, rfl, q⟩
  · cases ry
    exact is_none_gen ⟨.bl _, H, I, by rw [rx.none_iff]; rfl, by simpa using q⟩
  · cases ry
    exact is_v_bool rx ⟨.bl _, H, I, by rw [rel_bool rx]; rfl, by simpa using q⟩
theorem op_notD {X : Cx} : OpR X (compareOp .IsNot) (rIsD true) := by
  intro pins s σ H x y v u Q I rx ry h
  rcases h with ⟨rfl, q⟩ | ⟨b, rfl, q⟩
  · cases ry
    exact isnot_none_gen ⟨.bl _, H, I, by rw [rx.none_iff]; rfl, by simpa using q⟩
  · cases ry
    exact isnot_v_bool rx ⟨.bl _, H, I, by rw [rel_bool rx]; rfl, by simpa using q⟩
theorem lift_is {neg : Bool} : Lift2 K (rIsD neg) (isD neg) := fun μ H hd x y dx dy W σ Q hr rx ry f => by
  cases ry with
  | non =>
    refine .inl ⟨rfl, ?_⟩
    cases rx <;> exact FinG.ok (R := RD K) f hr (.bl _)
  | bl b =>
    refine .inr ⟨b, rfl, ?_⟩
    cases rx with
    | bl c =>
      have e : decide (V.bl c = V.bl b) = decide (c = b) := by cases b <;> cases c <;> rfl
      rw [e]
      exact FinG.ok (R := RD K) f hr (.bl _)
    | _ => exact FinG.ok (R := RD K) f hr (.bl _)
  | _ => exact f.elim
/-! subscripts -/
def dIx (x y : D) : M D := fun h => match y with
  | .int i => (match x with
    | .tup xs => (match atI xs i with
      | some d => .ok d h
      | none => .bad)
    | .str z => if z.length ≤ sizeLine then (match atI z.cps.toList i with
      | some c => .ok (.str ⟨#[c]⟩) h
      | none => .bad) else .bad
    | d => (match lstOf h d with
      | some xs => (match atI xs i with
        | some d => .ok d h
        | none => .bad)
      | none => .bad))
  | _ => .bad
theorem at_rep {vs : List V} {ds : List D} {i : Int} {d : D} (r : RepAll K μ H vs ds) (e : atI ds i = some d) : ∃ v, atI vs i = some v ∧ Rep K μ H v d := by
  unfold atI at e ⊢
  rw [r.length]
  cases q : ixN ds.length i with
  | none => rw [q] at e; cases e
  | some j =>
    rw [q] at e
    exact r.get e
theorem lift_ix : Lift2 K (rIx K) dIx := fun μ H hd x y dx dy W σ Q hr rx ry f => by
  cases ry with
  | int i =>
    unfold dIx at f
    simp only at f
    split at f
    · split at f
      · rename_i q
        cases rx with
        | tup hs ra =>
          obtain ⟨v, h1, h2⟩ := at_rep ra q
          exact .inr (.inl ⟨_, _, _, v, rfl, rfl, hs, h1, FinG.ok (R := RD K) f hr h2⟩)
      · exact f.elim
    · split at f
      · rename_i hl
        split at f
        · rename_i c q
          cases rx with
          | str z => exact .inr (.inr ⟨_, _, c, rfl, rfl, hl, q, FinG.ok (R := RD K) f hr (.str _)⟩)
        · exact f.elim
      · exact f.elim
    · split at f
      · rename_i ds q
        split at f
        · rename_i d q2
          obtain ⟨a, vs, rfl, h1, ra⟩ := lstOf_rep hr rx q
          obtain ⟨v, h2, h3⟩ := at_rep ra q2
          exact .inl ⟨_, _, _, v, rfl, rfl, h1, h2, FinG.ok (R := RD K) f hr h3⟩
        · exact f.elim
      · exact f.elim
  | _ => exact f.elim
theorem de_ixD {X : Cx} {W : XW} {a b : Expr} {ma mb : EM} {pos : Pos} (ha : DE X W a ma) (hb : DE X W b mb) (hs : PlainIx b := by exact fun _ _ => rfl) : DE X W (.Subscript a b pos) (e2 dIx ma mb) := de_ix ix_seq lift_ix ha hb hs
/-- xs[i] = v -/
def dSetL (x y z : D) : Hd → Res Unit := fun h => match x, y with
  | .ref n, .int i => (match h[n]? with
    | some (.lst xs) => (match ixN xs.length i with
      | some j => .ok () (h.set n (.lst (xs.set j z)))
      | none => .bad)
    | _ => .bad)
  | _, _ => .bad
theorem lift_setL : LiftSet K rSetL dSetL := fun μ H hd x y z dx dy dz W σ Q hr rx ry rz f => by
  cases rx with
  | ref hn =>
    cases ry with
    | int i =>
      unfold dSetL at f
      simp only at f
      split at f
      · rename_i xs q
        split at f
        · rename_i j q2
          obtain ⟨vs, h1, ra⟩ := hr.obj _ _ _ hn q
          have ex : Ext μ H μ (upd H _ (.lst (vs.set j z))) := Ext.write h1 trivial
          refine ⟨_, vs, i, j, rfl, rfl, h1, by rw [ra.length]; exact q2, f μ _ () ex (hr.write hn h1 trivial ⟨_, upd_same, (ra.ext ex).set (rz.ext ex) j⟩) trivial⟩
        · exact f.elim
      · exact f.elim
    | _ => exact f.elim
  | _ => exact f.elim
end
end DL

namespace DL
open PySem PySem.Spec PyProof.Rows L2
section
variable {K : PySem.W.Frag} {μ : List Addr} {H : Hp} {hd : Hd}
/-! ### built-in functions on data -/
def ty0 (h : Hd) : D → Option String
  | .non => some "NoneType"
  | .bl _ => some "bool"
  | .int _ => some "int"
  | .str _ => some "str"
  | .tup _ => some "tuple"
  | .rol _ => some "list"
  | .ref n => (match h[n]? with
    | some (.lst _) => some "list"
    | some (.dK _) => some "dict"
    | some (.dF _) => some "dict"
    | none => none)
  | _ => none
theorem ty0_rep {x : V} {d : D} {t : String} (hr : HRel K μ H hd) (r : Rep K μ H x d) (e : ty0 hd d = some t) : TyX K H x (.type t) := by
  cases r with
  | non => cases e; exact .base .non
  | bl b => cases e; exact .base (.bl b)
  | int i => cases e; exact .base (.int i)
  | str i => cases e; exact .base (.str i)
  | ty i => cases e
  | con i => cases e
  | tup h _ =>
    cases e
    rcases h with (h | ⟨o, h⟩) | ⟨o, its, n, h, c, _⟩
    · exact .base (.tup h)
    · exact .fTuple h
    · exact .kTuple h c
  | rol h _ =>
    cases e
    rcases h with ⟨o, h⟩ | ⟨o, its, n, h, c, _⟩
    · exact .base (.frz h)
    · exact .kList h c
  | ref hn =>
    unfold ty0 at e
    simp only at e
    split at e
    · rename_i xs q
      cases e
      obtain ⟨vs, h1, _⟩ := hr.obj _ _ _ hn q
      exact .base (.lst h1)
    · rename_i xs q
      cases e
      obtain ⟨vs, h1, _⟩ := hr.obj _ _ _ hn q
      exact .base (.dK h1)
    · rename_i xs q
      cases e
      obtain ⟨o, vs, h1, _⟩ := hr.obj _ _ _ hn q
      exact .fDict h1
    · cases e
def bIsi (ds : List D) : M D := fun h => match ds with
  | [x, .ty c] => (match ty0 h x with
    | some t => (match kitB t c with
      | some b => .ok (.bl b) h
      | none => .bad)
    | none => .bad)
  | _ => .bad
theorem lift_isi : LiftN K (rIsi K) bIsi := fun μ H hd xs dx W σ Q hr rx f => by
  unfold bIsi at f
  split at f
  · rename_i x c
    split at f
    · rename_i t et
      split at f
      · rename_i b eb
        cases rx with
        | cons r1 rr =>
          cases rr with
          | cons r2 rr2 =>
            cases rr2
            cases r2 with
            | ty c => exact ⟨_, _, .type t, .type c, b, rfl, .ty c, ty0_rep hr r1 et, kit_ty eb, FinG.ok (R := RD K) f hr (.bl b)⟩
      · exact f.elim
    · exact f.elim
  · exact f.elim
theorem de_tyname {X : Cx} {W : XW} {x : Str} {n : String} {pos : Pos} (hm : X.mg x = none) (hg : Gl X x := by rfl) (hv : bootBuiltins x = some (.type n) := by decide +kernel) (hn : x ≠ "__name__" := by decide) (hd : (x == ("__debug__" : Str)) = false := by decide) : DE X W (.Name x pos) (eC (.ty n)) :=
  de_c (pe_bltn (v := .ty n) hg hm hv rfl hn hd) fun _ _ => .ty n
def len0 (h : Hd) : D → Option Nat
  | .str z => if z.length ≤ sizeLine then some z.length else none
  | .tup xs => some xs.length
  | .rol xs => some xs.length
  | .ref n => (match h[n]? with
    | some (.lst xs) => some xs.length
    | some (.dK xs) => some xs.length
    | _ => none)
  | _ => none
def bLen (ds : List D) : M D := fun h => match ds with
  | [x] => (match len0 h x with
    | some n => .ok (.int n) h
    | none => .bad)
  | _ => .bad
def rLenA (K : PySem.W.Frag) : List V → Hp → VK → Prop := fun xs H Q => (∃ x n, xs = [x] ∧ LenV K x H n ∧ Q (.int n) H) ∨ ∃ a kvs, xs = [V.ref a] ∧ H a = some (.dK kvs) ∧ Q (.int kvs.length) H
theorem KRep.length : ∀ {vs : List (Key × V)} {ds : List (Key × D)}, KRep K μ H vs ds → vs.length = ds.length
  | _, _, .nil => rfl
  | _, _, .cons _ t => by rw [List.length_cons, List.length_cons, KRep.length t]
theorem lift_len : LiftN K (rLenA K) bLen := fun μ H hd xs dx W σ Q hr rx f => by
  unfold bLen at f
  split at f
  · rename_i x
    split at f
    · rename_i n en
      cases rx with
      | cons r1 rr =>
        cases rr
        have q := FinG.ok (R := RD K) f hr (.int n)
        cases r1 with
        | str z =>
          unfold len0 at en
          simp only at en
          split at en
          · rename_i hl
            cases en
            exact .inl ⟨_, _, rfl, ⟨hl, rfl⟩, q⟩
          · cases en
        | tup hs ra => cases en; exact .inl ⟨_, _, rfl, .inr ⟨_, hs, ra.length.symm⟩, q⟩
        | rol hs ra => cases en; exact .inl ⟨_, _, rfl, .inl ⟨_, hs.seq, ra.length.symm⟩, q⟩
        | ref hn =>
          unfold len0 at en
          simp only at en
          split at en
          · rename_i xs e
            cases en
            obtain ⟨vs, h1, ra⟩ := hr.obj _ _ _ hn e
            exact .inl ⟨_, _, rfl, .inl ⟨_, .of h1, ra.length.symm⟩, q⟩
          · rename_i xs e
            cases en
            obtain ⟨vs, h1, ra⟩ := hr.obj _ _ _ hn e
            exact .inr ⟨_, _, rfl, h1, by rw [ra.length]; exact q⟩
          · cases en
        | _ => cases en
    · exact f.elim
  · exact f.elim
theorem call_lenA {X : Cx} : CallR X (.builtin "len") (rLenA X.K) := CallR.or call_len fun pins s σ H xs us Q I r ⟨a, kvs, e, h, q⟩ => call_lenD pins s σ H xs us Q I r ⟨a, kvs, e, h, q⟩
/-- all, any of a list of truths -/
def bools : List D → Option (List Bool)
  | [] => some []
  | .bl b :: r => (bools r).map (b :: ·)
  | _ :: _ => none
theorem bools_rep : ∀ {vs : List V} {ds : List D} {bs : List Bool}, RepAll K μ H vs ds → bools ds = some bs → vs = bs.map V.bl
  | _, _, _, .nil, e => by cases e; rfl
  | _, _, _, .cons r t, e => by
    cases r with
    | bl b =>
      unfold bools at e
      obtain ⟨cs, e1, e2⟩ := Option.map_eq_some_iff.mp e
      subst e2
      rw [bools_rep t e1]
      rfl
    | _ => cases e
def bAll (ds : List D) : M D := fun h => match ds with
  | [x] => (match (lstOf h x).bind bools with
    | some bs => .ok (.bl (bs.all id)) h
    | none => .bad)
  | _ => .bad
def bAny (ds : List D) : M D := fun h => match ds with
  | [x] => (match (lstOf h x).bind bools with
    | some bs => .ok (.bl (bs.any id)) h
    | none => .bad)
  | _ => .bad
theorem bools_of {x : V} {d : D} {bs : List Bool} (hr : HRel K μ H hd) (r : Rep K μ H x d) (e : (lstOf hd d).bind bools = some bs) : ∃ a, x = .ref a ∧ SqL K H a (bs.map V.bl) := by
  obtain ⟨ds, e1, e2⟩ := Option.bind_eq_some_iff.mp e
  obtain ⟨a, vs, rfl, h, ra⟩ := lstOf_rep hr r e1
  rw [bools_rep ra e2] at h
  exact ⟨a, rfl, h⟩
theorem lift_all : LiftN K (rAll K) bAll := fun μ H hd xs dx W σ Q hr rx f => by
  unfold bAll at f
  split at f
  · split at f
    · rename_i bs e
      cases rx with
      | cons r1 rr =>
        cases rr
        obtain ⟨a, rfl, h⟩ := bools_of hr r1 e
        exact ⟨a, bs, rfl, h, FinG.ok (R := RD K) f hr (.bl _)⟩
    · exact f.elim
  · exact f.elim
theorem lift_any : LiftN K (rAny K) bAny := fun μ H hd xs dx W σ Q hr rx f => by
  unfold bAny at f
  split at f
  · split at f
    · rename_i bs e
      cases rx with
      | cons r1 rr =>
        cases rr
        obtain ⟨a, rfl, h⟩ := bools_of hr r1 e
        exact ⟨a, bs, rfl, h, FinG.ok (R := RD K) f hr (.bl _)⟩
    · exact f.elim
  · exact f.elim
def bII (g : Int → Int → Int) (ds : List D) : M D := fun h => match ds with
  | [.int i, .int j] => .ok (.int (g i j)) h
  | _ => .bad
theorem lift_bII {g : Int → Int → Int} : LiftN K (fun xs H Q => ∃ i j, xs = [.int i, .int j] ∧ Q (.int (g i j)) H) (bII g) := fun μ H hd xs dx W σ Q hr rx f => by
  unfold bII at f
  split at f
  · cases rx with
    | cons r1 rr =>
      cases rr with
      | cons r2 rr2 =>
        cases rr2
        cases r1
        cases r2
        exact ⟨_, _, rfl, FinG.ok (R := RD K) f hr (.int _)⟩
  · exact f.elim
def bMax2 : List D → M D := bII fun i j => if j > i then j else i
def bMin2 : List D → M D := bII fun i j => if j < i then j else i
/-- one argument, by cases -/
def bInt (ds : List D) : M D := fun h => match ds with
  | [.int i] => .ok (.int i) h
  | [.bl b] => .ok (.int (if b then 1 else 0)) h
  | _ => .bad
theorem lift_int : LiftN K (fun xs H Q => (∃ i, xs = [.int i] ∧ Q (.int i) H) ∨ ∃ k, xs = [.bl k] ∧ Q (.int (if k then 1 else 0)) H) bInt := fun μ H hd xs dx W σ Q hr rx f => by
  unfold bInt at f
  split at f
  · cases rx with
    | cons r1 rr => cases rr; cases r1; exact .inl ⟨_, rfl, FinG.ok (R := RD K) f hr (.int _)⟩
  · cases rx with
    | cons r1 rr => cases rr; cases r1; exact .inr ⟨_, rfl, FinG.ok (R := RD K) f hr (.int _)⟩
  · exact f.elim
def bStr (ds : List D) : M D := fun h => match ds with
  | [.int i] => if i.natAbs.log2 < 1920 then .ok (.str (toString i)) h else .bad
  | _ => .bad
theorem lift_str : LiftN K (fun xs H Q => ∃ i, xs = [.int i] ∧ i.natAbs.log2 < 1920 ∧ Q (.str (toString i)) H) bStr := fun μ H hd xs dx W σ Q hr rx f => by
  unfold bStr at f
  split at f
  · cases rx with
    | cons r1 rr =>
      cases rr
      cases r1
      split at f
      · rename_i hl
        exact ⟨_, rfl, hl, FinG.ok (R := RD K) f hr (.str _)⟩
      · exact f.elim
  · exact f.elim
def bDivmod (ds : List D) : M D := fun h => match ds with
  | [.int i, .int j] => if DivOk i j then .ok (.tup [.int (i / j), .int (i % j)]) h else .bad
  | _ => .bad
theorem lift_divmod : LiftN K (fun xs H Q => ∃ i j, xs = [.int i, .int j] ∧ CDivP i j ∧ ∀ p, H p = none → Q (.ref p) (upd H p (.tup [.int (i / j), .int (i % j)]))) bDivmod := fun μ H hd xs dx W σ Q hr rx f => by
  unfold bDivmod at f
  split at f
  · cases rx with
    | cons r1 rr =>
      cases rr with
      | cons r2 rr2 =>
        cases rr2
        cases r1
        cases r2
        split at f
        · rename_i i j hc
          exact ⟨_, _, rfl, ⟨hc.1, PyProof.noPylong_of_log2 hc.2⟩, fun p hp => fin_tup hr (.cons (.int _) (.cons (.int _) .nil)) f hp⟩
        · exact f.elim
  · exact f.elim
def bTuple (ds : List D) : M D := fun h => match ds with
  | [.tup xs] => .ok (.tup xs) h
  | [x] => (match lstOf h x with
    | some xs => .ok (.tup xs) h
    | none => .bad)
  | _ => .bad
theorem lift_tuple : LiftN K (fun xs H Q => ∃ p ys, xs = [.ref p] ∧ ((SqL K H p ys ∧ ∀ l, H l = none → Q (.ref l) (upd H l (.tup ys))) ∨ (SqT K H p ys ∧ Q (.ref p) H))) bTuple := fun μ H hd xs dx W σ Q hr rx f => by
  unfold bTuple at f
  split at f
  · cases rx with
    | cons r1 rr =>
      cases rr
      cases r1 with
      | tup hs ra => exact ⟨_, _, rfl, .inr ⟨hs, fin_tupA hr hs ra f⟩⟩
  · split at f
    · rename_i ds e
      cases rx with
      | cons r1 rr =>
        cases rr
        obtain ⟨a, vs, rfl, h1, ra⟩ := lstOf_rep hr r1 e
        exact ⟨a, vs, rfl, .inl ⟨h1, fun l hl => fin_tup hr ra f hl⟩⟩
    · exact f.elim
  · exact f.elim
def bList (ds : List D) : M D := fun h => match ds with
  | [.tup xs] => .ok (.ref h.length) (h ++ [.lst xs])
  | [x] => (match lstOf h x with
    | some xs => .ok (.ref h.length) (h ++ [.lst xs])
    | none => .bad)
  | _ => .bad
theorem lift_list : LiftN K (fun xs H Q => ∃ p ys, xs = [.ref p] ∧ (SqL K H p ys ∨ SqT K H p ys) ∧ ∀ l, H l = none → Q (.ref l) (upd H l (.lst ys))) bList := fun μ H hd xs dx W σ Q hr rx f => by
  unfold bList at f
  split at f
  · cases rx with
    | cons r1 rr =>
      cases rr
      cases r1 with
      | tup hs ra => exact ⟨_, _, rfl, .inr hs, fun l hl => fin_lst hr ra f hl⟩
  · split at f
    · rename_i ds e
      cases rx with
      | cons r1 rr =>
        cases rr
        obtain ⟨a, vs, rfl, h1, ra⟩ := lstOf_rep hr r1 e
        exact ⟨a, vs, rfl, .inl h1, fun l hl => fin_lst hr ra f hl⟩
    · exact f.elim
  · exact f.elim
/-! slices -/
abbrev OM := Sl → M (Option Int)
def oN : OM := fun _ h => .ok none h
def oS (e : EM) : OM := fun s h => (e s h).bind fun d h1 => match d with
  | .int i => .ok (some i) h1
  | _ => .bad
structure DO (X : Cx) (W : XW) (e : Option Expr) (m : OM) : Prop where
  po : PO X e (TG' (fun _ _ (v d : Option Int) => v = d) X.K W m)
def cutD (ds : List D) (lo hi : Option Int) : List D := (ds.drop (HT.sIx ds.length 0 lo)).take (HT.sIx ds.length ds.length hi - HT.sIx ds.length 0 lo)
theorem cut_rep {vs : List V} {ds : List D} {lo hi : Option Int} (r : RepAll K μ H vs ds) : RepAll K μ H (cutV vs lo hi) (cutD ds lo hi) := by
  unfold cutV cutD
  rw [r.length]
  exact (r.drop _).take _
def dSl (x : D) (lo hi : Option Int) : M D := fun h => match x with
  | .tup xs => .ok (.tup (cutD xs lo hi)) h
  | .str z => if z.length ≤ sizeLine then .ok (.str (cutS z lo hi)) h else .bad
  | d => (match lstOf h d with
    | some xs => .ok (.ref h.length) (h ++ [.lst (cutD xs lo hi)])
    | none => .bad)
def eSl (e : EM) (lo hi : OM) : EM := fun s h => (e s h).bind fun x h1 => (lo s h1).bind fun l h2 => (hi s h2).bind fun u h3 => dSl x l u h3
def rSlD (K : PySem.W.Frag) : V → Option Int → Option Int → Hp → VK → Prop := fun x lo hi H Q => rSlA K x lo hi H Q ∨ rSlL K x lo hi H Q ∨ rSlS x lo hi H Q
end
section
variable {X : Cx} {W : XW} {e : Expr} {m : EM} {lo hi : Option Expr} {ml mh : OM} {pos p2 : Pos}
theorem do_none : DO X W none oN := ⟨⟨fun pins s σ H Q I ⟨μ, sl, hd, sr, hr, f⟩ => po_none.run pins s σ H Q I (FinG.ok (R := fun _ _ (v d : Option Int) => v = d) f hr rfl)⟩⟩
theorem do_some (h : DE X W e m) : DO X W (some e) (oS m) := ⟨⟨fun pins s σ H Q I ⟨μ, sl, hd, sr, hr, f⟩ => (po_some h.pe).run pins s σ H Q I (by
  refine ⟨μ, sl, hd, sr, hr, (FinG.bind f).imp ?_⟩
  rintro x H1 ⟨μ1, hd1, dx, e1, hr1, rx, f1⟩
  cases rx with
  | int i => exact ⟨i, rfl, FinG.ok (R := fun _ _ (v d : Option Int) => v = d) f1 hr1 rfl⟩
  | _ => exact f1.elim)⟩⟩
theorem sl_D : SlR X (rSlD X.K) := SlR.or sl_tupA (SlR.or sl_list sl_str)
theorem de_sl (h : DE X W e m) (hl : DO X W lo ml) (hh : DO X W hi mh) : DE X W (.Subscript e (.Slice lo hi none p2) pos) (eSl m ml mh) := ⟨PE.imp (pe_slice sl_D h.pe hl.po hh.po) fun σ H Q ⟨μ, s, hd, sr, hr, f⟩ => by
  refine ⟨μ, s, hd, sr, hr, (FinG.bind f).imp ?_⟩
  rintro x H1 ⟨μ1, hd1, dx, e1, hr1, rx, f1⟩
  refine ⟨μ1, s, hd1, sr.ext e1, hr1, (FinG.bind f1).imp ?_⟩
  rintro l H2 ⟨μ2, hd2, _, e2, hr2, rfl, f2⟩
  refine ⟨μ2, s, hd2, sr.ext (e1.trans e2), hr2, (FinG.bind f2).imp ?_⟩
  rintro u H3 ⟨μ3, hd3, _, e3, hr3, rfl, f3⟩
  have rx3 := rx.ext (e2.trans e3)
  unfold dSl at f3
  split at f3
  · rename_i ys
    cases rx3 with
    | tup hs ra =>
      refine .inl ⟨_, _, rfl, hs, fun hw => ?_, fun _ p hp => fin_tup hr3 (cut_rep ra) f3 hp⟩
      have ec : cutD ys l u = ys := by
        unfold cutD
        rw [← ra.length, hw.1, hw.2]
        simp [ra.length]
      rw [ec] at f3
      exact fin_tupA hr3 hs ra f3
  · split at f3
    · rename_i hl
      cases rx3 with
      | str z => exact .inr (.inr ⟨_, rfl, hl, FinG.ok (R := RD X.K) f3 hr3 (.str _)⟩)
    · exact f3.elim
  · split at f3
    · rename_i ds ee
      obtain ⟨a, vs, rfl, h1, ra⟩ := lstOf_rep hr3 rx3 ee
      exact .inr (.inl ⟨a, vs, rfl, h1, fun p hp => fin_lst hr3 (cut_rep ra) f3 hp⟩)
    · exact f3.elim⟩
/-! the empty dict -/
def eD0 : EM := fun _ h => .ok (.ref h.length) (h ++ [.dK []])
theorem de_d0 : DE X W (.Dict [] [] pos) eD0 := ⟨PE.imp pe_dnewK fun σ H Q ⟨μ, s, hd, sr, hr, f⟩ => fun p hp => by
  refine f (μ ++ [p]) _ _ (Ext.laid hp) (hr.laid hp ⟨[], upd_same, .nil⟩) (.ref ?_)
  rw [← hr.len, List.getElem?_append_right (Nat.le_refl _)]
  simp⟩
end
end DL

namespace DL
open PySem PySem.Spec PyProof.Rows L2
/-! ### what is walked -/
def iOk (ds : List D) : M ItD := fun h => .ok (ds, fun _ => True) h
def iSeq (d : D) : M ItD := fun h => match d with
  | .tup xs => .ok (xs, fun _ => True) h
  | .rol xs => .ok (xs, fun _ => True) h
  | .ref n => (match h[n]? with
    | some (.lst xs) => .ok (xs, fun h' => h'[n]? = some (.lst xs)) h
    | _ => .bad)
  | .str z => .ok (z.cps.toList.map (fun c => .str ⟨#[c]⟩), fun _ => True) h
  | _ => .bad
def i1 (m : EM) (g : D → M ItD) : IM := fun s h => (m s h).bind g
def iA (m : AM) (g : List D → M ItD) : IM := fun s h => (m s h).bind g
section
variable {K : PySem.W.Frag} {μ μ' : List Addr} {H H' : Hp} {hd : Hd}
theorem it_tup {a : Addr} {vs : List V} {ds : List D} {chk : Hd → Prop} (hs : SqT K H a vs) (ra : RepAll K μ H vs ds) : RIt K μ H (Itt K a) (ds, chk) := fun μ' H' hd' e hr _ i => by
  have hs' := e.sqt hs
  refine ⟨fun d hd => ?_, fun h => ⟨vs, hs', by rw [ra.length]; exact h⟩⟩
  obtain ⟨v, h1, h2⟩ := ra.get hd
  refine ⟨⟨vs, v, hs', h1⟩, fun x H'' ⟨e1, y⟩ => ?_⟩
  subst e1
  have ev := y vs hs'
  rw [h1] at ev
  cases ev
  exact ⟨.refl, hr, h2.ext e⟩
theorem it_rol {a : Addr} {vs : List V} {ds : List D} {chk : Hd → Prop} (hs : Frz K H a vs) (ra : RepAll K μ H vs ds) : RIt K μ H (Itl K a) (ds, chk) := fun μ' H' hd' e hr _ i => by
  have hs' := (e.frz hs).seq
  refine ⟨fun d hd => ?_, fun h => ⟨vs, hs', by rw [ra.length]; exact h⟩⟩
  obtain ⟨v, h1, h2⟩ := ra.get hd
  refine ⟨⟨vs, v, hs', h1⟩, fun x H'' ⟨e1, y⟩ => ?_⟩
  subst e1
  have ev := y vs hs'
  rw [h1] at ev
  cases ev
  exact ⟨.refl, hr, h2.ext e⟩
theorem it_lst {n : Nat} {a : Addr} {ds : List D} {chk : Hd → Prop} (hn : μ[n]? = some a) (hc : ∀ h, chk h → h[n]? = some (.lst ds)) : RIt K μ H (Itl K a) (ds, chk) := fun μ' H' hd' e hr ck i => by
  obtain ⟨vs, h0, ra⟩ := hr.obj _ _ _ (e.nums _ _ hn) (hc _ ck)
  have hs' : SqL K H' a vs := .of h0
  refine ⟨fun d hd => ?_, fun h => ⟨vs, hs', by rw [ra.length]; exact h⟩⟩
  obtain ⟨v, h1, h2⟩ := ra.get hd
  refine ⟨⟨vs, v, hs', h1⟩, fun x H'' ⟨e1, y⟩ => ?_⟩
  subst e1
  have ev := y vs hs'
  rw [h1] at ev
  cases ev
  exact ⟨.refl, hr, h2⟩
theorem it_str {z : Str} {chk : Hd → Prop} : RIt K μ H (Its z) (z.cps.toList.map (fun c => D.str ⟨#[c]⟩), chk) := fun μ' H' hd' e hr _ i => by
  refine ⟨fun d hd => ?_, fun h => ?_⟩
  · rw [List.getElem?_map] at hd
    cases q : z.cps.toList[i]? with
    | none => rw [q] at hd; cases hd
    | some c =>
      rw [q] at hd
      cases hd
      rw [Array.getElem?_toList] at q
      refine ⟨(Array.getElem?_eq_some_iff.mp q).1, fun x H'' ⟨e1, c', y1, y2⟩ => ?_⟩
      subst e1
      rw [q] at y1
      cases y1
      subst y2
      exact ⟨.refl, hr, .str _⟩
  · have h' : (z.cps.toList.map (fun c => D.str ⟨#[c]⟩)).length ≤ i := h
    rw [List.length_map] at h'
    show z.cps.size ≤ i
    simpa using h'
theorem it_rng {lo : Int} {n : Nat} {chk : Hd → Prop} : RIt K μ H (Itr lo n) ((List.range n).map (fun (i : Nat) => D.int (lo + (i : Int))), chk) := fun μ' H' hd' e hr _ i => by
  refine ⟨fun d hd => ?_, fun h => ?_⟩
  · rw [List.getElem?_map] at hd
    rcases Nat.lt_or_ge i n with z | z
    · rw [List.getElem?_range z] at hd
      cases hd
      refine ⟨z, fun x H'' ⟨e1, y⟩ => ?_⟩
      subst e1
      subst y
      exact ⟨.refl, hr, .int _⟩
    · rw [List.getElem?_eq_none (by simpa using z)] at hd; cases hd
  · have h' : ((List.range n).map (fun (i : Nat) => D.int (lo + (i : Int)))).length ≤ i := h
    rw [List.length_map, List.length_range] at h'
    exact h'
end
section
variable {X : Cx} {W : XW} {e e2 tg : Expr} {es : List Expr} {m : EM} {ma : AM} {p pos : Pos}
theorem di_seq (h : DE X W e m) : DI X W tg e (i1 m iSeq) := ⟨⟨fun pins s σ H R I q => by
  obtain ⟨μ, sl, hd, sr, hr, f⟩ := q
  have rest : ∀ {J : Type} {Rr : List Addr → Hp → J → D → Prop} {Q : J → Hp → Prop}, (∀ d h1, m sl hd = .ok d h1 → FinG Rr X.K W μ H σ (.ok d h1) Q) → FinG Rr X.K W μ H σ (m sl hd) Q := fun {J Rr Q} q => by
    cases z : m sl hd with
    | ok d h1 => exact q d h1 z
    | exc x h1 => unfold i1 at f; rw [z] at f; exact f
    | bad => unfold i1 at f; rw [z] at f; exact f.elim
  unfold i1 at f
  cases z : m sl hd with
  | bad => rw [z] at f; exact f.elim
  | exc x h1 => exact (pi_tup (tg := tg) h.pe).run pins s σ H R I ⟨μ, sl, hd, sr, hr, by rw [z] at f ⊢; exact f⟩
  | ok d h1 =>
    rw [z] at f
    cases d with
    | tup ds => exact (pi_tup (tg := tg) h.pe).run pins s σ H R I ⟨μ, sl, hd, sr, hr, by
        rw [z]
        intro μ' H' v e1 hr1 rv
        cases rv with
        | tup hs ra => exact ⟨_, rfl, ⟨_, hs⟩, f μ' H' _ e1 hr1 (it_tup hs ra)⟩⟩
    | rol ds => exact (pi_list (tg := tg) h.pe).run pins s σ H R I ⟨μ, sl, hd, sr, hr, by
        rw [z]
        intro μ' H' v e1 hr1 rv
        cases rv with
        | rol hs ra => exact ⟨_, rfl, ⟨_, hs.seq⟩, f μ' H' _ e1 hr1 (it_rol hs ra)⟩⟩
    | str x => exact (pi_str (tg := tg) h.pe).run pins s σ H R I ⟨μ, sl, hd, sr, hr, by
        rw [z]
        intro μ' H' v e1 hr1 rv
        cases rv with
        | str x => exact ⟨_, rfl, f μ' H' _ e1 hr1 it_str⟩⟩
    | ref n =>
      simp only [Res.bind, iSeq] at f
      split at f
      · rename_i ds q
        exact (pi_list (tg := tg) h.pe).run pins s σ H R I ⟨μ, sl, hd, sr, hr, by
          rw [z]
          intro μ' H' v e1 hr1 rv
          cases rv with
          | ref hn =>
            obtain ⟨vs, h2, _⟩ := hr1.obj _ _ _ hn q
            exact ⟨_, rfl, ⟨_, .of h2⟩, f μ' H' _ e1 hr1 (it_lst hn fun _ h => h)⟩⟩
      · exact f.elim
    | _ => exact f.elim⟩⟩
def rng (lo : Int) (n : Nat) : List D := (List.range n).map (fun (i : Nat) => D.int (lo + (i : Int)))
def Big (n : Int) : Prop := -(2 ^ 62) ≤ n ∧ n < 2 ^ 62
instance (n : Int) : Decidable (Big n) := by unfold Big; infer_instance
def iRange1 (ds : List D) : M ItD := fun h => match ds with
  | [.int n] => if Big n then .ok (rng 0 n.toNat, fun _ => True) h else .bad
  | _ => .bad
def iRange2 (ds : List D) : M ItD := fun h => match ds with
  | [.int a, .int b] => if Big a ∧ Big b then .ok (rng a (b - a).toNat, fun _ => True) h else .bad
  | _ => .bad
def rngC (lo c : Int) (n : Nat) : List D := (List.range n).map (fun (i : Nat) => D.int (lo + (i : Int) * c))
def iRange3 (ds : List D) : M ItD := fun h => match ds with
  | [.int a, .int b, .int c] => if c = -1 ∧ Big a ∧ Big b then .ok (rngC a c (a - b).toNat, fun _ => True) h else .bad
  | _ => .bad
theorem it_rngC {K : PySem.W.Frag} {μ : List Addr} {H : Hp} {lo c : Int} {n : Nat} {chk : Hd → Prop} : RIt K μ H (Itc lo c n) (rngC lo c n, chk) := fun μ' H' hd' e hr _ i => by
  refine ⟨fun d hd => ?_, fun h => ?_⟩
  · have hd : ((List.range n).map (fun (i : Nat) => D.int (lo + (i : Int) * c)))[i]? = some d := hd
    rw [List.getElem?_map] at hd
    rcases Nat.lt_or_ge i n with z | z
    · rw [List.getElem?_range z] at hd
      cases hd
      refine ⟨z, fun x H'' ⟨e1, y⟩ => ?_⟩
      subst e1
      subst y
      exact ⟨.refl, hr, .int _⟩
    · rw [List.getElem?_eq_none (by simpa using z)] at hd; cases hd
  · have h' : ((List.range n).map (fun (i : Nat) => D.int (lo + (i : Int) * c))).length ≤ i := h
    rw [List.length_map, List.length_range] at h'
    exact h'
theorem di_range1 {a : Expr} (hm : X.mg "range" = none) (h : DA X W [a] ma) (hg : Gl X "range" := by rfl) (hs : starEach [a] X.env = [(false, eval a X.env)] := by rfl) : DI X W tg (.Call (.Name "range" p) [a] [] pos) (iA ma iRange1) := ⟨PI.imp (pi_range1 hg hm h.pa hs) fun σ H Q ⟨μ, s, hd, sr, hr, f⟩ => by
  refine ⟨μ, s, hd, sr, hr, (FinG.bind f).imp ?_⟩
  rintro vs H1 ⟨μ1, hd1, dx, e1, hr1, rx, f1⟩
  unfold iRange1 at f1
  split at f1
  · split at f1
    · rename_i hb
      cases rx with
      | cons r1 rr =>
        cases rr
        cases r1
        exact ⟨_, rfl, hb.1, hb.2, FinG.ok f1 hr1 it_rng⟩
    · exact f1.elim
  · exact f1.elim⟩
theorem di_range2 {a b : Expr} (hm : X.mg "range" = none) (h : DA X W [a, b] ma) (hg : Gl X "range" := by rfl) (hs : starEach [a, b] X.env = [(false, eval a X.env), (false, eval b X.env)] := by rfl) (hs2 : starEach [b] X.env = [(false, eval b X.env)] := by rfl) : DI X W tg (.Call (.Name "range" p) [a, b] [] pos) (iA ma iRange2) := ⟨PI.imp (pi_range2 hg hm h.pa hs hs2) fun σ H Q ⟨μ, s, hd, sr, hr, f⟩ => by
  refine ⟨μ, s, hd, sr, hr, (FinG.bind f).imp ?_⟩
  rintro vs H1 ⟨μ1, hd1, dx, e1, hr1, rx, f1⟩
  unfold iRange2 at f1
  split at f1
  · split at f1
    · rename_i hb
      cases rx with
      | cons r1 rr =>
        cases rr with
        | cons r2 rr =>
          cases rr
          cases r1
          cases r2
          exact ⟨_, _, rfl, ⟨hb.1.1, hb.1.2, hb.2.1, hb.2.2⟩, FinG.ok f1 hr1 it_rng⟩
    · exact f1.elim
  · exact f1.elim⟩
theorem di_range3 {a b c : Expr} (hm : X.mg "range" = none) (h : DA X W [a, b, c] ma) (hg : Gl X "range" := by rfl) (hs : starEach [a, b, c] X.env = (false, eval a X.env) :: starEach [b, c] X.env := by rfl) (hpl : (backTo pos (starEach [b, c] X.env)).any (·.1) = false := by rfl) : DI X W tg (.Call (.Name "range" p) [a, b, c] [] pos) (iA ma iRange3) := ⟨PI.imp (pi_range3 hg hm h.pa hs hpl) fun σ H Q ⟨μ, s, hd, sr, hr, f⟩ => by
  refine ⟨μ, s, hd, sr, hr, (FinG.bind f).imp ?_⟩
  rintro vs H1 ⟨μ1, hd1, dx, e1, hr1, rx, f1⟩
  unfold iRange3 at f1
  split at f1
  · split at f1
    · rename_i hb
      obtain ⟨rfl, hb, hb'⟩ := hb
      cases rx with
      | cons r1 rr =>
        cases rr with
        | cons r2 rr =>
          cases rr with
          | cons r3 rr =>
            cases rr
            cases r1
            cases r2
            cases r3
            exact ⟨_, _, -1, _, rfl, .neg hb.1 hb.2 hb'.1 hb'.2, FinG.ok f1 hr1 it_rngC⟩
    · exact f1.elim
  · exact f1.elim⟩
end
end DL

namespace DL
open PySem PySem.Spec PyProof.Rows L2
/-! ### truth of any value -/
def asT (d : D) : M Bool := fun h => match d with
  | .bl b => .ok b h
  | .non => .ok false h
  | .int i => .ok (i != 0) h
  | .str z => if z.length ≤ sizeLine then .ok ((z.length : Int) != 0) h else .bad
  | .tup xs => .ok (!xs.isEmpty) h
  | d => (match lstOf h d with
    | some xs => .ok (!xs.isEmpty) h
    | none => .bad)
def tTr (a : EM) : TM := fun s h => (a s h).bind asT
theorem empty_rep {K : PySem.W.Frag} {μ : List Addr} {H : Hp} {vs : List V} {ds : List D} (r : RepAll K μ H vs ds) : vs.isEmpty = ds.isEmpty := by cases r <;> rfl
theorem dt_tr {X : Cx} {W : XW} {e : Expr} {m : EM} (h : DE X W e m) (he : ∀ whole, isTrue e X.env whole = (do let v ← whole; standAt e.pos; holding [v] (truthy v)) := by intro _; rfl) : DT X W e (tTr m) := ⟨PT.imp (pt_truth h.pe he) fun σ H Q ⟨μ, s, hd, sr, hr, f⟩ => by
  refine ⟨μ, s, hd, sr, hr, (FinG.bind f).imp ?_⟩
  rintro x H1 ⟨μ1, hd1, dx, e1, hr1, rx, f1⟩
  unfold asT at f1
  split at f1
  · cases rx; exact ⟨_, rfl, FinG.ok (R := RB) f1 hr1 rfl⟩
  · cases rx; exact ⟨_, rfl, FinG.ok (R := RB) f1 hr1 rfl⟩
  · cases rx; exact ⟨_, rfl, FinG.ok (R := RB) f1 hr1 rfl⟩
  · split at f1
    · rename_i hl
      cases rx
      exact ⟨_, ⟨hl, rfl⟩, FinG.ok (R := RB) f1 hr1 rfl⟩
    · exact f1.elim
  · cases rx with
    | tup hs ra => exact ⟨_, .inr (.inl ⟨_, hs, rfl⟩), by rw [empty_rep ra]; exact FinG.ok (R := RB) f1 hr1 rfl⟩
  · split at f1
    · rename_i ds q
      obtain ⟨a, vs, rfl, h1, ra⟩ := lstOf_rep hr1 rx q
      exact ⟨_, .inl ⟨_, h1, rfl⟩, by rw [empty_rep ra]; exact FinG.ok (R := RB) f1 hr1 rfl⟩
    · exact f1.elim⟩
theorem hu64 {k : Nat} {A : Around} (r : Room k A) : A.units + 64 < cLine := by have := r.un; omega
theorem hu65 {k : Nat} {A : Around} (r : Room k A) : A.units + 65 < cLine := by have := r.un; omega
/-! ### things of the top -/
theorem de_glob {X : Cx} {W : XW} {x : Str} {v : V} {u : Value} {d : D} {pos : Pos} (hm : X.mg x = some u) (r : RelV v u) (hr : ∀ μ H, Rep X.K μ H v d) (hg : Gl X x := by rfl) (hd : (x == ("__debug__" : Str)) = false := by decide) : DE X W (.Name x pos) (eC d) :=
  de_c (pe_glob hg hm r hd) hr
/-! ### methods -/
def tyM (T : String) (x : D) (h : Hd) : Bool := match x with
  | .str _ => T == "str"
  | .rol _ => T == "list"
  | .ref n => (match h[n]? with
    | some (.lst _) => T == "list"
    | some (.dK _) => T == "dict"
    | _ => false)
  | _ => false
theorem tyM_rep {K : PySem.W.Frag} {μ : List Addr} {H : Hp} {hd : Hd} {T : String} {x : V} {d : D} (hr : HRel K μ H hd) (r : Rep K μ H x d) (e : tyM T d hd = true) : tyV K T x H := by
  cases r with
  | str z => exact eq_of_beq e
  | rol h _ => exact .inl ⟨eq_of_beq e, _, h.seq⟩
  | ref hn =>
    unfold tyM at e
    simp only at e
    split at e
    · rename_i q
      obtain ⟨vs, h1, _⟩ := hr.obj _ _ _ hn q
      exact .inl ⟨eq_of_beq e, _, .of h1⟩
    · rename_i q
      obtain ⟨vs, h1, _⟩ := hr.obj _ _ _ hn q
      exact .inr (.inr (.inl ⟨eq_of_beq e, .inl ⟨_, h1⟩⟩))
    · cases e
  | _ => cases e
def eM (T : String) (g : D → List D → M D) (o : EM) (a : AM) : EM := fun s h => (o s h).bind fun x h1 => if tyM T x h1 = true then (a s h1).bind fun ds h2 => g x ds h2 else .bad
def LiftM (K : PySem.W.Frag) (r : V → List V → Hp → VK → Prop) (g : D → List D → M D) : Prop := ∀ (μ : List Addr) (H : Hp) (hd : Hd) (x : V) (dx : D) (xs : List V) (dxs : List D) (W : XW) (σ : L2.St) (Q : VK), HRel K μ H hd → Rep K μ H x dx → RepAll K μ H xs dxs → FinG (RD K) K W μ H σ (g dx dxs hd) Q → r x xs H Q
section
variable {X : Cx} {W : XW} {o e : Expr} {es : List Expr} {mo : EM} {ma : AM} {apos cpos : Pos} {T id : String} {name : Str} {r : V → List V → Hp → VK → Prop} {g : D → List D → M D}
theorem de_m (pa : PlainAttrs T) (slot : Slot T name id) (hty : typeOf (.builtin id) = pure (.type "method_descriptor")) (hm : MtR X id r) (l : LiftM X.K r g) (ho : DE X W o mo) (ha : DA X W (e :: es) ma)
    (hbase : attributeBase o name X.env (eval o X.env) = eval o X.env := by rfl)
    (hfew : ((backTo cpos (starEach (e :: es) X.env)).all (fun x => !x.1) && (backToKw cpos (keywordEach [] X.env)).all (fun x => x.1.isSome)
      && decide ((e :: es).length + ([] : List Keyword).length + (if ([] : List Keyword).isEmpty then 0 else 1) < 30)) = true := by rfl)
    (hline : (apos.endLine == cpos.line) = true := by rfl) (hs : starEach (e :: es) X.env = (false, eval e X.env) :: starEach es X.env := by rfl) (hplain : (backTo cpos (starEach es X.env)).any (·.1) = false := by rfl) :
    DE X W (.Call (.Attribute o name apos) (e :: es) [] cpos) (eM T g mo ma) := ⟨PE.imp (pe_bm pa slot hty hm ho.pe ha.pa hbase hfew hline hs hplain) fun σ H Q ⟨μ, s, hd, sr, hr, f⟩ => by
  refine ⟨μ, s, hd, sr, hr, (FinG.bind f).imp ?_⟩
  rintro x H1 ⟨μ1, hd1, dx, e1, hr1, rx, f1⟩
  split at f1
  · rename_i ht
    refine ⟨tyM_rep hr1 rx ht, μ1, s, hd1, sr.ext e1, hr1, (FinG.bind f1).imp ?_⟩
    rintro xs H2 ⟨μ2, hd2, dxs, e2, hr2, rxs, f2⟩
    exact l μ2 H2 hd2 x dx xs dxs W σ Q hr2 (rx.ext e2) rxs f2
  · exact f1.elim⟩
theorem de_m0 (pa : PlainAttrs T) (slot : Slot T name id) (hty : typeOf (.builtin id) = pure (.type "method_descriptor")) (hm : MtR X id r) (l : LiftM X.K r g) (ho : DE X W o mo)
    (hbase : attributeBase o name X.env (eval o X.env) = eval o X.env := by rfl) (hline : (apos.endLine == cpos.line) = true := by rfl) :
    DE X W (.Call (.Attribute o name apos) [] [] cpos) (eM T g mo aN) := ⟨PE.imp (pe_bm0 pa slot hty hm ho.pe hbase hline) fun σ H Q ⟨μ, s, hd, sr, hr, f⟩ => by
  refine ⟨μ, s, hd, sr, hr, (FinG.bind f).imp ?_⟩
  rintro x H1 ⟨μ1, hd1, dx, e1, hr1, rx, f1⟩
  split at f1
  · rename_i ht
    exact ⟨tyM_rep hr1 rx ht, l μ1 H1 hd1 x dx [] [] W σ Q hr1 rx .nil f1⟩
  · exact f1.elim⟩
end
/-! lists -/
def mApp (x : D) (ds : List D) : M D := fun h => match x, ds with
  | .ref n, [d] => (match h[n]? with
    | some (.lst xs) => if xs.length < sizeLine then .ok .non (h.set n (.lst (xs ++ [d]))) else .bad
    | _ => .bad)
  | _, _ => .bad
theorem lift_app {K : PySem.W.Frag} : LiftM K (fun x vs H Q => ∃ l xs y, x = .ref l ∧ vs = [y] ∧ H l = some (.lst xs) ∧ xs.length < sizeLine ∧ Q .non (upd H l (.lst (xs ++ [y])))) mApp := fun μ H hd x dx xs dxs W σ Q hr rx rxs f => by
  cases rx with
  | ref hn =>
    cases rxs with
    | nil => exact f.elim
    | cons r1 rr =>
      rename_i y _ _ _
      cases rr with
      | nil =>
        unfold mApp at f
        simp only at f
        split at f
        · rename_i ds q
          split at f
          · rename_i hl
            obtain ⟨vs, h1, ra⟩ := hr.obj _ _ _ hn q
            have ex : Ext μ H μ (upd H _ (.lst (vs ++ [y]))) := Ext.write h1 trivial
            exact ⟨_, vs, _, rfl, rfl, h1, by rw [ra.length]; exact hl, f μ _ _ ex (hr.write hn h1 trivial ⟨_, upd_same, (ra.ext ex).append (.one (r1.ext ex))⟩) .non⟩
          · exact f.elim
        · exact f.elim
      | cons _ _ => exact f.elim
  | _ => exact f.elim
theorem de_app {X : Cx} {W : XW} {o e : Expr} {mo : EM} {ma : AM} {apos cpos : Pos} (ho : DE X W o mo) (ha : DA X W [e] ma)
    (hbase : attributeBase o "append" X.env (eval o X.env) = eval o X.env := by rfl)
    (hfew : ((backTo cpos (starEach [e] X.env)).all (fun x => !x.1) && (backToKw cpos (keywordEach [] X.env)).all (fun x => x.1.isSome)
      && decide ([e].length + ([] : List Keyword).length + (if ([] : List Keyword).isEmpty then 0 else 1) < 30)) = true := by rfl)
    (hline : (apos.endLine == cpos.line) = true := by rfl) (hs : starEach [e] X.env = (false, eval e X.env) :: starEach [] X.env := by rfl) (hplain : (backTo cpos (starEach [] X.env)).any (·.1) = false := by rfl) :
    DE X W (.Call (.Attribute o "append" apos) [e] [] cpos) (eM "list" mApp mo ma) := de_m PySem.F.plainAttrs_list PySem.F.slot_list_append PySem.F.type_list_append mt_append lift_app ho ha hbase hfew hline hs hplain
end DL

namespace DL
open PySem PySem.Spec PyProof.Rows L2
/-! ### the ends of a law -/
theorem ints_rep {K : PySem.W.Frag} {μ : List Addr} {H : Hp} : ∀ ns : List Int, RepAll K μ H (ns.map V.int) (ns.map D.int)
  | [] => .nil
  | n :: ns => .cons (.int n) (ints_rep ns)
theorem top_mk {K : PySem.W.Frag} {mg : Str → Option Value} {h : Heap} {x : Str} {st : Stmt} {ps : List Str} {f : Addr} {oc : Value} {od an : Option Addr} {osl : Array (Option Value)} {kV doc pm cdv ct : Value} (X : K.In h) (G : h.Ns mainGlobals mg)
    (a : PySem.W.nsIn K mainGlobals x = some (some (.ref f))) (l : K.lookup f = some ⟨oc, od, .func (PySem.W.fnOf x x (defArgs st) (defBody st) (defScope st) .none kV doc pm an cdv ct), osl⟩) (c : PySem.W.codeIn K cdv x = true) (k : PySem.W.keepIn K (.ref f) = true)
    (hb : ∀ (kV doc pm : Value) (an : Option Addr) (cdv ct : Value) (us : List Value), us.length = ps.length → bindArgs (PySem.W.fnOf x x (defArgs st) (defBody st) (defScope st) .none kV doc pm an cdv ct) ⟨us, []⟩ = pure (ps.zip us)) : Top K mg x st ps :=
  ⟨f, _, fun_mk l c k, PySem.W.mg_of X G a, (fun_mk l c k).binds hb⟩
theorem law_F {P : Program} {w : World} {K : PySem.W.Frag} {mg : Str → Option Value} {x p : Str} {st : Stmt} {F : List D → M D} {k : Nat} {fa : Addr} (T : Top K mg x st [p]) (hD : ∀ base : Heap, Def P w K mg base k x [p] F) (hmg : mg x = some (.ref fa))
    (hb : ∀ (kV doc pm : Value) (an : Option Addr) (cdv ct : Value) (s : Shared) (u : Value), BindsTo s (PySem.W.fnOf x x (defArgs st) (defBody st) (defScope st) .none kV doc pm an cdv ct) ⟨[u], []⟩ [(p, u)]) :
    ∃ fd : FuncData, (∀ (s : Shared) (u : Value), BindsTo s fd ⟨[u], []⟩ [(p, u)]) ∧ ∀ base : Heap, K.In base → base.Ns mainGlobals mg → FnOk P w K mg base CX0 k fa fd [p] (spD K 1 F) := by
  obtain ⟨f, fd, Fn, hm, _⟩ := T.ex
  rw [hmg] at hm
  cases hm
  obtain ⟨oc, od, kV, doc, pm, an, cdv, ct, osl, e, lk, _⟩ := Fn.ex
  refine ⟨fd, fun s u => by rw [e]; exact hb kV doc pm an cdv ct s u, fun base _ _ => ?_⟩
  obtain ⟨f', fd', G, hm', _, _, oc', od', osl', lk'⟩ := (hD base).ex
  rw [hmg] at hm'
  cases hm'
  rw [lk] at lk'
  cases lk'
  exact G
theorem law_sp {K : PySem.W.Frag} {H : Hp} {a : Addr} {ns : List Int} {F : List D → M D} (hO : Only H) (hS : SqL K H a (ns.map V.int)) (h : ∃ h', F [.rol (ns.map D.int)] [] = .ok (.bl true) h') : spD K 1 F [.ref a] H (fun v _ => v = .bl true) fun _ _ _ => False := by
  obtain ⟨h', e⟩ := h
  have fz : Frz K H a (ns.map V.int) := by
    rcases hS with (z | ⟨o, z⟩) | z
    · rcases hO a with y | ⟨o, xs, y⟩
      · rw [z] at y; cases y
      · rw [z] at y; cases y
    · exact .inl ⟨o, z⟩
    · exact .inr z
  refine ⟨[], [], [.rol (ns.map D.int)], ⟨rfl, fun n m a h => by simp at h, fun n a o h => by simp at h⟩, .cons (.rol fz (ints_rep ns)) .nil, rfl, ?_⟩
  rw [e]
  intro μ' H' v _ _ rv
  cases rv
  rfl
end DL

namespace DL
open PySem PySem.Spec PyProof.Rows L2
/-! ### count, in, and the methods of texts and lists -/
section
variable {K : PySem.W.Frag} {μ : List Addr} {H : Hp} {hd : Hd}
def rCountD (K : PySem.W.Frag) : V → List V → Hp → VK → Prop := fun x xs H Q => ∃ (a : Addr) (y : V) (d : PyData) (ds : List PyData), x = V.ref a ∧ xs = [y] ∧ Dp K H (V.ref a) (.list ds) ∧ Dp K H y d ∧ SeqAt.shaped (.list ds) = true ∧ SeqAt.shaped d = true ∧ Q (.int ((ds.countP fun z => PyData.eqv z d : Nat) : Int)) H
theorem mt_countD {X : Cx} (hu : X.A.units + 65 < cLine) : MtR X "list.count" (rCountD X.K) := by
  intro pins s σ H x xs v us Q I rx rxs h
  obtain ⟨a, y, d, ds, rfl, rfl, hl, hy, sl, sd, q⟩ := h
  cases rx
  cases rxs with
  | cons ry rt =>
    rename_i uy ut
    cases rt
    obtain ⟨bs, r1⟩ := Dp.reads I d y uy hy ry
    cases hl with
    | lst hs ha =>
      obtain ⟨its, rv, ⟨⟨cls, dd, data, sls⟩, n, ho, hc, hdn, hdt⟩, hlen⟩ := I.list hs
      simp only at hc hdt
      subst hc hdt
      obtain ⟨as, h4⟩ := Dp.readsAll I ds _ its ha rv
      have hmap : its.map (SeqAt.readOf s.heap) = ds := SeqAt.readsAll_map ds its as (SeqAt.canLay_of_shaped sl) h4
      refine call_meets PySem.F.slot_list_count ⟨_, ho, rfl⟩ PySem.F.entry_list_count (PySem.F.args_list_count_2 _ _)
        (SeqAt.list_countAt a its.toArray n dd sls uy (fun u => PyData.eqv (SeqAt.readOf s.heap u) d)) ⟨ho, SeqAt.items_eqAt (vs := its.toArray) (show ReadsAll s.heap its.toArray.toList ds as from h4) r1 (SeqAt.canLay_of_shaped sl) (SeqAt.canLay_of_shaped sd) (room_in_shaped sd hu), ?_⟩
      have e : its.toArray.toList.countP (fun u => PyData.eqv (SeqAt.readOf s.heap u) d) = ds.countP fun z => PyData.eqv z d := by
        rw [← hmap, List.countP_map]
        rfl
      rw [e]
      exact ⟨.int _, H, I.tok _, ⟨_, rfl⟩, q⟩
/-- a list of data, whatever holds it -/
def pyL (h : Hd) (d : D) : Option (List PyData) := (lstOf h d).bind D.pyAll
theorem pyL_rep {v : V} {d : D} {ps : List PyData} (hr : HRel K μ H hd) (e : pyL hd d = some ps) (r : Rep K μ H v d) : ∃ a, v = .ref a ∧ Dp K H v (.list ps) := by
  obtain ⟨ds, e1, e2⟩ := Option.bind_eq_some_iff.mp e
  obtain ⟨a, vs, rfl, hs, ra⟩ := lstOf_rep hr r e1
  exact ⟨a, rfl, .lst hs (pyAll_rep e2 ra)⟩
def mCount (x : D) (ds : List D) : M D := fun h => match ds with
  | [y] => (match pyL h x, pyH h y with
    | some ps, some p => if SeqAt.shaped (.list ps) = true ∧ SeqAt.shaped p = true then .ok (.int ((ps.countP fun z => PyData.eqv z p : Nat) : Int)) h else .bad
    | _, _ => .bad)
  | _ => .bad
theorem lift_count : LiftM K (rCountD K) mCount := fun μ H hd x dx xs dxs W σ Q hr rx rxs f => by
  unfold mCount at f
  split at f
  · split at f
    · rename_i ps p e1 e2
      split at f
      · rename_i hs
        cases rxs with
        | cons ry rt =>
          cases rt
          obtain ⟨a, rfl, hl⟩ := pyL_rep hr e1 rx
          exact ⟨a, _, p, ps, rfl, rfl, hl, pyH_rep hr e2 ry, hs.1, hs.2, FinG.ok (R := RD K) f hr (.int _)⟩
      · exact f.elim
    · exact f.elim
  · exact f.elim
/-- x in y, x not in y -/
def rInT (K : PySem.W.Frag) (neg : Bool) : R2 := fun x y H Q => ∃ d ds, Dp K H x d ∧ Dp K H y (.tuple ds) ∧ SeqAt.shaped d = true ∧ SeqAt.shaped (.tuple ds) = true ∧ Q (.bl (neg ^^ ds.any fun z => PyData.eqv z d)) H
theorem op_inT {X : Cx} (hu : X.A.units + 65 < cLine) : OpR X (compareOp .In) (rInT X.K false) := by
  intro pins s σ H x y v u Q I rx ry h
  obtain ⟨d, ds, hd, he, sd, se, q⟩ := h
  obtain ⟨as, r1⟩ := Dp.reads I d x v hd rx
  obtain ⟨bs, r2⟩ := Dp.reads I (.tuple ds) y u he ry
  exact SeqAt.in_tuple_reads r2 r1 (SeqAt.canLay_of_shaped se) (SeqAt.canLay_of_shaped sd) (room_in_shaped sd hu) ⟨.bl _, H, I, rfl, by simpa using q⟩
theorem op_notInT {X : Cx} (hu : X.A.units + 65 < cLine) : OpR X (compareOp .NotIn) (rInT X.K true) := by
  intro pins s σ H x y v u Q I rx ry h
  obtain ⟨d, ds, hd, he, sd, se, q⟩ := h
  obtain ⟨as, r1⟩ := Dp.reads I d x v hd rx
  obtain ⟨bs, r2⟩ := Dp.reads I (.tuple ds) y u he ry
  exact SeqAt.notIn_tuple_reads r2 r1 (SeqAt.canLay_of_shaped se) (SeqAt.canLay_of_shaped sd) (room_in_shaped sd hu) ⟨.bl _, H, I, rfl, by simpa using q⟩
def rInX (K : PySem.W.Frag) (neg : Bool) : R2 := fun x y H Q =>
  (∃ d ds, Dp K H x d ∧ Dp K H y (.list ds) ∧ SeqAt.shaped d = true ∧ SeqAt.shaped (.list ds) = true ∧ Q (.bl (neg ^^ ds.any fun z => PyData.eqv z d)) H) ∨ rInT K neg x y H Q ∨
  (∃ i j, x = .str i ∧ y = .str j ∧ Q (.bl (neg ^^ !(Builtin.Str.occurrences j i 0 j.length 1).isEmpty)) H)
theorem op_inX {X : Cx} (hu : X.A.units + 65 < cLine) : OpR X (compareOp .In) (rInX X.K false) :=
  OpR.or (by
    intro pins s σ H x y v u Q I rx ry ⟨d, ds, a, b, c, e, q⟩
    exact op_inD hu pins s σ H x y v u Q I rx ry ⟨d, ds, a, b, c, e, by simpa using q⟩) (OpR.or (op_inT hu) (by
    intro pins s σ H x y v u Q I rx ry ⟨i, j, a, b, q⟩
    exact op_in_str pins s σ H x y v u Q I rx ry ⟨i, j, a, b, by simpa using q⟩))
theorem op_notInX {X : Cx} (hu : X.A.units + 65 < cLine) : OpR X (compareOp .NotIn) (rInX X.K true) :=
  OpR.or (by
    intro pins s σ H x y v u Q I rx ry ⟨d, ds, a, b, c, e, q⟩
    exact op_notInD hu pins s σ H x y v u Q I rx ry ⟨d, ds, a, b, c, e, by simpa using q⟩) (OpR.or (op_notInT hu) (by
    intro pins s σ H x y v u Q I rx ry ⟨i, j, a, b, q⟩
    exact L2.op_notin_str pins s σ H x y v u Q I rx ry ⟨i, j, a, b, by simpa using q⟩))
def dIn (neg : Bool) (x y : D) : M D := fun h => match y with
  | .str j => (match x with
    | .str i => .ok (.bl (neg ^^ !(Builtin.Str.occurrences j i 0 j.length 1).isEmpty)) h
    | _ => .bad)
  | .tup ys => (match pyH h x, D.pyAll ys with
    | some p, some ps => if SeqAt.shaped p = true ∧ SeqAt.shaped (.tuple ps) = true then .ok (.bl (neg ^^ ps.any fun z => PyData.eqv z p)) h else .bad
    | _, _ => .bad)
  | y => (match pyH h x, pyL h y with
    | some p, some ps => if SeqAt.shaped p = true ∧ SeqAt.shaped (.list ps) = true then .ok (.bl (neg ^^ ps.any fun z => PyData.eqv z p)) h else .bad
    | _, _ => .bad)
theorem lift_in {neg : Bool} : Lift2 K (rInX K neg) (dIn neg) := fun μ H hd x y dx dy W σ Q hr rx ry f => by
  unfold dIn at f
  split at f
  · split at f
    · cases rx
      cases ry
      exact .inr (.inr ⟨_, _, rfl, rfl, FinG.ok (R := RD K) f hr (.bl _)⟩)
    · exact f.elim
  · split at f
    · rename_i p ps e1 e2
      split at f
      · rename_i hs
        cases ry with
        | tup hs2 ra => exact .inr (.inl ⟨p, ps, pyH_rep hr e1 rx, .tup hs2 (pyAll_rep e2 ra), hs.1, hs.2, FinG.ok (R := RD K) f hr (.bl _)⟩)
      · exact f.elim
    · exact f.elim
  · split at f
    · rename_i p ps e1 e2
      split at f
      · rename_i hs
        obtain ⟨a, rfl, hl⟩ := pyL_rep hr e2 ry
        exact .inl ⟨p, ps, pyH_rep hr e1 rx, hl, hs.1, hs.2, FinG.ok (R := RD K) f hr (.bl _)⟩
      · exact f.elim
    · exact f.elim
/-! the methods of lists -/
def mPop (x : D) (ds : List D) : M D := fun h => match x, ds with
  | .ref n, [] => (match h[n]? with
    | some (.lst xs) => (match xs[xs.length - 1]? with
      | some y => .ok y (h.set n (.lst xs.dropLast))
      | none => .bad)
    | _ => .bad)
  | _, _ => .bad
theorem RepAll.dropLast : ∀ {vs : List V} {ds : List D}, RepAll K μ H vs ds → RepAll K μ H vs.dropLast ds.dropLast := fun {vs ds} r => by
  rw [List.dropLast_eq_take, List.dropLast_eq_take, r.length]
  exact r.take _
theorem lift_pop : LiftM K rPop mPop := fun μ H hd x dx xs dxs W σ Q hr rx rxs f => by
  unfold mPop at f
  split at f
  · split at f
    · rename_i ds q
      split at f
      · rename_i y q2
        cases rx with
        | ref hn =>
          cases rxs
          obtain ⟨vs, h1, ra⟩ := hr.obj _ _ _ hn q
          obtain ⟨v, h2, rv⟩ := ra.get q2
          have ex : Ext μ H μ (upd H _ (.lst vs.dropLast)) := Ext.write h1 trivial
          exact ⟨_, vs, v, rfl, rfl, h1, by rw [ra.length]; exact h2, f μ _ _ ex (hr.write hn h1 trivial ⟨_, upd_same, (ra.ext ex).dropLast⟩) (rv.ext ex)⟩
      · exact f.elim
    · exact f.elim
  · exact f.elim
def mExt (x : D) (ds : List D) : M D := fun h => match x, ds with
  | .ref n, [.ref m] => (match h[n]?, h[m]? with
    | some (.lst xs), some (.lst ys) => if xs.length + ys.length ≤ sizeLine then .ok .non (h.set n (.lst (xs ++ ys))) else .bad
    | _, _ => .bad)
  | _, _ => .bad
theorem lift_ext : LiftM K rExtend mExt := fun μ H hd x dx xs dxs W σ Q hr rx rxs f => by
  unfold mExt at f
  split at f
  · split at f
    · rename_i as bs q q2
      split at f
      · rename_i hl
        cases rx with
        | ref hn =>
          cases rxs with
          | cons r1 rr =>
            cases rr
            cases r1 with
            | ref hm =>
              obtain ⟨vs, h1, ra⟩ := hr.obj _ _ _ hn q
              obtain ⟨ws, h2, rb⟩ := hr.obj _ _ _ hm q2
              have ex : Ext μ H μ (upd H _ (.lst (vs ++ ws))) := Ext.write h1 trivial
              exact ⟨_, _, vs, ws, rfl, rfl, h1, h2, by rw [ra.length, rb.length]; exact hl, f μ _ _ ex (hr.write hn h1 trivial ⟨_, upd_same, (ra.ext ex).append (rb.ext ex)⟩) .non⟩
      · exact f.elim
    · exact f.elim
  · exact f.elim
def mIns (x : D) (ds : List D) : M D := fun h => match x, ds with
  | .ref n, [.int i, y] => (match h[n]? with
    | some (.lst xs) => if xs.length < sizeLine ∧ 0 ≤ i ∧ i < 2 ^ 63 then .ok .non (h.set n (.lst (xs.take i.toNat ++ [y] ++ xs.drop i.toNat))) else .bad
    | _ => .bad)
  | _, _ => .bad
theorem lift_ins : LiftM K (fun x vs H Q => ∃ (l : Addr) (xs : List V) (i : Int) (y : V), x = .ref l ∧ vs = [.int i, y] ∧ H l = some (.lst xs) ∧ xs.length < sizeLine ∧ 0 ≤ i ∧ i < 2 ^ 63 ∧
    Q .non (upd H l (.lst (xs.take i.toNat ++ [y] ++ xs.drop i.toNat)))) mIns := fun μ H hd x dx xs dxs W σ Q hr rx rxs f => by
  unfold mIns at f
  split at f
  · split at f
    · rename_i as q
      split at f
      · rename_i hl
        cases rx with
        | ref hn =>
          cases rxs with
          | cons r1 rr =>
            cases rr with
            | @cons y _ _ _ r2 rr =>
              cases rr
              cases r1
              obtain ⟨vs, h1, ra⟩ := hr.obj _ _ _ hn q
              have ex : ∀ zs, Ext μ H μ (upd H _ (.lst zs)) := fun zs => Ext.write h1 trivial
              exact ⟨_, vs, _, y, rfl, rfl, h1, by rw [ra.length]; exact hl.1, hl.2.1, hl.2.2, f μ _ _ (ex _) (hr.write hn h1 trivial ⟨_, upd_same, (((ra.ext (ex _)).take _).append (.one (r2.ext (ex _)))).append ((ra.ext (ex _)).drop _)⟩) .non⟩
      · exact f.elim
    · exact f.elim
  · exact f.elim
/-! the methods of texts -/
def mPart (x : D) (ds : List D) : M D := fun h => match x, ds with
  | .str a, [.str b] => if (b.length == 0) = false ∧ a.length ≤ sizeLine then .ok (.tup [.str (Txt.partition a b).1, .str (Txt.partition a b).2.1, .str (Txt.partition a b).2.2]) h else .bad
  | _, _ => .bad
theorem lift_part : LiftM K (fun x xs H Q => ∃ a b, x = .str a ∧ xs = [.str b] ∧ (b.length == 0) = false ∧ a.length ≤ sizeLine ∧
    ∀ p, H p = none → Q (.ref p) (upd H p (.tup [.str (Txt.partition a b).1, .str (Txt.partition a b).2.1, .str (Txt.partition a b).2.2]))) mPart := fun μ H hd x dx xs dxs W σ Q hr rx rxs f => by
  unfold mPart at f
  split at f
  · split at f
    · rename_i hl
      cases rx
      cases rxs with
      | cons r1 rr =>
        cases rr
        cases r1
        exact ⟨_, _, rfl, rfl, hl.1, hl.2, fun p hp => fin_tup hr (.cons (.str _) (.cons (.str _) (.cons (.str _) .nil))) f hp⟩
    · exact f.elim
  · exact f.elim
def mSIndex (x : D) (ds : List D) : M D := fun h => match x, ds with
  | .str a, [.str b] => (match Builtin.Str.occurrences a b 0 a.length 1 with
    | i :: _ => .ok (.int (i : Nat)) h
    | [] => .bad)
  | _, _ => .bad
theorem lift_sindex : LiftM K (fun x xs H Q => ∃ a b i rest, x = .str a ∧ xs = [.str b] ∧ Builtin.Str.occurrences a b 0 a.length 1 = i :: rest ∧ Q (.int (i : Nat)) H) mSIndex := fun μ H hd x dx xs dxs W σ Q hr rx rxs f => by
  unfold mSIndex at f
  split at f
  · split at f
    · rename_i i r e
      cases rx
      cases rxs with
      | cons r1 rr =>
        cases rr
        cases r1
        exact ⟨_, _, i, r, rfl, rfl, e, FinG.ok (R := RD K) f hr (.int _)⟩
    · exact f.elim
  · exact f.elim
def mSplit (x : D) (ds : List D) : M D := fun h => match x, ds with
  | .str a, [.str b] => if (b.length == 0) = false ∧ a.length + 2 ≤ sizeLine then .ok (.ref h.length) (h ++ [.lst ((Txt.split a b).map D.str)]) else .bad
  | _, _ => .bad
theorem strs_rep : ∀ ns : List Str, RepAll K μ H (ns.map V.str) (ns.map D.str)
  | [] => .nil
  | n :: ns => .cons (.str n) (strs_rep ns)
theorem lift_split : LiftM K (fun x xs H Q => ∃ a b, x = .str a ∧ xs = [.str b] ∧ (b.length == 0) = false ∧ a.length + 2 ≤ sizeLine ∧ rNewStrs (Txt.split a b) H Q) mSplit := fun μ H hd x dx xs dxs W σ Q hr rx rxs f => by
  unfold mSplit at f
  split at f
  · split at f
    · rename_i hl
      cases rx
      cases rxs with
      | cons r1 rr =>
        cases rr
        cases r1
        exact ⟨_, _, rfl, rfl, hl.1, hl.2, fun p hp => fin_lst hr (strs_rep _) f hp⟩
    · exact f.elim
  · exact f.elim
def strsD : List D → Option (List Str)
  | [] => some []
  | .str b :: r => (strsD r).map (b :: ·)
  | _ :: _ => none
theorem strsD_rep : ∀ {vs : List V} {ds : List D} {bs : List Str}, RepAll K μ H vs ds → strsD ds = some bs → vs = bs.map V.str
  | _, _, _, .nil, e => by cases e; rfl
  | _, _, _, .cons r t, e => by
    cases r with
    | str b =>
      unfold strsD at e
      obtain ⟨cs, e1, e2⟩ := Option.map_eq_some_iff.mp e
      subst e2
      rw [strsD_rep t e1]
      rfl
    | _ => cases e
theorem strsD_map (l : List Str) : strsD (l.map D.str) = some l := by
  induction l with
  | nil => rfl
  | cons a l ih => rw [List.map_cons, strsD, ih]; rfl
def mJoin (x : D) (ds : List D) : M D := fun h => match x, ds with
  | .str a, [.tup xs] => (match strsD xs with
    | some ys => if (ys.map (·.length)).sum + ys.length * a.length ≤ 16777216 then .ok (.str (Txt.join a ys)) h else .bad
    | none => .bad)
  | .str a, [y] => (match (lstOf h y).bind strsD with
    | some ys => if (ys.map (·.length)).sum + ys.length * a.length ≤ 16777216 then .ok (.str (Txt.join a ys)) h else .bad
    | none => .bad)
  | _, _ => .bad
theorem lift_join : LiftM K (fun x xs H Q => ∃ a p, ∃ ys : List Str, x = .str a ∧ xs = [.ref p] ∧ (SqL K H p (ys.map V.str) ∨ SqT K H p (ys.map V.str)) ∧
    (ys.map (·.length)).sum + ys.length * a.length ≤ 16777216 ∧ Q (.str (Txt.join a ys)) H) mJoin := fun μ H hd x dx xs dxs W σ Q hr rx rxs f => by
  unfold mJoin at f
  split at f
  · split at f
    · rename_i ys e
      split at f
      · rename_i hl
        cases rx
        cases rxs with
        | cons r1 rr =>
          cases rr
          cases r1 with
          | tup hs ra =>
            rw [strsD_rep ra e] at hs
            exact ⟨_, _, ys, rfl, rfl, .inr hs, hl, FinG.ok (R := RD K) f hr (.str _)⟩
      · exact f.elim
    · exact f.elim
  · split at f
    · rename_i ys e
      split at f
      · rename_i hl
        cases rx
        cases rxs with
        | cons r1 rr =>
          cases rr
          obtain ⟨ds, e1, e2⟩ := Option.bind_eq_some_iff.mp e
          obtain ⟨a, vs, rfl, hs, ra⟩ := lstOf_rep hr r1 e1
          rw [strsD_rep ra e2] at hs
          exact ⟨_, a, ys, rfl, rfl, .inl hs, hl, FinG.ok (R := RD K) f hr (.str _)⟩
      · exact f.elim
    · exact f.elim
  · exact f.elim
/-! abs -/
def bAbs (ds : List D) : M D := fun h => match ds with
  | [.int i] => .ok (.int (if i < 0 then -i else i)) h
  | _ => .bad
theorem lift_abs : LiftN K (fun xs H Q => ∃ i, xs = [.int i] ∧ Q (.int (if i < 0 then -i else i)) H) bAbs := fun μ H hd xs dx W σ Q hr rx f => by
  unfold bAbs at f
  split at f
  · cases rx with
    | cons r1 rr => cases rr; cases r1; exact ⟨_, rfl, FinG.ok (R := RD K) f hr (.int _)⟩
  · exact f.elim
end
/-! what is never reached -/
def sBad : SM := fun _ _ => .bad
theorem ds_bad {X : Cx} {W : XW} {st : Stmt} : DS X W st sBad := ⟨PS.imp ps_never fun D σ H ⟨μ, s, hd, sr, hr, f⟩ => f.elim⟩
section
variable {X : Cx} {W : XW} {o e : Expr} {es : List Expr} {mo : EM} {ma : AM} {apos cpos : Pos}
theorem de_count (hu : X.A.units + 65 < cLine) (ho : DE X W o mo) (ha : DA X W [e] ma)
    (hbase : attributeBase o "count" X.env (eval o X.env) = eval o X.env := by rfl)
    (hfew : ((backTo cpos (starEach [e] X.env)).all (fun x => !x.1) && (backToKw cpos (keywordEach [] X.env)).all (fun x => x.1.isSome)
      && decide ([e].length + ([] : List Keyword).length + (if ([] : List Keyword).isEmpty then 0 else 1) < 30)) = true := by rfl)
    (hline : (apos.endLine == cpos.line) = true := by rfl) (hs : starEach [e] X.env = (false, eval e X.env) :: starEach [] X.env := by rfl) (hplain : (backTo cpos (starEach [] X.env)).any (·.1) = false := by rfl) :
    DE X W (.Call (.Attribute o "count" apos) [e] [] cpos) (eM "list" mCount mo ma) := de_m PySem.F.plainAttrs_list PySem.F.slot_list_count PySem.F.type_list_count (mt_countD hu) lift_count ho ha hbase hfew hline hs hplain
end
/-! ### constants of the top -/
structure CF (K : PySem.W.Frag) (mg : Str → Option Value) (x : Str) (d : D) : Prop where
  ex : ∃ (v : V) (u : Value), mg x = some u ∧ RelV v u ∧ ∀ μ H, Rep K μ H v d
theorem CF.de {X : Cx} {W : XW} {x : Str} {d : D} {pos : Pos} (c : CF X.K X.mg x d) (hg : Gl X x := by rfl) (hd : (x == ("__debug__" : Str)) = false := by decide) : DE X W (.Name x pos) (eC d) := by
  obtain ⟨v, u, h1, h2, h3⟩ := c.ex
  exact de_glob h1 h2 h3 hg hd
section
variable {K : PySem.W.Frag} {mg : Str → Option Value} {h : Heap} {x : Str}
theorem cf_str {z : Str} {t : Tok} (X : K.In h) (G : h.Ns mainGlobals mg) (a : PySem.W.nsIn K mainGlobals x = some (some (.str z t))) : CF K mg x (.str z) := ⟨.str z, _, PySem.W.mg_of X G a, ⟨t, rfl⟩, fun _ _ => .str z⟩
theorem cf_int {z : Int} {t : Tok} (X : K.In h) (G : h.Ns mainGlobals mg) (a : PySem.W.nsIn K mainGlobals x = some (some (.int z t))) : CF K mg x (.int z) := ⟨.int z, _, PySem.W.mg_of X G a, ⟨t, rfl⟩, fun _ _ => .int z⟩
theorem cf_tup2 {f : Addr} {i j : Int} {t u : Tok} {od : Option Addr} {n : Nat} {sl : Array (Option Value)} (X : K.In h) (G : h.Ns mainGlobals mg) (a : PySem.W.nsIn K mainGlobals x = some (some (.ref f))) (l : K.lookup f = some ⟨.type "tuple", od, .seq #[.int i t, .int j u] n, sl⟩) : CF K mg x (.tup [.int i, .int j]) :=
  ⟨.ref f, _, PySem.W.mg_of X G a, rfl, fun μ H => .tup (vs := [.int i, .int j]) (.inr ⟨_, _, n, l, rfl, rfl, (show (2 : Nat) ≤ sizeLine by decide +kernel), .cons ⟨t, rfl⟩ (.cons ⟨u, rfl⟩ .nil)⟩) (.cons (.int i) (.cons (.int j) .nil))⟩
end
end DL

/-! DP: what the data layer's functions give: in plain Lean. -/
namespace DL
open PySem PySem.Spec L2
/-! ### forgetting -/
theorem lo_int {n : Nat} {i : Int} : D.lo n (.int i) = true := by unfold D.lo; rfl
theorem lo_bl {n : Nat} {b : Bool} : D.lo n (.bl b) = true := by unfold D.lo; rfl
theorem lo_non {n : Nat} : D.lo n .non = true := by unfold D.lo; rfl
theorem lo_str {n : Nat} {x : Str} : D.lo n (.str x) = true := by unfold D.lo; rfl
theorem lo_tup {n : Nat} {xs : List D} : D.lo n (.tup xs) = D.loAll n xs := by rw [D.lo]
theorem lo_rol {n : Nat} {xs : List D} : D.lo n (.rol xs) = D.loAll n xs := by rw [D.lo]
theorem lo_ref {n m : Nat} : D.lo n (.ref m) = decide (m < n) := by rw [D.lo]
theorem lo_nil {n : Nat} : D.loAll n [] = true := by rw [D.loAll]
theorem lo_cons {n : Nat} {x : D} {xs : List D} : D.loAll n (x :: xs) = (D.lo n x && D.loAll n xs) := by rw [D.loAll]
theorem lo_lst {n : Nat} {xs : List D} : MO.lo n (.lst xs) = D.loAll n xs := rfl
theorem loAll_of {n : Nat} : ∀ {xs : List D}, (∀ x ∈ xs, D.lo n x = true) → D.loAll n xs = true
  | [], _ => lo_nil
  | x :: xs, h => by rw [lo_cons, h x (by simp), loAll_of fun y hy => h y (by simp [hy])]; rfl
theorem okb_app {h g : Hd} : OkBelow h (h ++ g) := fun i o hi e => .inr (by rw [List.getElem?_append_left hi] at e; exact e)
theorem gc_app {h g : Hd} {d : D} (hd : d.lo h.length = true) : gc h d (h ++ g) = .ok d h := by
  unfold gc
  rw [if_pos okb_app, if_pos hd, List.take_left']
  rfl
theorem gc_same {h : Hd} {d : D} (hd : d.lo h.length = true) : gc h d h = .ok d h := by
  have := gc_app (g := []) hd
  rwa [List.append_nil] at this
/-- h' is h but for the p-th thing -/
structure But (p : Nat) (h h' : Hd) : Prop where
  len : h'.length = h.length
  same : ∀ i : Nat, i ≠ p → h'[i]? = h[i]?
theorem But.refl {p : Nat} {h : Hd} : But p h h := ⟨rfl, fun _ _ => rfl⟩
theorem But.trans {p : Nat} {h h1 h2 : Hd} (a : But p h h1) (b : But p h1 h2) : But p h h2 := ⟨b.len.trans a.len, fun i hi => (b.same i hi).trans (a.same i hi)⟩
theorem But.set {p : Nat} {h : Hd} {o : MO} : But p h (h.set p o) := ⟨by simp, fun i hi => List.getElem?_set_ne (fun e => hi e.symm)⟩
theorem But.app {p : Nat} {h h' g : Hd} (b : But p h h') (i : Nat) (hi : i ≠ p) (hl : i < h.length) : (h' ++ g)[i]? = h[i]? := by
  rw [List.getElem?_append_left (by rw [b.len]; exact hl)]
  exact b.same i hi
theorem But.lt_of {p i : Nat} {h h' : Hd} (b : But p h h') (hi : i ≠ p) {o : MO} (e : h[i]? = some o) : h'[i]? = some o := (b.same i hi).trans e
/-- what stands behind stands -/
theorem But.split {p : Nat} {h g h2 : Hd} (b : But p (h ++ g) h2) (hp : p < h.length) : ∃ h', h2 = h' ++ g ∧ But p h h' := by
  have hl : h.length ≤ h2.length := by rw [b.len, List.length_append]; omega
  refine ⟨h2.take h.length, ?_, ⟨by rw [List.length_take]; omega, fun i hi => ?_⟩⟩
  · apply List.ext_getElem?
    intro i
    rcases Nat.lt_or_ge i h.length with z | z
    · rw [List.getElem?_append_left (by rw [List.length_take]; omega), List.getElem?_take_of_lt z]
    · have z' : (h2.take h.length).length ≤ i := by rw [List.length_take]; omega
      rw [b.same i (by omega), List.getElem?_append_right z, List.getElem?_append_right z', List.length_take, Nat.min_eq_left hl]
  · rcases Nat.lt_or_ge i h.length with z | z
    · rw [List.getElem?_take_of_lt z, b.same i hi, List.getElem?_append_left z]
    · rw [List.getElem?_eq_none (by rw [List.length_take]; omega), List.getElem?_eq_none z]
theorem gc_but {p : Nat} {h h' g : Hd} {d : D} {o : MO} (b : But p h h') (ho : h'[p]? = some o) (hl : o.lo h.length = true) (hd : d.lo h.length = true) : gc h d (h' ++ g) = .ok d h' := by
  unfold gc
  rw [if_pos, if_pos hd, ← b.len, List.take_left']
  · rfl
  · intro i u hi e
    rw [List.getElem?_append_left (by rw [b.len]; exact hi)] at e
    by_cases hp : i = p
    · subst hp
      rw [ho] at e
      cases e
      exact .inl hl
    · rw [b.same i hp] at e
      exact .inr e
theorem gc_but' {p : Nat} {h h' : Hd} {d : D} {o : MO} (b : But p h h') (ho : h'[p]? = some o) (hl : o.lo h.length = true) (hd : d.lo h.length = true) : gc h d h' = .ok d h' := by
  have := gc_but (g := []) b ho hl hd
  rwa [List.append_nil] at this
/-- a new thing is handed back -/
theorem gc_new {h : Hd} {o : MO} (hl : o.lo h.length = true) : gc h (.ref h.length) (h ++ [o]) = .ok (.ref h.length) (h ++ [o]) := by
  unfold gc
  rw [if_pos okb_app, if_neg (by rw [lo_ref]; simp)]
  simp only
  rw [List.getElem?_append_right (Nat.le_refl _), Nat.sub_self]
  simp only [List.getElem?_cons_zero]
  rw [if_pos hl, List.take_left']
  rfl
theorem gc_else {h h' : Hd} {m : Nat} {o : MO} (hm : h.length ≤ m) (ho : h'[m]? = some o) (hl : o.lo h.length = false) : gc h (.ref m) h' = .ok (.ref m) h' := by
  unfold gc
  split
  · rw [if_neg (by rw [lo_ref]; simpa using hm)]
    simp only
    rw [ho]
    simp only
    rw [if_neg (by rw [hl]; decide)]
  · rfl
theorem gc_new_at {h g : Hd} {m : Nat} {o : MO} (hm : h.length ≤ m) (ho : (h ++ g)[m]? = some o) (hl : o.lo h.length = true) : gc h (.ref m) (h ++ g) = .ok (.ref h.length) (h ++ [o]) := by
  unfold gc
  rw [if_pos okb_app, if_neg (by rw [lo_ref]; simpa using hm)]
  simp only
  rw [ho]
  simp only
  rw [if_pos hl, List.take_left']
  rfl
/-! ### sizes -/
def Sz (k : Nat) (i : Int) : Prop := i.natAbs < 2 ^ k
theorem Sz.of {k : Nat} {i : Int} (h1 : -(2 ^ k : Int) < i) (h2 : i < (2 ^ k : Int)) : Sz k i := by
  unfold Sz
  have : ((2 ^ k : Nat) : Int) = (2 ^ k : Int) := by simp
  omega
theorem Sz.mul {k l : Nat} {i j : Int} (a : Sz k i) (b : Sz l j) : Sz (k + l) (i * j) := by
  unfold Sz at *
  rw [Int.natAbs_mul, Nat.pow_add]
  exact Nat.mul_lt_mul'' a b
theorem Sz.mono {k l : Nat} {i : Int} (a : Sz k i) (h : k ≤ l) : Sz l i := Nat.lt_of_lt_of_le a (Nat.pow_le_pow_right (by decide) h)
theorem Sz.add {k l : Nat} {i j : Int} (a : Sz k i) (b : Sz l j) : Sz (max k l + 1) (i + j) := by
  have a' := a.mono (Nat.le_max_left k l)
  have b' := b.mono (Nat.le_max_right k l)
  unfold Sz at *
  have := Int.natAbs_add_le i j
  rw [Nat.pow_succ]
  omega
theorem Sz.sub {k l : Nat} {i j : Int} (a : Sz k i) (b : Sz l j) : Sz (max k l + 1) (i - j) := by
  have b' : Sz l (-j) := by unfold Sz at *; rw [Int.natAbs_neg]; exact b
  exact a.add b'
theorem Sz.log {k : Nat} {i : Int} (a : Sz k i) : i.natAbs.log2 ≤ k := by
  rcases Nat.eq_zero_or_pos k with z | z
  · subst z
    have : i.natAbs = 0 := by unfold Sz at a; omega
    rw [this]
    decide
  · exact Nat.le_of_lt (PySem.Flt.log2_lt_of z a)
theorem MulOk.of {k l : Nat} {i j : Int} (a : Sz k i) (b : Sz l j) (h : k + l < 100000000) : MulOk i j := by
  have := a.log
  have := b.log
  unfold MulOk
  omega
theorem DivOk.of {k : Nat} {i j : Int} (h : 0 < j) (b : Sz k j) (hk : k < 9000) : DivOk i j := ⟨h, Nat.lt_of_le_of_lt b.log hk⟩
theorem dMul_ok {i j : Int} {h : Hd} (q : MulOk i j) : dMul (.int i) (.int j) h = .ok (.int (i * j)) h := if_pos q
theorem dDiv_ok {i j : Int} {h : Hd} (q : DivOk i j) : dDiv (.int i) (.int j) h = .ok (.int (i / j)) h := if_pos q
theorem dMod_ok {i j : Int} {h : Hd} (q : 0 < j) : dMod (.int i) (.int j) h = .ok (.int (i % j)) h := if_pos q
theorem dPow_ok {i j : Int} {h : Hd} (q : PowOk i j) : dPow (.int i) (.int j) h = .ok (.int (i ^ j.toNat)) h := if_pos q
theorem bDivmod_ok {i j : Int} {h : Hd} (q : DivOk i j) : bDivmod [.int i, .int j] h = .ok (.tup [.int (i / j), .int (i % j)]) h := if_pos q
/-! ### evaluation, step by step: what comes behind is no function of lean's, so that nothing is looked at behind what is not reckoned yet -/
def Res.b1 (r : Res D) (g : D → D → M D) (x : D) : Res D := r.bind fun y h => g x y h
def Res.b2 (r : Res D) (g : D → D → M D) (b : EM) (s : Sl) : Res D := r.bind fun x h => (b s h).b1 g x
def Res.bAnd (r : Res Bool) (t : TM) (s : Sl) : Res Bool := r.bind fun c h => if c = true then t s h else .ok false h
def Res.bOr (r : Res Bool) (t : TM) (s : Sl) : Res Bool := r.bind fun c h => if c = true then .ok true h else t s h
def Res.bNot (r : Res Bool) : Res Bool := r.bind fun c h => .ok (!c) h
def Res.bAndV (r : Res Bool) (t : EM) (s : Sl) : Res D := r.bind fun c h => if c = true then t s h else .ok (.bl false) h
def Res.bOrV (r : Res Bool) (t : EM) (s : Sl) : Res D := r.bind fun c h => if c = true then .ok (.bl true) h else t s h
def Res.bNotV (r : Res Bool) : Res D := r.bind fun c h => .ok (.bl (!c)) h
def Res.bIf (r : Res Bool) (a b : EM) (s : Sl) : Res D := r.bind fun c h => if c = true then a s h else b s h
def Res.bC1 (r : Res (List D)) (x : D) : Res (List D) := r.bind fun xs h => .ok (x :: xs) h
def Res.bC (r : Res D) (a : AM) (s : Sl) : Res (List D) := r.bind fun x h => (a s h).bC1 x
def Res.bM1 (r : Res (List D)) (g : D → List D → M D) (x : D) : Res D := r.bind fun xs h => g x xs h
def Res.bM (r : Res D) (T : String) (g : D → List D → M D) (a : AM) (s : Sl) : Res D := r.bind fun x h => if tyM T x h = true then (a s h).bM1 g x else .bad
def Res.bSl2 (r : Res (Option Int)) (x : D) (l : Option Int) : Res D := r.bind fun u h => dSl x l u h
def Res.bSl1 (r : Res (Option Int)) (hi : OM) (x : D) (s : Sl) : Res D := r.bind fun l h => (hi s h).bSl2 x l
def Res.bSl (r : Res D) (lo hi : OM) (s : Sl) : Res D := r.bind fun x h => (lo s h).bSl1 hi x s
def Res.bG (r : Res Sl) (gs : GMs) (xs : List D) : Res Sl := r.bind fun s h => gs xs s h
def Res.bS3 (r : Res Unit) (s : Sl) : Res Sl := r.bind fun _ h => .ok s h
def Res.bS2 (r : Res D) (set : D → D → D → Hd → Res Unit) (x d : D) (s : Sl) : Res Sl := r.bind fun y h => (set x y d h).bS3 s
def Res.bS1 (r : Res D) (i : EM) (set : D → D → D → Hd → Res Unit) (d : D) (s : Sl) : Res Sl := r.bind fun x h => (i s h).bS2 set x d s
def Res.kAsg (r : Res D) (g : GM) (s : Sl) : SR := r.thenS s fun d h => (g d s h).toS
def Res.kSet (r : Res D) (n : Nat) (s : Sl) : SR := r.thenS s fun d h => .nx (s.set n (some d)) h
def Res.kRet (r : Res D) (s : Sl) : SR := r.thenS s fun d h => .rt d h
def Res.kExp (r : Res D) (s : Sl) : SR := r.thenS s fun _ h => .nx s h
def Res.kIf (r : Res Bool) (a b : SM) (s : Sl) : SR := r.thenS s fun c h => if c = true then a s h else b s h
def Res.kPar1 (r : Res D) (n m : Nat) (x : D) (s : Sl) : SR := r.thenS s fun y h => .nx ((s.set n (some x)).set m (some y)) h
def Res.kPar (r : Res D) (n m : Nat) (b : EM) (s : Sl) : SR := r.thenS s fun x h => (b s h).kPar1 n m x s
noncomputable def Res.kFor (r : Res ItD) (g : GM) (sm : SM) (s : Sl) : SR := r.thenS s fun p h => forD p.2 g sm p.1 s h
section
variable {α β : Type} {a : α} {h h1 : Hd} {s s1 : Sl} {d d1 d2 : D} {e1' e2' : EM} {sm sm' : SM} {tm tm' : TM} {am : AM} {b c : Bool} {i j : Int} {x y : Str} {xs : List D} {n m : Nat}
theorem Res.bind_ok {f : α → Hd → Res β} : (Res.ok a h).bind f = f a h := rfl
theorem Res.thenS_ok {f : α → Hd → SR} : (Res.ok a h).thenS s f = f a h := rfl
theorem SR.seq_nx : (SR.nx s h).seq sm = sm s h := rfl
theorem SR.seq_rt : (SR.rt d h).seq sm = .rt d h := rfl
theorem SR.fin_nx : (SR.nx s h).fin h1 = gc h1 .non h := rfl
theorem SR.fin_rt : (SR.rt d h).fin h1 = gc h1 d h := rfl
theorem toS_ok : (Res.ok s h).toS = .nx s h := rfl
def slAt (o : Option (Option D)) (h : Hd) : Res D := match o with
  | some (some d) => .ok d h
  | _ => .bad
theorem slAt_some : slAt (some (some d)) h = .ok d h := rfl
theorem ev_V : eV n s h = slAt s[n]? h := rfl
theorem ev_C : eC d s h = .ok d h := rfl
theorem ev_1 {g : D → M D} : e1 g e1' s h = (e1' s h).bind g := rfl
theorem ev_2 {g : D → D → M D} : e2 g e1' e2' s h = (e1' s h).b2 g e2' s := rfl
theorem b2_ok {g : D → D → M D} : (Res.ok d h).b2 g e2' s = (e2' s h).b1 g d := rfl
theorem b1_ok {g : D → D → M D} : (Res.ok d h).b1 g d1 = g d1 d h := rfl
theorem ev_B : tB' e1' s h = (e1' s h).bind asB := rfl
theorem ev_Tr : tTr e1' s h = (e1' s h).bind asT := rfl
theorem ev_tAnd : tAnd' tm tm' s h = (tm s h).bAnd tm' s := rfl
theorem bAnd_ok : (Res.ok b h).bAnd tm' s = if b = true then tm' s h else .ok false h := rfl
theorem ev_tOr : tOr' tm tm' s h = (tm s h).bOr tm' s := rfl
theorem bOr_ok : (Res.ok b h).bOr tm' s = if b = true then .ok true h else tm' s h := rfl
theorem ev_tNot : tNot' tm s h = (tm s h).bNot := rfl
theorem bNot_ok : (Res.ok b h).bNot = .ok (!b) h := rfl
theorem ev_And : eAnd e1' e2' s h = ((e1' s h).bind asB).bAndV e2' s := by
  unfold eAnd
  cases e1' s h <;> rfl
theorem bAndV_ok : (Res.ok b h).bAndV e2' s = if b = true then e2' s h else .ok (.bl false) h := rfl
theorem ev_Or : eOr e1' e2' s h = ((e1' s h).bind asB).bOrV e2' s := by
  unfold eOr
  cases e1' s h <;> rfl
theorem bOrV_ok : (Res.ok b h).bOrV e2' s = if b = true then .ok (.bl true) h else e2' s h := rfl
theorem ev_Not : eNot e1' s h = ((e1' s h).bind asB).bNotV := by
  unfold eNot
  cases e1' s h <;> rfl
theorem bNotV_ok : (Res.ok b h).bNotV = .ok (.bl (!b)) h := rfl
theorem ev_If : eIf tm e1' e2' s h = (tm s h).bIf e1' e2' s := rfl
theorem bIf_ok : (Res.ok b h).bIf e1' e2' s = if b = true then e1' s h else e2' s h := rfl
theorem ev_aN : aN s h = .ok [] h := rfl
theorem ev_aC : aC e1' am s h = (e1' s h).bC am s := rfl
theorem bC_ok : (Res.ok d h).bC am s = (am s h).bC1 d := rfl
theorem bC1_ok : (Res.ok xs h).bC1 d = .ok (d :: xs) h := rfl
theorem ev_A {g : List D → M D} : eA g am s h = (am s h).bind g := rfl
theorem ev_F {F : List D → M D} (q : xs.length = n) : eF n F xs h = F xs h := if_pos q
theorem ev_T (q : xs.length ≤ 1000) : mkT xs h = .ok (.tup xs) h := if_pos (Nat.le_trans q (by decide))
theorem ev_L (q : xs.length ≤ 1000) : mkL xs h = .ok (.ref h.length) (h ++ [.lst xs]) := if_pos (Nat.le_trans q (by decide))
theorem ev_M {T : String} {g : D → List D → M D} : eM T g e1' am s h = (e1' s h).bM T g am s := rfl
theorem bM_ok {T : String} {g : D → List D → M D} (q : tyM T d h = true) : (Res.ok d h).bM T g am s = (am s h).bM1 g d := if_pos q
theorem bM1_ok {g : D → List D → M D} : (Res.ok xs h).bM1 g d = g d xs h := rfl
theorem ev_Sl {lo hi : OM} : eSl e1' lo hi s h = (e1' s h).bSl lo hi s := rfl
theorem bSl_ok {lo hi : OM} : (Res.ok d h).bSl lo hi s = (lo s h).bSl1 hi d s := rfl
theorem bSl1_ok {hi : OM} {l : Option Int} : (Res.ok l h).bSl1 hi d s = (hi s h).bSl2 d l := rfl
theorem bSl2_ok {l u : Option Int} : (Res.ok u h).bSl2 d l = dSl d l u h := rfl
theorem ev_oN : oN s h = .ok none h := rfl
def asO (d : D) : M (Option Int) := fun h => match d with
  | .int i => .ok (some i) h
  | _ => .bad
theorem asO_int : asO (.int i) h = .ok (some i) h := rfl
theorem ev_oS : oS e1' s h = (e1' s h).bind asO := rfl
theorem ev_D0 : eD0 s h = .ok (.ref h.length) (h ++ [.dK []]) := rfl
theorem ev_nil : sNil s h = .nx s h := rfl
theorem ev_seq : sSeq sm sm' s h = (sm s h).seq sm' := rfl
theorem ev_asg {g : GM} : sAsg e1' g s h = (e1' s h).kAsg g s := rfl
theorem kAsg_ok {g : GM} : (Res.ok d h).kAsg g s = (g d s h).toS := rfl
theorem ev_gN : gN n d s h = .ok (s.set n (some d)) h := rfl
theorem ev_gsN : gsN [] s h = .ok s h := rfl
theorem ev_gsC {g : GM} {gs : GMs} : gsC g gs (d :: xs) s h = (g d s h).bG gs xs := rfl
theorem bG_ok {gs : GMs} : (Res.ok s h).bG gs xs = gs xs s h := rfl
theorem ev_gT {gs : GMs} (q : xs.length = n) : gT n gs (.tup xs) s h = gs xs s h := if_pos q
theorem ev_gS {set : D → D → D → Hd → Res Unit} : gS e1' e2' set d s h = (e1' s h).bS1 e2' set d s := rfl
theorem bS1_ok {set : D → D → D → Hd → Res Unit} : (Res.ok d1 h).bS1 e2' set d s = (e2' s h).bS2 set d1 d s := rfl
theorem bS2_ok {set : D → D → D → Hd → Res Unit} : (Res.ok d2 h).bS2 set d1 d s = (set d1 d2 d h).bS3 s := rfl
theorem bS3_ok {u : Unit} : (Res.ok u h).bS3 s = .ok s h := rfl
theorem ev_set : sSet n e1' s h = (e1' s h).kSet n s := rfl
theorem kSet_ok : (Res.ok d h).kSet n s = .nx (s.set n (some d)) h := rfl
theorem ev_ret : sRet e1' s h = (e1' s h).kRet s := rfl
theorem kRet_ok : (Res.ok d h).kRet s = .rt d h := rfl
theorem ev_retN : sRetN s h = .rt .non h := rfl
theorem ev_expr : sExpr e1' s h = (e1' s h).kExp s := rfl
theorem kExp_ok : (Res.ok d h).kExp s = .nx s h := rfl
theorem ev_if : sIf tm sm sm' s h = (tm s h).kIf sm sm' s := rfl
theorem kIf_ok : (Res.ok b h).kIf sm sm' s = if b = true then sm s h else sm' s h := rfl
theorem ev_par2 {a1 a2 : EM} : sPar n m (aC a1 (aC a2 aN)) s h = (a1 s h).kPar n m a2 s := by
  unfold sPar aC aN Res.kPar Res.kPar1
  cases a1 s h with
  | ok x h1 =>
    simp only [Res.bind, Res.thenS]
    cases a2 s h1 <;> rfl
  | _ => rfl
theorem kPar_ok : (Res.ok d h).kPar n m e2' s = (e2' s h).kPar1 n m d s := rfl
theorem kPar1_ok : (Res.ok d h).kPar1 n m d1 s = .nx ((s.set n (some d1)).set m (some d)) h := rfl
theorem ev_for {im : IM} {g : GM} : sFor im g sm s h = (im s h).kFor g sm s := rfl
theorem kFor_ok {g : GM} {c : Hd → Prop} : (Res.ok (xs, c) h).kFor g sm s = forD c g sm xs s h := rfl
theorem ev_i1 {g : D → M ItD} : i1 e1' g s h = (e1' s h).bind g := rfl
theorem ev_iA {g : List D → M ItD} : iA am g s h = (am s h).bind g := rfl
theorem ev_run {N : Nat} : runB N sm xs h = (sm (xs.map some ++ List.replicate (N - xs.length) none) h).fin h := rfl
theorem asB_bl : asB (.bl b) h = .ok b h := rfl
theorem asT_bl : asT (.bl b) h = .ok b h := rfl
theorem dAdd_ii : dAdd (.int i) (.int j) h = .ok (.int (i + j)) h := rfl
theorem dSub_ii : dSub (.int i) (.int j) h = .ok (.int (i - j)) h := rfl
theorem dNeg_i : dNeg (.int i) h = .ok (.int (-i)) h := rfl
theorem dLt_ii : dLt (.int i) (.int j) h = .ok (.bl (decide (i < j))) h := rfl
theorem dGt_ii : dGt (.int i) (.int j) h = .ok (.bl (decide (j < i))) h := rfl
theorem dLe_ii : dLe (.int i) (.int j) h = .ok (.bl (decide (i ≤ j))) h := rfl
theorem dGe_ii : dGe (.int i) (.int j) h = .ok (.bl (decide (j ≤ i))) h := rfl
theorem bMax2_ii : bMax2 [.int i, .int j] h = .ok (.int (if j > i then j else i)) h := rfl
theorem bMin2_ii : bMin2 [.int i, .int j] h = .ok (.int (if j < i then j else i)) h := rfl
theorem bInt_i : bInt [.int i] h = .ok (.int i) h := rfl
theorem bInt_b : bInt [.bl b] h = .ok (.int (if b then 1 else 0)) h := rfl
theorem bTuple_t : bTuple [.tup xs] h = .ok (.tup xs) h := rfl
theorem bLen_t : bLen [.tup xs] h = .ok (.int xs.length) h := rfl
theorem bLen_r : bLen [.rol xs] h = .ok (.int xs.length) h := rfl
theorem bLen_l (q : h[n]? = some (.lst xs)) : bLen [.ref n] h = .ok (.int xs.length) h := by unfold bLen len0; simp only [q]
def optR (o : Option D) (h : Hd) : Res D := match o with
  | some d => .ok d h
  | none => .bad
theorem optR_some : optR (some d) h = .ok d h := rfl
theorem dIx_t : dIx (.tup xs) (.int i) h = optR (atI xs i) h := by
  show (match atI xs i with | some d => Res.ok d h | none => Res.bad) = _
  cases atI xs i <;> rfl
theorem dIx_r : dIx (.rol xs) (.int i) h = optR (atI xs i) h := by
  show (match atI xs i with | some d => Res.ok d h | none => Res.bad) = _
  cases atI xs i <;> rfl
theorem dIx_l (q : h[n]? = some (.lst xs)) : dIx (.ref n) (.int i) h = optR (atI xs i) h := by
  unfold dIx lstOf
  simp only [q]
  cases atI xs i <;> rfl
theorem at_0 : atI (d :: xs) 0 = some d := by
  unfold atI ixN
  simp
theorem at_1 : atI (d :: d1 :: xs) 1 = some d1 := by
  unfold atI ixN
  rw [if_pos (by decide), if_pos (by simp; omega)]
  rfl
theorem at_2 : atI (d :: d1 :: d2 :: xs) 2 = some d2 := by
  unfold atI ixN
  rw [if_pos (by decide), if_pos (by simp; omega)]
  rfl
theorem at_nat (hm : (m : Nat) < xs.length) : atI xs (m : Int) = some xs[m] := by
  unfold atI ixN
  simp [hm]
theorem dEq_ii : dEq (.int i) (.int j) h = .ok (.bl (decide (i = j))) h := by
  show (if SeqAt.shaped (.int i) = true ∧ SeqAt.shaped (.int j) = true then Res.ok (D.bl (false ^^ PyData.eqv (.int i) (.int j))) h else .bad) = _
  rw [if_pos ⟨rfl, rfl⟩]
  simp [PyData.eqv]
  by_cases e : i = j <;> simp [e]
theorem dNe_ii : dNe (.int i) (.int j) h = .ok (.bl (!decide (i = j))) h := by
  show (if SeqAt.shaped (.int i) = true ∧ SeqAt.shaped (.int j) = true then Res.ok (D.bl (true ^^ PyData.eqv (.int i) (.int j))) h else .bad) = _
  rw [if_pos ⟨rfl, rfl⟩]
  simp [PyData.eqv]
  by_cases e : i = j <;> simp [e]
theorem dEq_bb : dEq (.bl b) (.bl c) h = .ok (.bl (b == c)) h := by cases b <;> cases c <;> rfl
theorem dNe_bb : dNe (.bl b) (.bl c) h = .ok (.bl (!(b == c))) h := by cases b <;> cases c <;> rfl
theorem dEqn_fr {neg : Bool} {a b c d : Int} : dEqn neg (.tup [.int a, .int b]) (.tup [.int c, .int d]) h = .ok (.bl (neg ^^ decide (a = c ∧ b = d))) h := by
  show (if SeqAt.shaped (.tuple [.int a, .int b]) = true ∧ SeqAt.shaped (.tuple [.int c, .int d]) = true then Res.ok (D.bl (neg ^^ PyData.eqv (.tuple [.int a, .int b]) (.tuple [.int c, .int d]))) h else .bad) = _
  rw [if_pos ⟨rfl, rfl⟩]
  simp only [PyData.eqv, PyData.eqvAll, Bool.and_true]
  have e : (a == c && b == d) = decide (a = c ∧ b = d) := by rw [Bool.eq_iff_iff]; simp
  rw [e]
theorem dEq_fr {a b c d : Int} : dEq (.tup [.int a, .int b]) (.tup [.int c, .int d]) h = .ok (.bl (decide (a = c ∧ b = d))) h := by
  unfold dEq
  rw [dEqn_fr, Bool.false_xor]
theorem dNe_fr {a b c d : Int} : dNe (.tup [.int a, .int b]) (.tup [.int c, .int d]) h = .ok (.bl (!decide (a = c ∧ b = d))) h := by
  unfold dNe
  rw [dEqn_fr, Bool.true_xor]
theorem is_bb {neg : Bool} : isD neg (.bl b) (.bl c) h = .ok (.bl (neg ^^ decide (b = c))) h := rfl
theorem is_dn {neg : Bool} : isD neg d .non h = .ok (.bl (neg ^^ (match d with | .non => true | _ => false))) h := rfl
theorem setL_l {k : Nat} (q : h[n]? = some (.lst xs)) (q2 : ixN xs.length i = some k) : dSetL (.ref n) (.int i) d h = .ok () (h.set n (.lst (xs.set k d))) := by unfold dSetL; simp only [q, q2]
theorem iSeq_t : iSeq (.tup xs) h = .ok (xs, fun _ => True) h := rfl
theorem iSeq_r : iSeq (.rol xs) h = .ok (xs, fun _ => True) h := rfl
theorem iSeq_l (q : h[n]? = some (.lst xs)) : iSeq (.ref n) h = .ok (xs, fun h' => h'[n]? = some (.lst xs)) h := by unfold iSeq; simp only [q]
theorem mApp_l (q : h[n]? = some (.lst xs)) (q2 : xs.length < sizeLine) : mApp (.ref n) [d] h = .ok .non (h.set n (.lst (xs ++ [d]))) := by unfold mApp; simp only [q]; exact if_pos q2
theorem tyM_l (q : h[n]? = some (.lst xs)) : tyM "list" (.ref n) h = true := by unfold tyM; simp only [q]; rfl
end
/-! ### kinds -/
theorem kit_ii : kitB "int" "int" = some true := by decide +kernel
theorem kit_bi : kitB "bool" "int" = some true := by decide +kernel
theorem kit_ni : kitB "NoneType" "int" = some false := by decide +kernel
theorem kit_si : kitB "str" "int" = some false := by decide +kernel
theorem kit_ti : kitB "tuple" "int" = some false := by decide +kernel
theorem kit_li : kitB "list" "int" = some false := by decide +kernel
theorem kit_di : kitB "dict" "int" = some false := by decide +kernel
theorem kit_ib : kitB "int" "bool" = some false := by decide +kernel
theorem kit_bb : kitB "bool" "bool" = some true := by decide +kernel
theorem kit_nb : kitB "NoneType" "bool" = some false := by decide +kernel
theorem kit_sb : kitB "str" "bool" = some false := by decide +kernel
theorem kit_tb : kitB "tuple" "bool" = some false := by decide +kernel
theorem kit_lb : kitB "list" "bool" = some false := by decide +kernel
theorem kit_db : kitB "dict" "bool" = some false := by decide +kernel
theorem kit_it : kitB "int" "tuple" = some false := by decide +kernel
theorem kit_bt : kitB "bool" "tuple" = some false := by decide +kernel
theorem kit_nt : kitB "NoneType" "tuple" = some false := by decide +kernel
theorem kit_st : kitB "str" "tuple" = some false := by decide +kernel
theorem kit_tt : kitB "tuple" "tuple" = some true := by decide +kernel
theorem kit_lt : kitB "list" "tuple" = some false := by decide +kernel
theorem kit_dt : kitB "dict" "tuple" = some false := by decide +kernel
theorem kit_is : kitB "int" "str" = some false := by decide +kernel
theorem kit_bs : kitB "bool" "str" = some false := by decide +kernel
theorem kit_ns : kitB "NoneType" "str" = some false := by decide +kernel
theorem kit_ss : kitB "str" "str" = some true := by decide +kernel
theorem kit_ts : kitB "tuple" "str" = some false := by decide +kernel
theorem kit_ls : kitB "list" "str" = some false := by decide +kernel
theorem kit_ds : kitB "dict" "str" = some false := by decide +kernel
/-- the kind of every value is known to isinstance -/
theorem isi_int {h : Hd} {x : D} {t : String} (e : ty0 h x = some t) : bIsi [x, .ty "int"] h = .ok (.bl (t == "int" || t == "bool")) h := by
  have all : t = "NoneType" ∨ t = "bool" ∨ t = "int" ∨ t = "str" ∨ t = "tuple" ∨ t = "list" ∨ t = "dict" := by
    unfold ty0 at e
    split at e
    all_goals first | (cases e; simp; done) | (cases e; done) | (split at e <;> first | (cases e; simp; done) | (cases e; done))
  unfold bIsi
  simp only [e]
  rcases all with z | z | z | z | z | z | z <;> subst z <;> simp only [kit_ii, kit_bi, kit_ni, kit_si, kit_ti, kit_li, kit_di] <;> rfl
theorem isi_bool {h : Hd} {x : D} {t : String} (e : ty0 h x = some t) : bIsi [x, .ty "bool"] h = .ok (.bl (t == "bool")) h := by
  have all : t = "NoneType" ∨ t = "bool" ∨ t = "int" ∨ t = "str" ∨ t = "tuple" ∨ t = "list" ∨ t = "dict" := by
    unfold ty0 at e
    split at e
    all_goals first | (cases e; simp; done) | (cases e; done) | (split at e <;> first | (cases e; simp; done) | (cases e; done))
  unfold bIsi
  simp only [e]
  rcases all with z | z | z | z | z | z | z <;> subst z <;> simp only [kit_ib, kit_bb, kit_nb, kit_sb, kit_tb, kit_lb, kit_db] <;> rfl
theorem isi_tuple {h : Hd} {x : D} {t : String} (e : ty0 h x = some t) : bIsi [x, .ty "tuple"] h = .ok (.bl (t == "tuple")) h := by
  have all : t = "NoneType" ∨ t = "bool" ∨ t = "int" ∨ t = "str" ∨ t = "tuple" ∨ t = "list" ∨ t = "dict" := by
    unfold ty0 at e
    split at e
    all_goals first | (cases e; simp; done) | (cases e; done) | (split at e <;> first | (cases e; simp; done) | (cases e; done))
  unfold bIsi
  simp only [e]
  rcases all with z | z | z | z | z | z | z <;> subst z <;> simp only [kit_it, kit_bt, kit_nt, kit_st, kit_tt, kit_lt, kit_dt] <;> rfl
/-! ### loops -/
/-- a for by what holds between two turns -/
theorem forD_inv {chk : Hd → Prop} {g : GM} {body : SM} {I : List D → Sl → Hd → Prop} {R : SR → Prop} : ∀ (xs pre : List D) (s : Sl) (h : Hd), I pre s h →
    (∀ pre s h, I pre s h → chk h) →
    (∀ pre x post s h, pre ++ x :: post = pre ++ x :: post → x ∈ xs → I pre s h → ∃ s1 h1, g x s h = .ok s1 h1 ∧ ((∃ s2 h2, body s1 h1 = .nx s2 h2 ∧ I (pre ++ [x]) s2 h2) ∨ (∃ r, body s1 h1 = r ∧ (∀ s h, r ≠ .nx s h) ∧ R r))) →
    (∀ s h, I (pre ++ xs) s h → R (.nx s h)) → R (forD chk g body xs s h)
  | [], pre, s, h, i, hc, ht, he => by
    unfold forD
    rw [if_pos (hc _ _ _ i)]
    exact he s h (by rw [List.append_nil]; exact i)
  | x :: xs, pre, s, h, i, hc, ht, he => by
    unfold forD
    rw [if_pos (hc _ _ _ i)]
    obtain ⟨s1, h1, e1, q⟩ := ht pre x xs s h rfl (by simp) i
    rw [e1]
    rcases q with ⟨s2, h2, e2, i2⟩ | ⟨r, e2, nn, q⟩
    · simp only [e2]
      exact forD_inv xs (pre ++ [x]) s2 h2 i2 hc (fun pre y post s h e hy i => ht pre y post s h e (by simp [hy]) i) fun s h z => he s h (by rw [List.append_assoc] at z; exact z)
    · simp only [e2]
      cases r with
      | nx s2 h2 => exact (nn s2 h2 rfl).elim
      | _ => exact q
theorem while_step {t : TM} {b : SM} {s s2 : Sl} {h h1 h2 : Hd} (e1 : t s h = .ok true h1) (e2 : b s h1 = .nx s2 h2) : sWhile t b s h = sWhile t b s2 h2 := by
  rw [sWhile_eq, e1]
  show sSeq b (sWhile t b) s h1 = _
  unfold sSeq
  rw [e2]
  rfl
theorem while_end {t : TM} {b : SM} {s : Sl} {h h1 : Hd} (e1 : t s h = .ok false h1) : sWhile t b s h = .nx s h1 := by
  rw [sWhile_eq, e1]
  rfl
theorem appD_ok {h1 : Hd} {acc : List D} {d : D} (hl : acc.length < sizeLine) : appD h1.length d (h1 ++ [.lst acc]) = .ok () (h1 ++ [.lst (acc ++ [d])]) := by
  unfold appD
  rw [List.getElem?_append_right (Nat.le_refl _), Nat.sub_self]
  simp only [List.getElem?_cons_zero]
  rw [if_pos hl, List.set_append_right _ _ (Nat.le_refl _), Nat.sub_self]
  rfl
/-- a comprehension whose turns leave all else as it is -/
theorem lcD_ok {chk : Hd → Prop} {g : GM} {t : TM} {e : EM} {vs : List Nat} {s : Sl} {h1 : Hd} {p : D → Bool} {f : D → D} {s1 : D → Sl} : ∀ (xs : List D) (acc : List D), acc.length + xs.length < sizeLine → (∀ acc : List D, chk (h1 ++ [.lst acc])) → (∀ x ∈ xs, ∀ h, g x (wipeD s vs) h = .ok (s1 x) h) →
    (∀ x ∈ xs, ∀ acc, t (s1 x) (h1 ++ [.lst acc]) = .ok (p x) (h1 ++ [.lst acc])) → (∀ x ∈ xs, p x = true → ∀ acc, e (s1 x) (h1 ++ [.lst acc]) = .ok (f x) (h1 ++ [.lst acc])) →
    lcD chk g t e vs h1.length s xs (h1 ++ [.lst acc]) = .ok () (h1 ++ [.lst (acc ++ (xs.filter p).map f)])
  | [], acc, hl, hc, hg, ht, he => by
    unfold lcD
    rw [if_pos (hc acc)]
    simp
  | x :: xs, acc, hl, hc, hg, ht, he => by
    unfold lcD
    rw [if_pos (hc acc), hg x (by simp)]
    simp only
    rw [ht x (by simp), Res.bind_ok]
    by_cases hp : p x = true
    · rw [if_pos hp, he x (by simp) hp, Res.bind_ok, appD_ok (by simp only [List.length_cons] at hl; omega), Res.bind_ok]
      rw [lcD_ok xs (acc ++ [f x]) (by simp only [List.length_append, List.length_cons, List.length_nil] at hl ⊢; omega) hc (fun y hy => hg y (by simp [hy])) (fun y hy => ht y (by simp [hy])) (fun y hy => he y (by simp [hy]))]
      rw [List.filter_cons_of_pos hp, List.map_cons, List.append_assoc]
      rfl
    · rw [if_neg hp]
      rw [lcD_ok xs acc (by simp only [List.length_cons] at hl; omega) hc (fun y hy => hg y (by simp [hy])) (fun y hy => ht y (by simp [hy])) (fun y hy => he y (by simp [hy]))]
      rw [List.filter_cons_of_neg hp]
theorem eLc_ok {im : IM} {g : GM} {t : TM} {e : EM} {vs : List Nat} {s : Sl} {h h1 : Hd} {xs : List D} {chk : Hd → Prop} {p : D → Bool} {f : D → D} {s1 : D → Sl} (hi : im s h = .ok (xs, chk) h1) (hl : xs.length < sizeLine) (hc : ∀ acc : List D, chk (h1 ++ [.lst acc])) (hg : ∀ x ∈ xs, ∀ h, g x (wipeD s vs) h = .ok (s1 x) h)
    (ht : ∀ x ∈ xs, ∀ acc, t (s1 x) (h1 ++ [.lst acc]) = .ok (p x) (h1 ++ [.lst acc])) (he : ∀ x ∈ xs, p x = true → ∀ acc, e (s1 x) (h1 ++ [.lst acc]) = .ok (f x) (h1 ++ [.lst acc])) :
    eLc im g t e vs s h = .ok (.ref h1.length) (h1 ++ [.lst ((xs.filter p).map f)]) := by
  unfold eLc
  rw [hi, Res.bind_ok]
  simp only
  rw [lcD_ok xs [] (by simpa using hl) hc hg ht he, Res.bind_ok]
  simp
/-- .. without a test, over a name -/
theorem eLc_map {im : IM} {e : EM} {i : Nat} {s : Sl} {h h1 : Hd} {xs : List D} {chk : Hd → Prop} {f : D → D} (hi : im s h = .ok (xs, chk) h1) (hl : xs.length < sizeLine) (hc : ∀ acc : List D, chk (h1 ++ [.lst acc])) (he : ∀ x ∈ xs, ∀ acc, e ((s.set i none).set i (some x)) (h1 ++ [.lst acc]) = .ok (f x) (h1 ++ [.lst acc])) :
    eLc im (gN i) tT e [i] s h = .ok (.ref h1.length) (h1 ++ [.lst (xs.map f)]) := by
  have := eLc_ok (p := fun _ => true) (f := f) (t := tT) (g := gN i) (vs := [i]) (e := e) (s1 := fun x => (s.set i none).set i (some x)) hi hl hc (fun x _ h => rfl) (fun x _ acc => rfl) (fun x hx _ acc => he x hx acc)
  rw [this, List.filter_eq_self.mpr fun _ _ => rfl]
theorem bools_map {α : Type} {f : α → Bool} : ∀ xs : List α, bools (xs.map fun x => D.bl (f x)) = some (xs.map f)
  | [] => rfl
  | x :: xs => by
    show (bools (xs.map fun x => D.bl (f x))).map (f x :: ·) = _
    rw [bools_map xs]
    rfl
theorem bAll_map {α : Type} {f : α → Bool} {xs : List α} {n : Nat} {h : Hd} (q : h[n]? = some (.lst (xs.map fun x => D.bl (f x)))) : bAll [.ref n] h = .ok (.bl (xs.all f)) h := by
  unfold bAll lstOf
  simp only [q, Option.bind_some, bools_map]
  simp
theorem bAny_map {α : Type} {f : α → Bool} {xs : List α} {n : Nat} {h : Hd} (q : h[n]? = some (.lst (xs.map fun x => D.bl (f x)))) : bAny [.ref n] h = .ok (.bl (xs.any f)) h := by
  unfold bAny lstOf
  simp only [q, Option.bind_some, bools_map]
  simp
theorem cutD_map {α : Type} {f : α → D} {xs : List α} {lo hi : Option Int} : cutD (xs.map f) lo hi = ((xs.drop (HT.sIx xs.length 0 lo)).take (HT.sIx xs.length xs.length hi - HT.sIx xs.length 0 lo)).map f := by
  unfold cutD
  rw [List.length_map, List.map_take, List.map_drop]
theorem dSl_r {xs : List D} {lo hi : Option Int} {h : Hd} : dSl (.rol xs) lo hi h = .ok (.ref h.length) (h ++ [.lst (cutD xs lo hi)]) := rfl
theorem dSl_t {xs : List D} {lo hi : Option Int} {h : Hd} : dSl (.tup xs) lo hi h = .ok (.tup (cutD xs lo hi)) h := rfl
theorem dSl_l {xs : List D} {lo hi : Option Int} {h : Hd} {n : Nat} (q : h[n]? = some (.lst xs)) : dSl (.ref n) lo hi h = .ok (.ref h.length) (h ++ [.lst (cutD xs lo hi)]) := by unfold dSl lstOf; simp only [q]
theorem dAdd_ll {h : Hd} {n m : Nat} {xs ys : List D} (q1 : h[n]? = some (.lst xs)) (q2 : h[m]? = some (.lst ys)) (q : xs.length + ys.length ≤ 1000000) : dAdd (.ref n) (.ref m) h = .ok (.ref h.length) (h ++ [.lst (xs ++ ys)]) := by
  unfold dAdd
  simp only [q1, q2]
  exact if_pos (Nat.le_trans q (by decide))
theorem bStr_ok {i : Int} {h : Hd} {k : Nat} (q : Sz k i) (hk : k < 1920) : bStr [.int i] h = .ok (.str (toString i)) h := if_pos (Nat.lt_of_le_of_lt q.log hk)
theorem get_at {h g : Hd} {k : Nat} : (h ++ g)[h.length + k]? = g[k]? := by
  rw [List.getElem?_append_right (by omega)]
  congr 1
  omega
theorem get_at0 {h g : Hd} : (h ++ g)[h.length]? = g[0]? := by
  rw [List.getElem?_append_right (by omega), Nat.sub_self]
theorem get_new {h : Hd} {o : MO} : (h ++ [o])[h.length]? = some o := by simp
end DL

/-! DP2: fractions as rationals. -/
namespace DL
open PySem PySem.Spec L2
/-- a rational as a tuple -/
def FQ (q : Rat) : D := .tup [.int q.num, .int (q.den : Int)]
theorem FQ_inj {a b : Rat} (h : FQ a = FQ b) : a = b := by
  unfold FQ at h
  injection h with h
  injection h with h1 h
  injection h with h2 _
  injection h1 with h1
  injection h2 with h2
  exact Rat.ext h1 (Int.ofNat.inj h2)
theorem FQ_divInt {n d : Int} (hd : 1 ≤ d) : FQ (Rat.divInt n d) = .tup [.int (n / Int.gcd n d), .int (d / Int.gcd n d)] := by
  unfold FQ
  rw [Rat.num_divInt, Rat.den_divInt, if_neg (by omega), Int.sign_eq_one_of_pos (by omega), Int.one_mul, Int.gcd_comm d n]
  have : ((d.natAbs / Int.gcd n d : Nat) : Int) = d / Int.gcd n d := by
    rw [Int.natCast_ediv, Int.natAbs_of_nonneg (by omega)]
  rw [this]
def SzQ (k : Nat) (q : Rat) : Prop := Sz k q.num ∧ Sz k (q.den : Int)
theorem SzQ.mono {k l : Nat} {q : Rat} (a : SzQ k q) (h : k ≤ l) : SzQ l q := ⟨a.1.mono h, a.2.mono h⟩
theorem den_pos (q : Rat) : (1 : Int) ≤ (q.den : Int) := by
  have := q.den_pos
  omega
theorem num_nonneg {q : Rat} (h : 0 ≤ q) : 0 ≤ q.num := Rat.num_nonneg.mpr h
theorem Sz.div {k : Nat} {n : Int} (a : Sz k n) (g : Int) : Sz k (n / g) := by
  unfold Sz at *
  exact Nat.lt_of_le_of_lt (Int.natAbs_ediv_le_natAbs n g) a
theorem SzQ.divInt {k : Nat} {n d : Int} (hd : 1 ≤ d) (a : Sz k n) (b : Sz k d) : SzQ k (Rat.divInt n d) := by
  unfold SzQ
  rw [Rat.num_divInt, Rat.den_divInt, if_neg (by omega), Int.sign_eq_one_of_pos (by omega), Int.one_mul]
  refine ⟨a.div _, ?_⟩
  have : ((d.natAbs / Int.gcd d n : Nat) : Int) = d / Int.gcd d n := by
    rw [Int.natCast_ediv, Int.natAbs_of_nonneg (by omega)]
  rw [this]
  exact b.div _
theorem divInt_nonneg {n d : Int} (hn : 0 ≤ n) (hd : 1 ≤ d) : 0 ≤ Rat.divInt n d := by
  rw [← Rat.num_nonneg, Rat.num_divInt, Int.sign_eq_one_of_pos (by omega), Int.one_mul]
  exact Int.ediv_nonneg hn (by omega)
theorem add_divInt (a b : Rat) : a + b = Rat.divInt (a.num * b.den + b.num * a.den) (a.den * b.den) := by
  rw [Rat.add_def', ← Rat.divInt_ofNat]
  simp
theorem sub_divInt (a b : Rat) : a - b = Rat.divInt (a.num * b.den - b.num * a.den) (a.den * b.den) := by
  rw [Rat.sub_def', ← Rat.divInt_ofNat]
  simp
theorem mul_divInt (a b : Rat) : a * b = Rat.divInt (a.num * b.num) (a.den * b.den) := by
  rw [Rat.mul_def', ← Rat.divInt_ofNat]
  simp
theorem div_divInt (a b : Rat) (hb : 0 < b) : a / b = Rat.divInt (a.num * b.den) (a.den * b.num) := by
  have e : a = Rat.divInt a.num a.den := (Rat.num_divInt_den a).symm
  rw [Rat.div_def, Rat.inv_def]
  conv => lhs; rw [e]
  rw [Rat.divInt_mul_divInt]
theorem divInt_eq {n d : Int} {q : Rat} (hd : 1 ≤ d) : Rat.divInt n d = q ↔ n * q.den = q.num * d := by
  have := q.den_pos
  conv => lhs; rw [show q = Rat.divInt q.num q.den from (Rat.num_divInt_den q).symm]
  rw [Rat.divInt_eq_divInt_iff (by omega) (by omega)]
/-- sizes of what is reckoned -/
theorem SzQ.add {k l : Nat} {a b : Rat} (x : SzQ k a) (y : SzQ l b) : SzQ (k + l + 1) (a + b) := by
  rw [add_divInt]
  refine .divInt (by have := Int.mul_le_mul (den_pos a) (den_pos b) (by decide) (by have := den_pos a; omega); omega) ?_ ?_
  · exact ((x.1.mul y.2).add (y.1.mul x.2)).mono (by omega)
  · exact (x.2.mul y.2).mono (by omega)
theorem SzQ.sub {k l : Nat} {a b : Rat} (x : SzQ k a) (y : SzQ l b) : SzQ (k + l + 1) (a - b) := by
  rw [sub_divInt]
  refine .divInt (by have := Int.mul_le_mul (den_pos a) (den_pos b) (by decide) (by have := den_pos a; omega); omega) ?_ ?_
  · exact ((x.1.mul y.2).sub (y.1.mul x.2)).mono (by omega)
  · exact (x.2.mul y.2).mono (by omega)
theorem SzQ.mul {k l : Nat} {a b : Rat} (x : SzQ k a) (y : SzQ l b) : SzQ (k + l) (a * b) := by
  rw [mul_divInt]
  refine .divInt (by have := Int.mul_le_mul (den_pos a) (den_pos b) (by decide) (by have := den_pos a; omega); omega) ?_ ?_
  · exact x.1.mul y.1
  · exact x.2.mul y.2
theorem num_pos {b : Rat} (h : 0 < b) : 1 ≤ b.num := by
  have := (Rat.lt_iff 0 b).mp h
  have : 0 < b.num := by simpa using this
  omega
theorem SzQ.div {k l : Nat} {a b : Rat} (hb : 0 < b) (x : SzQ k a) (y : SzQ l b) : SzQ (k + l) (a / b) := by
  rw [div_divInt a b hb]
  refine .divInt (by have := Int.mul_le_mul (den_pos a) (num_pos hb) (by decide) (by have := den_pos a; omega); omega) ?_ ?_
  · exact x.1.mul y.2
  · exact x.2.mul y.1
theorem den_mul (a b : Rat) : (1 : Int) ≤ (a.den : Int) * b.den := by
  have := Int.mul_le_mul (den_pos a) (den_pos b) (by decide) (by have := den_pos a; omega)
  omega
theorem dIx_FQ0 {a : Rat} {h : Hd} : dIx (FQ a) (.int 0) h = .ok (.int a.num) h := by
  unfold FQ
  rw [dIx_t, at_0]
  rfl
theorem dIx_FQ1 {a : Rat} {h : Hd} : dIx (FQ a) (.int 1) h = .ok (.int a.den) h := by
  unfold FQ
  rw [dIx_t, at_1]
  rfl
theorem eq_FQ {a b : Rat} : (a.num = b.num ∧ (a.den : Int) = b.den) ↔ a = b := ⟨fun ⟨h1, h2⟩ => Rat.ext h1 (Int.ofNat.inj h2), fun e => by subst e; exact ⟨rfl, rfl⟩⟩
theorem dEq_FQ {a b : Rat} {h : Hd} : dEq (FQ a) (FQ b) h = .ok (.bl (decide (a = b))) h := by
  unfold FQ
  rw [dEq_fr]
  simp only [eq_FQ]
theorem dNe_FQ {a b : Rat} {h : Hd} : dNe (FQ a) (FQ b) h = .ok (.bl (!decide (a = b))) h := by
  unfold FQ
  rw [dNe_fr]
  simp only [eq_FQ]
theorem lo_FQ {n : Nat} {a : Rat} : D.lo n (FQ a) = true := by
  unfold FQ
  simp only [lo_tup, lo_cons, lo_int, lo_nil]
  rfl
theorem FQ_01 : D.tup [.int 0, .int 1] = FQ 0 := rfl
theorem FQ_11 : D.tup [.int 1, .int 1] = FQ 1 := rfl
theorem FQ_n1 {n : Int} : D.tup [.int n, .int 1] = FQ (n : Rat) := rfl
theorem ev_gT_FQ {gs : GMs} {a : Rat} {s : Sl} {h : Hd} : gT 2 gs (FQ a) s h = gs [.int a.num, .int a.den] s h := rfl
theorem reduced_gcd (q : Rat) : Int.gcd q.num q.den = 1 := q.reduced
end DL

namespace DL
open PySem PySem.Spec L2
local macro_rules | `(tactic| walk_at "ev") => `(tactic| try simp -implicitDefEqProofs only [ev_T, ev_L, Nat.reduceLeDiff, ev_run, ev_V, ev_C, ev_1, ev_2, ev_B, ev_Tr, ev_tAnd, ev_tOr, ev_tNot, ev_And, ev_Or, ev_Not, ev_If, ev_aN, ev_aC, ev_A, ev_F, ev_M, ev_Sl, ev_oN, ev_oS, asO_int, ev_D0, ev_nil, ev_seq, ev_asg, ev_gN, ev_gsN, ev_gsC, ev_gT, ev_gS, ev_set, ev_ret, ev_retN, ev_expr, ev_if, ev_par2, ev_for, ev_i1, ev_iA,
  Res.bind_ok, b1_ok, b2_ok, bAnd_ok, bOr_ok, bNot_ok, bAndV_ok, bOrV_ok, bNotV_ok, bIf_ok, bC_ok, bC1_ok, bM_ok, bM1_ok, bSl_ok, bSl1_ok, bSl2_ok, kAsg_ok, bG_ok, bS1_ok, bS2_ok, bS3_ok, kSet_ok, kRet_ok, kExp_ok, kIf_ok, kFor_ok, kPar_ok, kPar1_ok, SR.seq_nx, SR.seq_rt, SR.fin_nx, SR.fin_rt, toS_ok, slAt_some, optR_some, asB_bl, asT_bl, dAdd_ii, dSub_ii, dNeg_i, dLt_ii, dGt_ii, dLe_ii, dGe_ii, bMax2_ii, bMin2_ii, bInt_i, bInt_b, bTuple_t, bLen_t, bLen_r, dIx_t, dIx_r, at_0, at_1, at_2, dEq_ii, dNe_ii, dEq_bb, dNe_bb, is_bb, iSeq_t, iSeq_r,
  List.map, List.length_cons, List.length_nil, List.replicate_succ, List.replicate_zero, List.cons_append, List.nil_append, List.append_nil, List.getElem?_cons_zero, List.getElem?_cons_succ, List.set_cons_zero, List.set_cons_succ, Nat.reduceSub, Nat.reduceAdd, Nat.sub_self, Bool.not_true, Bool.not_false, if_true, if_false, reduceIte, Bool.false_eq_true, decide_true, decide_false])
local macro_rules | `(tactic| walk_at "evn") => `(tactic| try simp -implicitDefEqProofs only [List.append_assoc, List.length_append, Nat.add_assoc, get_at, get_at0, ev_T, ev_L, Nat.reduceLeDiff, ev_run, ev_V, ev_C, ev_1, ev_2, ev_B, ev_Tr, ev_tAnd, ev_tOr, ev_tNot, ev_And, ev_Or, ev_Not, ev_If, ev_aN, ev_aC, ev_A, ev_F, ev_M, ev_Sl, ev_oN, ev_oS, asO_int, ev_D0, ev_nil, ev_seq, ev_asg, ev_gN, ev_gsN, ev_gsC, ev_gT, ev_gS, ev_set, ev_ret, ev_retN, ev_expr, ev_if, ev_par2, ev_for, ev_i1, ev_iA,
  Res.bind_ok, b1_ok, b2_ok, bAnd_ok, bOr_ok, bNot_ok, bAndV_ok, bOrV_ok, bNotV_ok, bIf_ok, bC_ok, bC1_ok, bM_ok, bM1_ok, bSl_ok, bSl1_ok, bSl2_ok, kAsg_ok, bG_ok, bS1_ok, bS2_ok, bS3_ok, kSet_ok, kRet_ok, kExp_ok, kIf_ok, kFor_ok, kPar_ok, kPar1_ok, SR.seq_nx, SR.seq_rt, SR.fin_nx, SR.fin_rt, toS_ok, slAt_some, optR_some, asB_bl, asT_bl, dAdd_ii, dSub_ii, dNeg_i, dLt_ii, dGt_ii, dLe_ii, dGe_ii, bMax2_ii, bMin2_ii, bInt_i, bInt_b, bTuple_t, bLen_t, bLen_r, dIx_t, dIx_r, at_0, at_1, at_2, dEq_ii, dNe_ii, dEq_bb, dNe_bb, is_bb, iSeq_t, iSeq_r,
  List.map, List.length_cons, List.length_nil, List.replicate_succ, List.replicate_zero, List.cons_append, List.nil_append, List.append_nil, List.getElem?_cons_zero, List.getElem?_cons_succ, List.set_cons_zero, List.set_cons_succ, Nat.reduceSub, Nat.reduceAdd, Nat.sub_self, Bool.not_true, Bool.not_false, if_true, if_false, reduceIte, Bool.false_eq_true, decide_true, decide_false])
local macro_rules | `(tactic| walk_at "evq") => `(tactic| try simp -implicitDefEqProofs only [ev_gT_FQ, dIx_FQ0, dIx_FQ1, dEq_FQ, dNe_FQ, FQ_01, FQ_11, List.append_assoc, List.length_append, Nat.add_assoc, get_at, get_at0, ev_T, ev_L, Nat.reduceLeDiff, ev_run, ev_V, ev_C, ev_1, ev_2, ev_B, ev_Tr, ev_tAnd, ev_tOr, ev_tNot, ev_And, ev_Or, ev_Not, ev_If, ev_aN, ev_aC, ev_A, ev_F, ev_M, ev_Sl, ev_oN, ev_oS, asO_int, ev_D0, ev_nil, ev_seq, ev_asg, ev_gN, ev_gsN, ev_gsC, ev_gT, ev_gS, ev_set, ev_ret, ev_retN, ev_expr, ev_if, ev_par2, ev_for, ev_i1, ev_iA,
  Res.bind_ok, b1_ok, b2_ok, bAnd_ok, bOr_ok, bNot_ok, bAndV_ok, bOrV_ok, bNotV_ok, bIf_ok, bC_ok, bC1_ok, bM_ok, bM1_ok, bSl_ok, bSl1_ok, bSl2_ok, kAsg_ok, bG_ok, bS1_ok, bS2_ok, bS3_ok, kSet_ok, kRet_ok, kExp_ok, kIf_ok, kFor_ok, kPar_ok, kPar1_ok, SR.seq_nx, SR.seq_rt, SR.fin_nx, SR.fin_rt, toS_ok, slAt_some, optR_some, asB_bl, asT_bl, dAdd_ii, dSub_ii, dNeg_i, dLt_ii, dGt_ii, dLe_ii, dGe_ii, bMax2_ii, bMin2_ii, bInt_i, bInt_b, bTuple_t, bLen_t, bLen_r, dIx_t, dIx_r, at_0, at_1, at_2, dEq_ii, dNe_ii, dEq_bb, dNe_bb, is_bb, iSeq_t, iSeq_r,
  List.map, List.length_cons, List.length_nil, List.replicate_succ, List.replicate_zero, List.cons_append, List.nil_append, List.append_nil, List.getElem?_cons_zero, List.getElem?_cons_succ, List.set_cons_zero, List.set_cons_succ, Nat.reduceSub, Nat.reduceAdd, Nat.sub_self, Bool.not_true, Bool.not_false, if_true, if_false, reduceIte, Bool.false_eq_true, decide_true, decide_false])
theorem gcd_step {a b : Int} (ha : 0 ≤ a) (hb : 0 ≤ b) : Int.gcd b (a % b) = Int.gcd a b := by
  obtain ⟨m, rfl⟩ := Int.eq_ofNat_of_zero_le ha
  obtain ⟨n, rfl⟩ := Int.eq_ofNat_of_zero_le hb
  show Nat.gcd n ((m : Int) % (n : Int)).natAbs = Nat.gcd m n
  rw [← Int.natCast_emod, Int.natAbs_natCast, Nat.gcd_comm m n, Nat.gcd_comm n (m % n)]
  exact (Nat.gcd_rec n m).symm
theorem common_while {t : TM} {bd : SM} {h : Hd} (ht : ∀ a b : Int, t [some (.int a), some (.int b)] h = .ok (decide (0 < b)) h) (hb : ∀ a b : Int, 0 < b → bd [some (.int a), some (.int b)] h = .nx [some (.int b), some (.int (a % b))] h) :
    ∀ (n : Nat) (a b : Int), b.toNat ≤ n → 0 ≤ a → 0 ≤ b → sWhile t bd [some (.int a), some (.int b)] h = .nx [some (.int (Int.gcd a b)), some (.int 0)] h := by
  have base : ∀ a : Int, 0 ≤ a → sWhile t bd [some (.int a), some (.int 0)] h = .nx [some (.int (Int.gcd a 0)), some (.int 0)] h := fun a ha => by
    rw [while_end (ht a 0)]
    have : ((Int.gcd a 0 : Nat) : Int) = a := by rw [Int.gcd_zero_right]; omega
    rw [this]
  intro n
  induction n with
  | zero =>
    intro a b hn ha hb'
    obtain rfl : b = 0 := by omega
    exact base a ha
  | succ n ih =>
    intro a b hn ha hb'
    by_cases hz : b = 0
    · subst hz
      exact base a ha
    · have hp : 0 < b := by omega
      rw [while_step (by rw [ht]; simp only [hp, decide_true]) (hb a b hp), ih b (a % b) (by have := Int.emod_lt_of_pos a hp; have := Int.emod_nonneg a hz; omega) hb' (Int.emod_nonneg a hz)]
      rw [gcd_step ha hb']
def isFr : D → Bool
  | .tup [.int n, .int d] => decide (0 ≤ n ∧ 1 ≤ d ∧ Int.gcd n d = 1)
  | _ => false
def isInt : D → Bool
  | .int _ => true
  | _ => false
/-- what is looked at has a kind, and what is in it -/
def Typed (h : Hd) (x : D) : Prop := (∃ t, ty0 h x = some t) ∧ ∀ xs, x = .tup xs → ∀ y ∈ xs, ∃ t, ty0 h y = some t
theorem ty0_app {h g : Hd} {x : D} {t : String} (e : ty0 h x = some t) : ty0 (h ++ g) x = some t := by
  cases x with
  | ref n =>
    unfold ty0 at e ⊢
    simp only at e ⊢
    have hn : n < h.length := by
      rcases Nat.lt_or_ge n h.length with z | z
      · exact z
      · rw [List.getElem?_eq_none z] at e
        cases e
    rw [List.getElem?_append_left hn]
    exact e
  | _ => exact e
theorem fr_tup {x y : D} (q : isInt x = true ∧ isInt y = true) : ∃ n d, x = .int n ∧ y = .int d := by
  cases x with
  | int n =>
    cases y with
    | int d => exact ⟨n, d, rfl, rfl⟩
    | _ => cases q.2
  | _ => cases q.1
theorem isFr_no {x y : D} (q : ¬ (isInt x = true ∧ isInt y = true)) : isFr (.tup [x, y]) = false := by
  cases x with
  | int n =>
    cases y with
    | int d => exact (q ⟨rfl, rfl⟩).elim
    | _ => rfl
  | _ => rfl
theorem isFr_int {n d : Int} : isFr (.tup [.int n, .int d]) = decide (0 ≤ n ∧ 1 ≤ d ∧ Int.gcd n d = 1) := rfl
theorem isFr_len {xs : List D} (q : ¬ xs.length = 2) : isFr (.tup xs) = false := by
  match xs, q with
  | [], _ => rfl
  | [x], _ => cases x <;> rfl
  | [_, _], q => exact (q rfl).elim
  | x :: y :: _ :: _, _ => cases x <;> first | rfl | (cases y <;> rfl)
theorem isFr_not {x : D} (q : ¬ ∃ xs, x = .tup xs) : isFr x = false := by
  cases x with
  | tup xs => exact (q ⟨xs, rfl⟩).elim
  | _ => rfl
theorem ty_not {x : D} {h : Hd} {t : String} (e : ty0 h x = some t) (q : ¬ ∃ xs, x = .tup xs) : (t == "tuple") = false := by
  cases x with
  | tup xs => exact (q ⟨xs, rfl⟩).elim
  | ref n =>
    unfold ty0 at e
    simp only at e
    split at e
    all_goals first | (cases e; done) | (cases e; decide)
  | _ => first | (cases e; done) | (cases e; decide)
/-- the last row of both readers -/
theorem fr_last {n d : Int} {h : Hd} {s : Sl} {F : List D → M D} (hF : 0 ≤ n → 1 ≤ d → F [.int n, .int d] h = .ok (.int (Int.gcd n d)) h) :
    (if decide (0 ≤ n) = true then if decide (1 ≤ d) = true then (F [.int n, .int d] h).b2 dEq (eC (.int 1)) s else Res.ok (.bl false) h else Res.ok (.bl false) h) = .ok (.bl (isFr (.tup [.int n, .int d]))) h := by
  rw [isFr_int]
  by_cases a : 0 ≤ n
  · simp only [a, decide_true, if_true]
    by_cases b : 1 ≤ d
    · simp only [b, decide_true, if_true]
      rw [hF a b]
      walk_at "ev"
      congr 2
      simp
      omega
    · simp [b]
  · simp [a]
/-- the p-th thing is a pot -/
def Pot (p : Nat) (h : Hd) : Prop := ∃ x y : Int, h[p]? = some (.lst [.int x, .int y]) ∧ 0 ≤ x ∧ 0 ≤ y ∧ y < 2147483629
theorem Pot.lt {p : Nat} {h : Hd} (q : Pot p h) : p < h.length := by
  obtain ⟨x, y, e, _⟩ := q
  exact (List.getElem?_eq_some_iff.mp e).1
theorem Pot.gc {p : Nat} {h h' g : Hd} {d : D} (q : Pot p h') (b : But p h h') (hd : d.lo h.length = true) : gc h d (h' ++ g) = .ok d h' := by
  obtain ⟨x, y, e, _⟩ := q
  exact gc_but b e (by simp only [lo_lst, lo_cons, lo_int, lo_nil]; rfl) hd
theorem Pot.app {p : Nat} {h g : Hd} (q : Pot p h) : Pot p (h ++ g) := by
  have := q.lt
  obtain ⟨x, y, e, r⟩ := q
  exact ⟨x, y, by rw [List.getElem?_append_left this]; exact e, r⟩
theorem Pot.cut {p : Nat} {h g : Hd} (q : Pot p (h ++ g)) (hp : p < h.length) : Pot p h := by
  obtain ⟨x, y, e, r⟩ := q
  exact ⟨x, y, by rw [List.getElem?_append_left hp] at e; exact e, r⟩
theorem gcd_low {n d : Int} (hd : 1 ≤ d) : Int.gcd (n / Int.gcd n d) (d / Int.gcd n d) = 1 := by
  have gp : 0 < Int.gcd n d := Int.gcd_pos_of_ne_zero_right n (by omega)
  exact Int.gcd_ediv_gcd_ediv_gcd gp
theorem isFr_low {n d : Int} (hn : 0 ≤ n) (hd : 1 ≤ d) : isFr (.tup [.int (n / Int.gcd n d), .int (d / Int.gcd n d)]) = true := by
  have gp : (0 : Int) < (Int.gcd n d : Int) := by
    have : 0 < Int.gcd n d := Int.gcd_pos_of_ne_zero_right n (by omega)
    omega
  rw [isFr_int]
  apply decide_eq_true
  refine ⟨Int.ediv_nonneg hn (by omega), ?_, gcd_low hd⟩
  have := Int.le_ediv_of_mul_le gp (a := 1) (b := d) (by rw [Int.one_mul]; exact Int.le_of_dvd (by omega) (Int.gcd_dvd_right n d))
  exact this
theorem typed_fr {h : Hd} {n d : Int} : Typed h (.tup [.int n, .int d]) := ⟨⟨_, rfl⟩, fun xs e => by cases e; simp [ty0]⟩
theorem gcd_bounds {n d : Int} (hn : 0 ≤ n) (hd : 1 ≤ d) : 0 ≤ n / Int.gcd n d ∧ n / Int.gcd n d ≤ n ∧ 0 ≤ d / Int.gcd n d ∧ d / Int.gcd n d ≤ d :=
  ⟨Int.ediv_nonneg hn (by omega), Int.ediv_le_self _ hn, Int.ediv_nonneg (by omega) (by omega), Int.ediv_le_self _ (by omega)⟩
theorem fin_else {h h' : Hd} {m : Nat} {xs : List D} (hm : h.length ≤ m) (ho : h'[m]? = some (.lst xs)) (hl : (MO.lst xs).lo h.length = false) (hP : ∀ x ∈ xs, Typed h' x) : ∃ (k : Nat) (h'' : Hd) (ys : List D), gc h (.ref m) h' = .ok (.ref k) h'' ∧ h''[k]? = some (.lst ys) ∧ ∀ x ∈ ys, Typed h'' x :=
  ⟨m, h', xs, gc_else hm ho hl, ho, hP⟩
theorem typed_l {H : Hd} {n : Nat} {xs : List D} (q : H[n]? = some (.lst xs)) : Typed H (.ref n) := ⟨⟨"list", by unfold ty0; simp only [q]⟩, fun xs e => by cases e⟩
theorem typed_d {H : Hd} {n : Nat} {xs : List (L2.Key × D)} (q : H[n]? = some (.dK xs)) : Typed H (.ref n) := ⟨⟨"dict", by unfold ty0; simp only [q]⟩, fun xs e => by cases e⟩
theorem typed_nil {H : Hd} : ∀ y ∈ ([] : List D), Typed H y := fun y h => nomatch h
theorem typed_cons {H : Hd} {x : D} {xs : List D} (h : Typed H x) (t : ∀ y ∈ xs, Typed H y) : ∀ y ∈ x :: xs, Typed H y := fun y q => by
  rcases List.mem_cons.mp q with rfl | q
  · exact h
  · exact t y q
theorem iRange1_ok {n : Int} {h : Hd} (q : Big n) : iRange1 [.int n] h = .ok (rng 0 n.toNat, fun _ => True) h := if_pos q
end DL

/-! DP4: sizes and signs by instances, so that simp finds them. -/
namespace DL
open PySem PySem.Spec L2
class ZI (k : outParam Nat) (i : Int) : Prop where
  z : Sz k i
class ZQ (k : outParam Nat) (q : Rat) : Prop where
  z : SzQ k q
class Fa (p : Prop) : Prop where
  out : p
section
variable {k l : Nat} {i j : Int} {a b : Rat}
instance zi_num [x : ZQ k a] : ZI k a.num := ⟨x.z.1⟩
instance zi_den [x : ZQ k a] : ZI k (a.den : Int) := ⟨x.z.2⟩
theorem sz_nat (n : Nat) : Sz (n.log2 + 1) (n : Int) := by
  unfold Sz
  rw [Int.natAbs_natCast]
  exact Nat.lt_log2_self
instance zi_lit {n : Nat} : ZI (n.log2 + 1) (@OfNat.ofNat Int n instOfNat) := ⟨sz_nat n⟩
instance zi_neg [x : ZI k i] : ZI k (-i) := ⟨by have := x.z; unfold Sz at this ⊢; rw [Int.natAbs_neg]; exact this⟩
instance zi_add [x : ZI k i] [y : ZI l j] : ZI (max k l + 1) (i + j) := ⟨x.z.add y.z⟩
instance zi_sub [x : ZI k i] [y : ZI l j] : ZI (max k l + 1) (i - j) := ⟨x.z.sub y.z⟩
instance zi_mul [x : ZI k i] [y : ZI l j] : ZI (k + l) (i * j) := ⟨x.z.mul y.z⟩
instance zi_div [x : ZI k i] : ZI k (i / j) := ⟨x.z.div j⟩
instance zq_add [x : ZQ k a] [y : ZQ l b] : ZQ (k + l + 1) (a + b) := ⟨x.z.add y.z⟩
instance zq_sub [x : ZQ k a] [y : ZQ l b] : ZQ (k + l + 1) (a - b) := ⟨x.z.sub y.z⟩
instance zq_mul [x : ZQ k a] [y : ZQ l b] : ZQ (k + l) (a * b) := ⟨x.z.mul y.z⟩
instance zq_div [x : ZQ k a] [y : ZQ l b] [h : Fa (0 < b)] : ZQ (k + l) (a / b) := ⟨x.z.div h.out y.z⟩
instance zq_0 : ZQ 1 (0 : Rat) := ⟨by constructor <;> (unfold Sz; decide)⟩
instance zq_1 : ZQ 1 (1 : Rat) := ⟨by constructor <;> (unfold Sz; decide)⟩
instance zq_int [x : ZI k i] : ZQ (k + 1) (i : Rat) := ⟨x.z.mono (by omega), (show Sz 1 (1 : Int) by unfold Sz; decide).mono (by omega)⟩
instance fa_0 : Fa ((0 : Rat) ≤ 0) := ⟨by decide⟩
instance fa_1 : Fa ((0 : Rat) ≤ 1) := ⟨by decide⟩
instance fp_1 : Fa ((0 : Rat) < 1) := ⟨by decide⟩
instance fa_add [x : Fa (0 ≤ a)] [y : Fa (0 ≤ b)] : Fa (0 ≤ a + b) := ⟨Rat.add_nonneg x.out y.out⟩
instance fa_mul [x : Fa (0 ≤ a)] [y : Fa (0 ≤ b)] : Fa (0 ≤ a * b) := ⟨Rat.mul_nonneg x.out y.out⟩
instance fa_sub [x : Fa (b ≤ a)] : Fa (0 ≤ a - b) := ⟨(Rat.le_iff_sub_nonneg b a).mp x.out⟩
theorem div_nn (x : 0 ≤ a) (y : 0 < b) : 0 ≤ a / b := by
  rw [div_divInt a b y]
  exact divInt_nonneg (Int.mul_nonneg (num_nonneg x) (by omega)) (by have := Int.mul_le_mul (den_pos a) (num_pos y) (by decide) (by omega); omega)
instance fa_div [x : Fa (0 ≤ a)] [y : Fa (0 < b)] : Fa (0 ≤ a / b) := ⟨div_nn x.out y.out⟩
variable {h : Hd}
theorem dMul_I [x : ZI k i] [y : ZI l j] (hk : k + l < 100000000) : dMul (.int i) (.int j) h = .ok (.int (i * j)) h := dMul_ok (MulOk.of x.z y.z hk)
theorem bStr_I [x : ZI k i] (hk : k < 1920) : bStr [.int i] h = .ok (.str (toString i)) h := bStr_ok x.z hk
theorem lt_FQ : (a.num * b.den < b.num * a.den) = (a < b) := propext (Rat.lt_iff _ _).symm
theorem dec_lt {p q : Prop} [Decidable p] [Decidable q] (e : p = q) : decide p = decide q := by subst e; congr
/-- a list at the heap's end -/
theorem get_l {o : MO} : (h ++ [o])[h.length]? = some o := get_new
theorem mCount_bl {n : Nat} {bs : List Bool} {c : Bool} (q : h[n]? = some (.lst (bs.map D.bl))) : mCount (.ref n) [.bl c] h = .ok (.int ((bs.countP (· == c) : Nat) : Int)) h := by
  have e : D.pyAll (bs.map D.bl) = some (bs.map PyData.bool) := by
    clear q
    induction bs with
    | nil => rfl
    | cons b bs ih => rw [List.map_cons, D.pyAll, ih]; rfl
  have hs : ∀ l : List Bool, PyData.canLayAll0 (l.map PyData.bool) = true ∧ PyData.depthAll (l.map PyData.bool) = 0 := by
    intro l
    induction l with
    | nil => exact ⟨rfl, rfl⟩
    | cons b l ih => exact ⟨by rw [List.map_cons, PyData.canLayAll0, ih.1]; rfl, by rw [List.map_cons, PyData.depthAll, ih.2]; rfl⟩
  have hc : SeqAt.shaped (.list (bs.map PyData.bool)) = true ∧ SeqAt.shaped (.bool c) = true := by
    refine ⟨?_, by rfl⟩
    unfold SeqAt.shaped
    rw [PyData.canLay0, (hs bs).1, PyData.depth, (hs bs).2]
    rfl
  unfold mCount pyL lstOf
  simp only [q, Option.bind_some, e]
  rw [show pyH h (.bl c) = some (.bool c) from rfl]
  simp only
  rw [if_pos hc, List.countP_map]
  rfl
/-! lists by their places -/
class Ls (h : Hd) (n : Nat) (xs : outParam (List D)) : Prop where
  q : h[n]? = some (.lst xs)
class Lt (g : Hd) (k : Nat) (xs : outParam (List D)) : Prop where
  q : g[k]? = some (.lst xs)
end
section
variable {g h : Hd} {n k : Nat} {xs ys : List D} {d : D} {o : MO}
instance lt_0 : Lt (.lst xs :: g) 0 xs := ⟨rfl⟩
instance lt_s [q : Lt g k xs] : Lt (o :: g) (k + 1) xs := ⟨q.q⟩
instance lt_len {t : Hd} : Lt (g ++ .lst xs :: t) g.length xs := ⟨by rw [get_at0]; rfl⟩
instance lt_lenk {t : Hd} [q : Lt t k xs] : Lt (g ++ t) (g.length + k) xs := ⟨by rw [get_at]; exact q.q⟩
instance ls_app [q : Ls h n xs] : Ls (h ++ g) n xs := ⟨by rw [List.getElem?_append_left (List.getElem?_eq_some_iff.mp q.q).1]; exact q.q⟩
instance ls_at [q : Lt g k xs] : Ls (h ++ g) (h.length + k) xs := ⟨by rw [get_at]; exact q.q⟩
instance ls_at0 : Ls (h ++ .lst xs :: g) h.length xs := ⟨by rw [get_at0]; rfl⟩
theorem iSeq_I [q : Ls h n xs] : iSeq (.ref n) h = .ok (xs, fun h' => h'[n]? = some (.lst xs)) h := iSeq_l q.q
theorem tyM_I [q : Ls h n xs] : tyM "list" (.ref n) h = true := tyM_l q.q
theorem lsOf_I [q : Ls h n xs] : lstOf h (.ref n) = some xs := by unfold lstOf; simp only [q.q]
theorem dIx_I [q : Ls h n xs] {i : Int} : dIx (.ref n) (.int i) h = (match atI xs i with
    | some d => .ok d h
    | none => .bad) := dIx_l q.q
theorem mApp_I [q : Ls h n xs] (hl : xs.length < 1000000) : mApp (.ref n) [d] h = .ok .non (h.set n (.lst (xs ++ [d]))) := mApp_l q.q (Nat.lt_of_lt_of_le hl (by decide +kernel))
theorem dSl_I [q : Ls h n xs] {lo hi : Option Int} : dSl (.ref n) lo hi h = .ok (.ref h.length) (h ++ [.lst (cutD xs lo hi)]) := dSl_l q.q
theorem bLen_I [q : Ls h n xs] : bLen [.ref n] h = .ok (.int xs.length) h := by unfold bLen len0; simp only [q.q]
theorem bTuple_I [q : Ls h n xs] : bTuple [.ref n] h = .ok (.tup xs) h := by unfold bTuple; simp only [lsOf_I]
theorem bList_I [q : Ls h n xs] : bList [.ref n] h = .ok (.ref h.length) (h ++ [.lst xs]) := by unfold bList; simp only [lsOf_I]
theorem dAdd_I {m : Nat} [q1 : Ls h n xs] [q2 : Ls h m ys] (q : xs.length + ys.length ≤ 1000000) : dAdd (.ref n) (.ref m) h = .ok (.ref h.length) (h ++ [.lst (xs ++ ys)]) := dAdd_ll q1.q q2.q q
theorem set_at_I : (h ++ g).set (h.length + k) o = h ++ g.set k o := by
  rw [List.set_append_right _ _ (by omega)]
  congr 2
  omega
theorem set_at0_I : (h ++ g).set h.length o = h ++ g.set 0 o := by
  rw [List.set_append_right _ _ (by omega)]
  congr 2
  omega
theorem tyM_s {z : Str} : tyM "str" (.str z) h = true := rfl
end
instance ls_atF {h g : Hd} {n : Nat} {xs : List D} [e : Fa (h.length = n)] : Ls (h ++ .lst xs :: g) n xs := ⟨by rw [← e.out, get_at0]; rfl⟩
theorem set_atF_I {h g : Hd} {n : Nat} {o o2 : MO} [e : Fa (h.length = n)] : (h ++ o :: g).set n o2 = h ++ o2 :: g := by
  rw [← e.out, set_at0_I]
  rfl
theorem But.fa {p n : Nat} {h h' : Hd} (b : But p h h') [e : Fa (h.length = n)] : Fa (h'.length = n) := ⟨b.len.trans e.out⟩
/-! what is handed back anew beside a pot -/
theorem gc_but_new {p m : Nat} {h h' g : Hd} {o o2 : MO} (b : But p h h') (ho : h'[p]? = some o) (hl : o.lo h.length = true) (hm : h.length ≤ m) (hx : (h' ++ g)[m]? = some o2) (hl2 : o2.lo h.length = true) : gc h (.ref m) (h' ++ g) = .ok (.ref h.length) (h' ++ [o2]) := by
  unfold gc
  rw [if_pos, if_neg (by rw [lo_ref]; simpa using hm)]
  · simp only
    rw [hx]
    simp only
    rw [if_pos hl2, ← b.len, List.take_left']
    rfl
  · intro i u hi e
    rw [List.getElem?_append_left (by rw [b.len]; exact hi)] at e
    by_cases hp : i = p
    · subst hp
      rw [ho] at e
      cases e
      exact .inl hl
    · rw [b.same i hp] at e
      exact .inr e
theorem Pot.gcn {p m : Nat} {h h' g : Hd} {o : MO} (q : Pot p h') (b : But p h h') (hm : h.length ≤ m) (hx : (h' ++ g)[m]? = some o) (hl : o.lo h.length = true) : DL.gc h (.ref m) (h' ++ g) = .ok (.ref h.length) (h' ++ [o]) := by
  obtain ⟨x, y, e, _⟩ := q
  exact gc_but_new b e (by simp only [lo_lst, lo_cons, lo_int, lo_nil]; rfl) hm hx hl
/-- a row of truths, all true -/
theorem lc_true {im : IM} {e : EM} {i : Nat} {s : Sl} {h h1 : Hd} (xs : List D) {chk : Hd → Prop} (hi : im s h = .ok (xs, chk) h1) (hl : xs.length < 1000000) (hc : ∀ acc : List D, chk (h1 ++ [.lst acc])) (he : ∀ x ∈ xs, ∀ acc, e ((s.set i none).set i (some x)) (h1 ++ [.lst acc]) = .ok (.bl true) (h1 ++ [.lst acc])) :
    eLc im (gN i) tT e [i] s h = .ok (.ref h1.length) (h1 ++ [.lst (List.replicate xs.length (.bl true))]) := by
  rw [eLc_map (f := fun _ => .bl true) hi (Nat.lt_of_lt_of_le hl (by decide +kernel)) hc he, List.map_const']
theorem bAll_I {m k : Nat} {h : Hd} [q : Ls h m (List.replicate k (D.bl true))] : bAll [.ref m] h = .ok (.bl true) h := by
  have e := q.q
  rw [show List.replicate k (D.bl true) = (List.replicate k ()).map fun _ => D.bl true by simp] at e
  rw [bAll_map (f := fun _ => true) e]
  simp
/-- a law's own loop -/
theorem law_len {n N : Nat} {m : Int} (hN : 1 ≤ N) (e : m = (if (if (N : Int) < (n : Int) then (N : Int) else (n : Int)) > 1 then (if (N : Int) < (n : Int) then (N : Int) else (n : Int)) else 1)) : 0 ≤ m ∧ m ≤ N := by
  subst e
  split <;> split <;> omega
/-- a for by what holds between two turns, with what is walked -/
theorem forD_at {chk : Hd → Prop} {g : GM} {body : SM} {I : List D → Sl → Hd → Prop} {R : SR → Prop} (all : List D) : ∀ (xs pre : List D) (s : Sl) (h : Hd), all = pre ++ xs → I pre s h →
    (∀ pre s h, I pre s h → chk h) →
    (∀ pre x post s h, all = pre ++ x :: post → I pre s h → ∃ s1 h1, g x s h = .ok s1 h1 ∧ ((∃ s2 h2, body s1 h1 = .nx s2 h2 ∧ I (pre ++ [x]) s2 h2) ∨ (∃ r, body s1 h1 = r ∧ (∀ s h, r ≠ .nx s h) ∧ R r))) →
    (∀ s h, I all s h → R (.nx s h)) → R (forD chk g body xs s h)
  | [], pre, s, h, ea, i, hc, ht, he => by
    unfold forD
    rw [if_pos (hc _ _ _ i)]
    rw [List.append_nil] at ea
    subst ea
    exact he s h i
  | x :: xs, pre, s, h, ea, i, hc, ht, he => by
    unfold forD
    rw [if_pos (hc _ _ _ i)]
    obtain ⟨s1, h1, e1, q⟩ := ht pre x xs s h ea i
    rw [e1]
    rcases q with ⟨s2, h2, e2, i2⟩ | ⟨r, e2, nn, q⟩
    · simp only [e2]
      exact forD_at all xs (pre ++ [x]) s2 h2 (by rw [ea, List.append_assoc]; rfl) i2 hc ht he
    · simp only [e2]
      cases r with
      | nx s2 h2 => exact (nn s2 h2 rfl).elim
      | _ => exact q
theorem forD_on {chk : Hd → Prop} {g : GM} {body : SM} {I : List D → Sl → Hd → Prop} {R : SR → Prop} (all : List D) (s : Sl) (h : Hd) (i : I [] s h)
    (hc : ∀ pre s h, I pre s h → chk h)
    (ht : ∀ pre x post s h, all = pre ++ x :: post → I pre s h → ∃ s1 h1, g x s h = .ok s1 h1 ∧ ((∃ s2 h2, body s1 h1 = .nx s2 h2 ∧ I (pre ++ [x]) s2 h2) ∨ (∃ r, body s1 h1 = r ∧ (∀ s h, r ≠ .nx s h) ∧ R r)))
    (he : ∀ s h, I all s h → R (.nx s h)) : R (forD chk g body all s h) := forD_at all all [] s h rfl i hc ht he
theorem rng_len {lo : Int} {n : Nat} : (rng lo n).length = n := by unfold rng; simp
theorem pre_len {all pre post : List D} {x : D} (e : all = pre ++ x :: post) : pre.length < all.length := by rw [e]; simp
theorem Pot.gcl {p m : Nat} {h h' g : Hd} {L : List D} (q : Pot p h') (b : But p h h') (hm : h.length ≤ m) (hx : (h' ++ g)[m]? = some (.lst L)) (hl : ∀ x ∈ L, D.lo h.length x = true) : DL.gc h (.ref m) (h' ++ g) = .ok (.ref h.length) (h' ++ [.lst L]) := q.gcn b hm hx (by rw [lo_lst]; exact loAll_of hl)
/-- a for that leaves the heap as it is, but for what is behind it, and keeps P of the slots -/
theorem forD_keep {chk : Hd → Prop} {g : GM} {body : SM} (P : Sl → Prop) (all : List D) (s : Sl) (h : Hd) (p : P s) (hc : ∀ t, chk (h ++ t))
    (ht : ∀ x ∈ all, ∀ s t, P s → ∃ s1, g x s (h ++ t) = .ok s1 (h ++ t) ∧ ∃ s2 t2, body s1 (h ++ t) = .nx s2 (h ++ t2) ∧ P s2) :
    ∃ s' t, forD chk g body all s h = .nx s' (h ++ t) ∧ P s' := by
  refine forD_on (I := fun pre s h' => P s ∧ ∃ t, h' = h ++ t) (R := fun r => ∃ s' t, r = .nx s' (h ++ t) ∧ P s') all s h ⟨p, [], (List.append_nil h).symm⟩ (fun pre s h' ⟨_, t, e⟩ => by rw [e]; exact hc t) (fun pre x post s h' e ⟨ps, t, eh⟩ => ?_) (fun s h' ⟨ps, t, eh⟩ => ⟨s, t, by rw [eh], ps⟩)
  subst eh
  obtain ⟨s1, e1, s2, t2, e2, p2⟩ := ht x (by rw [e]; simp) s t ps
  exact ⟨s1, _, e1, .inl ⟨s2, _, e2, p2, t2, rfl⟩⟩
theorem Ls.chk {h : Hd} {n : Nat} {xs : List D} [q : Ls h n xs] (t : Hd) : (h ++ t)[n]? = some (.lst xs) := (ls_app (g := t)).q
theorem cut_mem {xs : List D} {lo hi : Option Int} {x : D} (h : x ∈ cutD xs lo hi) : x ∈ xs := List.mem_of_mem_drop (List.mem_of_mem_take h)
theorem cut_len {xs : List D} {lo hi : Option Int} : (cutD xs lo hi).length ≤ xs.length := by unfold cutD; rw [List.length_take, List.length_drop]; omega
/-! both ways of and, or at once -/
theorem iteA_I {c d : Bool} {h : Hd} : (if c = true then Res.ok d h else Res.ok false h) = Res.ok (c && d) h := by cases c <;> rfl
theorem iteO_I {c d : Bool} {h : Hd} : (if c = true then Res.ok true h else Res.ok d h) = Res.ok (c || d) h := by cases c <;> rfl
theorem iteAV_I {c d : Bool} {h : Hd} : (if c = true then Res.ok (D.bl d) h else Res.ok (D.bl false) h) = Res.ok (.bl (c && d)) h := by cases c <;> rfl
theorem iteOV_I {c d : Bool} {h : Hd} : (if c = true then Res.ok (D.bl true) h else Res.ok (D.bl d) h) = Res.ok (.bl (c || d)) h := by cases c <;> rfl
theorem is_in_I {neg : Bool} {i : Int} {h : Hd} : isD neg (.int i) .non h = .ok (.bl (neg ^^ false)) h := rfl
theorem is_nn_I {neg : Bool} {h : Hd} : isD neg .non .non h = .ok (.bl (neg ^^ true)) h := rfl
theorem is_tn_I {neg : Bool} {xs : List D} {h : Hd} : isD neg (.tup xs) .non h = .ok (.bl (neg ^^ false)) h := rfl
theorem is_sn_I {neg : Bool} {x : Str} {h : Hd} : isD neg (.str x) .non h = .ok (.bl (neg ^^ false)) h := rfl
theorem is_rn_I {neg : Bool} {n : Nat} {h : Hd} : isD neg (.ref n) .non h = .ok (.bl (neg ^^ false)) h := rfl
theorem is_fn_I {neg : Bool} {a : Rat} {h : Hd} : isD neg (FQ a) .non h = .ok (.bl (neg ^^ false)) h := rfl
theorem dec_nil_I {α : Type} [DecidableEq α] {c : α} {l : List α} : decide (c :: l = []) = false := by simp
theorem dec_rfl_I {α : Type} [DecidableEq α] {a : α} : decide (a = a) = true := decide_eq_true rfl
/-! a comprehension that draws -/
theorem appD_mid {h' g : Hd} {n : Nat} {acc : List D} {d : D} (e : h'.length = n) (hl : acc.length < 1000000) : appD n d (h' ++ .lst acc :: g) = .ok () (h' ++ .lst (acc ++ [d]) :: g) := by
  subst e
  unfold appD
  rw [get_at0]
  simp only [List.getElem?_cons_zero]
  rw [if_pos (Nat.lt_of_lt_of_le hl (by decide +kernel)), set_at0_I]
  rfl
theorem lcD_draw {chk : Hd → Prop} {e : EM} {i n p : Nat} {s : Sl} {h1 : Hd} {P : D → Prop} (hc : ∀ h', chk h') (hn : h1.length = n) (all : List D)
    (he : ∀ x ∈ all, ∀ acc h' g, But p h1 h' → Pot p h' → ∃ d h'' g', e ((s.set i none).set i (some x)) (h' ++ .lst acc :: g) = .ok d (h'' ++ .lst acc :: g') ∧ P d ∧ But p h' h'' ∧ Pot p h'') :
    ∀ (xs acc : List D) (h' g : Hd), (∀ x ∈ xs, x ∈ all) → acc.length + xs.length < 1000000 → (∀ x ∈ acc, P x) → But p h1 h' → Pot p h' →
    ∃ L h'' g', lcD chk (gN i) tT e [i] n s xs (h' ++ .lst acc :: g) = .ok () (h'' ++ .lst L :: g') ∧ (∀ x ∈ L, P x) ∧ L.length = acc.length + xs.length ∧ But p h1 h'' ∧ Pot p h''
  | [], acc, h', g, _, _, pa, b, q => ⟨acc, h', g, by unfold lcD; rw [if_pos (hc _)], pa, rfl, b, q⟩
  | x :: xs, acc, h', g, hm, hl, pa, b, q => by
    obtain ⟨d, h2, g2, e2, pd, b2, q2⟩ := he x (hm x (by simp)) acc h' g b q
    have ln : h2.length = n := by rw [b2.len, b.len, hn]
    obtain ⟨L, h3, g3, e3, pL, lL, b3, q3⟩ := lcD_draw hc hn all he xs (acc ++ [d]) h2 g2 (fun y hy => hm y (by simp [hy])) (by simp only [List.length_append, List.length_cons, List.length_nil] at hl ⊢; omega) (fun y hy => (List.mem_append.mp hy).elim (pa y) (fun z => by rw [List.mem_singleton.mp z]; exact pd)) (b.trans b2) q2
    refine ⟨L, h3, g3, ?_, pL, by simp only [List.length_append, List.length_cons, List.length_nil] at lL ⊢; omega, b3, q3⟩
    unfold lcD
    rw [if_pos (hc _)]
    show (Res.ok true (h' ++ .lst acc :: g)).bind _ = _
    rw [Res.bind_ok, if_pos rfl]
    have e2' : e ((wipeD s [i]).set i (some x)) (h' ++ .lst acc :: g) = .ok d (h2 ++ .lst acc :: g2) := e2
    rw [e2', Res.bind_ok, appD_mid ln (by rw [List.length_cons] at hl; omega), Res.bind_ok, e3]
theorem eLc_draw {im : IM} {chk : Hd → Prop} {e : EM} {i p : Nat} {s : Sl} {h h1 : Hd} (P : D → Prop) (xs : List D) (hi : im s h = .ok (xs, chk) h1) (hc : ∀ h', chk h') (hl : xs.length < 1000000) (q : Pot p h1)
    (he : ∀ x ∈ xs, ∀ acc h' g, But p h1 h' → Pot p h' → ∃ d h'' g', e ((s.set i none).set i (some x)) (h' ++ .lst acc :: g) = .ok d (h'' ++ .lst acc :: g') ∧ P d ∧ But p h' h'' ∧ Pot p h'') :
    ∃ L h' g, eLc im (gN i) tT e [i] s h = .ok (.ref h1.length) (h' ++ .lst L :: g) ∧ (∀ x ∈ L, P x) ∧ L.length = xs.length ∧ But p h1 h' ∧ Pot p h' := by
  obtain ⟨L, h', g, e1, pL, lL, b, q'⟩ := lcD_draw hc rfl xs he xs [] h1 [] (fun _ h => h) (by simpa using hl) (by simp) .refl q
  refine ⟨L, h', g, ?_, pL, by simpa using lL, b, q'⟩
  unfold eLc
  rw [hi, Res.bind_ok]
  simp only
  rw [e1, Res.bind_ok]
theorem bls_py : ∀ bs : List Bool, D.pyAll (bs.map D.bl) = some (bs.map PyData.bool)
  | [] => rfl
  | b :: bs => by rw [List.map_cons, D.pyAll, bls_py bs]; rfl
theorem bls_lay : ∀ l : List Bool, PyData.canLayAll0 (l.map PyData.bool) = true ∧ PyData.depthAll (l.map PyData.bool) = 0
  | [] => ⟨rfl, rfl⟩
  | b :: l => ⟨by rw [List.map_cons, PyData.canLayAll0, (bls_lay l).1]; rfl, by rw [List.map_cons, PyData.depthAll, (bls_lay l).2]; rfl⟩
theorem bls_shaped (bs : List Bool) : SeqAt.shaped (.list (bs.map PyData.bool)) = true := by
  unfold SeqAt.shaped
  rw [PyData.canLay0, (bls_lay bs).1, PyData.depth, (bls_lay bs).2]
  rfl
/-- a row of truths is the same as itself -/
theorem eqn_bls {neg : Bool} {h : Hd} {n m : Nat} {bs : List Bool} (q : h[n]? = some (.lst (bs.map D.bl))) (r : h[m]? = some (.lst (bs.map D.bl))) : dEqn neg (.ref n) (.ref m) h = .ok (.bl (neg ^^ true)) h := by
  unfold dEqn
  have e : ∀ k : Nat, h[k]? = some (.lst (bs.map D.bl)) → pyH h (.ref k) = some (.list (bs.map PyData.bool)) := fun k e => by
    unfold pyH
    simp only [e, bls_py]
    rfl
  rw [e n q, e m r]
  simp only
  rw [if_pos ⟨bls_shaped bs, bls_shaped bs⟩, SeqAt.eqv_refl _ (SeqAt.canLay_of_shaped (bls_shaped bs))]
end DL

/-! DP5: texts by their signs. -/
namespace DL
open PySem PySem.Spec L2
def T (l : List Nat) : D := .str ⟨l.toArray⟩
theorem T_str {x : Str} : D.str x = T x.cps.toList := rfl
def dig (n : Nat) : List Nat := (Nat.toDigits 10 n).map Char.toNat
section
variable {h : Hd} {a b l : List Nat} {c : Nat} {n : Nat}
theorem str_nat (n : Nat) : (toString (n : Int) : Str) = ⟨(dig n).toArray⟩ := by
  show Str.ofString (toString (n : Int)) = _
  rw [Str.ofString_eq_toList]
  show (⟨((Nat.repr n).toList.map Char.toNat).toArray⟩ : Str) = _
  rw [Nat.toList_repr]
  rfl
theorem bStr_T {i : Int} {k : Nat} (h0 : 0 ≤ i) (q : Sz k i) (hk : k < 1920) : bStr [.int i] h = .ok (T (dig i.toNat)) h := by
  rw [bStr_ok q hk]
  obtain ⟨n, rfl⟩ := Int.eq_ofNat_of_zero_le h0
  rw [str_nat]
  rfl
class Tx (l : List Nat) : Prop where
  ok : ∀ c ∈ l, c < 1114112
instance tx_nil : Tx [] := ⟨by simp⟩
instance tx_cons [q : Fa (c < 1114112)] [t : Tx l] : Tx (c :: l) := ⟨fun x hx => by rcases List.mem_cons.mp hx with rfl | hx; exact q.out; exact t.ok x hx⟩
instance tx_app [q : Tx a] [t : Tx b] : Tx (a ++ b) := ⟨fun x hx => (List.mem_append.mp hx).elim (q.ok x) (t.ok x)⟩
theorem dig_mem {n c : Nat} (h : c ∈ dig n) : 48 ≤ c ∧ c ≤ 57 := by
  obtain ⟨x, hx, rfl⟩ := List.mem_map.mp h
  have q := Nat.isDigit_of_mem_toDigits (by decide) (by decide) hx
  unfold Char.isDigit at q
  rw [Bool.and_eq_true, decide_eq_true_eq, decide_eq_true_eq] at q
  exact ⟨UInt32.le_iff_toNat_le.mp q.1, UInt32.le_iff_toNat_le.mp q.2⟩
instance tx_dig : Tx (dig n) := ⟨fun c hc => by have := dig_mem hc; omega⟩
instance fc_10 : Fa (10 < 1114112) := ⟨by decide⟩
instance fc_32 : Fa (32 < 1114112) := ⟨by decide⟩
instance fc_33 : Fa (33 < 1114112) := ⟨by decide⟩
instance fc_34 : Fa (34 < 1114112) := ⟨by decide⟩
instance fc_35 : Fa (35 < 1114112) := ⟨by decide⟩
instance fc_36 : Fa (36 < 1114112) := ⟨by decide⟩
instance fc_37 : Fa (37 < 1114112) := ⟨by decide⟩
instance fc_38 : Fa (38 < 1114112) := ⟨by decide⟩
instance fc_39 : Fa (39 < 1114112) := ⟨by decide⟩
instance fc_40 : Fa (40 < 1114112) := ⟨by decide⟩
instance fc_41 : Fa (41 < 1114112) := ⟨by decide⟩
instance fc_42 : Fa (42 < 1114112) := ⟨by decide⟩
instance fc_43 : Fa (43 < 1114112) := ⟨by decide⟩
instance fc_44 : Fa (44 < 1114112) := ⟨by decide⟩
instance fc_45 : Fa (45 < 1114112) := ⟨by decide⟩
instance fc_46 : Fa (46 < 1114112) := ⟨by decide⟩
instance fc_47 : Fa (47 < 1114112) := ⟨by decide⟩
instance fc_48 : Fa (48 < 1114112) := ⟨by decide⟩
instance fc_49 : Fa (49 < 1114112) := ⟨by decide⟩
instance fc_50 : Fa (50 < 1114112) := ⟨by decide⟩
instance fc_51 : Fa (51 < 1114112) := ⟨by decide⟩
instance fc_52 : Fa (52 < 1114112) := ⟨by decide⟩
instance fc_53 : Fa (53 < 1114112) := ⟨by decide⟩
instance fc_54 : Fa (54 < 1114112) := ⟨by decide⟩
instance fc_55 : Fa (55 < 1114112) := ⟨by decide⟩
instance fc_56 : Fa (56 < 1114112) := ⟨by decide⟩
instance fc_57 : Fa (57 < 1114112) := ⟨by decide⟩
instance fc_58 : Fa (58 < 1114112) := ⟨by decide⟩
instance fc_59 : Fa (59 < 1114112) := ⟨by decide⟩
instance fc_60 : Fa (60 < 1114112) := ⟨by decide⟩
instance fc_61 : Fa (61 < 1114112) := ⟨by decide⟩
instance fc_62 : Fa (62 < 1114112) := ⟨by decide⟩
instance fc_63 : Fa (63 < 1114112) := ⟨by decide⟩
instance fc_64 : Fa (64 < 1114112) := ⟨by decide⟩
instance fc_65 : Fa (65 < 1114112) := ⟨by decide⟩
instance fc_66 : Fa (66 < 1114112) := ⟨by decide⟩
instance fc_67 : Fa (67 < 1114112) := ⟨by decide⟩
instance fc_68 : Fa (68 < 1114112) := ⟨by decide⟩
instance fc_69 : Fa (69 < 1114112) := ⟨by decide⟩
instance fc_70 : Fa (70 < 1114112) := ⟨by decide⟩
instance fc_71 : Fa (71 < 1114112) := ⟨by decide⟩
instance fc_72 : Fa (72 < 1114112) := ⟨by decide⟩
instance fc_73 : Fa (73 < 1114112) := ⟨by decide⟩
instance fc_74 : Fa (74 < 1114112) := ⟨by decide⟩
instance fc_75 : Fa (75 < 1114112) := ⟨by decide⟩
instance fc_76 : Fa (76 < 1114112) := ⟨by decide⟩
instance fc_77 : Fa (77 < 1114112) := ⟨by decide⟩
instance fc_78 : Fa (78 < 1114112) := ⟨by decide⟩
instance fc_79 : Fa (79 < 1114112) := ⟨by decide⟩
instance fc_80 : Fa (80 < 1114112) := ⟨by decide⟩
instance fc_81 : Fa (81 < 1114112) := ⟨by decide⟩
instance fc_82 : Fa (82 < 1114112) := ⟨by decide⟩
instance fc_83 : Fa (83 < 1114112) := ⟨by decide⟩
instance fc_84 : Fa (84 < 1114112) := ⟨by decide⟩
instance fc_85 : Fa (85 < 1114112) := ⟨by decide⟩
instance fc_86 : Fa (86 < 1114112) := ⟨by decide⟩
instance fc_87 : Fa (87 < 1114112) := ⟨by decide⟩
instance fc_88 : Fa (88 < 1114112) := ⟨by decide⟩
instance fc_89 : Fa (89 < 1114112) := ⟨by decide⟩
instance fc_90 : Fa (90 < 1114112) := ⟨by decide⟩
instance fc_91 : Fa (91 < 1114112) := ⟨by decide⟩
instance fc_92 : Fa (92 < 1114112) := ⟨by decide⟩
instance fc_93 : Fa (93 < 1114112) := ⟨by decide⟩
instance fc_94 : Fa (94 < 1114112) := ⟨by decide⟩
instance fc_95 : Fa (95 < 1114112) := ⟨by decide⟩
instance fc_96 : Fa (96 < 1114112) := ⟨by decide⟩
instance fc_97 : Fa (97 < 1114112) := ⟨by decide⟩
instance fc_98 : Fa (98 < 1114112) := ⟨by decide⟩
instance fc_99 : Fa (99 < 1114112) := ⟨by decide⟩
instance fc_100 : Fa (100 < 1114112) := ⟨by decide⟩
instance fc_101 : Fa (101 < 1114112) := ⟨by decide⟩
instance fc_102 : Fa (102 < 1114112) := ⟨by decide⟩
instance fc_103 : Fa (103 < 1114112) := ⟨by decide⟩
instance fc_104 : Fa (104 < 1114112) := ⟨by decide⟩
instance fc_105 : Fa (105 < 1114112) := ⟨by decide⟩
instance fc_106 : Fa (106 < 1114112) := ⟨by decide⟩
instance fc_107 : Fa (107 < 1114112) := ⟨by decide⟩
instance fc_108 : Fa (108 < 1114112) := ⟨by decide⟩
instance fc_109 : Fa (109 < 1114112) := ⟨by decide⟩
instance fc_110 : Fa (110 < 1114112) := ⟨by decide⟩
instance fc_111 : Fa (111 < 1114112) := ⟨by decide⟩
instance fc_112 : Fa (112 < 1114112) := ⟨by decide⟩
instance fc_113 : Fa (113 < 1114112) := ⟨by decide⟩
instance fc_114 : Fa (114 < 1114112) := ⟨by decide⟩
instance fc_115 : Fa (115 < 1114112) := ⟨by decide⟩
instance fc_116 : Fa (116 < 1114112) := ⟨by decide⟩
instance fc_117 : Fa (117 < 1114112) := ⟨by decide⟩
instance fc_118 : Fa (118 < 1114112) := ⟨by decide⟩
instance fc_119 : Fa (119 < 1114112) := ⟨by decide⟩
instance fc_120 : Fa (120 < 1114112) := ⟨by decide⟩
instance fc_121 : Fa (121 < 1114112) := ⟨by decide⟩
instance fc_122 : Fa (122 < 1114112) := ⟨by decide⟩
instance fc_123 : Fa (123 < 1114112) := ⟨by decide⟩
instance fc_124 : Fa (124 < 1114112) := ⟨by decide⟩
instance fc_125 : Fa (125 < 1114112) := ⟨by decide⟩
instance fc_126 : Fa (126 < 1114112) := ⟨by decide⟩
theorem shaped_T [q : Tx a] : SeqAt.shaped (.str ⟨a.toArray⟩) = true := by
  unfold SeqAt.shaped
  rw [PyData.canLay0, PyData.depth]
  have : PyData.strOk ⟨a.toArray⟩ = true := by
    unfold PyData.strOk
    simpa using q.ok
  rw [this]
  rfl
theorem eqn_T {neg : Bool} [p : Tx a] [q : Tx b] : dEqn neg (T a) (T b) h = .ok (.bl (neg ^^ decide (a = b))) h := by
  unfold dEqn T
  rw [show pyH h (.str ⟨a.toArray⟩) = some (.str ⟨a.toArray⟩) from rfl, show pyH h (.str ⟨b.toArray⟩) = some (.str ⟨b.toArray⟩) from rfl]
  simp only
  rw [if_pos ⟨shaped_T, shaped_T⟩]
  congr 3
  show ((⟨a.toArray⟩ : Str) == ⟨b.toArray⟩) = _
  rw [Bool.eq_iff_iff]
  simp
theorem dEq_T_I [p : Tx a] [q : Tx b] : dEq (T a) (T b) h = .ok (.bl (decide (a = b))) h := by
  show dEqn false _ _ h = _
  rw [eqn_T, Bool.false_xor]
theorem dNe_T_I [p : Tx a] [q : Tx b] : dNe (T a) (T b) h = .ok (.bl (!decide (a = b))) h := by
  show dEqn true _ _ h = _
  rw [eqn_T, Bool.true_xor]
theorem dAdd_T_I (hl : a.length + b.length ≤ 1000000) : dAdd (T a) (T b) h = .ok (T (a ++ b)) h := by
  unfold dAdd T
  simp only
  rw [if_pos (Nat.le_trans (show Str.length ⟨a.toArray⟩ + Str.length ⟨b.toArray⟩ ≤ 1000000 by simpa [Str.length] using hl) (by decide +kernel))]
  congr 2
  show Str.mk _ = _
  simp
theorem tyM_T : tyM "str" (T a) h = true := rfl
theorem lo_T {n : Nat} : D.lo n (T a) = true := lo_str
theorem len_T : Str.length ⟨l.toArray⟩ = l.length := by simp [Str.length]
theorem iSeq_T_I : iSeq (T l) h = .ok (l.map fun c => T [c], fun _ => True) h := rfl
theorem dIn_T_I {neg : Bool} : dIn neg (T [c]) (T l) h = .ok (.bl (neg ^^ decide (c ∈ l))) h := by
  unfold dIn T
  simp only
  have := PySem.StrLaws.found_one ⟨l.toArray⟩ c
  rw [show (⟨[c].toArray⟩ : Str) = ⟨#[c]⟩ from rfl, this]
theorem dIx_T_I (hl : (c :: l).length ≤ 1000000) : dIx (T (c :: l)) (.int 0) h = .ok (T [c]) h := by
  unfold dIx T
  simp only
  rw [if_pos (by rw [len_T]; exact Nat.le_trans hl (by decide +kernel))]
  show (match atI (c :: l) 0 with | some c => Res.ok (D.str ⟨#[c]⟩) h | none => .bad) = _
  have : atI (c :: l) 0 = some c := by
    unfold atI ixN
    simp
  rw [this]
theorem bLen_T_I (hl : l.length ≤ 1000000) : bLen [T l] h = .ok (.int l.length) h := by
  unfold bLen len0 T
  simp only
  rw [if_pos (by rw [len_T]; exact Nat.le_trans hl (by decide +kernel)), len_T]
theorem at_one {l : List Nat} {c i : Nat} : StrLaws.At ⟨l.toArray⟩ ⟨#[c]⟩ (Str.length ⟨l.toArray⟩) i ↔ l[i]? = some c := StrLaws.subAt_one ⟨l.toArray⟩ c i
theorem occ_T (l : List Nat) (c : Nat) : (Builtin.Str.occurrences ⟨l.toArray⟩ ⟨#[c]⟩ 0 (Str.length ⟨l.toArray⟩) 1 = [] ∧ c ∉ l) ∨ ∃ i r, Builtin.Str.occurrences ⟨l.toArray⟩ ⟨#[c]⟩ 0 (Str.length ⟨l.toArray⟩) 1 = i :: r ∧ l[i]? = some c ∧ ∀ k, k < i → l[k]? ≠ some c := by
  rcases StrLaws.occ_head ⟨l.toArray⟩ ⟨#[c]⟩ 1 (Nat.le_refl _) with ⟨h0, hn⟩ | ⟨i, r, e, ha, hn⟩
  · refine .inl ⟨h0, fun hc => ?_⟩
    obtain ⟨i, hi⟩ := List.mem_iff_getElem?.mp hc
    exact hn i (at_one.mpr hi)
  · exact .inr ⟨i, r, e, at_one.mp ha, fun k hk q => hn k hk (at_one.mpr q)⟩
/-- a sign that isn't there; the first place of one that is -/
theorem occ_no (hc : c ∉ l) : Builtin.Str.occurrences ⟨l.toArray⟩ ⟨#[c]⟩ 0 (Str.length ⟨l.toArray⟩) 1 = [] := by
  rcases occ_T l c with ⟨h0, _⟩ | ⟨i, r, e, ha, hn⟩
  · exact h0
  · exact (hc (List.mem_iff_getElem?.mpr ⟨i, ha⟩)).elim
theorem occ_at (ha : c ∉ a) : ∃ r, Builtin.Str.occurrences ⟨(a ++ c :: b).toArray⟩ ⟨#[c]⟩ 0 (Str.length ⟨(a ++ c :: b).toArray⟩) 1 = a.length :: r := by
  rcases occ_T (a ++ c :: b) c with ⟨_, h0⟩ | ⟨i, r, e, hi, hn⟩
  · exact (h0 (by simp)).elim
  · refine ⟨r, ?_⟩
    rw [e]
    congr 1
    rcases Nat.lt_trichotomy i a.length with z | z | z
    · rw [List.getElem?_append_left z] at hi
      exact (ha (List.mem_iff_getElem?.mpr ⟨i, hi⟩)).elim
    · exact z
    · exact (hn a.length z (by simp)).elim
theorem mPart_no (hc : c ∉ l) (hl : l.length ≤ 1000000) : mPart (T l) [T [c]] h = .ok (.tup [T l, T [], T []]) h := by
  unfold mPart T
  simp only
  rw [if_pos ⟨rfl, by rw [len_T]; exact Nat.le_trans hl (by decide +kernel)⟩]
  have e := occ_no hc
  unfold Txt.partition
  rw [show (⟨[c].toArray⟩ : Str) = ⟨#[c]⟩ from rfl, e]
  rfl
theorem strSub_T {i j : Nat} : Builtin.Str.strSub ⟨l.toArray⟩ i j = ⟨((l.take j).drop i).toArray⟩ := by
  unfold Builtin.Str.strSub
  congr 1
  rw [List.extract_toArray]
  congr 1
  rw [List.drop_take]
theorem mPart_at (ha : c ∉ a) (hl : (a ++ c :: b).length ≤ 1000000) : mPart (T (a ++ c :: b)) [T [c]] h = .ok (.tup [T a, T [c], T b]) h := by
  unfold mPart T
  simp only
  rw [if_pos ⟨rfl, by rw [len_T]; exact Nat.le_trans hl (by decide +kernel)⟩]
  obtain ⟨r, e⟩ := occ_at (b := b) ha
  unfold Txt.partition
  rw [show (⟨[c].toArray⟩ : Str) = ⟨#[c]⟩ from rfl, e]
  simp only
  rw [strSub_T, strSub_T, show Str.length ⟨#[c]⟩ = 1 from rfl, len_T]
  have e2 : List.drop (a.length + 1) (a ++ c :: b) = b := by
    rw [List.drop_append, List.drop_of_length_le (by omega)]
    simp
  rw [List.take_of_length_le (Nat.le_refl _), e2]
  simp
theorem mSIndex_at (ha : c ∉ a) : mSIndex (T (a ++ c :: b)) [T [c]] h = .ok (.int a.length) h := by
  unfold mSIndex T
  simp only
  obtain ⟨r, e⟩ := occ_at (b := b) ha
  rw [show (⟨[c].toArray⟩ : Str) = ⟨#[c]⟩ from rfl, e]
/-! numbers -/
def isDg (c : Nat) : Bool := decide (48 ≤ c ∧ c ≤ 57)
def numV (l : List Nat) : Nat := l.foldl (fun a c => 10 * a + (c - 48)) 0
theorem numV_dig : numV (dig n) = n := by
  have e := Nat.ofDigitChars_ten_toDigits (n := n)
  rw [Nat.ofDigitChars_eq_foldl] at e
  unfold numV dig
  rw [List.foldl_map]
  exact e
theorem foldl_lt : ∀ (l : List Nat) (a k : Nat), l.all isDg = true → a < 10 ^ k → l.foldl (fun a c => 10 * a + (c - 48)) a < 10 ^ (k + l.length)
  | [], a, k, _, h => h
  | c :: l, a, k, hd, h => by
    rw [List.all_cons, Bool.and_eq_true] at hd
    have := of_decide_eq_true hd.1
    have := foldl_lt l (10 * a + (c - 48)) (k + 1) hd.2 (by rw [Nat.pow_succ]; omega)
    rw [List.length_cons, List.foldl_cons]
    rw [show k + (l.length + 1) = k + 1 + l.length by omega]
    exact this
theorem numV_lt (hd : l.all isDg = true) : numV l < 10 ^ l.length := by
  have := foldl_lt l 0 0 hd (by decide)
  rw [Nat.zero_add] at this
  exact this
theorem dig_all : (dig n).all isDg = true := by
  rw [List.all_eq_true]
  intro c hc
  exact decide_eq_true (dig_mem hc)
theorem dig_ne : dig n ≠ [] := by
  unfold dig
  intro e
  exact Nat.toDigits_ne_nil (List.map_eq_nil_iff.mp e)
theorem dig_0 : dig 0 = [48] := by decide
/-- without needless noughts -/
theorem dig_head : ∀ {n : Nat}, 0 < n → (dig n).head? ≠ some 48 := by
  intro n
  induction n using Nat.strongRecOn with
  | ind n ih =>
    intro hn
    unfold dig at *
    rw [Nat.toDigits_eq_if (by decide)]
    by_cases h : n < 10
    · rw [if_pos h]
      have : ∀ m, m < 10 → 0 < m → ((List.map Char.toNat [m.digitChar]).head? ≠ some 48) := by decide
      exact this n h hn
    · rw [if_neg h, List.map_append]
      have := ih (n / 10) (by omega) (by omega)
      rw [List.head?_append]
      cases e : (List.map Char.toNat (Nat.toDigits 10 (n / 10))).head? with
      | none => rw [List.head?_eq_none_iff] at e; exact (Nat.toDigits_ne_nil (List.map_eq_nil_iff.mp e)).elim
      | some x => rw [e] at this; exact this
def numD (l : List Nat) : D := if l ≠ [] ∧ l.all isDg = true ∧ (l.head? = some 48 → l = [48]) then .int (numV l) else .non
theorem numD_dig : numD (dig n) = .int n := by
  unfold numD
  rw [if_pos ⟨dig_ne, dig_all, fun e => by
    rcases Nat.eq_zero_or_pos n with z | z
    · rw [z, dig_0]
    · exact (dig_head z e).elim⟩, numV_dig]
theorem dig_inj {m : Nat} (e : dig n = dig m) : n = m := by
  rw [← numV_dig (n := n), e, numV_dig]
theorem dig_len_of {k : Nat} (hk : 1 ≤ k) (hn : n < 10 ^ k) : (dig n).length ≤ k := by
  unfold dig
  rw [List.length_map]
  exact (Nat.length_toDigits_le_iff (by decide) hk).mpr hn
end
abbrev FG : List Nat := [48, 49, 50, 51, 52, 53, 54, 55, 56, 57]
theorem mem_FG {c : Nat} : decide (c ∈ FG) = isDg c := by
  unfold isDg FG
  rw [decide_eq_decide]
  simp only [List.mem_cons, List.not_mem_nil, or_false]
  omega
theorem fg_split : ∀ c, isDg c = true → FG = FG.take (c - 48) ++ c :: FG.drop (c - 48 + 1) ∧ c ∉ FG.take (c - 48) ∧ (FG.take (c - 48)).length = c - 48 := by
  intro c h
  have := of_decide_eq_true h
  have : c = 48 ∨ c = 49 ∨ c = 50 ∨ c = 51 ∨ c = 52 ∨ c = 53 ∨ c = 54 ∨ c = 55 ∨ c = 56 ∨ c = 57 := by omega
  rcases this with z | z | z | z | z | z | z | z | z | z <;> subst z <;> decide
theorem fg_index {c : Nat} {h : Hd} (hc : isDg c = true) : mSIndex (T FG) [T [c]] h = .ok (.int ((c - 48 : Nat) : Int)) h := by
  obtain ⟨e, h1, h2⟩ := fg_split c hc
  rw [e, mSIndex_at h1, h2]
/-- all signs are figures -/
theorem all_bl {p : Nat → Bool} {n : Nat} {h : Hd} {l : List Nat} (q : h[n]? = some (.lst (l.map fun c => D.bl (p c)))) : bAll [.ref n] h = .ok (.bl (l.all p)) h := bAll_map q
theorem lc_sign {im : IM} {e : EM} {i : Nat} {s : Sl} {h h1 : Hd} {l : List Nat} {chk : Hd → Prop} {f : Nat → D} (hi : im s h = .ok (l.map fun c => T [c], chk) h1) (hl : l.length < 1000000) (hc : ∀ acc : List D, chk (h1 ++ [.lst acc])) (he : ∀ c ∈ l, ∀ acc, e ((s.set i none).set i (some (T [c]))) (h1 ++ [.lst acc]) = .ok (f c) (h1 ++ [.lst acc])) :
    eLc im (gN i) tT e [i] s h = .ok (.ref h1.length) (h1 ++ [.lst (l.map f)]) := by
  have := eLc_map (f := fun d => match d with | .str z => f (z.cps.toList.headD 0) | _ => .non) hi (by rw [List.length_map]; exact Nat.lt_of_lt_of_le hl (by decide +kernel)) hc (fun x hx acc => by
    obtain ⟨c, hc, rfl⟩ := List.mem_map.mp hx
    exact he c hc acc)
  rw [this, List.map_map]
  rfl
/-- the loop that reads figures -/
theorem num_loop {g : GM} {body : SM} {h : Hd} {S : D → Option D → Sl} (hg : ∀ (v : D) (u : Option D) (c : Nat), g (T [c]) (S v u) h = .ok (S v (some (T [c]))) h) (hb : ∀ (v c k : Nat), isDg c = true → v < 10 ^ k → k ≤ 1000 → body (S (.int v) (some (T [c]))) h = .nx (S (.int ((10 * v + (c - 48) : Nat) : Int)) (some (T [c]))) h) :
    ∀ (l : List Nat) (v k : Nat) (u : Option D), l.all isDg = true → v < 10 ^ k → k + l.length ≤ 1000 → ∃ u', forD (fun _ => True) g body (l.map fun c => T [c]) (S (.int v) u) h = .nx (S (.int ((l.foldl (fun a c => 10 * a + (c - 48)) v : Nat) : Int)) u') h
  | [], v, k, u, _, _, _ => ⟨u, by rw [List.map_nil]; unfold forD; rw [if_pos trivial]; rfl⟩
  | c :: l, v, k, u, hd, hv, hk => by
    rw [List.all_cons, Bool.and_eq_true] at hd
    have hc := of_decide_eq_true hd.1
    obtain ⟨u', e⟩ := num_loop hg hb l (10 * v + (c - 48)) (k + 1) (some (T [c])) hd.2 (by rw [Nat.pow_succ]; omega) (by rw [List.length_cons] at hk; omega)
    refine ⟨u', ?_⟩
    rw [List.map_cons]
    unfold forD
    rw [if_pos trivial, hg]
    simp only
    rw [hb v c k hd.1 hv (by rw [List.length_cons] at hk; omega)]
    exact e
theorem Sz.pow10 {v k : Nat} (hv : v < 10 ^ k) : Sz (4 * k) (v : Int) := by
  unfold Sz
  rw [Int.natAbs_natCast, Nat.pow_mul]
  exact Nat.lt_of_lt_of_le hv (Nat.pow_le_pow_left (by decide) k)
/-- a fraction's text -/
def frT (a : Rat) : List Nat := if a.den = 1 then dig a.num.toNat else dig a.num.toNat ++ (47 :: dig a.den)
instance tx_frT {a : Rat} : Tx (frT a) := ⟨fun c hc => by
  unfold frT at hc
  split at hc
  · exact tx_dig.ok c hc
  · exact (inferInstance : Tx (dig a.num.toNat ++ (47 :: dig a.den))).ok c hc⟩
theorem no_stroke {n : Nat} : 47 ∉ dig n := fun h => by have := dig_mem h; omega
theorem split_at {a b a' b' : List Nat} {c : Nat} (ha : c ∉ a) (ha' : c ∉ a') (e : a ++ c :: b = a' ++ c :: b') : a = a' ∧ b = b' := by
  induction a generalizing a' with
  | nil =>
    cases a' with
    | nil => exact ⟨rfl, by simpa using e⟩
    | cons x a' =>
      rw [List.nil_append, List.cons_append, List.cons.injEq] at e
      exact (ha' (by rw [e.1]; simp)).elim
  | cons x a ih =>
    cases a' with
    | nil =>
      rw [List.nil_append, List.cons_append, List.cons.injEq] at e
      exact (ha (by rw [← e.1]; simp)).elim
    | cons y a' =>
      rw [List.cons_append, List.cons_append, List.cons.injEq] at e
      obtain ⟨h1, h2⟩ := ih (fun q => ha (by simp [q])) (fun q => ha' (by simp [q])) e.2
      exact ⟨by rw [e.1, h1], h2⟩
theorem frT_inj {a b : Rat} (ha : 0 ≤ a) (hb : 0 ≤ b) (e : frT a = frT b) : a = b := by
  have na := num_nonneg ha
  have nb := num_nonneg hb
  have hn : ∀ {m n : Nat} {l : List Nat}, dig m = dig n ++ (47 :: l) → False := fun {m n l} e => no_stroke (n := m) (by rw [e]; simp)
  unfold frT at e
  split at e
  · split at e
    · rename_i h1 h2
      exact Rat.ext (by have := dig_inj e; omega) (by rw [h1, h2])
    · exact (hn e).elim
  · split at e
    · exact (hn e.symm).elim
    · obtain ⟨e1, e2⟩ := split_at no_stroke no_stroke e
      exact Rat.ext (by have := dig_inj e1; omega) (dig_inj e2)
theorem dec_frT {a b : Rat} (ha : 0 ≤ a) (hb : 0 ≤ b) : decide (frT a = frT b) = decide (a = b) := by
  rw [decide_eq_decide]
  exact ⟨frT_inj ha hb, fun e => by rw [e]⟩
theorem dig_lenS {n k : Nat} (q : Sz k (n : Int)) : (dig n).length ≤ k + 1 := by
  unfold Sz at q
  rw [Int.natAbs_natCast] at q
  exact dig_len_of (by omega) (Nat.lt_of_lt_of_le q (Nat.le_trans (Nat.pow_le_pow_left (by decide) k) (Nat.pow_le_pow_right (by decide) (by omega))))
theorem frT_len {a : Rat} {k : Nat} (ha : 0 ≤ a) (z : SzQ k a) : (frT a).length ≤ 2 * k + 3 := by
  have h1 := dig_lenS (n := a.num.toNat) (k := k) (by rw [Int.toNat_of_nonneg (num_nonneg ha)]; exact z.1)
  have h2 := dig_lenS (n := a.den) (k := k) z.2
  unfold frT
  split
  · omega
  · rw [List.length_append, List.length_cons]
    omega
theorem isFr_FQ {q : Rat} (h : 0 ≤ q) : isFr (FQ q) = true := by
  unfold FQ
  rw [isFr_int]
  exact decide_eq_true ⟨num_nonneg h, den_pos q, reduced_gcd q⟩
theorem typed_FQ {h : Hd} {q : Rat} : Typed h (FQ q) := typed_fr
theorem FQ_1n {d : Int} (hd : 1 ≤ d) : D.tup [.int 1, .int d] = FQ (Rat.divInt 1 d) := by
  rw [FQ_divInt hd, Int.one_gcd]
  simp
/-- a fraction of a draw's size -/
def Gd (k : Nat) (x : D) : Prop := ∃ q : Rat, x = FQ q ∧ 0 ≤ q ∧ SzQ k q
theorem gd_0 {k : Nat} (hk : 1 ≤ k) : Gd k (FQ 0) := ⟨0, rfl, by decide, (zq_0.z).mono hk⟩
theorem gd_1 {k : Nat} (hk : 1 ≤ k) : Gd k (FQ 1) := ⟨1, rfl, by decide, (zq_1.z).mono hk⟩
theorem gd_n {r : Int} (h0 : 0 ≤ r) (h1 : r < 10 ^ 12) : Gd 40 (.tup [.int r, .int 1]) := ⟨(r : Rat), rfl, by exact_mod_cast h0, Sz.of (by show -(2 ^ 40) < r; omega) (by show r < 2 ^ 40; omega), show Sz 40 (1 : Int) by unfold Sz; decide⟩
theorem gd_d {d : Int} (h1 : 1 ≤ d) (h2 : d < 10 ^ 12) : Gd 40 (.tup [.int 1, .int d]) := ⟨_, FQ_1n h1, divInt_nonneg (by decide) h1, .divInt h1 (by unfold Sz; decide) (Sz.of (by omega) (by omega))⟩
end DL

namespace DL
open PySem PySem.Spec PyProof.Rows L2
def topS (i : Nat) : Stmt := PySem.Challenge.pw_hourstairs_k14_texts_there_and_back.main.body.getD i (.Pass ⟨0, 0, 0, 0⟩)
abbrev k_FIGURES : D := .str "0123456789"
abbrev s_p_common : Stmt := topS 5
theorem sc_p_common : FnScope ["one", "other"] ["one", "other"] (defScope s_p_common) := ⟨rfl, rfl, rfl, by decide +kernel, rfl, by decide +kernel, by decide +kernel⟩
abbrev s_p_fraction_text : Stmt := topS 6
theorem sc_p_fraction_text : FnScope ["moment", "n", "d"] ["moment"] (defScope s_p_fraction_text) := ⟨rfl, rfl, rfl, by decide +kernel, rfl, by decide +kernel, by decide +kernel⟩
abbrev s_p_number_in : Stmt := topS 7
theorem sc_p_number_in : FnScope ["figures", "found", "sign"] ["figures"] (defScope s_p_number_in) := ⟨rfl, rfl, rfl, by decide +kernel, rfl, by decide +kernel, by decide +kernel⟩
abbrev s_pot : Stmt := topS 10
theorem sc_pot : FnScope ["_law_script", "_law_k", "_law_state", "_law_cell", "_law_own"] ["_law_script", "_law_k"] (defScope s_pot) := ⟨rfl, rfl, rfl, by decide +kernel, rfl, by decide +kernel, by decide +kernel⟩
abbrev s_digit : Stmt := topS 11
theorem sc_digit : FnScope ["_law_pot_here", "_law_many", "_law_digit_here"] ["_law_pot_here", "_law_many"] (defScope s_digit) := ⟨rfl, rfl, rfl, by decide +kernel, rfl, by decide +kernel, by decide +kernel⟩
abbrev s_common : Stmt := topS 13
theorem sc_common : FnScope ["_law_one", "_law_other"] ["_law_one", "_law_other"] (defScope s_common) := ⟨rfl, rfl, rfl, by decide +kernel, rfl, by decide +kernel, by decide +kernel⟩
abbrev s_is_whole : Stmt := topS 14
theorem sc_is_whole : FnScope ["_law_thing"] ["_law_thing"] (defScope s_is_whole) := ⟨rfl, rfl, rfl, by decide +kernel, rfl, by decide +kernel, by decide +kernel⟩
abbrev s_text : Stmt := topS 17
theorem sc_text : FnScope ["_law_told"] ["_law_told"] (defScope s_text) := ⟨rfl, rfl, rfl, by decide +kernel, rfl, by decide +kernel, by decide +kernel⟩
abbrev s_p_read_fraction : Stmt := topS 8
theorem sc_p_read_fraction : FnScope ["text", "above", "stroke", "below", "n", "d"] ["text"] (defScope s_p_read_fraction) := ⟨rfl, rfl, rfl, by decide +kernel, rfl, by decide +kernel, by decide +kernel⟩
abbrev s_great : Stmt := topS 12
theorem sc_great : FnScope ["_law_pot_here", "_law_size"] ["_law_pot_here"] (defScope s_great) := ⟨rfl, rfl, rfl, by decide +kernel, rfl, by decide +kernel, by decide +kernel⟩
abbrev s_is_fraction : Stmt := topS 15
theorem sc_is_fraction : FnScope ["_law_thing"] ["_law_thing"] (defScope s_is_fraction) := ⟨rfl, rfl, rfl, by decide +kernel, rfl, by decide +kernel, by decide +kernel⟩
abbrev s_fraction : Stmt := topS 16
theorem sc_fraction : FnScope ["_law_pot_here", "_law_top", "_law_bottom", "_law_share"] ["_law_pot_here"] (defScope s_fraction) := ⟨rfl, rfl, rfl, by decide +kernel, rfl, by decide +kernel, by decide +kernel⟩
abbrev s_there_and_back : Stmt := topS 18
theorem sc_there_and_back : FnScope ["_law_told", "_law_text_here", "_law_back"] ["_law_told"] (defScope s_there_and_back) := ⟨rfl, rfl, rfl, by decide +kernel, rfl, by decide +kernel, by decide +kernel⟩
abbrev s_law : Stmt := topS 19
theorem sc_law : FnScope ["_law_script", "_law_k", "_law_pot_here", "_law_some", "_law_one", "_law_other"] ["_law_script"] (defScope s_law) := ⟨rfl, rfl, rfl, by decide +kernel, rfl, by decide +kernel, by decide +kernel⟩
noncomputable def B_p_common : SM := (sSeq (sWhile (tB' (e2 dGt (eV 1) (eC (.int 0)))) (sPar 0 1 (aC (eV 1) (aC (e2 dMod (eV 0) (eV 1)) aN))))
    (sRet (eV 0)))
noncomputable def F_p_common : List D → M D := runB 2 B_p_common
noncomputable def B_p_fraction_text : SM := (sSeq (sAsg (eV 0) (gT 2 (gsC (gN 1) (gsC (gN 2) gsN))))
    (sSeq (sIf (tB' (e2 dEq (eV 2) (eC (.int 1)))) (sRet (eA bStr (aC (eV 1) aN))) sNil)
    (sRet (e2 dAdd (e2 dAdd (eA bStr (aC (eV 1) aN)) (eC (.str "/"))) (eA bStr (aC (eV 2) aN))))))
noncomputable def F_p_fraction_text : List D → M D := runB 3 B_p_fraction_text
noncomputable def B_p_number_in : SM := (sSeq (sIf (tOr' (tB' (e2 dEq (eV 0) (eC (.str "")))) (tNot' (tTr (eA bAll (aC (eLc (i1 (eV 0) iSeq) (gN 2) tT (e2 (dIn false) (eV 2) (eC k_FIGURES)) [2]) aN))))) (sRet (eC .non)) sNil)
    (sSeq (sIf (tAnd' (tB' (e2 dEq (e2 dIx (eV 0) (eC (.int 0))) (eC (.str "0")))) (tB' (e2 dNe (eV 0) (eC (.str "0"))))) (sRet (eC .non)) sNil)
    (sSeq (sSet 1 (eC (.int 0)))
    (sSeq (sFor (i1 (eV 0) iSeq) (gN 2) (sSet 1 (e2 dAdd (e2 dMul (eC (.int 10)) (eV 1)) (eM "str" mSIndex (eC k_FIGURES) (aC (eV 2) aN)))))
    (sRet (eV 1))))))
noncomputable def F_p_number_in : List D → M D := runB 3 B_p_number_in
noncomputable def B_pot : SM := (sSeq (sSet 2 (e2 dAdd (eC (.int 5)) (e2 dMul (eC (.int 1013)) (eV 1))))
    (sSeq (sFor (i1 (eSl (eV 0) oN (oS (eC (.int 63)))) iSeq) (gN 3) (sSet 2 (e2 dMod (e2 dAdd (e2 dMul (eV 2) (eC (.int 48271))) (eV 3)) (eC (.int 2147483629)))))
    (sSeq (sSet 4 (eIf (tB' (e2 dLt (eV 1) (eA bLen (aC (eV 0) aN)))) (e2 dIx (eV 0) (eV 1)) (eC (.int 0))))
    (sRet (eA mkL (aC (e2 dMul (eV 4) (eA bInt (aC (e2 dGe (eV 4) (e2 dPow (eC (.int 10)) (eC (.int 18)))) aN))) (aC (eV 2) aN)))))))
noncomputable def F_pot : List D → M D := runB 5 B_pot
noncomputable def B_digit : SM := (sSeq (sIf (tB' (e2 dGt (e2 dIx (eV 0) (eC (.int 0))) (eC (.int 0)))) (sSeq (sAsg (eA bDivmod (aC (e2 dIx (eV 0) (eC (.int 0))) (aC (eV 1) aN))) (gT 2 (gsC (gS (eV 0) (eC (.int 0)) dSetL) (gsC (gN 2) gsN))))
    (sRet (eV 2))) sNil)
    (sSeq (sAsg (e2 dMod (e2 dAdd (e2 dMul (e2 dIx (eV 0) (eC (.int 1))) (eC (.int 39373))) (eC (.int 7001))) (eC (.int 2147483629))) (gS (eV 0) (eC (.int 1)) dSetL))
    (sRet (e2 dMod (e2 dDiv (e2 dMul (e2 dIx (eV 0) (eC (.int 1))) (e2 dIx (eV 0) (eC (.int 1)))) (eC (.int 11))) (eV 1)))))
noncomputable def F_digit : List D → M D := runB 3 B_digit
noncomputable def B_common : SM := (sSeq (sWhile (tB' (e2 dGt (eV 1) (eC (.int 0)))) (sPar 0 1 (aC (eV 1) (aC (e2 dMod (eV 0) (eV 1)) aN))))
    (sRet (eV 0)))
noncomputable def F_common : List D → M D := runB 2 B_common
noncomputable def B_is_whole : SM := (sRet (eAnd (eA bIsi (aC (eV 0) (aC (eC (.ty "int")) aN))) (eAnd (e2 (isD true) (eV 0) (eC (.bl true))) (e2 (isD true) (eV 0) (eC (.bl false))))))
noncomputable def F_is_whole : List D → M D := runB 1 B_is_whole
noncomputable def B_text : SM := (sRet (eIf (tB' (e2 dEq (e2 dIx (eV 0) (eC (.int 1))) (eC (.int 1)))) (eA bStr (aC (e2 dIx (eV 0) (eC (.int 0))) aN)) (e2 dAdd (e2 dAdd (eA bStr (aC (e2 dIx (eV 0) (eC (.int 0))) aN)) (eC (.str "/"))) (eA bStr (aC (e2 dIx (eV 0) (eC (.int 1))) aN)))))
noncomputable def F_text : List D → M D := runB 1 B_text
noncomputable def B_p_read_fraction : SM := (sSeq (sIf (tNot' (tTr (eA bIsi (aC (eV 0) (aC (eC (.ty "str")) aN))))) sBad sNil)
    (sSeq (sAsg (eM "str" mPart (eV 0) (aC (eC (.str "/")) aN)) (gT 3 (gsC (gN 1) (gsC (gN 2) (gsC (gN 3) gsN)))))
    (sSeq (sSet 4 (eA (eF 1 F_p_number_in) (aC (eV 1) aN)))
    (sSeq (sSet 5 (eC (.int 1)))
    (sSeq (sIf (tB' (e2 dNe (eV 2) (eC (.str "")))) (sSet 5 (eA (eF 1 F_p_number_in) (aC (eV 3) aN))) sNil)
    (sSeq (sIf (tOr' (tB' (e2 (isD false) (eV 4) (eC .non))) (tOr' (tB' (e2 (isD false) (eV 5) (eC .non))) (tOr' (tAnd' (tB' (e2 dNe (eV 2) (eC (.str "")))) (tB' (e2 dLt (eV 5) (eC (.int 2))))) (tB' (e2 dNe (eA (eF 2 F_p_common) (aC (eV 4) (aC (eV 5) aN))) (eC (.int 1))))))) sBad sNil)
    (sRet (eA mkT (aC (eV 4) (aC (eV 5) aN))))))))))
noncomputable def F_p_read_fraction : List D → M D := runB 6 B_p_read_fraction
noncomputable def B_great : SM := (sSeq (sSet 1 (e2 dIx (eA mkL (aC (eC (.int 8)) (aC (eC (.int 60)) (aC (e2 dPow (eC (.int 10)) (eC (.int 6))) (aC (e2 dPow (eC (.int 10)) (eC (.int 12))) aN))))) (eA (eF 2 F_digit) (aC (eV 0) (aC (eC (.int 4)) aN)))))
    (sRet (eA (eF 2 F_digit) (aC (eV 0) (aC (eV 1) aN)))))
noncomputable def F_great : List D → M D := runB 2 B_great
noncomputable def B_is_fraction : SM := (sSeq (sIf (tOr' (tNot' (tTr (eA bIsi (aC (eV 0) (aC (eC (.ty "tuple")) aN))))) (tOr' (tB' (e2 dNe (eA bLen (aC (eV 0) aN)) (eC (.int 2)))) (tOr' (tNot' (tTr (eA (eF 1 F_is_whole) (aC (e2 dIx (eV 0) (eC (.int 0))) aN)))) (tNot' (tTr (eA (eF 1 F_is_whole) (aC (e2 dIx (eV 0) (eC (.int 1))) aN))))))) (sRet (eC (.bl false))) sNil)
    (sRet (eAnd (e2 dGe (e2 dIx (eV 0) (eC (.int 0))) (eC (.int 0))) (eAnd (e2 dGe (e2 dIx (eV 0) (eC (.int 1))) (eC (.int 1))) (e2 dEq (eA (eF 2 F_common) (aC (e2 dIx (eV 0) (eC (.int 0))) (aC (e2 dIx (eV 0) (eC (.int 1))) aN))) (eC (.int 1)))))))
noncomputable def F_is_fraction : List D → M D := runB 1 B_is_fraction
noncomputable def B_fraction : SM := (sSeq (sSet 1 (eA (eF 1 F_great) (aC (eV 0) aN)))
    (sSeq (sSet 2 (eA bMax2 (aC (eC (.int 1)) (aC (eA (eF 1 F_great) (aC (eV 0) aN)) aN))))
    (sSeq (sSet 3 (eA (eF 2 F_common) (aC (eV 1) (aC (eV 2) aN))))
    (sRet (eA mkT (aC (e2 dDiv (eV 1) (eV 3)) (aC (e2 dDiv (eV 2) (eV 3)) aN)))))))
noncomputable def F_fraction : List D → M D := runB 4 B_fraction
noncomputable def B_there_and_back : SM := (sSeq (sSet 1 (eA (eF 1 F_p_fraction_text) (aC (eV 0) aN)))
    (sSeq (sIf (tOr' (tNot' (tTr (eA bIsi (aC (eV 1) (aC (eC (.ty "str")) aN))))) (tB' (e2 dNe (eV 1) (eA (eF 1 F_text) (aC (eV 0) aN))))) (sRet (eC (.bl false))) sNil)
    (sSeq (sSet 2 (eA (eF 1 F_p_read_fraction) (aC (eV 1) aN)))
    (sRet (eAnd (eA (eF 1 F_is_fraction) (aC (eV 2) aN)) (eAnd (e2 dEq (eV 2) (eV 0)) (e2 dEq (eA (eF 1 F_p_fraction_text) (aC (eV 2) aN)) (eV 1))))))))
noncomputable def F_there_and_back : List D → M D := runB 3 B_there_and_back
noncomputable def B_law : SM := (sSeq (sFor (iA (aC (eA bMax2 (aC (eC (.int 1)) (aC (eA bMin2 (aC (eA bLen (aC (eV 0) aN)) (aC (eC (.int 6)) aN))) aN))) aN) iRange1) (gN 1) (sSeq (sSet 2 (eA (eF 2 F_pot) (aC (eV 0) (aC (eV 1) aN))))
    (sSeq (sSet 3 (eA mkL (aC (eA mkT (aC (eC (.int 0)) (aC (eC (.int 1)) aN))) (aC (eA mkT (aC (eC (.int 1)) (aC (eC (.int 1)) aN))) (aC (eA mkT (aC (eA (eF 1 F_great) (aC (eV 2) aN)) (aC (eC (.int 1)) aN))) (aC (eA mkT (aC (eC (.int 1)) (aC (eA bMax2 (aC (eC (.int 1)) (aC (eA (eF 1 F_great) (aC (eV 2) aN)) aN))) aN))) aN))))))
    (sSeq (sSet 3 (e2 dAdd (eV 3) (eLc (iA (aC (e2 dAdd (eC (.int 1)) (eA (eF 2 F_digit) (aC (eV 2) (aC (eC (.int 6)) aN)))) aN) iRange1) (gN 4) tT (eA (eF 1 F_fraction) (aC (eV 2) aN)) [4])))
    (sSeq (sIf (tNot' (tTr (eA bAll (aC (eLc (i1 (eV 3) iSeq) (gN 4) tT (eA (eF 1 F_there_and_back) (aC (eV 4) aN)) [4]) aN)))) (sRet (eC (.bl false))) sNil)
    (sFor (i1 (eV 3) iSeq) (gN 4) (sIf (tB' (e2 dNe (eLc (i1 (eV 3) iSeq) (gN 5) tT (e2 dEq (eA (eF 1 F_p_fraction_text) (aC (eV 5) aN)) (eA (eF 1 F_p_fraction_text) (aC (eV 4) aN))) [5]) (eLc (i1 (eV 3) iSeq) (gN 5) tT (e2 dEq (eV 5) (eV 4)) [5]))) (sRet (eC (.bl false))) sNil)))))))
    (sRet (eC (.bl true))))
noncomputable def F_law : List D → M D := runB 6 B_law
/-- what the top has left -/
structure TopF (K : PySem.W.Frag) (mg : Str → Option Value) : Prop where
  t_p_common : Top K mg "common" s_p_common ["one", "other"]
  t_p_fraction_text : Top K mg "fraction_text" s_p_fraction_text ["moment"]
  t_p_number_in : Top K mg "number_in" s_p_number_in ["figures"]
  t_pot : Top K mg "_law_pot" s_pot ["_law_script", "_law_k"]
  t_digit : Top K mg "_law_digit" s_digit ["_law_pot_here", "_law_many"]
  t_common : Top K mg "_law_common" s_common ["_law_one", "_law_other"]
  t_is_whole : Top K mg "_law_is_whole" s_is_whole ["_law_thing"]
  t_text : Top K mg "_law_text" s_text ["_law_told"]
  t_p_read_fraction : Top K mg "read_fraction" s_p_read_fraction ["text"]
  t_great : Top K mg "_law_great" s_great ["_law_pot_here"]
  t_is_fraction : Top K mg "_law_is_fraction" s_is_fraction ["_law_thing"]
  t_fraction : Top K mg "_law_fraction" s_fraction ["_law_pot_here"]
  t_there_and_back : Top K mg "_law_there_and_back" s_there_and_back ["_law_told"]
  t_law : Top K mg "law" s_law ["_law_script"]
  z_all : mg "all" = none
  z_divmod : mg "divmod" = none
  z_int : mg "int" = none
  z_isinstance : mg "isinstance" = none
  z_len : mg "len" = none
  z_max : mg "max" = none
  z_min : mg "min" = none
  z_range : mg "range" = none
  z_str : mg "str" = none
  z_tuple : mg "tuple" = none
  c_FIGURES : CF K mg "FIGURES" k_FIGURES
section
variable {P : Program} {w : World} {K : PySem.W.Frag} {mg : Str → Option Value} {base : Heap}
theorem d_p_common (T : TopF K mg) : Def P w K mg base 1 "common" ["one", "other"] F_p_common := by
  have sc := sc_p_common
  refine def_mk (body := B_p_common) (N := ["one", "other"]) T.t_p_common sc fun f cdv A outer s H E hr => ?_
  exact (ds_cons (ds_while PassesOwn.never (dt_cmp op_gtD lift_ord (de_var 1) de_int) (ds_one (ds_par 0 1 rfl sc.nd (da_cons (de_var 1) (da_cons (de_mod (de_var 0) (de_var 1)) da_nil)))))
    (ds_one (ds_ret (de_var 0))))
theorem d_p_fraction_text (T : TopF K mg) : Def P w K mg base 1 "fraction_text" ["moment"] F_p_fraction_text := by
  have sc := sc_p_fraction_text
  refine def_mk (body := B_p_fraction_text) (N := ["moment", "n", "d"]) T.t_p_fraction_text sc fun f cdv A outer s H E hr => ?_
  exact (ds_cons (ds_asg (de_var 0) (dg_tup rfl (dgs_cons (dg_name sc.nd (i := 1)) (dgs_cons (dg_name sc.nd (i := 2)) dgs_nil))))
    (ds_cons (ds_if (dt_cmp (op_eqD' (hu64 hr)) lift_eq (de_var 2) de_int) (ds_one (ds_ret (de_ty call_str_int lift_str T.z_str (da_cons (de_var 1) da_nil)))) ds_nil)
    (ds_one (ds_ret (de_add (de_add (de_ty call_str_int lift_str T.z_str (da_cons (de_var 1) da_nil)) de_str) (de_ty call_str_int lift_str T.z_str (da_cons (de_var 2) da_nil)))))))
theorem d_p_number_in (T : TopF K mg) : Def P w K mg base 1 "number_in" ["figures"] F_p_number_in := by
  have sc := sc_p_number_in
  refine def_mk (body := B_p_number_in) (N := ["figures", "found", "sign"]) T.t_p_number_in sc fun f cdv A outer s H E hr => ?_
  exact (ds_cons (ds_if (dt_w (dw_or (dt_cmp (op_eqD' (hu64 hr)) lift_eq (de_var 0) de_str) (dw_or1 (dt_not (dt_tr (de_bt (cr_all rfl) lift_all T.z_all (da_cons (de_lc (own := [("sign", 2)]) rfl sc.nd (di_seq (de_var 0)) (blkOk_by (N := ["figures", "found", "sign"]) (sc := defScope s_p_number_in) (by decide +kernel)) (lg_name sc.nd (i := 2)) (fun _ _ _ _ _ => pts_T) (fun _ _ _ _ _ => (de_cmp (op_inX (hu65 hr)) lift_in (de_var 2) (T.c_FIGURES.de)))) da_nil))))))) (ds_one (ds_ret de_non)) ds_nil)
    (ds_cons (ds_if (dt_w (dw_and (dt_cmp (op_eqD' (hu64 hr)) lift_eq (de_ixD (de_var 0) de_int) de_str) (dw_and1 (dt_cmp (op_neD' (hu64 hr)) lift_eq (de_var 0) de_str)))) (ds_one (ds_ret de_non)) ds_nil)
    (ds_cons (ds_set 1 sc.nd de_int)
    (ds_cons (ds_for PassesOwn.never rfl (di_seq (de_var 0)) (dg_name sc.nd (i := 2)) (ds_one (ds_set 1 sc.nd (de_add (de_mul de_int (de_var 1)) (de_m PySem.F.plainAttrs_str PySem.F.slot_str_index PySem.F.type_str_index mt_sindex lift_sindex (T.c_FIGURES.de) (da_cons (de_var 2) da_nil))))))
    (ds_one (ds_ret (de_var 1)))))))
theorem d_pot (T : TopF K mg) : Def P w K mg base 1 "_law_pot" ["_law_script", "_law_k"] F_pot := by
  have sc := sc_pot
  refine def_mk (body := B_pot) (N := ["_law_script", "_law_k", "_law_state", "_law_cell", "_law_own"]) T.t_pot sc fun f cdv A outer s H E hr => ?_
  exact (ds_cons (ds_set 2 sc.nd (de_add de_int (de_mul de_int (de_var 1))))
    (ds_cons (ds_for PassesOwn.never rfl (di_seq (de_sl (de_var 0) do_none (do_some de_int))) (dg_name sc.nd (i := 3)) (ds_one (ds_set 2 sc.nd (de_mod (de_add (de_mul (de_var 2) de_int) (de_var 3)) de_int))))
    (ds_cons (ds_set 4 sc.nd (de_if (dt_cmp op_ltD lift_ord (de_var 1) (de_bt call_lenA lift_len T.z_len (da_cons (de_var 0) da_nil))) (de_ixD (de_var 0) (de_var 1)) de_int))
    (ds_one (ds_ret (de_lst (da_cons (de_mul (de_var 4) (de_ty call_int1 lift_int T.z_int (da_cons (de_cmp op_geD lift_ord (de_var 4) (de_pow de_int de_int)) da_nil))) (da_cons (de_var 2) da_nil))))))))
theorem d_digit (T : TopF K mg) : Def P w K mg base 1 "_law_digit" ["_law_pot_here", "_law_many"] F_digit := by
  have sc := sc_digit
  refine def_mk (body := B_digit) (N := ["_law_pot_here", "_law_many", "_law_digit_here"]) T.t_digit sc fun f cdv A outer s H E hr => ?_
  exact (ds_cons (ds_if (dt_cmp op_gtD lift_ord (de_ixD (de_var 0) de_int) de_int) (ds_cons (ds_asg (de_bt call_divmodW lift_divmod T.z_divmod (da_cons (de_ixD (de_var 0) de_int) (da_cons (de_var 1) da_nil))) (dg_tup rfl (dgs_cons (dg_sub set_list lift_setL (de_var 0) de_int) (dgs_cons (dg_name sc.nd (i := 2)) dgs_nil))))
    (ds_one (ds_ret (de_var 2)))) ds_nil)
    (ds_cons (ds_asg (de_mod (de_add (de_mul (de_ixD (de_var 0) de_int) de_int) de_int) de_int) (dg_sub set_list lift_setL (de_var 0) de_int))
    (ds_one (ds_ret (de_mod (de_div (de_mul (de_ixD (de_var 0) de_int) (de_ixD (de_var 0) de_int)) de_int) (de_var 1))))))
theorem d_common (T : TopF K mg) : Def P w K mg base 1 "_law_common" ["_law_one", "_law_other"] F_common := by
  have sc := sc_common
  refine def_mk (body := B_common) (N := ["_law_one", "_law_other"]) T.t_common sc fun f cdv A outer s H E hr => ?_
  exact (ds_cons (ds_while PassesOwn.never (dt_cmp op_gtD lift_ord (de_var 1) de_int) (ds_one (ds_par 0 1 rfl sc.nd (da_cons (de_var 1) (da_cons (de_mod (de_var 0) (de_var 1)) da_nil)))))
    (ds_one (ds_ret (de_var 0))))
theorem d_is_whole (T : TopF K mg) : Def P w K mg base 1 "_law_is_whole" ["_law_thing"] F_is_whole := by
  have sc := sc_is_whole
  refine def_mk (body := B_is_whole) (N := ["_law_thing"]) T.t_is_whole sc fun f cdv A outer s H E hr => ?_
  exact (ds_one (ds_ret (de_and (de_bt call_isi lift_isi T.z_isinstance (da_cons (de_var 0) (da_cons (de_tyname T.z_int) da_nil))) (de_and (de_cmp op_notD lift_is (de_var 0) de_bl) (de_one (de_cmp op_notD lift_is (de_var 0) de_bl))))))
theorem d_text (T : TopF K mg) : Def P w K mg base 1 "_law_text" ["_law_told"] F_text := by
  have sc := sc_text
  refine def_mk (body := B_text) (N := ["_law_told"]) T.t_text sc fun f cdv A outer s H E hr => ?_
  exact (ds_one (ds_ret (de_if (dt_cmp (op_eqD' (hu64 hr)) lift_eq (de_ixD (de_var 0) de_int) de_int) (de_ty call_str_int lift_str T.z_str (da_cons (de_ixD (de_var 0) de_int) da_nil)) (de_add (de_add (de_ty call_str_int lift_str T.z_str (da_cons (de_ixD (de_var 0) de_int) da_nil)) de_str) (de_ty call_str_int lift_str T.z_str (da_cons (de_ixD (de_var 0) de_int) da_nil))))))
theorem d_p_read_fraction (T : TopF K mg) : Def P w K mg base 2 "read_fraction" ["text"] F_p_read_fraction := by
  have sc := sc_p_read_fraction
  refine def_mk (body := B_p_read_fraction) (N := ["text", "above", "stroke", "below", "n", "d"]) T.t_p_read_fraction sc fun f cdv A outer s H E hr => ?_
  exact (ds_cons (ds_if (dt_not (dt_tr (de_bt call_isi lift_isi T.z_isinstance (da_cons (de_var 0) (da_cons (de_tyname T.z_str) da_nil))))) (ds_one ds_bad) ds_nil)
    (ds_cons (ds_asg (de_m PySem.F.plainAttrs_str PySem.F.slot_str_partition PySem.F.type_str_partition mt_partition lift_part (de_var 0) (da_cons de_str da_nil)) (dg_tup rfl (dgs_cons (dg_name sc.nd (i := 1)) (dgs_cons (dg_name sc.nd (i := 2)) (dgs_cons (dg_name sc.nd (i := 3)) dgs_nil)))))
    (ds_cons (ds_set 4 sc.nd (de_def (d_p_number_in T) (hr.mono (by decide)) (da_cons (de_var 1) da_nil)))
    (ds_cons (ds_set 5 sc.nd de_int)
    (ds_cons (ds_if (dt_cmp (op_neD' (hu64 hr)) lift_eq (de_var 2) de_str) (ds_one (ds_set 5 sc.nd (de_def (d_p_number_in T) (hr.mono (by decide)) (da_cons (de_var 3) da_nil)))) ds_nil)
    (ds_cons (ds_if (dt_w (dw_or (dt_cmp op_isD lift_is (de_var 4) de_non) (dw_or (dt_cmp op_isD lift_is (de_var 5) de_non) (dw_or (dt_w (dw_and (dt_cmp (op_neD' (hu64 hr)) lift_eq (de_var 2) de_str) (dw_and1 (dt_cmp op_ltD lift_ord (de_var 5) de_int)))) (dw_or1 (dt_cmp (op_neD' (hu64 hr)) lift_eq (de_def (d_p_common T) (hr.mono (by decide)) (da_cons (de_var 4) (da_cons (de_var 5) da_nil))) de_int)))))) (ds_one ds_bad) ds_nil)
    (ds_one (ds_ret (de_tup (da_cons (de_var 4) (da_cons (de_var 5) da_nil)))))))))))
theorem d_great (T : TopF K mg) : Def P w K mg base 2 "_law_great" ["_law_pot_here"] F_great := by
  have sc := sc_great
  refine def_mk (body := B_great) (N := ["_law_pot_here", "_law_size"]) T.t_great sc fun f cdv A outer s H E hr => ?_
  exact (ds_cons (ds_set 1 sc.nd (de_ixD (de_lst (da_cons de_int (da_cons de_int (da_cons (de_pow de_int de_int) (da_cons (de_pow de_int de_int) da_nil))))) (de_def (d_digit T) (hr.mono (by decide)) (da_cons (de_var 0) (da_cons de_int da_nil)))))
    (ds_one (ds_ret (de_def (d_digit T) (hr.mono (by decide)) (da_cons (de_var 0) (da_cons (de_var 1) da_nil))))))
theorem d_is_fraction (T : TopF K mg) : Def P w K mg base 2 "_law_is_fraction" ["_law_thing"] F_is_fraction := by
  have sc := sc_is_fraction
  refine def_mk (body := B_is_fraction) (N := ["_law_thing"]) T.t_is_fraction sc fun f cdv A outer s H E hr => ?_
  exact (ds_cons (ds_if (dt_w (dw_or (dt_not (dt_tr (de_bt call_isi lift_isi T.z_isinstance (da_cons (de_var 0) (da_cons (de_tyname T.z_tuple) da_nil))))) (dw_or (dt_cmp (op_neD' (hu64 hr)) lift_eq (de_bt call_lenA lift_len T.z_len (da_cons (de_var 0) da_nil)) de_int) (dw_or (dt_not (dt_tr (de_def (d_is_whole T) (hr.mono (by decide)) (da_cons (de_ixD (de_var 0) de_int) da_nil)))) (dw_or1 (dt_not (dt_tr (de_def (d_is_whole T) (hr.mono (by decide)) (da_cons (de_ixD (de_var 0) de_int) da_nil))))))))) (ds_one (ds_ret de_bl)) ds_nil)
    (ds_one (ds_ret (de_and (de_cmp op_geD lift_ord (de_ixD (de_var 0) de_int) de_int) (de_and (de_cmp op_geD lift_ord (de_ixD (de_var 0) de_int) de_int) (de_one (de_cmp (op_eqD' (hu64 hr)) lift_eq (de_def (d_common T) (hr.mono (by decide)) (da_cons (de_ixD (de_var 0) de_int) (da_cons (de_ixD (de_var 0) de_int) da_nil))) de_int)))))))
theorem d_fraction (T : TopF K mg) : Def P w K mg base 3 "_law_fraction" ["_law_pot_here"] F_fraction := by
  have sc := sc_fraction
  refine def_mk (body := B_fraction) (N := ["_law_pot_here", "_law_top", "_law_bottom", "_law_share"]) T.t_fraction sc fun f cdv A outer s H E hr => ?_
  exact (ds_cons (ds_set 1 sc.nd (de_def (d_great T) (hr.mono (by decide)) (da_cons (de_var 0) da_nil)))
    (ds_cons (ds_set 2 sc.nd (de_bt (call_max2 rfl) lift_bII T.z_max (da_cons de_int (da_cons (de_def (d_great T) (hr.mono (by decide)) (da_cons (de_var 0) da_nil)) da_nil))))
    (ds_cons (ds_set 3 sc.nd (de_def (d_common T) (hr.mono (by decide)) (da_cons (de_var 1) (da_cons (de_var 2) da_nil))))
    (ds_one (ds_ret (de_tup (da_cons (de_div (de_var 1) (de_var 3)) (da_cons (de_div (de_var 2) (de_var 3)) da_nil))))))))
theorem d_there_and_back (T : TopF K mg) : Def P w K mg base 3 "_law_there_and_back" ["_law_told"] F_there_and_back := by
  have sc := sc_there_and_back
  refine def_mk (body := B_there_and_back) (N := ["_law_told", "_law_text_here", "_law_back"]) T.t_there_and_back sc fun f cdv A outer s H E hr => ?_
  exact (ds_cons (ds_set 1 sc.nd (de_def (d_p_fraction_text T) (hr.mono (by decide)) (da_cons (de_var 0) da_nil)))
    (ds_cons (ds_if (dt_w (dw_or (dt_not (dt_tr (de_bt call_isi lift_isi T.z_isinstance (da_cons (de_var 1) (da_cons (de_tyname T.z_str) da_nil))))) (dw_or1 (dt_cmp (op_neD' (hu64 hr)) lift_eq (de_var 1) (de_def (d_text T) (hr.mono (by decide)) (da_cons (de_var 0) da_nil)))))) (ds_one (ds_ret de_bl)) ds_nil)
    (ds_cons (ds_set 2 sc.nd (de_def (d_p_read_fraction T) (hr.mono (by decide)) (da_cons (de_var 1) da_nil)))
    (ds_one (ds_ret (de_and (de_def (d_is_fraction T) (hr.mono (by decide)) (da_cons (de_var 2) da_nil)) (de_and (de_cmp (op_eqD' (hu64 hr)) lift_eq (de_var 2) (de_var 0)) (de_one (de_cmp (op_eqD' (hu64 hr)) lift_eq (de_def (d_p_fraction_text T) (hr.mono (by decide)) (da_cons (de_var 2) da_nil)) (de_var 1))))))))))
theorem d_law (T : TopF K mg) : Def P w K mg base 4 "law" ["_law_script"] F_law := by
  have sc := sc_law
  refine def_mk (body := B_law) (N := ["_law_script", "_law_k", "_law_pot_here", "_law_some", "_law_one", "_law_other"]) T.t_law sc fun f cdv A outer s H E hr => ?_
  exact (ds_cons (ds_for PassesOwn.never rfl (di_range1 T.z_range (da_cons (de_bt (call_max2 rfl) lift_bII T.z_max (da_cons de_int (da_cons (de_bt (call_min2 rfl) lift_bII T.z_min (da_cons (de_bt call_lenA lift_len T.z_len (da_cons (de_var 0) da_nil)) (da_cons de_int da_nil))) da_nil))) da_nil)) (dg_name sc.nd (i := 1)) (ds_cons (ds_set 2 sc.nd (de_def (d_pot T) (hr.mono (by decide)) (da_cons (de_var 0) (da_cons (de_var 1) da_nil))))
    (ds_cons (ds_set 3 sc.nd (de_lst (da_cons (de_tup (da_cons de_int (da_cons de_int da_nil))) (da_cons (de_tup (da_cons de_int (da_cons de_int da_nil))) (da_cons (de_tup (da_cons (de_def (d_great T) (hr.mono (by decide)) (da_cons (de_var 2) da_nil)) (da_cons de_int da_nil))) (da_cons (de_tup (da_cons de_int (da_cons (de_bt (call_max2 rfl) lift_bII T.z_max (da_cons de_int (da_cons (de_def (d_great T) (hr.mono (by decide)) (da_cons (de_var 2) da_nil)) da_nil))) da_nil))) da_nil))))))
    (ds_cons (ds_set 3 sc.nd (de_add (de_var 3) (de_lc (own := [("_law_one", 4)]) rfl sc.nd (di_range1 T.z_range (da_cons (de_add de_int (de_def (d_digit T) (hr.mono (by decide)) (da_cons (de_var 2) (da_cons de_int da_nil)))) da_nil)) (blkOk_by (N := ["_law_script", "_law_k", "_law_pot_here", "_law_some", "_law_one", "_law_other"]) (sc := defScope s_law) (by decide +kernel)) (lg_name sc.nd (i := 4)) (fun _ _ _ _ _ => pts_T) (fun _ _ _ _ _ => (de_def (d_fraction T) (hr.mono (by decide)) (da_cons (de_var 2) da_nil))))))
    (ds_cons (ds_if (dt_not (dt_tr (de_bt (cr_all rfl) lift_all T.z_all (da_cons (de_lc (own := [("_law_one", 4)]) rfl sc.nd (di_seq (de_var 3)) (blkOk_by (N := ["_law_script", "_law_k", "_law_pot_here", "_law_some", "_law_one", "_law_other"]) (sc := defScope s_law) (by decide +kernel)) (lg_name sc.nd (i := 4)) (fun _ _ _ _ _ => pts_T) (fun _ _ _ _ _ => (de_def (d_there_and_back T) (hr.mono (by decide)) (da_cons (de_var 4) da_nil)))) da_nil)))) (ds_one (ds_ret de_bl)) ds_nil)
    (ds_one (ds_for PassesOwn.never rfl (di_seq (de_var 3)) (dg_name sc.nd (i := 4)) (ds_one (ds_if (dt_cmp (op_neD' (hu64 hr)) lift_eq (de_lc (own := [("_law_other", 5)]) rfl sc.nd (di_seq (de_var 3)) (blkOk_by (N := ["_law_script", "_law_k", "_law_pot_here", "_law_some", "_law_one", "_law_other"]) (sc := defScope s_law) (by decide +kernel)) (lg_name sc.nd (i := 5)) (fun _ _ _ _ _ => pts_T) (fun _ _ _ _ _ => (de_cmp (op_eqD' (hu64 hr)) lift_eq (de_def (d_p_fraction_text T) (hr.mono (by decide)) (da_cons (de_var 5) da_nil)) (de_def (d_p_fraction_text T) (hr.mono (by decide)) (da_cons (de_var 4) da_nil))))) (de_lc (own := [("_law_other", 5)]) rfl sc.nd (di_seq (de_var 3)) (blkOk_by (N := ["_law_script", "_law_k", "_law_pot_here", "_law_some", "_law_one", "_law_other"]) (sc := defScope s_law) (by decide +kernel)) (lg_name sc.nd (i := 5)) (fun _ _ _ _ _ => pts_T) (fun _ _ _ _ _ => (de_cmp (op_eqD' (hu64 hr)) lift_eq (de_var 5) (de_var 4))))) (ds_one (ds_ret de_bl)) ds_nil)))))))))
    (ds_one (ds_ret de_bl)))
end
theorem topF_mk {K : PySem.W.Frag} {mg : Str → Option Value} {h : Heap} (X : K.In h) (G : h.Ns mainGlobals mg)
    {f0 : Addr} {oc0 : Value} {od0 an0 : Option Addr} {sl0 : Array (Option Value)} {kV0 dc0 pm0 cd0 ct0 : Value}
    (a0 : PySem.W.nsIn K mainGlobals "common" = some (some (.ref f0))) (l0 : K.lookup f0 = some ⟨oc0, od0, .func (PySem.W.fnOf "common" "common" (defArgs s_p_common) (defBody s_p_common) (defScope s_p_common) .none kV0 dc0 pm0 an0 cd0 ct0), sl0⟩) (c0 : PySem.W.codeIn K cd0 "common" = true) (k0 : PySem.W.keepIn K (.ref f0) = true)
    {f1 : Addr} {oc1 : Value} {od1 an1 : Option Addr} {sl1 : Array (Option Value)} {kV1 dc1 pm1 cd1 ct1 : Value}
    (a1 : PySem.W.nsIn K mainGlobals "fraction_text" = some (some (.ref f1))) (l1 : K.lookup f1 = some ⟨oc1, od1, .func (PySem.W.fnOf "fraction_text" "fraction_text" (defArgs s_p_fraction_text) (defBody s_p_fraction_text) (defScope s_p_fraction_text) .none kV1 dc1 pm1 an1 cd1 ct1), sl1⟩) (c1 : PySem.W.codeIn K cd1 "fraction_text" = true) (k1 : PySem.W.keepIn K (.ref f1) = true)
    {f2 : Addr} {oc2 : Value} {od2 an2 : Option Addr} {sl2 : Array (Option Value)} {kV2 dc2 pm2 cd2 ct2 : Value}
    (a2 : PySem.W.nsIn K mainGlobals "number_in" = some (some (.ref f2))) (l2 : K.lookup f2 = some ⟨oc2, od2, .func (PySem.W.fnOf "number_in" "number_in" (defArgs s_p_number_in) (defBody s_p_number_in) (defScope s_p_number_in) .none kV2 dc2 pm2 an2 cd2 ct2), sl2⟩) (c2 : PySem.W.codeIn K cd2 "number_in" = true) (k2 : PySem.W.keepIn K (.ref f2) = true)
    {f3 : Addr} {oc3 : Value} {od3 an3 : Option Addr} {sl3 : Array (Option Value)} {kV3 dc3 pm3 cd3 ct3 : Value}
    (a3 : PySem.W.nsIn K mainGlobals "_law_pot" = some (some (.ref f3))) (l3 : K.lookup f3 = some ⟨oc3, od3, .func (PySem.W.fnOf "_law_pot" "_law_pot" (defArgs s_pot) (defBody s_pot) (defScope s_pot) .none kV3 dc3 pm3 an3 cd3 ct3), sl3⟩) (c3 : PySem.W.codeIn K cd3 "_law_pot" = true) (k3 : PySem.W.keepIn K (.ref f3) = true)
    {f4 : Addr} {oc4 : Value} {od4 an4 : Option Addr} {sl4 : Array (Option Value)} {kV4 dc4 pm4 cd4 ct4 : Value}
    (a4 : PySem.W.nsIn K mainGlobals "_law_digit" = some (some (.ref f4))) (l4 : K.lookup f4 = some ⟨oc4, od4, .func (PySem.W.fnOf "_law_digit" "_law_digit" (defArgs s_digit) (defBody s_digit) (defScope s_digit) .none kV4 dc4 pm4 an4 cd4 ct4), sl4⟩) (c4 : PySem.W.codeIn K cd4 "_law_digit" = true) (k4 : PySem.W.keepIn K (.ref f4) = true)
    {f5 : Addr} {oc5 : Value} {od5 an5 : Option Addr} {sl5 : Array (Option Value)} {kV5 dc5 pm5 cd5 ct5 : Value}
    (a5 : PySem.W.nsIn K mainGlobals "_law_common" = some (some (.ref f5))) (l5 : K.lookup f5 = some ⟨oc5, od5, .func (PySem.W.fnOf "_law_common" "_law_common" (defArgs s_common) (defBody s_common) (defScope s_common) .none kV5 dc5 pm5 an5 cd5 ct5), sl5⟩) (c5 : PySem.W.codeIn K cd5 "_law_common" = true) (k5 : PySem.W.keepIn K (.ref f5) = true)
    {f6 : Addr} {oc6 : Value} {od6 an6 : Option Addr} {sl6 : Array (Option Value)} {kV6 dc6 pm6 cd6 ct6 : Value}
    (a6 : PySem.W.nsIn K mainGlobals "_law_is_whole" = some (some (.ref f6))) (l6 : K.lookup f6 = some ⟨oc6, od6, .func (PySem.W.fnOf "_law_is_whole" "_law_is_whole" (defArgs s_is_whole) (defBody s_is_whole) (defScope s_is_whole) .none kV6 dc6 pm6 an6 cd6 ct6), sl6⟩) (c6 : PySem.W.codeIn K cd6 "_law_is_whole" = true) (k6 : PySem.W.keepIn K (.ref f6) = true)
    {f7 : Addr} {oc7 : Value} {od7 an7 : Option Addr} {sl7 : Array (Option Value)} {kV7 dc7 pm7 cd7 ct7 : Value}
    (a7 : PySem.W.nsIn K mainGlobals "_law_text" = some (some (.ref f7))) (l7 : K.lookup f7 = some ⟨oc7, od7, .func (PySem.W.fnOf "_law_text" "_law_text" (defArgs s_text) (defBody s_text) (defScope s_text) .none kV7 dc7 pm7 an7 cd7 ct7), sl7⟩) (c7 : PySem.W.codeIn K cd7 "_law_text" = true) (k7 : PySem.W.keepIn K (.ref f7) = true)
    {f8 : Addr} {oc8 : Value} {od8 an8 : Option Addr} {sl8 : Array (Option Value)} {kV8 dc8 pm8 cd8 ct8 : Value}
    (a8 : PySem.W.nsIn K mainGlobals "read_fraction" = some (some (.ref f8))) (l8 : K.lookup f8 = some ⟨oc8, od8, .func (PySem.W.fnOf "read_fraction" "read_fraction" (defArgs s_p_read_fraction) (defBody s_p_read_fraction) (defScope s_p_read_fraction) .none kV8 dc8 pm8 an8 cd8 ct8), sl8⟩) (c8 : PySem.W.codeIn K cd8 "read_fraction" = true) (k8 : PySem.W.keepIn K (.ref f8) = true)
    {f9 : Addr} {oc9 : Value} {od9 an9 : Option Addr} {sl9 : Array (Option Value)} {kV9 dc9 pm9 cd9 ct9 : Value}
    (a9 : PySem.W.nsIn K mainGlobals "_law_great" = some (some (.ref f9))) (l9 : K.lookup f9 = some ⟨oc9, od9, .func (PySem.W.fnOf "_law_great" "_law_great" (defArgs s_great) (defBody s_great) (defScope s_great) .none kV9 dc9 pm9 an9 cd9 ct9), sl9⟩) (c9 : PySem.W.codeIn K cd9 "_law_great" = true) (k9 : PySem.W.keepIn K (.ref f9) = true)
    {f10 : Addr} {oc10 : Value} {od10 an10 : Option Addr} {sl10 : Array (Option Value)} {kV10 dc10 pm10 cd10 ct10 : Value}
    (a10 : PySem.W.nsIn K mainGlobals "_law_is_fraction" = some (some (.ref f10))) (l10 : K.lookup f10 = some ⟨oc10, od10, .func (PySem.W.fnOf "_law_is_fraction" "_law_is_fraction" (defArgs s_is_fraction) (defBody s_is_fraction) (defScope s_is_fraction) .none kV10 dc10 pm10 an10 cd10 ct10), sl10⟩) (c10 : PySem.W.codeIn K cd10 "_law_is_fraction" = true) (k10 : PySem.W.keepIn K (.ref f10) = true)
    {f11 : Addr} {oc11 : Value} {od11 an11 : Option Addr} {sl11 : Array (Option Value)} {kV11 dc11 pm11 cd11 ct11 : Value}
    (a11 : PySem.W.nsIn K mainGlobals "_law_fraction" = some (some (.ref f11))) (l11 : K.lookup f11 = some ⟨oc11, od11, .func (PySem.W.fnOf "_law_fraction" "_law_fraction" (defArgs s_fraction) (defBody s_fraction) (defScope s_fraction) .none kV11 dc11 pm11 an11 cd11 ct11), sl11⟩) (c11 : PySem.W.codeIn K cd11 "_law_fraction" = true) (k11 : PySem.W.keepIn K (.ref f11) = true)
    {f12 : Addr} {oc12 : Value} {od12 an12 : Option Addr} {sl12 : Array (Option Value)} {kV12 dc12 pm12 cd12 ct12 : Value}
    (a12 : PySem.W.nsIn K mainGlobals "_law_there_and_back" = some (some (.ref f12))) (l12 : K.lookup f12 = some ⟨oc12, od12, .func (PySem.W.fnOf "_law_there_and_back" "_law_there_and_back" (defArgs s_there_and_back) (defBody s_there_and_back) (defScope s_there_and_back) .none kV12 dc12 pm12 an12 cd12 ct12), sl12⟩) (c12 : PySem.W.codeIn K cd12 "_law_there_and_back" = true) (k12 : PySem.W.keepIn K (.ref f12) = true)
    {f13 : Addr} {oc13 : Value} {od13 an13 : Option Addr} {sl13 : Array (Option Value)} {kV13 dc13 pm13 cd13 ct13 : Value}
    (a13 : PySem.W.nsIn K mainGlobals "law" = some (some (.ref f13))) (l13 : K.lookup f13 = some ⟨oc13, od13, .func (PySem.W.fnOf "law" "law" (defArgs s_law) (defBody s_law) (defScope s_law) .none kV13 dc13 pm13 an13 cd13 ct13), sl13⟩) (c13 : PySem.W.codeIn K cd13 "law" = true) (k13 : PySem.W.keepIn K (.ref f13) = true)
    (z_all : PySem.W.nsIn K mainGlobals "all" = some none)
    (z_divmod : PySem.W.nsIn K mainGlobals "divmod" = some none)
    (z_int : PySem.W.nsIn K mainGlobals "int" = some none)
    (z_isinstance : PySem.W.nsIn K mainGlobals "isinstance" = some none)
    (z_len : PySem.W.nsIn K mainGlobals "len" = some none)
    (z_max : PySem.W.nsIn K mainGlobals "max" = some none)
    (z_min : PySem.W.nsIn K mainGlobals "min" = some none)
    (z_range : PySem.W.nsIn K mainGlobals "range" = some none)
    (z_str : PySem.W.nsIn K mainGlobals "str" = some none)
    (z_tuple : PySem.W.nsIn K mainGlobals "tuple" = some none)
    {tk_FIGURES : Tok} (ca_FIGURES : PySem.W.nsIn K mainGlobals "FIGURES" = some (some (.str "0123456789" tk_FIGURES)))
    : TopF K mg where
  t_p_common := top_mk X G a0 l0 c0 k0 (fun _ _ _ _ _ _ us hl => match us, hl with | [_, _], _ => rfl)
  t_p_fraction_text := top_mk X G a1 l1 c1 k1 (fun _ _ _ _ _ _ us hl => match us, hl with | [_], _ => rfl)
  t_p_number_in := top_mk X G a2 l2 c2 k2 (fun _ _ _ _ _ _ us hl => match us, hl with | [_], _ => rfl)
  t_pot := top_mk X G a3 l3 c3 k3 (fun _ _ _ _ _ _ us hl => match us, hl with | [_, _], _ => rfl)
  t_digit := top_mk X G a4 l4 c4 k4 (fun _ _ _ _ _ _ us hl => match us, hl with | [_, _], _ => rfl)
  t_common := top_mk X G a5 l5 c5 k5 (fun _ _ _ _ _ _ us hl => match us, hl with | [_, _], _ => rfl)
  t_is_whole := top_mk X G a6 l6 c6 k6 (fun _ _ _ _ _ _ us hl => match us, hl with | [_], _ => rfl)
  t_text := top_mk X G a7 l7 c7 k7 (fun _ _ _ _ _ _ us hl => match us, hl with | [_], _ => rfl)
  t_p_read_fraction := top_mk X G a8 l8 c8 k8 (fun _ _ _ _ _ _ us hl => match us, hl with | [_], _ => rfl)
  t_great := top_mk X G a9 l9 c9 k9 (fun _ _ _ _ _ _ us hl => match us, hl with | [_], _ => rfl)
  t_is_fraction := top_mk X G a10 l10 c10 k10 (fun _ _ _ _ _ _ us hl => match us, hl with | [_], _ => rfl)
  t_fraction := top_mk X G a11 l11 c11 k11 (fun _ _ _ _ _ _ us hl => match us, hl with | [_], _ => rfl)
  t_there_and_back := top_mk X G a12 l12 c12 k12 (fun _ _ _ _ _ _ us hl => match us, hl with | [_], _ => rfl)
  t_law := top_mk X G a13 l13 c13 k13 (fun _ _ _ _ _ _ us hl => match us, hl with | [_], _ => rfl)
  z_all := PySem.W.mg_none_of X G z_all
  z_divmod := PySem.W.mg_none_of X G z_divmod
  z_int := PySem.W.mg_none_of X G z_int
  z_isinstance := PySem.W.mg_none_of X G z_isinstance
  z_len := PySem.W.mg_none_of X G z_len
  z_max := PySem.W.mg_none_of X G z_max
  z_min := PySem.W.mg_none_of X G z_min
  z_range := PySem.W.mg_none_of X G z_range
  z_str := PySem.W.mg_none_of X G z_str
  z_tuple := PySem.W.mg_none_of X G z_tuple
  c_FIGURES := cf_str X G ca_FIGURES
theorem law_end {P : Program} {w : World} {K : PySem.W.Frag} {mg : Str → Option Value} {fa : Addr} (T : TopF K mg) (hmg : mg "law" = some (.ref fa)) :
    ∃ fd : FuncData, (∀ (s : Shared) (u : Value), BindsTo s fd ⟨[u], []⟩ [("_law_script", u)]) ∧ ∀ base : Heap, K.In base → base.Ns mainGlobals mg → FnOk P w K mg base CX0 4 fa fd ["_law_script"] (spD K 1 F_law) := law_F T.t_law (fun base => d_law T) hmg fun _ _ _ _ _ _ _ _ => .of_eq rfl
end DL

namespace DL
open PySem PySem.Spec L2
local macro_rules | `(tactic| walk_at "ev") => `(tactic| try simp -implicitDefEqProofs only [ev_T, ev_L, Nat.reduceLeDiff, ev_run, ev_V, ev_C, ev_1, ev_2, ev_B, ev_Tr, ev_tAnd, ev_tOr, ev_tNot, ev_And, ev_Or, ev_Not, ev_If, ev_aN, ev_aC, ev_A, ev_F, ev_M, ev_Sl, ev_oN, ev_oS, asO_int, ev_D0, ev_nil, ev_seq, ev_asg, ev_gN, ev_gsN, ev_gsC, ev_gT, ev_gS, ev_set, ev_ret, ev_retN, ev_expr, ev_if, ev_par2, ev_for, ev_i1, ev_iA,
  Res.bind_ok, b1_ok, b2_ok, bAnd_ok, bOr_ok, bNot_ok, bAndV_ok, bOrV_ok, bNotV_ok, bIf_ok, bC_ok, bC1_ok, bM_ok, bM1_ok, bSl_ok, bSl1_ok, bSl2_ok, kAsg_ok, bG_ok, bS1_ok, bS2_ok, bS3_ok, kSet_ok, kRet_ok, kExp_ok, kIf_ok, kFor_ok, kPar_ok, kPar1_ok, SR.seq_nx, SR.seq_rt, SR.fin_nx, SR.fin_rt, toS_ok, slAt_some, optR_some, asB_bl, asT_bl, dAdd_ii, dSub_ii, dNeg_i, dLt_ii, dGt_ii, dLe_ii, dGe_ii, bMax2_ii, bMin2_ii, bInt_i, bInt_b, bTuple_t, bLen_t, bLen_r, dIx_t, dIx_r, at_0, at_1, at_2, dEq_ii, dNe_ii, dEq_bb, dNe_bb, is_bb, iSeq_t, iSeq_r,
  List.map, List.length_cons, List.length_nil, List.replicate_succ, List.replicate_zero, List.cons_append, List.nil_append, List.append_nil, List.getElem?_cons_zero, List.getElem?_cons_succ, List.set_cons_zero, List.set_cons_succ, Nat.reduceSub, Nat.reduceAdd, Nat.sub_self, Bool.not_true, Bool.not_false, if_true, if_false, reduceIte, Bool.false_eq_true, decide_true, decide_false])
local macro_rules | `(tactic| walk_at "evn") => `(tactic| try simp -implicitDefEqProofs only [List.append_assoc, List.length_append, Nat.add_assoc, get_at, get_at0, ev_T, ev_L, Nat.reduceLeDiff, ev_run, ev_V, ev_C, ev_1, ev_2, ev_B, ev_Tr, ev_tAnd, ev_tOr, ev_tNot, ev_And, ev_Or, ev_Not, ev_If, ev_aN, ev_aC, ev_A, ev_F, ev_M, ev_Sl, ev_oN, ev_oS, asO_int, ev_D0, ev_nil, ev_seq, ev_asg, ev_gN, ev_gsN, ev_gsC, ev_gT, ev_gS, ev_set, ev_ret, ev_retN, ev_expr, ev_if, ev_par2, ev_for, ev_i1, ev_iA,
  Res.bind_ok, b1_ok, b2_ok, bAnd_ok, bOr_ok, bNot_ok, bAndV_ok, bOrV_ok, bNotV_ok, bIf_ok, bC_ok, bC1_ok, bM_ok, bM1_ok, bSl_ok, bSl1_ok, bSl2_ok, kAsg_ok, bG_ok, bS1_ok, bS2_ok, bS3_ok, kSet_ok, kRet_ok, kExp_ok, kIf_ok, kFor_ok, kPar_ok, kPar1_ok, SR.seq_nx, SR.seq_rt, SR.fin_nx, SR.fin_rt, toS_ok, slAt_some, optR_some, asB_bl, asT_bl, dAdd_ii, dSub_ii, dNeg_i, dLt_ii, dGt_ii, dLe_ii, dGe_ii, bMax2_ii, bMin2_ii, bInt_i, bInt_b, bTuple_t, bLen_t, bLen_r, dIx_t, dIx_r, at_0, at_1, at_2, dEq_ii, dNe_ii, dEq_bb, dNe_bb, is_bb, iSeq_t, iSeq_r,
  List.map, List.length_cons, List.length_nil, List.replicate_succ, List.replicate_zero, List.cons_append, List.nil_append, List.append_nil, List.getElem?_cons_zero, List.getElem?_cons_succ, List.set_cons_zero, List.set_cons_succ, Nat.reduceSub, Nat.reduceAdd, Nat.sub_self, Bool.not_true, Bool.not_false, if_true, if_false, reduceIte, Bool.false_eq_true, decide_true, decide_false])
local macro_rules | `(tactic| walk_at "evq") => `(tactic| try simp -implicitDefEqProofs only [ev_gT_FQ, dIx_FQ0, dIx_FQ1, dEq_FQ, dNe_FQ, FQ_01, FQ_11, List.append_assoc, List.length_append, Nat.add_assoc, get_at, get_at0, ev_T, ev_L, Nat.reduceLeDiff, ev_run, ev_V, ev_C, ev_1, ev_2, ev_B, ev_Tr, ev_tAnd, ev_tOr, ev_tNot, ev_And, ev_Or, ev_Not, ev_If, ev_aN, ev_aC, ev_A, ev_F, ev_M, ev_Sl, ev_oN, ev_oS, asO_int, ev_D0, ev_nil, ev_seq, ev_asg, ev_gN, ev_gsN, ev_gsC, ev_gT, ev_gS, ev_set, ev_ret, ev_retN, ev_expr, ev_if, ev_par2, ev_for, ev_i1, ev_iA,
  Res.bind_ok, b1_ok, b2_ok, bAnd_ok, bOr_ok, bNot_ok, bAndV_ok, bOrV_ok, bNotV_ok, bIf_ok, bC_ok, bC1_ok, bM_ok, bM1_ok, bSl_ok, bSl1_ok, bSl2_ok, kAsg_ok, bG_ok, bS1_ok, bS2_ok, bS3_ok, kSet_ok, kRet_ok, kExp_ok, kIf_ok, kFor_ok, kPar_ok, kPar1_ok, SR.seq_nx, SR.seq_rt, SR.fin_nx, SR.fin_rt, toS_ok, slAt_some, optR_some, asB_bl, asT_bl, dAdd_ii, dSub_ii, dNeg_i, dLt_ii, dGt_ii, dLe_ii, dGe_ii, bMax2_ii, bMin2_ii, bInt_i, bInt_b, bTuple_t, bLen_t, bLen_r, dIx_t, dIx_r, at_0, at_1, at_2, dEq_ii, dNe_ii, dEq_bb, dNe_bb, is_bb, iSeq_t, iSeq_r,
  List.map, List.length_cons, List.length_nil, List.replicate_succ, List.replicate_zero, List.cons_append, List.nil_append, List.append_nil, List.getElem?_cons_zero, List.getElem?_cons_succ, List.set_cons_zero, List.set_cons_succ, Nat.reduceSub, Nat.reduceAdd, Nat.sub_self, Bool.not_true, Bool.not_false, if_true, if_false, reduceIte, Bool.false_eq_true, decide_true, decide_false])
theorem sl0_I : D.str (Str.ofString "0123456789") = T [48, 49, 50, 51, 52, 53, 54, 55, 56, 57] := by
  show D.str _ = D.str _
  congr 1
theorem sl1_I : D.str (Str.ofString "/") = T [47] := by
  show D.str _ = D.str _
  congr 1
theorem sl2_I : D.str (Str.ofString "") = T [] := by
  show D.str _ = D.str _
  congr 1
theorem sl3_I : D.str (Str.ofString "0") = T [48] := by
  show D.str _ = D.str _
  congr 1
local macro_rules | `(tactic| walk_at "evi") => `(tactic| try simp -implicitDefEqProofs (disch := first | (simp only [List.length_cons, List.length_nil, Nat.reduceAdd, Nat.reduceLeDiff]; done) | exact tyM_I | exact tyM_T | decide | omega | assumption) only [lt_FQ, Bool.false_xor, Bool.true_xor, dMul_I, bStr_I, iSeq_I, tyM_I, lsOf_I, dIx_I, mApp_I, dSl_I, bLen_I, bTuple_I, bList_I, dAdd_I, set_at_I, set_at0_I, set_atF_I, bAll_I, iteA_I, iteO_I, iteAV_I, iteOV_I, is_in_I, is_nn_I, is_tn_I, is_sn_I, is_rn_I, is_fn_I, dec_nil_I, dec_rfl_I, dEq_T_I, dNe_T_I, dAdd_T_I, iSeq_T_I, dIn_T_I, dIx_T_I, bLen_T_I, sl0_I, sl1_I, sl2_I, sl3_I, k_FIGURES, ev_gT_FQ, dIx_FQ0, dIx_FQ1, dEq_FQ, dNe_FQ, FQ_01, FQ_11, List.append_assoc, List.length_append, Nat.add_assoc, get_at, get_at0, ev_T, ev_L, Nat.reduceLeDiff, ev_run, ev_V, ev_C, ev_1, ev_2, ev_B, ev_Tr, ev_tAnd, ev_tOr, ev_tNot, ev_And, ev_Or, ev_Not, ev_If, ev_aN, ev_aC, ev_A, ev_F, ev_M, ev_Sl, ev_oN, ev_oS, asO_int, ev_D0, ev_nil, ev_seq, ev_asg, ev_gN, ev_gsN, ev_gsC, ev_gT, ev_gS, ev_set, ev_ret, ev_retN, ev_expr, ev_if, ev_par2, ev_for, ev_i1, ev_iA,
  Res.bind_ok, b1_ok, b2_ok, bAnd_ok, bOr_ok, bNot_ok, bAndV_ok, bOrV_ok, bNotV_ok, bIf_ok, bC_ok, bC1_ok, bM_ok, bM1_ok, bSl_ok, bSl1_ok, bSl2_ok, kAsg_ok, bG_ok, bS1_ok, bS2_ok, bS3_ok, kSet_ok, kRet_ok, kExp_ok, kIf_ok, kFor_ok, kPar_ok, kPar1_ok, SR.seq_nx, SR.seq_rt, SR.fin_nx, SR.fin_rt, toS_ok, slAt_some, optR_some, asB_bl, asT_bl, dAdd_ii, dSub_ii, dNeg_i, dLt_ii, dGt_ii, dLe_ii, dGe_ii, bMax2_ii, bMin2_ii, bInt_i, bInt_b, bTuple_t, bLen_t, bLen_r, dIx_t, dIx_r, at_0, at_1, at_2, dEq_ii, dNe_ii, dEq_bb, dNe_bb, is_bb, iSeq_t, iSeq_r,
  List.map, List.length_cons, List.length_nil, List.replicate_succ, List.replicate_zero, List.cons_append, List.nil_append, List.append_nil, List.getElem?_cons_zero, List.getElem?_cons_succ, List.set_cons_zero, List.set_cons_succ, Nat.reduceSub, Nat.reduceAdd, Nat.sub_self, Bool.not_true, Bool.not_false, if_true, if_false, reduceIte, Bool.false_eq_true, decide_true, decide_false])
theorem p_common {a b : Int} {h : Hd} (ha : 0 ≤ a) (hb : 0 ≤ b) : F_p_common [.int a, .int b] h = .ok (.int (Int.gcd a b)) h := by
  simp only [F_p_common, B_p_common]
  walk_at "ev"
  rw [common_while (fun a b => by walk_at "ev") (fun a b q => by walk_at "ev"; rw [dMod_ok q]; rfl) b.toNat a b (Nat.le_refl _) ha hb]
  walk_at "ev"
  exact gc_same lo_int

theorem p_fraction_text_ok {a : Rat} {h : Hd} {k : Nat} (a0 : 0 ≤ a) (z : SzQ k a) (hk : k < 1000) : F_p_fraction_text [FQ a] h = .ok (T (frT a)) h := by
  have n0 := num_nonneg a0
  have l1 := dig_lenS (n := a.num.toNat) (k := k) (by rw [Int.toNat_of_nonneg n0]; exact z.1)
  have l2 := dig_lenS (n := a.den) (k := k) z.2
  simp only [F_p_fraction_text, B_p_fraction_text]
  walk_at "evi"
  unfold frT
  by_cases h1 : a.den = 1
  · rw [if_pos h1, decide_eq_true (show (a.den : Int) = 1 by omega)]
    walk_at "evi"
    rw [bStr_T n0 z.1 (by omega)]
    walk_at "evi"
    exact gc_same lo_T
  · rw [if_neg h1, decide_eq_false (show ¬ (a.den : Int) = 1 by omega)]
    walk_at "evi"
    rw [bStr_T n0 z.1 (by omega)]
    walk_at "evi"
    rw [dAdd_T_I (by rw [List.length_cons, List.length_nil]; omega)]
    walk_at "evi"
    rw [bStr_T (by omega) z.2 (by omega)]
    walk_at "evi"
    rw [Int.toNat_natCast, dAdd_T_I (by rw [List.length_append, List.length_cons, List.length_nil]; omega)]
    walk_at "evi"
    exact gc_same lo_T
theorem p_fraction_text_I {a : Rat} {h : Hd} {k : Nat} [a0 : Fa (0 ≤ a)] [z : ZQ k a] (hk : k < 1000) : F_p_fraction_text [FQ a] h = .ok (T (frT a)) h := p_fraction_text_ok a0.out z.z hk

theorem p_number_in_ok {l : List Nat} {h : Hd} [tl : Tx l] (hl : l.length ≤ 1000) : F_p_number_in [T l] h = .ok (numD l) h := by
  simp only [F_p_number_in, B_p_number_in]
  walk_at "evi"
  by_cases h0 : l = []
  · subst h0
    walk_at "evi"
    exact gc_same lo_non
  rw [decide_eq_false h0]
  walk_at "evi"
  rw [lc_sign (l := l) (f := fun c => .bl (isDg c)) (chk := fun _ => True) (h1 := h) (by walk_at "evi") (by omega) (fun _ => trivial) (fun c hc acc => by
    walk_at "evi"
    rw [mem_FG])]
  walk_at "evi"
  rw [all_bl get_new]
  walk_at "evi"
  by_cases hd : l.all isDg = true
  rotate_left
  · have e : l.all isDg = false := by simpa using hd
    rw [e]
    walk_at "evi"
    unfold numD
    rw [if_neg fun q => hd q.2.1]
    exact gc_app lo_non
  rw [hd]
  walk_at "evi"
  obtain ⟨c, r, rfl⟩ : ∃ c r, l = c :: r := by
    cases l with
    | nil => exact (h0 rfl).elim
    | cons c r => exact ⟨c, r, rfl⟩
  have tc : Tx [c] := ⟨fun x hx => tl.ok x (by rw [List.mem_singleton.mp hx]; simp)⟩
  rw [dIx_T_I (by omega)]
  walk_at "evi"
  have e1 : decide ([c] = [48]) = decide (c = 48) := by rw [decide_eq_decide]; simp
  rw [e1]
  generalize hH : h ++ [MO.lst _] = H
  by_cases hz : c = 48 ∧ ¬ c :: r = [48]
  · have e3 : (decide (c = 48) && !decide (c :: r = [48])) = true := by rw [decide_eq_true hz.1, decide_eq_false hz.2]; rfl
    rw [e3]
    walk_at "evi"
    unfold numD
    rw [if_neg fun q => hz.2 (q.2.2 (by rw [hz.1]; rfl)), ← hH]
    exact gc_app lo_non
  · have e3 : (decide (c = 48) && !decide (c :: r = [48])) = false := by
      rw [Bool.eq_false_iff]
      intro q
      rw [Bool.and_eq_true, Bool.not_eq_true', decide_eq_true_eq, decide_eq_false_iff_not] at q
      exact hz q
    rw [e3]
    walk_at "evi"
    obtain ⟨u', e4⟩ := num_loop (h := H) (S := fun v u => [some (T (c :: r)), some v, u]) (g := gN 2) (body := (sSet 1 (DL.e2 dAdd (DL.e2 dMul (eC (D.int 10)) (eV 1)) (eM "str" mSIndex (eC (T FG)) (aC (eV 2) aN))))) (fun v u c => rfl) (fun v c k hc hv hk => by
      walk_at "evi"
      rw [dMul_ok (MulOk.of (k := 4) (by unfold Sz; decide) (Sz.pow10 hv) (by omega))]
      walk_at "evi"
      rw [fg_index hc]
      walk_at "evi"
      norm_cast) (c :: r) 0 0 none hd (by decide) (by simpa using hl)
    refine (congrArg (fun R => SR.fin h (R.seq (sRet (eV 1)))) e4).trans ?_
    walk_at "evi"
    have e5 : numD (c :: r) = .int (numV (c :: r)) := by
      unfold numD
      rw [if_pos ⟨by simp, hd, fun q => by
        by_cases z : c :: r = [48]
        · exact z
        · exact (hz ⟨by simpa using q, z⟩).elim⟩]
    rw [e5, ← hH]
    exact gc_app lo_int

/-- the pot of a script -/
theorem pot_ok {ns : List Int} {k : Nat} {h : Hd} (hl : ns.length ≤ 63) (hb : ∀ z ∈ ns, PySem.Builtin.Int.intBits z ≤ 1048576) (hk : k < 1000) : ∃ x y : Int, F_pot [.rol (ns.map D.int), .int k] h = .ok (.ref h.length) (h ++ [.lst [.int x, .int y]]) ∧ 0 ≤ x ∧ 0 ≤ y ∧ y < 2147483629 := by
  simp only [F_pot, B_pot]
  walk_at "ev"
  rw [dMul_ok (MulOk.of (Sz.of (k := 40) (by omega) (by omega)) (Sz.of (k := 40) (by omega) (by omega)) (by decide))]
  walk_at "ev"
  rw [dSl_r, cutD_map]
  generalize (ns.drop (HT.sIx ns.length 0 none)).take (HT.sIx ns.length ns.length (some 63) - HT.sIx ns.length 0 none) = ms
  walk_at "ev"
  rw [iSeq_l get_new]
  walk_at "ev"
  generalize hR : forD _ _ _ _ _ _ = R
  have : ∃ (st : Int) (y3 : Option D), R = .nx [some (.rol (ns.map D.int)), some (.int k), some (.int st), y3, none] (h ++ [.lst (ms.map D.int)]) ∧ 0 ≤ st ∧ st < 2147483629 := by
    rw [← hR]
    refine forD_inv (I := fun pre s h' => ∃ (st : Int) (y3 : Option D), s = [some (.rol (ns.map D.int)), some (.int k), some (.int st), y3, none] ∧ h' = h ++ [.lst (ms.map D.int)] ∧ 0 ≤ st ∧ st < 2147483629) (R := fun R => ∃ (st : Int) (y3 : Option D), R = .nx [some (.rol (ns.map D.int)), some (.int k), some (.int st), y3, none] (h ++ [.lst (ms.map D.int)]) ∧ 0 ≤ st ∧ st < 2147483629)
      _ [] _ _ ⟨5 + 1013 * k, none, rfl, rfl, by omega, by omega⟩ (fun pre s h' ⟨st, y3, e1, e2, _⟩ => by rw [e2]; exact get_new) (fun pre x post s h' _ hx ⟨st, y3, e1, e2, b1, b2⟩ => ?_) (fun s h' ⟨st, y3, e1, e2, b⟩ => ⟨st, y3, by rw [e1, e2], b⟩)
    obtain ⟨z, _, rfl⟩ := List.mem_map.mp hx
    subst e1 e2
    refine ⟨_, _, by walk_at "ev"; rfl, .inl ⟨_, _, by
      walk_at "ev"
      rw [dMul_ok (MulOk.of (Sz.of (k := 40) (by omega) (by omega)) (Sz.of (k := 40) (by omega) (by omega)) (by decide))]
      walk_at "ev"
      rw [dMod_ok (by decide)]
      walk_at "ev"
      rfl, _, _, rfl, rfl, Int.emod_nonneg _ (by decide), Int.emod_lt_of_pos _ (by decide)⟩⟩
  obtain ⟨st, y3, rfl, b1, b2⟩ := this
  walk_at "ev"
  have own : ∃ z : Int, ((if decide ((k : Int) < ((ns.map D.int).length : Nat)) = true then optR (atI (ns.map D.int) k) (h ++ [.lst (ms.map D.int)]) else Res.ok (.int 0) (h ++ [.lst (ms.map D.int)])) : Res D) = .ok (.int z) (h ++ [.lst (ms.map D.int)]) ∧ z.natAbs.log2 ≤ 1048576 := by
    by_cases hlt : k < ns.length
    · refine ⟨ns[k], ?_, ?_⟩
      · rw [if_pos (by simp [hlt]), at_nat (by simp [hlt])]
        simp [optR]
      · have := hb ns[k] (List.getElem_mem hlt)
        unfold Builtin.Int.intBits at this
        split at this
        · rename_i q0
          have q1 : ns[k] = 0 := by simpa using q0
          rw [q1]
          decide
        · omega
    · exact ⟨0, by rw [if_neg (by simp; omega)], by decide⟩
  obtain ⟨z, ez, hz⟩ := own
  rw [ez]
  walk_at "ev"
  rw [dPow_ok (by decide)]
  walk_at "ev"
  rw [dMul_ok (by
    unfold MulOk
    split
    · have : (1 : Int).natAbs.log2 = 0 := by decide
      omega
    · have : (0 : Int).natAbs.log2 = 0 := by decide
      omega)]
  walk_at "ev"
  rw [List.append_assoc]
  refine ⟨z * (if decide (10 ^ Int.toNat 18 ≤ z) = true then 1 else 0), st, ?_, ?_, b1, b2⟩
  · refine gc_new_at ?_ ?_ (by simp only [lo_lst, lo_cons, lo_int, lo_nil]; rfl)
    · simp
    · simp
  · by_cases q : (10 : Int) ^ (Int.toNat 18) ≤ z
    · simp only [q, decide_true, if_true]
      have : (0 : Int) ≤ 10 ^ (Int.toNat 18) := by decide
      omega
    · simp only [q, decide_false, Bool.false_eq_true, if_false]
      omega

theorem digit_ok {p : Nat} {h : Hd} {m : Int} (q : Pot p h) (h1 : 1 ≤ m) (h2 : m < 2 ^ 60) : ∃ (r : Int) (h' : Hd), F_digit [.ref p, .int m] h = .ok (.int r) h' ∧ 0 ≤ r ∧ r < m ∧ But p h h' ∧ Pot p h' := by
  have hp := q.lt
  obtain ⟨x, y, e, hx, hy, hy2⟩ := q
  have mz : DivOk x m := DivOk.of (by omega) (Sz.of (k := 60) (by omega) (by omega)) (by decide)
  simp only [F_digit, B_digit]
  walk_at "ev"
  simp only [dIx_l e]
  walk_at "ev"
  by_cases hx0 : 0 < x
  · simp only [hx0, decide_true, if_true]
    walk_at "ev"
    simp only [dIx_l e]
    walk_at "ev"
    rw [bDivmod_ok mz]
    walk_at "ev"
    rw [setL_l (k := 0) e (by rfl)]
    walk_at "ev"
    refine ⟨x % m, h.set p (.lst [.int (x / m), .int y]), ?_, Int.emod_nonneg _ (by omega), Int.emod_lt_of_pos _ (by omega), .set, x / m, y, by rw [List.getElem?_set_self hp], Int.ediv_nonneg hx (by omega), hy, hy2⟩
    exact gc_but' (o := .lst [.int (x / m), .int y]) .set (by rw [List.getElem?_set_self hp]) (by simp only [lo_lst, lo_cons, lo_int, lo_nil]; rfl) lo_int
  · simp only [hx0]
    walk_at "ev"
    simp only [dIx_l e]
    walk_at "ev"
    rw [dMul_ok (MulOk.of (Sz.of (k := 40) (by omega) (by omega)) (Sz.of (k := 40) (by omega) (by omega)) (by decide))]
    walk_at "ev"
    rw [dMod_ok (by decide)]
    walk_at "ev"
    rw [setL_l (k := 1) e (by rfl)]
    walk_at "ev"
    generalize hy' : (y * 39373 + 7001) % 2147483629 = y'
    have b1 : 0 ≤ y' := by omega
    have b2 : y' < 2147483629 := by omega
    have e' : (h.set p (.lst [.int x, .int y']))[p]? = some (.lst [.int x, .int y']) := by rw [List.getElem?_set_self hp]
    simp only [dIx_l e']
    walk_at "ev"
    simp only [dIx_l e']
    walk_at "ev"
    have z := Sz.mul (Sz.of (k := 40) (i := y') (by omega) (by omega)) (Sz.of (k := 40) (i := y') (by omega) (by omega))
    rw [dMul_ok (MulOk.of (Sz.of (k := 40) (by omega) (by omega)) (Sz.of (k := 40) (by omega) (by omega)) (by decide))]
    walk_at "ev"
    rw [dDiv_ok (DivOk.of (by decide) (Sz.of (k := 40) (by omega) (by omega)) (by decide))]
    walk_at "ev"
    rw [dMod_ok (by omega)]
    walk_at "ev"
    refine ⟨y' * y' / 11 % m, h.set p (.lst [.int x, .int y']), ?_, Int.emod_nonneg _ (by omega), Int.emod_lt_of_pos _ (by omega), .set, x, y', e', hx, b1, b2⟩
    exact gc_but' (o := .lst [.int x, .int y']) .set e' (by simp only [lo_lst, lo_cons, lo_int, lo_nil]; rfl) lo_int
theorem digit_fr {p : Nat} {h g : Hd} {m : Int} (q : Pot p h) (h1 : 1 ≤ m) (h2 : m < 2 ^ 60) : ∃ (r : Int) (h' : Hd), F_digit [.ref p, .int m] (h ++ g) = .ok (.int r) (h' ++ g) ∧ 0 ≤ r ∧ r < m ∧ But p h h' ∧ Pot p h' := by
  obtain ⟨r, h', e, r1, r2, b, q'⟩ := digit_ok (q.app (g := g)) h1 h2
  obtain ⟨h3, rfl, b3⟩ := b.split q.lt
  exact ⟨r, h3, e, r1, r2, b3, q'.cut (by rw [b3.len]; exact q.lt)⟩

theorem common_ok {a b : Int} {h : Hd} (ha : 0 ≤ a) (hb : 0 ≤ b) : F_common [.int a, .int b] h = .ok (.int (Int.gcd a b)) h := by
  simp only [F_common, B_common]
  walk_at "ev"
  rw [common_while (fun a b => by walk_at "ev") (fun a b q => by walk_at "ev"; rw [dMod_ok q]; rfl) b.toNat a b (Nat.le_refl _) ha hb]
  walk_at "ev"
  exact gc_same lo_int

theorem is_whole_ok {x : D} {h : Hd} {t : String} (e : ty0 h x = some t) : F_is_whole [x] h = .ok (.bl (isInt x)) h := by
  simp only [F_is_whole, B_is_whole]
  walk_at "ev"
  simp only [isi_int e, isD]
  cases x with
  | ref n =>
    unfold ty0 at e
    simp only at e
    split at e
    all_goals first | (cases e; done) | (cases e; exact gc_same lo_bl)
  | bl b => cases e; cases b <;> exact gc_same lo_bl
  | _ => first | (cases e; done) | (cases e; exact gc_same lo_bl)

theorem text_ok {a : Rat} {h : Hd} {k : Nat} (a0 : 0 ≤ a) (z : SzQ k a) (hk : k < 1000) : F_text [FQ a] h = .ok (T (frT a)) h := by
  have n0 := num_nonneg a0
  have l1 := dig_lenS (n := a.num.toNat) (k := k) (by rw [Int.toNat_of_nonneg n0]; exact z.1)
  have l2 := dig_lenS (n := a.den) (k := k) z.2
  simp only [F_text, B_text]
  walk_at "evi"
  unfold frT
  by_cases h1 : a.den = 1
  · rw [if_pos h1, decide_eq_true (show (a.den : Int) = 1 by omega)]
    walk_at "evi"
    rw [bStr_T n0 z.1 (by omega)]
    walk_at "evi"
    exact gc_same lo_T
  · rw [if_neg h1, decide_eq_false (show ¬ (a.den : Int) = 1 by omega)]
    walk_at "evi"
    rw [bStr_T n0 z.1 (by omega)]
    walk_at "evi"
    rw [dAdd_T_I (by rw [List.length_cons, List.length_nil]; omega)]
    walk_at "evi"
    rw [bStr_T (by omega) z.2 (by omega)]
    walk_at "evi"
    rw [Int.toNat_natCast, dAdd_T_I (by rw [List.length_append, List.length_cons, List.length_nil]; omega)]
    walk_at "evi"
    exact gc_same lo_T
theorem text_I {a : Rat} {h : Hd} {k : Nat} [a0 : Fa (0 ≤ a)] [z : ZQ k a] (hk : k < 1000) : F_text [FQ a] h = .ok (T (frT a)) h := text_ok a0.out z.z hk

theorem isi_str_T {h : Hd} {l : List Nat} : bIsi [T l, .ty "str"] h = .ok (.bl true) h := by
  unfold bIsi T
  simp only [ty0, kit_ss]
theorem p_read_fraction_ok {a : Rat} {h : Hd} {k : Nat} (a0 : 0 ≤ a) (z : SzQ k a) (hk : k < 400) : F_p_read_fraction [T (frT a)] h = .ok (FQ a) h := by
  have n0 := num_nonneg a0
  have d1 := den_pos a
  have l1 := dig_lenS (n := a.num.toNat) (k := k) (by rw [Int.toNat_of_nonneg n0]; exact z.1)
  have l2 := dig_lenS (n := a.den) (k := k) z.2
  simp only [F_p_read_fraction, B_p_read_fraction]
  walk_at "evi"
  rw [isi_str_T]
  walk_at "evi"
  unfold frT
  by_cases h1 : a.den = 1
  · rw [if_pos h1, mPart_no no_stroke (by omega)]
    walk_at "evi"
    rw [p_number_in_ok (by omega), numD_dig, Int.toNat_of_nonneg n0]
    walk_at "evi"
    rw [p_common n0 (by decide), Int.gcd_one, show ((1 : Nat) : Int) = 1 from rfl]
    walk_at "evi"
    have e : D.tup [.int a.num, .int 1] = FQ a := by
      unfold FQ
      rw [h1]
      rfl
    rw [e]
    exact gc_same lo_FQ
  · rw [if_neg h1, mPart_at no_stroke (by rw [List.length_append, List.length_cons]; omega)]
    walk_at "evi"
    rw [p_number_in_ok (by omega), numD_dig, Int.toNat_of_nonneg n0]
    walk_at "evi"
    rw [p_number_in_ok (by omega), numD_dig]
    walk_at "evi"
    rw [decide_eq_false (show ¬ (a.den : Int) < 2 by omega)]
    walk_at "evi"
    rw [p_common n0 (by omega), reduced_gcd, show ((1 : Nat) : Int) = 1 from rfl]
    walk_at "evi"
    exact gc_same lo_FQ

/-- a number of a pot's size -/
theorem great_ok {p : Nat} {h : Hd} (q : Pot p h) : ∃ (r : Int) (h' : Hd), F_great [.ref p] h = .ok (.int r) h' ∧ 0 ≤ r ∧ r < 10 ^ 12 ∧ But p h h' ∧ Pot p h' := by
  simp only [F_great, B_great]
  walk_at "ev"
  rw [dPow_ok (by decide)]
  walk_at "ev"
  rw [dPow_ok (by decide)]
  walk_at "ev"
  obtain ⟨r, h1, e1, r1, r2, b1, q1⟩ := digit_fr (m := 4) (g := [.lst [.int 8, .int 60, .int (10 ^ (Int.toNat 6)), .int (10 ^ (Int.toNat 12))]]) q (by decide) (by decide)
  rw [e1]
  walk_at "ev"
  rw [show h.length = h1.length from b1.len.symm, dIx_l get_new]
  have hm : ∃ m : Int, atI [D.int 8, .int 60, .int (10 ^ (Int.toNat 6)), .int (10 ^ (Int.toNat 12))] r = some (.int m) ∧ 1 ≤ m ∧ m ≤ 10 ^ 12 := by
    have : r = 0 ∨ r = 1 ∨ r = 2 ∨ r = 3 := by omega
    rcases this with z | z | z | z <;> subst z <;> exact ⟨_, rfl, by decide, by decide⟩
  obtain ⟨m, em, m1, m2⟩ := hm
  rw [em]
  walk_at "ev"
  obtain ⟨r', h2, e2, r1', r2', b2, q2⟩ := digit_fr (m := m) (g := [.lst [.int 8, .int 60, .int (10 ^ (Int.toNat 6)), .int (10 ^ (Int.toNat 12))]]) q1 m1 (by omega)
  rw [e2]
  walk_at "ev"
  exact ⟨r', h2, Pot.gc q2 (b1.trans b2) lo_int, r1', by omega, b1.trans b2, q2⟩
theorem great_fr {p : Nat} {h g : Hd} (q : Pot p h) : ∃ (r : Int) (h' : Hd), F_great [.ref p] (h ++ g) = .ok (.int r) (h' ++ g) ∧ 0 ≤ r ∧ r < 10 ^ 12 ∧ But p h h' ∧ Pot p h' := by
  obtain ⟨r, h', e, r1, r2, b, q'⟩ := great_ok (q.app (g := g))
  obtain ⟨h3, rfl, b3⟩ := b.split q.lt
  exact ⟨r, h3, e, r1, r2, b3, q'.cut (by rw [b3.len]; exact q.lt)⟩

theorem is_fraction_ok {x : D} {h : Hd} (T : Typed h x) : F_is_fraction [x] h = .ok (.bl (isFr x)) h := by
  obtain ⟨⟨t, e⟩, T⟩ := T
  simp only [F_is_fraction, B_is_fraction]
  walk_at "ev"
  simp only [isi_tuple e, Res.bind_ok, asT_bl]
  by_cases ht : ∃ xs, x = .tup xs
  · obtain ⟨xs, rfl⟩ := ht
    cases e
    simp only [beq_self_eq_true]
    walk_at "ev"
    by_cases h2 : xs.length = 2
    · obtain ⟨a, b, rfl⟩ : ∃ a b, xs = [a, b] := by
        match xs, h2 with
        | [a, b], _ => exact ⟨a, b, rfl⟩
      have hT := T _ rfl
      obtain ⟨ta, ea⟩ := hT a (by simp)
      obtain ⟨tb, eb⟩ := hT b (by simp)
      simp only [List.length_cons, List.length_nil, show (((0 + 1 + 1 : Nat) : Int) = 2) = True by simp]
      walk_at "ev"
      rw [is_whole_ok ea]
      walk_at "ev"
      by_cases q : isInt a = true ∧ isInt b = true
      · obtain ⟨n, d, rfl, rfl⟩ := fr_tup q
        simp only [isInt]
        walk_at "ev"
        rw [is_whole_ok eb]
        simp only [isInt]
        walk_at "ev"
        rw [fr_last fun a b => common_ok a (by omega)]
        walk_at "ev"
        exact gc_same lo_bl
      · rw [isFr_no q]
        cases ha : isInt a
        · simp only [Bool.not_false]
          walk_at "ev"
          exact gc_same lo_bl
        · have hb : isInt b = false := by
            cases hb : isInt b
            · rfl
            · exact (q ⟨ha, hb⟩).elim
          walk_at "ev"
          rw [is_whole_ok eb, hb]
          walk_at "ev"
          exact gc_same lo_bl
    · rw [isFr_len h2]
      simp only [show ((xs.length : Int) = 2) = False by simp; omega]
      walk_at "ev"
      exact gc_same lo_bl
  · rw [isFr_not ht]
    simp only [ty_not e ht]
    walk_at "ev"
    exact gc_same lo_bl


theorem common_pos {a b : Int} (hb : 1 ≤ b) : (0 : Int) < (Int.gcd a b : Int) := by
  have : 0 < Int.gcd a b := Int.gcd_pos_of_ne_zero_right a (by omega)
  omega
theorem fraction_ok {p : Nat} {h : Hd} (q : Pot p h) : ∃ (a : Rat) (h' : Hd), F_fraction [.ref p] h = .ok (FQ a) h' ∧ 0 ≤ a ∧ SzQ 40 a ∧ But p h h' ∧ Pot p h' := by
  simp only [F_fraction, B_fraction]
  walk_at "ev"
  obtain ⟨n, h1, e1, n0, n1, b1, q1⟩ := great_ok q
  rw [e1]
  walk_at "ev"
  obtain ⟨d, h2, e2, d0, d1, b2, q2⟩ := great_ok q1
  rw [e2]
  walk_at "ev"
  generalize hm : (if d > 1 then d else 1) = m
  have m1 : 1 ≤ m ∧ m < 10 ^ 12 := by rw [← hm]; split <;> omega
  have zm : Sz 40 m := Sz.of (by omega) (by omega)
  have zn : Sz 40 n := Sz.of (by omega) (by omega)
  rw [common_ok n0 (by omega)]
  walk_at "ev"
  have gp := common_pos (a := n) m1.1
  have gl : ((Int.gcd n m : Nat) : Int) ≤ m := Int.le_of_dvd (by omega) (Int.gcd_dvd_right n m)
  have zg : Sz 40 ((Int.gcd n m : Nat) : Int) := Sz.of (by omega) (by omega)
  rw [dDiv_ok (DivOk.of gp zg (by decide))]
  walk_at "ev"
  rw [dDiv_ok (DivOk.of gp zg (by decide))]
  walk_at "ev"
  rw [← FQ_divInt m1.1]
  refine ⟨Rat.divInt n m, h2, ?_, divInt_nonneg n0 m1.1, .divInt m1.1 zn zm, b1.trans b2, q2⟩
  have := Pot.gc (g := []) (d := FQ (Rat.divInt n m)) q2 (b1.trans b2) lo_FQ
  rwa [List.append_nil] at this
theorem fraction_fr {p : Nat} {h g : Hd} (q : Pot p h) : ∃ (a : Rat) (h' : Hd), F_fraction [.ref p] (h ++ g) = .ok (FQ a) (h' ++ g) ∧ 0 ≤ a ∧ SzQ 40 a ∧ But p h h' ∧ Pot p h' := by
  obtain ⟨r, h', e, r1, r2, b, q'⟩ := fraction_ok (q.app (g := g))
  obtain ⟨h3, rfl, b3⟩ := b.split q.lt
  exact ⟨r, h3, e, r1, r2, b3, q'.cut (by rw [b3.len]; exact q.lt)⟩

end DL

namespace DL
open PySem PySem.Spec L2
local macro_rules | `(tactic| walk_at "ev") => `(tactic| try simp -implicitDefEqProofs only [ev_T, ev_L, Nat.reduceLeDiff, ev_run, ev_V, ev_C, ev_1, ev_2, ev_B, ev_Tr, ev_tAnd, ev_tOr, ev_tNot, ev_And, ev_Or, ev_Not, ev_If, ev_aN, ev_aC, ev_A, ev_F, ev_M, ev_Sl, ev_oN, ev_oS, asO_int, ev_D0, ev_nil, ev_seq, ev_asg, ev_gN, ev_gsN, ev_gsC, ev_gT, ev_gS, ev_set, ev_ret, ev_retN, ev_expr, ev_if, ev_par2, ev_for, ev_i1, ev_iA,
  Res.bind_ok, b1_ok, b2_ok, bAnd_ok, bOr_ok, bNot_ok, bAndV_ok, bOrV_ok, bNotV_ok, bIf_ok, bC_ok, bC1_ok, bM_ok, bM1_ok, bSl_ok, bSl1_ok, bSl2_ok, kAsg_ok, bG_ok, bS1_ok, bS2_ok, bS3_ok, kSet_ok, kRet_ok, kExp_ok, kIf_ok, kFor_ok, kPar_ok, kPar1_ok, SR.seq_nx, SR.seq_rt, SR.fin_nx, SR.fin_rt, toS_ok, slAt_some, optR_some, asB_bl, asT_bl, dAdd_ii, dSub_ii, dNeg_i, dLt_ii, dGt_ii, dLe_ii, dGe_ii, bMax2_ii, bMin2_ii, bInt_i, bInt_b, bTuple_t, bLen_t, bLen_r, dIx_t, dIx_r, at_0, at_1, at_2, dEq_ii, dNe_ii, dEq_bb, dNe_bb, is_bb, iSeq_t, iSeq_r,
  List.map, List.length_cons, List.length_nil, List.replicate_succ, List.replicate_zero, List.cons_append, List.nil_append, List.append_nil, List.getElem?_cons_zero, List.getElem?_cons_succ, List.set_cons_zero, List.set_cons_succ, Nat.reduceSub, Nat.reduceAdd, Nat.sub_self, Bool.not_true, Bool.not_false, if_true, if_false, reduceIte, Bool.false_eq_true, decide_true, decide_false])
local macro_rules | `(tactic| walk_at "evn") => `(tactic| try simp -implicitDefEqProofs only [List.append_assoc, List.length_append, Nat.add_assoc, get_at, get_at0, ev_T, ev_L, Nat.reduceLeDiff, ev_run, ev_V, ev_C, ev_1, ev_2, ev_B, ev_Tr, ev_tAnd, ev_tOr, ev_tNot, ev_And, ev_Or, ev_Not, ev_If, ev_aN, ev_aC, ev_A, ev_F, ev_M, ev_Sl, ev_oN, ev_oS, asO_int, ev_D0, ev_nil, ev_seq, ev_asg, ev_gN, ev_gsN, ev_gsC, ev_gT, ev_gS, ev_set, ev_ret, ev_retN, ev_expr, ev_if, ev_par2, ev_for, ev_i1, ev_iA,
  Res.bind_ok, b1_ok, b2_ok, bAnd_ok, bOr_ok, bNot_ok, bAndV_ok, bOrV_ok, bNotV_ok, bIf_ok, bC_ok, bC1_ok, bM_ok, bM1_ok, bSl_ok, bSl1_ok, bSl2_ok, kAsg_ok, bG_ok, bS1_ok, bS2_ok, bS3_ok, kSet_ok, kRet_ok, kExp_ok, kIf_ok, kFor_ok, kPar_ok, kPar1_ok, SR.seq_nx, SR.seq_rt, SR.fin_nx, SR.fin_rt, toS_ok, slAt_some, optR_some, asB_bl, asT_bl, dAdd_ii, dSub_ii, dNeg_i, dLt_ii, dGt_ii, dLe_ii, dGe_ii, bMax2_ii, bMin2_ii, bInt_i, bInt_b, bTuple_t, bLen_t, bLen_r, dIx_t, dIx_r, at_0, at_1, at_2, dEq_ii, dNe_ii, dEq_bb, dNe_bb, is_bb, iSeq_t, iSeq_r,
  List.map, List.length_cons, List.length_nil, List.replicate_succ, List.replicate_zero, List.cons_append, List.nil_append, List.append_nil, List.getElem?_cons_zero, List.getElem?_cons_succ, List.set_cons_zero, List.set_cons_succ, Nat.reduceSub, Nat.reduceAdd, Nat.sub_self, Bool.not_true, Bool.not_false, if_true, if_false, reduceIte, Bool.false_eq_true, decide_true, decide_false])
local macro_rules | `(tactic| walk_at "evq") => `(tactic| try simp -implicitDefEqProofs only [ev_gT_FQ, dIx_FQ0, dIx_FQ1, dEq_FQ, dNe_FQ, FQ_01, FQ_11, List.append_assoc, List.length_append, Nat.add_assoc, get_at, get_at0, ev_T, ev_L, Nat.reduceLeDiff, ev_run, ev_V, ev_C, ev_1, ev_2, ev_B, ev_Tr, ev_tAnd, ev_tOr, ev_tNot, ev_And, ev_Or, ev_Not, ev_If, ev_aN, ev_aC, ev_A, ev_F, ev_M, ev_Sl, ev_oN, ev_oS, asO_int, ev_D0, ev_nil, ev_seq, ev_asg, ev_gN, ev_gsN, ev_gsC, ev_gT, ev_gS, ev_set, ev_ret, ev_retN, ev_expr, ev_if, ev_par2, ev_for, ev_i1, ev_iA,
  Res.bind_ok, b1_ok, b2_ok, bAnd_ok, bOr_ok, bNot_ok, bAndV_ok, bOrV_ok, bNotV_ok, bIf_ok, bC_ok, bC1_ok, bM_ok, bM1_ok, bSl_ok, bSl1_ok, bSl2_ok, kAsg_ok, bG_ok, bS1_ok, bS2_ok, bS3_ok, kSet_ok, kRet_ok, kExp_ok, kIf_ok, kFor_ok, kPar_ok, kPar1_ok, SR.seq_nx, SR.seq_rt, SR.fin_nx, SR.fin_rt, toS_ok, slAt_some, optR_some, asB_bl, asT_bl, dAdd_ii, dSub_ii, dNeg_i, dLt_ii, dGt_ii, dLe_ii, dGe_ii, bMax2_ii, bMin2_ii, bInt_i, bInt_b, bTuple_t, bLen_t, bLen_r, dIx_t, dIx_r, at_0, at_1, at_2, dEq_ii, dNe_ii, dEq_bb, dNe_bb, is_bb, iSeq_t, iSeq_r,
  List.map, List.length_cons, List.length_nil, List.replicate_succ, List.replicate_zero, List.cons_append, List.nil_append, List.append_nil, List.getElem?_cons_zero, List.getElem?_cons_succ, List.set_cons_zero, List.set_cons_succ, Nat.reduceSub, Nat.reduceAdd, Nat.sub_self, Bool.not_true, Bool.not_false, if_true, if_false, reduceIte, Bool.false_eq_true, decide_true, decide_false])
local macro_rules | `(tactic| walk_at "evi") => `(tactic| try simp -implicitDefEqProofs (disch := first | (simp only [List.length_cons, List.length_nil, Nat.reduceAdd, Nat.reduceLeDiff]; done) | exact tyM_I | exact tyM_T | decide | omega | assumption) only [lt_FQ, Bool.false_xor, Bool.true_xor, dMul_I, bStr_I, iSeq_I, tyM_I, lsOf_I, dIx_I, mApp_I, dSl_I, bLen_I, bTuple_I, bList_I, dAdd_I, set_at_I, set_at0_I, set_atF_I, bAll_I, iteA_I, iteO_I, iteAV_I, iteOV_I, is_in_I, is_nn_I, is_tn_I, is_sn_I, is_rn_I, is_fn_I, dec_nil_I, dec_rfl_I, dEq_T_I, dNe_T_I, dAdd_T_I, iSeq_T_I, dIn_T_I, dIx_T_I, bLen_T_I, sl0_I, sl1_I, sl2_I, sl3_I, p_fraction_text_I, text_I, k_FIGURES, ev_gT_FQ, dIx_FQ0, dIx_FQ1, dEq_FQ, dNe_FQ, FQ_01, FQ_11, List.append_assoc, List.length_append, Nat.add_assoc, get_at, get_at0, ev_T, ev_L, Nat.reduceLeDiff, ev_run, ev_V, ev_C, ev_1, ev_2, ev_B, ev_Tr, ev_tAnd, ev_tOr, ev_tNot, ev_And, ev_Or, ev_Not, ev_If, ev_aN, ev_aC, ev_A, ev_F, ev_M, ev_Sl, ev_oN, ev_oS, asO_int, ev_D0, ev_nil, ev_seq, ev_asg, ev_gN, ev_gsN, ev_gsC, ev_gT, ev_gS, ev_set, ev_ret, ev_retN, ev_expr, ev_if, ev_par2, ev_for, ev_i1, ev_iA,
  Res.bind_ok, b1_ok, b2_ok, bAnd_ok, bOr_ok, bNot_ok, bAndV_ok, bOrV_ok, bNotV_ok, bIf_ok, bC_ok, bC1_ok, bM_ok, bM1_ok, bSl_ok, bSl1_ok, bSl2_ok, kAsg_ok, bG_ok, bS1_ok, bS2_ok, bS3_ok, kSet_ok, kRet_ok, kExp_ok, kIf_ok, kFor_ok, kPar_ok, kPar1_ok, SR.seq_nx, SR.seq_rt, SR.fin_nx, SR.fin_rt, toS_ok, slAt_some, optR_some, asB_bl, asT_bl, dAdd_ii, dSub_ii, dNeg_i, dLt_ii, dGt_ii, dLe_ii, dGe_ii, bMax2_ii, bMin2_ii, bInt_i, bInt_b, bTuple_t, bLen_t, bLen_r, dIx_t, dIx_r, at_0, at_1, at_2, dEq_ii, dNe_ii, dEq_bb, dNe_bb, is_bb, iSeq_t, iSeq_r,
  List.map, List.length_cons, List.length_nil, List.replicate_succ, List.replicate_zero, List.cons_append, List.nil_append, List.append_nil, List.getElem?_cons_zero, List.getElem?_cons_succ, List.set_cons_zero, List.set_cons_succ, Nat.reduceSub, Nat.reduceAdd, Nat.sub_self, Bool.not_true, Bool.not_false, if_true, if_false, reduceIte, Bool.false_eq_true, decide_true, decide_false])
theorem there_and_back_ok {a : Rat} {h : Hd} [a0 : Fa (0 ≤ a)] [z : ZQ 40 a] : F_there_and_back [FQ a] h = .ok (.bl true) h := by
  have tl := frT_len a0.out z.z
  simp only [F_there_and_back, B_there_and_back]
  walk_at "evi"
  rw [isi_str_T]
  walk_at "evi"
  rw [p_read_fraction_ok a0.out z.z (by decide)]
  walk_at "evi"
  rw [is_fraction_ok typed_FQ, isFr_FQ a0.out]
  walk_at "evi"
  exact gc_same lo_bl
theorem law_true (ns : List Int) (hl : ns.length ≤ 63) (hb : ∀ z ∈ ns, PySem.Builtin.Int.intBits z ≤ 1048576) : ∃ h', F_law [.rol (ns.map D.int)] [] = .ok (.bl true) h' := by
  simp only [F_law, B_law]
  walk_at "evi"
  generalize hm : (if (if (6 : Int) < ((ns.map D.int).length : Nat) then 6 else (((ns.map D.int).length : Nat) : Int)) > 1 then if (6 : Int) < ((ns.map D.int).length : Nat) then 6 else (((ns.map D.int).length : Nat) : Int) else 1) = m
  have m1 := law_len (n := (ns.map D.int).length) (N := 6) (by decide) hm.symm
  rw [iRange1_ok (by unfold Big; omega)]
  walk_at "evi"
  generalize hR : forD _ _ _ _ _ _ = R
  obtain ⟨s', t, rfl, y1, y2, y3, y4, y5, rfl⟩ : ∃ s' t, R = .nx s' ([] ++ t) ∧ ∃ y1 y2 y3 y4 y5, s' = [some (.rol (ns.map D.int)), y1, y2, y3, y4, y5] := by
    rw [← hR]
    refine forD_keep _ _ _ _ ⟨_, _, _, _, _, rfl⟩ (fun _ => trivial) (fun x hx s t ⟨y1, y2, y3, y4, y5, e⟩ => ?_)
    subst e
    obtain ⟨k, hk, rfl⟩ := List.mem_map.mp hx
    have hk' : k < 7 := by
      have := List.mem_range.mp hk
      omega
    refine ⟨_, by walk_at "evi"; rfl, ?_⟩
    generalize [] ++ t = h
    walk_at "evi"
    rw [show (0 : Int) + (k : Int) = (k : Int) by omega]
    obtain ⟨x, y, e1, x0, y0, y1'⟩ := pot_ok (h := h) (k := k) hl hb (by omega)
    rw [e1]
    walk_at "evi"
    have q0 : Pot h.length (h ++ [.lst [.int x, .int y]]) := ⟨x, y, get_at0, x0, y0, y1'⟩
    obtain ⟨a, h1, e2, a0, a1, b1, q1⟩ := great_ok q0
    rw [e2]
    walk_at "evi"
    obtain ⟨b, h2, e3, b0, b1', b2, q2⟩ := great_ok q1
    rw [e3]
    walk_at "evi"
    generalize hb' : (if b > 1 then b else 1) = b'
    have b3 : 1 ≤ b' ∧ b' < 10 ^ 12 := by rw [← hb']; split <;> omega
    generalize hL0 : [FQ 0, FQ 1, D.tup [D.int a, D.int 1], D.tup [D.int 1, D.int b']] = L0
    have gL0 : ∀ x ∈ L0, Gd 40 x := by
      rw [← hL0]
      intro x hx
      simp only [List.mem_cons, List.not_mem_nil, or_false] at hx
      rcases hx with z | z | z | z <;> subst z
      · exact gd_0 (by decide)
      · exact gd_1 (by decide)
      · exact gd_n a0 a1
      · exact gd_d b3.1 b3.2
    have l0 : L0.length = 4 := by rw [← hL0]; rfl
    clear hL0
    obtain ⟨r, h3, e4, r0, r1, b4, q3⟩ := digit_fr (m := 6) (g := [.lst L0]) q2 (by decide) (by decide)
    generalize hE : eLc _ _ _ _ _ _ _ = E
    obtain ⟨L, h4, g4, rfl, gL, lL, b5, q5⟩ : ∃ L h4 g4, E = .ok (.ref (h3.length + 1)) (h4 ++ .lst L :: g4) ∧ (∀ x ∈ L, Gd 40 x) ∧ L.length = (rng 0 (1 + r).toNat).length ∧ But h.length (h3 ++ [.lst L0]) h4 ∧ Pot h.length h4 := by
      rw [← hE]
      have e : h3.length + 1 = (h3 ++ [MO.lst L0]).length := by simp
      rw [e]
      refine eLc_draw (chk := fun _ => True) (Gd 40) (rng 0 (1 + r).toNat) ?_ (fun _ => trivial) (by rw [rng_len]; omega) q3.app (fun x hx acc h' g b q => ?_)
      · walk_at "evi"
        rw [e4]
        walk_at "evi"
        rw [iRange1_ok (by unfold Big; omega)]
      · walk_at "evi"
        obtain ⟨c, h5, e5, c0, cz, b6, q6⟩ := fraction_fr (g := .lst acc :: g) q
        exact ⟨_, _, _, e5, ⟨c, rfl, c0, cz⟩, b6, q6⟩
    clear hE
    rw [rng_len] at lL
    have s2 : h2.length = h3.length := b4.len.symm
    have s4 : h4.length = h3.length + 1 := by rw [b5.len]; simp
    have sh : h2.length = h.length + 1 := by rw [b2.len, b1.len]; simp
    have qL : Ls (h4 ++ .lst L :: g4) (h3.length + 1) L := ⟨by rw [← s4, get_at0]; rfl⟩
    have qL0 : Ls (h4 ++ .lst L :: g4) h2.length L0 := ⟨by
      rw [List.getElem?_append_left (by omega), b5.same _ (by omega), s2, get_new]⟩
    generalize h4 ++ MO.lst L :: g4 = H at qL qL0
    walk_at "evi"
    have gA : ∀ x ∈ L0 ++ L, Gd 40 x := fun x hx => (List.mem_append.mp hx).elim (gL0 x) (gL x)
    have lA : (L0 ++ L).length ≤ 20 := by rw [List.length_append]; omega
    have qA : Ls (H ++ [.lst (L0 ++ L)]) H.length (L0 ++ L) := inferInstance
    generalize L0 ++ L = A at gA lA qA
    generalize H ++ [MO.lst A] = G at qA
    generalize H.length = n at qA
    rw [lc_true A (chk := fun h' => h'[n]? = some (.lst A)) (h1 := G) (by walk_at "evi") (by omega) (fun acc => Ls.chk _) (fun y hy acc => by
      obtain ⟨b, rfl, b0, bz⟩ := gA y hy
      have zb : ZQ 40 b := ⟨bz⟩
      have fb : Fa (0 ≤ b) := ⟨b0⟩
      walk_at "evi"
      rw [there_and_back_ok])]
    walk_at "evi"
    generalize hR : forD _ _ _ _ _ _ = R
    obtain ⟨s', t, rfl, y4, y5, rfl⟩ : ∃ s' t, R = .nx s' ((G ++ [.lst (List.replicate A.length (.bl true))]) ++ t) ∧ ∃ y4 y5, s' = [some (.rol (ns.map D.int)), some (.int k), some (.ref h.length), some (.ref n), y4, y5] := by
      rw [← hR]
      refine forD_keep _ A _ _ ⟨_, _, rfl⟩ (fun t => by rw [List.append_assoc]; exact Ls.chk _) (fun x hx s t ⟨y4, y5, e⟩ => ?_)
      subst e
      obtain ⟨a, rfl, a0, az⟩ := gA x hx
      have za : ZQ 40 a := ⟨az⟩
      have fa : Fa (0 ≤ a) := ⟨a0⟩
      refine ⟨_, by walk_at "evi"; rfl, ?_⟩
      walk_at "evi"
      let f : D → Bool := fun x => @decide (x = FQ a) (Classical.propDecidable _)
      have hf : ∀ b, f (FQ b) = decide (b = a) := fun b => by
        show @decide _ (Classical.propDecidable _) = _
        rw [decide_eq_decide]
        exact ⟨FQ_inj, fun e => by rw [e]⟩
      generalize hH : G ++ MO.lst (List.replicate A.length (D.bl true)) :: t = H
      have qH : Ls H n A := ⟨by rw [← hH]; exact Ls.chk _⟩
      rw [eLc_map (f := fun x => .bl (f x)) (xs := A) (chk := fun h' => h'[n]? = some (.lst A)) (h1 := H) (by walk_at "evi") (Nat.lt_of_le_of_lt lA (by decide +kernel)) (fun acc => Ls.chk _) (fun y hy acc => by
        obtain ⟨b, rfl, b0, bz⟩ := gA y hy
        have zb : ZQ 40 b := ⟨bz⟩
        have fb : Fa (0 ≤ b) := ⟨b0⟩
        walk_at "evi"
        rw [dec_frT b0 a0, hf])]
      walk_at "evi"
      rw [eLc_map (f := fun x => .bl (f x)) (xs := A) (chk := fun h' => h'[n]? = some (.lst A)) (h1 := H ++ [.lst (A.map fun x => .bl (f x))]) (by walk_at "evi") (Nat.lt_of_le_of_lt lA (by decide +kernel)) (fun acc => by rw [List.append_assoc]; exact Ls.chk _) (fun y hy acc => by
        obtain ⟨b, rfl, b0, bz⟩ := gA y hy
        walk_at "evi"
        rw [hf])]
      walk_at "evi"
      have em : A.map (fun x => D.bl (f x)) = (A.map f).map D.bl := by rw [List.map_map]; rfl
      rw [em]
      have en : dNe (.ref H.length) (.ref (H.length + 1)) (H ++ [.lst ((A.map f).map D.bl), .lst ((A.map f).map D.bl)]) = .ok (.bl (true ^^ true)) _ := eqn_bls (neg := true) (bs := A.map f) Ls.q Ls.q
      rw [en]
      walk_at "evi"
      rw [← hH]
      simp only [List.append_assoc, List.cons_append, List.nil_append]
      exact ⟨_, _, rfl, _, _, rfl⟩
    clear hR
    walk_at "evi"
    exact ⟨_, _, rfl, _, _, _, _, _, rfl⟩
  clear hR
  walk_at "evi"
  exact ⟨_, gc_app lo_bl⟩
end DL

open PySem PySem.W PyProof.Rows
set_option maxHeartbeats 0 in
theorem PySem.Challenge.cw_hourstairs_k14_texts_there_and_back_holds : PySem.Challenge.rw_hourstairs_k14_texts_there_and_back.Holds := by
  w_on; o_law; k_head; (case hw => w_witness2)
  k_fill
  refine L2.walk_ofB (l := PySem.Challenge.rw_hourstairs_k14_texts_there_and_back) (n := 63) (k := 4) (x := "_law_script") (CX := fun _ => L2.CX0) (sp := fun w => DL.spD _ 1 DL.F_law) rfl (by decide) rfl ⟨rfl, by decide, by decide⟩ (fun w h Y => PySem.W.kIn_of Y) ?F (fun _ _ _ ns hl hb hO hS => DL.law_sp hO hS (DL.law_true ns hl hb)) (fun _ _ _ _ _ h => h)
  case F =>
    intro w mg fa h KX G hmg
    refine' DL.law_end (DL.topF_mk KX G ?a0 ?l0 ?c0 ?k0 ?a1 ?l1 ?c1 ?k1 ?a2 ?l2 ?c2 ?k2 ?a3 ?l3 ?c3 ?k3 ?a4 ?l4 ?c4 ?k4 ?a5 ?l5 ?c5 ?k5 ?a6 ?l6 ?c6 ?k6 ?a7 ?l7 ?c7 ?k7 ?a8 ?l8 ?c8 ?k8 ?a9 ?l9 ?c9 ?k9 ?a10 ?l10 ?c10 ?k10 ?a11 ?l11 ?c11 ?k11 ?a12 ?l12 ?c12 ?k12 ?a13 ?l13 ?c13 ?k13 ?z_all ?z_divmod ?z_int ?z_isinstance ?z_len ?z_max ?z_min ?z_range ?z_str ?z_tuple ?ca_FIGURES) hmg
    (case a0 => k_is); (case l0 => k_is); (case c0 => k_is); (case k0 => k_is); (case a1 => k_is); (case l1 => k_is); (case c1 => k_is); (case k1 => k_is); (case a2 => k_is); (case l2 => k_is); (case c2 => k_is); (case k2 => k_is); (case a3 => k_is); (case l3 => k_is); (case c3 => k_is); (case k3 => k_is); (case a4 => k_is); (case l4 => k_is); (case c4 => k_is); (case k4 => k_is); (case a5 => k_is); (case l5 => k_is); (case c5 => k_is); (case k5 => k_is); (case a6 => k_is); (case l6 => k_is); (case c6 => k_is); (case k6 => k_is); (case a7 => k_is); (case l7 => k_is); (case c7 => k_is); (case k7 => k_is); (case a8 => k_is); (case l8 => k_is); (case c8 => k_is); (case k8 => k_is); (case a9 => k_is); (case l9 => k_is); (case c9 => k_is); (case k9 => k_is); (case a10 => k_is); (case l10 => k_is); (case c10 => k_is); (case k10 => k_is); (case a11 => k_is); (case l11 => k_is); (case c11 => k_is); (case k11 => k_is); (case a12 => k_is); (case l12 => k_is); (case c12 => k_is); (case k12 => k_is); (case a13 => k_is); (case l13 => k_is); (case c13 => k_is); (case k13 => k_is); (case z_all => k_is); (case z_divmod => k_is); (case z_int => k_is); (case z_isinstance => k_is); (case z_len => k_is); (case z_max => k_is); (case z_min => k_is); (case z_range => k_is); (case z_str => k_is); (case z_tuple => k_is); (case ca_FIGURES => k_is)

