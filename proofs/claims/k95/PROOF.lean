import PyProof.Rows.All
import Wide.All
import OpenK.AllK
import Wide.FinOn
import HandS.ForMost
import HandS.EndBits
import HandS.Wide
import HandS.WideBits
import HandS.IsInst
import HandS.TupAny
import HandS.TupLe
import HandS.Zip
import HandS.Rev
import HandS.Style
import HandS.Deep
import HandS.More
import HandS.Replace
import HandS.Text
import HandS.SortInts
import KE.GoesZip
import KE.GoesMore
import KE.GoesEnum
import KE.KDictZip
import KE.KItemsList
import KE.KUnpack
import HandS.ExcIs
import HandS.WordsExc
import KE.DataMinMax
import HandS.TryOnly
import HandS.Strs
import HandS.SetFor
import HandS.ExcInit
import HandS.ExcField
import HandS.Iter
import HandS.Small
import HandS.Finally
import HandS.DeepEq
import KE.KEqNest
import HandS.SetTxt0
import HandS.Conv
import HandS.SetKeys
import HandS.Star
import HandS.DictTup
import HandS.Keys
import KE.KExcIs
import PySem.Challenge.RW_hourstairs_k95_whole_days
set_option Elab.async false
set_option linter.all false
set_option maxRecDepth 100000
set_option autoImplicit false
set_option maxHeartbeats 4000000
open_top DL_hd for PySem.Challenge.rw_hourstairs_k95_whole_days
namespace DL
open PySem PySem.Spec PyProof.Rows L2
inductive D where
  | non | bl (b : Bool) | int (i : Int) | str (x : Str) | ty (n : String) | tup (xs : List D) | rol (xs : List D) | ref (n : Nat) | con (a : Addr) | exn (a d : Addr) (fs : List Str) (vs : List D)
inductive MO where
  | lst (xs : List D)
  | dK (kvs : List (Key × D))
  | dF (kvs : List (Key × D))
  | dT (kvs : List (List Key × D))
  | dG (kvs : List (List Key × D))
abbrev Hd := List MO
structure XD where
  cls : Value
  fs : Option (List (Str × D))
inductive Res (α : Type) where
  | ok (a : α) (h : Hd)
  | exc (x : XD) (h : Hd)
  | bad
abbrev M (α : Type) := Hd → Res α
abbrev Sl := List (Option D)
abbrev EM := Sl → M D
abbrev TM := Sl → M Bool
abbrev AM := Sl → M (List D)
def Res.bind {α β : Type} (r : Res α) (f : α → Hd → Res β) : Res β := match r with
  | .ok a h => f a h
  | .exc x h => .exc x h
  | .bad => .bad
inductive SR where
  | nx (s : Sl) (h : Hd)
  | rt (d : D) (h : Hd)
  | exc (x : XD) (s : Sl) (h : Hd)
  | bad
abbrev SM := Sl → Hd → SR
section
variable (K : PySem.W.Frag)
def Frz (H : Hp) (a : Addr) (vs : List V) : Prop :=
  (∃ o, H a = some (.frz o (.lst vs))) ∨ ∃ (o : Obj) (its : Array Value) (n : Nat), K.lookup a = some o ∧ o.cls = .type "list" ∧ o.dict = none ∧ o.data = .seq its n ∧ its.size ≤ sizeLine ∧ Vals vs its.toList
theorem Frz.seq {K : PySem.W.Frag} {H : Hp} {a : Addr} {vs : List V} (h : Frz K H a vs) : SqL K H a vs := by
  rcases h with ⟨o, h⟩ | h
  · exact .inl (.inr ⟨o, h⟩)
  · exact .inr h
variable (μ : List Addr) (H : Hp)
mutual
inductive Rep : V → D → Prop
  | non : Rep .non .non
  | bl (b : Bool) : Rep (.bl b) (.bl b)
  | int (i : Int) : Rep (.int i) (.int i)
  | str (x : Str) : Rep (.str x) (.str x)
  | ty (n : String) : Rep (.ty n) (.ty n)
  | tup {a : Addr} {vs : List V} {ds : List D} : SqT K H a vs → RepAll vs ds → Rep (.ref a) (.tup ds)
  | rol {a : Addr} {vs : List V} {ds : List D} : Frz K H a vs → RepAll vs ds → Rep (.ref a) (.rol ds)
  | ref {n : Nat} {a : Addr} : μ[n]? = some a → Rep (.ref a) (.ref n)
  | con (a : Addr) : Rep (.ref a) (.con a)
  | exn {a d : Addr} {fs : List Str} {vs : List V} {ds : List D} : H d = some (.xd (fs.zip vs)) → RepAll vs ds → Rep (.ref a) (.exn a d fs ds)
inductive RepAll : List V → List D → Prop
  | nil : RepAll [] []
  | cons {v : V} {d : D} {vs : List V} {ds : List D} : Rep v d → RepAll vs ds → RepAll (v :: vs) (d :: ds)
end
end
section
variable {K : PySem.W.Frag} {μ μ' μ'' : List Addr} {H H' H'' : Hp}
def Sty : HO → Prop
  | .frz _ _ => True
  | .xd _ => True
  | _ => False
structure Ext (μ : List Addr) (H : Hp) (μ' : List Addr) (H' : Hp) : Prop where
  nums : ∀ (n : Nat) (a : Addr), μ[n]? = some a → μ'[n]? = some a
  tups : ∀ a xs, H a = some (.tup xs) → H' a = some (.tup xs)
  stay : ∀ a o, Sty o → H a = some o → H' a = some o
theorem Ext.frzs (e : Ext μ H μ' H') : ∀ a o xs, H a = some (.frz o (.lst xs)) → H' a = some (.frz o (.lst xs)) := fun a _ _ h => e.stay a _ trivial h
theorem Ext.frzt (e : Ext μ H μ' H') : ∀ a o xs, H a = some (.frz o (.tup xs)) → H' a = some (.frz o (.tup xs)) := fun a _ _ h => e.stay a _ trivial h
theorem Ext.refl : Ext μ H μ H := ⟨fun _ _ h => h, fun _ _ h => h, fun _ _ _ h => h⟩
theorem Ext.trans (a : Ext μ H μ' H') (b : Ext μ' H' μ'' H'') : Ext μ H μ'' H'' :=
  ⟨fun n c h => b.nums n c (a.nums n c h), fun c xs h => b.tups c xs (a.tups c xs h), fun c o y h => b.stay c o y (a.stay c o y h)⟩
theorem Ext.sqt (e : Ext μ H μ' H') {a : Addr} {vs : List V} (h : SqT K H a vs) : SqT K H' a vs := by
  rcases h with (h | ⟨o, h⟩) | h
  · exact .inl (.inl (e.tups _ _ h))
  · exact .inl (.inr ⟨o, e.frzt _ _ _ h⟩)
  · exact .inr h
theorem Ext.frz (e : Ext μ H μ' H') {a : Addr} {vs : List V} (h : Frz K H a vs) : Frz K H' a vs := by
  rcases h with ⟨o, h⟩ | h
  · exact .inl ⟨o, e.frzs _ _ _ h⟩
  · exact .inr h
mutual
theorem Rep.ext {v : V} {d : D} (e : Ext μ H μ' H') : Rep K μ H v d → Rep K μ' H' v d
  | .non => .non
  | .bl b => .bl b
  | .int i => .int i
  | .str x => .str x
  | .ty n => .ty n
  | .tup h r => .tup (e.sqt h) (RepAll.ext e r)
  | .rol h r => .rol (e.frz h) (RepAll.ext e r)
  | .ref h => .ref (e.nums _ _ h)
  | .con a => .con a
  | .exn h r => .exn (e.stay _ _ trivial h) (RepAll.ext e r)
theorem RepAll.ext {vs : List V} {ds : List D} (e : Ext μ H μ' H') : RepAll K μ H vs ds → RepAll K μ' H' vs ds
  | .nil => .nil
  | .cons r t => .cons (Rep.ext e r) (RepAll.ext e t)
end
theorem RepAll.length : ∀ {vs : List V} {ds : List D}, RepAll K μ H vs ds → vs.length = ds.length
  | _, _, .nil => rfl
  | _, _, .cons _ t => by rw [List.length_cons, List.length_cons, RepAll.length t]
theorem RepAll.get : ∀ {vs : List V} {ds : List D} {i : Nat} {d : D}, RepAll K μ H vs ds → ds[i]? = some d → ∃ v, vs[i]? = some v ∧ Rep K μ H v d
  | _, _, _, _, .nil, e => by simp at e
  | _, _, 0, _, .cons r _, e => by simp at e; subst e; exact ⟨_, rfl, r⟩
  | _, _, i + 1, _, .cons _ t, e => by
    obtain ⟨v, h1, h2⟩ := RepAll.get (i := i) t (by simpa using e)
    exact ⟨v, by simpa using h1, h2⟩
theorem RepAll.append : ∀ {vs ws : List V} {ds es : List D}, RepAll K μ H vs ds → RepAll K μ H ws es → RepAll K μ H (vs ++ ws) (ds ++ es)
  | _, _, _, _, .nil, s => s
  | _, _, _, _, .cons r t, s => .cons r (RepAll.append t s)
theorem RepAll.take : ∀ {vs : List V} {ds : List D} (n : Nat), RepAll K μ H vs ds → RepAll K μ H (vs.take n) (ds.take n)
  | _, _, 0, _ => .nil
  | _, _, _ + 1, .nil => .nil
  | _, _, n + 1, .cons r t => .cons r (RepAll.take n t)
theorem RepAll.drop : ∀ {vs : List V} {ds : List D} (n : Nat), RepAll K μ H vs ds → RepAll K μ H (vs.drop n) (ds.drop n)
  | _, _, 0, r => r
  | _, _, _ + 1, .nil => .nil
  | _, _, n + 1, .cons _ t => RepAll.drop n t
theorem RepAll.set {v : V} {d : D} (r : Rep K μ H v d) : ∀ {vs : List V} {ds : List D} (i : Nat), RepAll K μ H vs ds → RepAll K μ H (vs.set i v) (ds.set i d)
  | _, _, _, .nil => .nil
  | _, _, 0, .cons _ t => .cons r t
  | _, _, i + 1, .cons q t => .cons q (RepAll.set r i t)
theorem RepAll.one {v : V} {d : D} (r : Rep K μ H v d) : RepAll K μ H [v] [d] := .cons r .nil
end
def SRel (K : PySem.W.Frag) (μ : List Addr) (H : Hp) (σ : L2.St) (s : Sl) : Prop :=
  σ.length = s.length ∧ ∀ (i : Nat) (d : D), s[i]? = some (some d) → ∃ v, σ[i]? = some (some v) ∧ Rep K μ H v d
inductive KRep {κ : Type} (K : PySem.W.Frag) (μ : List Addr) (H : Hp) : List (κ × V) → List (κ × D) → Prop
  | nil : KRep K μ H [] []
  | cons {k : κ} {v : V} {d : D} {kvs : List (κ × V)} {kds : List (κ × D)} : Rep K μ H v d → KRep K μ H kvs kds → KRep K μ H ((k, v) :: kvs) ((k, d) :: kds)
def MRep (K : PySem.W.Frag) (μ : List Addr) (H : Hp) (a : Addr) : MO → Prop
  | .lst ds => ∃ vs, H a = some (.lst vs) ∧ RepAll K μ H vs ds
  | .dK kds => ∃ kvs, H a = some (.dK kvs) ∧ KRep K μ H kvs kds
  | .dF kds => ∃ o kvs, H a = some (.frz o (.dK kvs)) ∧ KRep K μ H kvs kds
  | .dT kds => ∃ kvs, H a = some (.dT kvs) ∧ KRep K μ H kvs kds
  | .dG kds => ∃ o kvs, H a = some (.frz o (.dT kvs)) ∧ KRep K μ H kvs kds
structure HRel (K : PySem.W.Frag) (μ : List Addr) (H : Hp) (hd : Hd) : Prop where
  len : μ.length = hd.length
  nd : ∀ (n m : Nat) (a : Addr), μ[n]? = some a → μ[m]? = some a → n = m
  obj : ∀ (n : Nat) (a : Addr) (o : MO), μ[n]? = some a → hd[n]? = some o → MRep K μ H a o
section
variable {K : PySem.W.Frag} {μ μ' : List Addr} {H H' : Hp} {hd hd' : Hd}
theorem KRep.ext {κ : Type} (e : Ext μ H μ' H') : ∀ {kvs : List (κ × V)} {kds : List (κ × D)}, KRep K μ H kvs kds → KRep K μ' H' kvs kds
  | _, _, .nil => .nil
  | _, _, .cons r t => .cons (r.ext e) (KRep.ext e t)
theorem SRel.ext {σ : L2.St} {s : Sl} (r : SRel K μ H σ s) (e : Ext μ H μ' H') : SRel K μ' H' σ s := ⟨r.1, fun i d h => by
  obtain ⟨v, h1, h2⟩ := r.2 i d h
  exact ⟨v, h1, h2.ext e⟩⟩
theorem SRel.set {σ : L2.St} {s : Sl} {v : V} {d : D} (i : Nat) (r : SRel K μ H σ s) (q : Rep K μ H v d) : SRel K μ H (σ.set i (some v)) (s.set i (some d)) := ⟨by simp [r.1], fun j e h => by
  by_cases hj : i = j
  · subst hj
    have hl : i < s.length := by
      rcases Nat.lt_or_ge i s.length with z | z
      · exact z
      · rw [List.getElem?_eq_none (by simpa using z)] at h; cases h
    rw [List.getElem?_set_self hl] at h
    cases h
    exact ⟨v, List.getElem?_set_self (by rw [r.1]; exact hl), q⟩
  · rw [List.getElem?_set_ne hj] at h
    obtain ⟨w, h1, h2⟩ := r.2 j e h
    exact ⟨w, by rw [List.getElem?_set_ne hj]; exact h1, h2⟩⟩
theorem MRep.isThere {a : Addr} {o : MO} (m : MRep K μ H a o) : ∃ u, H a = .some u := by
  cases o with
  | lst ds => obtain ⟨vs, h, _⟩ := m; exact ⟨_, h⟩
  | dK ds => obtain ⟨vs, h, _⟩ := m; exact ⟨_, h⟩
  | dF ds => obtain ⟨o, vs, h, _⟩ := m; exact ⟨_, h⟩
  | dT ds => obtain ⟨vs, h, _⟩ := m; exact ⟨_, h⟩
  | dG ds => obtain ⟨o, vs, h, _⟩ := m; exact ⟨_, h⟩
theorem HRel.there (r : HRel K μ H hd) {n : Nat} {a : Addr} (h : μ[n]? = .some a) : ∃ u, H a = .some u := by
  have hl : n < hd.length := by
    rw [← r.len]
    exact (List.getElem?_eq_some_iff.mp h).1
  exact (r.obj n a hd[n] h (List.getElem?_eq_getElem hl)).isThere
theorem HRel.fresh (r : HRel K μ H hd) {p : Addr} (hp : H p = none) {n : Nat} : μ[n]? ≠ .some p := fun h => by
  obtain ⟨u, e⟩ := r.there h
  rw [hp] at e; cases e
theorem Ext.new {p : Addr} {o : HO} (hp : H p = none) : Ext μ H μ (upd H p o) :=
  ⟨fun _ _ h => h, fun a xs h => by rw [upd_ne (ne_of_none h hp)]; exact h, fun a o y h => by rw [upd_ne (ne_of_none h hp)]; exact h⟩
theorem MRep.ext {a : Addr} {o : MO} (m : MRep K μ H a o) (e : Ext μ H μ' H') (h : H' a = H a) : MRep K μ' H' a o := by
  cases o with
  | lst ds => obtain ⟨vs, q, r⟩ := m; exact ⟨vs, h.trans q, r.ext e⟩
  | dK ds => obtain ⟨vs, q, r⟩ := m; exact ⟨vs, h.trans q, r.ext e⟩
  | dF ds => obtain ⟨o, vs, q, r⟩ := m; exact ⟨o, vs, h.trans q, r.ext e⟩
  | dT ds => obtain ⟨vs, q, r⟩ := m; exact ⟨vs, h.trans q, r.ext e⟩
  | dG ds => obtain ⟨o, vs, q, r⟩ := m; exact ⟨o, vs, h.trans q, r.ext e⟩
theorem HRel.new {p : Addr} {o : HO} (r : HRel K μ H hd) (hp : H p = none) : HRel K μ (upd H p o) hd := ⟨r.len, r.nd, fun n a m h1 h2 => by
  have ne : a ≠ p := fun e => r.fresh hp (n := n) (by rw [h1, e])
  exact (r.obj n a m h1 h2).ext (Ext.new hp) (upd_ne ne)⟩
theorem Ext.laid {p : Addr} {o : HO} (hp : H p = none) : Ext μ H (μ ++ [p]) (upd H p o) :=
  ⟨fun n a h => by rw [List.getElem?_append_left (List.getElem?_eq_some_iff.mp h).1]; exact h, (Ext.new (μ := μ) hp).tups, (Ext.new (μ := μ) hp).stay⟩
theorem HRel.laid {p : Addr} {o : HO} {m : MO} (r : HRel K μ H hd) (hp : H p = none) (q : MRep K (μ ++ [p]) (upd H p o) p m) : HRel K (μ ++ [p]) (upd H p o) (hd ++ [m]) := by
  have split : ∀ (n : Nat) (a : Addr), (μ ++ [p])[n]? = some a → (μ[n]? = some a ∧ n < hd.length) ∨ (n = hd.length ∧ a = p) := fun n a h => by
    rcases Nat.lt_or_ge n μ.length with z | z
    · rw [List.getElem?_append_left z] at h
      exact .inl ⟨h, by rw [← r.len]; exact z⟩
    · rw [List.getElem?_append_right z] at h
      rcases Nat.lt_or_ge (n - μ.length) 1 with y | y
      · have e : n = μ.length := by omega
        subst e
        simp at h
        exact .inr ⟨r.len, h.symm⟩
      · rw [List.getElem?_eq_none (by simpa using y)] at h; cases h
  refine ⟨by simp [r.len], fun n k a h1 h2 => ?_, fun n a o h1 h2 => ?_⟩
  · rcases split n a h1 with ⟨x, _⟩ | ⟨x, rfl⟩
    · rcases split k a h2 with ⟨y, _⟩ | ⟨y, rfl⟩
      · exact r.nd n k a x y
      · exact (r.fresh hp x).elim
    · rcases split k _ h2 with ⟨y, _⟩ | ⟨y, _⟩
      · exact (r.fresh hp y).elim
      · rw [x, y]
  · rcases split n a h1 with ⟨x, hl⟩ | ⟨x, rfl⟩
    · rw [List.getElem?_append_left hl] at h2
      have ne : a ≠ p := fun e => r.fresh hp (n := n) (by rw [x, e])
      exact (r.obj n a o x h2).ext (Ext.laid hp) (upd_ne ne)
    · subst x
      rw [List.getElem?_append_right (Nat.le_refl _)] at h2
      simp at h2
      subst h2
      exact q
theorem Ext.write {a : Addr} {o u : HO} (h : H a = some u) (hu : Mut (some u)) : Ext μ H μ (upd H a o) := by
  have ne : ∀ b z, H b = some z → ¬ Mut (some z) → b ≠ a := fun b z q nm e => by subst e; rw [h] at q; cases q; exact nm hu
  exact ⟨fun _ _ h => h, fun b xs q => by rw [upd_ne (ne b _ q (fun z => z))]; exact q, fun b o y q => by rw [upd_ne (ne b _ q (fun z => by cases o <;> first | exact y | exact z))]; exact q⟩
theorem HRel.write {n : Nat} {a : Addr} {o u : HO} {m : MO} (r : HRel K μ H hd) (hn : μ[n]? = some a) (h : H a = some u) (hu : Mut (some u)) (q : MRep K μ (upd H a o) a m) : HRel K μ (upd H a o) (hd.set n m) := by
  refine ⟨by simp [r.len], r.nd, fun k b z h1 h2 => ?_⟩
  by_cases hk : n = k
  · subst hk
    rw [hn] at h1; cases h1
    have hl : n < hd.length := by rw [← r.len]; exact (List.getElem?_eq_some_iff.mp hn).1
    rw [List.getElem?_set_self hl] at h2
    cases h2
    exact q
  · rw [List.getElem?_set_ne hk] at h2
    have ne : b ≠ a := fun e => hk (r.nd n k a hn (by rw [h1, e]))
    exact (r.obj k b z h1 h2).ext (Ext.write h hu) (upd_ne ne)
end
end DL
namespace DL
open PySem PySem.Spec PyProof.Rows L2
abbrev XW := Value → Option Addr → L2.St → Hp → Prop
def W0 : XW := fun _ _ _ _ => False
inductive FRep (K : PySem.W.Frag) (μ : List Addr) (H : Hp) : List (Str × V) → List (Str × D) → Prop
  | nil : FRep K μ H [] []
  | cons {k : Str} {v : V} {d : D} {kvs : List (Str × V)} {kds : List (Str × D)} : Rep K μ H v d → FRep K μ H kvs kds → FRep K μ H ((k, v) :: kvs) ((k, d) :: kds)
def XRel (K : PySem.W.Frag) (μ : List Addr) (H : Hp) (x : XD) (o : Option Addr) : Prop :=
  match x.fs, o with
  | none, none => True
  | some fs, some a => ∃ vs, H a = some (.xd vs) ∧ FRep K μ H vs fs
  | _, _ => False
def FinG {A B : Type} (R : List Addr → Hp → A → B → Prop) (K : PySem.W.Frag) (W : XW) (μ : List Addr) (H : Hp) (σ : L2.St) (r : Res B) (Q : A → Hp → Prop) : Prop :=
  match r with
  | .ok d hd' => ∀ (μ' : List Addr) (H' : Hp) (v : A), Ext μ H μ' H' → HRel K μ' H' hd' → R μ' H' v d → Q v H'
  | .exc x hd' => ∀ (μ' : List Addr) (H' : Hp) (o : Option Addr), Ext μ H μ' H' → HRel K μ' H' hd' → XRel K μ' H' x o → W x.cls o σ H'
  | .bad => False
abbrev RD (K : PySem.W.Frag) : List Addr → Hp → V → D → Prop := fun μ H v d => Rep K μ H v d
abbrev RA (K : PySem.W.Frag) : List Addr → Hp → List V → List D → Prop := fun μ H v d => RepAll K μ H v d
abbrev RB : List Addr → Hp → Bool → Bool → Prop := fun _ _ v d => v = d
def TG' {A B : Type} (R : List Addr → Hp → A → B → Prop) (K : PySem.W.Frag) (W : XW) (m : Sl → M B) (σ : L2.St) (H : Hp) (Q : A → Hp → Prop) : Prop :=
  ∃ (μ : List Addr) (s : Sl) (hd : Hd), SRel K μ H σ s ∧ HRel K μ H hd ∧ FinG R K W μ H σ (m s hd) Q
def TEof (K : PySem.W.Frag) (W : XW) (m : EM) : TE := TG' (RD K) K W m
def TTof (K : PySem.W.Frag) (W : XW) (m : TM) : TT := TG' RB K W m
def TAof (K : PySem.W.Frag) (W : XW) (m : AM) : TA := TG' (RA K) K W m
def FinS (K : PySem.W.Frag) (W : XW) (μ : List Addr) (H : Hp) (r : SR) (D : Ends) : Prop :=
  match r with
  | .nx s' hd' => ∀ (μ' : List Addr) (H' : Hp) (σ' : L2.St), Ext μ H μ' H' → HRel K μ' H' hd' → SRel K μ' H' σ' s' → D.nx σ' H'
  | .rt d hd' => ∀ (μ' : List Addr) (H' : Hp) (v : V), Ext μ H μ' H' → HRel K μ' H' hd' → Rep K μ' H' v d → D.rt v H'
  | .exc x s' hd' => ∀ (μ' : List Addr) (H' : Hp) (σ' : L2.St) (o : Option Addr), Ext μ H μ' H' → HRel K μ' H' hd' → SRel K μ' H' σ' s' → XRel K μ' H' x o → W x.cls o σ' H'
  | .bad => False
def TSof (K : PySem.W.Frag) (W : XW) (m : SM) : TS := fun D σ H => ∃ (μ : List Addr) (s : Sl) (hd : Hd), SRel K μ H σ s ∧ HRel K μ H hd ∧ FinS K W μ H (m s hd) D
structure DE (X : Cx) (W : XW) (e : Expr) (m : EM) : Prop where
  pe : PE X e (TEof X.K W m)
structure DT (X : Cx) (W : XW) (e : Expr) (m : TM) : Prop where
  pt : PT X e (TTof X.K W m)
structure DW (X : Cx) (W : XW) (e : Expr) (m : TM) : Prop where
  pw : PW X e (TTof X.K W m)
structure DA (X : Cx) (W : XW) (es : List Expr) (m : AM) : Prop where
  pa : PA X es (TAof X.K W m)
structure DS (X : Cx) (W : XW) (st : Stmt) (m : SM) : Prop where
  ps : PS X st (TSof X.K W m)
structure DSs (X : Cx) (W : XW) (st : List Stmt) (m : SM) : Prop where
  ps : PSs X st (TSof X.K W m)
section
variable {A B A' B' : Type} {R : List Addr → Hp → A → B → Prop} {R' : List Addr → Hp → A' → B' → Prop} {K : PySem.W.Frag} {W : XW} {μ μ' : List Addr} {H H' : Hp} {σ : L2.St} {r : Res B} {Q Q' : A → Hp → Prop}
theorem FinG.base (f : FinG R K W μ H σ r Q) (e : Ext μ H μ' H') : FinG R K W μ' H' σ r Q := by
  cases r with
  | ok d h => exact fun μ2 H2 v e2 hr rv => f μ2 H2 v (e.trans e2) hr rv
  | exc x h => exact fun μ2 H2 v e2 hr rv => f μ2 H2 v (e.trans e2) hr rv
  | bad => exact f
theorem FinG.imp (f : FinG R K W μ H σ r Q) (h : ∀ v H', Q v H' → Q' v H') : FinG R K W μ H σ r Q' := by
  cases r with
  | ok d h' => exact fun μ2 H2 v e2 hr rv => h _ _ (f μ2 H2 v e2 hr rv)
  | exc x h' => exact f
  | bad => exact f
theorem FinG.bind {k : B → Hd → Res B'} {Q : A' → Hp → Prop} (f : FinG R' K W μ H σ (r.bind k) Q) :
    FinG R K W μ H σ r fun v H1 => ∃ μ1 hd1 d, Ext μ H μ1 H1 ∧ HRel K μ1 H1 hd1 ∧ R μ1 H1 v d ∧ FinG R' K W μ1 H1 σ (k d hd1) Q := by
  cases r with
  | ok d h => exact fun μ2 H2 v e2 hr rv => ⟨μ2, h, d, e2, hr, rv, FinG.base (r := k d h) f e2⟩
  | exc x h => exact f
  | bad => exact f
theorem FinG.ok {d : B} {hd : Hd} {v : A} (f : FinG R K W μ H σ (.ok d hd) Q) (h : HRel K μ H hd) (r : R μ H v d) : Q v H := f μ H v .refl h r
end
theorem FinS.base {K : PySem.W.Frag} {W : XW} {μ μ' : List Addr} {H H' : Hp} {r : SR} {D : Ends} (f : FinS K W μ H r D) (e : Ext μ H μ' H') : FinS K W μ' H' r D := by
  cases r with
  | nx s h => exact fun μ2 H2 v e2 hr rv => f μ2 H2 v (e.trans e2) hr rv
  | rt d h => exact fun μ2 H2 v e2 hr rv => f μ2 H2 v (e.trans e2) hr rv
  | exc x s h => exact fun μ2 H2 v o e2 hr rv => f μ2 H2 v o (e.trans e2) hr rv
  | bad => exact f
theorem PE.imp {X : Cx} {e : Expr} {t t' : TE} (h : PE X e t) (i : ∀ σ H Q, t' σ H Q → t σ H Q) : PE X e t' := ⟨fun pins s σ H Q I q => h.run pins s σ H Q I (i _ _ _ q)⟩
theorem PT.imp {X : Cx} {e : Expr} {t t' : TT} (h : PT X e t) (i : ∀ σ H Q, t' σ H Q → t σ H Q) : PT X e t' := ⟨fun pins s σ H Q I q => h.run pins s σ H Q I (i _ _ _ q)⟩
theorem PW.imp {X : Cx} {e : Expr} {t t' : TT} (h : PW X e t) (i : ∀ σ H Q, t' σ H Q → t σ H Q) : PW X e t' := ⟨fun w pins s σ H Q I q => h.run w pins s σ H Q I (i _ _ _ q)⟩
theorem PA.imp {X : Cx} {e : List Expr} {t t' : TA} (h : PA X e t) (i : ∀ σ H Q, t' σ H Q → t σ H Q) : PA X e t' := ⟨fun p pins s σ H Q I q => h.run p pins s σ H Q I (i _ _ _ q)⟩
theorem PS.imp {X : Cx} {e : Stmt} {t t' : TS} (h : PS X e t) (i : ∀ D σ H, t' D σ H → t D σ H) : PS X e t' := ⟨fun pins s σ H D I q => h.run pins s σ H D I (i _ _ _ q)⟩
theorem PSs.imp {X : Cx} {e : List Stmt} {t t' : TS} (h : PSs X e t) (i : ∀ D σ H, t' D σ H → t D σ H) : PSs X e t' := ⟨fun pins s σ H D I q => h.run pins s σ H D I (i _ _ _ q)⟩
def eV (i : Nat) : EM := fun s h => match s[i]? with
  | some (some d) => .ok d h
  | _ => .bad
def eC (d : D) : EM := fun _ h => .ok d h
def e1 (g : D → M D) (a : EM) : EM := fun s h => (a s h).bind g
def e2 (g : D → D → M D) (a b : EM) : EM := fun s h => (a s h).bind fun x h1 => (b s h1).bind fun y h2 => g x y h2
def asB (d : D) : M Bool := fun h => match d with
  | .bl b => .ok b h
  | _ => .bad
def tB' (a : EM) : TM := fun s h => (a s h).bind asB
def tAnd' (a b : TM) : TM := fun s h => (a s h).bind fun c h1 => if c = true then b s h1 else .ok false h1
def tOr' (a b : TM) : TM := fun s h => (a s h).bind fun c h1 => if c = true then .ok true h1 else b s h1
def tNot' (a : TM) : TM := fun s h => (a s h).bind fun c h1 => .ok (!c) h1
def eAnd (a b : EM) : EM := fun s h => (a s h).bind fun x h1 => (asB x h1).bind fun c h1 => if c = true then b s h1 else .ok (.bl false) h1
def eNot (a : EM) : EM := fun s h => (a s h).bind fun x h1 => (asB x h1).bind fun c h1 => .ok (.bl (!c)) h1
def eIf (t : TM) (a b : EM) : EM := fun s h => (t s h).bind fun c h1 => if c = true then a s h1 else b s h1
def aN : AM := fun _ h => .ok [] h
def aC (a : EM) (r : AM) : AM := fun s h => (a s h).bind fun x h1 => (r s h1).bind fun xs h2 => .ok (x :: xs) h2
def eA (g : List D → M D) (a : AM) : EM := fun s h => (a s h).bind g
def mkT (ds : List D) : M D := fun h => if ds.length ≤ sizeLine then .ok (.tup ds) h else .bad
def mkL (ds : List D) : M D := fun h => if ds.length ≤ sizeLine then .ok (.ref h.length) (h ++ [.lst ds]) else .bad
section
variable {X : Cx} {W : XW} {a b : Expr} {ma mb : EM} {pos : Pos}
theorem de_var (i : Nat) {x : Str} (hN : X.N[i]? = some x := by rfl) (hv : Vis X.env.scope x := by first | exact Or.inl rfl | exact Or.inr (Or.inl rfl) | exact Or.inr (Or.inr rfl)) (hd : (x == ("__debug__" : Str)) = false := by decide)
    (hcd : (x == ("__classdict__" : Str)) = false := by decide) : DE X W (.Name x pos) (eV i) := ⟨PE.imp (pe_var hN hv hd hcd) fun σ H Q ⟨μ, s, hd, sr, hr, f⟩ => by
  unfold eV at f
  split at f
  · rename_i d e
    obtain ⟨v, e1, rv⟩ := sr.2 i d e
    exact ⟨v, e1, f.ok hr rv⟩
  · exact f.elim⟩
theorem de_c {e : Expr} {v : V} {d : D} (h : PE X e (tC v)) (r : ∀ μ H, Rep X.K μ H v d) : DE X W e (eC d) := ⟨PE.imp h fun σ H Q ⟨μ, s, hd, sr, hr, f⟩ => FinG.ok f hr (r μ H)⟩
theorem de_int {i j} : DE X W (.Constant (.int i) j pos) (eC (.int i)) := de_c pe_int fun _ _ => .int i
theorem de_bl {i j} : DE X W (.Constant (.bool i) j pos) (eC (.bl i)) := de_c pe_bl fun _ _ => .bl i
theorem de_str {i j} : DE X W (.Constant (.str i) j pos) (eC (.str i)) := de_c pe_str fun _ _ => .str i
theorem de_non {j} : DE X W (.Constant .none j pos) (eC .non) := de_c pe_non fun _ _ => .non
def Lift2 (K : PySem.W.Frag) (r : R2) (g : D → D → M D) : Prop := ∀ (μ : List Addr) (H : Hp) (hd : Hd) (x y : V) (dx dy : D) (W : XW) (σ : L2.St) (Q : VK), HRel K μ H hd → Rep K μ H x dx → Rep K μ H y dy → FinG (RD K) K W μ H σ (g dx dy hd) Q → r x y H Q
theorem de_2' {e : Expr} {r : R2} {g : D → D → M D} (l : Lift2 X.K r g) (ha : DE X W a ma) (hb : DE X W b mb) (h : PE X e (tOp r (TEof X.K W ma) (TEof X.K W mb))) : DE X W e (e2 g ma mb) := ⟨PE.imp h fun σ H Q ⟨μ, s, hd, sr, hr, f⟩ => by
  refine ⟨μ, s, hd, sr, hr, (FinG.bind f).imp ?_⟩
  rintro x H1 ⟨μ1, hd1, dx, e1, hr1, rx, f1⟩
  refine ⟨μ1, s, hd1, sr.ext e1, hr1, (FinG.bind f1).imp ?_⟩
  rintro y H2 ⟨μ2, hd2, dy, e2, hr2, ry, f2⟩
  exact l μ2 H2 hd2 x y dx dy W σ Q hr2 (rx.ext e2) ry f2⟩
theorem de_op {op : Operator} {r : R2} {g : D → D → M D} (o : OpR X (binaryOp op) r) (l : Lift2 X.K r g) (ha : DE X W a ma) (hb : DE X W b mb) : DE X W (.BinOp a op b pos) (e2 g ma mb) := de_2' l ha hb (pe_op o ha.pe hb.pe)
theorem de_cmp {op : CmpOp} {r : R2} {g : D → D → M D} (o : OpR X (compareOp op) r) (l : Lift2 X.K r g) (ha : DE X W a ma) (hb : DE X W b mb) (hm : behindInMarks op b = false := by first | exact nobehind _ (by decide) (by decide) | rfl) : DE X W (.Compare a [op] [b] pos) (e2 g ma mb) := de_2' l ha hb (pe_cmpR o ha.pe hb.pe hm)
theorem de_ix {r : R2} {g : D → D → M D} (o : IxR X r) (l : Lift2 X.K r g) (ha : DE X W a ma) (hb : DE X W b mb) (hs : PlainIx b := by exact fun _ _ => rfl) : DE X W (.Subscript a b pos) (e2 g ma mb) := de_2' l ha hb (pe_ix o ha.pe hb.pe hs)
theorem tof_B {σ : L2.St} {H : Hp} {Q : Bool → Hp → Prop} (h : TTof X.K W (tB' ma) σ H Q) : TEof X.K W ma σ H fun x H' => ∃ k, x = .bl k ∧ Q k H' := by
  obtain ⟨μ, s, hd, sr, hr, f⟩ := h
  refine ⟨μ, s, hd, sr, hr, (FinG.bind f).imp ?_⟩
  rintro x H1 ⟨μ1, hd1, dx, e1, hr1, rx, f1⟩
  cases rx with
  | bl k => exact ⟨k, rfl, f1.ok hr1 rfl⟩
  | _ => exact f1.elim
theorem dt_cmp {op : CmpOp} {r : R2} {g : D → D → M D} (o : OpR X (compareOp op) r) (l : Lift2 X.K r g) (ha : DE X W a ma) (hb : DE X W b mb) (hm : behindInMarks op b = false := by first | exact nobehind _ (by decide) (by decide) | rfl) : DT X W (.Compare a [op] [b] pos) (tB' (e2 g ma mb)) := ⟨PT.imp (pt_cmpR o ha.pe hb.pe hm) fun σ H Q h => by
  obtain ⟨μ, s, hd, sr, hr, f⟩ := h
  have f' := FinG.bind (R := RD X.K) (k := asB) f
  refine ⟨μ, s, hd, sr, hr, (FinG.bind f').imp ?_⟩
  rintro x H1 ⟨μ1, hd1, dx, e1, hr1, rx, f1⟩
  refine ⟨μ1, s, hd1, sr.ext e1, hr1, (FinG.bind f1).imp ?_⟩
  rintro y H2 ⟨μ2, hd2, dy, e2, hr2, ry, f2⟩
  refine l μ2 H2 hd2 x y dx dy W σ _ hr2 (rx.ext e2) ry (f2.imp ?_)
  rintro z H3 ⟨μ3, hd3, dz, e3, hr3, rz, f3⟩
  cases rz with
  | bl k => exact ⟨k, rfl, f3.ok hr3 rfl⟩
  | _ => exact f3.elim⟩
variable {ta tb : TM} {rest : List Expr}
theorem dw_and1 (h : DT X W a ta) : DW X W (.BoolOp .And [a] pos) ta := ⟨pw_and1 h.pt⟩
theorem dw_or1 (h : DT X W a ta) : DW X W (.BoolOp .Or [a] pos) ta := ⟨pw_or1 h.pt⟩
theorem dw_and (h : DT X W a ta) (q : DW X W (.BoolOp .And (b :: rest) pos) tb) : DW X W (.BoolOp .And (a :: b :: rest) pos) (tAnd' ta tb) := ⟨PW.imp (pw_and h.pt q.pw) fun σ H Q ⟨μ, s, hd, sr, hr, f⟩ => by
  refine ⟨μ, s, hd, sr, hr, (FinG.bind f).imp ?_⟩
  rintro x H1 ⟨μ1, hd1, dx, e1, hr1, rfl, f1⟩
  cases x with
  | true => exact ⟨μ1, s, hd1, sr.ext e1, hr1, f1⟩
  | false => exact FinG.ok f1 hr1 rfl⟩
theorem dw_or (h : DT X W a ta) (q : DW X W (.BoolOp .Or (b :: rest) pos) tb) : DW X W (.BoolOp .Or (a :: b :: rest) pos) (tOr' ta tb) := ⟨PW.imp (pw_or h.pt q.pw) fun σ H Q ⟨μ, s, hd, sr, hr, f⟩ => by
  refine ⟨μ, s, hd, sr, hr, (FinG.bind f).imp ?_⟩
  rintro x H1 ⟨μ1, hd1, dx, e1, hr1, rfl, f1⟩
  cases x with
  | false => exact ⟨μ1, s, hd1, sr.ext e1, hr1, f1⟩
  | true => exact FinG.ok f1 hr1 rfl⟩
theorem dt_w {e : Expr} {t : TM} (h : DW X W e t) : DT X W e t := ⟨h.pw.pt⟩
theorem dt_not (h : DT X W a ta) : DT X W (.UnaryOp .Not a pos) (tNot' ta) := ⟨PT.imp (pt_not h.pt) fun σ H Q ⟨μ, s, hd, sr, hr, f⟩ => by
  refine ⟨μ, s, hd, sr, hr, (FinG.bind f).imp ?_⟩
  rintro x H1 ⟨μ1, hd1, dx, e1, hr1, rfl, f1⟩
  exact FinG.ok f1 hr1 rfl⟩
theorem de_one {op} (h : DE X W a ma) : DE X W (.BoolOp op [a] pos) ma := ⟨pe_one h.pe⟩
theorem de_and (h : DE X W a ma) (q : DE X W (.BoolOp .And (b :: rest) pos) mb) : DE X W (.BoolOp .And (a :: b :: rest) pos) (eAnd ma mb) := ⟨PE.imp (pe_and h.pe q.pe) fun σ H Q ⟨μ, s, hd, sr, hr, f⟩ => by
  refine ⟨μ, s, hd, sr, hr, (FinG.bind f).imp ?_⟩
  rintro x H1 ⟨μ1, hd1, dx, e1, hr1, rx, f1⟩
  cases rx with
  | bl k =>
    refine ⟨k, rfl, ?_⟩
    cases k with
    | true => exact ⟨μ1, s, hd1, sr.ext e1, hr1, f1⟩
    | false => exact FinG.ok (R := RD X.K) f1 hr1 (.bl false)
  | _ => exact f1.elim⟩
theorem de_not (h : DE X W a ma) : DE X W (.UnaryOp .Not a pos) (eNot ma) := ⟨PE.imp (pe_not h.pe) fun σ H Q ⟨μ, s, hd, sr, hr, f⟩ => by
  refine ⟨μ, s, hd, sr, hr, (FinG.bind f).imp ?_⟩
  rintro x H1 ⟨μ1, hd1, dx, e1, hr1, rx, f1⟩
  cases rx with
  | bl k => exact ⟨k, rfl, FinG.ok (R := RD X.K) f1 hr1 (.bl _)⟩
  | _ => exact f1.elim⟩
theorem de_if {c : Expr} (hc : DT X W c ta) (ha : DE X W a ma) (hb : DE X W b mb) : DE X W (.IfExp c a b pos) (eIf ta ma mb) := ⟨PE.imp (pe_ifExp hc.pt ha.pe hb.pe) fun σ H Q ⟨μ, s, hd, sr, hr, f⟩ => by
  refine ⟨μ, s, hd, sr, hr, (FinG.bind f).imp ?_⟩
  rintro x H1 ⟨μ1, hd1, dx, e1, hr1, rfl, f1⟩
  cases x with
  | true => exact ⟨μ1, s, hd1, sr.ext e1, hr1, f1⟩
  | false => exact ⟨μ1, s, hd1, sr.ext e1, hr1, f1⟩⟩
variable {es : List Expr} {mr : AM}
theorem da_nil : DA X W [] aN := ⟨PA.imp pa_nil fun σ H Q ⟨μ, s, hd, sr, hr, f⟩ => FinG.ok (R := RA X.K) f hr .nil⟩
theorem da_cons (ha : DE X W a ma) (hr : DA X W es mr) (hs : starEach (a :: es) X.env = (false, eval a X.env) :: starEach es X.env := by rfl) : DA X W (a :: es) (aC ma mr) := ⟨PA.imp (pa_cons ha.pe hr.pa hs) fun σ H Q ⟨μ, s, hd, sr, hr, f⟩ => by
  refine ⟨μ, s, hd, sr, hr, (FinG.bind f).imp ?_⟩
  rintro x H1 ⟨μ1, hd1, dx, e1, hr1, rx, f1⟩
  refine ⟨μ1, s, hd1, sr.ext e1, hr1, (FinG.bind f1).imp ?_⟩
  rintro y H2 ⟨μ2, hd2, dy, e2, hr2, ry, f2⟩
  exact FinG.ok (R := RA X.K) f2 hr2 (.cons (rx.ext e2) ry)⟩
def LiftN (K : PySem.W.Frag) (r : List V → Hp → VK → Prop) (g : List D → M D) : Prop := ∀ (μ : List Addr) (H : Hp) (hd : Hd) (xs : List V) (dx : List D) (W : XW) (σ : L2.St) (Q : VK), HRel K μ H hd → RepAll K μ H xs dx → FinG (RD K) K W μ H σ (g dx hd) Q → r xs H Q
theorem de_A {e : Expr} {r : List V → Hp → VK → Prop} {g : List D → M D} (l : LiftN X.K r g) (h : PE X e fun σ H Q => TAof X.K W mr σ H fun vs H1 => r vs H1 Q) : DE X W e (eA g mr) := ⟨PE.imp h fun σ H Q ⟨μ, s, hd, sr, hr, f⟩ => by
  refine ⟨μ, s, hd, sr, hr, (FinG.bind f).imp ?_⟩
  rintro x H1 ⟨μ1, hd1, dx, e1, hr1, rx, f1⟩
  exact l μ1 H1 hd1 x dx W σ Q hr1 rx f1⟩
theorem lift_mkT {K : PySem.W.Frag} : LiftN K (fun xs H Q => xs.length ≤ sizeLine ∧ ∀ p, H p = none → Q (.ref p) (upd H p (.tup xs))) mkT := fun μ H hd xs dx W σ Q hr rx f => by
  unfold mkT at f
  split at f
  · rename_i hl
    exact ⟨by rw [rx.length]; exact hl, fun p hp => f μ _ _ (Ext.new hp) (hr.new hp) (.tup (.inl (.inl upd_same)) (rx.ext (Ext.new hp)))⟩
  · exact f.elim
theorem lift_mkL {K : PySem.W.Frag} : LiftN K (fun xs H Q => xs.length ≤ sizeLine ∧ ∀ p, H p = none → Q (.ref p) (upd H p (.lst xs))) mkL := fun μ H hd xs dx W σ Q hr rx f => by
  unfold mkL at f
  split at f
  · rename_i hl
    refine ⟨by rw [rx.length]; exact hl, fun p hp => f (μ ++ [p]) _ _ (Ext.laid hp) (hr.laid hp ⟨xs, upd_same, rx.ext (Ext.laid hp)⟩) (.ref ?_)⟩
    rw [← hr.len, List.getElem?_append_right (Nat.le_refl _)]
    simp
  · exact f.elim
theorem de_tup {k : Nat} (h : DA X W es mr) : DE X W (.Tuple es k pos) (eA mkT mr) := de_A lift_mkT (pe_tup h.pa)
theorem de_lst (h : DA X W es mr) : DE X W (.List es pos) (eA mkL mr) := de_A lift_mkL (pe_lst h.pa)
theorem de_bt {id : String} {r : List V → Hp → VK → Prop} {g : List D → M D} {x : Str} {e : Expr} {p : Pos} (hc : CallR X (.builtin id) r) (l : LiftN X.K r g) (hm : X.mg x = none) (ha : DA X W (e :: es) mr) (hg : Gl X x := by rfl) (hv : bootBuiltins x = some (.builtin id) := by decide +kernel) (hn : x ≠ "__name__" := by decide) (hdb : (x == ("__debug__" : Str)) = false := by decide)
    (he : starEach (e :: es) X.env = (false, eval e X.env) :: starEach es X.env := by rfl) (hpl : (backTo pos (starEach es X.env)).any (·.1) = false := by rfl) : DE X W (.Call (.Name x p) (e :: es) [] pos) (eA g mr) := de_A l (pe_callB hc hg hm hv ha.pa hn hdb he hpl)
theorem de_ty {T : String} {r : List V → Hp → VK → Prop} {g : List D → M D} {x : Str} {e : Expr} {p : Pos} (hc : CallR X (.type T) r) (l : LiftN X.K r g) (hm : X.mg x = none) (ha : DA X W (e :: es) mr) (hg : Gl X x := by rfl) (hv : bootBuiltins x = some (.type T) := by decide +kernel) (hn : x ≠ "__name__" := by decide) (hdb : (x == ("__debug__" : Str)) = false := by decide)
    (he : starEach (e :: es) X.env = (false, eval e X.env) :: starEach es X.env := by rfl) (hpl : (backTo pos (starEach es X.env)).any (·.1) = false := by rfl) : DE X W (.Call (.Name x p) (e :: es) [] pos) (eA g mr) := de_A l (pe_callTy hc hg hm hv ha.pa hn hdb he hpl)
def spD (K : PySem.W.Frag) (n : Nat) (F : List D → M D) : Sp := fun vs H Q E => ∃ (μ : List Addr) (hd : Hd) (ds : List D), HRel K μ H hd ∧ RepAll K μ H vs ds ∧ ds.length = n ∧ FinG (RD K) K (fun c o _ H' => E c o H') μ H [] (F ds hd) Q
def eF (n : Nat) (F : List D → M D) : List D → M D := fun ds h => if ds.length = n then F ds h else .bad
theorem FinG.w0 {A B : Type} {R : List Addr → Hp → A → B → Prop} {K : PySem.W.Frag} {μ : List Addr} {H : Hp} {σ σ' : L2.St} {r : Res B} {Q : A → Hp → Prop} (f : FinG R K W0 μ H σ r Q) : FinG R K (fun c o _ H' => E0 c o H') μ H σ' r Q := by
  cases r with
  | ok d h => exact f
  | exc x h => exact f
  | bad => exact f
theorem de_call {n k : Nat} {F : List D → M D} {f : Addr} {fd : FuncData} {ps : List Str} {x : Str} {e : Expr} {p : Pos} (G : FnOk X.prog X.w X.K X.mg X.base CX0 k f fd ps (spD X.K n F)) (hr : Room k X.A) (hm : X.mg x = some (.ref f)) (hk : PySem.W.keepIn X.K (.ref f) = true) (hb : Binds X.K fd ps []) (ha : DA X W0 (e :: es) mr)
    (hg : Gl X x := by rfl) (hdb : (x == ("__debug__" : Str)) = false := by decide) (he : starEach (e :: es) X.env = (false, eval e X.env) :: starEach es X.env := by rfl) (hpl : (backTo pos (starEach es X.env)).any (·.1) = false := by rfl) : DE X W0 (.Call (.Name x p) (e :: es) [] pos) (eA (eF n F) mr) :=
  ⟨PE.imp (pe_call G hr hg hm hk hb .nil pass0 ha.pa hdb he hpl) fun σ H Q ⟨μ, s, hd, sr, hr, f⟩ => by
  refine ⟨μ, s, hd, sr, hr, (FinG.bind f).imp ?_⟩
  rintro vs H1 ⟨μ1, hd1, dx, e1, hr1, rx, f1⟩
  unfold eF at f1
  split at f1
  · rename_i hl
    exact ⟨μ1, hd1, dx, hr1, by rw [List.append_nil]; exact rx, hl, f1.w0⟩
  · exact f1.elim⟩
end
end DL
namespace DL
open PySem PySem.Spec PyProof.Rows L2
abbrev GM := D → Sl → Hd → Res Sl
abbrev GMs := List D → Sl → Hd → Res Sl
abbrev RS (K : PySem.W.Frag) : List Addr → Hp → L2.St → Sl → Prop := fun μ H σ s => SRel K μ H σ s
def Res.thenS {B : Type} (r : Res B) (s : Sl) (k : B → Hd → SR) : SR := match r with
  | .ok d h => k d h
  | .exc x h => .exc x s h
  | .bad => .bad
def TGof (K : PySem.W.Frag) (g : GM) : TG := fun v σ H Q => ∃ (μ : List Addr) (s : Sl) (hd : Hd) (d : D), SRel K μ H σ s ∧ HRel K μ H hd ∧ Rep K μ H v d ∧ FinG (RS K) K W0 μ H σ (g d s hd) Q
def TGsof (K : PySem.W.Frag) (g : GMs) : TGs := fun v σ H Q => ∃ (μ : List Addr) (s : Sl) (hd : Hd) (d : List D), SRel K μ H σ s ∧ HRel K μ H hd ∧ RepAll K μ H v d ∧ FinG (RS K) K W0 μ H σ (g d s hd) Q
structure DG (X : Cx) (e : Expr) (m : GM) : Prop where
  pg : PG X e (TGof X.K m)
structure DGs (X : Cx) (e : List Expr) (m : GMs) : Prop where
  pg : PGs X e (TGsof X.K m)
theorem PG.imp {X : Cx} {e : Expr} {t t' : TG} (h : PG X e t) (i : ∀ v σ H Q, t' v σ H Q → t v σ H Q) : PG X e t' := ⟨fun pins s σ H v u Q I r q => h.run pins s σ H v u Q I r (i _ _ _ _ q)⟩
theorem PGs.imp {X : Cx} {e : List Expr} {t t' : TGs} (h : PGs X e t) (i : ∀ v σ H Q, t' v σ H Q → t v σ H Q) : PGs X e t' := ⟨fun pins s σ H v u Q I r q => h.run pins s σ H v u Q I r (i _ _ _ _ q)⟩
theorem FinS.bind {A B : Type} {R : List Addr → Hp → A → B → Prop} {K : PySem.W.Frag} {W : XW} {μ : List Addr} {H : Hp} {σ : L2.St} {s : Sl} {r : Res B} {k : B → Hd → SR} {D : Ends} (f : FinS K W μ H (r.thenS s k) D) (sr : SRel K μ H σ s) :
    FinG R K W μ H σ r fun v H1 => ∃ μ1 hd1 d, Ext μ H μ1 H1 ∧ HRel K μ1 H1 hd1 ∧ R μ1 H1 v d ∧ SRel K μ1 H1 σ s ∧ FinS K W μ1 H1 (k d hd1) D := by
  cases r with
  | ok d h => exact fun μ2 H2 v e2 hr rv => ⟨μ2, h, d, e2, hr, rv, sr.ext e2, FinS.base (r := k d h) f e2⟩
  | exc x h => exact fun μ2 H2 o e2 hr rv => f μ2 H2 σ o e2 hr (sr.ext e2) rv
  | bad => exact f
theorem FinS.nx {K : PySem.W.Frag} {W : XW} {μ : List Addr} {H : Hp} {σ : L2.St} {s : Sl} {hd : Hd} {D : Ends} (f : FinS K W μ H (.nx s hd) D) (hr : HRel K μ H hd) (sr : SRel K μ H σ s) : D.nx σ H := f μ H σ .refl hr sr
theorem FinS.rt {K : PySem.W.Frag} {W : XW} {μ : List Addr} {H : Hp} {v : V} {d : DL.D} {hd : Hd} {D : Ends} (f : FinS K W μ H (.rt d hd) D) (hr : HRel K μ H hd) (sr : Rep K μ H v d) : D.rt v H := f μ H v .refl hr sr
def sNil : SM := fun s h => .nx s h
def SR.seq (r : SR) (b : SM) : SR := match r with
  | .nx s1 h1 => b s1 h1
  | .rt d h1 => .rt d h1
  | .exc x s1 h1 => .exc x s1 h1
  | .bad => .bad
def sSeq (a b : SM) : SM := fun s h => (a s h).seq b
def Res.toS (r : Res Sl) : SR := match r with
  | .ok s1 h2 => .nx s1 h2
  | _ => .bad
def sAsg (e : EM) (g : GM) : SM := fun s h => (e s h).thenS s fun d h1 => (g d s h1).toS
def gN (i : Nat) : GM := fun d s h => .ok (s.set i (some d)) h
def gsN : GMs := fun ds s h => match ds with
  | [] => .ok s h
  | _ => .bad
def gsC (g : GM) (gs : GMs) : GMs := fun ds s h => match ds with
  | d :: r => (g d s h).bind fun s1 h1 => gs r s1 h1
  | [] => .bad
def gT (n : Nat) (gs : GMs) : GM := fun d s h => match d with
  | .tup ds => if ds.length = n then gs ds s h else .bad
  | _ => .bad
def gS (o i : EM) (set : D → D → D → Hd → Res Unit) : GM := fun d s h => (o s h).bind fun x h1 => (i s h1).bind fun y h2 => (set x y d h2).bind fun _ h3 => .ok s h3
def sSet (i : Nat) (e : EM) : SM := sAsg e (gN i)
def sRet (e : EM) : SM := fun s h => (e s h).thenS s fun d h1 => .rt d h1
def sExpr (e : EM) : SM := fun s h => (e s h).thenS s fun _ h1 => .nx s h1
def sIf (t : TM) (a b : SM) : SM := fun s h => (t s h).thenS s fun c h1 => if c = true then a s h1 else b s h1
def sPar (i j : Nat) (a : AM) : SM := fun s h => (a s h).thenS s fun ds h1 => match ds with
  | [x, y] => .nx ((s.set i (some x)).set j (some y)) h1
  | _ => .bad
def whN (t : TM) (b : SM) : Nat → Sl → Hd → Option SR
  | 0, _, _ => none
  | n + 1, s, h => match t s h with
    | .ok true h1 => (match b s h1 with
      | .nx s2 h2 => whN t b n s2 h2
      | r => some r)
    | .ok false h1 => some (.nx s h1)
    | .exc x h1 => some (.exc x s h1)
    | .bad => some .bad
open Classical in
noncomputable def sWhile (t : TM) (b : SM) : SM := fun s h => if q : ∃ n r, whN t b n s h = some r then (Classical.choose_spec q).choose else .bad
theorem whN_mono {t : TM} {b : SM} : ∀ {n : Nat} {s : Sl} {h : Hd} {r : SR}, whN t b n s h = some r → whN t b (n + 1) s h = some r
  | 0, _, _, _, e => by cases e
  | n + 1, s, h, r, e => by
    unfold whN at e ⊢
    split
    · rename_i h1 q
      rw [q] at e
      simp only at e
      split
      · rename_i s2 h2 q2
        rw [q2] at e
        exact whN_mono e
      · rename_i q2
        split at e
        · rename_i s2 h2 q3
          exact (q2 _ _ q3).elim
        · exact e
    · rename_i h1 q
      rw [q] at e
      exact e
    · rename_i x h1 q
      rw [q] at e
      exact e
    · rename_i q
      rw [q] at e
      exact e
theorem whN_le {t : TM} {b : SM} {n : Nat} {s : Sl} {h : Hd} {r : SR} (e : whN t b n s h = some r) : ∀ k, whN t b (n + k) s h = some r
  | 0 => e
  | k + 1 => whN_mono (whN_le e k)
theorem sWhile_of {t : TM} {b : SM} {n : Nat} {s : Sl} {h : Hd} {r : SR} (e : whN t b n s h = some r) : sWhile t b s h = r := by
  unfold sWhile
  have q : ∃ n r, whN t b n s h = some r := ⟨n, r, e⟩
  rw [dif_pos q]
  have q2 := (Classical.choose_spec q).choose_spec
  have e1 := whN_le e (Classical.choose q)
  have e2 := whN_le q2 n
  rw [Nat.add_comm] at e2
  exact Option.some.inj (e2.symm.trans e1)
theorem sWhile_none {t : TM} {b : SM} {s : Sl} {h : Hd} (e : ∀ n, whN t b n s h = none) : sWhile t b s h = .bad := by
  unfold sWhile
  rw [dif_neg]
  rintro ⟨n, r, q⟩
  rw [e n] at q; cases q
theorem sWhile_eq {t : TM} {b : SM} {s : Sl} {h : Hd} : sWhile t b s h = (t s h).thenS s fun c h1 => if c = true then sSeq b (sWhile t b) s h1 else .nx s h1 := by
  cases q : t s h with
  | bad => exact sWhile_of (n := 1) (by unfold whN; rw [q]; rfl)
  | exc x h1 => exact sWhile_of (n := 1) (by unfold whN; rw [q]; rfl)
  | ok c h1 =>
    cases c with
    | false => exact sWhile_of (n := 1) (by unfold whN; rw [q]; rfl)
    | true =>
      show sWhile t b s h = sSeq b (sWhile t b) s h1
      unfold sSeq SR.seq
      cases q2 : b s h1 with
      | bad => exact sWhile_of (n := 1) (by unfold whN; rw [q]; simp only; rw [q2])
      | rt d h2 => exact sWhile_of (n := 1) (by unfold whN; rw [q]; simp only; rw [q2])
      | exc x s2 h2 => exact sWhile_of (n := 1) (by unfold whN; rw [q]; simp only; rw [q2])
      | nx s2 h2 =>
        simp only
        by_cases z : ∃ n r, whN t b n s2 h2 = some r
        · obtain ⟨n, r, z⟩ := z
          rw [sWhile_of z]
          exact sWhile_of (n := n + 1) (by unfold whN; rw [q]; simp only; rw [q2]; exact z)
        · have z' : ∀ n, whN t b n s2 h2 = none := fun n => by
            cases y : whN t b n s2 h2 with
            | none => rfl
            | some r => exact (z ⟨n, r, y⟩).elim
          rw [sWhile_none z']
          refine sWhile_none fun n => ?_
          cases n with
          | zero => rfl
          | succ n => unfold whN; rw [q]; simp only; rw [q2]; exact z' n
section
variable {X : Cx} {W : XW} {st : Stmt} {rest : List Stmt} {e a b tg : Expr} {m ma mb : EM} {ms mr : SM} {g : GM} {gs : GMs} {pos : Pos}
theorem ds_nil : DSs X W [] sNil := ⟨PSs.imp pss_nil fun D σ H ⟨μ, s, hd, sr, hr, f⟩ => FinS.nx f hr sr⟩
theorem ds_cons (h1 : DS X W st ms) (h2 : DSs X W rest mr) : DSs X W (st :: rest) (sSeq ms mr) := ⟨PSs.imp (pss_cons h1.ps h2.ps) fun D σ H ⟨μ, s, hd, sr, hr, f⟩ => by
  refine ⟨μ, s, hd, sr, hr, ?_⟩
  unfold sSeq SR.seq at f
  cases q : ms s hd with
  | nx s1 h1 =>
    rw [q] at f
    exact fun μ' H' σ' e hr' sr' => ⟨μ', s1, h1, sr', hr', FinS.base f e⟩
  | rt d h1 => rw [q] at f; exact f
  | exc x s1 h1 => rw [q] at f; exact f
  | bad => rw [q] at f; exact f.elim⟩
theorem ds_one (h1 : DS X W st ms) : DSs X W [st] ms := ⟨pss_one h1.ps⟩
theorem ds_expr (he : DE X W e m) (hs : swapsWith e none pos.line X.env = pure false := by rfl) : DS X W (.Expr e pos) (sExpr m) := ⟨PS.imp (ps_expr he.pe hs) fun D σ H ⟨μ, s, hd, sr, hr, f⟩ => by
  refine ⟨μ, s, hd, sr, hr, (FinS.bind f sr).imp ?_⟩
  rintro v H1 ⟨μ1, hd1, d, e1, hr1, rv, sr1, f1⟩
  exact FinS.nx f1 hr1 sr1⟩
theorem ds_ret (he : DE X W e m) : DS X W (.Return (some e) pos) (sRet m) := ⟨PS.imp (ps_ret he.pe) fun D σ H ⟨μ, s, hd, sr, hr, f⟩ => by
  refine ⟨μ, s, hd, sr, hr, (FinS.bind f sr).imp ?_⟩
  rintro v H1 ⟨μ1, hd1, d, e1, hr1, rv, sr1, f1⟩
  exact FinS.rt f1 hr1 rv⟩
theorem ds_if {t : TM} {ba bb : List Stmt} (hc : DT X W a t) (ha : DSs X W ba ms) (hb : DSs X W bb mr) : DS X W (.If a ba bb pos) (sIf t ms mr) := ⟨PS.imp (ps_if hc.pt ha.ps hb.ps) fun D σ H ⟨μ, s, hd, sr, hr, f⟩ => by
  refine ⟨μ, s, hd, sr, hr, (FinS.bind f sr).imp ?_⟩
  rintro v H1 ⟨μ1, hd1, d, e1, hr1, rfl, sr1, f1⟩
  cases v with
  | true => exact ⟨μ1, s, hd1, sr1, hr1, f1⟩
  | false => exact ⟨μ1, s, hd1, sr1, hr1, f1⟩⟩
theorem dg_name {i : Nat} {x : Str} (hN : X.N.Nodup) (hi : X.N[i]? = some x := by rfl) (hx : Loc X.env.scope x := by first | exact Or.inl rfl | exact Or.inr rfl) (hf : X.fn x = true ∨ X.env.scope.names.lookup x = some .local := by first | exact .inl rfl | exact .inr rfl | assumption) : DG X (.Name x pos) (gN i) :=
  ⟨PG.imp (pg_name hN hi hx hf) fun v σ H Q ⟨μ, s, hd, d, sr, hr, rv, f⟩ => FinG.ok (R := RS X.K) f hr (sr.set i rv)⟩
theorem dgs_nil : DGs X [] gsN := ⟨PGs.imp pgs_nil fun v σ H Q ⟨μ, s, hd, d, sr, hr, rv, f⟩ => by
  cases rv with
  | nil => exact ⟨rfl, FinG.ok (R := RS X.K) f hr sr⟩
  | cons _ _ => exact f.elim⟩
theorem dgs_cons {es : List Expr} (h1 : DG X e g) (h2 : DGs X es gs) (hs : (assignEach (e :: es) X.env).map (·.2) = assign e X.env :: (assignEach es X.env).map (·.2) := by rfl) : DGs X (e :: es) (gsC g gs) := ⟨PGs.imp (pgs_cons h1.pg h2.pg hs) fun v σ H Q ⟨μ, s, hd, d, sr, hr, rv, f⟩ => by
  cases rv with
  | nil => exact f.elim
  | cons r1 r2 =>
    refine ⟨_, _, rfl, μ, s, hd, _, sr, hr, r1, (FinG.bind f).imp ?_⟩
    rintro σ1 H1 ⟨μ1, hd1, s1, e1, hr1, sr1, f1⟩
    refine ⟨μ1, s1, hd1, _, sr1, hr1, r2.ext e1, ?_⟩
    cases q : gs _ s1 hd1 with
    | ok d h => rw [q] at f1; exact f1
    | exc x h => rw [q] at f1; exact fun μ' H' o e hr rv => f1 μ' H' o e hr rv
    | bad => rw [q] at f1; exact f1⟩
theorem dg_tup {es : List Expr} {k n : Nat} (hc : X.calm = true) (h : DGs X es gs) (hn : (assignEach es X.env).length = n := by rfl) (hst : (assignEach es X.env).findIdx? (·.1) = none := by rfl) : DG X (.Tuple es k pos) (gT n gs) := ⟨PG.imp (pg_tup hc h.pg hn hst) fun v σ H Q ⟨μ, s, hd, d, sr, hr, rv, f⟩ => by
  cases rv with
  | tup hs ra =>
    unfold gT at f
    simp only at f
    split at f
    · rename_i hl
      exact ⟨_, _, rfl, hs, by rw [ra.length]; exact hl, μ, s, hd, _, sr, hr, ra, f⟩
    · exact f.elim
  | _ => exact f.elim⟩
def LiftSet (K : PySem.W.Frag) (t : TSet) (g : D → D → D → Hd → Res Unit) : Prop := ∀ (μ : List Addr) (H : Hp) (hd : Hd) (x y z : V) (dx dy dz : D) (W : XW) (σ : L2.St) (Q : Hp → Prop), HRel K μ H hd → Rep K μ H x dx → Rep K μ H y dy → Rep K μ H z dz →
  FinG (fun _ _ (_ : Unit) (_ : Unit) => True) K W μ H σ (g dx dy dz hd) (fun _ H' => Q H') → t x y z H Q
theorem dg_sub {o i : Expr} {mo mi : EM} {t : TSet} {set : D → D → D → Hd → Res Unit} (hs : PSet X t) (l : LiftSet X.K t set) (ho : DE X W0 o mo) (hi : DE X W0 i mi)
    (ha : ∀ v, assign (.Subscript o i pos) X.env v = (do
      let ov ← holding [v] (eval o X.env)
      let iv ← holding [v, ov] (eval i X.env)
      standAt pos
      holding [v, ov, iv] (setItem ov iv v)
      release [v, ov, iv] []) := by intro _; rfl) : DG X (.Subscript o i pos) (gS mo mi set) := ⟨PG.imp (pg_sub ho.pe hi.pe hs ha) fun v σ H Q ⟨μ, s, hd, d, sr, hr, rv, f⟩ => by
  refine ⟨μ, s, hd, sr, hr, (FinG.bind f).imp ?_⟩
  rintro x H1 ⟨μ1, hd1, dx, e1, hr1, rx, f1⟩
  refine ⟨μ1, s, hd1, sr.ext e1, hr1, (FinG.bind f1).imp ?_⟩
  rintro y H2 ⟨μ2, hd2, dy, e2, hr2, ry, f2⟩
  refine l μ2 H2 hd2 x y v dx dy d W0 σ _ hr2 (rx.ext e2) ry (rv.ext (e1.trans e2)) ((FinG.bind f2).imp ?_)
  rintro _ H3 ⟨μ3, hd3, _, e3, hr3, _, f3⟩
  exact FinG.ok (R := RS X.K) f3 hr3 (sr.ext (e1.trans (e2.trans e3)))⟩
theorem ds_asg' {t : TS} (he : DE X W e m) (hg : DG X tg g) (h : PS X st (tAsg (TEof X.K W m) (TGof X.K g))) : DS X W st (sAsg m g) := ⟨PS.imp h fun D σ H ⟨μ, s, hd, sr, hr, f⟩ => by
  refine ⟨μ, s, hd, sr, hr, (FinS.bind f sr).imp ?_⟩
  rintro v H1 ⟨μ1, hd1, d, e1, hr1, rv, sr1, f1⟩
  refine ⟨μ1, s, hd1, d, sr1, hr1, rv, ?_⟩
  cases q : g d s hd1 with
  | ok s1 h1 => rw [q] at f1; exact fun μ' H' σ' e hr' sr' => f1 μ' H' σ' e hr' sr'
  | exc x h1 => rw [q] at f1; exact f1.elim
  | bad => rw [q] at f1; exact f1.elim⟩
theorem ds_asg (he : DE X W e m) (hg : DG X tg g) (hs : swapsWithSole [tg] e pos.line X.env = pure false := by rfl) (hw : swappedStores [tg] e X.env = pure none := by rfl) (h1 : (assignEach [tg] X.env).map (·.2) = [assign tg X.env] := by rfl) : DS X W (.Assign [tg] e pos) (sAsg m g) := ds_asg' (t := tNever) he hg (ps_asg he.pe hg.pg hs hw h1)
theorem ds_set (i : Nat) {x : Str} {pos' : Pos} (hN : X.N.Nodup) (he : DE X W e m) (hi : X.N[i]? = some x := by rfl) (hx : Loc X.env.scope x := by first | exact Or.inl rfl | exact Or.inr rfl) (hs : swapsWith e (some (.Name x pos')) pos.line X.env = pure false := by rfl) (hf : X.fn x = true ∨ X.env.scope.names.lookup x = some .local := by first | exact .inl rfl | exact .inr rfl | assumption) :
    DS X W (.Assign [.Name x pos'] e pos) (sSet i m) := ⟨PS.imp (ps_set hN hi hx he.pe hs hf) fun D σ H ⟨μ, s, hd, sr, hr, f⟩ => by
  refine ⟨μ, s, hd, sr, hr, (FinS.bind f sr).imp ?_⟩
  rintro v H1 ⟨μ1, hd1, d, e1, hr1, rv, sr1, f1⟩
  exact FinS.nx f1 hr1 (sr1.set i rv)⟩
theorem ds_par (i j : Nat) {x y : Str} {px py pt : Pos} {kt k2 pt2} {ma : AM} (hc : X.calm = true) (hN : X.N.Nodup) (ha : DA X W [a, b] ma) (hi : X.N[i]? = some x := by rfl) (hj : X.N[j]? = some y := by rfl) (hij : i ≠ j := by decide)
    (hx : X.env.scope.names.lookup x = some .local := by rfl) (hy : X.env.scope.names.lookup y = some .local := by rfl)
    (hw : swappedStores [.Tuple [.Name x px, .Name y py] kt pt] (.Tuple [a, b] k2 pt2) X.env = pure (some [x, y]) := by rfl)
    (hs : swapsWithSole [.Tuple [.Name x px, .Name y py] kt pt] (.Tuple [a, b] k2 pt2) pos.line X.env = pure false := by rfl) :
    DS X W (.Assign [.Tuple [.Name x px, .Name y py] kt pt] (.Tuple [a, b] k2 pt2) pos) (sPar i j ma) := ⟨PS.imp (ps_par hc hN hi hj hij hx hy ha.pa hw hs) fun D σ H ⟨μ, s, hd, sr, hr, f⟩ => by
  refine ⟨μ, s, hd, sr, hr, (FinS.bind f sr).imp ?_⟩
  rintro v H1 ⟨μ1, hd1, d, e1, hr1, rv, sr1, f1⟩
  cases rv with
  | nil => exact f1.elim
  | cons r1 rr =>
    cases rr with
    | nil => exact f1.elim
    | cons r2 rr2 =>
      cases rr2 with
      | nil => exact ⟨_, _, rfl, FinS.nx f1 hr1 ((sr1.set i r1).set j r2)⟩
      | cons _ _ => exact f1.elim⟩
theorem ds_while {t : TM} {body : List Stmt} (hp : PassesOwn (model X.prog X.w) X.A X.env X.xe) (hc : DT X W a t) (hb : DSs X W body ms) : DS X W (.While a body [] pos) (sWhile t ms) := ⟨PS.imp (ps_while hp hc.pt hb.ps) fun D σ H ⟨μ, s, hd, sr, hr, f⟩ => by
  refine ⟨fun m σ H => ∃ μ s hd r, SRel X.K μ H σ s ∧ HRel X.K μ H hd ∧ whN t ms m s hd = some r ∧ FinS X.K W μ H r D, ?_, ?_⟩
  · by_cases q : ∃ n r, whN t ms n s hd = some r
    · obtain ⟨n, r, q⟩ := q
      exact ⟨n, μ, s, hd, r, sr, hr, q, by rw [sWhile_of q] at f; exact f⟩
    · rw [sWhile_none fun n => by
        cases y : whN t ms n s hd with
        | none => rfl
        | some r => exact (q ⟨n, r, y⟩).elim] at f
      exact f.elim
  · rintro m σ H ⟨μ, s, hd, r, sr, hr, q, f⟩
    cases m with
    | zero => cases q
    | succ m =>
      unfold whN at q
      refine ⟨μ, s, hd, sr, hr, ?_⟩
      cases y : t s hd with
      | bad => rw [y] at q; simp only [Option.some.injEq] at q; subst q; exact f
      | exc x h1 => rw [y] at q; simp only [Option.some.injEq] at q; subst q; exact fun μ' H' o e hr' xr => f μ' H' σ o e hr' (sr.ext e) xr
      | ok c h1 =>
        rw [y] at q
        cases c with
        | false =>
          simp only [Option.some.injEq] at q
          subst q
          rintro μ' H' _ e hr' rfl
          rw [if_neg (by decide)]
          exact f μ' H' σ e hr' (sr.ext e)
        | true =>
          simp only at q
          rintro μ' H' _ e hr' rfl
          rw [if_pos rfl]
          refine ⟨fun σ' H' => ∃ μ s hd r, SRel X.K μ H' σ' s ∧ HRel X.K μ H' hd ∧ whN t ms m s hd = some r ∧ FinS X.K W μ H' r D, fun σ' H' h => ⟨m, Nat.lt_succ_self m, h⟩, μ', s, h1, sr.ext e, hr', ?_⟩
          cases z : ms s h1 with
          | nx s2 h2 =>
            rw [z] at q
            exact fun μ2 H2 σ2 e2 hr2 sr2 => ⟨μ2, s2, h2, r, sr2, hr2, q, FinS.base f (e.trans e2)⟩
          | rt d h2 => rw [z] at q; simp only [Option.some.injEq] at q; subst q; exact FinS.base f e
          | exc x s2 h2 => rw [z] at q; simp only [Option.some.injEq] at q; subst q; exact FinS.base f e
          | bad => rw [z] at q; simp only [Option.some.injEq] at q; subst q; exact f⟩
end
end DL
namespace DL
open PySem PySem.Spec PyProof.Rows L2
abbrev ItD := List D × (Hd → Prop)
abbrev IM := Sl → M ItD
def RIt (K : PySem.W.Frag) (μ : List Addr) (H : Hp) (J : It) (p : ItD) : Prop :=
  ∀ (μ' : List Addr) (H' : Hp) (hd : Hd), Ext μ H μ' H' → HRel K μ' H' hd → p.2 hd → ∀ i : Nat,
    (∀ d, p.1[i]? = some d → J.go i H' ∧ ∀ x H'', J.yld i H' x H'' → Ext μ' H' μ' H'' ∧ HRel K μ' H'' hd ∧ Rep K μ' H'' x d) ∧ (p.1.length = i → J.stop i H')
def TIof (K : PySem.W.Frag) (W : XW) (m : IM) : TI := TG' (fun μ H J p => RIt K μ H J p) K W m
structure DI (X : Cx) (W : XW) (tg e : Expr) (m : IM) : Prop where
  pi : PI X tg e (TIof X.K W m)
theorem PI.imp {X : Cx} {tg e : Expr} {t t' : TI} (h : PI X tg e t) (i : ∀ σ H Q, t' σ H Q → t σ H Q) : PI X tg e t' := ⟨fun pins s σ H Q I q => h.run pins s σ H Q I (i _ _ _ q)⟩
open Classical in
noncomputable def forD (chk : Hd → Prop) (g : GM) (body : SM) : List D → Sl → Hd → SR
  | [], s, h => if chk h then .nx s h else .bad
  | x :: xs, s, h => if chk h then (match g x s h with
    | .ok s1 h1 => (match body s1 h1 with
      | .nx s2 h2 => forD chk g body xs s2 h2
      | r => r)
    | _ => .bad) else .bad
noncomputable def sFor (it : IM) (g : GM) (body : SM) : SM := fun s h => (it s h).thenS s fun p h1 => forD p.2 g body p.1 s h1
def appD (n : Nat) (d : D) (h : Hd) : Res Unit := match h[n]? with
  | some (.lst xs) => if xs.length < sizeLine then .ok () (h.set n (.lst (xs ++ [d]))) else .bad
  | _ => .bad
def wipeD (s : Sl) : List Nat → Sl
  | [] => s
  | v :: vs => (wipeD s vs).set v none
open Classical in
noncomputable def lcD (chk : Hd → Prop) (g : GM) (t : TM) (e : EM) (vs : List Nat) (n : Nat) (s : Sl) : List D → Hd → Res Unit
  | [], h => if chk h then .ok () h else .bad
  | x :: xs, h => if chk h then (match g x (wipeD s vs) h with
    | .ok s1 h1 => (t s1 h1).bind fun c h2 => if c = true then (e s1 h2).bind fun d h3 => (appD n d h3).bind fun _ h4 => lcD chk g t e vs n s xs h4 else lcD chk g t e vs n s xs h2
    | _ => .bad) else .bad
noncomputable def eLc (it : IM) (g : GM) (t : TM) (e : EM) (vs : List Nat) : EM := fun s h => (it s h).bind fun p h1 => (lcD p.2 g t e vs h1.length s p.1 (h1 ++ [.lst []])).bind fun _ h2 => .ok (.ref h1.length) h2
def tT : TM := fun _ h => .ok true h
section
variable {X : Cx} {W : XW} {st : Stmt} {rest : List Stmt} {e a b tg : Expr} {m ma mb : EM} {ms mr : SM} {g : GM} {gs : GMs} {pos : Pos} {im : IM}
theorem ds_for {body : List Stmt} (hp : PassesOwn (model X.prog X.w) X.A X.env X.xe) (hc : X.calm = true) (hi : DI X W tg a im) (hg : DG X tg g) (hb : DSs X W body ms) (hs : ∀ x, foldedSetIterable a X.env x = pure x := by intro _; rfl) : DS X W (.For tg a body [] pos) (sFor im g ms) := ⟨PS.imp (ps_for hp hc hi.pi hg.pg hb.ps hs) fun D σ H ⟨μ, s, hd, sr, hr, f⟩ => by
  refine ⟨μ, s, hd, sr, hr, (FinS.bind f sr).imp ?_⟩
  rintro J H1 ⟨μ1, hd1, ⟨items, chk⟩, e1, hr1, rJ, sr1, f1⟩
  refine ⟨fun i m σ H => ∃ μ s hd, Ext μ1 H1 μ H ∧ SRel X.K μ H σ s ∧ HRel X.K μ H hd ∧ i + m = items.length ∧ FinS X.K W μ H (forD chk g ms (items.drop i) s hd) D, ⟨items.length, μ1, s, hd1, .refl, sr1, hr1, by simp, f1⟩, ?_⟩
  rintro i m σ H ⟨μ, s, hd, e0, sr, hr, hm, f⟩
  by_cases hi : i < items.length
  · have ed : items.drop i = items[i] :: items.drop (i + 1) := List.drop_eq_getElem_cons hi
    rw [ed] at f
    unfold forD at f
    by_cases hck : chk hd
    · rw [if_pos hck] at f
      obtain ⟨h1, h2⟩ := (rJ μ H hd e0 hr hck i).1 items[i] (List.getElem?_eq_getElem hi)
      refine .inr ⟨h1, fun σ' H' => ∃ μ s hd, Ext μ1 H1 μ H' ∧ SRel X.K μ H' σ' s ∧ HRel X.K μ H' hd ∧ FinS X.K W μ H' (forD chk g ms (items.drop (i + 1)) s hd) D, fun σ' H' ⟨μ, s, hd, a1, a2, a3, a4⟩ => ⟨m - 1, by omega, μ, s, hd, a1, a2, a3, by omega, a4⟩, fun x H' y => ?_⟩
      obtain ⟨q1, q2, q3⟩ := h2 x H' y
      refine ⟨μ, s, hd, items[i], sr.ext q1, q2, q3, ?_⟩
      cases z : g items[i] s hd with
      | bad => rw [z] at f; exact f.elim
      | exc x h => rw [z] at f; exact f.elim
      | ok s1 h1 =>
        rw [z] at f
        simp only at f
        intro μ' H2 σ2 e2 hr2 sr2
        refine ⟨μ', s1, h1, sr2, hr2, ?_⟩
        cases z2 : ms s1 h1 with
        | bad => rw [z2] at f; exact f.elim
        | exc x s2 h2 => rw [z2] at f; exact FinS.base f (q1.trans e2)
        | rt d h2 => rw [z2] at f; exact FinS.base f (q1.trans e2)
        | nx s2 h2 =>
          rw [z2] at f
          exact fun μ3 H3 σ3 e3 hr3 sr3 => ⟨μ3, s2, h2, e0.trans (q1.trans (e2.trans e3)), sr3, hr3, FinS.base f (q1.trans (e2.trans e3))⟩
    · rw [if_neg hck] at f; exact f.elim
  · have ed : items.drop i = [] := List.drop_eq_nil_of_le (by omega)
    rw [ed] at f
    unfold forD at f
    by_cases hck : chk hd
    · rw [if_pos hck] at f
      exact .inl ⟨(rJ μ H hd e0 hr hck i).2 (Nat.le_antisymm (Nat.le_of_not_lt hi) (show i ≤ items.length by omega)), FinS.nx f hr sr⟩
    · rw [if_neg hck] at f; exact f.elim⟩
theorem wipe_rel {K : PySem.W.Frag} {μ : List Addr} {H : Hp} {σ : L2.St} {s : Sl} (r : SRel K μ H σ s) : ∀ vs : List Nat, SRel K μ H (wipe σ vs) (wipeD s vs)
  | [] => r
  | v :: vs => by
    have q := wipe_rel r vs
    unfold wipe wipeD
    refine ⟨by simp [q.1], fun i d h => ?_⟩
    by_cases hv : v = i
    · subst hv
      by_cases hl : v < (wipeD s vs).length
      · rw [List.getElem?_set_self hl] at h; cases h
      · rw [List.getElem?_eq_none (by simpa using hl)] at h; cases h
    · rw [List.getElem?_set_ne hv] at h ⊢
      exact q.2 i d h
theorem wipe_get (σ : L2.St) (j : Nat) : ∀ vs : List Nat, (wipe σ vs)[j]? = if j ∈ vs then (σ[j]?).map (fun _ => none) else σ[j]?
  | [] => by simp [wipe]
  | v :: vs => by
    unfold wipe
    by_cases e : v = j
    · subst e
      rw [if_pos List.mem_cons_self]
      by_cases hl : v < σ.length
      · rw [List.getElem?_set_self (by rw [wipe_length]; exact hl), List.getElem?_eq_getElem hl]; rfl
      · rw [List.getElem?_eq_none (by rw [List.length_set, wipe_length]; omega), List.getElem?_eq_none (by omega)]; rfl
    · rw [List.getElem?_set_ne e, wipe_get σ j vs]
      have e' : (j ∈ v :: vs) ↔ (j ∈ vs) := by rw [List.mem_cons]; exact ⟨fun z => z.elim (fun y => (e y.symm).elim) id, .inr⟩
      simp only [e']
theorem wipe_set {σ : L2.St} {i : Nat} {x : Option V} {vs : List Nat} (h : i ∈ vs) : wipe (σ.set i x) vs = wipe σ vs := by
  apply List.ext_getElem?
  intro j
  rw [wipe_get, wipe_get]
  by_cases hj : j ∈ vs
  · rw [if_pos hj, if_pos hj]
    by_cases e : i = j
    · subst e
      by_cases hl : i < σ.length
      · rw [List.getElem?_set_self hl, List.getElem?_eq_getElem hl]; rfl
      · rw [List.getElem?_eq_none (by simpa using hl), List.getElem?_eq_none (by omega)]
    · rw [List.getElem?_set_ne e]
  · rw [if_neg hj, if_neg hj, List.getElem?_set_ne (fun e => hj (by rw [← e]; exact h))]
theorem wipe_wipe {σ : L2.St} {vs : List Nat} : wipe (wipe σ vs) vs = wipe σ vs := by
  apply List.ext_getElem?
  intro j
  rw [wipe_get, wipe_get]
  by_cases hj : j ∈ vs
  · rw [if_pos hj, if_pos hj]
    cases σ[j]? <;> rfl
  · rw [if_neg hj, if_neg hj]
structure LG (X : Cx) (scope : Scope) (vs : List Nat) (tg : Expr) (g : GM) : Prop where
  ex : ∃ t : TG, (∀ (s : Shared) (H : Hp) (C : Addr) (cl : List (Str × Addr)) (fp : List Addr), PG (X.blk s H scope (compEnvC scope cl C X.env) fp) tg t) ∧ (∀ v σ H Q, TGof X.K g v σ H Q → t v σ H Q) ∧ ∀ v σ H Q Q', (∀ σ' H', wipe σ' vs = wipe σ vs → Q σ' H' → Q' σ' H') → t v σ H Q → t v σ H Q'
theorem lg_name {scope : Scope} {vs : List Nat} {i : Nat} {x : Str} (hN : X.N.Nodup) (hi : X.N[i]? = some x := by rfl) (hx : ∀ (C : Addr) (cl : List (Str × Addr)), Loc (compEnvC scope cl C X.env).scope x := by intros; first | exact Or.inl rfl | exact Or.inr rfl) (hf : ∀ (C : Addr) (cl : List (Str × Addr)), (scope.names.lookup x == some .cell) = true ∨ (compEnvC scope cl C X.env).scope.names.lookup x = some .local := by intros; first | exact .inl rfl | exact .inr rfl) (hv : i ∈ vs := by decide) : LG X scope vs (.Name x pos) (gN i) :=
  ⟨gName i, fun s H C cl fp => pg_name (X := X.blk s H scope (compEnvC scope cl C X.env) fp) hN hi (hx C cl) (hf C cl), fun v σ H Q ⟨μ, s, hd, d, sr, hr, rv, f⟩ => FinG.ok (R := RS X.K) f hr (sr.set i rv), fun v σ H Q Q' i q => i _ _ (wipe_set hv) q⟩
theorem app_lift {K : PySem.W.Frag} {μ : List Addr} {H : Hp} {hd : Hd} {n : Nat} {D : Addr} {y : V} {d : DL.D} {W : XW} {σ : L2.St} {Q : Hp → Prop} (hr : HRel K μ H hd) (hn : μ[n]? = some D) (ry : Rep K μ H y d) (f : FinG (fun _ _ (_ : Unit) (_ : Unit) => True) K W μ H σ (appD n d hd) (fun _ H' => Q H')) :
    ∃ acc, H D = some (.lst acc) ∧ acc.length < sizeLine ∧ Q (upd H D (.lst (acc ++ [y]))) := by
  unfold appD at f
  split at f
  · rename_i xs e
    split at f
    · rename_i hl
      obtain ⟨vs, h1, h2⟩ := hr.obj n D _ hn e
      have ex : Ext μ H μ (upd H D (.lst (vs ++ [y]))) := Ext.write h1 trivial
      exact ⟨vs, h1, by rw [h2.length]; exact hl, f μ _ () ex (hr.write hn h1 trivial ⟨_, upd_same, (h2.ext ex).append (.one (ry.ext ex))⟩) trivial⟩
    · exact f.elim
  · exact f.elim
theorem lc_imp {K : PySem.W.Frag} {t : TG} {tm : TM} {em : EM} {vs : List Nat} (g2 : ∀ v σ H Q, TGof K g v σ H Q → t v σ H Q) (g3 : ∀ v σ H Q Q', (∀ σ' H', wipe σ' vs = wipe σ vs → Q σ' H' → Q' σ' H') → t v σ H Q → t v σ H Q') {σ : L2.St} {H : Hp} {Q : VK}
    (h : TEof K W0 (eLc im g tm em vs) σ H Q) : tLc (TIof K W0 im) t (TTof K W0 tm) (TEof K W0 em) vs σ H Q := by
  obtain ⟨μ, s, hd, sr, hr, f⟩ := h
  refine ⟨μ, s, hd, sr, hr, (FinG.bind f).imp ?_⟩
  rintro J H1 ⟨μ1, hd1, ⟨items, chk⟩, e1, hr1, rJ, f1⟩ D hD
  have exD : Ext μ1 H1 (μ1 ++ [D]) (upd H1 D (.lst [])) := Ext.laid hD
  have hnD : (μ1 ++ [D])[hd1.length]? = some D := by
    rw [← hr1.len, List.getElem?_append_right (Nat.le_refl _)]
    simp
  generalize hn : hd1.length = n at hnD
  refine ⟨fun i m H => ∃ μ hd, Ext (μ1 ++ [D]) (upd H1 D (.lst [])) μ H ∧ HRel K μ H hd ∧ i + m = items.length ∧ FinG (RD K) K W0 μ H σ ((lcD chk g tm em vs n s (items.drop i) hd).bind fun _ h2 => .ok (.ref n) h2) Q,
    ⟨items.length, μ1 ++ [D], hd1 ++ [.lst []], .refl, hr1.laid (m := .lst []) hD ⟨[], upd_same, .nil⟩, by simp, ?_⟩, ?_⟩
  · rw [← hn]
    exact FinG.base f1 exD
  rintro i m H2 ⟨μ2, hd2, e2, hr2, hm, f2⟩
  have nD : μ2[n]? = some D := e2.nums _ _ hnD
  have e12 : Ext μ1 H1 μ2 H2 := exD.trans e2
  have sr2 : SRel K μ2 H2 (wipe σ vs) (wipeD s vs) := wipe_rel (sr.ext (e1.trans e12)) vs
  by_cases hi : i < items.length
  · have ed : items.drop i = items[i] :: items.drop (i + 1) := List.drop_eq_getElem_cons hi
    rw [ed] at f2
    unfold lcD at f2
    by_cases hck : chk hd2
    · rw [if_pos hck] at f2
      obtain ⟨h1, h2⟩ := (rJ μ2 H2 hd2 e12 hr2 hck i).1 items[i] (List.getElem?_eq_getElem hi)
      refine .inr ⟨h1, fun H' => ∃ μ hd, Ext (μ1 ++ [D]) (upd H1 D (.lst [])) μ H' ∧ HRel K μ H' hd ∧ FinG (RD K) K W0 μ H' σ ((lcD chk g tm em vs n s (items.drop (i + 1)) hd).bind fun _ h2 => .ok (.ref n) h2) Q, fun H' ⟨μ, hd, a1, a2, a3⟩ => ⟨m - 1, by omega, μ, hd, a1, a2, by omega, a3⟩, fun x H3 y => ?_⟩
      obtain ⟨q1, q2, q3⟩ := h2 x H3 y
      have gq := g2 x (wipe σ vs) H3 (fun σ4 H4 => ∃ μ4 hd4 s4, Ext μ2 H3 μ4 H4 ∧ HRel K μ4 H4 hd4 ∧ SRel K μ4 H4 σ4 s4 ∧ FinG (RD K) K W0 μ4 H4 σ (((tm s4 hd4).bind fun c h2 => if c = true then (em s4 h2).bind fun d h3 => (appD n d h3).bind fun _ h4 => lcD chk g tm em vs n s (items.drop (i + 1)) h4 else lcD chk g tm em vs n s (items.drop (i + 1)) h2).bind fun _ h2 => .ok (.ref n) h2) Q)
        ⟨μ2, wipeD s vs, hd2, items[i], sr2.ext q1, q2, q3, by
          cases z : g items[i] (wipeD s vs) hd2 with
          | bad => rw [z] at f2; exact f2.elim
          | exc x h => rw [z] at f2; exact f2.elim
          | ok s1 h1 => rw [z] at f2; exact fun μ4 H4 σ4 e4 hr4 sr4 => ⟨μ4, h1, s1, e4, hr4, sr4, FinG.base f2 (q1.trans e4)⟩⟩
      refine g3 _ _ _ _ _ ?_ gq
      rintro σ4 H4 w4 ⟨μ4, hd4, s4, e4, hr4, sr4, f4⟩
      refine ⟨w4.trans wipe_wipe, μ4, s4, hd4, sr4, hr4, ?_⟩
      cases z : tm s4 hd4 with
      | bad => rw [z] at f4; exact f4.elim
      | exc x h => rw [z] at f4; exact fun μ' H' o e hr xr => f4 μ' H' o e hr xr
      | ok c h5 =>
        rw [z] at f4
        intro μ5 H5 c' e5 hr5 hcc
        rw [show c' = c from hcc]
        have e05 : Ext (μ1 ++ [D]) (upd H1 D (.lst [])) μ5 H5 := e2.trans (q1.trans (e4.trans e5))
        cases c with
        | false =>
          rw [if_neg (by decide)]
          exact ⟨μ5, h5, e05, hr5, FinG.base f4 e5⟩
        | true =>
          rw [if_pos rfl]
          have f5 : FinG (RD K) K W0 μ5 H5 σ (((em s4 h5).bind fun d h3 => (appD n d h3).bind fun _ h4 => lcD chk g tm em vs n s (items.drop (i + 1)) h4).bind fun _ h2 => .ok (.ref n) h2) Q := FinG.base f4 e5
          refine ⟨μ5, s4, h5, sr4.ext e5, hr5, ?_⟩
          cases z2 : em s4 h5 with
          | bad => rw [z2] at f5; exact f5.elim
          | exc x h => rw [z2] at f5; exact fun μ' H' o e hr xr => f5 μ' H' o e hr xr
          | ok d h6 =>
            rw [z2] at f5
            intro μ6 H6 y6 e6 hr6 r6
            refine app_lift (Q := fun H' => ∃ μ hd, Ext (μ1 ++ [D]) (upd H1 D (.lst [])) μ H' ∧ HRel K μ H' hd ∧ FinG (RD K) K W0 μ H' σ ((lcD chk g tm em vs n s (items.drop (i + 1)) hd).bind fun _ h2 => .ok (.ref n) h2) Q) (W := W0) (σ := σ) hr6 ((e05.trans e6).nums _ _ hnD) r6 ?_
            have f6 := FinG.base f5 e6
            cases z3 : appD n d h6 with
            | bad => simp only [Res.bind, z3] at f6; exact f6.elim
            | exc x h => simp only [Res.bind, z3] at f6; exact fun μ' H' o e hr xr => f6 μ' H' o e hr xr
            | ok u h7 =>
              simp only [Res.bind, z3] at f6
              exact fun μ7 H7 _ e7 hr7 _ => ⟨μ7, h7, (e05.trans e6).trans e7, hr7, FinG.base f6 e7⟩
    · rw [if_neg hck] at f2; exact f2.elim
  · have ed : items.drop i = [] := List.drop_eq_nil_of_le (by omega)
    rw [ed] at f2
    unfold lcD at f2
    by_cases hck : chk hd2
    · rw [if_pos hck] at f2
      exact .inl ⟨(rJ μ2 H2 hd2 e12 hr2 hck i).2 (Nat.le_antisymm (Nat.le_of_not_lt hi) (show i ≤ items.length by omega)), FinG.ok (R := RD K) f2 hr2 (.ref nD)⟩
    · rw [if_neg hck] at f2; exact f2.elim
theorem de_lc {iter elt : Expr} {ifs : List Expr} {scope : Scope} {own : List (Str × Nat)} {tm : TM} {em : EM} (hc : X.calm = true) (hN : X.N.Nodup) (hi : DI X W0 tg iter im) (ok : BlkOk X.N X.env.scope scope own) (hg : LG X scope (own.map (·.2)) tg g)
    (ht : ∀ (s : Shared) (H : Hp) (C : Addr) (cl : List (Str × Addr)) (fp : List Addr), PTs (X.blk s H scope (compEnvC scope cl C X.env) fp) ifs (TTof X.K W0 tm))
    (he : ∀ (s : Shared) (H : Hp) (C : Addr) (cl : List (Str × Addr)) (fp : List Addr), DE (X.blk s H scope (compEnvC scope cl C X.env) fp) W0 elt em)
    (hs : ∀ x, foldedSetIterable iter X.env x = pure x := by intro _; rfl) :
    DE X W0 (.ListComp elt [⟨tg, iter, ifs, 0⟩] scope pos) (eLc im g tm em (own.map (·.2))) := by
  obtain ⟨t, g1, g2, g3⟩ := hg.ex
  exact ⟨PE.imp (pe_lc (te := TEof X.K W0 em) hc hN hi.pi ok g1 ht (fun s H C cl fp => (he s H C cl fp).pe) hs) fun σ H Q h => lc_imp g2 g3 h⟩
theorem pts_T {X : Cx} : PTs X [] (TTof X.K W0 tT) := ⟨fun pins s σ H Q I ⟨μ, sl, hd, sr, hr, f⟩ => pts_nil.run pins s σ H Q I (FinG.ok (R := RB) f hr rfl)⟩
theorem pts_1 {X : Cx} {c : Expr} {t : TM} (h : DT X W0 c t) : PTs X [c] (TTof X.K W0 t) := pts_one h.pt
end
end DL
namespace DL
open PySem PySem.Spec PyProof.Rows L2
mutual
def D.lo (n : Nat) : D → Bool
  | .tup xs => D.loAll n xs
  | .rol xs => D.loAll n xs
  | .ref m => decide (m < n)
  | .non => true
  | .bl _ => true
  | .int _ => true
  | .str _ => true
  | .ty _ => true
  | .con _ => true
  | .exn _ _ _ vs => D.loAll n vs
def D.loAll (n : Nat) : List D → Bool
  | [] => true
  | x :: xs => D.lo n x && D.loAll n xs
end
def KDs.lo {κ : Type} (n : Nat) : List (κ × D) → Bool
  | [] => true
  | (_, d) :: r => d.lo n && KDs.lo n r
def MO.lo (n : Nat) : MO → Bool
  | .lst xs => D.loAll n xs
  | .dK kvs => KDs.lo n kvs
  | .dF kvs => KDs.lo n kvs
  | .dT kvs => KDs.lo n kvs
  | .dG kvs => KDs.lo n kvs
def OkBelow (h h' : Hd) : Prop := ∀ (i : Nat) (o : MO), i < h.length → h'[i]? = some o → o.lo h.length = true ∨ h[i]? = some o
open Classical in
noncomputable def gc (h : Hd) (d : D) (h' : Hd) : Res D :=
  if OkBelow h h' then
    if d.lo h.length = true then .ok d (h'.take h.length) else match d with
      | .ref m => (match h'[m]? with
        | some o => if o.lo h.length = true then .ok (.ref h.length) (h'.take h.length ++ [o]) else .ok d h'
        | none => .ok d h')
      | _ => .ok d h'
  else .ok d h'
section
variable {K : PySem.W.Frag} {μ μ' : List Addr} {H H' : Hp} {hd hd' : Hd}
mutual
theorem Rep.back {n : Nat} (b : ∀ (k : Nat) (a : Addr), k < n → μ'[k]? = some a → μ[k]? = some a) {v : V} {d : D} (hb : d.lo n = true) : Rep K μ' H v d → Rep K μ H v d
  | .non => .non
  | .bl b => .bl b
  | .int i => .int i
  | .str x => .str x
  | .ty n => .ty n
  | .tup h r => .tup h (RepAll.back b (by unfold D.lo at hb; exact hb) r)
  | .rol h r => .rol h (RepAll.back b (by unfold D.lo at hb; exact hb) r)
  | .ref h => .ref (b _ _ (by unfold D.lo at hb; exact of_decide_eq_true hb) h)
  | .con a => .con a
  | .exn h r => .exn h (RepAll.back b (by unfold D.lo at hb; exact hb) r)
theorem RepAll.back {n : Nat} (b : ∀ (k : Nat) (a : Addr), k < n → μ'[k]? = some a → μ[k]? = some a) {vs : List V} {ds : List D} (hb : D.loAll n ds = true) : RepAll K μ' H vs ds → RepAll K μ H vs ds
  | .nil => .nil
  | .cons r t => by
    unfold D.loAll at hb
    rw [Bool.and_eq_true] at hb
    exact .cons (Rep.back b hb.1 r) (RepAll.back b hb.2 t)
end
mutual
theorem Rep.lo {v : V} {d : D} : Rep K μ H v d → d.lo μ.length = true
  | .non => by unfold D.lo; rfl
  | .bl b => by unfold D.lo; rfl
  | .int i => by unfold D.lo; rfl
  | .str x => by unfold D.lo; rfl
  | .ty n => by unfold D.lo; rfl
  | .tup h r => by unfold D.lo; exact RepAll.lo r
  | .rol h r => by unfold D.lo; exact RepAll.lo r
  | .ref h => by unfold D.lo; exact decide_eq_true (List.getElem?_eq_some_iff.mp h).1
  | .con a => by unfold D.lo; rfl
  | .exn h r => by unfold D.lo; exact RepAll.lo r
theorem RepAll.lo {vs : List V} {ds : List D} : RepAll K μ H vs ds → D.loAll μ.length ds = true
  | .nil => by unfold D.loAll; rfl
  | .cons r t => by unfold D.loAll; rw [Rep.lo r, RepAll.lo t]; rfl
end
theorem KRep.back {κ : Type} {n : Nat} (b : ∀ (k : Nat) (a : Addr), k < n → μ'[k]? = some a → μ[k]? = some a) : ∀ {vs : List (κ × V)} {ds : List (κ × D)}, KDs.lo n ds = true → KRep K μ' H vs ds → KRep K μ H vs ds
  | _, _, _, .nil => .nil
  | _, _, hb, .cons r t => by
    unfold KDs.lo at hb
    rw [Bool.and_eq_true] at hb
    exact .cons (r.back b hb.1) (KRep.back b hb.2 t)
theorem KRep.lo {κ : Type} : ∀ {vs : List (κ × V)} {ds : List (κ × D)}, KRep K μ H vs ds → KDs.lo μ.length ds = true
  | _, _, .nil => rfl
  | _, _, .cons r t => by unfold KDs.lo; rw [r.lo, KRep.lo t]; rfl
theorem MRep.back {n : Nat} (b : ∀ (k : Nat) (a : Addr), k < n → μ'[k]? = some a → μ[k]? = some a) {a : Addr} {o : MO} (hb : o.lo n = true) (m : MRep K μ' H a o) : MRep K μ H a o := by
  cases o with
  | lst ds => obtain ⟨vs, q, r⟩ := m; exact ⟨vs, q, r.back b hb⟩
  | dK ds => obtain ⟨vs, q, r⟩ := m; exact ⟨vs, q, r.back b hb⟩
  | dF ds => obtain ⟨o, vs, q, r⟩ := m; exact ⟨o, vs, q, r.back b hb⟩
  | dT ds => obtain ⟨vs, q, r⟩ := m; exact ⟨vs, q, r.back b hb⟩
  | dG ds => obtain ⟨o, vs, q, r⟩ := m; exact ⟨o, vs, q, r.back b hb⟩
theorem MRep.lo {a : Addr} {o : MO} (m : MRep K μ H a o) : o.lo μ.length = true := by
  cases o with
  | lst ds => obtain ⟨vs, q, r⟩ := m; exact r.lo
  | dK ds => obtain ⟨vs, q, r⟩ := m; exact r.lo
  | dF ds => obtain ⟨o, vs, q, r⟩ := m; exact r.lo
  | dT ds => obtain ⟨vs, q, r⟩ := m; exact r.lo
  | dG ds => obtain ⟨o, vs, q, r⟩ := m; exact r.lo
theorem HRel.lo (r : HRel K μ H hd) {i : Nat} {o : MO} (h : hd[i]? = some o) : o.lo hd.length = true := by
  have hl : i < μ.length := by rw [r.len]; exact (List.getElem?_eq_some_iff.mp h).1
  have := (r.obj i μ[i] o (List.getElem?_eq_getElem hl) h).lo
  rw [r.len] at this
  exact this
theorem gc_back (hr : HRel K μ H hd) (hr' : HRel K μ' H' hd') (e : Ext μ H μ' H') (ok : OkBelow hd hd') : HRel K μ H' (hd'.take hd.length) ∧ Ext μ H μ H' ∧ ∀ (k : Nat) (a : Addr), k < hd.length → μ'[k]? = some a → μ[k]? = some a := by
  have b : ∀ (k : Nat) (a : Addr), k < hd.length → μ'[k]? = some a → μ[k]? = some a := fun k a hk h => by
    rw [← hr.len] at hk
    have q := e.nums k μ[k] (List.getElem?_eq_getElem hk)
    rw [h] at q
    rw [Option.some.inj q]
    exact List.getElem?_eq_getElem hk
  have hle : hd.length ≤ hd'.length := by
    rcases Nat.eq_zero_or_pos hd.length with z | z
    · omega
    · have hk : hd.length - 1 < μ.length := by rw [hr.len]; omega
      have q := e.nums _ _ (List.getElem?_eq_getElem hk)
      have q2 := (List.getElem?_eq_some_iff.mp q).1
      rw [hr'.len] at q2
      omega
  refine ⟨⟨by rw [List.length_take, hr.len]; omega, hr.nd, fun i a o h1 h2 => ?_⟩, ⟨fun _ _ h => h, e.tups, e.stay⟩, b⟩
  have hi : i < hd.length := by rw [← hr.len]; exact (List.getElem?_eq_some_iff.mp h1).1
  rw [List.getElem?_take_of_lt hi] at h2
  refine (hr'.obj i a o (e.nums i a h1) h2).back b ?_
  rcases ok i o hi h2 with z | z
  · exact z
  · exact hr.lo z
theorem gc_fin {W : XW} {σ : L2.St} {d : D} {Q : VK} (hr : HRel K μ H hd) (f : FinG (RD K) K W μ H σ (gc hd d hd') Q) : FinG (RD K) K W μ H σ (.ok d hd') Q := by
  unfold gc at f
  split at f
  · rename_i ok
    split at f
    · rename_i hb
      intro μ' H' v e hr' rv
      obtain ⟨g1, g2, g3⟩ := gc_back hr hr' e ok
      exact f μ H' v g2 g1 (rv.back g3 hb)
    · rename_i hb
      split at f
      · rename_i m
        split at f
        · rename_i o ho
          split at f
          · rename_i hob
            intro μ' H' v e hr' rv
            obtain ⟨g1, g2, g3⟩ := gc_back hr hr' e ok
            cases rv with
            | ref hm =>
              rename_i a
              have hml : hd.length ≤ m := by
                unfold D.lo at hb
                simpa using hb
              have anew : ∀ k : Nat, μ[k]? ≠ some a := fun k h => by
                have q := hr'.nd k m a (e.nums k a h) hm
                have := (List.getElem?_eq_some_iff.mp h).1
                rw [hr.len] at this
                omega
              have ex : Ext μ H (μ ++ [a]) H' := ⟨fun n c h => by rw [List.getElem?_append_left (List.getElem?_eq_some_iff.mp h).1]; exact h, g2.tups, g2.stay⟩
              have ex' : Ext μ H' (μ ++ [a]) H' := ⟨ex.nums, fun _ _ h => h, fun _ _ _ h => h⟩
              have split : ∀ (n : Nat) (c : Addr), (μ ++ [a])[n]? = some c → (μ[n]? = some c ∧ n < hd.length) ∨ (n = hd.length ∧ c = a) := fun n c h => by
                rcases Nat.lt_or_ge n μ.length with z | z
                · rw [List.getElem?_append_left z] at h
                  exact .inl ⟨h, by rw [← hr.len]; exact z⟩
                · rw [List.getElem?_append_right z] at h
                  rcases Nat.lt_or_ge (n - μ.length) 1 with y | y
                  · have e : n = μ.length := by omega
                    subst e
                    simp at h
                    exact .inr ⟨hr.len, h.symm⟩
                  · rw [List.getElem?_eq_none (by simpa using y)] at h; cases h
              have hlt : (hd'.take hd.length).length = hd.length := by rw [← g1.len, hr.len]
              refine f (μ ++ [a]) H' (.ref a) ex ⟨by simp only [List.length_append, g1.len, List.length_singleton], fun n k c h1 h2 => ?_, fun n c u h1 h2 => ?_⟩ (.ref ?_)
              · rcases split n c h1 with ⟨x, _⟩ | ⟨x, rfl⟩
                · rcases split k c h2 with ⟨y, _⟩ | ⟨y, rfl⟩
                  · exact hr.nd n k c x y
                  · exact (anew n x).elim
                · rcases split k _ h2 with ⟨y, _⟩ | ⟨y, _⟩
                  · exact (anew k y).elim
                  · rw [x, y]
              · rcases split n c h1 with ⟨x, hl⟩ | ⟨x, rfl⟩
                · rw [List.getElem?_append_left (by rw [hlt]; exact hl)] at h2
                  exact (g1.obj n c u x h2).ext ex' rfl
                · subst x
                  rw [List.getElem?_append_right (by rw [hlt]; exact Nat.le_refl _), hlt] at h2
                  simp at h2
                  subst h2
                  exact ((hr'.obj m c o hm ho).back g3 hob).ext ex' rfl
              · rw [← hr.len, List.getElem?_append_right (Nat.le_refl _)]
                simp
          · exact f
        · exact f
      · exact f
  · exact f
end
noncomputable def SR.fin (h : Hd) (r : SR) : Res D := match r with
  | .nx _ h' => gc h .non h'
  | .rt d h' => gc h d h'
  | _ => .bad
noncomputable def runB (N : Nat) (body : SM) : List D → M D := fun ds h => (body (ds.map some ++ List.replicate (N - ds.length) none) h).fin h
theorem start_rel {K : PySem.W.Frag} {μ : List Addr} {H : Hp} {N : List Str} {vs : List V} {ds : List D} (r : RepAll K μ H vs ds) : SRel K μ H (L2.start N vs) (ds.map some ++ List.replicate (N.length - ds.length) none) := by
  refine ⟨by unfold L2.start; simp [r.length], fun i d h => ?_⟩
  unfold L2.start
  rcases Nat.lt_or_ge i ds.length with z | z
  · rw [List.getElem?_append_left (by simpa using z), List.getElem?_map] at h
    cases q : ds[i]? with
    | none => rw [q] at h; cases h
    | some d' =>
      rw [q] at h
      cases h
      obtain ⟨v, h1, h2⟩ := r.get q
      exact ⟨v, by rw [List.getElem?_append_left (by simpa [r.length] using z), List.getElem?_map, h1]; rfl, h2⟩
  · rw [List.getElem?_append_right (by simpa using z), List.getElem?_replicate] at h
    split at h <;> cases h
section
variable {P : Program} {w : World} {K : PySem.W.Frag} {mg : Str → Option Value} {base : Heap}
structure Def (P : Program) (w : World) (K : PySem.W.Frag) (mg : Str → Option Value) (base : Heap) (k : Nat) (x : Str) (ps : List Str) (F : List D → M D) : Prop where
  ex : ∃ (f : Addr) (fd : FuncData), FnOk P w K mg base CX0 k f fd ps (spD K ps.length F) ∧ mg x = some (.ref f) ∧ PySem.W.keepIn K (.ref f) = true ∧ Binds K fd ps [] ∧ ∃ oc od osl, K.lookup f = some ⟨oc, od, .func fd, osl⟩
structure Top (K : PySem.W.Frag) (mg : Str → Option Value) (x : Str) (st : Stmt) (ps : List Str) : Prop where
  ex : ∃ (f : Addr) (fd : FuncData), Fun K x x st f fd ∧ mg x = some (.ref f) ∧ Binds K fd ps []
theorem def_mk {x : Str} {st : Stmt} {N ps : List Str} {k : Nat} {body : SM} (T : Top K mg x st ps) (S : FnScope N ps (defScope st))
    (hb : ∀ (f : Addr) (cdv : Value) (A : Around) (outer : List Env) (s : Shared) (H : Hp) (E : XK), Room k (A.deeper (envOfC x (defScope st) s.heap.objs.size f cdv)) → DSs (cxOf CX0 P w K mg base N x (defScope st) f cdv A outer s H E).nox W0 (defBody st) body) :
    Def P w K mg base (k + 1) x ps (runB N.length body) := by
  obtain ⟨f, fd, F, hm, hb'⟩ := T.ex
  refine ⟨f, fd, F.ok S (fun vs H Q E ⟨μ, hd, ds, _, r, hl, _⟩ => by rw [r.length, hl]) (fun cdv A outer s H vs Q E hr h => ⟨_, (hb f cdv A outer s H E hr).ps, ?_⟩), hm, F.kp, hb', let ⟨oc, od, _, _, _, _, _, _, osl, _, lk, _⟩ := F.ex; ⟨oc, od, osl, lk⟩⟩
  obtain ⟨μ, hd, ds, hr, r, hl, q⟩ := h
  refine ⟨μ, _, hd, start_rel r, hr, ?_⟩
  unfold runB SR.fin at q
  cases z : body (ds.map some ++ List.replicate (N.length - ds.length) none) hd with
  | bad => rw [z] at q; exact q.elim
  | exc x s h => rw [z] at q; exact q.elim
  | nx s h => rw [z] at q; exact fun μ' H' σ' e hr' sr' => gc_fin hr q μ' H' .non e hr' .non
  | rt d h => rw [z] at q; exact fun μ' H' v e hr' rv => gc_fin hr q μ' H' v e hr' rv
variable {X : Cx} {x : Str} {ps : List Str} {k : Nat} {F : List D → M D} {e : Expr} {es : List Expr} {p pos : Pos} {mr : AM}
theorem de_def (G : Def X.prog X.w X.K X.mg X.base k x ps F) (hr : Room k X.A) (ha : DA X W0 (e :: es) mr)
    (hg : Gl X x := by rfl) (hdb : (x == ("__debug__" : Str)) = false := by decide) (he : starEach (e :: es) X.env = (false, eval e X.env) :: starEach es X.env := by rfl) (hpl : (backTo pos (starEach es X.env)).any (·.1) = false := by rfl) : DE X W0 (.Call (.Name x p) (e :: es) [] pos) (eA (eF ps.length F) mr) := by
  obtain ⟨f, fd, g, hm, hk, hb, _⟩ := G.ex
  exact de_call g hr hm hk hb ha hg hdb he hpl
end
end DL
namespace DL
open PySem PySem.Spec PyProof.Rows L2
def lstOf (h : Hd) : D → Option (List D)
  | .rol xs => some xs
  | .ref n => (match h[n]? with
    | some (.lst xs) => some xs
    | _ => none)
  | _ => none
section
variable {K : PySem.W.Frag} {μ : List Addr} {H : Hp} {hd : Hd}
theorem lstOf_rep {x : V} {d : D} {ds : List D} (hr : HRel K μ H hd) (r : Rep K μ H x d) (e : lstOf hd d = some ds) : ∃ a vs, x = .ref a ∧ SqL K H a vs ∧ RepAll K μ H vs ds := by
  cases r with
  | rol hs ra => cases e; exact ⟨_, _, rfl, hs.seq, ra⟩
  | ref hn =>
    unfold lstOf at e
    simp only at e
    split at e
    · rename_i xs q
      cases e
      obtain ⟨vs, h1, h2⟩ := hr.obj _ _ _ hn q
      exact ⟨_, vs, rfl, .of h1, h2⟩
    · cases e
  | _ => cases e
def dAdd (x y : D) : M D := fun h => match x, y with
  | .int i, .int j => .ok (.int (i + j)) h
  | .int i, .bl b => .ok (.int (i + b2i b)) h
  | .str i, .str j => if i.length + j.length ≤ sizeLine then .ok (.str (i ++ j)) h else .bad
  | .tup xs, .tup ys => if xs.length + ys.length ≤ sizeLine then .ok (.tup (xs ++ ys)) h else .bad
  | .ref n, .ref m => (match h[n]?, h[m]? with
    | some (.lst xs), some (.lst ys) => if xs.length + ys.length ≤ sizeLine then .ok (.ref h.length) (h ++ [.lst (xs ++ ys)]) else .bad
    | _, _ => .bad)
  | _, _ => .bad
theorem fin_lst {W : XW} {σ : L2.St} {Q : VK} {vs : List V} {ds : List D} (hr : HRel K μ H hd) (r : RepAll K μ H vs ds) (f : FinG (RD K) K W μ H σ (.ok (.ref hd.length) (hd ++ [.lst ds])) Q) {p : Addr} (hp : H p = none) : Q (.ref p) (upd H p (.lst vs)) := by
  refine f (μ ++ [p]) _ _ (Ext.laid hp) (hr.laid hp ⟨vs, upd_same, r.ext (Ext.laid hp)⟩) (.ref ?_)
  rw [← hr.len, List.getElem?_append_right (Nat.le_refl _)]
  simp
theorem fin_tup {W : XW} {σ : L2.St} {Q : VK} {vs : List V} {ds : List D} (hr : HRel K μ H hd) (r : RepAll K μ H vs ds) (f : FinG (RD K) K W μ H σ (.ok (.tup ds) hd) Q) {p : Addr} (hp : H p = none) : Q (.ref p) (upd H p (.tup vs)) :=
  f μ _ _ (Ext.new hp) (hr.new hp) (.tup (.inl (.inl upd_same)) (r.ext (Ext.new hp)))
theorem fin_tupA {W : XW} {σ : L2.St} {Q : VK} {vs : List V} {ds : List D} {a : Addr} (hr : HRel K μ H hd) (hs : SqT K H a vs) (r : RepAll K μ H vs ds) (f : FinG (RD K) K W μ H σ (.ok (.tup ds) hd) Q) : Q (.ref a) H := FinG.ok (R := RD K) f hr (.tup hs r)
theorem nil_of {vs : List V} {ds : List D} (r : RepAll K μ H vs ds) : vs = [] ↔ ds = [] := by
  cases r with
  | nil => simp
  | cons _ _ => simp
def rAddD (K : PySem.W.Frag) : R2 := fun x y H Q => (rI0 (fun i j => .int (i + j)) x y H Q) ∨ (∃ i k, x = .int i ∧ y = .bl k ∧ Q (.int (i + b2i k)) H) ∨ (∃ i j, x = .str i ∧ y = .str j ∧ i.length + j.length ≤ sizeLine ∧ Q (.str (i ++ j)) H) ∨ rCatA K x y H Q ∨ rCat x y H Q
theorem op_addD {X : Cx} : OpR X (binaryOp .Add) (rAddD X.K) := OpR.or op_add (OpR.or op_add_ib (OpR.or op_add_str (OpR.or op_catA op_cat)))
theorem lift_add : Lift2 K (rAddD K) dAdd := fun μ H hd x y dx dy W σ Q hr rx ry f => by
  cases rx with
  | int i =>
    cases ry with
    | int j => exact .inl ⟨_, _, rfl, rfl, FinG.ok (R := RD K) f hr (.int _)⟩
    | bl b => exact .inr (.inl ⟨_, _, rfl, rfl, FinG.ok (R := RD K) f hr (.int _)⟩)
    | _ => exact f.elim
  | str i =>
    cases ry with
    | str j =>
      unfold dAdd at f
      simp only at f
      split at f
      · rename_i hl
        exact .inr (.inr (.inl ⟨_, _, rfl, rfl, hl, FinG.ok (R := RD K) f hr (.str _)⟩))
      · exact f.elim
    | _ => exact f.elim
  | tup hs ra =>
    cases ry with
    | tup hs' ra' =>
      unfold dAdd at f
      simp only at f
      split at f
      · rename_i hl
        refine .inr (.inr (.inr (.inl ⟨_, _, _, _, rfl, rfl, hs, hs', by rw [ra.length, ra'.length]; exact hl, fun e => ?_, fun _ e => ?_, fun _ _ p hp => fin_tup hr (ra.append ra') f hp⟩)))
        · rw [(nil_of ra).mp e] at f
          exact fin_tupA hr hs' ra' f
        · rw [(nil_of ra').mp e, List.append_nil] at f
          exact fin_tupA hr hs ra f
      · exact f.elim
    | _ => exact f.elim
  | ref hn =>
    cases ry with
    | ref hm =>
      unfold dAdd at f
      simp only at f
      split at f
      · rename_i xs ys q1 q2
        obtain ⟨vs, h1, r1⟩ := hr.obj _ _ _ hn q1
        obtain ⟨ws, h2, r2⟩ := hr.obj _ _ _ hm q2
        split at f
        · rename_i hl
          exact .inr (.inr (.inr (.inr ⟨_, _, _, _, rfl, rfl, h1, h2, by rw [r1.length, r2.length]; exact hl, fun p hp => fin_lst hr (r1.append r2) f hp⟩)))
        · exact f.elim
      · exact f.elim
    | _ => exact f.elim
  | _ => exact f.elim
theorem de_add {X : Cx} {W : XW} {a b : Expr} {ma mb : EM} {pos : Pos} (ha : DE X W a ma) (hb : DE X W b mb) : DE X W (.BinOp a .Add b pos) (e2 dAdd ma mb) := de_op op_addD lift_add ha hb
def dII (C : Int → Int → Prop) [∀ i j, Decidable (C i j)] (g : Int → Int → D) (x y : D) : M D := fun h => match x, y with
  | .int i, .int j => if C i j then .ok (g i j) h else .bad
  | _, _ => .bad
theorem lift_II {C C' : Int → Int → Prop} [∀ i j, Decidable (C i j)] {g : Int → Int → D} {g' : Int → Int → V} (hc : ∀ i j, C i j → C' i j) (hg : ∀ K μ H i j, Rep K μ H (g' i j) (g i j)) : Lift2 K (rI C' g') (dII C g) := fun μ H hd x y dx dy W σ Q hr rx ry f => by
  cases rx with
  | int i =>
    cases ry with
    | int j =>
      unfold dII at f
      simp only at f
      split at f
      · rename_i h
        exact ⟨_, _, rfl, rfl, hc _ _ h, FinG.ok (R := RD K) f hr (hg _ _ _ _ _)⟩
      · exact f.elim
    | _ => exact f.elim
  | _ => exact f.elim
def dI0 (g : Int → Int → D) (x y : D) : M D := fun h => match x, y with
  | .int i, .int j => .ok (g i j) h
  | _, _ => .bad
theorem lift_I0 {g : Int → Int → D} {g' : Int → Int → V} (hg : ∀ K μ H i j, Rep K μ H (g' i j) (g i j)) : Lift2 K (rI0 g') (dI0 g) := fun μ H hd x y dx dy W σ Q hr rx ry f => by
  cases rx with
  | int i =>
    cases ry with
    | int j => exact ⟨_, _, rfl, rfl, FinG.ok (R := RD K) f hr (hg _ _ _ _ _)⟩
    | _ => exact f.elim
  | _ => exact f.elim
def MulOk (i j : Int) : Prop := i.natAbs.log2 + j.natAbs.log2 < 100000000
def DivOk (_ j : Int) : Prop := 0 < j ∧ j.natAbs.log2 < 9000
def PowOk (i j : Int) : Prop := 0 ≤ j ∧ j ≤ 1000000 ∧ i.natAbs < 2 ^ 64
theorem MulOk.x {i j : Int} (h : MulOk i j) : CMulX i j := by
  unfold MulOk at h
  have b : ∀ z : Int, Builtin.Int.intBits z ≤ z.natAbs.log2 + 1 := by
    intro z
    unfold Builtin.Int.intBits
    split
    · omega
    · omega
  have := b i
  have := b j
  unfold CMulX
  omega
instance (i j : Int) : Decidable (MulOk i j) := by unfold MulOk; infer_instance
instance (i j : Int) : Decidable (DivOk i j) := by unfold DivOk; infer_instance
instance (i j : Int) : Decidable (PowOk i j) := by unfold PowOk; infer_instance
def dSub : D → D → M D := dI0 fun i j => .int (i - j)
def dMul (x y : D) : M D := fun h => match x, y with
  | .int i, .int j => if MulOk i j then .ok (.int (i * j)) h else .bad
  | .ref n, .int k => (match h[n]? with
    | some (.lst xs) => if -(2 ^ 63) ≤ k ∧ k < 2 ^ 63 ∧ xs.length * k.toNat ≤ sizeLine then .ok (.ref h.length) (h ++ [.lst (List.replicate k.toNat xs).flatten]) else .bad
    | _ => .bad)
  | _, _ => .bad
theorem RepAll.rep {vs : List V} {ds : List D} (r : RepAll K μ H vs ds) : ∀ n : Nat, RepAll K μ H (List.replicate n vs).flatten (List.replicate n ds).flatten
  | 0 => .nil
  | n + 1 => by
    rw [List.replicate_succ, List.replicate_succ, List.flatten_cons, List.flatten_cons]
    exact r.append (r.rep n)
theorem lift_mul : Lift2 K (fun x y H Q => rI CMulX (fun i j => .int (i * j)) x y H Q ∨ rRep x y H Q) dMul := fun μ H hd x y dx dy W σ Q hr rx ry f => by
  unfold dMul at f
  split at f
  · split at f
    · rename_i hc
      cases rx
      cases ry
      exact .inl ⟨_, _, rfl, rfl, MulOk.x hc, FinG.ok (R := RD K) f hr (.int _)⟩
    · exact f.elim
  · split at f
    · rename_i xs q
      split at f
      · rename_i hc
        cases rx with
        | ref hn =>
          cases ry
          obtain ⟨vs, h1, ra⟩ := hr.obj _ _ _ hn q
          exact .inr ⟨_, _, vs, rfl, rfl, h1, hc.1, hc.2.1, by rw [ra.length]; exact hc.2.2, fun p hp => fin_lst hr (ra.rep _) f hp⟩
      · exact f.elim
    · exact f.elim
  · exact f.elim
def dDiv : D → D → M D := dII DivOk fun i j => .int (i / j)
def dMod : D → D → M D := dII (fun _ j => 0 < j) fun i j => .int (i % j)
def dPow : D → D → M D := dII PowOk fun i j => .int (i ^ j.toNat)
section
variable {X : Cx} {W : XW} {a b : Expr} {ma mb : EM} {pos : Pos}
theorem de_sub (ha : DE X W a ma) (hb : DE X W b mb) : DE X W (.BinOp a .Sub b pos) (e2 dSub ma mb) := de_op op_sub (lift_I0 fun _ _ _ _ _ => .int _) ha hb
theorem de_mul (ha : DE X W a ma) (hb : DE X W b mb) : DE X W (.BinOp a .Mult b pos) (e2 dMul ma mb) := de_op (OpR.or op_mulX op_rep) lift_mul ha hb
theorem de_div (ha : DE X W a ma) (hb : DE X W b mb) : DE X W (.BinOp a .FloorDiv b pos) (e2 dDiv ma mb) := de_op op_fdivW (lift_II (fun _ _ h => h) fun _ _ _ _ _ => .int _) ha hb
theorem de_mod (ha : DE X W a ma) (hb : DE X W b mb) : DE X W (.BinOp a .Mod b pos) (e2 dMod ma mb) := de_op op_mod (lift_II (fun _ _ h => h) fun _ _ _ _ _ => .int _) ha hb
theorem de_pow (ha : DE X W a ma) (hb : DE X W b mb) : DE X W (.BinOp a .Pow b pos) (e2 dPow ma mb) := de_op op_pow (lift_II (fun _ _ h => h) fun _ _ _ _ _ => .int _) ha hb
end
def dOrd (p : Int → Int → Bool) (q : Str → Str → Bool) (x y : D) : M D := fun h => match x, y with
  | .int i, .int j => .ok (.bl (p i j)) h
  | .str i, .str j => .ok (.bl (q i j)) h
  | _, _ => .bad
def rOrd (p : Int → Int → Bool) (q : Str → Str → Bool) : R2 := fun x y H Q => rI0 (fun i j => .bl (p i j)) x y H Q ∨ ∃ i j, x = .str i ∧ y = .str j ∧ Q (.bl (q i j)) H
theorem lift_ord {p : Int → Int → Bool} {q : Str → Str → Bool} : Lift2 K (rOrd p q) (dOrd p q) := fun μ H hd x y dx dy W σ Q hr rx ry f => by
  cases rx with
  | int i =>
    cases ry with
    | int j => exact .inl ⟨_, _, rfl, rfl, FinG.ok (R := RD K) f hr (.bl _)⟩
    | _ => exact f.elim
  | str i =>
    cases ry with
    | str j => exact .inr ⟨_, _, rfl, rfl, FinG.ok (R := RD K) f hr (.bl _)⟩
    | _ => exact f.elim
  | _ => exact f.elim
def strLt (i j : Str) : Bool := decide (i.cps.toList < j.cps.toList)
def dLt : D → D → M D := dOrd (fun i j => decide (i < j)) strLt
def dGt : D → D → M D := dOrd (fun i j => decide (j < i)) fun i j => strLt j i
def dGe : D → D → M D := dOrd (fun i j => decide (j ≤ i)) fun i j => !strLt i j
theorem op_ltD {X : Cx} : OpR X (compareOp .Lt) (rOrd (fun i j => decide (i < j)) strLt) := OpR.or op_lt op_lt_str
theorem op_gtD {X : Cx} : OpR X (compareOp .Gt) (rOrd (fun i j => decide (j < i)) fun i j => strLt j i) := OpR.or op_gt op_gt_str
theorem op_geD {X : Cx} : OpR X (compareOp .GtE) (rOrd (fun i j => decide (j ≤ i)) fun i j => !strLt i j) := OpR.or op_ge op_ge_str
mutual
def D.py : D → Option PyData
  | .non => some .none
  | .bl b => some (.bool b)
  | .int i => some (.int i)
  | .str x => some (.str x)
  | .tup xs => (D.pyAll xs).map .tuple
  | .rol xs => (D.pyAll xs).map .list
  | .ty _ => none
  | .ref _ => none
  | .con _ => none
  | .exn _ _ _ _ => none
def D.pyAll : List D → Option (List PyData)
  | [] => some []
  | x :: xs => match D.py x, D.pyAll xs with
    | some a, some b => some (a :: b)
    | _, _ => none
end
def pyH (h : Hd) (d : D) : Option PyData := match d with
  | .ref n => (match h[n]? with
    | some (.lst xs) => (D.pyAll xs).map .list
    | _ => none)
  | d => d.py
mutual
theorem py_rep {v : V} {d : D} {p : PyData} (e : D.py d = some p) : Rep K μ H v d → Dp K H v p
  | .non => by unfold D.py at e; cases e; exact .non
  | .bl b => by unfold D.py at e; cases e; exact .bl b
  | .int i => by unfold D.py at e; cases e; exact .int i
  | .str x => by unfold D.py at e; cases e; exact .str x
  | .ty n => by unfold D.py at e; cases e
  | .tup h r => by
    unfold D.py at e
    obtain ⟨ps, e1, e2⟩ := Option.map_eq_some_iff.mp e
    cases e2
    exact .tup h (pyAll_rep e1 r)
  | .rol h r => by
    unfold D.py at e
    obtain ⟨ps, e1, e2⟩ := Option.map_eq_some_iff.mp e
    cases e2
    exact .lst h.seq (pyAll_rep e1 r)
  | .ref h => by unfold D.py at e; cases e
  | .con a => by unfold D.py at e; cases e
  | .exn _ _ => by unfold D.py at e; cases e
theorem pyAll_rep {vs : List V} {ds : List D} {ps : List PyData} (e : D.pyAll ds = some ps) : RepAll K μ H vs ds → DpAll K H vs ps
  | .nil => by unfold D.pyAll at e; cases e; exact .nil
  | .cons r t => by
    unfold D.pyAll at e
    split at e
    · rename_i a b e1 e2
      cases e
      exact .cons (py_rep e1 r) (pyAll_rep e2 t)
    · cases e
end
theorem pyH_rep {v : V} {d : D} {p : PyData} (hr : HRel K μ H hd) (e : pyH hd d = some p) (r : Rep K μ H v d) : Dp K H v p := by
  unfold pyH at e
  split at e
  · split at e
    · rename_i xs q
      obtain ⟨ps, e1, e2⟩ := Option.map_eq_some_iff.mp e
      cases e2
      cases r with
      | ref hn =>
        obtain ⟨vs, h1, h2⟩ := hr.obj _ _ _ hn q
        exact .lst (.of h1) (pyAll_rep e1 h2)
    · cases e
  · exact py_rep e r
def dEqn (neg : Bool) (x y : D) : M D := fun h => match pyH h x, pyH h y with
  | some p, some q => if SeqAt.shaped p = true ∧ SeqAt.shaped q = true then .ok (.bl (neg ^^ PyData.eqv p q)) h else .bad
  | _, _ => .bad
def dEq : D → D → M D := dEqn false
def dNe : D → D → M D := dEqn true
theorem lift_eq {neg : Bool} : Lift2 K (fun x y H Q => ∃ d e, Dp K H x d ∧ Dp K H y e ∧ SeqAt.shaped d = true ∧ SeqAt.shaped e = true ∧ Q (.bl (neg ^^ PyData.eqv d e)) H) (dEqn neg) := fun μ H hd x y dx dy W σ Q hr rx ry f => by
  unfold dEqn at f
  split at f
  · rename_i p q e1 e2
    split at f
    · rename_i hs
      exact ⟨p, q, pyH_rep hr e1 rx, pyH_rep hr e2 ry, hs.1, hs.2, FinG.ok (R := RD K) f hr (.bl _)⟩
    · exact f.elim
  · exact f.elim
theorem op_eqD' {X : Cx} (hu : X.A.units + 64 < cLine) : OpR X (compareOp .Eq) (fun x y H Q => ∃ d e, Dp X.K H x d ∧ Dp X.K H y e ∧ SeqAt.shaped d = true ∧ SeqAt.shaped e = true ∧ Q (.bl (false ^^ PyData.eqv d e)) H) := by
  have e : (fun (x y : V) (H : Hp) (Q : VK) => ∃ d e, Dp X.K H x d ∧ Dp X.K H y e ∧ SeqAt.shaped d = true ∧ SeqAt.shaped e = true ∧ Q (.bl (false ^^ PyData.eqv d e)) H) = rEqD X.K := by
    funext x y H Q
    unfold rEqD
    simp only [Bool.false_xor]
  rw [e]
  exact op_eqD hu
theorem op_neD' {X : Cx} (hu : X.A.units + 64 < cLine) : OpR X (compareOp .NotEq) (fun x y H Q => ∃ d e, Dp X.K H x d ∧ Dp X.K H y e ∧ SeqAt.shaped d = true ∧ SeqAt.shaped e = true ∧ Q (.bl (true ^^ PyData.eqv d e)) H) := by
  have e : (fun (x y : V) (H : Hp) (Q : VK) => ∃ d e, Dp X.K H x d ∧ Dp X.K H y e ∧ SeqAt.shaped d = true ∧ SeqAt.shaped e = true ∧ Q (.bl (true ^^ PyData.eqv d e)) H) = rNeD X.K := by
    funext x y H Q
    unfold rNeD
    simp only [Bool.true_xor]
  rw [e]
  exact op_neD hu
def isD (neg : Bool) (x y : D) : M D := fun h => match y with
  | .non => .ok (.bl (neg ^^ (match x with | .non => true | _ => false))) h
  | .bl b => .ok (.bl (neg ^^ (match x with | .bl c => decide (c = b) | _ => false))) h
  | _ => .bad
def rIsD (neg : Bool) : R2 := fun x y H Q => (y = .non ∧ Q (.bl (neg ^^ decide (x = .non))) H) ∨ ∃ b, y = .bl b ∧ Q (.bl (neg ^^ decide (x = .bl b))) H
theorem is_v_bool {M : Model} {A : Around} {E : Value → Shared → Prop} {s : Shared} {Q : Value → Shared → Prop} {x : V} {v : Value} {b : Bool} (r : RelV x v) (h : Q (.bool (v == .bool b)) s) : wpAny M A (compareOp .Is v (.bool b)) Q E s := by
  cases x with
  | int _ => obtain ⟨t, rfl⟩ := r; exact wpAny_pure h
  | str _ => obtain ⟨t, rfl⟩ := r; exact wpAny_pure h
  | byt _ => obtain ⟨t, rfl⟩ := r; exact wpAny_pure h
  | flt _ => obtain ⟨t, rfl⟩ := r; exact wpAny_pure h
  | _ => cases r; exact wpAny_pure h
theorem isnot_v_bool {M : Model} {A : Around} {E : Value → Shared → Prop} {s : Shared} {Q : Value → Shared → Prop} {x : V} {v : Value} {b : Bool} (r : RelV x v) (h : Q (.bool (!(v == .bool b))) s) : wpAny M A (compareOp .IsNot v (.bool b)) Q E s := by
  cases x with
  | int _ => obtain ⟨t, rfl⟩ := r; exact wpAny_pure h
  | str _ => obtain ⟨t, rfl⟩ := r; exact wpAny_pure h
  | byt _ => obtain ⟨t, rfl⟩ := r; exact wpAny_pure h
  | flt _ => obtain ⟨t, rfl⟩ := r; exact wpAny_pure h
  | _ => cases r; exact wpAny_pure h
theorem rel_bool {x : V} {v : Value} {b : Bool} (r : RelV x v) : (v == Value.bool b) = decide (x = .bl b) := by
  cases x with
  | bl c => cases r; cases b <;> cases c <;> rfl
  | non => cases r; rfl
  | int _ => obtain ⟨t, rfl⟩ := r; rfl
  | str _ => obtain ⟨t, rfl⟩ := r; rfl
  | byt _ => obtain ⟨t, rfl⟩ := r; rfl
  | flt _ => obtain ⟨t, rfl⟩ := r; rfl
  | ref _ => cases r; rfl
  | ty _ => cases r; rfl
theorem op_isD {X : Cx} : OpR X (compareOp .Is) (rIsD false) := by
  intro pins s σ H x y v u Q I rx ry h
  rcases h with ⟨rfl, q⟩ | ⟨b, rfl, q⟩
  · cases ry
    exact is_none_gen ⟨.bl _, H, I, by rw [rx.none_iff]; rfl, by simpa using q⟩
  · cases ry
    exact is_v_bool rx ⟨.bl _, H, I, by rw [rel_bool rx]; rfl, by simpa using q⟩
theorem op_notD {X : Cx} : OpR X (compareOp .IsNot) (rIsD true) := by
  intro pins s σ H x y v u Q I rx ry h
  rcases h with ⟨rfl, q⟩ | ⟨b, rfl, q⟩
  · cases ry
    exact isnot_none_gen ⟨.bl _, H, I, by rw [rx.none_iff]; rfl, by simpa using q⟩
  · cases ry
    exact isnot_v_bool rx ⟨.bl _, H, I, by rw [rel_bool rx]; rfl, by simpa using q⟩
theorem lift_is {neg : Bool} : Lift2 K (rIsD neg) (isD neg) := fun μ H hd x y dx dy W σ Q hr rx ry f => by
  cases ry with
  | non =>
    refine .inl ⟨rfl, ?_⟩
    cases rx <;> exact FinG.ok (R := RD K) f hr (.bl _)
  | bl b =>
    refine .inr ⟨b, rfl, ?_⟩
    cases rx with
    | bl c =>
      have e : decide (V.bl c = V.bl b) = decide (c = b) := by cases b <;> cases c <;> rfl
      rw [e]
      exact FinG.ok (R := RD K) f hr (.bl _)
    | _ => exact FinG.ok (R := RD K) f hr (.bl _)
  | _ => exact f.elim
def dIx (x y : D) : M D := fun h => match y with
  | .int i => (match x with
    | .tup xs => (match atI xs i with
      | some d => .ok d h
      | none => .bad)
    | .str z => if z.length ≤ sizeLine then (match atI z.cps.toList i with
      | some c => .ok (.str ⟨#[c]⟩) h
      | none => .bad) else .bad
    | d => (match lstOf h d with
      | some xs => (match atI xs i with
        | some d => .ok d h
        | none => .bad)
      | none => .bad))
  | _ => .bad
theorem at_rep {vs : List V} {ds : List D} {i : Int} {d : D} (r : RepAll K μ H vs ds) (e : atI ds i = some d) : ∃ v, atI vs i = some v ∧ Rep K μ H v d := by
  unfold atI at e ⊢
  rw [r.length]
  cases q : ixN ds.length i with
  | none => rw [q] at e; cases e
  | some j =>
    rw [q] at e
    exact r.get e
theorem lift_ix : Lift2 K (rIx K) dIx := fun μ H hd x y dx dy W σ Q hr rx ry f => by
  cases ry with
  | int i =>
    unfold dIx at f
    simp only at f
    split at f
    · split at f
      · rename_i q
        cases rx with
        | tup hs ra =>
          obtain ⟨v, h1, h2⟩ := at_rep ra q
          exact .inr (.inl ⟨_, _, _, v, rfl, rfl, hs, h1, FinG.ok (R := RD K) f hr h2⟩)
      · exact f.elim
    · split at f
      · rename_i hl
        split at f
        · rename_i c q
          cases rx with
          | str z => exact .inr (.inr ⟨_, _, c, rfl, rfl, hl, q, FinG.ok (R := RD K) f hr (.str _)⟩)
        · exact f.elim
      · exact f.elim
    · split at f
      · rename_i ds q
        split at f
        · rename_i d q2
          obtain ⟨a, vs, rfl, h1, ra⟩ := lstOf_rep hr rx q
          obtain ⟨v, h2, h3⟩ := at_rep ra q2
          exact .inl ⟨_, _, _, v, rfl, rfl, h1, h2, FinG.ok (R := RD K) f hr h3⟩
        · exact f.elim
      · exact f.elim
  | _ => exact f.elim
theorem de_ixD {X : Cx} {W : XW} {a b : Expr} {ma mb : EM} {pos : Pos} (ha : DE X W a ma) (hb : DE X W b mb) (hs : PlainIx b := by exact fun _ _ => rfl) : DE X W (.Subscript a b pos) (e2 dIx ma mb) := de_ix ix_seq lift_ix ha hb hs
def dSetL (x y z : D) : Hd → Res Unit := fun h => match x, y with
  | .ref n, .int i => (match h[n]? with
    | some (.lst xs) => (match ixN xs.length i with
      | some j => .ok () (h.set n (.lst (xs.set j z)))
      | none => .bad)
    | _ => .bad)
  | _, _ => .bad
theorem lift_setL : LiftSet K rSetL dSetL := fun μ H hd x y z dx dy dz W σ Q hr rx ry rz f => by
  cases rx with
  | ref hn =>
    cases ry with
    | int i =>
      unfold dSetL at f
      simp only at f
      split at f
      · rename_i xs q
        split at f
        · rename_i j q2
          obtain ⟨vs, h1, ra⟩ := hr.obj _ _ _ hn q
          have ex : Ext μ H μ (upd H _ (.lst (vs.set j z))) := Ext.write h1 trivial
          refine ⟨_, vs, i, j, rfl, rfl, h1, by rw [ra.length]; exact q2, f μ _ () ex (hr.write hn h1 trivial ⟨_, upd_same, (ra.ext ex).set (rz.ext ex) j⟩) trivial⟩
        · exact f.elim
      · exact f.elim
    | _ => exact f.elim
  | _ => exact f.elim
end
end DL
namespace DL
open PySem PySem.Spec PyProof.Rows L2
section
variable {K : PySem.W.Frag} {μ : List Addr} {H : Hp} {hd : Hd}
def ty0 (h : Hd) : D → Option String
  | .non => some "NoneType"
  | .bl _ => some "bool"
  | .int _ => some "int"
  | .str _ => some "str"
  | .tup _ => some "tuple"
  | .rol _ => some "list"
  | .ref n => (match h[n]? with
    | some (.lst _) => some "list"
    | some (.dK _) => some "dict"
    | some (.dF _) => some "dict"
    | some (.dT _) => some "dict"
    | some (.dG _) => none
    | none => none)
  | _ => none
def bIsi (ds : List D) : M D := fun h => match ds with
  | [x, .ty c] => (match ty0 h x with
    | some t => (match kitB t c with
      | some b => .ok (.bl b) h
      | none => .bad)
    | none => .bad)
  | _ => .bad
theorem de_tyname {X : Cx} {W : XW} {x : Str} {n : String} {pos : Pos} (hm : X.mg x = none) (hg : Gl X x := by rfl) (hv : bootBuiltins x = some (.type n) := by decide +kernel) (hn : x ≠ "__name__" := by decide) (hd : (x == ("__debug__" : Str)) = false := by decide) : DE X W (.Name x pos) (eC (.ty n)) :=
  de_c (pe_bltn (v := .ty n) hg hm hv rfl hn hd) fun _ _ => .ty n
def len0 (h : Hd) : D → Option Nat
  | .str z => if z.length ≤ sizeLine then some z.length else none
  | .tup xs => some xs.length
  | .rol xs => some xs.length
  | .ref n => (match h[n]? with
    | some (.lst xs) => some xs.length
    | some (.dK xs) => some xs.length
    | _ => none)
  | _ => none
def bLen (ds : List D) : M D := fun h => match ds with
  | [x] => (match len0 h x with
    | some n => .ok (.int n) h
    | none => .bad)
  | _ => .bad
def rLenA (K : PySem.W.Frag) : List V → Hp → VK → Prop := fun xs H Q => (∃ x n, xs = [x] ∧ LenV K x H n ∧ Q (.int n) H) ∨ ∃ a kvs, xs = [V.ref a] ∧ H a = some (.dK kvs) ∧ Q (.int kvs.length) H
theorem KRep.length : ∀ {vs : List (Key × V)} {ds : List (Key × D)}, KRep K μ H vs ds → vs.length = ds.length
  | _, _, .nil => rfl
  | _, _, .cons _ t => by rw [List.length_cons, List.length_cons, KRep.length t]
theorem lift_len : LiftN K (rLenA K) bLen := fun μ H hd xs dx W σ Q hr rx f => by
  unfold bLen at f
  split at f
  · rename_i x
    split at f
    · rename_i n en
      cases rx with
      | cons r1 rr =>
        cases rr
        have q := FinG.ok (R := RD K) f hr (.int n)
        cases r1 with
        | str z =>
          unfold len0 at en
          simp only at en
          split at en
          · rename_i hl
            cases en
            exact .inl ⟨_, _, rfl, ⟨hl, rfl⟩, q⟩
          · cases en
        | tup hs ra => cases en; exact .inl ⟨_, _, rfl, .inr ⟨_, hs, ra.length.symm⟩, q⟩
        | rol hs ra => cases en; exact .inl ⟨_, _, rfl, .inl ⟨_, hs.seq, ra.length.symm⟩, q⟩
        | ref hn =>
          unfold len0 at en
          simp only at en
          split at en
          · rename_i xs e
            cases en
            obtain ⟨vs, h1, ra⟩ := hr.obj _ _ _ hn e
            exact .inl ⟨_, _, rfl, .inl ⟨_, .of h1, ra.length.symm⟩, q⟩
          · rename_i xs e
            cases en
            obtain ⟨vs, h1, ra⟩ := hr.obj _ _ _ hn e
            exact .inr ⟨_, _, rfl, h1, by rw [ra.length]; exact q⟩
          · cases en
        | _ => cases en
    · exact f.elim
  · exact f.elim
theorem call_lenA {X : Cx} : CallR X (.builtin "len") (rLenA X.K) := CallR.or call_len fun pins s σ H xs us Q I r ⟨a, kvs, e, h, q⟩ => call_lenD pins s σ H xs us Q I r ⟨a, kvs, e, h, q⟩
def bools : List D → Option (List Bool)
  | [] => some []
  | .bl b :: r => (bools r).map (b :: ·)
  | _ :: _ => none
theorem bools_rep : ∀ {vs : List V} {ds : List D} {bs : List Bool}, RepAll K μ H vs ds → bools ds = some bs → vs = bs.map V.bl
  | _, _, _, .nil, e => by cases e; rfl
  | _, _, _, .cons r t, e => by
    cases r with
    | bl b =>
      unfold bools at e
      obtain ⟨cs, e1, e2⟩ := Option.map_eq_some_iff.mp e
      subst e2
      rw [bools_rep t e1]
      rfl
    | _ => cases e
def bAll (ds : List D) : M D := fun h => match ds with
  | [x] => (match (lstOf h x).bind bools with
    | some bs => .ok (.bl (bs.all id)) h
    | none => .bad)
  | _ => .bad
theorem bools_of {x : V} {d : D} {bs : List Bool} (hr : HRel K μ H hd) (r : Rep K μ H x d) (e : (lstOf hd d).bind bools = some bs) : ∃ a, x = .ref a ∧ SqL K H a (bs.map V.bl) := by
  obtain ⟨ds, e1, e2⟩ := Option.bind_eq_some_iff.mp e
  obtain ⟨a, vs, rfl, h, ra⟩ := lstOf_rep hr r e1
  rw [bools_rep ra e2] at h
  exact ⟨a, rfl, h⟩
theorem lift_all : LiftN K (rAll K) bAll := fun μ H hd xs dx W σ Q hr rx f => by
  unfold bAll at f
  split at f
  · split at f
    · rename_i bs e
      cases rx with
      | cons r1 rr =>
        cases rr
        obtain ⟨a, rfl, h⟩ := bools_of hr r1 e
        exact ⟨a, bs, rfl, h, FinG.ok (R := RD K) f hr (.bl _)⟩
    · exact f.elim
  · exact f.elim
def bII (g : Int → Int → Int) (ds : List D) : M D := fun h => match ds with
  | [.int i, .int j] => .ok (.int (g i j)) h
  | _ => .bad
theorem lift_bII {g : Int → Int → Int} : LiftN K (fun xs H Q => ∃ i j, xs = [.int i, .int j] ∧ Q (.int (g i j)) H) (bII g) := fun μ H hd xs dx W σ Q hr rx f => by
  unfold bII at f
  split at f
  · cases rx with
    | cons r1 rr =>
      cases rr with
      | cons r2 rr2 =>
        cases rr2
        cases r1
        cases r2
        exact ⟨_, _, rfl, FinG.ok (R := RD K) f hr (.int _)⟩
  · exact f.elim
def bMax2 : List D → M D := bII fun i j => if j > i then j else i
def bDivmod (ds : List D) : M D := fun h => match ds with
  | [.int i, .int j] => if DivOk i j then .ok (.tup [.int (i / j), .int (i % j)]) h else .bad
  | _ => .bad
theorem lift_divmod : LiftN K (fun xs H Q => ∃ i j, xs = [.int i, .int j] ∧ CDivP i j ∧ ∀ p, H p = none → Q (.ref p) (upd H p (.tup [.int (i / j), .int (i % j)]))) bDivmod := fun μ H hd xs dx W σ Q hr rx f => by
  unfold bDivmod at f
  split at f
  · cases rx with
    | cons r1 rr =>
      cases rr with
      | cons r2 rr2 =>
        cases rr2
        cases r1
        cases r2
        split at f
        · rename_i i j hc
          exact ⟨_, _, rfl, ⟨hc.1, PyProof.noPylong_of_log2 hc.2⟩, fun p hp => fin_tup hr (.cons (.int _) (.cons (.int _) .nil)) f hp⟩
        · exact f.elim
  · exact f.elim
def bTuple (ds : List D) : M D := fun h => match ds with
  | [.tup xs] => .ok (.tup xs) h
  | [x] => (match lstOf h x with
    | some xs => .ok (.tup xs) h
    | none => .bad)
  | _ => .bad
theorem lift_tuple : LiftN K (fun xs H Q => ∃ p ys, xs = [.ref p] ∧ ((SqL K H p ys ∧ ∀ l, H l = none → Q (.ref l) (upd H l (.tup ys))) ∨ (SqT K H p ys ∧ Q (.ref p) H))) bTuple := fun μ H hd xs dx W σ Q hr rx f => by
  unfold bTuple at f
  split at f
  · cases rx with
    | cons r1 rr =>
      cases rr
      cases r1 with
      | tup hs ra => exact ⟨_, _, rfl, .inr ⟨hs, fin_tupA hr hs ra f⟩⟩
  · split at f
    · rename_i ds e
      cases rx with
      | cons r1 rr =>
        cases rr
        obtain ⟨a, vs, rfl, h1, ra⟩ := lstOf_rep hr r1 e
        exact ⟨a, vs, rfl, .inl ⟨h1, fun l hl => fin_tup hr ra f hl⟩⟩
    · exact f.elim
  · exact f.elim
abbrev OM := Sl → M (Option Int)
def oN : OM := fun _ h => .ok none h
def oS (e : EM) : OM := fun s h => (e s h).bind fun d h1 => match d with
  | .int i => .ok (some i) h1
  | _ => .bad
structure DO (X : Cx) (W : XW) (e : Option Expr) (m : OM) : Prop where
  po : PO X e (TG' (fun _ _ (v d : Option Int) => v = d) X.K W m)
def cutD (ds : List D) (lo hi : Option Int) : List D := (ds.drop (HT.sIx ds.length 0 lo)).take (HT.sIx ds.length ds.length hi - HT.sIx ds.length 0 lo)
theorem cut_rep {vs : List V} {ds : List D} {lo hi : Option Int} (r : RepAll K μ H vs ds) : RepAll K μ H (cutV vs lo hi) (cutD ds lo hi) := by
  unfold cutV cutD
  rw [r.length]
  exact (r.drop _).take _
def dSl (x : D) (lo hi : Option Int) : M D := fun h => match x with
  | .tup xs => .ok (.tup (cutD xs lo hi)) h
  | .str z => if z.length ≤ sizeLine then .ok (.str (cutS z lo hi)) h else .bad
  | d => (match lstOf h d with
    | some xs => .ok (.ref h.length) (h ++ [.lst (cutD xs lo hi)])
    | none => .bad)
def eSl (e : EM) (lo hi : OM) : EM := fun s h => (e s h).bind fun x h1 => (lo s h1).bind fun l h2 => (hi s h2).bind fun u h3 => dSl x l u h3
def rSlD (K : PySem.W.Frag) : V → Option Int → Option Int → Hp → VK → Prop := fun x lo hi H Q => rSlA K x lo hi H Q ∨ rSlL K x lo hi H Q ∨ rSlS x lo hi H Q
end
section
variable {X : Cx} {W : XW} {e : Expr} {m : EM} {lo hi : Option Expr} {ml mh : OM} {pos p2 : Pos}
theorem do_none : DO X W none oN := ⟨⟨fun pins s σ H Q I ⟨μ, sl, hd, sr, hr, f⟩ => po_none.run pins s σ H Q I (FinG.ok (R := fun _ _ (v d : Option Int) => v = d) f hr rfl)⟩⟩
theorem do_some (h : DE X W e m) : DO X W (some e) (oS m) := ⟨⟨fun pins s σ H Q I ⟨μ, sl, hd, sr, hr, f⟩ => (po_some h.pe).run pins s σ H Q I (by
  refine ⟨μ, sl, hd, sr, hr, (FinG.bind f).imp ?_⟩
  rintro x H1 ⟨μ1, hd1, dx, e1, hr1, rx, f1⟩
  cases rx with
  | int i => exact ⟨i, rfl, FinG.ok (R := fun _ _ (v d : Option Int) => v = d) f1 hr1 rfl⟩
  | _ => exact f1.elim)⟩⟩
theorem sl_D : SlR X (rSlD X.K) := SlR.or sl_tupA (SlR.or sl_list sl_str)
theorem de_sl (h : DE X W e m) (hl : DO X W lo ml) (hh : DO X W hi mh) : DE X W (.Subscript e (.Slice lo hi none p2) pos) (eSl m ml mh) := ⟨PE.imp (pe_slice sl_D h.pe hl.po hh.po) fun σ H Q ⟨μ, s, hd, sr, hr, f⟩ => by
  refine ⟨μ, s, hd, sr, hr, (FinG.bind f).imp ?_⟩
  rintro x H1 ⟨μ1, hd1, dx, e1, hr1, rx, f1⟩
  refine ⟨μ1, s, hd1, sr.ext e1, hr1, (FinG.bind f1).imp ?_⟩
  rintro l H2 ⟨μ2, hd2, _, e2, hr2, rfl, f2⟩
  refine ⟨μ2, s, hd2, sr.ext (e1.trans e2), hr2, (FinG.bind f2).imp ?_⟩
  rintro u H3 ⟨μ3, hd3, _, e3, hr3, rfl, f3⟩
  have rx3 := rx.ext (e2.trans e3)
  unfold dSl at f3
  split at f3
  · rename_i ys
    cases rx3 with
    | tup hs ra =>
      refine .inl ⟨_, _, rfl, hs, fun hw => ?_, fun _ p hp => fin_tup hr3 (cut_rep ra) f3 hp⟩
      have ec : cutD ys l u = ys := by
        unfold cutD
        rw [← ra.length, hw.1, hw.2]
        simp [ra.length]
      rw [ec] at f3
      exact fin_tupA hr3 hs ra f3
  · split at f3
    · rename_i hl
      cases rx3 with
      | str z => exact .inr (.inr ⟨_, rfl, hl, FinG.ok (R := RD X.K) f3 hr3 (.str _)⟩)
    · exact f3.elim
  · split at f3
    · rename_i ds ee
      obtain ⟨a, vs, rfl, h1, ra⟩ := lstOf_rep hr3 rx3 ee
      exact .inr (.inl ⟨a, vs, rfl, h1, fun p hp => fin_lst hr3 (cut_rep ra) f3 hp⟩)
    · exact f3.elim⟩
end
end DL
namespace DL
open PySem PySem.Spec PyProof.Rows L2
def iSeq (d : D) : M ItD := fun h => match d with
  | .tup xs => .ok (xs, fun _ => True) h
  | .rol xs => .ok (xs, fun _ => True) h
  | .ref n => (match h[n]? with
    | some (.lst xs) => .ok (xs, fun h' => h'[n]? = some (.lst xs)) h
    | _ => .bad)
  | .str z => .ok (z.cps.toList.map (fun c => .str ⟨#[c]⟩), fun _ => True) h
  | _ => .bad
def i1 (m : EM) (g : D → M ItD) : IM := fun s h => (m s h).bind g
def iA (m : AM) (g : List D → M ItD) : IM := fun s h => (m s h).bind g
section
variable {K : PySem.W.Frag} {μ μ' : List Addr} {H H' : Hp} {hd : Hd}
theorem it_tup {a : Addr} {vs : List V} {ds : List D} {chk : Hd → Prop} (hs : SqT K H a vs) (ra : RepAll K μ H vs ds) : RIt K μ H (Itt K a) (ds, chk) := fun μ' H' hd' e hr _ i => by
  have hs' := e.sqt hs
  refine ⟨fun d hd => ?_, fun h => ⟨vs, hs', by rw [ra.length]; exact Nat.le_of_eq h⟩⟩
  obtain ⟨v, h1, h2⟩ := ra.get hd
  refine ⟨⟨vs, v, hs', h1⟩, fun x H'' ⟨e1, y⟩ => ?_⟩
  subst e1
  have ev := y vs hs'
  rw [h1] at ev
  cases ev
  exact ⟨.refl, hr, h2.ext e⟩
theorem it_rol {a : Addr} {vs : List V} {ds : List D} {chk : Hd → Prop} (hs : Frz K H a vs) (ra : RepAll K μ H vs ds) : RIt K μ H (Itl K a) (ds, chk) := fun μ' H' hd' e hr _ i => by
  have hs' := (e.frz hs).seq
  refine ⟨fun d hd => ?_, fun h => ⟨vs, hs', by rw [ra.length]; exact Nat.le_of_eq h⟩⟩
  obtain ⟨v, h1, h2⟩ := ra.get hd
  refine ⟨⟨vs, v, hs', h1⟩, fun x H'' ⟨e1, y⟩ => ?_⟩
  subst e1
  have ev := y vs hs'
  rw [h1] at ev
  cases ev
  exact ⟨.refl, hr, h2.ext e⟩
theorem it_lst {n : Nat} {a : Addr} {ds : List D} {chk : Hd → Prop} (hn : μ[n]? = some a) (hc : ∀ h, chk h → h[n]? = some (.lst ds)) : RIt K μ H (Itl K a) (ds, chk) := fun μ' H' hd' e hr ck i => by
  obtain ⟨vs, h0, ra⟩ := hr.obj _ _ _ (e.nums _ _ hn) (hc _ ck)
  have hs' : SqL K H' a vs := .of h0
  refine ⟨fun d hd => ?_, fun h => ⟨vs, hs', by rw [ra.length]; exact Nat.le_of_eq h⟩⟩
  obtain ⟨v, h1, h2⟩ := ra.get hd
  refine ⟨⟨vs, v, hs', h1⟩, fun x H'' ⟨e1, y⟩ => ?_⟩
  subst e1
  have ev := y vs hs'
  rw [h1] at ev
  cases ev
  exact ⟨.refl, hr, h2⟩
theorem it_str {z : Str} {chk : Hd → Prop} : RIt K μ H (Its z) (z.cps.toList.map (fun c => D.str ⟨#[c]⟩), chk) := fun μ' H' hd' e hr _ i => by
  refine ⟨fun d hd => ?_, fun h => ?_⟩
  · rw [List.getElem?_map] at hd
    cases q : z.cps.toList[i]? with
    | none => rw [q] at hd; cases hd
    | some c =>
      rw [q] at hd
      cases hd
      rw [Array.getElem?_toList] at q
      refine ⟨(Array.getElem?_eq_some_iff.mp q).1, fun x H'' ⟨e1, c', y1, y2⟩ => ?_⟩
      subst e1
      rw [q] at y1
      cases y1
      subst y2
      exact ⟨.refl, hr, .str _⟩
  · have h' : (z.cps.toList.map (fun c => D.str ⟨#[c]⟩)).length ≤ i := Nat.le_of_eq h
    rw [List.length_map] at h'
    show z.cps.size ≤ i
    simpa using h'
theorem it_rng {lo : Int} {n : Nat} {chk : Hd → Prop} : RIt K μ H (Itr lo n) ((List.range n).map (fun (i : Nat) => D.int (lo + (i : Int))), chk) := fun μ' H' hd' e hr _ i => by
  refine ⟨fun d hd => ?_, fun h => ?_⟩
  · rw [List.getElem?_map] at hd
    rcases Nat.lt_or_ge i n with z | z
    · rw [List.getElem?_range z] at hd
      cases hd
      refine ⟨z, fun x H'' ⟨e1, y⟩ => ?_⟩
      subst e1
      subst y
      exact ⟨.refl, hr, .int _⟩
    · rw [List.getElem?_eq_none (by simpa using z)] at hd; cases hd
  · have h' : ((List.range n).map (fun (i : Nat) => D.int (lo + (i : Int)))).length ≤ i := Nat.le_of_eq h
    rw [List.length_map, List.length_range] at h'
    exact h'
end
section
variable {X : Cx} {W : XW} {e e2 tg : Expr} {es : List Expr} {m : EM} {ma : AM} {p pos : Pos}
theorem di_seq (h : DE X W e m) : DI X W tg e (i1 m iSeq) := ⟨⟨fun pins s σ H R I q => by
  obtain ⟨μ, sl, hd, sr, hr, f⟩ := q
  have rest : ∀ {J : Type} {Rr : List Addr → Hp → J → D → Prop} {Q : J → Hp → Prop}, (∀ d h1, m sl hd = .ok d h1 → FinG Rr X.K W μ H σ (.ok d h1) Q) → FinG Rr X.K W μ H σ (m sl hd) Q := fun {J Rr Q} q => by
    cases z : m sl hd with
    | ok d h1 => exact q d h1 z
    | exc x h1 => unfold i1 at f; rw [z] at f; exact f
    | bad => unfold i1 at f; rw [z] at f; exact f.elim
  unfold i1 at f
  cases z : m sl hd with
  | bad => rw [z] at f; exact f.elim
  | exc x h1 => exact (pi_tup (tg := tg) h.pe).run pins s σ H R I ⟨μ, sl, hd, sr, hr, by rw [z] at f ⊢; exact f⟩
  | ok d h1 =>
    rw [z] at f
    cases d with
    | tup ds => exact (pi_tup (tg := tg) h.pe).run pins s σ H R I ⟨μ, sl, hd, sr, hr, by
        rw [z]
        intro μ' H' v e1 hr1 rv
        cases rv with
        | tup hs ra => exact ⟨_, rfl, ⟨_, hs⟩, f μ' H' _ e1 hr1 (it_tup hs ra)⟩⟩
    | rol ds => exact (pi_list (tg := tg) h.pe).run pins s σ H R I ⟨μ, sl, hd, sr, hr, by
        rw [z]
        intro μ' H' v e1 hr1 rv
        cases rv with
        | rol hs ra => exact ⟨_, rfl, ⟨_, hs.seq⟩, f μ' H' _ e1 hr1 (it_rol hs ra)⟩⟩
    | str x => exact (pi_str (tg := tg) h.pe).run pins s σ H R I ⟨μ, sl, hd, sr, hr, by
        rw [z]
        intro μ' H' v e1 hr1 rv
        cases rv with
        | str x => exact ⟨_, rfl, f μ' H' _ e1 hr1 it_str⟩⟩
    | ref n =>
      simp only [Res.bind, iSeq] at f
      split at f
      · rename_i ds q
        exact (pi_list (tg := tg) h.pe).run pins s σ H R I ⟨μ, sl, hd, sr, hr, by
          rw [z]
          intro μ' H' v e1 hr1 rv
          cases rv with
          | ref hn =>
            obtain ⟨vs, h2, _⟩ := hr1.obj _ _ _ hn q
            exact ⟨_, rfl, ⟨_, .of h2⟩, f μ' H' _ e1 hr1 (it_lst hn fun _ h => h)⟩⟩
      · exact f.elim
    | _ => exact f.elim⟩⟩
def rng (lo : Int) (n : Nat) : List D := (List.range n).map (fun (i : Nat) => D.int (lo + (i : Int)))
def Big (n : Int) : Prop := -(2 ^ 62) ≤ n ∧ n < 2 ^ 62
instance (n : Int) : Decidable (Big n) := by unfold Big; infer_instance
def iRange1 (ds : List D) : M ItD := fun h => match ds with
  | [.int n] => if Big n then .ok (rng 0 n.toNat, fun _ => True) h else .bad
  | _ => .bad
theorem di_range1 {a : Expr} (hm : X.mg "range" = none) (h : DA X W [a] ma) (hg : Gl X "range" := by rfl) (hs : starEach [a] X.env = [(false, eval a X.env)] := by rfl) : DI X W tg (.Call (.Name "range" p) [a] [] pos) (iA ma iRange1) := ⟨PI.imp (pi_range1 hg hm h.pa hs) fun σ H Q ⟨μ, s, hd, sr, hr, f⟩ => by
  refine ⟨μ, s, hd, sr, hr, (FinG.bind f).imp ?_⟩
  rintro vs H1 ⟨μ1, hd1, dx, e1, hr1, rx, f1⟩
  unfold iRange1 at f1
  split at f1
  · split at f1
    · rename_i hb
      cases rx with
      | cons r1 rr =>
        cases rr
        cases r1
        exact ⟨_, rfl, hb.1, hb.2, FinG.ok f1 hr1 it_rng⟩
    · exact f1.elim
  · exact f1.elim⟩
end
end DL
namespace DL
open PySem PySem.Spec PyProof.Rows L2
def asT (d : D) : M Bool := fun h => match d with
  | .bl b => .ok b h
  | .non => .ok false h
  | .int i => .ok (i != 0) h
  | .str z => if z.length ≤ sizeLine then .ok ((z.length : Int) != 0) h else .bad
  | .tup xs => .ok (!xs.isEmpty) h
  | d => (match lstOf h d with
    | some xs => .ok (!xs.isEmpty) h
    | none => .bad)
def tTr (a : EM) : TM := fun s h => (a s h).bind asT
theorem empty_rep {K : PySem.W.Frag} {μ : List Addr} {H : Hp} {vs : List V} {ds : List D} (r : RepAll K μ H vs ds) : vs.isEmpty = ds.isEmpty := by cases r <;> rfl
theorem dt_tr {X : Cx} {W : XW} {e : Expr} {m : EM} (h : DE X W e m) (he : ∀ whole, isTrue e X.env whole = (do let v ← whole; standAt e.pos; holding [v] (truthy v)) := by intro _; rfl) : DT X W e (tTr m) := ⟨PT.imp (pt_truth h.pe he) fun σ H Q ⟨μ, s, hd, sr, hr, f⟩ => by
  refine ⟨μ, s, hd, sr, hr, (FinG.bind f).imp ?_⟩
  rintro x H1 ⟨μ1, hd1, dx, e1, hr1, rx, f1⟩
  unfold asT at f1
  split at f1
  · cases rx; exact ⟨_, rfl, FinG.ok (R := RB) f1 hr1 rfl⟩
  · cases rx; exact ⟨_, rfl, FinG.ok (R := RB) f1 hr1 rfl⟩
  · cases rx; exact ⟨_, rfl, FinG.ok (R := RB) f1 hr1 rfl⟩
  · split at f1
    · rename_i hl
      cases rx
      exact ⟨_, ⟨hl, rfl⟩, FinG.ok (R := RB) f1 hr1 rfl⟩
    · exact f1.elim
  · cases rx with
    | tup hs ra => exact ⟨_, .inr (.inl ⟨_, hs, rfl⟩), by rw [empty_rep ra]; exact FinG.ok (R := RB) f1 hr1 rfl⟩
  · split at f1
    · rename_i ds q
      obtain ⟨a, vs, rfl, h1, ra⟩ := lstOf_rep hr1 rx q
      exact ⟨_, .inl ⟨_, h1, rfl⟩, by rw [empty_rep ra]; exact FinG.ok (R := RB) f1 hr1 rfl⟩
    · exact f1.elim⟩
theorem hu64 {k : Nat} {A : Around} (r : Room k A) : A.units + 64 < cLine := by have := r.un; omega
theorem hu65 {k : Nat} {A : Around} (r : Room k A) : A.units + 65 < cLine := by have := r.un; omega
theorem de_glob {X : Cx} {W : XW} {x : Str} {v : V} {u : Value} {d : D} {pos : Pos} (hm : X.mg x = some u) (r : RelV v u) (hr : ∀ μ H, Rep X.K μ H v d) (hg : Gl X x := by rfl) (hd : (x == ("__debug__" : Str)) = false := by decide) : DE X W (.Name x pos) (eC d) :=
  de_c (pe_glob hg hm r hd) hr
def tyM (T : String) (x : D) (h : Hd) : Bool := match x with
  | .str _ => T == "str"
  | .rol _ => T == "list"
  | .ref n => (match h[n]? with
    | some (.lst _) => T == "list"
    | some (.dK _) => T == "dict"
    | _ => false)
  | _ => false
theorem tyM_rep {K : PySem.W.Frag} {μ : List Addr} {H : Hp} {hd : Hd} {T : String} {x : V} {d : D} (hr : HRel K μ H hd) (r : Rep K μ H x d) (e : tyM T d hd = true) : tyV K T x H := by
  cases r with
  | str z => exact eq_of_beq e
  | rol h _ => exact .inl ⟨eq_of_beq e, _, h.seq⟩
  | ref hn =>
    unfold tyM at e
    simp only at e
    split at e
    · rename_i q
      obtain ⟨vs, h1, _⟩ := hr.obj _ _ _ hn q
      exact .inl ⟨eq_of_beq e, _, .of h1⟩
    · rename_i q
      obtain ⟨vs, h1, _⟩ := hr.obj _ _ _ hn q
      exact .inr (.inr (.inl ⟨eq_of_beq e, .inl ⟨_, h1⟩⟩))
    · cases e
  | _ => cases e
def eM (T : String) (g : D → List D → M D) (o : EM) (a : AM) : EM := fun s h => (o s h).bind fun x h1 => if tyM T x h1 = true then (a s h1).bind fun ds h2 => g x ds h2 else .bad
def LiftM (K : PySem.W.Frag) (r : V → List V → Hp → VK → Prop) (g : D → List D → M D) : Prop := ∀ (μ : List Addr) (H : Hp) (hd : Hd) (x : V) (dx : D) (xs : List V) (dxs : List D) (W : XW) (σ : L2.St) (Q : VK), HRel K μ H hd → Rep K μ H x dx → RepAll K μ H xs dxs → FinG (RD K) K W μ H σ (g dx dxs hd) Q → r x xs H Q
section
variable {X : Cx} {W : XW} {o e : Expr} {es : List Expr} {mo : EM} {ma : AM} {apos cpos : Pos} {T id : String} {name : Str} {r : V → List V → Hp → VK → Prop} {g : D → List D → M D}
theorem de_m (pa : PlainAttrs T) (slot : Slot T name id) (hty : typeOf (.builtin id) = pure (.type "method_descriptor")) (hm : MtR X id r) (l : LiftM X.K r g) (ho : DE X W o mo) (ha : DA X W (e :: es) ma)
    (hbase : attributeBase o name X.env (eval o X.env) = eval o X.env := by rfl)
    (hfew : ((backTo cpos (starEach (e :: es) X.env)).all (fun x => !x.1) && (backToKw cpos (keywordEach [] X.env)).all (fun x => x.1.isSome)
      && decide ((e :: es).length + ([] : List Keyword).length + (if ([] : List Keyword).isEmpty then 0 else 1) < 30)) = true := by rfl)
    (hline : (apos.endLine == cpos.line) = true := by rfl) (hs : starEach (e :: es) X.env = (false, eval e X.env) :: starEach es X.env := by rfl) (hplain : (backTo cpos (starEach es X.env)).any (·.1) = false := by rfl) :
    DE X W (.Call (.Attribute o name apos) (e :: es) [] cpos) (eM T g mo ma) := ⟨PE.imp (pe_bm pa slot hty hm ho.pe ha.pa hbase hfew hline hs hplain) fun σ H Q ⟨μ, s, hd, sr, hr, f⟩ => by
  refine ⟨μ, s, hd, sr, hr, (FinG.bind f).imp ?_⟩
  rintro x H1 ⟨μ1, hd1, dx, e1, hr1, rx, f1⟩
  split at f1
  · rename_i ht
    refine ⟨tyM_rep hr1 rx ht, μ1, s, hd1, sr.ext e1, hr1, (FinG.bind f1).imp ?_⟩
    rintro xs H2 ⟨μ2, hd2, dxs, e2, hr2, rxs, f2⟩
    exact l μ2 H2 hd2 x dx xs dxs W σ Q hr2 (rx.ext e2) rxs f2
  · exact f1.elim⟩
end
def mApp (x : D) (ds : List D) : M D := fun h => match x, ds with
  | .ref n, [d] => (match h[n]? with
    | some (.lst xs) => if xs.length < sizeLine then .ok .non (h.set n (.lst (xs ++ [d]))) else .bad
    | _ => .bad)
  | _, _ => .bad
theorem lift_app {K : PySem.W.Frag} : LiftM K (fun x vs H Q => ∃ l xs y, x = .ref l ∧ vs = [y] ∧ H l = some (.lst xs) ∧ xs.length < sizeLine ∧ Q .non (upd H l (.lst (xs ++ [y])))) mApp := fun μ H hd x dx xs dxs W σ Q hr rx rxs f => by
  cases rx with
  | ref hn =>
    cases rxs with
    | nil => exact f.elim
    | cons r1 rr =>
      rename_i y _ _ _
      cases rr with
      | nil =>
        unfold mApp at f
        simp only at f
        split at f
        · rename_i ds q
          split at f
          · rename_i hl
            obtain ⟨vs, h1, ra⟩ := hr.obj _ _ _ hn q
            have ex : Ext μ H μ (upd H _ (.lst (vs ++ [y]))) := Ext.write h1 trivial
            exact ⟨_, vs, _, rfl, rfl, h1, by rw [ra.length]; exact hl, f μ _ _ ex (hr.write hn h1 trivial ⟨_, upd_same, (ra.ext ex).append (.one (r1.ext ex))⟩) .non⟩
          · exact f.elim
        · exact f.elim
      | cons _ _ => exact f.elim
  | _ => exact f.elim
theorem de_app {X : Cx} {W : XW} {o e : Expr} {mo : EM} {ma : AM} {apos cpos : Pos} (ho : DE X W o mo) (ha : DA X W [e] ma)
    (hbase : attributeBase o "append" X.env (eval o X.env) = eval o X.env := by rfl)
    (hfew : ((backTo cpos (starEach [e] X.env)).all (fun x => !x.1) && (backToKw cpos (keywordEach [] X.env)).all (fun x => x.1.isSome)
      && decide ([e].length + ([] : List Keyword).length + (if ([] : List Keyword).isEmpty then 0 else 1) < 30)) = true := by rfl)
    (hline : (apos.endLine == cpos.line) = true := by rfl) (hs : starEach [e] X.env = (false, eval e X.env) :: starEach [] X.env := by rfl) (hplain : (backTo cpos (starEach [] X.env)).any (·.1) = false := by rfl) :
    DE X W (.Call (.Attribute o "append" apos) [e] [] cpos) (eM "list" mApp mo ma) := de_m PySem.F.plainAttrs_list PySem.F.slot_list_append PySem.F.type_list_append mt_append lift_app ho ha hbase hfew hline hs hplain
end DL
namespace DL
open PySem PySem.Spec PyProof.Rows L2
theorem ints_rep {K : PySem.W.Frag} {μ : List Addr} {H : Hp} : ∀ ns : List Int, RepAll K μ H (ns.map V.int) (ns.map D.int)
  | [] => .nil
  | n :: ns => .cons (.int n) (ints_rep ns)
theorem top_mk {K : PySem.W.Frag} {mg : Str → Option Value} {h : Heap} {x : Str} {st : Stmt} {ps : List Str} {f : Addr} {oc : Value} {od an : Option Addr} {osl : Array (Option Value)} {kV doc pm cdv ct : Value} (X : K.In h) (G : h.Ns mainGlobals mg)
    (a : PySem.W.nsIn K mainGlobals x = some (some (.ref f))) (l : K.lookup f = some ⟨oc, od, .func (PySem.W.fnOf x x (defArgs st) (defBody st) (defScope st) .none kV doc pm an cdv ct), osl⟩) (c : PySem.W.codeIn K cdv x = true) (k : PySem.W.keepIn K (.ref f) = true)
    (hb : ∀ (kV doc pm : Value) (an : Option Addr) (cdv ct : Value) (us : List Value), us.length = ps.length → bindArgs (PySem.W.fnOf x x (defArgs st) (defBody st) (defScope st) .none kV doc pm an cdv ct) ⟨us, []⟩ = pure (ps.zip us)) : Top K mg x st ps :=
  ⟨f, _, fun_mk l c k, PySem.W.mg_of X G a, (fun_mk l c k).binds hb⟩
theorem law_sp {K : PySem.W.Frag} {H : Hp} {a : Addr} {ns : List Int} {F : List D → M D} (hO : Only H) (hS : SqL K H a (ns.map V.int)) (h : ∃ h', F [.rol (ns.map D.int)] [] = .ok (.bl true) h') : spD K 1 F [.ref a] H (fun v _ => v = .bl true) fun _ _ _ => False := by
  obtain ⟨h', e⟩ := h
  have fz : Frz K H a (ns.map V.int) := by
    rcases hS with (z | ⟨o, z⟩) | z
    · rcases hO a with y | ⟨o, xs, y⟩
      · rw [z] at y; cases y
      · rw [z] at y; cases y
    · exact .inl ⟨o, z⟩
    · exact .inr z
  refine ⟨[], [], [.rol (ns.map D.int)], ⟨rfl, fun n m a h => by simp at h, fun n a o h => by simp at h⟩, .cons (.rol fz (ints_rep ns)) .nil, rfl, ?_⟩
  rw [e]
  intro μ' H' v _ _ rv
  cases rv
  rfl
end DL
namespace DL
open PySem PySem.Spec PyProof.Rows L2
section
variable {K : PySem.W.Frag} {μ : List Addr} {H : Hp} {hd : Hd}
def pyL (h : Hd) (d : D) : Option (List PyData) := (lstOf h d).bind D.pyAll
theorem pyL_rep {v : V} {d : D} {ps : List PyData} (hr : HRel K μ H hd) (e : pyL hd d = some ps) (r : Rep K μ H v d) : ∃ a, v = .ref a ∧ Dp K H v (.list ps) := by
  obtain ⟨ds, e1, e2⟩ := Option.bind_eq_some_iff.mp e
  obtain ⟨a, vs, rfl, hs, ra⟩ := lstOf_rep hr r e1
  exact ⟨a, rfl, .lst hs (pyAll_rep e2 ra)⟩
def mCount (x : D) (ds : List D) : M D := fun h => match ds with
  | [y] => (match pyL h x, pyH h y with
    | some ps, some p => if SeqAt.shaped (.list ps) = true ∧ SeqAt.shaped p = true then .ok (.int ((ps.countP fun z => PyData.eqv z p : Nat) : Int)) h else .bad
    | _, _ => .bad)
  | _ => .bad
def rInT (K : PySem.W.Frag) (neg : Bool) : R2 := fun x y H Q => ∃ d ds, Dp K H x d ∧ Dp K H y (.tuple ds) ∧ SeqAt.shaped d = true ∧ SeqAt.shaped (.tuple ds) = true ∧ Q (.bl (neg ^^ ds.any fun z => PyData.eqv z d)) H
theorem op_inT {X : Cx} (hu : X.A.units + 65 < cLine) : OpR X (compareOp .In) (rInT X.K false) := by
  intro pins s σ H x y v u Q I rx ry h
  obtain ⟨d, ds, hd, he, sd, se, q⟩ := h
  obtain ⟨as, r1⟩ := Dp.reads I d x v hd rx
  obtain ⟨bs, r2⟩ := Dp.reads I (.tuple ds) y u he ry
  exact SeqAt.in_tuple_reads r2 r1 (SeqAt.canLay_of_shaped se) (SeqAt.canLay_of_shaped sd) (room_in_shaped sd hu) ⟨.bl _, H, I, rfl, by simpa using q⟩
theorem op_notInT {X : Cx} (hu : X.A.units + 65 < cLine) : OpR X (compareOp .NotIn) (rInT X.K true) := by
  intro pins s σ H x y v u Q I rx ry h
  obtain ⟨d, ds, hd, he, sd, se, q⟩ := h
  obtain ⟨as, r1⟩ := Dp.reads I d x v hd rx
  obtain ⟨bs, r2⟩ := Dp.reads I (.tuple ds) y u he ry
  exact SeqAt.notIn_tuple_reads r2 r1 (SeqAt.canLay_of_shaped se) (SeqAt.canLay_of_shaped sd) (room_in_shaped sd hu) ⟨.bl _, H, I, rfl, by simpa using q⟩
def rInX (K : PySem.W.Frag) (neg : Bool) : R2 := fun x y H Q =>
  (∃ d ds, Dp K H x d ∧ Dp K H y (.list ds) ∧ SeqAt.shaped d = true ∧ SeqAt.shaped (.list ds) = true ∧ Q (.bl (neg ^^ ds.any fun z => PyData.eqv z d)) H) ∨ rInT K neg x y H Q ∨
  (∃ i j, x = .str i ∧ y = .str j ∧ Q (.bl (neg ^^ !(Builtin.Str.occurrences j i 0 j.length 1).isEmpty)) H)
theorem op_inX {X : Cx} (hu : X.A.units + 65 < cLine) : OpR X (compareOp .In) (rInX X.K false) :=
  OpR.or (by
    intro pins s σ H x y v u Q I rx ry ⟨d, ds, a, b, c, e, q⟩
    exact op_inD hu pins s σ H x y v u Q I rx ry ⟨d, ds, a, b, c, e, by simpa using q⟩) (OpR.or (op_inT hu) (by
    intro pins s σ H x y v u Q I rx ry ⟨i, j, a, b, q⟩
    exact op_in_str pins s σ H x y v u Q I rx ry ⟨i, j, a, b, by simpa using q⟩))
theorem op_notInX {X : Cx} (hu : X.A.units + 65 < cLine) : OpR X (compareOp .NotIn) (rInX X.K true) :=
  OpR.or (by
    intro pins s σ H x y v u Q I rx ry ⟨d, ds, a, b, c, e, q⟩
    exact op_notInD hu pins s σ H x y v u Q I rx ry ⟨d, ds, a, b, c, e, by simpa using q⟩) (OpR.or (op_notInT hu) (by
    intro pins s σ H x y v u Q I rx ry ⟨i, j, a, b, q⟩
    exact L2.op_notin_str pins s σ H x y v u Q I rx ry ⟨i, j, a, b, by simpa using q⟩))
def dIn (neg : Bool) (x y : D) : M D := fun h => match y with
  | .str j => (match x with
    | .str i => .ok (.bl (neg ^^ !(Builtin.Str.occurrences j i 0 j.length 1).isEmpty)) h
    | _ => .bad)
  | .tup ys => (match pyH h x, D.pyAll ys with
    | some p, some ps => if SeqAt.shaped p = true ∧ SeqAt.shaped (.tuple ps) = true then .ok (.bl (neg ^^ ps.any fun z => PyData.eqv z p)) h else .bad
    | _, _ => .bad)
  | y => (match pyH h x, pyL h y with
    | some p, some ps => if SeqAt.shaped p = true ∧ SeqAt.shaped (.list ps) = true then .ok (.bl (neg ^^ ps.any fun z => PyData.eqv z p)) h else .bad
    | _, _ => .bad)
theorem lift_in {neg : Bool} : Lift2 K (rInX K neg) (dIn neg) := fun μ H hd x y dx dy W σ Q hr rx ry f => by
  unfold dIn at f
  split at f
  · split at f
    · cases rx
      cases ry
      exact .inr (.inr ⟨_, _, rfl, rfl, FinG.ok (R := RD K) f hr (.bl _)⟩)
    · exact f.elim
  · split at f
    · rename_i p ps e1 e2
      split at f
      · rename_i hs
        cases ry with
        | tup hs2 ra => exact .inr (.inl ⟨p, ps, pyH_rep hr e1 rx, .tup hs2 (pyAll_rep e2 ra), hs.1, hs.2, FinG.ok (R := RD K) f hr (.bl _)⟩)
      · exact f.elim
    · exact f.elim
  · split at f
    · rename_i p ps e1 e2
      split at f
      · rename_i hs
        obtain ⟨a, rfl, hl⟩ := pyL_rep hr e2 ry
        exact .inl ⟨p, ps, pyH_rep hr e1 rx, hl, hs.1, hs.2, FinG.ok (R := RD K) f hr (.bl _)⟩
      · exact f.elim
    · exact f.elim
def mPop (x : D) (ds : List D) : M D := fun h => match x, ds with
  | .ref n, [] => (match h[n]? with
    | some (.lst xs) => (match xs[xs.length - 1]? with
      | some y => .ok y (h.set n (.lst xs.dropLast))
      | none => .bad)
    | _ => .bad)
  | _, _ => .bad
def mExt (x : D) (ds : List D) : M D := fun h => match x, ds with
  | .ref n, [.ref m] => (match h[n]?, h[m]? with
    | some (.lst xs), some (.lst ys) => if xs.length + ys.length ≤ sizeLine then .ok .non (h.set n (.lst (xs ++ ys))) else .bad
    | _, _ => .bad)
  | _, _ => .bad
theorem lift_ext : LiftM K rExtend mExt := fun μ H hd x dx xs dxs W σ Q hr rx rxs f => by
  unfold mExt at f
  split at f
  · split at f
    · rename_i as bs q q2
      split at f
      · rename_i hl
        cases rx with
        | ref hn =>
          cases rxs with
          | cons r1 rr =>
            cases rr
            cases r1 with
            | ref hm =>
              obtain ⟨vs, h1, ra⟩ := hr.obj _ _ _ hn q
              obtain ⟨ws, h2, rb⟩ := hr.obj _ _ _ hm q2
              have ex : Ext μ H μ (upd H _ (.lst (vs ++ ws))) := Ext.write h1 trivial
              exact ⟨_, _, vs, ws, rfl, rfl, h1, h2, by rw [ra.length, rb.length]; exact hl, f μ _ _ ex (hr.write hn h1 trivial ⟨_, upd_same, (ra.ext ex).append (rb.ext ex)⟩) .non⟩
      · exact f.elim
    · exact f.elim
  · exact f.elim
def mIns (x : D) (ds : List D) : M D := fun h => match x, ds with
  | .ref n, [.int i, y] => (match h[n]? with
    | some (.lst xs) => if xs.length < sizeLine ∧ 0 ≤ i ∧ i < 2 ^ 63 then .ok .non (h.set n (.lst (xs.take i.toNat ++ [y] ++ xs.drop i.toNat))) else .bad
    | _ => .bad)
  | _, _ => .bad
theorem lift_ins : LiftM K (fun x vs H Q => ∃ (l : Addr) (xs : List V) (i : Int) (y : V), x = .ref l ∧ vs = [.int i, y] ∧ H l = some (.lst xs) ∧ xs.length < sizeLine ∧ 0 ≤ i ∧ i < 2 ^ 63 ∧
    Q .non (upd H l (.lst (xs.take i.toNat ++ [y] ++ xs.drop i.toNat)))) mIns := fun μ H hd x dx xs dxs W σ Q hr rx rxs f => by
  unfold mIns at f
  split at f
  · split at f
    · rename_i as q
      split at f
      · rename_i hl
        cases rx with
        | ref hn =>
          cases rxs with
          | cons r1 rr =>
            cases rr with
            | @cons y _ _ _ r2 rr =>
              cases rr
              cases r1
              obtain ⟨vs, h1, ra⟩ := hr.obj _ _ _ hn q
              have ex : ∀ zs, Ext μ H μ (upd H _ (.lst zs)) := fun zs => Ext.write h1 trivial
              exact ⟨_, vs, _, y, rfl, rfl, h1, by rw [ra.length]; exact hl.1, hl.2.1, hl.2.2, f μ _ _ (ex _) (hr.write hn h1 trivial ⟨_, upd_same, (((ra.ext (ex _)).take _).append (.one (r2.ext (ex _)))).append ((ra.ext (ex _)).drop _)⟩) .non⟩
      · exact f.elim
    · exact f.elim
  · exact f.elim
end
section
variable {X : Cx} {W : XW} {o e : Expr} {es : List Expr} {mo : EM} {ma : AM} {apos cpos : Pos}
end
structure CF (K : PySem.W.Frag) (mg : Str → Option Value) (x : Str) (d : D) : Prop where
  ex : ∃ (v : V) (u : Value), mg x = some u ∧ RelV v u ∧ ∀ μ H, Rep K μ H v d
theorem CF.de {X : Cx} {W : XW} {x : Str} {d : D} {pos : Pos} (c : CF X.K X.mg x d) (hg : Gl X x := by rfl) (hd : (x == ("__debug__" : Str)) = false := by decide) : DE X W (.Name x pos) (eC d) := by
  obtain ⟨v, u, h1, h2, h3⟩ := c.ex
  exact de_glob h1 h2 h3 hg hd
section
variable {K : PySem.W.Frag} {mg : Str → Option Value} {h : Heap} {x : Str}
theorem cf_str {z : Str} {t : Tok} (X : K.In h) (G : h.Ns mainGlobals mg) (a : PySem.W.nsIn K mainGlobals x = some (some (.str z t))) : CF K mg x (.str z) := ⟨.str z, _, PySem.W.mg_of X G a, ⟨t, rfl⟩, fun _ _ => .str z⟩
end
end DL
namespace DL
open PySem PySem.Spec PyProof.Rows L2
section
variable {X : Cx} {pins : List (Addr × Obj)} {σ : L2.St} {H : Hp} {s : Shared}
end
section
variable {K : PySem.W.Frag} {μ : List Addr} {H : Hp} {hd : Hd}
end
end DL
namespace DL
open PySem PySem.Spec PyProof.Rows L2
end DL
namespace DL
open PySem PySem.Spec PyProof.Rows L2
end DL
namespace DL
open PySem PySem.Spec PyProof.Rows L2
def relab (scope sc : Scope) : Scope := { scope with names := scope.names.map fun (n, k) => if (k == .free && sc.kind == .function && sc.names.lookup n == some .cell) then (n, .cell) else (n, k) }
theorem blkOk_nest {N : List Str} {scope1 scope sc : Scope} {own : List (Str × Nat)} {cl : List (Str × Addr)} {C : Addr} {env : Env} (e : env.scope = sc) (h : blkC N (relab scope1 sc) scope own = true) : BlkOk N (compEnvC scope1 cl C env).scope scope own := by
  subst e
  exact blkOk_by (sc := relabel scope1 env) h
end DL
namespace DL
open PySem PySem.Spec PyProof.Rows L2
noncomputable def eG (e : EM) : EM := fun s h => (e s h).bind fun d h1 => gc h d h1
open Classical in
noncomputable def SR.gcS (h : Hd) : SR → SR
  | .nx s1 h1 => if OkBelow h h1 ∧ (∀ d, some d ∈ s1 → d.lo h.length = true) then .nx s1 (h1.take h.length) else .nx s1 h1
  | .rt d h1 => (match gc h d h1 with
    | .ok d2 h2 => .rt d2 h2
    | _ => .bad)
  | r => r
noncomputable def sG (m : SM) : SM := fun s h => (m s h).gcS h
def SR.wp (vs : List Nat) : SR → SR
  | .nx s1 h1 => .nx (wipeD s1 vs) h1
  | r => r
def sW (vs : List Nat) (m : SM) : SM := fun s h => (m s h).wp vs
theorem gc_finW {K : PySem.W.Frag} {W : XW} {μ : List Addr} {H : Hp} {hd : Hd} {σ : L2.St} {r : Res D} {Q : VK} (hr : HRel K μ H hd) (f : FinG (RD K) K W μ H σ (r.bind fun d h1 => gc hd d h1) Q) : FinG (RD K) K W μ H σ r Q := by
  cases r with
  | ok d h1 => exact gc_fin hr f
  | exc x h1 => exact f
  | bad => exact f
noncomputable def tG (t : TM) : TM := fun s h => (t s h).bind fun c h1 => (gc h (.bl c) h1).bind asB
theorem tG_fin {K : PySem.W.Frag} {W : XW} {μ : List Addr} {H : Hp} {hd : Hd} {σ : L2.St} {r : Res Bool} {Q : Bool → Hp → Prop} (hr : HRel K μ H hd) (f : FinG RB K W μ H σ (r.bind fun c h1 => (gc hd (.bl c) h1).bind asB) Q) : FinG RB K W μ H σ r Q := by
  cases r with
  | ok c h1 =>
    have g : ∃ h2, gc hd (.bl c) h1 = .ok (.bl c) h2 := by
      unfold gc
      split
      · split
        · exact ⟨_, rfl⟩
        · exact ⟨_, rfl⟩
      · exact ⟨_, rfl⟩
    obtain ⟨h2, g⟩ := g
    intro μ' H' c' e hr' hc
    change c' = c at hc
    subst hc
    refine gc_fin (W := W) (σ := σ) (d := .bl c') (Q := fun v H' => ∀ k, v = .bl k → Q k H') hr ?_ μ' H' (.bl c') e hr' (.bl c') c' rfl
    rw [g]
    change FinG RB K W μ H σ ((gc hd (.bl c') h1).bind asB) Q at f
    rw [g] at f
    intro μ2 H2 v e2 hr2 rv k hk
    subst hk
    cases rv
    exact f μ2 H2 _ e2 hr2 rfl
  | exc x h1 => exact f
  | bad => exact f
section
variable {X : Cx} {W : XW} {st : Stmt} {sts : List Stmt} {e : Expr} {m : EM} {ms : SM}
theorem de_gc (he : DE X W e m) : DE X W e (eG m) := ⟨PE.imp he.pe fun σ H Q ⟨μ, s, hd, sr, hr, f⟩ => ⟨μ, s, hd, sr, hr, gc_finW hr f⟩⟩
theorem dt_gc {t : TM} (h : DT X W e t) : DT X W e (tG t) := ⟨PT.imp h.pt fun σ H Q ⟨μ, s, hd, sr, hr, f⟩ => ⟨μ, s, hd, sr, hr, tG_fin hr f⟩⟩
theorem wipe_some {s : Sl} : ∀ (vs : List Nat) (i : Nat) (d : D), (wipeD s vs)[i]? = some (some d) → s[i]? = some (some d)
  | [], _, _, h => h
  | v :: vs, i, d, h => by
    unfold wipeD at h
    by_cases hv : v = i
    · subst hv
      rw [List.getElem?_set] at h
      simp at h
    · rw [List.getElem?_set_ne hv] at h
      exact wipe_some vs i d h
theorem wipe_len {s : Sl} : ∀ vs : List Nat, (wipeD s vs).length = s.length
  | [] => rfl
  | v :: vs => by unfold wipeD; rw [List.length_set, wipe_len vs]
theorem wp_fin {K : PySem.W.Frag} {μ : List Addr} {H : Hp} {vs : List Nat} {r : SR} {D : Ends} (f : FinS K W μ H (r.wp vs) D) : FinS K W μ H r D := by
  cases r with
  | nx s1 h1 => exact fun μ' H' σ' e hr sr => f μ' H' σ' e hr ⟨by rw [wipe_len]; exact sr.1, fun i d h => sr.2 i d (wipe_some vs i d h)⟩
  | _ => exact f
theorem gcS_fin {K : PySem.W.Frag} {μ : List Addr} {H : Hp} {hd : Hd} {r : SR} {D : Ends} (hr : HRel K μ H hd) (f : FinS K W μ H (r.gcS hd) D) : FinS K W μ H r D := by
  cases r with
  | nx s1 h1 =>
    unfold SR.gcS at f
    simp only at f
    split at f
    · rename_i c
      intro μ' H' σ' e hr' sr'
      obtain ⟨b1, b2, b3⟩ := gc_back hr hr' e c.1
      refine f μ H' σ' b2 b1 ⟨sr'.1, fun i d h => ?_⟩
      obtain ⟨v, e1, rv⟩ := sr'.2 i d h
      exact ⟨v, e1, Rep.back b3 (c.2 d (List.mem_iff_getElem?.mpr ⟨i, h⟩)) rv⟩
    · exact f
  | rt d h1 =>
    unfold SR.gcS at f
    simp only at f
    intro μ' H' v e' hr' rv
    refine gc_fin (W := W0) (σ := []) (Q := fun v H' => D.rt v H') hr ?_ μ' H' v e' hr' rv
    cases q : gc hd d h1 with
    | ok d2 h2 => rw [q] at f; exact f
    | exc x h => rw [q] at f; exact f.elim
    | bad => rw [q] at f; exact f.elim
  | _ => exact f
theorem ds_gc (h : DS X W st ms) : DS X W st (sG ms) := ⟨PS.imp h.ps fun D σ H ⟨μ, s, hd, sr, hr, f⟩ => ⟨μ, s, hd, sr, hr, gcS_fin hr f⟩⟩
theorem ds_wp (vs : List Nat) (h : DS X W st ms) : DS X W st (sW vs ms) := ⟨PS.imp h.ps fun D σ H ⟨μ, s, hd, sr, hr, f⟩ => ⟨μ, s, hd, sr, hr, wp_fin f⟩⟩
theorem dss_gc (h : DSs X W sts ms) : DSs X W sts (sG ms) := ⟨PSs.imp h.ps fun D σ H ⟨μ, s, hd, sr, hr, f⟩ => ⟨μ, s, hd, sr, hr, gcS_fin hr f⟩⟩
theorem dss_wp (vs : List Nat) (h : DSs X W sts ms) : DSs X W sts (sW vs ms) := ⟨PSs.imp h.ps fun D σ H ⟨μ, s, hd, sr, hr, f⟩ => ⟨μ, s, hd, sr, hr, wp_fin f⟩⟩
end
end DL
namespace DL
open PySem PySem.Spec PyProof.Rows PyProof.V PySem.Calls PySem.W L2
section
variable {prog : Program} {w : World} {A : Around} {E : Value → Shared → Prop} {s : Shared} {z TI TO T i1 i2 : Addr} {fp1 fp2 : List Addr} {n1 n2 i : Nat} {P1 P2 : Nat → Value → Prop} {St1 St2 : Nat → Heap → Prop} {f : Bool} {oT : Obj}
end
section
variable {prog : Program} {w : World} {A : Around} {E : Value → Shared → Prop} {s : Shared} {S z TI TO i1 i2 : Addr} {fp1 fp2 : List Addr} {n1 n2 i : Nat} {P1 P2 : Nat → Value → Prop} {St1 St2 : Nat → Heap → Prop}
end
section
variable {prog : Program} {w : World} {A : Around} {E : Value → Shared → Prop} {s : Shared} {S z TI TO i1 i2 : Addr} {fp1 fp2 : List Addr} {n1 n2 i : Nat} {P1 P2 : Nat → Value → Prop} {St1 St2 : Nat → Heap → Prop}
end
section
variable {K : PySem.W.Frag} {μ : List Addr} {H H' : Hp} {hd : Hd}
end
end DL
namespace DL
open PySem PySem.Spec PyProof.Rows PyProof.V PySem.Calls PySem.W L2
section
variable {X : Cx} {pos : Pos}
end
end DL
namespace DL
open PySem PySem.Spec PyProof.Rows L2
structure FnG (P : Program) (w : World) (K : PySem.W.Frag) (mg : Str → Option Value) (base : Heap) (CX : CXT) (k : Nat) (f : Addr) (fd : FuncData) (ps : List Str) (sp : Sp) : Prop where
  ln : ∀ vs H Q E, sp vs H Q E → vs.length = ps.length
  go : ∀ (A : Around) (out : List Env) (s : Shared) (H : Hp) (ar : Args) (us : List Value) (vs : List V) (Q : VK) (E : XK), A.guards = some [] → Room k A → Env0 P w K mg base A out s H → BindsTo s fd ar (ps.zip us) → Vals vs us → sp vs H Q E →
    codeAny (model P w) A (.call (.ref f) ar) (CR CX out P w H s Q E) s
theorem fnG_of {CX : CXT} {P : Program} {w : World} {K : PySem.W.Frag} {mg : Str → Option Value} {base : Heap} {k : Nat} {f : Addr} {nm qu : Str} {pr : Arguments} {bd : List Stmt} {sc : Scope} {dV kV doc pm cdv ct oc : Value} {an od : Option Addr}
    {osl : Array (Option Value)} {N ps : List Str} {sp : Sp} (lk : K.lookup f = some ⟨oc, od, .func (PySem.W.fnOf nm qu pr bd sc dV kV doc pm an cdv ct), osl⟩) (cd : PySem.W.codeIn K cdv qu = true) (S : FnScope N ps sc)
    (ln : ∀ vs H Q E, sp vs H Q E → vs.length = ps.length)
    (hb : ∀ (A : Around) (out : List Env) (s : Shared) (H : Hp) (vs : List V) (Q : VK) (E : XK), A.guards = some [] → Room k (A.deeper (envOfC qu sc s.heap.objs.size f cdv)) → sp vs H Q E →
      ∃ t, PSs (cxOf CX P w K mg base N qu sc f cdv A out s H E) bd t ∧ t { nx := fun _ G => Q .non G, rt := Q } (start N vs) H) :
    FnG P w K mg base CX (k + 1) f (PySem.W.fnOf nm qu pr bd sc dV kV doc pm an cdv ct) ps sp := ⟨ln, fun A out s H ar us vs Q E hg rm en bt rv hs => by
  have len := ln _ _ _ _ hs
  have kin : K.In s.heap := en.mod.kin.keeps fun b o z => (en.bs b o z).1
  have nol : s.heap.NoLimit := en.mod.nolimit.keeps fun b o z => (en.bs b o z).1
  have knd : ∀ y ∈ ps.zip us, sc.names.lookup y.1 = some .local ∨ (sc.names.lookup y.1 = some .cell ∧ ((cellsFrom (s.heap.objs.size + 1) sc.names []).lookup y.1).isSome = true) := by
    rintro ⟨n, v⟩ hy
    refine (S.par n (List.of_mem_zip hy).1).imp id fun z => ⟨z, PySem.W.cellsFrom_some _ _ _ (.inl z)⟩
  apply codeAny_call_function rm.depth (kin _ _ lk) rfl S.co S.gen rfl (PySem.W.codeRec_of kin cd) (bt _ _ _ _ ?_)
  apply wpAny_newFunctionEnv_cells S.kind knd
  rintro env rfl s1 st
  refine ⟨nol.keeps st.toInCall.keep, codeAny_func ?_⟩
  obtain ⟨t, pt, qt⟩ := hb A out s H vs Q E hg (rm.deeper _) hs
  have inv := inv_start (CX := CX) (E := E) S rm.hd en len rv st
  refine wpAny_mono (pt.run [] s1 (start N vs) H _ inv qt) (fun fl s2 h2 => ?_) fun _ _ z => z
  match fl, h2 with
  | .ret u, ⟨v, _, G, J, ru, qv⟩ => exact ⟨v, G, J.os, J.bare, J.base, J.hok, ru, qv⟩
  | .next, ⟨_, G, J, qv⟩ => exact ⟨V.non, G, J.os, J.bare, J.base, J.hok, rfl, qv⟩
  | .brk, ⟨_, _, _, z⟩ => exact z.elim
  | .cont, ⟨_, _, _, z⟩ => exact z.elim⟩
section
variable {X : Cx} {CX : CXT} {k : Nat} {f : Addr} {fd : FuncData} {ps : List Str} {sp : Sp} {E : XK} {x : Str} {p pos : Pos} {e : Expr} {es : List Expr} {t : TA}
end
section
variable {P : Program} {w : World} {K : PySem.W.Frag} {mg : Str → Option Value} {base : Heap}
structure DefG (P : Program) (w : World) (K : PySem.W.Frag) (mg : Str → Option Value) (base : Heap) (k : Nat) (x : Str) (ps : List Str) (F : List D → M D) : Prop where
  ex : ∃ (f : Addr) (fd : FuncData), FnG P w K mg base CX0 k f fd ps (spD K ps.length F) ∧ mg x = some (.ref f) ∧ PySem.W.keepIn K (.ref f) = true ∧ Binds K fd ps [] ∧ ∃ oc od osl, K.lookup f = some ⟨oc, od, .func fd, osl⟩
theorem defG_mk {x : Str} {st : Stmt} {N ps : List Str} {k : Nat} {body : SM} (T : Top K mg x st ps) (S : FnScope N ps (defScope st))
    (hb : ∀ (f : Addr) (cdv : Value) (A : Around) (out : List Env) (s : Shared) (H : Hp) (E : XK), A.guards = some [] → Room k (A.deeper (envOfC x (defScope st) s.heap.objs.size f cdv)) → DSs (cxOf CX0 P w K mg base N x (defScope st) f cdv A out s H E).nox W0 (defBody st) body) :
    DefG P w K mg base (k + 1) x ps (runB N.length body) := by
  obtain ⟨f, fd, F, hm, hb'⟩ := T.ex
  obtain ⟨oc, od, kV, doc, pm, an, cdv, ct, osl, rfl, lk, hcd⟩ := F.ex
  refine ⟨f, _, fnG_of lk hcd S (fun vs H Q E ⟨μ, hd, ds, _, r, hl, _⟩ => by rw [r.length, hl]) (fun A out s H vs Q E hg rm h => ⟨_, (hb f cdv A out s H E hg rm).ps.nox, ?_⟩), hm, F.kp, hb', ⟨oc, od, osl, lk⟩⟩
  obtain ⟨μ, hd, ds, hr, r, hl, q⟩ := h
  refine ⟨μ, _, hd, start_rel r, hr, ?_⟩
  unfold runB SR.fin at q
  cases z : body (ds.map some ++ List.replicate (N.length - ds.length) none) hd with
  | bad => rw [z] at q; exact q.elim
  | exc x s h => rw [z] at q; exact q.elim
  | nx s h => rw [z] at q; exact fun μ' H' σ' e hr' sr' => gc_fin hr q μ' H' .non e hr' .non
  | rt d h => rw [z] at q; exact fun μ' H' v e hr' rv => gc_fin hr q μ' H' v e hr' rv
variable {X : Cx} {x : Str} {ps : List Str} {k : Nat} {F : List D → M D} {e : Expr} {es : List Expr} {p pos : Pos} {mr : AM}
theorem lawG_F {x p : Str} {st : Stmt} {F : List D → M D} {k : Nat} {fa : Addr} (T : Top K mg x st [p]) (hD : ∀ base : Heap, DefG P w K mg base k x [p] F) (hmg : mg x = some (.ref fa))
    (hb : ∀ (kV doc pm : Value) (an : Option Addr) (cdv ct : Value) (s : Shared) (u : Value), BindsTo s (PySem.W.fnOf x x (defArgs st) (defBody st) (defScope st) .none kV doc pm an cdv ct) ⟨[u], []⟩ [(p, u)]) :
    ∃ fd : FuncData, (∀ (s : Shared) (u : Value), BindsTo s fd ⟨[u], []⟩ [(p, u)]) ∧ ∀ base : Heap, K.In base → base.Ns mainGlobals mg → FnG P w K mg base CX0 k fa fd [p] (spD K 1 F) := by
  obtain ⟨f, fd, Fn, hm, _⟩ := T.ex
  rw [hmg] at hm
  cases hm
  obtain ⟨oc, od, kV, doc, pm, an, cdv, ct, osl, e, lk, _⟩ := Fn.ex
  refine ⟨fd, fun s u => by rw [e]; exact hb kV doc pm an cdv ct s u, fun base _ _ => ?_⟩
  obtain ⟨f', fd', G, hm', _, _, oc', od', osl', lk'⟩ := (hD base).ex
  rw [hmg] at hm'
  cases hm'
  rw [lk] at lk'
  cases lk'
  exact G
end
theorem lawG_call {P : Program} {w : World} {K : PySem.W.Frag} {mg mb : Str → Option Value} {CX : CXT} {k : Nat} {fa a : Addr} {fd : FuncData} {x : Str} {sp : Sp} {sB : Shared} {vs : List Value} {ns : List Int}
    (kin : K.In sB.heap) (nsM : sB.heap.Ns mainGlobals mg) (nsB : sB.heap.Ns builtinsNs mb) (boot : ∀ y : Str, y ≠ "__name__" → mb y = bootBuiltins y) (nol : sB.heap.NoLimit) (gn : sB.gens = #[])
    (ga : sB.heap.get? a = some { cls := .type "list", data := .seq vs.toArray }) (ia : IntsAre vs ns) (le : ns.length ≤ sizeLine) (rm : Room k callerA)
    (F : ∀ base : Heap, K.In base → base.Ns mainGlobals mg → FnG P w K mg base CX k fa fd [x] sp) (bd : ∀ (s : Shared) (u : Value), BindsTo s fd ⟨[u], []⟩ [(x, u)])
    (hs : ∀ H : Hp, Only H → SqL K H a (ns.map V.int) → sp [.ref a] H (fun v _ => v = .bl true) fun _ _ _ => False)
    (cx : ∀ H e s', CX [] H sB (fun _ _ _ => False) e s' → False) :
    codeAny (model P w) callerA (.call (.ref fa) ⟨[.ref a], []⟩) (fun r s' => r = .ok (.ret (.bool true)) ∧ OldK sB.heap s'.heap ∧ s'.os = sB.os ∧ AllBare s'.gens) sB := by
  have rv := vals_ints ia
  have lv := ia.length
  have main : ∀ H : Hp, Only H → SqL K H a (ns.map V.int) → HOk P w H sB.heap → (∀ b u, H b = some u → b = a) → ((∃ u, H a = some u) → K.lookup a = none) →
      codeAny (model P w) callerA (.call (.ref fa) ⟨[.ref a], []⟩) (fun r s' => r = .ok (.ret (.bool true)) ∧ OldK sB.heap s'.heap ∧ s'.os = sB.os ∧ AllBare s'.gens) sB := fun H oH sH hok onlyA noK => by
    have free : ∀ {b : Addr} {o : Obj} {es : Array DictEntry} {ep : Nat}, sB.heap.get? b = some o → o.data = .dict es ep → H b = none := fun {b o es ep} g d => by
      rcases hq : H b with _ | u
      · rfl
      · have ba := onlyA b u hq
        rw [ba, ga] at g
        cases g
        cases d
    have nsH : ∀ {b : Addr} {m : Str → Option Value}, sB.heap.Ns b m → (hidT sB.heap H).Ns b m := fun ⟨o, es, ep, g, d, r⟩ => ⟨o, es, ep, hidT_get g (free g d), d, r⟩
    have kinH : K.In (hidT sB.heap H) := fun b o g => by
      refine hidT_get (kin b o g) ?_
      rcases hq : H b with _ | u
      · rfl
      · have ba := onlyA b u hq
        rw [ba] at g hq
        rw [noK ⟨u, hq⟩] at g
        cases g
    obtain ⟨mc, c1, c2⟩ := nol
    have modH : Mod K mg (hidT sB.heap H) := ⟨kinH, nsH nsM, ⟨mb, nsH nsB, boot⟩, mc, nsH c1, c2⟩
    have nil_no : ∀ b : Addr, b ∈ ([] : List Addr) → False := fun b z => by cases z
    have en : Env0 P w K mg (hidT sB.heap H) callerA [] sB H := ⟨rfl, modH, fun b o g => of_hidT g, Nat.le_of_eq (hidT_size _ _), trivial, fun b z => (nil_no b z).elim, hok, .of_eq gn⟩
    refine codeAny_mono ((F _ kinH (nsH nsM)).go callerA [] sB H ⟨[.ref a], []⟩ [.ref a] [.ref a] _ _ rfl rm en (bd sB (.ref a)) (.cons rfl .nil) (hs H oH sH)) fun res s2 h2 => ?_
    match res, h2 with
    | .error e, h2 => exact (cx H e s2 h2).elim
    | .ok (.ret u), ⟨v, G, os, bare, un, hok2, ru, qv⟩ =>
      cases qv
      cases ru
      refine ⟨rfl, OldK.of_keep fun b o g => ?_, os, bare⟩
      rcases hq : H b with _ | u
      · exact un.keep b o g hq (fun z => nil_no b z) (fun z => nil_no b z)
      · rcases oH b with z | ⟨ob, xs, z⟩
        · rw [hq] at z; cases z
        · obtain ⟨g1, _⟩ := hok b _ z
          obtain ⟨g2, _⟩ := hok2 b _ (un.frzs b ob _ z)
          rw [g1] at g
          cases g
          exact g2
  rcases hk : K.lookup a with _ | o
  · refine main (fun b => if b = a then some (.frz { cls := .type "list", data := .seq vs.toArray } (.lst (ns.map V.int))) else none) (fun b => ?_) (.inl (.inr ⟨{ cls := .type "list", data := .seq vs.toArray }, if_pos rfl⟩)) (fun b u z => ?_) (fun b u z => ?_) fun _ => hk
    · by_cases c : b = a
      · exact .inr ⟨_, _, if_pos c⟩
      · exact .inl (if_neg c)
    · by_cases c : b = a
      · have z2 := (if_pos c).symm.trans z
        cases z2
        rw [c]
        exact ⟨ga, by rw [List.length_map]; exact le, vs, _, rv, ga⟩
      · have z2 := (if_neg c).symm.trans z
        cases z2
    · by_cases c : b = a
      · exact c
      · have z2 := (if_neg c).symm.trans z
        cases z2
  · have g := kin a o hk
    rw [ga] at g
    cases g
    exact main (fun _ => none) (fun _ => .inl rfl) (.inr ⟨_, vs.toArray, _, hk, rfl, rfl, rfl, by rw [List.size_toArray, lv]; exact le, by simpa using rv⟩) (fun b u z => by cases (show (none : Option HO) = some u from z)) (fun b u z => by cases z) fun ⟨u, z⟩ => by cases z
theorem walkG {l : PySem.W.OpenLaw} {n k : Nat} {q : Program} {lo : List Str} {XP : (Str → Option Value) → Heap → Prop} {YP : World → Heap → Prop} {d : DefRec} {K : Params → PySem.W.Frag} {CX : World → CXT} {sp : World → Sp} {x : Str}
    (hn : l.most = some n) (hn2 : n ≤ sizeLine) (hdf : d.params.defaults = []) (rm : Room k callerA)
    (hY : ∀ (w : World) (h : Heap), YP w h → (K w.params).In h)
    (F : ∀ (w : World) (mg : Str → Option Value) (fa : Addr) (h : Heap), (K w.params).In h → h.Ns mainGlobals mg → mg d.name = some (.ref fa) →
      ∃ fd : FuncData, (∀ (s : Shared) (u : Value), BindsTo s fd ⟨[u], []⟩ [(x, u)]) ∧
        ∀ base : Heap, (K w.params).In base → base.Ns mainGlobals mg → FnG l.prog w (K w.params) mg base (CX w) k fa fd [x] (sp w))
    (hsp : ∀ (w : World) (H : Hp) (a : Addr) (ns : List Int), ns.length ≤ n → (∀ z ∈ ns, Builtin.Int.intBits z ≤ 1048576) → Only H → SqL (K w.params) H a (ns.map V.int) → sp w [.ref a] H (fun v _ => v = .bl true) fun _ _ _ => False)
    (hCX : ∀ (w : World) (H : Hp) (s : Shared) (e : Value) (s' : Shared), CX w [] H s (fun _ _ _ => False) e s' → False) :
    PySem.W.WalkO q lo XP YP l.row.toRowW d [] (fun f vs => PySem.call f vs) :=
  Att.attach_callB hn hdf fun w _ sB mg _ fa _ _ _ _ a _ ns G Y _ _ _ hmg ga ia len bits gn => by
    have kin := hY w _ Y
    obtain ⟨fd, bd, hF⟩ := F w mg fa _ kin G.T.g hmg
    exact lawG_call kin G.T.g G.T.b G.T.builtins G.T.nolimit gn ga ia (Nat.le_trans len hn2) rm hF bd (fun H oH sH => hsp w H a ns len bits oH sH) fun H e s' => hCX w H sB e s'
end DL
namespace DL
open PySem PySem.Spec PyProof.Rows L2
end DL
namespace DL
open PySem PySem.Spec PyProof.Rows L2
def tr (mg : Str → Option Value) (W : WX) : XW := fun c o σ H => match c with
  | .type n => (match mg (Str.ofString n) with | some C => W C o σ H | none => False)
  | _ => False
def spX (K : PySem.W.Frag) (mg : Str → Option Value) (n : Nat) (F : List D → M D) : Sp := fun vs H Q E => ∃ (μ : List Addr) (hd : Hd) (ds : List D), HRel K μ H hd ∧ RepAll K μ H vs ds ∧ ds.length = n ∧ FinG (RD K) K (tr mg fun c o _ H' => E c o H') μ H [] (F ds hd) Q
structure DefX (P : Program) (w : World) (K : PySem.W.Frag) (mg : Str → Option Value) (base : Heap) (k : Nat) (x : Str) (ps : List Str) (F : List D → M D) : Prop where
  ex : ∃ (f : Addr) (fd : FuncData), FnOk P w K mg base (L2.CX P w) k f fd ps (spX K mg ps.length F) ∧ mg x = some (.ref f) ∧ PySem.W.keepIn K (.ref f) = true ∧ Binds K fd ps [] ∧ ∃ oc od osl, K.lookup f = some ⟨oc, od, .func fd, osl⟩
section
variable {P : Program} {w : World} {K : PySem.W.Frag} {mg : Str → Option Value} {base : Heap}
end
section
variable {X : Cx} {x : Str} {ps : List Str} {k : Nat} {F : List D → M D} {e : Expr} {es : List Expr} {p pos : Pos} {mr : AM} {W : WX}
def eFn (n : Nat) (F : List D → M D) : List D → M D := fun ds h => if ds.length = n then (match F ds h with | .ok d h1 => .ok d h1 | _ => .bad) else .bad
theorem de_defN {V : XW} (G : Def X.prog X.w X.K X.mg X.base k x ps F) (hr : Room k X.A) (ha : DA X V (e :: es) mr)
    (hg : Gl X x := by rfl) (hdb : (x == ("__debug__" : Str)) = false := by decide) (he : starEach (e :: es) X.env = (false, eval e X.env) :: starEach es X.env := by rfl) (hpl : (backTo pos (starEach es X.env)).any (·.1) = false := by rfl) : DE X V (.Call (.Name x p) (e :: es) [] pos) (eA (eFn ps.length F) mr) := by
  obtain ⟨f, fd, g, hm, hk, hb, _⟩ := G.ex
  refine ⟨PE.imp (pe_call g hr hg hm hk hb .nil pass0 ha.pa hdb he hpl) fun σ H Q ⟨μ, s, hd, sr, hr, f⟩ => ⟨μ, s, hd, sr, hr, (FinG.bind f).imp ?_⟩⟩
  rintro vs H1 ⟨μ1, hd1, dx, e1, hr1, rx, f1⟩
  unfold eFn at f1
  split at f1
  · rename_i hl
    refine ⟨μ1, hd1, dx, hr1, by rw [List.append_nil]; exact rx, hl, ?_⟩
    cases z : F dx hd1 with
    | ok d h => rw [z] at f1; exact f1
    | exc x h => rw [z] at f1; exact f1.elim
    | bad => rw [z] at f1; exact f1.elim
  · exact f1.elim
theorem de_defX (tk : Takes X W) (G : DefX X.prog X.w X.K X.mg X.base k x ps F) (hr : Room k X.A) (ha : DA X (tr X.mg W) (e :: es) mr)
    (hg : Gl X x := by rfl) (hdb : (x == ("__debug__" : Str)) = false := by decide) (he : starEach (e :: es) X.env = (false, eval e X.env) :: starEach es X.env := by rfl) (hpl : (backTo pos (starEach es X.env)).any (·.1) = false := by rfl) : DE X (tr X.mg W) (.Call (.Name x p) (e :: es) [] pos) (eA (eF ps.length F) mr) := by
  obtain ⟨f, fd, g, hm, hk, hb, _⟩ := G.ex
  refine ⟨PE.imp (pe_callS g hr hg hm hk hb (fun σ => passAt tk σ) ha.pa hdb he hpl) fun σ H Q ⟨μ, s, hd, sr, hr, f⟩ => ⟨μ, s, hd, sr, hr, (FinG.bind f).imp ?_⟩⟩
  rintro vs H1 ⟨μ1, hd1, dx, e1, hr1, rx, f1⟩
  unfold eF at f1
  split at f1
  · rename_i hl
    refine ⟨μ1, hd1, dx, hr1, rx, hl, ?_⟩
    cases z : F dx hd1 with
    | ok d h => rw [z] at f1; exact f1
    | exc x h =>
      rw [z] at f1
      intro μ' H' o e hr' xr
      have q' := f1 μ' H' o e hr' xr
      unfold tr at q' ⊢
      exact q'
    | bad => rw [z] at f1; exact f1.elim
  · exact f1.elim
end
section
variable {X : Cx} {W : WX}
end
def SR.clr (i : Nat) : SR → SR
  | .nx s h => .nx (s.set i none) h
  | .rt d h => .rt d h
  | _ => .bad
theorem SRel.clr {K : PySem.W.Frag} {μ : List Addr} {H : Hp} {σ : L2.St} {s : Sl} (i : Nat) (r : SRel K μ H σ s) : SRel K μ H (σ.set i none) (s.set i none) := by
  refine ⟨by simp [r.1], fun j d h => ?_⟩
  by_cases c : i = j
  · subst c
    rw [List.getElem?_set] at h
    simp at h
  · rw [List.getElem?_set_ne c] at h
    rw [List.getElem?_set_ne c]
    exact r.2 j d h
section
variable {X : Cx} {W : WX} {x n : Str} {c : Value} {i : Nat} {body suite : List Stmt} {b₀ : Stmt} {np pos pos' : Pos} {b : SM} {mt : String → Option (Addr → SM)}
end
section
variable {X : Cx} {W : XW} {a : Addr} {b : Bool} {i : Nat} {x n : Str} {p p1 pos : Pos} {e2 : Expr} {m2 : EM} {d2 : D} {r : List V → Hp → VK → Prop}
end
structure IsF (K : PySem.W.Frag) (mg : Str → Option Value) (n c : String) (b : Bool) : Prop where
  ex : ∃ D C : Addr, mg (Str.ofString n) = some (.ref D) ∧ mg (Str.ofString c) = some (.ref C) ∧ PySem.W.kitOne K (.ref D) (.ref C) = some b
structure IsB (K : PySem.W.Frag) (mg : Str → Option Value) (n c : String) (b : Bool) : Prop where
  ex : ∃ D : Addr, mg (Str.ofString n) = some (.ref D) ∧ PySem.W.kitOne K (.ref D) (.type c) = some b
section
variable {X : Cx} {W : XW} {a : Addr} {b : Bool} {i : Nat} {n c m : String} {x : Str} {p p1 p2 pos : Pos} {oe : Obj} {pn : List (Addr × Obj)} {C : Value}
theorem de_con {X : Cx} {W : XW} {c : String} {C : Addr} {p : Pos} (h : X.mg (Str.ofString c) = some (.ref C)) (hg : Gl X (Str.ofString c)) (hdb : (Str.ofString c == ("__debug__" : Str)) = false := by decide) : DE X W (.Name (Str.ofString c) p) (eC (.con C)) :=
  de_c (pe_glob hg h (show RelV (V.ref C) (.ref C) from rfl) hdb) fun _ _ => .con C
theorem relv_refu {C : Addr} : ∀ u, RelV (.ref C) u → u = .ref C := fun u h => h
theorem relv_tyu {c : String} : ∀ u, RelV (.ty c) u → u = .type c := fun u h => h
end
structure HnF (K : PySem.W.Frag) (mg : Str → Option Value) (h m : String) : Prop where
  ex : ∃ C D : Addr, mg (Str.ofString h) = some (.ref C) ∧ mg (Str.ofString m) = some (.ref D) ∧ PySem.W.exmOne K (.ref D) (.ref C) = some true
theorem ds_w0 {X : Cx} {st : Stmt} {m : SM} (h : DS X (tr X.mg fun _ _ _ _ => False) st m) : DS X W0 st m := ⟨PS.imp h.ps fun D σ H ⟨μ, s, hd, sr, hr, f⟩ => ⟨μ, s, hd, sr, hr, by
  cases z : m s hd with
  | nx s1 h1 => rw [z] at f; exact f
  | rt d h1 => rw [z] at f; exact f
  | bad => rw [z] at f; exact f.elim
  | exc x s1 h1 =>
    rw [z] at f
    exact fun μ' H' σ' o e hr' sr' xr => (f μ' H' σ' o e hr' sr' xr).elim⟩⟩
section
variable {K : PySem.W.Frag} {mg : Str → Option Value} {h : Heap} {C D : Addr} {b : Bool}
theorem kit1_own (hd : PySem.W.hasDictIn K C = true) (ht : PySem.W.typeIn K (.ref C) = some (.type "type")) (h4 : PySem.W.subIn K (.ref D) (.ref C) = some b) (hb : D = C → b = true) : PySem.W.kitOne K (.ref D) (.ref C) = some b := by
  unfold PySem.W.kitOne
  split
  · rename_i e
    rw [hb (Value.ref.inj (beq_iff_eq.mp e))]
  · obtain ⟨cd, hc, _⟩ := PySem.W.any_some hd
    unfold PySem.W.kitCls
    simp only
    rw [if_pos (by rw [hc, ht]; rfl)]
    exact h4
theorem kit1_bi {T : String} (hk : PySem.W.kitMeta T = true) (h4 : PySem.W.subIn K (.ref D) (.type T) = some b) : PySem.W.kitOne K (.ref D) (.type T) = some b := by
  unfold PySem.W.kitOne
  rw [if_neg (by intro e; cases beq_iff_eq.mp e)]
  unfold PySem.W.kitCls
  simp only
  rw [if_pos hk]
  exact h4
variable (X : K.In h) (G : h.Ns mainGlobals mg)
include X G
theorem hnf_mk {n m : String} (a : PySem.W.nsIn K mainGlobals (Str.ofString n) = some (some (.ref C))) (a2 : PySem.W.nsIn K mainGlobals (Str.ofString m) = some (some (.ref D))) (h1 : PySem.W.subIn K (.ref C) (.type "BaseException") = some true) (hd : PySem.W.hasDictIn K C = true) (ht : PySem.W.typeIn K (.ref C) = some (.type "type")) (h4 : PySem.W.subIn K (.ref D) (.ref C) = some true) : HnF K mg n m :=
  ⟨C, D, PySem.W.mg_of X G a, PySem.W.mg_of X G a2, PySem.W.exm_ref h1 hd ht h4⟩
theorem isf_mk {n c : String} (a : PySem.W.nsIn K mainGlobals (Str.ofString n) = some (some (.ref D))) (a2 : PySem.W.nsIn K mainGlobals (Str.ofString c) = some (some (.ref C))) (k : PySem.W.kitOne K (.ref D) (.ref C) = some b) : IsF K mg n c b := ⟨D, C, PySem.W.mg_of X G a, PySem.W.mg_of X G a2, k⟩
theorem isb_mk {n T : String} (a : PySem.W.nsIn K mainGlobals (Str.ofString n) = some (some (.ref D))) (k : PySem.W.kitOne K (.ref D) (.type T) = some b) : IsB K mg n T b := ⟨D, PySem.W.mg_of X G a, k⟩
end
end DL
namespace DL
open PySem PySem.Spec PyProof.Rows L2
end DL
namespace DL
open PySem PySem.Spec PyProof.Rows L2
theorem de_w0 {X : Cx} {e : Expr} {m : EM} (h : DE X (tr X.mg fun _ _ _ _ => False) e m) : DE X W0 e m := ⟨PE.imp h.pe fun σ H Q ⟨μ, s, hd, sr, hr, f⟩ => ⟨μ, s, hd, sr, hr, by
  cases z : m s hd with
  | ok d h1 => rw [z] at f; exact f
  | bad => rw [z] at f; exact f.elim
  | exc x h1 =>
    rw [z] at f
    exact fun μ' H' o e hr' xr => (f μ' H' o e hr' xr).elim⟩⟩
section
variable {X : Cx} {W : WX} {x : Str} {c : Value} {body suite : List Stmt} {b₀ : Stmt} {np pos pos' : Pos} {b su : SM} {ms : List String}
end
end DL
namespace DL
open PySem PySem.Spec PyProof.Rows L2
section
variable {P : Program} {w : World} {A : Around} {E : Value → Shared → Prop} {s : Shared}
end
def rSetL (K : PySem.W.Frag) (w : World) : List V → Hp → VK → Prop := fun xs H Q => ∃ (a : Addr) (ns : List Int), xs = [V.ref a] ∧ SqL K H a (ns.map V.int) ∧ ns.length < 60 ∧ ∀ p c, H p = none → c ≤ ns.length → Q (.ref p) (upd H p (SetO w p (fun j => decide (j ∈ ns)) c))
end DL
namespace DL
open PySem PySem.Spec PyProof.Rows L2
theorem callR_or {X : Cx} {f : Value} {r1 r2 : List V → Hp → VK → Prop} (h1 : CallR X f r1) (h2 : CallR X f r2) : CallR X f (fun xs H Q => r1 xs H Q ∨ r2 xs H Q) := by
  intro pins s σ H vs us Q I r h
  rcases h with h | h
  · exact h1 pins s σ H vs us Q I r h
  · exact h2 pins s σ H vs us Q I r h
end DL
namespace DL
open PySem PySem.Spec PyProof.Rows L2
structure BaseC (K : PySem.W.Frag) (mg : Str → Option Value) (n : String) : Prop where
  ex : ∃ B : Addr, mg (Str.ofString n) = some (.ref B) ∧ PySem.W.specialIn K (.ref B) "__getattribute__" = some (some (.builtin "type.__getattribute__")) ∧ PySem.W.readsIn K B (.type "type") = true ∧ PySem.W.findCls K (.ref B) (.type "type") "__init__" = some (.val (.builtin "ValueError.__init__"))
theorem pe_oinit {X : Cx} {n : String} {e : Expr} {es : List Expr} {ta : TA} {p1 p2 pos : Pos} {pl : Sem Bool} (F : BaseC X.K X.mg n) (hg : Gl X (Str.ofString n)) (ha : PA X (e :: es) ta)
    (hc : eval (.Call (.Attribute (.Name (Str.ofString n) p1) "__init__" p2) (e :: es) [] pos) X.env = (do
      let ov ← eval (.Name (Str.ofString n) p1) X.env
      standAt p2.atName
      let (f, first) ← holding [ov] (getMethod ov "__init__" pl)
      callWith pos f first (backTo pos (starEach (e :: es) X.env)) (backToKw pos (keywordEach [] X.env))) := by rfl)
    (hdb : (Str.ofString n == ("__debug__" : Str)) = false := by decide)
    (he : starEach (e :: es) X.env = (false, eval e X.env) :: starEach es X.env := by rfl) (hpl : (backTo pos (starEach es X.env)).any (·.1) = false := by rfl) :
    PE X (.Call (.Attribute (.Name (Str.ofString n) p1) "__init__" p2) (e :: es) [] pos) (tVeI X.K ta) := by
  obtain ⟨B, hm, hs, hr, hv⟩ := F.ex
  refine ⟨fun pins s σ H Q I h => ?_⟩
  refine PySem.W.methodCall_KW (ld_glob I hg hm ?_ hdb) hc
  obtain ⟨m, fr⟩ := I.fr
  refine PySem.W.method_of_cls fr I.ok.mod.kin hs (PySem.W.cls_value (I.ok.mod.kin.keeps fr.keep) hr hv (by decide +kernel) ?_)
  show wpAny _ _ (callWith pos (Value.builtin "ValueError.__init__") [] (backTo pos (starEach (e :: es) X.env)) []) _ _ _
  refine PyProof.Rows.callWith_method1 (thn (ha.run pos pins _ σ H _ (I.tok _) h) fun us s1 ⟨vs, H1, I1, r1, a, C, ws, ev, hl, T, ea, q⟩ => ?_) he hpl
  subst ev
  cases r1 with
  | @cons _ u0 _ ur ra rw' =>
    obtain rfl : u0 = Value.ref a := ra
    have hlen : ur.length ≤ sizeLine := by
      rw [← Paired.length rw', sizeLine_eq]
      omega
    exact oinit_ok T I1 ea hlen fun s' J => ⟨.non, H1, J, rfl, q⟩
def spI (C : Addr) (fs : List Str) : Sp := fun vs H Q E => ∃ (a : Addr) (ws : List V), vs = .ref a :: ws ∧ ws.length = fs.length ∧ H a = some (exo a C none) ∧
  ∀ (d : Addr) (H' : Hp), H d = none → d ≠ a → H' a = some (exo a C (some d)) → H' d = some (exd d ((fs.zip ws).reverse)) → (∀ b, b ≠ a → b ≠ d → H' b = H b) → Q .non H'
structure DefI (P : Program) (w : World) (K : PySem.W.Frag) (mg : Str → Option Value) (base : Heap) (k : Nat) (n : String) (fs : List String) : Prop where
  ex : ∃ (C fI : Addr) (fd : FuncData), mg (Str.ofString n) = some (.ref C) ∧ OexC K C ∧ PySem.W.findIn K (.ref C) "__init__" = some (some (.ref fI)) ∧ PySem.W.typeIn K (.ref fI) = some (.type "function") ∧
    FnOk P w K mg base CX0 k fI fd ("self" :: fs.map Str.ofString) (spI C (fs.map Str.ofString)) ∧ Binds K fd ("self" :: fs.map Str.ofString) []
structure TopI (K : PySem.W.Frag) (mg : Str → Option Value) (n q : String) (st : Stmt) (fs : List String) : Prop where
  ex : ∃ (C fI : Addr) (fd : FuncData), mg (Str.ofString n) = some (.ref C) ∧ OexC K C ∧ PySem.W.findIn K (.ref C) "__init__" = some (some (.ref fI)) ∧ PySem.W.typeIn K (.ref fI) = some (.type "function") ∧
    Fun K "__init__" (Str.ofString q) st fI fd ∧ Binds K fd ("self" :: fs.map Str.ofString) [] ∧ ∀ f ∈ fs, PySem.W.findIn K (.ref C) (Str.ofString f) = some none
def tFlds (K : PySem.W.Frag) : List Str → Nat → TS
  | [], _ => tNext
  | f :: fs, i => tSeq (tOst K f (tVar 0) (tVar i)) (tFlds K fs (i + 1))
def tInit (K : PySem.W.Frag) (m : Str) (fs : List Str) : TS := tSeq (tDrop (tVeI K (tCons (tVar 0) (tCons (tC (.str m)) tNil)))) (tFlds K fs 1)
section
variable {K : PySem.W.Frag} {a C d : Addr} {D : Ends} {σ : L2.St}
theorem flds_old (T : OexC K C) (had : d ≠ a) (h0 : σ[0]? = some (some (.ref a))) : ∀ (fs : List Str) (ws : List V) (i : Nat) (done : List (Str × V)) (H : Hp), (∀ f ∈ fs, PySem.W.findIn K (.ref C) f = some none) → ws.length = fs.length → (∀ j v, ws[j]? = some v → σ[i + j]? = some (some v)) →
    done.length + fs.length ≤ 900 → H a = some (exo a C (some d)) → H d = some (exd d done) →
    (∀ H', H' a = some (exo a C (some d)) → H' d = some (exd d ((fs.zip ws).reverse ++ done)) → (∀ b, b ≠ a → b ≠ d → H' b = H b) → D.nx σ H') → tFlds K fs i D σ H
  | [], [], i, done, H, _, _, _, _, ha, hd, k => k H ha (by simpa using hd) fun _ _ _ => rfl
  | [], _ :: _, _, _, _, _, hl, _, _, _, _, _ => by simp at hl
  | _ :: _, [], _, _, _, _, hl, _, _, _, _, _ => by simp at hl
  | f :: fs, w :: ws, i, done, H, hn, hl, hs, hz, ha, hd, k => by
    refine ⟨w, hs 0 w rfl, .ref a, h0, a, C, rfl, T, hn f (by simp), .inr ⟨d, done, ha, hd, by simp at hz; omega, ?_⟩⟩
    refine flds_old T had h0 fs ws (i + 1) ((f, w) :: done) _ (fun g hg => hn g (by simp [hg])) (by simpa using hl) (fun j v hj => ?_) (by simp at hz ⊢; omega) ?_ upd_same fun H' a' d' k' => k H' a' ?_ fun b hb hb2 => ?_
    · have := hs (j + 1) v (by simpa using hj)
      rwa [show i + 1 + j = i + (j + 1) by omega]
    · rw [upd_ne (Ne.symm had)]
      exact ha
    · rw [d']
      simp
    · rw [k' b hb hb2, upd_ne hb2]
theorem flds_new (T : OexC K C) (h0 : σ[0]? = some (some (.ref a))) {fs : List Str} {ws : List V} {H : Hp} (ne : fs ≠ []) (hn : ∀ f ∈ fs, PySem.W.findIn K (.ref C) f = some none) (hl : ws.length = fs.length) (hs : ∀ j v, ws[j]? = some v → σ[1 + j]? = some (some v))
    (hz : fs.length ≤ 900) (ha : H a = some (exo a C none))
    (k : ∀ (d : Addr) (H' : Hp), H d = none → d ≠ a → H' a = some (exo a C (some d)) → H' d = some (exd d ((fs.zip ws).reverse)) → (∀ b, b ≠ a → b ≠ d → H' b = H b) → D.nx σ H') : tFlds K fs 1 D σ H := by
  cases fs with
  | nil => exact absurd rfl ne
  | cons f fs =>
    cases ws with
    | nil => simp at hl
    | cons w ws =>
      refine ⟨w, hs 0 w rfl, .ref a, h0, a, C, rfl, T, hn f (by simp), .inl ⟨ha, fun dx hd hda => ?_⟩⟩
      refine flds_old (d := dx) T hda h0 fs ws 2 [(f, w)] _ (fun g hg => hn g (by simp [hg])) (by simpa using hl) (fun j v hj => ?_) (by simp at hz ⊢; omega) upd_same ?_ fun H' a' d' k' => k dx H' hd hda a' ?_ fun b hb hb2 => ?_
      · have := hs (j + 1) v (by simpa using hj)
        rwa [show 2 + j = 1 + (j + 1) by omega]
      · rw [upd_ne hda, upd_same]
      · rw [d']
        simp
      · rw [k' b hb hb2, upd_ne hb, upd_ne hb2]
end
section
variable {P : Program} {w : World} {K : PySem.W.Frag} {mg : Str → Option Value} {base : Heap}
theorem start_at {N : List Str} {vs : List V} {i : Nat} {v : V} (h : vs[i]? = some v) : (L2.start N vs)[i]? = some (some v) := by
  unfold L2.start
  have hl := (List.getElem?_eq_some_iff.mp h).1
  rw [List.getElem?_append_left (by simpa using hl), List.getElem?_map, h]
  rfl
theorem init_mk {n q : String} {st : Stmt} {fs : List String} {k : Nat} {m : Str} {N : List Str} (T : TopI K mg n q st fs) (S : FnScope N ("self" :: fs.map Str.ofString) (defScope st)) (ne : fs ≠ []) (hz : fs.length ≤ 900)
    (hb : ∀ (f : Addr) (cdv : Value) (A : Around) (outer : List Env) (s : Shared) (H : Hp) (E : XK), PSs (cxOf CX0 P w K mg base N (Str.ofString q) (defScope st) f cdv A outer s H E).nox (defBody st) (tInit K m (fs.map Str.ofString))) : DefI P w K mg base (k + 1) n fs := by
  obtain ⟨C, fI, fd, hm, X, iC, tI, F, B, no⟩ := T.ex
  refine ⟨C, fI, fd, hm, X, iC, tI, F.ok S ?_ ?_, B⟩
  · rintro vs H Q E ⟨a, ws, rfl, hl, _⟩
    simp [hl]
  · rintro cdv A outer s H vs Q E hr ⟨a, ws, rfl, hl, ha, q⟩
    refine ⟨_, hb fI cdv A outer s H E, ?_⟩
    refine ⟨.ref a, start_at rfl, a, C, [.str m], rfl, by simp, X, ha, ?_⟩
    refine flds_new X (start_at rfl) (by simpa using ne) (fun f hf => ?_) hl (fun j v hj => start_at ?_) (by simpa using hz) ha q
    · obtain ⟨g, hg, rfl⟩ := List.mem_map.mp hf
      exact no g hg
    · rw [Nat.add_comm]
      simpa using hj
end
def flV (fs : List String) (ds : List D) : List (Str × D) := ((fs.map Str.ofString).zip ds).reverse
def sRaiseI (n : String) (fs : List String) (m : AM) : SM := fun s h => match m s h with
  | .ok ds h1 => if ds.length = fs.length ∧ ds.length ≤ 1000 then .exc ⟨.type n, some (flV fs ds)⟩ s h1 else .bad
  | _ => .bad
section
variable {K : PySem.W.Frag} {μ : List Addr} {H : Hp}
theorem FRep.app : ∀ {xs ys : List (Str × V)} {ds es : List (Str × D)}, FRep K μ H xs ds → FRep K μ H ys es → FRep K μ H (xs ++ ys) (ds ++ es)
  | _, _, _, _, .nil, s => s
  | _, _, _, _, .cons r t, s => .cons r (FRep.app t s)
theorem FRep.zip : ∀ {fs : List Str} {vs : List V} {ds : List D}, RepAll K μ H vs ds → FRep K μ H (fs.zip vs) (fs.zip ds)
  | [], _, _, _ => .nil
  | _ :: _, _, _, .nil => .nil
  | _ :: _, _, _, .cons r t => .cons r (FRep.zip t)
theorem FRep.rev : ∀ {xs : List (Str × V)} {ds : List (Str × D)}, FRep K μ H xs ds → FRep K μ H xs.reverse ds.reverse
  | _, _, .nil => .nil
  | _, _, .cons r t => by
    rw [List.reverse_cons, List.reverse_cons]
    exact (FRep.rev t).app (.cons r .nil)
end
section
variable {X : Cx} {W : WX} {Vr : XW}
theorem ds_raiseI {n : String} {fs : List String} {e : Expr} {es : List Expr} {m : AM} {k : Nat} {p pos pos2 : Pos} (tk : Takes X W) (F : DefI X.prog X.w X.K X.mg X.base k n fs) (hr : Room (k + 1) X.A) (ha : DA X Vr (e :: es) m)
    (hc : X.calm = true := by rfl) (hg : Gl X (Str.ofString n) := by rfl) (hdb : (Str.ofString n == ("__debug__" : Str)) = false := by decide)
    (he : starEach (e :: es) X.env = (false, eval e X.env) :: starEach es X.env := by rfl) (hpl : (backTo pos (starEach es X.env)).any (·.1) = false := by rfl) :
    DS X (tr X.mg W) (.Raise (some (.Call (.Name (Str.ofString n) p) (e :: es) [] pos)) none pos2) (sRaiseI n fs m) := by
  obtain ⟨C, fI, fd, hm, T, iC, tI, G, B⟩ := F.ex
  refine ⟨PS.imp (ps_raise hc tk (pmk_oex T iC tI G hr B .nil pass0 hg hm ha.pa hdb he hpl)) fun D σ H ⟨μ, s, hd, sr, hrl, f⟩ => ?_⟩
  refine ⟨μ, s, hd, sr, hrl, ?_⟩
  unfold sRaiseI at f
  cases z : m s hd with
  | bad => rw [z] at f; exact f.elim
  | exc x h => rw [z] at f; exact f.elim
  | ok ds h1 =>
    rw [z] at f
    simp only at f
    split at f
    · rename_i hl
      intro μ1 H1 vs e1 hr1 rv
      refine ⟨by rw [rv.length]; exact hl.2, fun a hna => ⟨a, vs, by rw [List.append_nil], by rw [rv.length, List.length_map]; exact hl.1, upd_same, fun d H' hd' hda ea ed k => ⟨rfl, d, _, ea, ed, by rwa [upd_ne hda] at hd', ?_⟩⟩⟩
      have hd1 : H1 d = none := by rwa [upd_ne hda] at hd'
      have eH : upd (del H' a) d (.xd ((fs.map Str.ofString).zip vs).reverse) = upd H1 d (.xd ((fs.map Str.ofString).zip vs).reverse) := by
        funext b
        by_cases hb : b = d
        · rw [hb, upd_same, upd_same]
        · rw [upd_ne hb, upd_ne hb]
          by_cases hba : b = a
          · rw [hba, del_same, hna]
          · rw [del_ne hba, k b hba hb, upd_ne hba]
      rw [eH]
      have q := f μ1 (upd H1 d (.xd ((fs.map Str.ofString).zip vs).reverse)) σ (some d) (e1.trans (Ext.new hd1)) (hr1.new hd1) (sr.ext (e1.trans (Ext.new hd1))) ⟨_, upd_same, (FRep.zip (rv.ext (Ext.new hd1))).rev⟩
      unfold tr at q
      simp only [hm] at q
      exact q
    · exact f.elim
end
section
variable {X : Cx} {W : WX} {x : Str} {c : Value} {body suite : List Stmt} {b₀ : Stmt} {np pos pos' : Pos} {b su : SM} {ms : List String}
end
section
variable {K : PySem.W.Frag} {mg : Str → Option Value} {h : Heap} {C fI B : Addr} (X : K.In h) (G : h.Ns mainGlobals mg)
include X G
theorem basec_mk {n : String} (a : PySem.W.nsIn K mainGlobals (Str.ofString n) = some (some (.ref B))) (h1 : PySem.W.specialIn K (.ref B) "__getattribute__" = some (some (.builtin "type.__getattribute__"))) (h2 : PySem.W.readsIn K B (.type "type") = true)
    (h3 : PySem.W.findCls K (.ref B) (.type "type") "__init__" = some (.val (.builtin "ValueError.__init__"))) : BaseC K mg n := ⟨B, PySem.W.mg_of X G a, h1, h2, h3⟩
theorem topi_mk {n q : String} {st : Stmt} {fs : List String} {oc kV doc pm cdv ct : Value} {od an : Option Addr} {osl : Array (Option Value)} {nm qn : Str} {N : Addr} {bs bm : List Value} {sn : List Str} {sub ab col dd k0 k1 k2 k3 k5}
    (a : PySem.W.nsIn K mainGlobals (Str.ofString n) = some (some (.ref C))) (l : K.lookup C = some (excClassObj nm qn C N bs bm true sn sub ab col dd k0 k1 k2 k3 k5 "ValueError.__new__")) (hbm : PySem.HandSPX.refsVE bm = true)
    (sa : PySem.W.findIn K (.ref C) "__setattr__" = some (some (.builtin "object.__setattr__"))) (eC : PySem.W.subIn K (.ref C) (.type "BaseException") = some true) (tC : PySem.W.typeIn K (.ref C) = some (.type "type")) (kC : PySem.W.keepIn K (.ref C) = true)
    (iC : PySem.W.findIn K (.ref C) "__init__" = some (some (.ref fI))) (tI : PySem.W.typeIn K (.ref fI) = some (.type "function"))
    (lI : K.lookup fI = some ⟨oc, od, .func (PySem.W.fnOf "__init__" (Str.ofString q) (defArgs st) (defBody st) (defScope st) .none kV doc pm an cdv ct), osl⟩) (cI : PySem.W.codeIn K cdv (Str.ofString q) = true) (kI : PySem.W.keepIn K (.ref fI) = true)
    (no : ∀ f ∈ fs, PySem.W.findIn K (.ref C) (Str.ofString f) = some none)
    (hb : ∀ (kV doc pm : Value) (an : Option Addr) (cdv ct : Value) (us : List Value), us.length = (("self" : Str) :: fs.map Str.ofString).length → bindArgs (PySem.W.fnOf "__init__" (Str.ofString q) (defArgs st) (defBody st) (defScope st) .none kV doc pm an cdv ct) ⟨us, []⟩ = pure ((("self" : Str) :: fs.map Str.ofString).zip us)) : TopI K mg n q st fs :=
  ⟨C, fI, _, PySem.W.mg_of X G a, ⟨⟨_, _, _, _, _, _, _, _, _, _, _, _, _, _, _, l, hbm⟩, sa, eC, tC, kC⟩, iC, tI, fun_mk lI cI kI, (fun_mk lI cI kI).binds hb, no⟩
end
end DL
namespace DL
open PySem PySem.Spec PyProof.Rows L2
mutual
def D.refs : D → List Nat
  | .tup xs => D.refsAll xs
  | .rol xs => D.refsAll xs
  | .ref m => [m]
  | .exn _ _ _ xs => D.refsAll xs
  | _ => []
def D.refsAll : List D → List Nat
  | [] => []
  | x :: xs => D.refs x ++ D.refsAll xs
end
mutual
def D.ren (f : Nat → Nat) : D → D
  | .tup xs => .tup (D.renAll f xs)
  | .rol xs => .rol (D.renAll f xs)
  | .ref m => .ref (f m)
  | .exn a d fs xs => .exn a d fs (D.renAll f xs)
  | d => d
def D.renAll (f : Nat → Nat) : List D → List D
  | [] => []
  | x :: xs => D.ren f x :: D.renAll f xs
end
mutual
def D.inn (n : Nat) (js : List Nat) : D → Bool
  | .tup xs => D.innAll n js xs
  | .rol xs => D.innAll n js xs
  | .ref m => decide (m < n) || js.contains m
  | .exn _ _ _ xs => D.innAll n js xs
  | _ => true
def D.innAll (n : Nat) (js : List Nat) : List D → Bool
  | [] => true
  | x :: xs => D.inn n js x && D.innAll n js xs
end
def KDs.map {κ : Type} (f : D → D) (kvs : List (κ × D)) : List (κ × D) := kvs.map fun kv => (kv.1, f kv.2)
def MO.ren (f : Nat → Nat) : MO → MO
  | .lst xs => .lst (D.renAll f xs)
  | .dK kvs => .dK (KDs.map (D.ren f) kvs)
  | .dF kvs => .dF (KDs.map (D.ren f) kvs)
  | .dT kvs => .dT (KDs.map (D.ren f) kvs)
  | .dG kvs => .dG (KDs.map (D.ren f) kvs)
def MO.inn (n : Nat) (js : List Nat) : MO → Bool
  | .lst xs => D.innAll n js xs
  | .dK kvs => kvs.all fun kv => D.inn n js kv.2
  | .dF kvs => kvs.all fun kv => D.inn n js kv.2
  | .dT kvs => kvs.all fun kv => D.inn n js kv.2
  | .dG kvs => kvs.all fun kv => D.inn n js kv.2
def rn (n : Nat) (js : List Nat) (m : Nat) : Nat := if m < n then m else n + js.idxOf m
section
variable {K : PySem.W.Frag} {μ μ' μ2 : List Addr} {H : Hp} {n : Nat} {js : List Nat} {f : Nat → Nat}
def Rn (μ' μ2 : List Addr) (n : Nat) (js : List Nat) (f : Nat → Nat) : Prop := ∀ (k : Nat) (a : Addr), (k < n ∨ k ∈ js) → μ'[k]? = some a → μ2[f k]? = some a
mutual
theorem Rep.ren (b : Rn μ' μ2 n js f) {v : V} {d : D} (hb : d.inn n js = true) : Rep K μ' H v d → Rep K μ2 H v (d.ren f)
  | .non => .non
  | .bl b => .bl b
  | .int i => .int i
  | .str x => .str x
  | .ty n => .ty n
  | .tup h r => .tup h (RepAll.ren b (by unfold D.inn at hb; exact hb) r)
  | .rol h r => .rol h (RepAll.ren b (by unfold D.inn at hb; exact hb) r)
  | .ref h => .ref (b _ _ (by unfold D.inn at hb; simpa using hb) h)
  | .con a => .con a
  | .exn h r => .exn h (RepAll.ren b (by unfold D.inn at hb; exact hb) r)
theorem RepAll.ren (b : Rn μ' μ2 n js f) {vs : List V} {ds : List D} (hb : D.innAll n js ds = true) : RepAll K μ' H vs ds → RepAll K μ2 H vs (D.renAll f ds)
  | .nil => .nil
  | .cons r t => by
    unfold D.innAll at hb
    rw [Bool.and_eq_true] at hb
    exact .cons (Rep.ren b hb.1 r) (RepAll.ren b hb.2 t)
end
end
section
variable {K : PySem.W.Frag} {μ μ' μ2 : List Addr} {H H' : Hp} {n : Nat} {js : List Nat} {f : Nat → Nat} {hd hd' : Hd}
theorem KRep.ren {κ : Type} (b : Rn μ' μ2 n js f) : ∀ {vs : List (κ × V)} {ds : List (κ × D)}, ds.all (fun kv => D.inn n js kv.2) = true → KRep K μ' H vs ds → KRep K μ2 H vs (KDs.map (D.ren f) ds)
  | _, _, _, .nil => .nil
  | _, _, hb, .cons r t => by
    rw [List.all_cons, Bool.and_eq_true] at hb
    exact .cons (r.ren b hb.1) (KRep.ren b hb.2 t)
theorem MRep.ren (b : Rn μ' μ2 n js f) {a : Addr} {o : MO} (hb : o.inn n js = true) (m : MRep K μ' H a o) : MRep K μ2 H a (o.ren f) := by
  cases o with
  | lst ds => obtain ⟨vs, q, r⟩ := m; exact ⟨vs, q, RepAll.ren b hb r⟩
  | dK ds => obtain ⟨vs, q, r⟩ := m; exact ⟨vs, q, r.ren b hb⟩
  | dF ds => obtain ⟨o, vs, q, r⟩ := m; exact ⟨o, vs, q, r.ren b hb⟩
  | dT ds => obtain ⟨vs, q, r⟩ := m; exact ⟨vs, q, r.ren b hb⟩
  | dG ds => obtain ⟨o, vs, q, r⟩ := m; exact ⟨o, vs, q, r.ren b hb⟩
structure Keeps (h h' : Hd) (js : List Nat) (d : D) : Prop where
  ok : OkBelow h h'
  nd : js.Nodup
  new : ∀ j ∈ js, h.length ≤ j ∧ ∃ o, h'[j]? = some o ∧ o.inn h.length js = true
  inn : d.inn h.length js = true
def keepH (h h' : Hd) (js : List Nat) : Hd := h'.take h.length ++ js.map fun j => ((h'[j]?).getD (.lst [])).ren (rn h.length js)
open Classical in
noncomputable def gc2 (js : List Nat) (h : Hd) (d : D) (h' : Hd) : Res D := if Keeps h h' js d then .ok (d.ren (rn h.length js)) (keepH h h' js) else .ok d h'
theorem gc2_fin {W : XW} {σ : L2.St} {d : D} {Q : VK} (hr : HRel K μ H hd) (f : FinG (RD K) K W μ H σ (gc2 js hd d hd') Q) : FinG (RD K) K W μ H σ (.ok d hd') Q := by
  unfold gc2 at f
  split at f
  · rename_i kp
    intro μ' H' v e hr' rv
    obtain ⟨g1, g2, g3⟩ := gc_back hr hr' e kp.ok
    have at' : ∀ j ∈ js, ∃ a o, μ'[j]? = some a ∧ hd'[j]? = some o ∧ o.inn hd.length js = true := fun j hj => by
      obtain ⟨_, o, ho, hi⟩ := kp.new j hj
      have hl := (List.getElem?_eq_some_iff.mp ho).1
      rw [← hr'.len] at hl
      exact ⟨μ'[j], o, List.getElem?_eq_getElem hl, ho, hi⟩
    have hlt : (hd'.take hd.length).length = hd.length := by rw [← g1.len, hr.len]
    generalize hμ2 : μ ++ js.map (fun j => (μ'[j]?).getD 0) = μ2
    have old : ∀ {i : Nat} {a : Addr}, μ[i]? = some a → μ2[i]? = some a := fun {i a} h => by
      rw [← hμ2, List.getElem?_append_left (List.getElem?_eq_some_iff.mp h).1]
      exact h
    have split : ∀ (i : Nat) (c : Addr), μ2[i]? = some c → (μ[i]? = some c ∧ i < hd.length) ∨ ∃ k j, i = hd.length + k ∧ js[k]? = some j ∧ μ'[j]? = some c := fun i c h => by
      rw [← hμ2] at h
      rcases Nat.lt_or_ge i μ.length with z | z
      · rw [List.getElem?_append_left z] at h
        exact .inl ⟨h, by rw [← hr.len]; exact z⟩
      · rw [List.getElem?_append_right z, List.getElem?_map] at h
        obtain ⟨j, hj, ej⟩ := Option.map_eq_some_iff.mp h
        obtain ⟨a, o, ha, _⟩ := at' j (List.mem_of_getElem? hj)
        rw [ha] at ej
        simp only [Option.getD_some] at ej
        subst ej
        exact .inr ⟨i - μ.length, j, by rw [← hr.len]; omega, hj, ha⟩
    have new : ∀ {k j : Nat} {a : Addr}, js[k]? = some j → μ'[j]? = some a → μ2[hd.length + k]? = some a := fun {k j a} h1 h2 => by
      rw [← hμ2, ← hr.len, List.getElem?_append_right (by omega), Nat.add_sub_cancel_left, List.getElem?_map, h1, Option.map_some, h2]
      rfl
    have b : Rn μ' μ2 hd.length js (rn hd.length js) := fun k a hk ha => by
      unfold rn
      split
      · rename_i hl
        exact old (g3 k a hl ha)
      · rename_i hl
        have hj : k ∈ js := hk.resolve_left hl
        have hi := List.idxOf_lt_length_of_mem hj
        refine new (j := k) ?_ ha
        rw [List.getElem?_eq_getElem hi, List.getElem_idxOf]
    have ex : Ext μ H μ2 H' := ⟨fun _ _ h => old h, g2.tups, g2.stay⟩
    have ex' : Ext μ H' μ2 H' := ⟨fun _ _ h => old h, fun _ _ h => h, fun _ _ _ h => h⟩
    refine f μ2 H' v ex ⟨?_, fun i k c h1 h2 => ?_, fun i c u h1 h2 => ?_⟩ (rv.ren b kp.inn)
    · unfold keepH
      rw [← hμ2, List.length_append, List.length_append, List.length_map, List.length_map, hlt, hr.len]
    · rcases split i c h1 with ⟨x, xl⟩ | ⟨k1, j1, rfl, y1, z1⟩
      · rcases split k c h2 with ⟨y, _⟩ | ⟨k2, j2, rfl, y2, z2⟩
        · exact hr.nd i k c x y
        · have := hr'.nd i j2 c (e.nums i c x) z2
          have := (kp.new j2 (List.mem_of_getElem? y2)).1
          omega
      · rcases split k c h2 with ⟨y, yl⟩ | ⟨k2, j2, rfl, y2, z2⟩
        · have := hr'.nd k j1 c (e.nums k c y) z1
          have := (kp.new j1 (List.mem_of_getElem? y1)).1
          omega
        · have ej := hr'.nd j1 j2 c z1 z2
          subst ej
          obtain ⟨l1, e1⟩ := List.getElem?_eq_some_iff.mp y1
          obtain ⟨l2, e2⟩ := List.getElem?_eq_some_iff.mp y2
          have inj : k1 = k2 := by
            rcases Nat.lt_trichotomy k1 k2 with q | q | q
            · exact absurd (by rw [e1, e2]) (List.pairwise_iff_getElem.mp kp.nd k1 k2 l1 l2 q)
            · exact q
            · exact absurd (by rw [e1, e2]) (List.pairwise_iff_getElem.mp kp.nd k2 k1 l2 l1 q)
          rw [inj]
    · unfold keepH at h2
      rcases split i c h1 with ⟨x, xl⟩ | ⟨k1, j1, rfl, y1, z1⟩
      · rw [List.getElem?_append_left (by rw [hlt]; exact xl)] at h2
        exact (g1.obj i c u x h2).ext ex' rfl
      · rw [List.getElem?_append_right (by rw [hlt]; omega), hlt, Nat.add_sub_cancel_left, List.getElem?_map, y1, Option.map_some] at h2
        cases h2
        obtain ⟨_, o, ho, hi⟩ := kp.new j1 (List.mem_of_getElem? y1)
        rw [ho, Option.getD_some]
        exact (hr'.obj j1 c o z1 ho).ren b hi
  · exact f
end
def MO.refs : MO → List Nat
  | .lst xs => D.refsAll xs
  | .dK kvs => kvs.flatMap fun kv => D.refs kv.2
  | .dF kvs => kvs.flatMap fun kv => D.refs kv.2
  | .dT kvs => kvs.flatMap fun kv => D.refs kv.2
  | .dG kvs => kvs.flatMap fun kv => D.refs kv.2
def newR (n : Nat) (l : List Nat) : List Nat := l.filter fun m => decide (n ≤ m)
def news (h' : Hd) (n : Nat) : Nat → List Nat → List Nat → List Nat
  | 0, _, acc => acc
  | _, [], acc => acc
  | f + 1, j :: t, acc => if acc.contains j = true then news h' n f t acc else news h' n f (newR n (((h'[j]?).map MO.refs).getD []) ++ t) (acc ++ [j])
def newsD (h h' : Hd) (d : D) : List Nat := news h' h.length 1000 (newR h.length d.refs) []
noncomputable def gcT (h : Hd) (d : D) (h' : Hd) : Res D := gc2 (newsD h h' d) h d h'
noncomputable def SR.fin2 (h : Hd) (r : SR) : Res D := match r with
  | .nx _ h' => gc h .non h'
  | .rt d h' => gcT h d h'
  | _ => .bad
noncomputable def runB2 (N : Nat) (body : SM) : List D → M D := fun ds h => (body (ds.map some ++ List.replicate (N - ds.length) none) h).fin2 h
noncomputable def SR.finX2 (h : Hd) (r : SR) : Res D := match r with
  | .nx _ h' => gc h .non h'
  | .rt d h' => gcT h d h'
  | .exc x _ h' => .exc x h'
  | .bad => .bad
noncomputable def runX2 (N : Nat) (body : SM) : List D → M D := fun ds h => (body (ds.map some ++ List.replicate (N - ds.length) none) h).finX2 h
section
variable {P : Program} {w : World} {K : PySem.W.Frag} {mg : Str → Option Value} {base : Heap}
theorem def2_mk {x : Str} {st : Stmt} {N ps : List Str} {k : Nat} {body : SM} (T : Top K mg x st ps) (S : FnScope N ps (defScope st))
    (hb : ∀ (f : Addr) (cdv : Value) (A : Around) (outer : List Env) (s : Shared) (H : Hp) (E : XK), Room k (A.deeper (envOfC x (defScope st) s.heap.objs.size f cdv)) → DSs (cxOf CX0 P w K mg base N x (defScope st) f cdv A outer s H E).nox W0 (defBody st) body) :
    Def P w K mg base (k + 1) x ps (runB2 N.length body) := by
  obtain ⟨f, fd, F, hm, hb'⟩ := T.ex
  refine ⟨f, fd, F.ok S (fun vs H Q E ⟨μ, hd, ds, _, r, hl, _⟩ => by rw [r.length, hl]) (fun cdv A outer s H vs Q E hr h => ⟨_, (hb f cdv A outer s H E hr).ps, ?_⟩), hm, F.kp, hb', let ⟨oc, od, _, _, _, _, _, _, osl, _, lk, _⟩ := F.ex; ⟨oc, od, osl, lk⟩⟩
  obtain ⟨μ, hd, ds, hr, r, hl, q⟩ := h
  refine ⟨μ, _, hd, start_rel r, hr, ?_⟩
  unfold runB2 SR.fin2 gcT at q
  cases z : body (ds.map some ++ List.replicate (N.length - ds.length) none) hd with
  | bad => rw [z] at q; exact q.elim
  | exc x s h => rw [z] at q; exact q.elim
  | nx s h => rw [z] at q; exact fun μ' H' σ' e hr' sr' => gc_fin hr q μ' H' .non e hr' .non
  | rt d h => rw [z] at q; exact fun μ' H' v e hr' rv => gc2_fin hr q μ' H' v e hr' rv
theorem defX2_mk {x : Str} {st : Stmt} {N ps : List Str} {k : Nat} {body : SM} (T : Top K mg x st ps) (S : FnScope N ps (defScope st))
    (hb : ∀ (f : Addr) (cdv : Value) (A : Around) (outer : List Env) (s : Shared) (H : Hp) (E : XK), Room k (A.deeper (envOfC x (defScope st) s.heap.objs.size f cdv)) → DSs (cxOf (L2.CX P w) P w K mg base N x (defScope st) f cdv A outer s H E) (tr mg fun c o _ H' => E c o H') (defBody st) body) :
    DefX P w K mg base (k + 1) x ps (runX2 N.length body) := by
  obtain ⟨f, fd, F, hm, hb'⟩ := T.ex
  refine ⟨f, fd, F.okX S (fun vs H Q E ⟨μ, hd, ds, _, r, hl, _⟩ => by rw [r.length, hl]) (fun cdv A outer s H vs Q E hr h => ⟨_, (hb f cdv A outer s H E hr).ps, ?_⟩), hm, F.kp, hb', let ⟨oc, od, _, _, _, _, _, _, osl, _, lk, _⟩ := F.ex; ⟨oc, od, osl, lk⟩⟩
  obtain ⟨μ, hd, ds, hr, r, hl, q⟩ := h
  refine ⟨μ, _, hd, start_rel r, hr, ?_⟩
  unfold runX2 SR.finX2 gcT at q
  cases z : body (ds.map some ++ List.replicate (N.length - ds.length) none) hd with
  | bad => rw [z] at q; exact q.elim
  | exc x s h =>
    rw [z] at q
    intro μ' H' σ' o e hr' sr' xr
    have q' := q μ' H' o e hr' xr
    unfold tr at q' ⊢
    exact q'
  | nx s h => rw [z] at q; exact fun μ' H' σ' e hr' sr' => gc_fin hr q μ' H' .non e hr' .non
  | rt d h => rw [z] at q; exact fun μ' H' v e hr' rv => gc2_fin hr q μ' H' v e hr' rv
end
end DL
namespace DL
open PySem PySem.Spec PyProof.Rows L2
section
variable {X : Cx} {W : XW} {e : Expr} {st : Stmt} {tg : Expr}
end
def keyD : D → Option Key
  | .int i => some (.inl i)
  | .str x => some (.inr x)
  | _ => none
def kD : Key → D
  | .inl i => .int i
  | .inr x => .str x
def valK {κ : Type} [DecidableEq κ] (kvs : List (κ × D)) (k : κ) : Option D := (kvs.find? fun kv => decide (kv.1 = k)).map (·.2)
def putD {κ : Type} [DecidableEq κ] (kvs : List (κ × D)) (k : κ) (v : D) : List (κ × D) :=
  if (kvs.any fun kv => decide (kv.1 = k)) = true then kvs.map (fun kv => if kv.1 = k then (kv.1, v) else kv) else kvs ++ [(k, v)]
def dctOf (h : Hd) : D → Option (List (Key × D))
  | .ref n => (match h[n]? with
    | some (.dK kvs) => some kvs
    | some (.dF kvs) => some kvs
    | _ => none)
  | _ => none
section
variable {K : PySem.W.Frag} {μ : List Addr} {H : Hp} {hd : Hd}
theorem keyD_rep {y : V} {d : D} {k : Key} (r : Rep K μ H y d) (e : keyD d = some k) : y = kV k := by
  cases r <;> cases e <;> rfl
theorem kD_rep {k : Key} : Rep K μ H (kV k) (kD k) := by
  cases k with
  | inl i => exact .int i
  | inr x => exact .str x
theorem KRep.val {κ : Type} [DecidableEq κ] (k : κ) : ∀ {kvs : List (κ × V)} {kds : List (κ × D)}, KRep K μ H kvs kds → (valV kvs k = none ∧ valK kds k = none) ∨ ∃ v d, valV kvs k = some v ∧ valK kds k = some d ∧ Rep K μ H v d
  | _, _, .nil => .inl ⟨rfl, rfl⟩
  | _, _, .cons (k := q) (v := v) (d := d) r t => by
    by_cases e : q = k
    · refine .inr ⟨v, d, valV_pos e, ?_, r⟩
      simp [valK, List.find?_cons, e]
    · rcases KRep.val k t with ⟨h1, h2⟩ | ⟨v, d, h1, h2, h3⟩
      · exact .inl ⟨by rw [valV_neg e]; exact h1, by simpa [valK, List.find?_cons, e] using h2⟩
      · exact .inr ⟨v, d, by rw [valV_neg e]; exact h1, by simpa [valK, List.find?_cons, e] using h2, h3⟩
theorem dctOf_rep {x : V} {d : D} {kds : List (Key × D)} (hr : HRel K μ H hd) (r : Rep K μ H x d) (e : dctOf hd d = some kds) : ∃ a kvs, x = .ref a ∧ Rd H a (.dK kvs) ∧ KRep K μ H kvs kds := by
  cases r with
  | ref hn =>
    unfold dctOf at e
    simp only at e
    split at e
    · rename_i q
      cases e
      obtain ⟨kvs, h1, h2⟩ := hr.obj _ _ _ hn q
      exact ⟨_, kvs, rfl, .of h1, h2⟩
    · rename_i q
      cases e
      obtain ⟨o, kvs, h1, h2⟩ := hr.obj _ _ _ hn q
      exact ⟨_, kvs, rfl, .inr ⟨o, h1⟩, h2⟩
    · cases e
  | _ => cases e
end
def dDG (x y : D) : M D := fun h => match dctOf h x, keyD y with
  | some kvs, some k => (match valK kvs k with
    | some v => .ok v h
    | none => .bad)
  | _, _ => .bad
section
variable {X : Cx} {W : XW} {o i : Expr} {mo mi : EM} {pos : Pos}
theorem de_dget (hu : X.A.units + 1 < cLine) (ho : DE X W o mo) (hi : DE X W i mi) (hs : NoSl i := by exact fun _ _ => rfl) : DE X W (.Subscript o i pos) (e2 dDG mo mi) := ⟨PE.imp (pe_dget hu ho.pe hi.pe hs) fun σ H Q ⟨μ, s, hd, sr, hr, f⟩ => by
  unfold e2 at f
  refine ⟨μ, s, hd, sr, hr, (FinG.bind f).imp ?_⟩
  rintro x H1 ⟨μ1, hd1, dx, e1, hr1, rx, f1⟩
  refine ⟨μ1, s, hd1, sr.ext e1, hr1, (FinG.bind f1).imp ?_⟩
  rintro y H2 ⟨μ2, hd2, dy, e2', hr2, ry, f2⟩
  unfold dDG at f2
  split at f2
  · rename_i kds k ek ey
    split at f2
    · rename_i d ed
      obtain ⟨a, kvs, rfl, rd, kr⟩ := dctOf_rep hr2 (rx.ext e2') ek
      rcases kr.val k with ⟨_, h2⟩ | ⟨v, d', h1, h2, h3⟩
      · rw [ed] at h2
        cases h2
      · rw [ed] at h2
        cases h2
        exact ⟨a, v, rfl, .inl ⟨kvs, k, rd, keyD_rep ry ey, h1.symm⟩, f2.ok hr2 h3⟩
    · exact f2.elim
  · exact f2.elim⟩
end
def dDI (neg : Bool) (y x : D) : M D := fun h => match dctOf h x, keyD y with
  | some kvs, some k => .ok (.bl (neg ^^ (valK kvs k).isSome)) h
  | _, _ => .bad
def dSetD (x y z : D) : Hd → Res Unit := fun h => match x, keyD y with
  | .ref n, some k => (match h[n]? with
    | some (.dK kvs) => if kvs.length < sizeLine then .ok () (h.set n (.dK (putD kvs k z))) else .bad
    | _ => .bad)
  | _, _ => .bad
section
variable {K : PySem.W.Frag} {μ : List Addr} {H : Hp} {hd : Hd}
theorem KRep.any {κ : Type} [DecidableEq κ] (k : κ) : ∀ {kvs : List (κ × V)} {kds : List (κ × D)}, KRep K μ H kvs kds → (kvs.any fun kv => decide (kv.1 = k)) = kds.any fun kv => decide (kv.1 = k)
  | _, _, .nil => rfl
  | _, _, .cons r t => by rw [List.any_cons, List.any_cons, KRep.any k t]
theorem KRep.app {κ : Type} : ∀ {xs ys : List (κ × V)} {ds es : List (κ × D)}, KRep K μ H xs ds → KRep K μ H ys es → KRep K μ H (xs ++ ys) (ds ++ es)
  | _, _, _, _, .nil, s => s
  | _, _, _, _, .cons r t, s => .cons r (KRep.app t s)
theorem KRep.upd {κ : Type} [DecidableEq κ] {k : κ} {v : V} {d : D} (rv : Rep K μ H v d) : ∀ {kvs : List (κ × V)} {kds : List (κ × D)}, KRep K μ H kvs kds → KRep K μ H (kvs.map fun kv => if kv.1 = k then (kv.1, v) else kv) (kds.map fun kv => if kv.1 = k then (kv.1, d) else kv)
  | _, _, .nil => .nil
  | _, _, .cons (k := q) r t => by
    rw [List.map_cons, List.map_cons]
    by_cases e : q = k
    · simp only [e, if_true]
      exact .cons rv (KRep.upd rv t)
    · simp only [if_neg e]
      exact .cons r (KRep.upd rv t)
theorem KRep.put {κ : Type} [DecidableEq κ] {k : κ} {v : V} {d : D} (rv : Rep K μ H v d) {kvs : List (κ × V)} {kds : List (κ × D)} (r : KRep K μ H kvs kds) : KRep K μ H (putK kvs k v) (putD kds k d) := by
  unfold putK putD
  rw [r.any k]
  split
  · exact r.upd rv
  · exact r.app (.cons rv .nil)
theorem lift_setD : LiftSet K rSetD dSetD := fun μ H hd x y z dx dy dz W σ Q hr rx ry rz f => by
  unfold dSetD at f
  split at f
  · rename_i n k ek
    split at f
    · rename_i kds q
      split at f
      · rename_i hl
        cases rx with
        | ref hn =>
          obtain ⟨kvs, h1, h2⟩ := hr.obj _ _ _ hn q
          have ex : Ext μ H μ (upd H _ (.dK (putK kvs k z))) := Ext.write h1 trivial
          refine ⟨_, _, rfl, .inl ⟨kvs, k, h1, keyD_rep ry ek, by rw [h2.length]; exact hl, rfl⟩, ?_⟩
          exact f μ _ () ex (hr.write hn h1 trivial ⟨_, upd_same, (h2.put rz).ext ex⟩) trivial
      · exact f.elim
    · exact f.elim
  · exact f.elim
end
section
variable {X : Cx} {W : XW} {o i : Expr} {mo mi : EM} {pos : Pos}
def eDN : EM := fun _ h => .ok (.ref h.length) (h ++ [.dK []])
theorem de_dnew : DE X W (.Dict [] [] pos) eDN := ⟨PE.imp pe_dnewK fun σ H Q ⟨μ, s, hd, sr, hr, f⟩ => fun p hp => by
  refine f (μ ++ [p]) _ (.ref p) (Ext.laid hp) (hr.laid hp ⟨[], upd_same, .nil⟩) (.ref ?_)
  rw [← hr.len]
  simp⟩
end
structure Ext0 (μ : List Addr) (H : Hp) (μ' : List Addr) (H' : Hp) : Prop where
  nums : ∀ (n : Nat) (a : Addr), μ[n]? = some a → μ'[n]? = some a
  tups : ∀ a xs, H a = some (.tup xs) → H' a = some (.tup xs)
  frzs : ∀ a o xs, H a = some (.frz o (.lst xs)) → H' a = some (.frz o (.lst xs))
  frzt : ∀ a o xs, H a = some (.frz o (.tup xs)) → H' a = some (.frz o (.tup xs))
  exs : ∀ a fs, H a = some (.xd fs) → H' a = some (.xd fs)
section
variable {K : PySem.W.Frag} {μ μ' : List Addr} {H H' : Hp}
theorem Ext0.sqt (e : Ext0 μ H μ' H') {a : Addr} {vs : List V} (h : SqT K H a vs) : SqT K H' a vs := by
  rcases h with (h | ⟨o, h⟩) | h
  · exact .inl (.inl (e.tups _ _ h))
  · exact .inl (.inr ⟨o, e.frzt _ _ _ h⟩)
  · exact .inr h
theorem Ext0.frz (e : Ext0 μ H μ' H') {a : Addr} {vs : List V} (h : Frz K H a vs) : Frz K H' a vs := by
  rcases h with ⟨o, h⟩ | h
  · exact .inl ⟨o, e.frzs _ _ _ h⟩
  · exact .inr h
mutual
theorem Rep.ext0 {v : V} {d : D} (e : Ext0 μ H μ' H') : Rep K μ H v d → Rep K μ' H' v d
  | .non => .non
  | .bl b => .bl b
  | .int i => .int i
  | .str x => .str x
  | .ty n => .ty n
  | .tup h r => .tup (e.sqt h) (RepAll.ext0 e r)
  | .rol h r => .rol (e.frz h) (RepAll.ext0 e r)
  | .ref h => .ref (e.nums _ _ h)
  | .con a => .con a
  | .exn h r => .exn (e.exs _ _ h) (RepAll.ext0 e r)
theorem RepAll.ext0 {vs : List V} {ds : List D} (e : Ext0 μ H μ' H') : RepAll K μ H vs ds → RepAll K μ' H' vs ds
  | .nil => .nil
  | .cons r t => .cons (Rep.ext0 e r) (RepAll.ext0 e t)
end
theorem KRep.ext0 {κ : Type} (e : Ext0 μ H μ' H') : ∀ {kvs : List (κ × V)} {kds : List (κ × D)}, KRep K μ H kvs kds → KRep K μ' H' kvs kds
  | _, _, .nil => .nil
  | _, _, .cons r t => .cons (r.ext0 e) (KRep.ext0 e t)
theorem MRep.ext0 {a : Addr} {o : MO} (m : MRep K μ H a o) (e : Ext0 μ H μ' H') (h : H' a = H a) : MRep K μ' H' a o := by
  cases o with
  | lst ds => obtain ⟨vs, q, r⟩ := m; exact ⟨vs, h.trans q, r.ext0 e⟩
  | dK ds => obtain ⟨vs, q, r⟩ := m; exact ⟨vs, h.trans q, r.ext0 e⟩
  | dF ds => obtain ⟨o, vs, q, r⟩ := m; exact ⟨o, vs, h.trans q, r.ext0 e⟩
  | dT ds => obtain ⟨vs, q, r⟩ := m; exact ⟨vs, h.trans q, r.ext0 e⟩
  | dG ds => obtain ⟨o, vs, q, r⟩ := m; exact ⟨o, vs, h.trans q, r.ext0 e⟩
theorem SRel.ext0 {σ : L2.St} {s : Sl} (r : SRel K μ H σ s) (e : Ext0 μ H μ' H') : SRel K μ' H' σ s := ⟨r.1, fun i d h => by
  obtain ⟨v, h1, h2⟩ := r.2 i d h
  exact ⟨v, h1, h2.ext0 e⟩⟩
theorem HRel.turn {n : Nat} {a : Addr} {o : HO} {m : MO} {hd : Hd} (r : HRel K μ H hd) (hn : μ[n]? = some a) (ex : Ext0 μ H μ (upd H a o)) (q : MRep K μ (upd H a o) a m) : HRel K μ (upd H a o) (hd.set n m) := by
  refine ⟨by simp [r.len], r.nd, fun k b z h1 h2 => ?_⟩
  by_cases hk : n = k
  · subst hk
    rw [hn] at h1; cases h1
    have hl : n < hd.length := by rw [← r.len]; exact (List.getElem?_eq_some_iff.mp hn).1
    rw [List.getElem?_set_self hl] at h2
    cases h2
    exact q
  · rw [List.getElem?_set_ne hk] at h2
    have ne : b ≠ a := fun e => hk (r.nd n k a hn (by rw [h1, e]))
    exact (r.obj k b z h1 h2).ext0 ex (upd_ne ne)
end
def SR.unl (n : Nat) : SR → SR
  | .nx s h => (match h[n]? with
    | some (.dF kds) => .nx s (h.set n (.dK kds))
    | _ => .bad)
  | .rt d h => (match h[n]? with
    | some (.dF kds) => .rt d (h.set n (.dK kds))
    | _ => .bad)
  | .exc x s h => .exc x s h
  | .bad => .bad
def sLock (e : EM) (m : SM) : SM := fun s h => match e s h with
  | .ok (.ref n) _ => (match h[n]? with
    | some (.dK kds) => (m s (h.set n (.dF kds))).unl n
    | _ => m s h)
  | _ => m s h
section
variable {K : PySem.W.Frag} {μ μ' : List Addr} {H H' : Hp} {hd : Hd} {a : Addr} {od : Obj} {kvs : List (Key × V)}
theorem ext0_lock (h : H a = some (.dK kvs)) : Ext0 μ H μ (upd H a (.frz od (.dK kvs))) := by
  have ne : ∀ b o, H b = some o → o ≠ .dK kvs → b ≠ a := fun b o q nk e => by
    rw [e, h] at q
    cases q
    exact nk rfl
  exact ⟨fun _ _ h => h, fun b xs q => by rw [upd_ne (ne b _ q (by intro w; cases w))]; exact q, fun b o xs q => by rw [upd_ne (ne b _ q (by intro w; cases w))]; exact q, fun b o xs q => by rw [upd_ne (ne b _ q (by intro w; cases w))]; exact q, fun b xs q => by rw [upd_ne (ne b _ q (by intro w; cases w))]; exact q⟩
theorem ext_lock (h : H a = some (.dK kvs)) (e : Ext μ (upd H a (.frz od (.dK kvs))) μ' H') : Ext μ H μ' H' := by
  have ne : ∀ b o, H b = some o → o ≠ .dK kvs → b ≠ a := fun b o q nk e => by
    rw [e, h] at q
    cases q
    exact nk rfl
  refine ⟨e.nums, fun b xs q => e.tups b xs ?_, fun b o st q => e.stay b o st ?_⟩
  · rw [upd_ne (ne b _ q (by intro w; cases w))]
    exact q
  · rw [upd_ne (ne b _ q (by intro w; subst w; exact st))]
    exact q
theorem ext0_unlock (h : H a = some (.frz od (.dK kvs))) : Ext0 μ H μ (upd H a (.dK kvs)) := by
  have ne : ∀ b o, H b = some o → o ≠ .frz od (.dK kvs) → b ≠ a := fun b o q nk e => by
    rw [e, h] at q
    cases q
    exact nk rfl
  exact ⟨fun _ _ h => h, fun b xs q => by rw [upd_ne (ne b _ q (by intro w; cases w))]; exact q, fun b o xs q => by rw [upd_ne (ne b _ q (by intro w; cases w))]; exact q, fun b o xs q => by rw [upd_ne (ne b _ q (by intro w; cases w))]; exact q, fun b xs q => by rw [upd_ne (ne b _ q (by intro w; cases w))]; exact q⟩
theorem ext_unlock (h : H a = some (.dK kvs)) (e : Ext μ (upd H a (.frz od (.dK kvs))) μ' H') : Ext μ H μ' (upd H' a (.dK kvs)) := by
  have ne : ∀ b o, H b = some o → o ≠ .dK kvs → b ≠ a := fun b o q nk e => by
    rw [e, h] at q
    cases q
    exact nk rfl
  have e2 := ext_lock h e
  refine ⟨e.nums, fun b xs q => ?_, fun b o st q => ?_⟩
  · rw [upd_ne (ne b _ q (by intro w; cases w))]
    exact e2.tups b xs q
  · rw [upd_ne (ne b _ q (by intro w; subst w; exact st))]
    exact e2.stay b o st q
end
theorem ds_lock {X : Cx} {W : XW} {st : Stmt} {m : SM} (e : EM) (h : DS X W st m) : DS X W st (sLock e m) := ⟨⟨fun pins s σ H D I ⟨μ, sl, hd, sr, hr, f⟩ => by
  unfold sLock at f
  split at f
  · rename_i n h2 en
    split at f
    · rename_i kds q
      have hn : ∃ a, μ[n]? = some a := by
        have hl := (List.getElem?_eq_some_iff.mp q).1
        rw [← hr.len] at hl
        exact ⟨_, List.getElem?_eq_getElem hl⟩
      obtain ⟨a, hn⟩ := hn
      obtain ⟨kvs, h1, h2⟩ := hr.obj _ _ _ hn q
      refine (ps_lock h.ps).run pins s σ H D I ⟨a, _, h1, trivial, fun od => ?_⟩
      have e0 : Ext0 μ H μ (upd H a (.frz od (.dK kvs))) := ext0_lock h1
      refine ⟨μ, sl, hd.set n (.dF kds), sr.ext0 e0, hr.turn hn e0 ⟨od, kvs, upd_same, h2.ext0 e0⟩, ?_⟩
      have back : ∀ {μ' : List Addr} {H' : Hp} {h' : Hd}, Ext μ (upd H a (.frz od (.dK kvs))) μ' H' → HRel X.K μ' H' h' → ∀ kds', h'[n]? = some (.dF kds') → H' a = some (.frz od (.dK kvs)) ∧ HRel X.K μ' (upd H' a (.dK kvs)) (h'.set n (.dK kds')) := fun {μ' H' h'} e hr' kds' q' => by
        have ea : H' a = some (.frz od (.dK kvs)) := e.stay a _ trivial upd_same
        have hn' := e.nums n a hn
        obtain ⟨o', kvs', g1, g2⟩ := hr'.obj _ _ _ hn' q'
        rw [ea] at g1
        cases g1
        exact ⟨ea, hr'.turn hn' (ext0_unlock ea) ⟨kvs, upd_same, g2.ext0 (ext0_unlock ea)⟩⟩
      cases z : m sl (hd.set n (.dF kds)) with
      | bad => rw [z] at f; exact f.elim
      | exc x s1 h1' =>
        rw [z] at f
        exact fun μ' H' σ' o e hr' sr' xr => f μ' H' σ' o (ext_lock h1 e) hr' sr' xr
      | nx s1 h1' =>
        rw [z] at f
        unfold SR.unl at f
        simp only at f
        split at f
        · rename_i kds' q'
          intro μ' H' σ' e hr' sr'
          obtain ⟨ea, hb⟩ := back e hr' kds' q'
          exact ⟨ea, f μ' _ σ' (ext_unlock h1 e) hb (sr'.ext0 (ext0_unlock ea))⟩
        · exact f.elim
      | rt d h1' =>
        rw [z] at f
        unfold SR.unl at f
        simp only at f
        split at f
        · rename_i kds' q'
          intro μ' H' v e hr' rv
          obtain ⟨ea, hb⟩ := back e hr' kds' q'
          exact ⟨ea, f μ' _ v (ext_unlock h1 e) hb (rv.ext0 (ext0_unlock ea))⟩
        · exact f.elim
    · exact h.ps.run pins s σ H D I ⟨μ, sl, hd, sr, hr, f⟩
  · exact h.ps.run pins s σ H D I ⟨μ, sl, hd, sr, hr, f⟩⟩⟩
def dctF (h : Hd) : D → Option (List (Key × D))
  | .ref n => (match h[n]? with
    | some (.dF kvs) => some kvs
    | _ => none)
  | _ => none
def iItm (m : EM) : IM := fun s h => (m s h).bind fun x h1 => match dctF h1 x with
  | some kvs => .ok (kvs.map (fun kv => .tup [kD kv.1, kv.2]), fun _ => True) h1
  | none => .bad
def iKey (m : EM) : IM := fun s h => (m s h).bind fun x h1 => match dctF h1 x with
  | some kvs => .ok (kvs.map (fun kv => kD kv.1), fun _ => True) h1
  | none => .bad
def iVal (m : EM) : IM := fun s h => (m s h).bind fun x h1 => match dctF h1 x with
  | some kvs => .ok (kvs.map (fun kv => kv.2), fun _ => True) h1
  | none => .bad
section
variable {K : PySem.W.Frag} {μ : List Addr} {H : Hp} {hd : Hd}
theorem KRep.get {κ : Type} : ∀ {kvs : List (κ × V)} {kds : List (κ × D)} {i : Nat} {k : κ} {d : D}, KRep K μ H kvs kds → kds[i]? = some (k, d) → ∃ v, kvs[i]? = some (k, v) ∧ Rep K μ H v d
  | _, _, _, _, _, .nil, e => by simp at e
  | _, _, 0, _, _, .cons r _, e => by
    simp at e
    obtain ⟨e1, e2⟩ := e
    subst e1 e2
    exact ⟨_, rfl, r⟩
  | _, _, i + 1, _, _, .cons _ t, e => by
    obtain ⟨v, h1, h2⟩ := KRep.get (i := i) t (by simpa using e)
    exact ⟨v, by simpa using h1, h2⟩
theorem dctF_rep {x : V} {d : D} {kds : List (Key × D)} (hr : HRel K μ H hd) (r : Rep K μ H x d) (e : dctF hd d = some kds) : ∃ a o kvs, x = .ref a ∧ H a = some (.frz o (.dK kvs)) ∧ KRep K μ H kvs kds := by
  cases r with
  | ref hn =>
    unfold dctF at e
    simp only at e
    split at e
    · rename_i q
      cases e
      obtain ⟨o, kvs, h1, h2⟩ := hr.obj _ _ _ hn q
      exact ⟨_, o, kvs, rfl, h1, h2⟩
    · cases e
  | _ => cases e
end
section
variable {X : Cx} {W : XW} {e tg : Expr} {m : EM} {apos cpos tpos : Pos}
theorem di_items {elts : List Expr} {kk : Nat} (he : DE X W e m) (hbase : attributeBase e "items" X.env (eval e X.env) = eval e X.env := by rfl) (hline : (apos.endLine == cpos.line) = true := by rfl) :
    DI X W (.Tuple elts kk tpos) (.Call (.Attribute e "items" apos) [] [] cpos) (iItm m) := ⟨PI.imp (pi_items he.pe hbase hline) fun σ H Q ⟨μ, s, hd, sr, hr, f⟩ => by
  refine ⟨μ, s, hd, sr, hr, (FinG.bind f).imp ?_⟩
  rintro x H1 ⟨μ1, hd1, dx, e1, hr1, rx, f1⟩
  split at f1
  · rename_i kds ek
    obtain ⟨a, o, kvs, rfl, ha, kr⟩ := dctF_rep hr1 rx ek
    refine ⟨a, o, kvs, rfl, ha, f1 μ1 H1 _ .refl hr1 fun μ' H' hd' ex hr' _ i => ⟨fun d hdi => ?_, fun hi => ⟨ex.stay _ _ trivial ha, by rw [kr.length]; simp only [List.length_map] at hi; omega⟩⟩⟩
    rw [List.getElem?_map] at hdi
    obtain ⟨⟨k, dv⟩, hk, rfl⟩ := Option.map_eq_some_iff.mp hdi
    obtain ⟨v, hv, rv⟩ := kr.get hk
    refine ⟨⟨ex.stay _ _ trivial ha, (List.getElem?_eq_some_iff.mp hv).1⟩, fun x H'' ⟨T, k', v', h1, h2, h3, h4⟩ => ?_⟩
    rw [hv] at h1
    cases h1
    subst h2 h4
    exact ⟨Ext.new h3, hr'.new h3, .tup (.inl (.inl upd_same)) (.cons kD_rep (.cons ((rv.ext ex).ext (Ext.new h3)) .nil))⟩
  · exact f1.elim⟩
theorem di_keys (he : DE X W e m) : DI X W tg e (iKey m) := ⟨PI.imp (pi_keys he.pe) fun σ H Q ⟨μ, s, hd, sr, hr, f⟩ => by
  refine ⟨μ, s, hd, sr, hr, (FinG.bind f).imp ?_⟩
  rintro x H1 ⟨μ1, hd1, dx, e1, hr1, rx, f1⟩
  split at f1
  · rename_i kds ek
    obtain ⟨a, o, kvs, rfl, ha, kr⟩ := dctF_rep hr1 rx ek
    refine ⟨a, o, rfl, .inl ⟨kvs, ha, f1 μ1 H1 _ .refl hr1 fun μ' H' hd' ex hr' _ i => ⟨fun d hdi => ?_, fun hi => ⟨ex.stay _ _ trivial ha, by rw [kr.length]; simp only [List.length_map] at hi; omega⟩⟩⟩⟩
    rw [List.getElem?_map] at hdi
    obtain ⟨⟨k, dv⟩, hk, rfl⟩ := Option.map_eq_some_iff.mp hdi
    obtain ⟨v, hv, rv⟩ := kr.get hk
    refine ⟨⟨ex.stay _ _ trivial ha, (List.getElem?_eq_some_iff.mp hv).1⟩, fun x H'' ⟨h0, k', v', h1, h2⟩ => ?_⟩
    rw [hv] at h1
    cases h1
    subst h2 h0
    exact ⟨.refl, hr', kD_rep⟩
  · exact f1.elim⟩
theorem di_values (he : DE X W e m) (hbase : attributeBase e "values" X.env (eval e X.env) = eval e X.env := by rfl) (hline : (apos.endLine == cpos.line) = true := by rfl) : DI X W tg (.Call (.Attribute e "values" apos) [] [] cpos) (iVal m) := ⟨PI.imp (pi_values he.pe hbase hline) fun σ H Q ⟨μ, s, hd, sr, hr, f⟩ => by
  refine ⟨μ, s, hd, sr, hr, (FinG.bind f).imp ?_⟩
  rintro x H1 ⟨μ1, hd1, dx, e1, hr1, rx, f1⟩
  split at f1
  · rename_i kds ek
    obtain ⟨a, o, kvs, rfl, ha, kr⟩ := dctF_rep hr1 rx ek
    refine ⟨a, o, kvs, rfl, ha, f1 μ1 H1 _ .refl hr1 fun μ' H' hd' ex hr' _ i => ⟨fun d hdi => ?_, fun hi => ⟨ex.stay _ _ trivial ha, by rw [kr.length]; simp only [List.length_map] at hi; omega⟩⟩⟩
    rw [List.getElem?_map] at hdi
    obtain ⟨⟨k, dv⟩, hk, rfl⟩ := Option.map_eq_some_iff.mp hdi
    obtain ⟨v, hv, rv⟩ := kr.get hk
    refine ⟨⟨ex.stay _ _ trivial ha, (List.getElem?_eq_some_iff.mp hv).1⟩, fun x H'' ⟨h0, k', h1⟩ => ?_⟩
    rw [hv] at h1
    cases h1
    subst h0
    exact ⟨.refl, hr', rv.ext ex⟩
  · exact f1.elim⟩
end
end DL
namespace DL
open PySem PySem.Spec PyProof.Rows L2
section
variable {X : Cx} {W : XW} {o e f : Expr} {mo me mf : EM} {apos cpos : Pos}
end
end DL
namespace DL
open PySem PySem.Spec PyProof.Rows L2
theorem lt_tri : ∀ a b : List Nat, ltCps a b = false → ltCps b a = false → a = b
  | [], [], _, _ => rfl
  | [], _ :: _, h, _ => by simp [ltCps] at h
  | _ :: _, [], _, h => by simp [ltCps] at h
  | a :: r, b :: t, h1, h2 => by
    simp only [ltCps, Bool.or_eq_false_iff, decide_eq_false_iff_not, Bool.and_eq_false_iff, beq_eq_false_iff_ne] at h1 h2
    have e : a = b := by omega
    subst e
    rw [lt_tri r t (h1.2.resolve_left (by simp)) (h2.2.resolve_left (by simp))]
theorem lt_asym : ∀ a b : List Nat, ltCps a b = true → ltCps b a = false
  | [], [], h => by simp [ltCps] at h
  | [], _ :: _, _ => by simp [ltCps]
  | _ :: _, [], h => by simp [ltCps] at h
  | a :: r, b :: t, h => by
    simp only [ltCps, Bool.or_eq_true, decide_eq_true_eq, Bool.and_eq_true, beq_iff_eq] at h
    simp only [ltCps, Bool.or_eq_false_iff, decide_eq_false_iff_not, Bool.and_eq_false_iff, beq_eq_false_iff_ne]
    rcases h with h | ⟨rfl, h⟩
    · exact ⟨by omega, .inl (by omega)⟩
    · exact ⟨by omega, .inr (lt_asym r t h)⟩
theorem le_tr : ∀ a b c : List Nat, ltCps b a = false → ltCps c b = false → ltCps c a = false
  | [], b, c, h1, h2 => by cases c <;> simp [ltCps]
  | a :: r, [], c, h1, h2 => by simp [ltCps] at h1
  | a :: r, b :: t, [], h1, h2 => by simp [ltCps] at h2
  | a :: r, b :: t, c :: u, h1, h2 => by
    simp only [ltCps, Bool.or_eq_false_iff, decide_eq_false_iff_not, Bool.and_eq_false_iff, beq_eq_false_iff_ne] at h1 h2 ⊢
    refine ⟨by omega, ?_⟩
    by_cases e : c = a
    · have e1 : b = a := by omega
      subst e e1
      exact .inr (le_tr r t u (h1.2.resolve_left (by simp)) (h2.2.resolve_left (by simp)))
    · exact .inl e
def leT (a b : Str) : Prop := ltCps b.cps.toList a.cps.toList = false
theorem leT_tri {a b : Str} (h1 : leT a b) (h2 : leT b a) : a = b := by
  have := lt_tri _ _ h2 h1
  cases a
  cases b
  simp only at this
  rw [Array.toList_inj.mp this]
theorem leT_tr {a b c : Str} (h1 : leT a b) (h2 : leT b c) : leT a c := le_tr _ _ _ h1 h2
theorem sortedS_pw : ∀ {l : List Str}, sortedS l = true → l.Pairwise leT
  | [], _ => .nil
  | [_], _ => by simp
  | x :: y :: l, h => by
    have h : (!ltCps y.cps.toList x.cps.toList && risingS y l) = true := h
    rw [Bool.and_eq_true] at h
    have ih := sortedS_pw (l := y :: l) h.2
    have xy : leT x y := by unfold leT; simpa using h.1
    refine List.pairwise_cons.mpr ⟨fun z hz => ?_, ih⟩
    rcases List.mem_cons.mp hz with rfl | hz
    · exact xy
    · exact leT_tr xy ((List.pairwise_cons.mp ih).1 z hz)
def insT (x : Str) : List Str → List Str
  | [] => [x]
  | y :: l => if ltCps y.cps.toList x.cps.toList = true then y :: insT x l else x :: y :: l
def sortT (l : List Str) : List Str := l.foldr insT []
theorem insT_perm {x : Str} : ∀ l : List Str, (insT x l).Perm (x :: l)
  | [] => .refl _
  | y :: l => by
    unfold insT
    split
    · exact ((insT_perm l).cons y).trans (.swap x y l)
    · exact .refl _
theorem sortT_perm : ∀ l : List Str, (sortT l).Perm l
  | [] => .refl _
  | x :: l => (insT_perm _).trans ((sortT_perm l).cons x)
theorem insT_pw {x : Str} : ∀ {l : List Str}, l.Pairwise leT → (insT x l).Pairwise leT
  | [], _ => by simp [insT]
  | y :: l, h => by
    unfold insT
    obtain ⟨h1, h2⟩ := List.pairwise_cons.mp h
    split
    · rename_i c
      refine List.pairwise_cons.mpr ⟨fun z hz => ?_, insT_pw h2⟩
      rcases List.mem_cons.mp ((insT_perm l).mem_iff.mp hz) with rfl | hz
      · exact lt_asym _ _ c
      · exact h1 z hz
    · rename_i c
      have xy : leT x y := by unfold leT; simpa using c
      refine List.pairwise_cons.mpr ⟨fun z hz => ?_, h⟩
      rcases List.mem_cons.mp hz with rfl | hz
      · exact xy
      · exact leT_tr xy (h1 z hz)
theorem sortT_pw : ∀ l : List Str, (sortT l).Pairwise leT
  | [] => .nil
  | x :: l => insT_pw (sortT_pw l)
theorem sortT_uniq {ys xs : List Str} (p : ys.Perm xs) (h : sortedS ys = true) : ys = sortT xs :=
  List.Perm.eq_of_pairwise (le := leT) (fun _ _ _ _ h1 h2 => leT_tri h1 h2) (sortedS_pw h) (sortT_pw xs) (p.trans (sortT_perm xs).symm)
def strsOf : List D → Option (List Str)
  | [] => some []
  | .str x :: l => (strsOf l).map (x :: ·)
  | _ => none
def namesOf : List (Key × D) → Option (List Str)
  | [] => some []
  | (.inr x, _) :: l => (namesOf l).map (x :: ·)
  | _ => none
section
variable {K : PySem.W.Frag} {μ : List Addr} {H : Hp} {hd : Hd}
theorem strsOf_rep : ∀ {vs : List V} {ds : List D} {xs : List Str}, RepAll K μ H vs ds → strsOf ds = some xs → vs = xs.map V.str
  | _, _, _, .nil, e => by cases e; rfl
  | _, _, _, .cons r t, e => by
    cases r with
    | str x =>
      unfold strsOf at e
      obtain ⟨l, hl, rfl⟩ := Option.map_eq_some_iff.mp e
      rw [strsOf_rep t hl]
      rfl
    | _ => cases e
theorem strs_rep30 : ∀ {xs : List Str}, RepAll K μ H (xs.map V.str) (xs.map D.str)
  | [] => .nil
  | x :: xs => .cons (.str x) strs_rep30
theorem namesOf_rep : ∀ {kvs : List (Key × V)} {kds : List (Key × D)} {xs : List Str}, KRep K μ H kvs kds → namesOf kds = some xs → kvs.map (·.1) = xs.map Sum.inr
  | _, _, _, .nil, e => by cases e; rfl
  | _, _, _, .cons (k := k) r t, e => by
    cases k with
    | inl i => cases e
    | inr x =>
      unfold namesOf at e
      obtain ⟨l, hl, rfl⟩ := Option.map_eq_some_iff.mp e
      rw [List.map_cons, namesOf_rep t hl]
      rfl
end
def bSortT (ds : List D) : M D := fun h => match ds with
  | [x] => (match (match dctOf h x with
      | some kvs => namesOf kvs
      | none => (lstOf h x).bind strsOf) with
    | some xs => if xs.length < 64 then .ok (.ref h.length) (h ++ [.lst ((sortT xs).map D.str)]) else .bad
    | none => .bad)
  | _ => .bad
abbrev rSortD : List V → Hp → VK → Prop := fun xs H Q => ∃ (a : Addr) (kvs : List (Key × V)) (ks : List Str), xs = [.ref a] ∧ Rd H a (.dK kvs) ∧ kvs.map (·.1) = ks.map Sum.inr ∧ ks.length < 64 ∧ ∀ ys p, ys.Perm ks → sortedS ys = true → H p = none → Q (.ref p) (upd H p (.lst (ys.map V.str)))
theorem lift_sortT {K : PySem.W.Frag} : LiftN K (fun xs H Q => rSortedS K xs H Q ∨ rSortD xs H Q) bSortT := fun μ H hd xs dx W σ Q hr rx f => by
  unfold bSortT at f
  split at f
  · rename_i x
    cases rx with
    | cons r1 r2 =>
      cases r2
      split at f
      · rename_i ns en
        split at f
        · rename_i hl
          have go : ∀ (ys : List Str) (p : Addr), ys.Perm ns → sortedS ys = true → H p = none → Q (.ref p) (upd H p (.lst (ys.map V.str))) := fun ys p hp hs hn => by
            rw [sortT_uniq hp hs]
            refine f (μ ++ [p]) _ (.ref p) (Ext.laid hn) (hr.laid hn ⟨_, upd_same, strs_rep30⟩) (.ref ?_)
            rw [← hr.len]
            simp
          split at en
          · rename_i kds ek
            obtain ⟨a, kvs, rfl, rd, kr⟩ := dctOf_rep hr r1 ek
            exact .inr ⟨a, kvs, ns, rfl, rd, namesOf_rep kr en, hl, go⟩
          · obtain ⟨ds, el, es⟩ := Option.bind_eq_some_iff.mp en
            obtain ⟨a, vs, rfl, hs, rr⟩ := lstOf_rep hr r1 el
            have ev := strsOf_rep rr es
            subst ev
            exact .inl ⟨a, ns, rfl, hs, hl, go⟩
        · exact f.elim
      · exact f.elim
  · exact f.elim
theorem call_sortT {X : Cx} (hc : X.calm = true) : CallR X (.builtin "sorted") (fun xs H Q => rSortedS X.K xs H Q ∨ rSortD xs H Q) := callR_or cr_sortedS (call_sortedD hc)
end DL
namespace DL
open PySem PySem.Spec PyProof.Rows L2
def dClear (x : D) : M D := fun h => match x with
  | .ref n => (match h[n]? with
    | some (.dK _) => .ok .non (h.set n (.dK []))
    | _ => .bad)
  | _ => .bad
theorem de_dclear {X : Cx} {W : XW} {o : Expr} {mo : EM} {apos cpos : Pos} (ho : DE X W o mo) (hbase : attributeBase o "clear" X.env (eval o X.env) = eval o X.env := by rfl) (hline : (apos.endLine == cpos.line) = true := by rfl) : DE X W (.Call (.Attribute o "clear" apos) [] [] cpos) (e1 dClear mo) := ⟨PE.imp (pe_dclear ho.pe hbase hline) fun σ H Q ⟨μ, s, hd, sr, hr, f⟩ => by
  refine ⟨μ, s, hd, sr, hr, (FinG.bind f).imp ?_⟩
  rintro x H1 ⟨μ1, hd1, dx, e1, hr1, rx, f1⟩
  unfold dClear at f1
  split at f1
  · rename_i n
    split at f1
    · rename_i kds q
      cases rx with
      | ref hn =>
        obtain ⟨kvs, h1, h2⟩ := hr1.obj _ _ _ hn q
        have ex : Ext μ1 H1 μ1 (upd H1 _ (.dK [])) := Ext.write h1 trivial
        refine ⟨.inr (.inr (.inl ⟨rfl, .inl ⟨kvs, h1⟩⟩)), _, kvs, rfl, rfl, h1, ?_⟩
        exact f1 μ1 _ .non ex (hr1.write hn h1 trivial ⟨[], upd_same, .nil⟩) .non
    · exact f1.elim
  · exact f1.elim⟩
section
variable {K : PySem.W.Frag} {μ : List Addr} {H : Hp} {hd : Hd}
end
end DL
namespace DL
open PySem PySem.Spec PyProof.Rows L2
theorem hu1 {k : Nat} {A : Around} (r : Room k A) : A.units + 1 < cLine := by have := r.un; omega
section
variable {prog : Program} {w : World}
open PySem.MeetsSeq PySem.MeetsSeq2 PySem.MeetsSeq3
open AutoSeq1 (wpAny_loadPart')
theorem tupNe (l b : Addr) (us vs : Array Value) (n m : Nat) (dd de : Option Addr) (sl sm : Array (Option Value)) (hsz : us.size = vs.size) :
    MeetsIn prog w (Builtin.«tuple.__ne__» ⟨[.ref l, .ref b], []⟩)
      (fun A R s => s.heap.get? l = some ⟨.type "tuple", dd, .seq us n, sl⟩ ∧ s.heap.get? b = some ⟨.type "tuple", de, .seq vs m, sm⟩ ∧
        (∀ j (h1 : j < us.size) (h2 : j < vs.size), SeqAt.EqP prog w A.in1 s us[j] vs[j] true) ∧ R (.ok (.ret (.bool false))) s) :=
  .of_wp fun A R s h => by
    obtain ⟨hp, g, d, tk, os⟩ := s; obtain ⟨hl, hb, he, h⟩ := h
    have f2 := AutoSeq1.sub_tuple_tuple
    have hZ : (us.toList.zip vs.toList).length = us.size := by simp [hsz]
    wp_walk using wpAny_loadPart' hl, wpAny_loadPart' hb, wpAny_forIn_list _ (fun rest b s' => b.1 = none ∧ s' = ⟨hp, g, d, tk, os⟩ ∧ ∃ i, rest = (us.toList.zip vs.toList).drop i) _
    case turn =>
      rintro ⟨y, x⟩ rest b s' ⟨hb', rfl, i, hz⟩
      have hlt : i < us.size := by
        rcases Nat.lt_or_ge i us.size with q | q
        · exact q
        · rw [List.drop_of_length_le (by omega)] at hz; cases hz
      have ht : i < vs.size := by omega
      rw [List.drop_eq_getElem_cons (by omega)] at hz
      injection hz with hyx hrest
      have hy : y = us[i] := by simpa using congrArg Prod.fst hyx
      have hx : x = vs[i] := by simpa using congrArg Prod.snd hyx
      subst hy hx
      refine wpAny_bind (he i hlt ht _ _ ?_)
      wp_walk
      exact ⟨rfl, rfl, i + 1, hrest⟩
    case fin =>
      rintro ⟨b1, b2⟩ s' ⟨hb', rfl, i, hz⟩
      simp only at hb'
      subst hb'
      wp_walk
      exact ⟨_, rfl, by simpa [Builtin.Tuple.tupleCompareSizes, hsz] using h⟩
    case h => exact ⟨rfl, rfl, 0, rfl⟩
end
section
variable {prog : Program} {w : World} {A : Around} {s : Shared}
theorem rcNe_tups {l b : Addr} {us vs : Array Value} (hl : s.heap.IsTuple l us) (hb : s.heap.IsTuple b vs) (hsz : us.size = vs.size) (hu : A.units < cLine)
    (he : ∀ j (h1 : j < us.size) (h2 : j < vs.size), SeqAt.EqP prog w A.in1 s us[j] vs[j] true) (E Q : Value → Shared → Prop) (h : Q (.bool false) s) :
    wpAny (model prog w) A (richCompare .NotEq (.ref l) (.ref b)) Q E s := by
  obtain ⟨⟨c1, d1, x1, s1⟩, ho, hc, n, hd⟩ := id hl
  obtain ⟨⟨c2, d2, x2, s2⟩, ho2, hc2, n2, hd2⟩ := id hb
  simp only at hc hd hc2 hd2
  subst hc hd hc2 hd2
  have ta : s.TypeIs (.ref l) "tuple" := ⟨_, ho, rfl⟩
  have tb : s.TypeIs (.ref b) "tuple" := ⟨_, ho2, rfl⟩
  exact wpAny_richCompare_same_room (op := .NotEq) ta tb F.slot_tuple_ne (call_meetsIn F.slot_tuple_ne ta F.entry_tuple_ne (F.args_tuple_ne_2 _ _) (tupNe l b us vs n n2 d1 d2 s1 s2 hsz)
    ⟨ho, ho2, he, show Value.bool false ≠ Value.notImplemented ∧ Q (.bool false) s from ⟨(fun x => nomatch x), h⟩⟩) hu
variable {K : Type} [DecidableEq K] {knd : KeyKind prog w K}
theorem rcNe_dicts {a b : Addr} {ka kb : List (K × Value)} {r : Bool} (ha : (a == sysModules) = false) (hb : (b == sysModules) = false)
    (da : s.heap.DictOf knd a ka) (db : s.heap.DictOf knd b kb) (hu : A.units < cLine) (hits : ka.length = kb.length → PySem.W.KeqHitsP prog w A.in1 s kb ka r) (E Q : Value → Shared → Prop) (h : Q (.bool (!(ka.length == kb.length && r))) s) :
    wpAny (model prog w) A (richCompare .NotEq (.ref a) (.ref b)) Q E s := by
  refine wpAny_richCompare_same_room (op := .NotEq) da.typeIs db.typeIs PySem.F.slot_dict_ne (wpAny_call_entry PySem.F.slot_dict_ne da.typeIs PySem.F.entry_dict_ne ?_ (PySem.F.args_dict_ne_2 _ _)) hu
  show wpAny _ _ (Builtin.Dict.dictSlotArgs "__ne__" ⟨[.ref a, .ref b], []⟩ >>= _) _ _ s
  unfold Builtin.Dict.dictSlotArgs
  refine wpAny_bind (wpAny_bind (wpAny_notOrdered_dict da.typeIs ?_))
  refine (show wpAny _ _ (pure (Value.ref a, Value.ref b)) _ _ s from wpAny_pure ?_)
  refine wpAny_bind (wpAny_isInstance (T := "dict") db.typeIs PySem.F.sub_dict_dict ?_)
  simp only [Bool.not_true, Bool.false_eq_true, if_false]
  refine wpAny_bind (wpAny_pure (wpAny_bind (wpAny_pure (wpAny_bind (PySem.W.samePairsP ha hb da db hits ?_)))))
  exact wpAny_pure ⟨_, rfl, (fun x => nomatch x), by simpa using h⟩
end
def EqR2 (K : PySem.W.Frag) (H : Hp) (E : V → V → Prop) (x y : V) : Prop :=
  (∃ a b xs ys, x = .ref a ∧ y = .ref b ∧ SqT K H a xs ∧ SqT K H b ys ∧ Paired E xs ys) ∨
    ∃ a b ks ls, x = .ref a ∧ y = .ref b ∧ Rd H a (.dK ks) ∧ Rd H b (.dK ls) ∧ ks.length = ls.length ∧ ∀ p ∈ ks, ∃ u, valV ls p.1 = some u ∧ E p.2 u
def EqRL (K : PySem.W.Frag) (H : Hp) (E : V → V → Prop) (x y : V) : Prop :=
  EqR2 K H E x y ∨ ∃ a b xs ys, x = .ref a ∧ y = .ref b ∧ SqL K H a xs ∧ SqL K H b ys ∧ Paired E xs ys
def EqV2 (K : PySem.W.Frag) (H : Hp) : Nat → V → V → Prop
  | 0 => fun _ _ => False
  | n + 1 => fun x y => (x = y ∧ flatB x = true) ∨ (∃ a, x = .ref a ∧ y = .ref a) ∨ EqRL K H (EqV2 K H n) x y
section
variable {X : Cx} {pins : List (Addr × Obj)} {σ : L2.St} {H : Hp} {s : Shared}
theorem eqR2_items {A : Around} {F : V → V → Prop} (ih : ∀ x y v u, F x y → RelV x v → RelV y u → SeqAt.EqP X.prog X.w A.in1 s v u true) {xs ys : List V} (hp : Paired F xs ys) {us ws : List Value} (r1 : Vals xs us) (r2 : Vals ys ws) :
    us.toArray.size = ws.toArray.size ∧ ∀ j (h1 : j < us.toArray.size) (h2 : j < ws.toArray.size), SeqAt.EqP X.prog X.w A.in1 s us.toArray[j] ws.toArray[j] true := by
  refine ⟨?_, fun j h1 h2 => ?_⟩
  · rw [List.size_toArray, List.size_toArray, ← r1.length, ← r2.length]
    exact Paired.length hp
  · simpa using items_run ih hp r1 r2 j (by simpa using h1) (by simpa using h2)
theorem eqRL_run (I : Inv X pins σ H s) {A : Around} {F : V → V → Prop} (hu : A.units < cLine) (ih : ∀ x y v u, F x y → RelV x v → RelV y u → SeqAt.EqP X.prog X.w A.in1 s v u true) {x y : V} {v u : Value} (h : EqRL X.K H F x y) (rx : RelV x v) (ry : RelV y u)
    (E Q : Value → Shared → Prop) (q : Q (.bool true) s) : wpAny (model X.prog X.w) A (richCompare .Eq v u) Q E s := by
  rcases h with (⟨a, b, xs, ys, rfl, rfl, ha, hb, hp⟩ | ⟨a, b, ks, ls, rfl, rfl, ha, hb, hl, hp⟩) | ⟨a, b, xs, ys, rfl, rfl, ha, hb, hp⟩
  · cases (show v = Value.ref a from rx)
    cases (show u = Value.ref b from ry)
    obtain ⟨us, r1, p1, _⟩ := I.tuple ha
    obtain ⟨ws, r2, p2, _⟩ := I.tuple hb
    obtain ⟨hsz, he⟩ := eqR2_items ih hp r1 r2
    refine SeqAt.rcIn_tuples (e := fun _ => true) p1 p2 hu he ?_
    rw [hsz, Nat.min_self, show ((List.range ws.toArray.size).all fun _ => true) = true from List.all_eq_true.mpr fun _ _ => rfl, beq_self_eq_true]
    exact q
  · cases (show v = Value.ref a from rx)
    cases (show u = Value.ref b from ry)
    obtain ⟨_, ya, va, ra, da⟩ := (show ObjOk X.prog X.w H s.heap a (.dK ks) from ha.ok I.hok)
    obtain ⟨_, yb, vb, rb, db⟩ := (show ObjOk X.prog X.w H s.heap b (.dK ls) from hb.ok I.hok)
    refine PySem.W.rcP_dicts (knd := mixKind X.prog X.w) (r := true) ya yb da db hu (fun _ => hits_run ih rb ra hp) E Q ?_
    rw [show (va.length == vb.length && true) = true from by rw [show va.length = vb.length from by rw [← ra.length, ← rb.length]; exact hl]; simp]
    exact q
  · cases (show v = Value.ref a from rx)
    cases (show u = Value.ref b from ry)
    obtain ⟨us, r1, p1, _⟩ := I.list ha
    obtain ⟨ws, r2, p2, _⟩ := I.list hb
    obtain ⟨hsz, he⟩ := eqR2_items ih hp r1 r2
    refine SeqAt.rcP_lists (e := fun _ => true) p1.isList p2.isList hsz hu he E Q ?_
    rw [show ((List.range us.toArray.size).all fun _ => true) = true from List.all_eq_true.mpr fun _ _ => rfl]
    exact q
theorem neR2_run (I : Inv X pins σ H s) {A : Around} {F : V → V → Prop} (hu : A.units < cLine) (ih : ∀ x y v u, F x y → RelV x v → RelV y u → SeqAt.EqP X.prog X.w A.in1 s v u true) {x y : V} {v u : Value} (h : EqR2 X.K H F x y) (rx : RelV x v) (ry : RelV y u)
    (E Q : Value → Shared → Prop) (q : Q (.bool false) s) : wpAny (model X.prog X.w) A (richCompare .NotEq v u) Q E s := by
  rcases h with ⟨a, b, xs, ys, rfl, rfl, ha, hb, hp⟩ | ⟨a, b, ks, ls, rfl, rfl, ha, hb, hl, hp⟩
  · cases (show v = Value.ref a from rx)
    cases (show u = Value.ref b from ry)
    obtain ⟨us, r1, p1, _⟩ := I.tuple ha
    obtain ⟨ws, r2, p2, _⟩ := I.tuple hb
    obtain ⟨hsz, he⟩ := eqR2_items ih hp r1 r2
    exact rcNe_tups p1 p2 hsz hu he E Q q
  · cases (show v = Value.ref a from rx)
    cases (show u = Value.ref b from ry)
    obtain ⟨_, ya, va, ra, da⟩ := (show ObjOk X.prog X.w H s.heap a (.dK ks) from ha.ok I.hok)
    obtain ⟨_, yb, vb, rb, db⟩ := (show ObjOk X.prog X.w H s.heap b (.dK ls) from hb.ok I.hok)
    refine rcNe_dicts (knd := mixKind X.prog X.w) (r := true) ya yb da db hu (fun _ => hits_run ih rb ra hp) E Q ?_
    rw [show (!(va.length == vb.length && true)) = false from by rw [show va.length = vb.length from by rw [← ra.length, ← rb.length]; exact hl]; simp]
    exact q
theorem eqV2_run (I : Inv X pins σ H s) : ∀ (n : Nat) (A : Around), A.units + n < cLine → ∀ (x y : V) (v u : Value), EqV2 X.K H n x y → RelV x v → RelV y u → SeqAt.EqP X.prog X.w A s v u true
  | 0, _, _, _, _, _, _, h, _, _ => (show False from h).elim
  | n + 1, A, hu, x, y, v, u, h, rx, ry => by
    rcases h with ⟨rfl, f⟩ | ⟨a, rfl, rfl⟩ | h
    · exact (eqAt_same rx ry f).eqP
    · cases (show v = Value.ref a from rx)
      cases (show u = Value.ref a from ry)
      exact (SeqAt.EqAt.same _).eqP
    · have go := eqRL_run I (A := A) (by omega) (eqV2_run I n A.in1 (by show A.units + 1 + n < cLine; omega)) h rx ry
      obtain ⟨a, b, rfl, rfl⟩ : ∃ a b, x = .ref a ∧ y = .ref b := by
        rcases h with (⟨a, b, _, _, e1, e2, _⟩ | ⟨a, b, _, _, e1, e2, _⟩) | ⟨a, b, _, _, e1, e2, _⟩ <;> exact ⟨a, b, e1, e2⟩
      cases (show v = Value.ref a from rx)
      cases (show u = Value.ref b from ry)
      by_cases e : a = b
      · subst e
        exact (SeqAt.EqAt.same _).eqP
      · exact SeqAt.eqP_refs e go
end
def eqDs (F : D → D → Bool) : List D → List D → Bool
  | [], [] => true
  | x :: xs, y :: ys => F x y && eqDs F xs ys
  | _, _ => false
def eqKs {κ : Type} [DecidableEq κ] (F : D → D → Bool) (ks ls : List (κ × D)) : Bool := ks.length == ls.length && ks.all fun p => match valK ls p.1 with
  | some u => F p.2 u
  | none => false
def kvsM : MO → Option (List (Key × D))
  | .dK ks => some ks
  | .dF ks => some ks
  | _ => none
def eqS (h : Hd) (F : D → D → Bool) (x y : D) : Bool := match x, y with
  | .tup xs, .tup ys => eqDs F xs ys
  | .ref a, .ref b => (match (h[a]?).bind kvsM, (h[b]?).bind kvsM with
    | some ks, some ls => eqKs F ks ls
    | _, _ => false)
  | _, _ => false
def eqL (h : Hd) (F : D → D → Bool) (x y : D) : Bool := match x, y with
  | .ref a, .ref b => (match h[a]?, h[b]? with
    | some (.lst xs), some (.lst ys) => eqDs F xs ys
    | _, _ => false)
  | _, _ => false
def sameD (x y : D) : Bool := match x, y with
  | .non, .non => true
  | .bl a, .bl b => a == b
  | .int i, .int j => decide (i = j)
  | .str i, .str j => decide (i = j)
  | .ref n, .ref m => n == m
  | _, _ => false
def eqD (h : Hd) : Nat → D → D → Bool
  | 0 => fun _ _ => false
  | n + 1 => fun x y => sameD x y || eqS h (eqD h n) x y || eqL h (eqD h n) x y
def dEqX (neg : Bool) (x y : D) : M D := fun h => if eqS h (eqD h 40) x y = true then .ok (.bl (neg ^^ true)) h else dEqn neg x y h
section
variable {K : PySem.W.Frag} {μ : List Addr} {H : Hp} {hd : Hd} {F : D → D → Bool} {E : V → V → Prop}
theorem eqDs_rep (hF : ∀ x y dx dy, Rep K μ H x dx → Rep K μ H y dy → F dx dy = true → E x y) : ∀ {xs ys : List V} {dx dy : List D}, RepAll K μ H xs dx → RepAll K μ H ys dy → eqDs F dx dy = true → Paired E xs ys
  | _, _, _, _, .nil, .nil, _ => .nil
  | _, _, _, _, .nil, .cons _ _, e => by cases e
  | _, _, _, _, .cons _ _, .nil, e => by cases e
  | _, _, _, _, .cons r1 t1, .cons r2 t2, e => by
    unfold eqDs at e
    rw [Bool.and_eq_true] at e
    exact .cons (hF _ _ _ _ r1 r2 e.1) (eqDs_rep hF t1 t2 e.2)
theorem KRep.memV {κ : Type} : ∀ {kvs : List (κ × V)} {kds : List (κ × D)}, KRep K μ H kvs kds → ∀ p ∈ kvs, ∃ d, (p.1, d) ∈ kds ∧ Rep K μ H p.2 d
  | _, _, .nil, _, h => by cases h
  | _, _, .cons r t, p, h => by
    rcases List.mem_cons.mp h with rfl | h
    · exact ⟨_, List.mem_cons_self, r⟩
    · obtain ⟨d, h1, h2⟩ := KRep.memV t p h
      exact ⟨d, List.mem_cons_of_mem _ h1, h2⟩
theorem eqKs_rep (hF : ∀ x y dx dy, Rep K μ H x dx → Rep K μ H y dy → F dx dy = true → E x y) {ks ls : List (Key × V)} {kd ld : List (Key × D)} (r1 : KRep K μ H ks kd) (r2 : KRep K μ H ls ld) (e : eqKs F kd ld = true) :
    ks.length = ls.length ∧ ∀ p ∈ ks, ∃ u, valV ls p.1 = some u ∧ E p.2 u := by
  unfold eqKs at e
  rw [Bool.and_eq_true, beq_iff_eq, List.all_eq_true] at e
  refine ⟨by rw [r1.length, r2.length]; exact e.1, fun p hp => ?_⟩
  obtain ⟨d, hd, rd⟩ := r1.memV p hp
  have q := e.2 _ hd
  rcases r2.val p.1 with ⟨_, h2⟩ | ⟨v, d', h1, h2, h3⟩
  · simp only [h2] at q
    cases q
  · simp only [h2] at q
    exact ⟨v, h1, hF _ _ _ _ rd h3 q⟩
theorem kvsM_rep {n : Nat} {a : Addr} {kds : List (Key × D)} (hr : HRel K μ H hd) (hn : μ[n]? = some a) (e : (hd[n]?).bind kvsM = some kds) : ∃ kvs, Rd H a (.dK kvs) ∧ KRep K μ H kvs kds := by
  obtain ⟨o, ho, e⟩ := Option.bind_eq_some_iff.mp e
  have m := hr.obj _ _ _ hn ho
  cases o with
  | dK ks =>
    cases e
    obtain ⟨kvs, h1, h2⟩ := m
    exact ⟨kvs, .of h1, h2⟩
  | dF ks =>
    cases e
    obtain ⟨o, kvs, h1, h2⟩ := m
    exact ⟨kvs, .inr ⟨o, h1⟩, h2⟩
  | _ => cases e
theorem eqS_rep (hr : HRel K μ H hd) (hF : ∀ x y dx dy, Rep K μ H x dx → Rep K μ H y dy → F dx dy = true → E x y) {x y : V} {dx dy : D} (rx : Rep K μ H x dx) (ry : Rep K μ H y dy) (e : eqS hd F dx dy = true) : EqR2 K H E x y := by
  unfold eqS at e
  split at e
  · cases rx with
    | tup h1 r1 =>
      cases ry with
      | tup h2 r2 => exact .inl ⟨_, _, _, _, rfl, rfl, h1, h2, eqDs_rep hF r1 r2 e⟩
  · split at e
    · rename_i ks ls e1 e2
      cases rx with
      | ref h1 =>
        cases ry with
        | ref h2 =>
          obtain ⟨kv, q1, q2⟩ := kvsM_rep hr h1 e1
          obtain ⟨lv, q3, q4⟩ := kvsM_rep hr h2 e2
          obtain ⟨z1, z2⟩ := eqKs_rep hF q2 q4 e
          exact .inr ⟨_, _, _, _, rfl, rfl, q1, q3, z1, z2⟩
    · cases e
  · cases e
theorem eqL_rep (hr : HRel K μ H hd) (hF : ∀ x y dx dy, Rep K μ H x dx → Rep K μ H y dy → F dx dy = true → E x y) {x y : V} {dx dy : D} (rx : Rep K μ H x dx) (ry : Rep K μ H y dy) (e : eqL hd F dx dy = true) : EqRL K H E x y := by
  unfold eqL at e
  split at e
  · split at e
    · rename_i xs ys e1 e2
      cases rx with
      | ref h1 =>
        cases ry with
        | ref h2 =>
          obtain ⟨xv, q1, q2⟩ := hr.obj _ _ _ h1 e1
          obtain ⟨yv, q3, q4⟩ := hr.obj _ _ _ h2 e2
          exact .inr ⟨_, _, _, _, rfl, rfl, .of q1, .of q3, eqDs_rep hF q2 q4 e⟩
    · cases e
  · cases e
theorem sameD_rep {x y : V} {dx dy : D} (rx : Rep K μ H x dx) (ry : Rep K μ H y dy) (e : sameD dx dy = true) : (x = y ∧ flatB x = true) ∨ ∃ a, x = .ref a ∧ y = .ref a := by
  unfold sameD at e
  split at e
  · cases rx; cases ry; exact .inl ⟨rfl, rfl⟩
  · cases rx; cases ry; rw [beq_iff_eq] at e; subst e; exact .inl ⟨rfl, rfl⟩
  · cases rx; cases ry; rw [decide_eq_true_eq] at e; subst e; exact .inl ⟨rfl, rfl⟩
  · cases rx; cases ry; rw [decide_eq_true_eq] at e; subst e; exact .inl ⟨rfl, rfl⟩
  · cases rx with
    | ref h1 =>
      cases ry with
      | ref h2 =>
        rw [beq_iff_eq] at e
        subst e
        rw [h1] at h2
        cases h2
        exact .inr ⟨_, rfl, rfl⟩
  · cases e
theorem eqD_rep (hr : HRel K μ H hd) : ∀ (n : Nat) (x y : V) (dx dy : D), Rep K μ H x dx → Rep K μ H y dy → eqD hd n dx dy = true → EqV2 K H n x y
  | 0, _, _, _, _, _, _, e => by cases e
  | n + 1, x, y, dx, dy, rx, ry, e => by
    unfold eqD at e
    rw [Bool.or_eq_true, Bool.or_eq_true] at e
    rcases e with (e | e) | e
    · rcases sameD_rep rx ry e with h | h
      · exact .inl h
      · exact .inr (.inl h)
    · exact .inr (.inr (.inl (eqS_rep hr (eqD_rep hr n) rx ry e)))
    · exact .inr (.inr (eqL_rep hr (eqD_rep hr n) rx ry e))
end
def rEqX (neg : Bool) (K : PySem.W.Frag) : R2 := fun x y H Q => (EqR2 K H (EqV2 K H 40) x y ∧ Q (.bl (neg ^^ true)) H) ∨ ∃ d e, Dp K H x d ∧ Dp K H y e ∧ SeqAt.shaped d = true ∧ SeqAt.shaped e = true ∧ Q (.bl (neg ^^ PyData.eqv d e)) H
theorem lift_eqX {K : PySem.W.Frag} {neg : Bool} : Lift2 K (rEqX neg K) (dEqX neg) := fun μ H hd x y dx dy W σ Q hr rx ry f => by
  unfold dEqX at f
  split at f
  · rename_i c
    exact .inl ⟨eqS_rep hr (eqD_rep hr 40) rx ry c, FinG.ok (R := RD K) f hr (.bl _)⟩
  · exact .inr (lift_eq μ H hd x y dx dy W σ Q hr rx ry f)
section
variable {X : Cx}
theorem op_xEq (hu : X.A.units + 64 < cLine) : OpR X (compareOp .Eq) (rEqX false X.K) := by
  intro pins s σ H x y v u Q I rx ry h
  rcases h with ⟨h, q⟩ | h
  · exact eqRL_run I (A := X.A) (by omega) (eqV2_run I 40 X.A.in1 (by show X.A.units + 1 + 40 < cLine; omega)) (.inl h) rx ry _ _ ⟨.bl true, H, I, rfl, q⟩
  · exact op_eqD' hu pins s σ H x y v u Q I rx ry h
theorem op_xNe (hu : X.A.units + 64 < cLine) : OpR X (compareOp .NotEq) (rEqX true X.K) := by
  intro pins s σ H x y v u Q I rx ry h
  rcases h with ⟨h, q⟩ | h
  · exact neR2_run I (A := X.A) (by omega) (eqV2_run I 40 X.A.in1 (by show X.A.units + 1 + 40 < cLine; omega)) h rx ry _ _ ⟨.bl false, H, I, rfl, q⟩
  · exact op_neD' hu pins s σ H x y v u Q I rx ry h
end
section
variable {X : Cx} {W : XW} {o i : Expr} {mo mi : EM} {pos : Pos}
theorem dt_dnotin (hu : X.A.units + 1 < cLine) (hi : DE X W i mi) (ho : DE X W o mo) (h1 : behindInMarks .NotIn o = false := by first | exact nobehind _ (by decide) (by decide) | rfl) : DT X W (.Compare i [.NotIn] [o] pos) (tB' (e2 (dDI true) mi mo)) :=
  ⟨PT.imp (pt_cmp (pc_dnotin hu hi.pe ho.pe) h1) fun σ H Q q => by
    have z := tof_B q
    obtain ⟨μ, s, hd, sr, hr, f⟩ := z
    unfold e2 at f
    refine ⟨μ, s, hd, sr, hr, (FinG.bind f).imp ?_⟩
    rintro y H1 ⟨μ1, hd1, dy, e1, hr1, ry, f1⟩
    refine ⟨μ1, s, hd1, sr.ext e1, hr1, (FinG.bind f1).imp ?_⟩
    rintro x H2 ⟨μ2, hd2, dx, e2', hr2, rx, f2⟩
    unfold dDI at f2
    split at f2
    · rename_i kds k ek ey
      obtain ⟨a, kvs, rfl, rd, kr⟩ := dctOf_rep hr2 rx ek
      refine ⟨a, _, rfl, .inl ⟨kvs, k, rd, keyD_rep (ry.ext e2') ey, rfl⟩, ?_⟩
      rcases kr.val k with ⟨q1, q2⟩ | ⟨v, d', q1, q2, q3⟩ <;> rw [q2] at f2 <;> rw [q1] <;> exact f2.ok hr2 (.bl _)
    · exact f2.elim⟩
end
def eDP (mk mv : EM) : EM := fun s h => (mk s (h ++ [.dK []])).bind fun y h1 => (mv s h1).bind fun z h2 => match keyD y, h2[h.length]? with
  | some k, some (.dK []) => .ok (.ref h.length) (h2.set h.length (.dK [(k, z)]))
  | _, _ => .bad
theorem de_dp {X : Cx} {W : XW} {k v : Expr} {mk mv : EM} {pos : Pos} (hk : DE X W k mk) (hv : DE X W v mv) : DE X W (.Dict [some k] [v] pos) (eDP mk mv) :=
  ⟨PE.imp (pe_disp (pps_cons hk.pe (hv := hv.pe) pps_nil) rfl rfl (fun z => by cases z) (show 1 ≤ 15 by decide)) fun σ H Q ⟨μ, s, hd, sr, hr, f⟩ => fun p hp => by
    have ex : Ext μ H (μ ++ [p]) (upd H p (.dK [])) := Ext.laid hp
    have hr0 : HRel X.K (μ ++ [p]) (upd H p (.dK [])) (hd ++ [.dK []]) := hr.laid hp ⟨[], upd_same, .nil⟩
    have hn : (μ ++ [p])[hd.length]? = some p := by rw [← hr.len]; simp
    unfold eDP at f
    refine ⟨μ ++ [p], s, hd ++ [.dK []], sr.ext ex, hr0, ((FinG.bind (f.base ex)).imp ?_)⟩
    rintro y H1 ⟨μ1, hd1, dy, e1, hr1, ry, f1⟩
    refine ⟨μ1, s, hd1, (sr.ext ex).ext e1, hr1, (FinG.bind f1).imp ?_⟩
    rintro z H2 ⟨μ2, hd2, dz, e2', hr2, rz, f2⟩
    split at f2
    · rename_i k ek eo
      have hn2 := (e2'.nums _ _ (e1.nums _ _ hn))
      obtain ⟨kvs, h1, h2⟩ := hr2.obj _ _ _ hn2 eo
      cases h2
      have ek' := keyD_rep (ry.ext e2') ek
      subst ek'
      have ex2 : Ext μ2 H2 μ2 (upd H2 p (.dK [(k, z)])) := Ext.write h1 trivial
      refine ⟨h1, [(k, z)], rfl, (show 1 ≤ 15 by decide), ?_⟩
      exact f2 μ2 _ (.ref p) ex2 (hr2.write hn2 h1 trivial ⟨_, upd_same, .cons (rz.ext ex2) .nil⟩) (.ref hn2)
    · exact f2.elim⟩
end DL
namespace DL
open PySem PySem.Spec PyProof.Rows L2
end DL
namespace DL
open PySem PySem.Spec PyProof.Rows L2
section
variable {X : Cx} {W : XW} {a b c : Expr} {ma mb mc : EM} {pos : Pos} {op op' : CmpOp} {r r' : R2} {g g' : D → D → M D}
end
end DL
namespace DL
open PySem PySem.Spec PyProof.Rows L2
def strIdx (ws : List Str) (w : Str) : Nat := ws.findIdx fun x => x.cps.toList == w.cps.toList
def rmE (w : Str) (v : Value) : Bool := match v with
  | .str x _ => x.cps.toList == w.cps.toList
  | _ => false
theorem rmE_gives {w : Str} {t : Tok} : ∀ {us : List Value} {ws : List Str}, StrsAre us ws → ∀ y ∈ us, MeetsSeq.EqGives y (.str w t) (rmE w y)
  | _, _, .nil => fun y hy => by cases hy
  | _, _, .cons x k h => fun y hy => by
    rcases List.mem_cons.mp hy with e | e
    · rw [e]
      exact SeqRoads2.EqGives.str x w k t
    · exact rmE_gives h y e
theorem rmE_at {w : Str} : ∀ {us : List Value} {ws : List Str}, StrsAre us ws → ∀ (i : Nat) (u : Value) (x : Str), us[i]? = some u → ws[i]? = some x → rmE w u = (x.cps.toList == w.cps.toList)
  | _, _, .nil, i, u, x, h1, h2 => by simp at h1
  | _, _, .cons y k h, 0, u, x, h1, h2 => by
    simp only [List.getElem?_cons_zero, Option.some.injEq] at h1 h2
    subst h1 h2
    rfl
  | _, _, .cons y k h, i + 1, u, x, h1, h2 => by
    simp only [List.getElem?_cons_succ] at h1 h2
    exact rmE_at h i u x h1 h2
theorem erase_mapS : ∀ (l : List Str) (j : Nat), (l.map V.str).eraseIdx j = (l.eraseIdx j).map V.str
  | [], j => by simp
  | a :: r, 0 => by simp
  | a :: r, j + 1 => by
    have ih := erase_mapS r j
    simp [ih]
theorem eraseS_len {ws : List Str} {j : Nat} : (ws.eraseIdx j).length ≤ ws.length := by
  rw [List.length_eraseIdx]
  split <;> omega
def rRemS : V → List V → Hp → VK → Prop := fun x xs H Q => ∃ (l : Addr) (ws : List Str) (w : Str), x = .ref l ∧ xs = [.str w] ∧ H l = some (.lst (ws.map V.str)) ∧ strIdx ws w < ws.length ∧ Q .non (upd H l (.lst ((ws.eraseIdx (strIdx ws w)).map V.str)))
theorem mt_remS {X : Cx} : MtR X "list.remove" rRemS := by
  intro pins s σ H x xs v us Q I rx rxs h
  obtain ⟨l, ws, w, rfl, rfl, hH, hj, q⟩ := h
  cases rx
  obtain ⟨u, rfl, ru⟩ := rxs.one
  obtain ⟨t, rfl⟩ := ru
  obtain ⟨z, its, n, r, hl, e⟩ := I.lstM hH
  have hi := Vals.strs r
  rw [List.length_map] at hl z
  have hjl : strIdx ws w < its.toArray.size := by rw [List.size_toArray]; omega
  refine call_meets PySem.F.slot_list_remove ⟨_, e, rfl⟩ PySem.F.entry_list_remove (PySem.F.args_list_remove_2 _ _)
    (MeetsSeq.list_remove l its.toArray n (.str w t) (rmE w) (fun y hy => rmE_gives hi y (by simpa using hy)) (strIdx ws w) hjl ?_ ?_ (by rw [List.size_toArray]; omega)) ⟨e, ?_⟩
  · have hjs : strIdx ws w < its.length := by rw [List.size_toArray] at hjl; exact hjl
    rw [rmE_at hi (strIdx ws w) _ _ (by rw [← List.getElem?_toArray]; exact Array.getElem?_eq_getElem hjl) (List.getElem?_eq_getElem hj)]
    exact List.findIdx_getElem (p := fun x : Str => x.cps.toList == w.cps.toList) (w := hj)
  · intro m hm hmj
    have hmn : m < ws.length := by omega
    rw [rmE_at hi m _ _ (by rw [← List.getElem?_toArray]; exact Array.getElem?_eq_getElem hm) (List.getElem?_eq_getElem hmn)]
    have := List.not_of_lt_findIdx (p := fun x : Str => x.cps.toList == w.cps.toList) hmj
    exact this
  · have rr := r.eraseIdx (strIdx ws w)
    rw [erase_mapS] at rr
    refine ⟨.non, _, I.lset (its' := its.eraseIdx (strIdx ws w)) (t' := s.toks) hH e ?_ rr ?_, rfl, q⟩
    · show its.toArray.eraseIdxIfInBounds (strIdx ws w) = (its.eraseIdx (strIdx ws w)).toArray
      rw [List.eraseIdxIfInBounds_toArray]
    · have z2 := eraseS_len (ws := ws) (j := strIdx ws w)
      rw [List.length_map]
      omega
def mRem (x : D) (ds : List D) : M D := fun h => match x, ds with
  | .ref n, [.str w] => (match h[n]? with
    | some (.lst xs) => (match strsOf xs with
      | some ws => if strIdx ws w < ws.length then .ok .non (h.set n (.lst ((ws.eraseIdx (strIdx ws w)).map D.str))) else .bad
      | none => .bad)
    | _ => .bad)
  | _, _ => .bad
section
variable {K : PySem.W.Frag} {μ : List Addr} {H : Hp} {hd : Hd}
theorem lift_rem : LiftM K rRemS mRem := fun μ H hd x dx xs dxs W σ Q hr rx rxs f => by
  unfold mRem at f
  split at f
  · split at f
    · rename_i as q
      split at f
      · rename_i ws es
        split at f
        · rename_i hl
          cases rx with
          | ref hn =>
            cases rxs with
            | cons r1 rr =>
              cases rr
              cases r1
              obtain ⟨vs, h1, ra⟩ := hr.obj _ _ _ hn q
              have ev := strsOf_rep ra es
              subst ev
              have ex : ∀ zs, Ext μ H μ (upd H _ (.lst zs)) := fun zs => Ext.write h1 trivial
              exact ⟨_, ws, _, rfl, rfl, h1, hl, f μ _ _ (ex _) (hr.write hn h1 trivial ⟨_, upd_same, strs_rep30⟩) .non⟩
        · exact f.elim
      · exact f.elim
    · exact f.elim
  · exact f.elim
end
end DL
namespace DL
open PySem PySem.Spec PyProof.Rows L2
def keyP : Key → PyData
  | .inl i => .int i
  | .inr x => .str x
section
variable (K : PySem.W.Frag) (H : Hp)
mutual
inductive DpN : V → PyData → Prop
  | non : DpN .non .none
  | bl (b : Bool) : DpN (.bl b) (.bool b)
  | int (i : Int) : DpN (.int i) (.int i)
  | str (x : Str) : DpN (.str x) (.str x)
  | lst {a : Addr} {xs : List V} {ds : List PyData} : SqL K H a xs → DpNs xs ds → DpN (.ref a) (.list ds)
  | tup {a : Addr} {xs : List V} {ds : List PyData} : SqT K H a xs → DpNs xs ds → DpN (.ref a) (.tuple ds)
  | dic {a : Addr} {kvs : List (Key × V)} {ds : List (PyData × PyData)} : Rd H a (.dK kvs) → DpNk kvs ds → DpN (.ref a) (.dict ds)
inductive DpNs : List V → List PyData → Prop
  | nil : DpNs [] []
  | cons {v : V} {vs : List V} {d : PyData} {ds : List PyData} : DpN v d → DpNs vs ds → DpNs (v :: vs) (d :: ds)
inductive DpNk : List (Key × V) → List (PyData × PyData) → Prop
  | nil : DpNk [] []
  | cons {k : Key} {v : V} {vs : List (Key × V)} {d : PyData} {ds : List (PyData × PyData)} : DpN v d → DpNk vs ds → DpNk ((k, v) :: vs) ((keyP k, d) :: ds)
end
end
mutual
def noL : PyData → Bool
  | .list _ => false
  | .tuple xs => noLs xs
  | .dict kvs => noLk kvs
  | _ => true
def noLs : List PyData → Bool
  | [] => true
  | x :: xs => noL x && noLs xs
def noLk : List (PyData × PyData) → Bool
  | [] => true
  | x :: xs => noL x.2 && noLk xs
end
def noT : PyData → Bool
  | .list xs => noLs xs
  | p => noL p
section
variable {X : Cx} {pins : List (Addr × Obj)} {σ : L2.St} {H : Hp} {s : Shared}
mutual
theorem DpN.rds (I : Inv X pins σ H s) : ∀ {v : V} {d : PyData}, DpN X.K H v d → ∀ u, RelV v u → ∃ l, Reads s.heap u d l ∧ (noL d = true → sysModules ∉ l)
  | _, _, .non, _, r => by
    cases r
    exact ⟨[], .none, fun _ h => by cases h⟩
  | _, _, .bl b, _, r => by
    cases r
    exact ⟨[], .bool b, fun _ h => by cases h⟩
  | _, _, .int i, _, r => by
    obtain ⟨t, rfl⟩ := r
    exact ⟨[], .int i t, fun _ h => by cases h⟩
  | _, _, .str x, _, r => by
    obtain ⟨t, rfl⟩ := r
    exact ⟨[], .str x t, fun _ h => by cases h⟩
  | _, _, .lst hs ha, _, r => by
    cases r
    obtain ⟨its, rv, ⟨o, n, ho, hc, _, hd⟩, _⟩ := I.list hs
    obtain ⟨l, hl, _⟩ := DpNs.rds I ha _ rv
    refine ⟨_, .list ho hc hd hl, fun h => ?_⟩
    unfold noL at h
    cases h
  | _, _, .tup hs ha, _, r => by
    cases r
    obtain ⟨its, rv, ⟨o, ho, hc, n, hd⟩, _⟩ := I.tuple hs
    obtain ⟨l, hl, hn⟩ := DpNs.rds I ha _ rv
    refine ⟨l, .tuple ho hc hd hl, fun h => hn ?_⟩
    unfold noL at h
    exact h
  | _, _, .dic hd hk, _, r => by
    cases r
    obtain ⟨_, hm, vs, rv, dd⟩ := dk_rd I.hok hd
    obtain ⟨l, hl, hn⟩ := DpNk.rds I hk vs rv
    have kk : ∀ (k : Key) (u : Value), (mixKind X.prog X.w).is k u = true → Reads s.heap u (keyP k) [] := fun k u e => by
      rcases keyIs_shape (show keyIs k u = true from e) with ⟨i, t, rfl, rfl⟩ | ⟨x, t, rfl, rfl⟩
      · exact .int i t
      · exact .str x t
    refine ⟨_, PyProof.V.reads_dictOf kk dd hl, fun h hmem => ?_⟩
    unfold noL at h
    rcases List.mem_cons.mp hmem with e | e
    · rw [← e] at hm
      exact absurd hm (by decide)
    · exact hn h e
theorem DpNs.rds (I : Inv X pins σ H s) : ∀ {vs : List V} {ds : List PyData}, DpNs X.K H vs ds → ∀ us, Vals vs us → ∃ l, ReadsAll s.heap us ds l ∧ (noLs ds = true → sysModules ∉ l)
  | _, _, .nil, _, r => by
    cases r
    exact ⟨[], .nil, fun _ h => by cases h⟩
  | _, _, .cons h1 h2, _, r => by
    cases r with
    | cons r1 r2 =>
      obtain ⟨l1, a1, b1⟩ := DpN.rds I h1 _ r1
      obtain ⟨l2, a2, b2⟩ := DpNs.rds I h2 _ r2
      refine ⟨l1 ++ l2, .cons a1 a2, fun h hm => ?_⟩
      unfold noLs at h
      rw [Bool.and_eq_true] at h
      exact (List.mem_append.mp hm).elim (b1 h.1) (b2 h.2)
theorem DpNk.rds (I : Inv X pins σ H s) : ∀ {vs : List (Key × V)} {ds : List (PyData × PyData)}, DpNk X.K H vs ds → ∀ us, KV vs us → ∃ l, PyProof.V.PairsRead s.heap keyP us ds l ∧ (noLk ds = true → sysModules ∉ l)
  | _, _, .nil, _, r => by
    cases r
    exact ⟨[], .nil, fun _ h => by cases h⟩
  | _, _, .cons h1 h2, _, r => by
    cases r with
    | @cons p q _ _ r1 r2 =>
      obtain ⟨k, u⟩ := q
      obtain ⟨e, r1⟩ := r1
      cases (show _ = k from e)
      obtain ⟨l1, a1, b1⟩ := DpN.rds I h1 _ r1
      obtain ⟨l2, a2, b2⟩ := DpNk.rds I h2 _ r2
      refine ⟨l1 ++ l2, .cons a1 a2, fun h hm => ?_⟩
      unfold noLk at h
      rw [Bool.and_eq_true] at h
      exact (List.mem_append.mp hm).elim (b1 h.1) (b2 h.2)
end
def OkP (p : PyData) : Prop := p.showable = true ∧ p.depth ≤ 60 ∧ p.shown.length ≤ sizeLine ∧ (p.hasDict = false ∨ noT p = true)
instance (p : PyData) : Decidable (OkP p) := by
  unfold OkP
  exact inferInstance
theorem call_reprN (hg : X.A.guards = some []) (hu : X.A.units + 64 < cLine) : CallR X (.builtin "repr") (fun xs H Q => ∃ v p, xs = [v] ∧ DpN X.K H v p ∧ OkP p ∧ Q (.str p.shown) H) := by
  intro pins s σ H xs us Q I r h
  obtain ⟨v, p, rfl, dp, ⟨sh, dd, sz, nl⟩, q⟩ := h
  obtain ⟨u, rfl, ru⟩ := vals1 r
  obtain ⟨l, rd, hn⟩ := DpN.rds I dp u ru
  have big : ∀ a, u = .ref a → (p.hasDict = true → sysModules ∉ l) → wpAny (model X.prog X.w) X.A (call (.builtin "repr") [u]) (EP X pins σ Q) X.xe s := fun a e hm => by
    subst e
    exact repr_of_reads' rd sh hm hg (by omega) (fun _ _ z => z) (fun h' u tk hk => ⟨.str _, H, I.kept hk, ⟨_, rfl⟩, q⟩) sz
  cases dp with
  | non =>
    cases ru
    exact P.repr_of_none ⟨.str _, H, I.tok _, ⟨_, rfl⟩, by simpa only [PyData.shown] using q⟩
  | bl b =>
    cases ru
    exact P.repr_of_bool ⟨.str _, H, I.tok _, ⟨_, rfl⟩, by simpa only [PyData.shown] using q⟩
  | int i =>
    obtain ⟨t, rfl⟩ := ru
    exact P.repr_of_int (by simpa [PyData.showable] using sh) ⟨.str _, H, I.tok _, ⟨_, rfl⟩, by simpa only [PyData.shown] using q⟩
  | str x =>
    obtain ⟨t, rfl⟩ := ru
    exact P.repr_of_str ⟨.str _, H, I.tok _, ⟨_, rfl⟩, by simpa only [PyData.shown] using q⟩ (by simpa only [PyData.shown] using sz)
  | @tup a xs ds hs ha =>
    refine big a (show u = Value.ref a from ru) fun hd => ?_
    rcases nl with nl | nl
    · rw [hd] at nl
      cases nl
    · exact hn nl
  | @dic a kvs ds hs ha =>
    refine big a (show u = Value.ref a from ru) fun hd => ?_
    rcases nl with nl | nl
    · rw [hd] at nl
      cases nl
    · exact hn nl
  | @lst a xs ds hs ha =>
    cases hd : (PyData.list ds).hasDict with
    | false => exact big a (show u = Value.ref a from ru) fun h => by rw [hd] at h; cases h
    | true =>
      have nls : noLs ds = true := by
        rcases nl with nl | nl
        · rw [hd] at nl
          cases nl
        · exact nl
      cases (show u = Value.ref a from ru)
      obtain ⟨its, rv, ⟨o, n, ho, hc, _, hda⟩, _⟩ := I.list hs
      obtain ⟨l2, rs, hn2⟩ := DpNs.rds I ha _ rv
      have szs : (listText (PyData.shownAll ds)).length ≤ sizeLine := by simpa only [PyData.shown] using sz
      obtain ⟨bs, hb, hk⟩ := ReprAllK.of_readsAll (prog := X.prog) (w := X.w) rs (by simpa [PyData.showable] using sh) (fun _ => hn2 nls) fun t ht => Nat.le_trans (listText_mem_le ht) szs
      have out : a ∉ bs := not_mem_of_deeper (.list ho hc hda rs) (by simp only [PyData.depth]; omega) hb
      simp only [PyData.depth] at dd
      cases its with
      | nil =>
        cases rs
        simp [PyData.hasDict, PyData.hasDictAll] at hd
      | cons y its =>
        refine call_repr_slot (T := "list") (by omega) ⟨o, ho, hc⟩ PySem.F.slot_list_repr.toG (call_list_reprK ho hc hda out (by simpa using hk.length_eq) (fun i z e => hk.item i z (by simpa using e)) hg (fun b _ => Clear.nil b) (by show X.A.units + 1 + _ < cLine; omega) (fun _ _ z => z) (fun h' u tk hk' => ⟨_, _, rfl, ⟨.str _, H, I.kept hk', ⟨_, rfl⟩, by simpa only [PyData.shown] using q⟩⟩) szs)
end
def pyNs (f : D → Option PyData) : List D → Option (List PyData)
  | [] => some []
  | x :: xs => (f x).bind fun p => (pyNs f xs).map (p :: ·)
def pyNk (f : D → Option PyData) : List (Key × D) → Option (List (PyData × PyData))
  | [] => some []
  | x :: xs => (f x.2).bind fun p => (pyNk f xs).map ((keyP x.1, p) :: ·)
def pyN (h : Hd) : Nat → D → Option PyData
  | 0, _ => none
  | n + 1, d => match d with
    | .non => some .none
    | .bl b => some (.bool b)
    | .int i => some (.int i)
    | .str x => some (.str x)
    | .tup xs => (pyNs (pyN h n) xs).map .tuple
    | x => match lstOf h x with
      | some xs => (pyNs (pyN h n) xs).map .list
      | none => (dctOf h x).bind fun kds => (pyNk (pyN h n) kds).map .dict
noncomputable def bReprN (ds : List D) : M D := fun h => match ds with
  | [x] => (match pyN h 20 x with
    | some p => if OkP p then .ok (.str p.shown) h else .bad
    | none => .bad)
  | _ => .bad
section
variable {K : PySem.W.Frag} {μ : List Addr} {H : Hp} {hd : Hd}
theorem pyNs_rep {f : D → Option PyData} (hf : ∀ v d p, Rep K μ H v d → f d = some p → DpN K H v p) : ∀ {vs : List V} {ds : List D} {ps : List PyData}, RepAll K μ H vs ds → pyNs f ds = some ps → DpNs K H vs ps
  | _, _, _, .nil, e => by
    cases e
    exact .nil
  | _, _, _, .cons r t, e => by
    unfold pyNs at e
    obtain ⟨p, h1, e⟩ := Option.bind_eq_some_iff.mp e
    obtain ⟨l, h2, rfl⟩ := Option.map_eq_some_iff.mp e
    exact .cons (hf _ _ _ r h1) (pyNs_rep hf t h2)
theorem pyNk_rep {f : D → Option PyData} (hf : ∀ v d p, Rep K μ H v d → f d = some p → DpN K H v p) : ∀ {vs : List (Key × V)} {ds : List (Key × D)} {ps : List (PyData × PyData)}, KRep K μ H vs ds → pyNk f ds = some ps → DpNk K H vs ps
  | _, _, _, .nil, e => by
    cases e
    exact .nil
  | _, _, _, .cons r t, e => by
    unfold pyNk at e
    obtain ⟨p, h1, e⟩ := Option.bind_eq_some_iff.mp e
    obtain ⟨l, h2, rfl⟩ := Option.map_eq_some_iff.mp e
    exact .cons (hf _ _ _ r h1) (pyNk_rep hf t h2)
theorem pyN_rep (hr : HRel K μ H hd) : ∀ (n : Nat) (v : V) (d : D) (p : PyData), Rep K μ H v d → pyN hd n d = some p → DpN K H v p
  | 0, _, _, _, _, e => by cases e
  | n + 1, v, d, p, r, e => by
    have ih := pyN_rep hr n
    have go : (match lstOf hd d with
      | some xs => (pyNs (pyN hd n) xs).map .list
      | none => (dctOf hd d).bind fun kds => (pyNk (pyN hd n) kds).map .dict) = some p → DpN K H v p := fun e => by
      split at e
      · rename_i xs el
        obtain ⟨ps, h1, rfl⟩ := Option.map_eq_some_iff.mp e
        obtain ⟨a, vs, rfl, hs, rr⟩ := lstOf_rep hr r el
        exact .lst hs (pyNs_rep ih rr h1)
      · obtain ⟨kds, h1, e⟩ := Option.bind_eq_some_iff.mp e
        obtain ⟨ps, h2, rfl⟩ := Option.map_eq_some_iff.mp e
        obtain ⟨a, kvs, rfl, rd, kr⟩ := dctOf_rep hr r h1
        exact .dic rd (pyNk_rep ih kr h2)
    cases r with
    | non => cases e; exact .non
    | bl b => cases e; exact .bl b
    | int i => cases e; exact .int i
    | str x => cases e; exact .str x
    | tup hs ra =>
      obtain ⟨ps, h1, rfl⟩ := Option.map_eq_some_iff.mp e
      exact .tup hs (pyNs_rep ih ra h1)
    | _ => exact go e
theorem lift_reprN : LiftN K (fun xs H Q => ∃ v p, xs = [v] ∧ DpN K H v p ∧ OkP p ∧ Q (.str p.shown) H) bReprN := fun μ H hd xs dx W σ Q hr rx f => by
  unfold bReprN at f
  split at f
  · split at f
    · rename_i p ep
      split at f
      · rename_i ok
        cases rx with
        | cons r1 r2 =>
          cases r2
          exact ⟨_, p, rfl, pyN_rep hr _ _ _ _ r1 ep, ok, FinG.ok (R := RD K) f hr (.str _)⟩
      · exact f.elim
    · exact f.elim
  · exact f.elim
end
theorem de_reprN {X : Cx} {W : XW} {x : Str} {e : Expr} {es : List Expr} {p pos : Pos} {mr : AM} (hgd : X.A.guards = some []) (hu : X.A.units + 64 < cLine) (hm : X.mg x = none) (ha : DA X W (e :: es) mr) (hg : Gl X x := by rfl) (hv : bootBuiltins x = some (.builtin "repr") := by decide +kernel) (hn : x ≠ "__name__" := by decide) (hdb : (x == ("__debug__" : Str)) = false := by decide)
    (he : starEach (e :: es) X.env = (false, eval e X.env) :: starEach es X.env := by rfl) (hpl : (backTo pos (starEach es X.env)).any (·.1) = false := by rfl) : DE X W (.Call (.Name x p) (e :: es) [] pos) (eA bReprN mr) :=
  de_bt (call_reprN hgd hu) lift_reprN hm ha hg hv hn hdb he hpl
end DL
namespace DL
open PySem PySem.Spec PyProof.Rows L2
section
variable {P : Program} {w : World} {A : Around} {E : Value → Shared → Prop} {s : Shared} {h h' : Heap} {a : Addr} {l : List Str}
end
end DL
namespace DL
open PySem PySem.Spec PyProof.Rows L2
section
variable {K : PySem.W.Frag} {μ : List Addr} {H : Hp}
end
end DL
namespace DL
open PySem PySem.Spec PyProof.Rows L2
section
variable {X : Cx} {W : XW} {o e f : Expr} {m mo me mf : EM} {k : Nat} {p1 p2 p3 pos apos cpos : Pos}
end
end DL
namespace DL
open PySem PySem.Spec PyProof.Rows L2
section
variable {X : Cx} {fe e : Expr} {es : List Expr} {tf : TE} {t : TA} {pos : Pos} {R : Addr → Sp → Prop}
end
section
variable {X : Cx} {k j i n : Nat} {x1 x2 y z : Str} {q1 q2 : List Str} {F G : List D → M D} {e : Expr} {es : List Expr} {p1 p2 p3 p4 p5 p6 pos pos2 : Pos} {ma : AM}
end
end DL
namespace DL
open PySem PySem.Spec PyProof.Rows L2
section
variable {X : Cx} {W : XW} {tg : Expr} {p pos : Pos} {ma : AM}
end
end DL
namespace DL
open PySem PySem.Spec PyProof.Rows L2
end DL
namespace DL
open PySem PySem.Spec PyProof.Rows L2
section
variable {K : PySem.W.Frag} {μ : List Addr} {H : Hp} {hd : Hd}
end
section
variable {X : Cx}
end
end DL
namespace DL
open PySem PySem.Spec PyProof.Rows RT
section
variable {prog : Program} {w : World} {A : Around} {E : Value → Shared → Prop} {s : Shared}
end
end DL
namespace RT
open PySem PySem.Spec PyProof.Rows L2
section
variable {X : Cx}
end
end RT
namespace DL
open PySem PySem.Spec PyProof.Rows L2
end DL
namespace DL
open PySem PySem.Spec PyProof.Rows L2
end DL
namespace RT
open PySem PySem.Spec PyProof.Rows L2
section
variable {X : Cx}
end
end RT
namespace DL
open PySem PySem.Spec PyProof.Rows L2
end DL
namespace RT
open PySem PySem.Spec PyProof.Rows L2
end RT
namespace DL
open PySem PySem.Spec PyProof.Rows L2
end DL
namespace DL
open PySem PySem.Calls PySem.Spec PyProof.Rows L2
open PySem.W
section
variable {prog : Program} {w : World} {A : Around} {E : Value → Shared → Prop} {s : Shared}
end
section
variable {X : Cx}
open L2.DX
end
end DL
namespace DL
open PySem PySem.Calls PySem.Spec PyProof.Rows L2
open PySem.W
section
variable {K : PySem.W.Frag} {μ : List Addr} {H : Hp} {hd : Hd}
end
end DL
namespace DL
open PySem PySem.Spec PyProof.Rows L2
theorem FRep.split {K : PySem.W.Frag} {μ : List Addr} {H : Hp} : ∀ {fl : List (Str × V)} {fd : List (Str × D)}, FRep K μ H fl fd → ∃ vs, fl = (fd.map Prod.fst).zip vs ∧ RepAll K μ H vs (fd.map Prod.snd)
  | _, _, .nil => ⟨[], rfl, .nil⟩
  | _, _, .cons r t => by
    obtain ⟨vs, e, q⟩ := FRep.split t
    exact ⟨_ :: vs, by rw [e]; rfl, .cons r q⟩
noncomputable def anyB (f : Addr → Addr → SR) : SR := open Classical in if q : ∃ r, ∀ a d, f a d = r then q.choose else .bad
theorem anyB_ok {f : Addr → Addr → SR} {r : SR} (h : ∀ a d, f a d = r) : anyB f = r := by
  unfold anyB
  have q : ∃ r, ∀ a d, f a d = r := ⟨r, h⟩
  rw [dif_pos q, ← q.choose_spec 0 0, h 0 0]
noncomputable def sTryE (i : Nat) (b : SM) (m : String) (su : Addr → Addr → SM) : SM := fun s h => match b s h with
  | .exc ⟨.type n, some fl⟩ s1 h1 => if n = m then anyB fun a d => (su a d (s1.set i (some (.exn a d (fl.map Prod.fst) (fl.map Prod.snd)))) h1).clr i else .bad
  | .nx s1 h1 => .nx s1 h1
  | .rt d h1 => .rt d h1
  | _ => .bad
section
variable {X : Cx} {W : WX} {x n : Str} {c : Value} {i : Nat} {body suite : List Stmt} {b₀ : Stmt} {np pos pos' : Pos} {b : SM} {m : String} {su : Addr → Addr → SM}
theorem ds_tryE0 (hs : X.stack = X.env :: X.outer) (hf : X.env.frame = some X.env.locals) (hN : X.N.Nodup) (hi : X.N[i]? = some n) (hln : X.env.kindOf n = some .local) (hc : Names X x c) (tk : Takes X W) {C : Value}
    (hC : X.mg (Str.ofString m) = some C) (hx : PySem.W.exmOne X.K C c = some true)
    (hb : ∀ (V : WX) (pn : List (Addr × Obj)) (xe : Value → Shared → Prop), Takes (X.tr pn xe) V → PassesOwn (model X.prog X.w) X.A X.env xe → DSs (X.tr pn xe) (tr X.mg V) body b)
    (hsu : ∀ (a d : Addr) (oe : Obj) (pn : List (Addr × Obj)), Zc C (some d) oe → (∃ vs, oe.data = .fields vs) → DSs (X.suite a ((a, oe) :: pn)) W0 (b₀ :: suite) (su a d)) :
    DS X (tr X.mg W) (.Try body [.ExceptHandler (some (.Name x np)) (some n) (b₀ :: suite) pos'] [] [] pos) (sTryE i b m su) := by
  refine ⟨PS.imp (ps_try_as (tb := fun V => TSof X.K (tr X.mg V) b) (ts := fun a cls d D σ H => ∃ dd : Addr, d = some dd ∧ cls = C ∧ TSof X.K W0 (su a dd) D σ H) hs hf hN hi hln hc tk (fun V pn xe tk' po => (hb V pn xe tk' po).ps) (fun a oe cls d pn hz hv => ⟨fun pins s σ H D I ⟨dd, hd, hcl, h⟩ => ?_⟩)) fun D σ H ⟨μ, s, hd, sr, hr, f⟩ => ⟨μ, s, hd, sr, hr, ?_⟩⟩
  · subst hd hcl
    exact (hsu a dd oe pn hz hv).ps.run pins s σ H D I h
  · unfold sTryE at f
    cases z : b s hd with
    | nx s1 h1 => rw [z] at f; exact f
    | rt d h1 => rw [z] at f; exact f
    | bad => rw [z] at f; exact f.elim
    | exc x' s1 h1 =>
      rw [z] at f
      intro μ' H' σ' o e hr' sr' xr
      obtain ⟨cls, fs⟩ := x'
      cases cls with
      | type n' =>
        cases fs with
        | none => exact f.elim
        | some fl =>
          simp only at f
          split at f
          · rename_i en
            subst en
            unfold tr
            simp only [hC]
            cases o with
            | none => exact xr.elim
            | some dd =>
              obtain ⟨vfs, hdd, fr⟩ := xr
              obtain ⟨vs, evs, rvs⟩ := fr.split
              rw [evs] at hdd
              refine ⟨true, hx, fun _ a na => ⟨dd, rfl, rfl, μ', _, h1, sr'.set i (.exn hdd rvs), hr', ?_⟩, fun q => Bool.noConfusion q⟩
              by_cases q : ∃ r, ∀ a d, (su a d (s1.set i (some (.exn a d (fl.map Prod.fst) (fl.map Prod.snd)))) h1).clr i = r
              · obtain ⟨r, q⟩ := q
                rw [anyB_ok q] at f
                have qa := q a dd
                cases z2 : su a dd (s1.set i (some (.exn a dd (fl.map Prod.fst) (fl.map Prod.snd)))) h1 with
                | nx s2 h2 =>
                  rw [z2] at qa
                  rw [← qa] at f
                  intro μ2 H2 σ2 e2 hr2 sr2
                  exact f μ2 H2 _ (e.trans e2) hr2 (sr2.clr i)
                | rt d h2 =>
                  rw [z2] at qa
                  rw [← qa] at f
                  intro μ2 H2 v e2 hr2 rv
                  exact f μ2 H2 v (e.trans e2) hr2 rv
                | exc x s2 h2 => rw [z2] at qa; rw [← qa] at f; exact f.elim
                | bad => rw [z2] at qa; rw [← qa] at f; exact f.elim
              · unfold anyB at f
                rw [dif_neg q] at f
                exact f.elim
          · exact f.elim
      | _ => exact f.elim
theorem ds_tryE {h : String} (hs : X.stack = X.env :: X.outer) (hf : X.env.frame = some X.env.locals) (hN : X.N.Nodup) (hi : X.N[i]? = some n) (hln : X.env.kindOf n = some .local)
    (F : HnF X.K X.mg h m)
    (hb : ∀ (V : WX) (pn : List (Addr × Obj)) (xe : Value → Shared → Prop), Takes (X.tr pn xe) V → PassesOwn (model X.prog X.w) X.A X.env xe → DSs (X.tr pn xe) (tr X.mg V) body b)
    (hsu : ∀ (a d : Addr) (oe : Obj) (C : Value) (pn : List (Addr × Obj)), X.mg (Str.ofString m) = some C → Zc C (some d) oe → (∃ vs, oe.data = .fields vs) → DSs (X.suite a ((a, oe) :: pn)) W0 (b₀ :: suite) (su a d))
    (hg : Gl X (Str.ofString h) := by rfl) (hdb : (Str.ofString h == ("__debug__" : Str)) = false := by decide) :
    DS X W0 (.Try body [.ExceptHandler (some (.Name (Str.ofString h) np)) (some n) (b₀ :: suite) pos'] [] [] pos) (sTryE i b m su) := by
  obtain ⟨C, D, h1, h2, hx⟩ := F.ex
  exact ds_w0 (ds_tryE0 hs hf hN hi hln ⟨hg, hdb, .inl h1⟩ takes0 h2 hx hb fun a d oe pn hz hv => hsu a d oe _ pn h2 hz hv)
end
structure ExN (K : PySem.W.Frag) (mg : Str → Option Value) (n : String) : Prop where
  ex : ∃ C : Addr, mg (Str.ofString n) = some (.ref C) ∧ ExcC K C
theorem exn_inst {X : Cx} {a D dd : Addr} {oe : Obj} {fs : List (Str × V)} {pins : List (Addr × Obj)} {pn : List (Addr × Obj)} {σ : L2.St} {H : Hp} {s : Shared} (I : Inv (X.suite a ((a, oe) :: pn)) pins σ H s) (hz : Zc (.ref D) (some dd) oe) (hf : ∃ vs, oe.data = .fields vs) (hd : H dd = some (.xd fs)) :
    ∃ od, PySem.W.InstAt s.heap a oe D (some od) := by
  obtain ⟨got, _⟩ := I.pin (a, oe) (List.mem_append_left _ List.mem_cons_self)
  obtain ⟨vs, hv⟩ := hf
  have ok : ObjOk X.prog X.w H s.heap dd (.xd fs) := I.hok dd _ hd
  obtain ⟨mA, hns, _⟩ := ok
  obtain ⟨od, ho, _⟩ := lookIn_ns hns
  exact ⟨od, got, hz.1, by unfold PySem.W.notCls; rw [hv] <;> rfl, by rw [hz.2]; exact ho⟩
def rIsN (K : PySem.W.Frag) (D a dd : Addr) : List V → Hp → VK → Prop := fun xs H Q => ∃ (c : V) (cv : Value) (b : Bool) (fs : List (Str × V)), xs = [.ref a, c] ∧ (∀ u, RelV c u → u = cv) ∧ PySem.W.kitOne K (.ref D) cv = some b ∧ H dd = some (.xd fs) ∧ Q (.bl b) H
theorem excC_kit {K : PySem.W.Frag} {D x : Addr} {ox : Obj} {od : Option Obj} (C : ExcC K D) : PySem.W.KitX K (.ref x) (.ref D) (fun h => PySem.W.InstAt h x ox D od) :=
  PySem.W.kitx_exc (by obtain ⟨cd, q, _⟩ := PySem.W.any_some C.hd; rw [q]; rfl) C.hg C.hk C.hs C.ha C.hn C.ht C.hm
theorem call_isN {X : Cx} {a D dd : Addr} {oe : Obj} {pn : List (Addr × Obj)} (C : ExcC X.K D) (hz : Zc (.ref D) (some dd) oe) (hf : ∃ vs, oe.data = .fields vs) : CallR (X.suite a ((a, oe) :: pn)) (.builtin "isinstance") (rIsN X.K D a dd) := by
  intro pins s σ H xs us Q I r h
  obtain ⟨c, cv, b, fs, rfl, hcv, e, hd, q⟩ := h
  cases r with
  | cons r1 rr =>
    cases rr with
    | cons r2 rr =>
      cases rr
      cases r1
      have ec := hcv _ r2
      subst ec
      obtain ⟨od, J⟩ := exn_inst I hz hf hd
      exact PySem.W.kia_one (excC_kit C) I.kIn J e (fun z => nomatch z) fun tk => ⟨.bl b, H, I.kept (t' := tk) fun _ _ z => z, rfl, q⟩
def eIsN (i : Nat) (a d : Addr) (b : Bool) : EM := fun s h => match s[i]? with
  | some (some (.exn a' d' _ _)) => if a' = a ∧ d' = d then .ok (.bl b) h else .bad
  | _ => .bad
section
variable {X : Cx} {W : XW} {a dd : Addr} {b : Bool} {i : Nat} {x n : Str} {p p1 pos : Pos} {e2 : Expr} {m2 : EM} {d2 : D} {r : List V → Hp → VK → Prop}
theorem de_isN0 (hc : CallR X (.builtin "isinstance") r) (hm : X.mg "isinstance" = none) (he : DA X W [.Name n p1, e2] (aC (eV i) (aC m2 aN))) (hm2 : ∀ s h, m2 s h = .ok d2 h)
    (hr : ∀ (μ : List Addr) (H : Hp) (v2 : V) (fs : List (Str × V)), Rep X.K μ H v2 d2 → H dd = some (.xd fs) → ∀ Q : VK, Q (.bl b) H → r [.ref a, v2] H Q)
    (hg : Gl X "isinstance" := by rfl) (hst : starEach [.Name n p1, e2] X.env = (false, eval (.Name n p1) X.env) :: starEach [e2] X.env := by rfl) (hpl : (backTo pos (starEach [e2] X.env)).any (·.1) = false := by rfl) :
    DE X W (.Call (.Name "isinstance" p) [.Name n p1, e2] [] pos) (eIsN i a dd b) :=
  ⟨PE.imp (pe_callB hc hg hm (by decide +kernel) he.pa (by decide) (by decide) hst hpl) fun σ H Q ⟨μ, s, hd, sr, hrl, f⟩ => by
  refine ⟨μ, s, hd, sr, hrl, ?_⟩
  unfold eIsN at f
  split at f
  · rename_i a' d' fl vl hs
    split at f
    · rename_i ea
      obtain ⟨ea, ed⟩ := ea
      subst ea ed
      have ev : (aC (eV i) (aC m2 aN)) s hd = .ok [.exn a' d' fl vl, d2] hd := by
        unfold aC eV aN
        rw [hs]
        simp only [Res.bind, hm2]
      rw [ev]
      intro μ' H' vs ex hr' rv
      cases rv with
      | cons r1 r2 =>
        cases r2 with
        | cons r2 r3 =>
          cases r3
          cases r1 with
          | exn hx _ => exact hr μ' H' _ _ r2 hx Q (f μ' H' _ ex hr' (.bl b))
    · exact f.elim
  · exact f.elim⟩
end
section
variable {X : Cx} {W : XW} {a dd : Addr} {b : Bool} {i : Nat} {n c m : String} {x : Str} {p p1 p2 pos : Pos} {oe : Obj} {pn : List (Addr × Obj)} {C : Value}
theorem de_isNF (F : IsF X.K X.mg m c b) (E : ExN X.K X.mg m) (hC : X.mg (Str.ofString m) = some C) (hz : Zc C (some dd) oe) (hf : ∃ vs, oe.data = .fields vs) (hm : X.mg "isinstance" = none) (hn : DE (X.suite a ((a, oe) :: pn)) W (.Name x p1) (eV i))
    (hgc : Gl X (Str.ofString c) := by rfl) (hdb : (Str.ofString c == ("__debug__" : Str)) = false := by decide) (hg : Gl X "isinstance" := by rfl)
    (hs1 : starEach [.Name x p1, .Name (Str.ofString c) p2] X.env = (false, eval (.Name x p1) X.env) :: starEach [.Name (Str.ofString c) p2] X.env := by rfl) (hs2 : starEach [.Name (Str.ofString c) p2] X.env = (false, eval (.Name (Str.ofString c) p2) X.env) :: starEach [] X.env := by rfl) (hpl : (backTo pos (starEach [.Name (Str.ofString c) p2] X.env)).any (·.1) = false := by rfl) :
    DE (X.suite a ((a, oe) :: pn)) W (.Call (.Name "isinstance" p) [.Name x p1, .Name (Str.ofString c) p2] [] pos) (eIsN i a dd b) := by
  obtain ⟨D, C', h1, h2, hk⟩ := F.ex
  obtain ⟨D', h3, hE⟩ := E.ex
  rw [h1] at h3
  cases h3
  rw [h1] at hC
  cases hC
  exact de_isN0 (X := X.suite a ((a, oe) :: pn)) (d2 := .con C') (call_isN hE hz hf) hm (da_cons hn (da_cons (de_con (X := X.suite a ((a, oe) :: pn)) h2 hgc hdb) da_nil hs2) hs1) (fun _ _ => rfl) (fun μ H v2 fs r hx Q q => by
    cases r
    exact ⟨_, _, b, fs, rfl, relv_refu, hk, hx, q⟩) hg hs1 hpl
theorem de_isNB {T : String} {y : Str} (F : IsB X.K X.mg m T b) (E : ExN X.K X.mg m) (hC : X.mg (Str.ofString m) = some C) (hz : Zc C (some dd) oe) (hf : ∃ vs, oe.data = .fields vs) (hm : X.mg "isinstance" = none) (hn : DE (X.suite a ((a, oe) :: pn)) W (.Name x p1) (eV i)) (hy : DE (X.suite a ((a, oe) :: pn)) W (.Name y p2) (eC (.ty T)))
    (hg : Gl X "isinstance" := by rfl)
    (hs1 : starEach [.Name x p1, .Name y p2] X.env = (false, eval (.Name x p1) X.env) :: starEach [.Name y p2] X.env := by rfl) (hs2 : starEach [.Name y p2] X.env = (false, eval (.Name y p2) X.env) :: starEach [] X.env := by rfl) (hpl : (backTo pos (starEach [.Name y p2] X.env)).any (·.1) = false := by rfl) :
    DE (X.suite a ((a, oe) :: pn)) W (.Call (.Name "isinstance" p) [.Name x p1, .Name y p2] [] pos) (eIsN i a dd b) := by
  obtain ⟨D, h1, hk⟩ := F.ex
  obtain ⟨D', h3, hE⟩ := E.ex
  rw [h1] at h3
  cases h3
  rw [h1] at hC
  cases hC
  exact de_isN0 (X := X.suite a ((a, oe) :: pn)) (d2 := .ty T) (call_isN hE hz hf) hm (da_cons hn (da_cons hy da_nil hs2) hs1) (fun _ _ => rfl) (fun μ H v2 fs r hx Q q => by
    cases r
    exact ⟨_, _, b, fs, rfl, relv_tyu, hk, hx, q⟩) hg hs1 hpl
end
def lookF : List Str → List D → Str → Option D
  | k :: ks, d :: ds, f => if f = k then some d else lookF ks ds f
  | _, _, _ => none
def eFld (i : Nat) (a d : Addr) (f : String) : EM := fun s h => match s[i]? with
  | some (some (.exn a' d' fs vs)) => if a' = a ∧ d' = d then (match lookF fs vs (Str.ofString f) with
    | some v => .ok v h
    | none => .bad) else .bad
  | _ => .bad
theorem lookF_rep {K : PySem.W.Frag} {μ : List Addr} {H : Hp} {f : Str} {d : D} : ∀ {fs : List Str} {vs : List V} {ds : List D}, RepAll K μ H vs ds → lookF fs ds f = some d → ∃ v, (fs.zip vs).lookup f = some v ∧ Rep K μ H v d
  | [], _, _, _, e => by unfold lookF at e; cases e
  | _ :: _, _, _, .nil, e => by unfold lookF at e; cases e
  | k :: ks, _, _, .cons (v := v) r t, e => by
    unfold lookF at e
    by_cases c : f = k
    · rw [if_pos c] at e
      cases e
      refine ⟨v, ?_, r⟩
      rw [List.zip_cons_cons, List.lookup_cons, beq_iff_eq.mpr c]
    · rw [if_neg c] at e
      obtain ⟨u, e1, e2⟩ := lookF_rep t e
      refine ⟨u, ?_, e2⟩
      rw [List.zip_cons_cons, List.lookup_cons, beq_eq_false_iff_ne.mpr c]
      exact e1
structure FlN (K : PySem.W.Frag) (mg : Str → Option Value) (n f : String) : Prop where
  ex : ∀ C : Addr, mg (Str.ofString n) = some (.ref C) → PySem.W.findIn K (.ref C) (Str.ofString f) = some none
theorem de_fld {X : Cx} {W : XW} {a dd : Addr} {i : Nat} {m f : String} {x : Str} {p1 pos : Pos} {oe : Obj} {pn : List (Addr × Obj)} {C : Value} (E : ExN X.K X.mg m) (F : FlN X.K X.mg m f) (hC : X.mg (Str.ofString m) = some C) (hz : Zc C (some dd) oe) (hf : ∃ vs, oe.data = .fields vs) (hn : DE (X.suite a ((a, oe) :: pn)) W (.Name x p1) (eV i))
    (hb : attributeBase (.Name x p1) (Str.ofString f) X.env (eval (.Name x p1) X.env) = eval (.Name x p1) X.env := by rfl) : DE (X.suite a ((a, oe) :: pn)) W (.Attribute (.Name x p1) (Str.ofString f) pos) (eFld i a dd f) := by
  obtain ⟨D, h3, hE⟩ := E.ex
  have no := F.ex D h3
  rw [h3] at hC
  cases hC
  refine ⟨PE.imp (pe_xf (X := X) ⟨hE.hg, hE.hk, hE.hs, hE.hd⟩ no hz hf hn.pe hb) fun σ H Q ⟨μ, s, hd, sr, hr, f1⟩ => ?_⟩
  refine ⟨μ, s, hd, sr, hr, ?_⟩
  unfold eFld at f1
  split at f1
  · rename_i a' d' fl vl hs
    split at f1
    · rename_i ea
      obtain ⟨ea, ed⟩ := ea
      subst ea ed
      split at f1
      · rename_i v el
        have ev : eV i s hd = .ok (.exn a' d' fl vl) hd := by
          unfold eV
          rw [hs]
        rw [ev]
        intro μ' H' v' ex hr' rv
        cases rv with
        | exn hx rvs =>
          obtain ⟨u, e1, e2⟩ := lookF_rep rvs el
          exact ⟨rfl, rfl, d', _, u, rfl, hx, e1, f1 μ' H' _ ex hr' e2⟩
      · exact f1.elim
    · exact f1.elim
  · exact f1.elim
section
variable {K : PySem.W.Frag} {mg : Str → Option Value} {h : Heap} {C : Addr} (X : K.In h) (G : h.Ns mainGlobals mg)
include X G
theorem exnN_mk {n : String} (a : PySem.W.nsIn K mainGlobals (Str.ofString n) = some (some (.ref C))) (hb : PySem.W.subIn K (.ref C) (.type "BaseException") = some true)
    (h1 : PySem.W.findIn K (.ref C) "__getattribute__" = some (some (.builtin "BaseException.__getattribute__"))) (h2 : PySem.W.findIn K (.ref C) "__getattr__" = some none) (h3 : PySem.W.hasDictIn K C = true)
    (h4 : PySem.W.findIn K (.ref C) "__class__" = some (some (.builtin "object.__class__"))) (h5 : PySem.W.specialIn K (.builtin "object.__class__") "__get__" = some (some (.builtin "getset_descriptor.__get__"))) (h6 : PySem.W.takesIn K (.builtin "object.__class__") = some true) (h7 : PySem.W.mroIn K C (.type "object") = some true) : ExN K mg n :=
  ⟨C, PySem.W.mg_of X G a, ⟨h1, h2, hb, h3, h4, h5, h6, h7⟩⟩
theorem fln_mk {n f : String} (a : PySem.W.nsIn K mainGlobals (Str.ofString n) = some (some (.ref C))) (hn : PySem.W.findIn K (.ref C) (Str.ofString f) = some none) : FlN K mg n f := ⟨fun C' e => by
  rw [PySem.W.mg_of X G a] at e
  cases e
  exact hn⟩
end
end DL
namespace DL
open PySem PySem.Spec L2
theorem lo_int {n : Nat} {i : Int} : D.lo n (.int i) = true := by unfold D.lo; rfl
theorem lo_bl {n : Nat} {b : Bool} : D.lo n (.bl b) = true := by unfold D.lo; rfl
theorem lo_non {n : Nat} : D.lo n .non = true := by unfold D.lo; rfl
theorem lo_str {n : Nat} {x : Str} : D.lo n (.str x) = true := by unfold D.lo; rfl
theorem lo_tup {n : Nat} {xs : List D} : D.lo n (.tup xs) = D.loAll n xs := by rw [D.lo]
theorem lo_rol {n : Nat} {xs : List D} : D.lo n (.rol xs) = D.loAll n xs := by rw [D.lo]
theorem lo_ref {n m : Nat} : D.lo n (.ref m) = decide (m < n) := by rw [D.lo]
theorem lo_nil {n : Nat} : D.loAll n [] = true := by rw [D.loAll]
theorem lo_cons {n : Nat} {x : D} {xs : List D} : D.loAll n (x :: xs) = (D.lo n x && D.loAll n xs) := by rw [D.loAll]
theorem lo_lst {n : Nat} {xs : List D} : MO.lo n (.lst xs) = D.loAll n xs := rfl
theorem loAll_of {n : Nat} : ∀ {xs : List D}, (∀ x ∈ xs, D.lo n x = true) → D.loAll n xs = true
  | [], _ => lo_nil
  | x :: xs, h => by rw [lo_cons, h x (by simp), loAll_of fun y hy => h y (by simp [hy])]; rfl
theorem okb_app {h g : Hd} : OkBelow h (h ++ g) := fun i o hi e => .inr (by rw [List.getElem?_append_left hi] at e; exact e)
theorem gc_app {h g : Hd} {d : D} (hd : d.lo h.length = true) : gc h d (h ++ g) = .ok d h := by
  unfold gc
  rw [if_pos okb_app, if_pos hd, List.take_left']
  rfl
theorem gc_same {h : Hd} {d : D} (hd : d.lo h.length = true) : gc h d h = .ok d h := by
  have := gc_app (g := []) hd
  rwa [List.append_nil] at this
def Sz (k : Nat) (i : Int) : Prop := i.natAbs < 2 ^ k
theorem Sz.of {k : Nat} {i : Int} (h1 : -(2 ^ k : Int) < i) (h2 : i < (2 ^ k : Int)) : Sz k i := by
  unfold Sz
  have : ((2 ^ k : Nat) : Int) = (2 ^ k : Int) := by simp
  omega
theorem Sz.mul {k l : Nat} {i j : Int} (a : Sz k i) (b : Sz l j) : Sz (k + l) (i * j) := by
  unfold Sz at *
  rw [Int.natAbs_mul, Nat.pow_add]
  exact Nat.mul_lt_mul'' a b
theorem Sz.mono {k l : Nat} {i : Int} (a : Sz k i) (h : k ≤ l) : Sz l i := Nat.lt_of_lt_of_le a (Nat.pow_le_pow_right (by decide) h)
theorem Sz.add {k l : Nat} {i j : Int} (a : Sz k i) (b : Sz l j) : Sz (max k l + 1) (i + j) := by
  have a' := a.mono (Nat.le_max_left k l)
  have b' := b.mono (Nat.le_max_right k l)
  unfold Sz at *
  have := Int.natAbs_add_le i j
  rw [Nat.pow_succ]
  omega
theorem Sz.sub {k l : Nat} {i j : Int} (a : Sz k i) (b : Sz l j) : Sz (max k l + 1) (i - j) := by
  have b' : Sz l (-j) := by unfold Sz at *; rw [Int.natAbs_neg]; exact b
  exact a.add b'
theorem Sz.log {k : Nat} {i : Int} (a : Sz k i) : i.natAbs.log2 ≤ k := by
  rcases Nat.eq_zero_or_pos k with z | z
  · subst z
    have : i.natAbs = 0 := by unfold Sz at a; omega
    rw [this]
    decide
  · exact Nat.le_of_lt (PySem.Flt.log2_lt_of z a)
theorem MulOk.of {k l : Nat} {i j : Int} (a : Sz k i) (b : Sz l j) (h : k + l < 100000000) : MulOk i j := by
  have := a.log
  have := b.log
  unfold MulOk
  omega
theorem DivOk.of {k : Nat} {i j : Int} (h : 0 < j) (b : Sz k j) (hk : k < 9000) : DivOk i j := ⟨h, Nat.lt_of_le_of_lt b.log hk⟩
theorem dMul_ok {i j : Int} {h : Hd} (q : MulOk i j) : dMul (.int i) (.int j) h = .ok (.int (i * j)) h := if_pos q
theorem dDiv_ok {i j : Int} {h : Hd} (q : DivOk i j) : dDiv (.int i) (.int j) h = .ok (.int (i / j)) h := if_pos q
theorem dMod_ok {i j : Int} {h : Hd} (q : 0 < j) : dMod (.int i) (.int j) h = .ok (.int (i % j)) h := if_pos q
theorem dPow_ok {i j : Int} {h : Hd} (q : PowOk i j) : dPow (.int i) (.int j) h = .ok (.int (i ^ j.toNat)) h := if_pos q
theorem bDivmod_ok {i j : Int} {h : Hd} (q : DivOk i j) : bDivmod [.int i, .int j] h = .ok (.tup [.int (i / j), .int (i % j)]) h := if_pos q
def Res.b1 (r : Res D) (g : D → D → M D) (x : D) : Res D := r.bind fun y h => g x y h
def Res.b2 (r : Res D) (g : D → D → M D) (b : EM) (s : Sl) : Res D := r.bind fun x h => (b s h).b1 g x
def Res.bAnd (r : Res Bool) (t : TM) (s : Sl) : Res Bool := r.bind fun c h => if c = true then t s h else .ok false h
def Res.bOr (r : Res Bool) (t : TM) (s : Sl) : Res Bool := r.bind fun c h => if c = true then .ok true h else t s h
def Res.bNot (r : Res Bool) : Res Bool := r.bind fun c h => .ok (!c) h
def Res.bAndV (r : Res Bool) (t : EM) (s : Sl) : Res D := r.bind fun c h => if c = true then t s h else .ok (.bl false) h
def Res.bNotV (r : Res Bool) : Res D := r.bind fun c h => .ok (.bl (!c)) h
def Res.bIf (r : Res Bool) (a b : EM) (s : Sl) : Res D := r.bind fun c h => if c = true then a s h else b s h
def Res.bC1 (r : Res (List D)) (x : D) : Res (List D) := r.bind fun xs h => .ok (x :: xs) h
def Res.bC (r : Res D) (a : AM) (s : Sl) : Res (List D) := r.bind fun x h => (a s h).bC1 x
def Res.bM1 (r : Res (List D)) (g : D → List D → M D) (x : D) : Res D := r.bind fun xs h => g x xs h
def Res.bM (r : Res D) (T : String) (g : D → List D → M D) (a : AM) (s : Sl) : Res D := r.bind fun x h => if tyM T x h = true then (a s h).bM1 g x else .bad
def Res.bSl2 (r : Res (Option Int)) (x : D) (l : Option Int) : Res D := r.bind fun u h => dSl x l u h
def Res.bSl1 (r : Res (Option Int)) (hi : OM) (x : D) (s : Sl) : Res D := r.bind fun l h => (hi s h).bSl2 x l
def Res.bSl (r : Res D) (lo hi : OM) (s : Sl) : Res D := r.bind fun x h => (lo s h).bSl1 hi x s
def Res.bG (r : Res Sl) (gs : GMs) (xs : List D) : Res Sl := r.bind fun s h => gs xs s h
def Res.bS3 (r : Res Unit) (s : Sl) : Res Sl := r.bind fun _ h => .ok s h
def Res.bS2 (r : Res D) (set : D → D → D → Hd → Res Unit) (x d : D) (s : Sl) : Res Sl := r.bind fun y h => (set x y d h).bS3 s
def Res.bS1 (r : Res D) (i : EM) (set : D → D → D → Hd → Res Unit) (d : D) (s : Sl) : Res Sl := r.bind fun x h => (i s h).bS2 set x d s
def Res.kAsg (r : Res D) (g : GM) (s : Sl) : SR := r.thenS s fun d h => (g d s h).toS
def Res.kSet (r : Res D) (n : Nat) (s : Sl) : SR := r.thenS s fun d h => .nx (s.set n (some d)) h
def Res.kRet (r : Res D) (s : Sl) : SR := r.thenS s fun d h => .rt d h
def Res.kExp (r : Res D) (s : Sl) : SR := r.thenS s fun _ h => .nx s h
def Res.kIf (r : Res Bool) (a b : SM) (s : Sl) : SR := r.thenS s fun c h => if c = true then a s h else b s h
def Res.kPar1 (r : Res D) (n m : Nat) (x : D) (s : Sl) : SR := r.thenS s fun y h => .nx ((s.set n (some x)).set m (some y)) h
def Res.kPar (r : Res D) (n m : Nat) (b : EM) (s : Sl) : SR := r.thenS s fun x h => (b s h).kPar1 n m x s
noncomputable def Res.kFor (r : Res ItD) (g : GM) (sm : SM) (s : Sl) : SR := r.thenS s fun p h => forD p.2 g sm p.1 s h
section
variable {α β : Type} {a : α} {h h1 : Hd} {s s1 : Sl} {d d1 d2 : D} {e1' e2' : EM} {sm sm' : SM} {tm tm' : TM} {am : AM} {b c : Bool} {i j : Int} {x y : Str} {xs : List D} {n m : Nat}
theorem Res.bind_ok {f : α → Hd → Res β} : (Res.ok a h).bind f = f a h := rfl
theorem SR.seq_nx : (SR.nx s h).seq sm = sm s h := rfl
theorem SR.seq_rt : (SR.rt d h).seq sm = .rt d h := rfl
theorem SR.fin_rt : (SR.rt d h).fin h1 = gc h1 d h := rfl
theorem toS_ok : (Res.ok s h).toS = .nx s h := rfl
def slAt (o : Option (Option D)) (h : Hd) : Res D := match o with
  | some (some d) => .ok d h
  | _ => .bad
theorem slAt_some : slAt (some (some d)) h = .ok d h := rfl
theorem ev_V : eV n s h = slAt s[n]? h := rfl
theorem ev_C : eC d s h = .ok d h := rfl
theorem ev_1 {g : D → M D} : e1 g e1' s h = (e1' s h).bind g := rfl
theorem ev_2 {g : D → D → M D} : e2 g e1' e2' s h = (e1' s h).b2 g e2' s := rfl
theorem b2_ok {g : D → D → M D} : (Res.ok d h).b2 g e2' s = (e2' s h).b1 g d := rfl
theorem b1_ok {g : D → D → M D} : (Res.ok d h).b1 g d1 = g d1 d h := rfl
theorem ev_B : tB' e1' s h = (e1' s h).bind asB := rfl
theorem ev_Tr : tTr e1' s h = (e1' s h).bind asT := rfl
theorem ev_tAnd : tAnd' tm tm' s h = (tm s h).bAnd tm' s := rfl
theorem bAnd_ok : (Res.ok b h).bAnd tm' s = if b = true then tm' s h else .ok false h := rfl
theorem ev_tOr : tOr' tm tm' s h = (tm s h).bOr tm' s := rfl
theorem bOr_ok : (Res.ok b h).bOr tm' s = if b = true then .ok true h else tm' s h := rfl
theorem ev_tNot : tNot' tm s h = (tm s h).bNot := rfl
theorem bNot_ok : (Res.ok b h).bNot = .ok (!b) h := rfl
theorem ev_And : eAnd e1' e2' s h = ((e1' s h).bind asB).bAndV e2' s := by
  unfold eAnd
  cases e1' s h <;> rfl
theorem bAndV_ok : (Res.ok b h).bAndV e2' s = if b = true then e2' s h else .ok (.bl false) h := rfl
theorem ev_Not : eNot e1' s h = ((e1' s h).bind asB).bNotV := by
  unfold eNot
  cases e1' s h <;> rfl
theorem bNotV_ok : (Res.ok b h).bNotV = .ok (.bl (!b)) h := rfl
theorem ev_If : eIf tm e1' e2' s h = (tm s h).bIf e1' e2' s := rfl
theorem bIf_ok : (Res.ok b h).bIf e1' e2' s = if b = true then e1' s h else e2' s h := rfl
theorem ev_aN : aN s h = .ok [] h := rfl
theorem ev_aC : aC e1' am s h = (e1' s h).bC am s := rfl
theorem bC_ok : (Res.ok d h).bC am s = (am s h).bC1 d := rfl
theorem bC1_ok : (Res.ok xs h).bC1 d = .ok (d :: xs) h := rfl
theorem ev_A {g : List D → M D} : eA g am s h = (am s h).bind g := rfl
theorem ev_F {F : List D → M D} (q : xs.length = n) : eF n F xs h = F xs h := if_pos q
theorem ev_T (q : xs.length ≤ 1000) : mkT xs h = .ok (.tup xs) h := if_pos (Nat.le_trans q (by decide))
theorem ev_L (q : xs.length ≤ 1000) : mkL xs h = .ok (.ref h.length) (h ++ [.lst xs]) := if_pos (Nat.le_trans q (by decide))
theorem ev_M {T : String} {g : D → List D → M D} : eM T g e1' am s h = (e1' s h).bM T g am s := rfl
theorem bM_ok {T : String} {g : D → List D → M D} (q : tyM T d h = true) : (Res.ok d h).bM T g am s = (am s h).bM1 g d := if_pos q
theorem bM1_ok {g : D → List D → M D} : (Res.ok xs h).bM1 g d = g d xs h := rfl
theorem ev_Sl {lo hi : OM} : eSl e1' lo hi s h = (e1' s h).bSl lo hi s := rfl
theorem bSl_ok {lo hi : OM} : (Res.ok d h).bSl lo hi s = (lo s h).bSl1 hi d s := rfl
theorem bSl1_ok {hi : OM} {l : Option Int} : (Res.ok l h).bSl1 hi d s = (hi s h).bSl2 d l := rfl
theorem bSl2_ok {l u : Option Int} : (Res.ok u h).bSl2 d l = dSl d l u h := rfl
theorem ev_oN : oN s h = .ok none h := rfl
def asO (d : D) : M (Option Int) := fun h => match d with
  | .int i => .ok (some i) h
  | _ => .bad
theorem asO_int : asO (.int i) h = .ok (some i) h := rfl
theorem ev_oS : oS e1' s h = (e1' s h).bind asO := rfl
theorem ev_nil : sNil s h = .nx s h := rfl
theorem ev_seq : sSeq sm sm' s h = (sm s h).seq sm' := rfl
theorem ev_asg {g : GM} : sAsg e1' g s h = (e1' s h).kAsg g s := rfl
theorem kAsg_ok {g : GM} : (Res.ok d h).kAsg g s = (g d s h).toS := rfl
theorem ev_gN : gN n d s h = .ok (s.set n (some d)) h := rfl
theorem ev_gsN : gsN [] s h = .ok s h := rfl
theorem ev_gsC {g : GM} {gs : GMs} : gsC g gs (d :: xs) s h = (g d s h).bG gs xs := rfl
theorem bG_ok {gs : GMs} : (Res.ok s h).bG gs xs = gs xs s h := rfl
theorem ev_gT {gs : GMs} (q : xs.length = n) : gT n gs (.tup xs) s h = gs xs s h := if_pos q
theorem ev_gS {set : D → D → D → Hd → Res Unit} : gS e1' e2' set d s h = (e1' s h).bS1 e2' set d s := rfl
theorem bS1_ok {set : D → D → D → Hd → Res Unit} : (Res.ok d1 h).bS1 e2' set d s = (e2' s h).bS2 set d1 d s := rfl
theorem bS2_ok {set : D → D → D → Hd → Res Unit} : (Res.ok d2 h).bS2 set d1 d s = (set d1 d2 d h).bS3 s := rfl
theorem bS3_ok {u : Unit} : (Res.ok u h).bS3 s = .ok s h := rfl
theorem ev_set : sSet n e1' s h = (e1' s h).kSet n s := rfl
theorem kSet_ok : (Res.ok d h).kSet n s = .nx (s.set n (some d)) h := rfl
theorem ev_ret : sRet e1' s h = (e1' s h).kRet s := rfl
theorem kRet_ok : (Res.ok d h).kRet s = .rt d h := rfl
theorem ev_expr : sExpr e1' s h = (e1' s h).kExp s := rfl
theorem kExp_ok : (Res.ok d h).kExp s = .nx s h := rfl
theorem ev_if : sIf tm sm sm' s h = (tm s h).kIf sm sm' s := rfl
theorem kIf_ok : (Res.ok b h).kIf sm sm' s = if b = true then sm s h else sm' s h := rfl
theorem ev_par2 {a1 a2 : EM} : sPar n m (aC a1 (aC a2 aN)) s h = (a1 s h).kPar n m a2 s := by
  unfold sPar aC aN Res.kPar Res.kPar1
  cases a1 s h with
  | ok x h1 =>
    simp only [Res.bind, Res.thenS]
    cases a2 s h1 <;> rfl
  | _ => rfl
theorem kPar_ok : (Res.ok d h).kPar n m e2' s = (e2' s h).kPar1 n m d s := rfl
theorem kPar1_ok : (Res.ok d h).kPar1 n m d1 s = .nx ((s.set n (some d1)).set m (some d)) h := rfl
theorem ev_for {im : IM} {g : GM} : sFor im g sm s h = (im s h).kFor g sm s := rfl
theorem kFor_ok {g : GM} {c : Hd → Prop} : (Res.ok (xs, c) h).kFor g sm s = forD c g sm xs s h := rfl
theorem ev_i1 {g : D → M ItD} : i1 e1' g s h = (e1' s h).bind g := rfl
theorem ev_iA {g : List D → M ItD} : iA am g s h = (am s h).bind g := rfl
theorem ev_run {N : Nat} : runB N sm xs h = (sm (xs.map some ++ List.replicate (N - xs.length) none) h).fin h := rfl
theorem asB_bl : asB (.bl b) h = .ok b h := rfl
theorem asT_bl : asT (.bl b) h = .ok b h := rfl
theorem dAdd_ii : dAdd (.int i) (.int j) h = .ok (.int (i + j)) h := rfl
theorem dSub_ii : dSub (.int i) (.int j) h = .ok (.int (i - j)) h := rfl
theorem dLt_ii : dLt (.int i) (.int j) h = .ok (.bl (decide (i < j))) h := rfl
theorem dGt_ii : dGt (.int i) (.int j) h = .ok (.bl (decide (j < i))) h := rfl
theorem dGe_ii : dGe (.int i) (.int j) h = .ok (.bl (decide (j ≤ i))) h := rfl
theorem bMax2_ii : bMax2 [.int i, .int j] h = .ok (.int (if j > i then j else i)) h := rfl
theorem bLen_r : bLen [.rol xs] h = .ok (.int xs.length) h := rfl
def optR (o : Option D) (h : Hd) : Res D := match o with
  | some d => .ok d h
  | none => .bad
theorem optR_some : optR (some d) h = .ok d h := rfl
theorem dIx_t : dIx (.tup xs) (.int i) h = optR (atI xs i) h := by
  show (match atI xs i with | some d => Res.ok d h | none => Res.bad) = _
  cases atI xs i <;> rfl
theorem dIx_r : dIx (.rol xs) (.int i) h = optR (atI xs i) h := by
  show (match atI xs i with | some d => Res.ok d h | none => Res.bad) = _
  cases atI xs i <;> rfl
theorem dIx_l (q : h[n]? = some (.lst xs)) : dIx (.ref n) (.int i) h = optR (atI xs i) h := by
  unfold dIx lstOf
  simp only [q]
  cases atI xs i <;> rfl
theorem at_0 : atI (d :: xs) 0 = some d := by
  unfold atI ixN
  simp
theorem at_1 : atI (d :: d1 :: xs) 1 = some d1 := by
  unfold atI ixN
  rw [if_pos (by decide), if_pos (by simp; omega)]
  rfl
theorem at_2 : atI (d :: d1 :: d2 :: xs) 2 = some d2 := by
  unfold atI ixN
  rw [if_pos (by decide), if_pos (by simp; omega)]
  rfl
theorem at_nat (hm : (m : Nat) < xs.length) : atI xs (m : Int) = some xs[m] := by
  unfold atI ixN
  simp [hm]
theorem dEq_ii : dEq (.int i) (.int j) h = .ok (.bl (decide (i = j))) h := by
  show (if SeqAt.shaped (.int i) = true ∧ SeqAt.shaped (.int j) = true then Res.ok (D.bl (false ^^ PyData.eqv (.int i) (.int j))) h else .bad) = _
  rw [if_pos ⟨rfl, rfl⟩]
  simp [PyData.eqv]
  by_cases e : i = j <;> simp [e]
theorem dEqn_fr {neg : Bool} {a b c d : Int} : dEqn neg (.tup [.int a, .int b]) (.tup [.int c, .int d]) h = .ok (.bl (neg ^^ decide (a = c ∧ b = d))) h := by
  show (if SeqAt.shaped (.tuple [.int a, .int b]) = true ∧ SeqAt.shaped (.tuple [.int c, .int d]) = true then Res.ok (D.bl (neg ^^ PyData.eqv (.tuple [.int a, .int b]) (.tuple [.int c, .int d]))) h else .bad) = _
  rw [if_pos ⟨rfl, rfl⟩]
  simp only [PyData.eqv, PyData.eqvAll, Bool.and_true]
  have e : (a == c && b == d) = decide (a = c ∧ b = d) := by rw [Bool.eq_iff_iff]; simp
  rw [e]
theorem dEq_fr {a b c d : Int} : dEq (.tup [.int a, .int b]) (.tup [.int c, .int d]) h = .ok (.bl (decide (a = c ∧ b = d))) h := by
  unfold dEq
  rw [dEqn_fr, Bool.false_xor]
theorem dNe_fr {a b c d : Int} : dNe (.tup [.int a, .int b]) (.tup [.int c, .int d]) h = .ok (.bl (!decide (a = c ∧ b = d))) h := by
  unfold dNe
  rw [dEqn_fr, Bool.true_xor]
theorem setL_l {k : Nat} (q : h[n]? = some (.lst xs)) (q2 : ixN xs.length i = some k) : dSetL (.ref n) (.int i) d h = .ok () (h.set n (.lst (xs.set k d))) := by unfold dSetL; simp only [q, q2]
theorem iSeq_t : iSeq (.tup xs) h = .ok (xs, fun _ => True) h := rfl
theorem iSeq_l (q : h[n]? = some (.lst xs)) : iSeq (.ref n) h = .ok (xs, fun h' => h'[n]? = some (.lst xs)) h := by unfold iSeq; simp only [q]
theorem mApp_l (q : h[n]? = some (.lst xs)) (q2 : xs.length < sizeLine) : mApp (.ref n) [d] h = .ok .non (h.set n (.lst (xs ++ [d]))) := by unfold mApp; simp only [q]; exact if_pos q2
theorem tyM_l (q : h[n]? = some (.lst xs)) : tyM "list" (.ref n) h = true := by unfold tyM; simp only [q]; rfl
end
theorem while_step {t : TM} {b : SM} {s s2 : Sl} {h h1 h2 : Hd} (e1 : t s h = .ok true h1) (e2 : b s h1 = .nx s2 h2) : sWhile t b s h = sWhile t b s2 h2 := by
  rw [sWhile_eq, e1]
  show sSeq b (sWhile t b) s h1 = _
  unfold sSeq
  rw [e2]
  rfl
theorem while_end {t : TM} {b : SM} {s : Sl} {h h1 : Hd} (e1 : t s h = .ok false h1) : sWhile t b s h = .nx s h1 := by
  rw [sWhile_eq, e1]
  rfl
theorem appD_ok {h1 : Hd} {acc : List D} {d : D} (hl : acc.length < sizeLine) : appD h1.length d (h1 ++ [.lst acc]) = .ok () (h1 ++ [.lst (acc ++ [d])]) := by
  unfold appD
  rw [List.getElem?_append_right (Nat.le_refl _), Nat.sub_self]
  simp only [List.getElem?_cons_zero]
  rw [if_pos hl, List.set_append_right _ _ (Nat.le_refl _), Nat.sub_self]
  rfl
theorem bools_map {α : Type} {f : α → Bool} : ∀ xs : List α, bools (xs.map fun x => D.bl (f x)) = some (xs.map f)
  | [] => rfl
  | x :: xs => by
    show (bools (xs.map fun x => D.bl (f x))).map (f x :: ·) = _
    rw [bools_map xs]
    rfl
theorem bAll_map {α : Type} {f : α → Bool} {xs : List α} {n : Nat} {h : Hd} (q : h[n]? = some (.lst (xs.map fun x => D.bl (f x)))) : bAll [.ref n] h = .ok (.bl (xs.all f)) h := by
  unfold bAll lstOf
  simp only [q, Option.bind_some, bools_map]
  simp
theorem dSl_t {xs : List D} {lo hi : Option Int} {h : Hd} : dSl (.tup xs) lo hi h = .ok (.tup (cutD xs lo hi)) h := rfl
theorem dSl_l {xs : List D} {lo hi : Option Int} {h : Hd} {n : Nat} (q : h[n]? = some (.lst xs)) : dSl (.ref n) lo hi h = .ok (.ref h.length) (h ++ [.lst (cutD xs lo hi)]) := by unfold dSl lstOf; simp only [q]
theorem dAdd_ll {h : Hd} {n m : Nat} {xs ys : List D} (q1 : h[n]? = some (.lst xs)) (q2 : h[m]? = some (.lst ys)) (q : xs.length + ys.length ≤ 1000000) : dAdd (.ref n) (.ref m) h = .ok (.ref h.length) (h ++ [.lst (xs ++ ys)]) := by
  unfold dAdd
  simp only [q1, q2]
  exact if_pos (Nat.le_trans q (by decide))
theorem get_at {h g : Hd} {k : Nat} : (h ++ g)[h.length + k]? = g[k]? := by
  rw [List.getElem?_append_right (by omega)]
  congr 1
  omega
theorem get_at0 {h g : Hd} : (h ++ g)[h.length]? = g[0]? := by
  rw [List.getElem?_append_right (by omega), Nat.sub_self]
theorem get_new {h : Hd} {o : MO} : (h ++ [o])[h.length]? = some o := by simp
end DL
namespace DL
open PySem PySem.Spec L2
def FQ (q : Rat) : D := .tup [.int q.num, .int (q.den : Int)]
theorem FQ_divInt {n d : Int} (hd : 1 ≤ d) : FQ (Rat.divInt n d) = .tup [.int (n / Int.gcd n d), .int (d / Int.gcd n d)] := by
  unfold FQ
  rw [Rat.num_divInt, Rat.den_divInt, if_neg (by omega), Int.sign_eq_one_of_pos (by omega), Int.one_mul, Int.gcd_comm d n]
  have : ((d.natAbs / Int.gcd n d : Nat) : Int) = d / Int.gcd n d := by
    rw [Int.natCast_ediv, Int.natAbs_of_nonneg (by omega)]
  rw [this]
def SzQ (k : Nat) (q : Rat) : Prop := Sz k q.num ∧ Sz k (q.den : Int)
theorem SzQ.mono {k l : Nat} {q : Rat} (a : SzQ k q) (h : k ≤ l) : SzQ l q := ⟨a.1.mono h, a.2.mono h⟩
theorem den_pos (q : Rat) : (1 : Int) ≤ (q.den : Int) := by
  have := q.den_pos
  omega
theorem num_nonneg {q : Rat} (h : 0 ≤ q) : 0 ≤ q.num := Rat.num_nonneg.mpr h
theorem Sz.div {k : Nat} {n : Int} (a : Sz k n) (g : Int) : Sz k (n / g) := by
  unfold Sz at *
  exact Nat.lt_of_le_of_lt (Int.natAbs_ediv_le_natAbs n g) a
theorem SzQ.divInt {k : Nat} {n d : Int} (hd : 1 ≤ d) (a : Sz k n) (b : Sz k d) : SzQ k (Rat.divInt n d) := by
  unfold SzQ
  rw [Rat.num_divInt, Rat.den_divInt, if_neg (by omega), Int.sign_eq_one_of_pos (by omega), Int.one_mul]
  refine ⟨a.div _, ?_⟩
  have : ((d.natAbs / Int.gcd d n : Nat) : Int) = d / Int.gcd d n := by
    rw [Int.natCast_ediv, Int.natAbs_of_nonneg (by omega)]
  rw [this]
  exact b.div _
theorem divInt_nonneg {n d : Int} (hn : 0 ≤ n) (hd : 1 ≤ d) : 0 ≤ Rat.divInt n d := by
  rw [← Rat.num_nonneg, Rat.num_divInt, Int.sign_eq_one_of_pos (by omega), Int.one_mul]
  exact Int.ediv_nonneg hn (by omega)
theorem add_divInt (a b : Rat) : a + b = Rat.divInt (a.num * b.den + b.num * a.den) (a.den * b.den) := by
  rw [Rat.add_def', ← Rat.divInt_ofNat]
  simp
theorem sub_divInt (a b : Rat) : a - b = Rat.divInt (a.num * b.den - b.num * a.den) (a.den * b.den) := by
  rw [Rat.sub_def', ← Rat.divInt_ofNat]
  simp
theorem mul_divInt (a b : Rat) : a * b = Rat.divInt (a.num * b.num) (a.den * b.den) := by
  rw [Rat.mul_def', ← Rat.divInt_ofNat]
  simp
theorem div_divInt (a b : Rat) (hb : 0 < b) : a / b = Rat.divInt (a.num * b.den) (a.den * b.num) := by
  have e : a = Rat.divInt a.num a.den := (Rat.num_divInt_den a).symm
  rw [Rat.div_def, Rat.inv_def]
  conv => lhs; rw [e]
  rw [Rat.divInt_mul_divInt]
theorem SzQ.add {k l : Nat} {a b : Rat} (x : SzQ k a) (y : SzQ l b) : SzQ (k + l + 1) (a + b) := by
  rw [add_divInt]
  refine .divInt (by have := Int.mul_le_mul (den_pos a) (den_pos b) (by decide) (by have := den_pos a; omega); omega) ?_ ?_
  · exact ((x.1.mul y.2).add (y.1.mul x.2)).mono (by omega)
  · exact (x.2.mul y.2).mono (by omega)
theorem SzQ.sub {k l : Nat} {a b : Rat} (x : SzQ k a) (y : SzQ l b) : SzQ (k + l + 1) (a - b) := by
  rw [sub_divInt]
  refine .divInt (by have := Int.mul_le_mul (den_pos a) (den_pos b) (by decide) (by have := den_pos a; omega); omega) ?_ ?_
  · exact ((x.1.mul y.2).sub (y.1.mul x.2)).mono (by omega)
  · exact (x.2.mul y.2).mono (by omega)
theorem SzQ.mul {k l : Nat} {a b : Rat} (x : SzQ k a) (y : SzQ l b) : SzQ (k + l) (a * b) := by
  rw [mul_divInt]
  refine .divInt (by have := Int.mul_le_mul (den_pos a) (den_pos b) (by decide) (by have := den_pos a; omega); omega) ?_ ?_
  · exact x.1.mul y.1
  · exact x.2.mul y.2
theorem num_pos {b : Rat} (h : 0 < b) : 1 ≤ b.num := by
  have := (Rat.lt_iff 0 b).mp h
  have : 0 < b.num := by simpa using this
  omega
theorem SzQ.div {k l : Nat} {a b : Rat} (hb : 0 < b) (x : SzQ k a) (y : SzQ l b) : SzQ (k + l) (a / b) := by
  rw [div_divInt a b hb]
  refine .divInt (by have := Int.mul_le_mul (den_pos a) (num_pos hb) (by decide) (by have := den_pos a; omega); omega) ?_ ?_
  · exact x.1.mul y.2
  · exact x.2.mul y.1
theorem den_mul (a b : Rat) : (1 : Int) ≤ (a.den : Int) * b.den := by
  have := Int.mul_le_mul (den_pos a) (den_pos b) (by decide) (by have := den_pos a; omega)
  omega
theorem dIx_FQ0 {a : Rat} {h : Hd} : dIx (FQ a) (.int 0) h = .ok (.int a.num) h := by
  unfold FQ
  rw [dIx_t, at_0]
  rfl
theorem dIx_FQ1 {a : Rat} {h : Hd} : dIx (FQ a) (.int 1) h = .ok (.int a.den) h := by
  unfold FQ
  rw [dIx_t, at_1]
  rfl
theorem eq_FQ {a b : Rat} : (a.num = b.num ∧ (a.den : Int) = b.den) ↔ a = b := ⟨fun ⟨h1, h2⟩ => Rat.ext h1 (Int.ofNat.inj h2), fun e => by subst e; exact ⟨rfl, rfl⟩⟩
theorem dEq_FQ {a b : Rat} {h : Hd} : dEq (FQ a) (FQ b) h = .ok (.bl (decide (a = b))) h := by
  unfold FQ
  rw [dEq_fr]
  simp only [eq_FQ]
theorem dNe_FQ {a b : Rat} {h : Hd} : dNe (FQ a) (FQ b) h = .ok (.bl (!decide (a = b))) h := by
  unfold FQ
  rw [dNe_fr]
  simp only [eq_FQ]
theorem lo_FQ {n : Nat} {a : Rat} : D.lo n (FQ a) = true := by
  unfold FQ
  simp only [lo_tup, lo_cons, lo_int, lo_nil]
  rfl
theorem FQ_01 : D.tup [.int 0, .int 1] = FQ 0 := rfl
end DL
namespace DL
open PySem PySem.Spec L2
theorem andB {a b : Prop} (x : a) (y : b) : a ∧ b := ⟨x, y⟩
def evB1 := andB @ev_T <| andB @ev_L <| andB @ev_run <| andB @ev_V <| andB @ev_C <| andB @ev_1 <| andB @ev_2 <| andB @ev_B <| andB @ev_Tr <| andB @ev_tAnd <| andB @ev_tOr <| andB @ev_tNot <| andB @ev_And <| andB @ev_Not <| andB @ev_If <| andB @ev_aN <| andB @ev_aC <| andB @ev_A <| andB @ev_F <| andB @ev_M <| andB @ev_Sl <| andB @ev_oN <| andB @ev_oS <| andB @ev_nil <| andB @ev_seq <| andB @ev_asg <| andB @ev_gN <| andB @ev_gsN <| andB @ev_gsC <| andB @ev_gT <| andB @ev_gS <| andB @ev_set <| andB @ev_ret <| andB @ev_expr <| andB @ev_if <| andB @ev_par2 <| andB @ev_for <| andB @ev_i1 <| @ev_iA
local macro_rules | `(tactic| walk_at "evn") => `(tactic| try simp -implicitDefEqProofs only [evB1, List.append_assoc, List.length_append, Nat.add_assoc, get_at, get_at0, Nat.reduceLeDiff, asO_int, Res.bind_ok, b1_ok, b2_ok, bAnd_ok, bOr_ok, bNot_ok, bAndV_ok, bNotV_ok, bIf_ok, bC_ok, bC1_ok, bM_ok, bM1_ok, bSl_ok, bSl1_ok, bSl2_ok, kAsg_ok, bG_ok, bS1_ok, bS2_ok, bS3_ok, kSet_ok, kRet_ok, kExp_ok, kIf_ok, kFor_ok, kPar_ok, kPar1_ok, SR.seq_nx, SR.seq_rt, SR.fin_rt, toS_ok, slAt_some, optR_some, asB_bl, asT_bl, dAdd_ii, dSub_ii, dLt_ii, dGt_ii, dGe_ii, bMax2_ii, bLen_r, dIx_t, dIx_r, at_0, at_1, at_2, dEq_ii, iSeq_t, List.map, List.length_cons, List.length_nil, List.replicate_succ, List.replicate_zero, List.cons_append, List.nil_append, List.append_nil, List.getElem?_cons_zero, List.getElem?_cons_succ, List.set_cons_zero, List.set_cons_succ, Nat.reduceSub, Nat.reduceAdd, Nat.sub_self, Bool.not_true, Bool.not_false, if_true, if_false, reduceIte, Bool.false_eq_true, decide_true, decide_false])
theorem gcd_step {a b : Int} (ha : 0 ≤ a) (hb : 0 ≤ b) : Int.gcd b (a % b) = Int.gcd a b := by
  obtain ⟨m, rfl⟩ := Int.eq_ofNat_of_zero_le ha
  obtain ⟨n, rfl⟩ := Int.eq_ofNat_of_zero_le hb
  show Nat.gcd n ((m : Int) % (n : Int)).natAbs = Nat.gcd m n
  rw [← Int.natCast_emod, Int.natAbs_natCast, Nat.gcd_comm m n, Nat.gcd_comm n (m % n)]
  exact (Nat.gcd_rec n m).symm
theorem common_while {t : TM} {bd : SM} {h : Hd} (ht : ∀ a b : Int, t [some (.int a), some (.int b)] h = .ok (decide (0 < b)) h) (hb : ∀ a b : Int, 0 < b → bd [some (.int a), some (.int b)] h = .nx [some (.int b), some (.int (a % b))] h) :
    ∀ (n : Nat) (a b : Int), b.toNat ≤ n → 0 ≤ a → 0 ≤ b → sWhile t bd [some (.int a), some (.int b)] h = .nx [some (.int (Int.gcd a b)), some (.int 0)] h := by
  have base : ∀ a : Int, 0 ≤ a → sWhile t bd [some (.int a), some (.int 0)] h = .nx [some (.int (Int.gcd a 0)), some (.int 0)] h := fun a ha => by
    rw [while_end (ht a 0)]
    have : ((Int.gcd a 0 : Nat) : Int) = a := by rw [Int.gcd_zero_right]; omega
    rw [this]
  intro n
  induction n with
  | zero =>
    intro a b hn ha hb'
    obtain rfl : b = 0 := by omega
    exact base a ha
  | succ n ih =>
    intro a b hn ha hb'
    by_cases hz : b = 0
    · subst hz
      exact base a ha
    · have hp : 0 < b := by omega
      rw [while_step (by rw [ht]; simp only [hp, decide_true]) (hb a b hp), ih b (a % b) (by have := Int.emod_lt_of_pos a hp; have := Int.emod_nonneg a hz; omega) hb' (Int.emod_nonneg a hz)]
      rw [gcd_step ha hb']
end DL
namespace DL
open PySem PySem.Spec L2
class ZI (k : outParam Nat) (i : Int) : Prop where
  z : Sz k i
class ZQ (k : outParam Nat) (q : Rat) : Prop where
  z : SzQ k q
class Fa (p : Prop) : Prop where
  out : p
section
variable {k l : Nat} {i j : Int} {a b : Rat}
instance zi_num [x : ZQ k a] : ZI k a.num := ⟨x.z.1⟩
instance zi_den [x : ZQ k a] : ZI k (a.den : Int) := ⟨x.z.2⟩
instance zi_sub [x : ZI k i] [y : ZI l j] : ZI (max k l + 1) (i - j) := ⟨x.z.sub y.z⟩
instance zq_sub [x : ZQ k a] [y : ZQ l b] : ZQ (k + l + 1) (a - b) := ⟨x.z.sub y.z⟩
instance zq_mul [x : ZQ k a] [y : ZQ l b] : ZQ (k + l) (a * b) := ⟨x.z.mul y.z⟩
instance zq_div [x : ZQ k a] [y : ZQ l b] [h : Fa (0 < b)] : ZQ (k + l) (a / b) := ⟨x.z.div h.out y.z⟩
instance zq_0 : ZQ 1 (0 : Rat) := ⟨by constructor <;> (unfold Sz; decide)⟩
instance fa_mul [x : Fa (0 ≤ a)] [y : Fa (0 ≤ b)] : Fa (0 ≤ a * b) := ⟨Rat.mul_nonneg x.out y.out⟩
instance fa_sub [x : Fa (b ≤ a)] : Fa (0 ≤ a - b) := ⟨(Rat.le_iff_sub_nonneg b a).mp x.out⟩
theorem div_nn (x : 0 ≤ a) (y : 0 < b) : 0 ≤ a / b := by
  rw [div_divInt a b y]
  exact divInt_nonneg (Int.mul_nonneg (num_nonneg x) (by omega)) (by have := Int.mul_le_mul (den_pos a) (num_pos y) (by decide) (by omega); omega)
instance fa_div [x : Fa (0 ≤ a)] [y : Fa (0 < b)] : Fa (0 ≤ a / b) := ⟨div_nn x.out y.out⟩
variable {h : Hd}
theorem dMul_I [x : ZI k i] [y : ZI l j] (hk : k + l < 100000000) : dMul (.int i) (.int j) h = .ok (.int (i * j)) h := dMul_ok (MulOk.of x.z y.z hk)
theorem lt_FQ : (a.num * b.den < b.num * a.den) = (a < b) := propext (Rat.lt_iff _ _).symm
class Ls (h : Hd) (n : Nat) (xs : outParam (List D)) : Prop where
  q : h[n]? = some (.lst xs)
class Lt (g : Hd) (k : Nat) (xs : outParam (List D)) : Prop where
  q : g[k]? = some (.lst xs)
end
section
variable {g h : Hd} {n k : Nat} {xs ys : List D} {d : D} {o : MO}
instance lt_0 : Lt (.lst xs :: g) 0 xs := ⟨rfl⟩
instance lt_s [q : Lt g k xs] : Lt (o :: g) (k + 1) xs := ⟨q.q⟩
instance ls_app [q : Ls h n xs] : Ls (h ++ g) n xs := ⟨by rw [List.getElem?_append_left (List.getElem?_eq_some_iff.mp q.q).1]; exact q.q⟩
instance ls_at [q : Lt g k xs] : Ls (h ++ g) (h.length + k) xs := ⟨by rw [get_at]; exact q.q⟩
instance ls_at0 : Ls (h ++ .lst xs :: g) h.length xs := ⟨by rw [get_at0]; rfl⟩
theorem iSeq_I [q : Ls h n xs] : iSeq (.ref n) h = .ok (xs, fun h' => h'[n]? = some (.lst xs)) h := iSeq_l q.q
theorem tyM_I [q : Ls h n xs] : tyM "list" (.ref n) h = true := tyM_l q.q
theorem lsOf_I [q : Ls h n xs] : lstOf h (.ref n) = some xs := by unfold lstOf; simp only [q.q]
theorem dIx_I [q : Ls h n xs] {i : Int} : dIx (.ref n) (.int i) h = (match atI xs i with
    | some d => .ok d h
    | none => .bad) := dIx_l q.q
theorem mApp_I [q : Ls h n xs] (hl : xs.length < 1000000) : mApp (.ref n) [d] h = .ok .non (h.set n (.lst (xs ++ [d]))) := mApp_l q.q (Nat.lt_of_lt_of_le hl (by decide +kernel))
theorem dSl_I [q : Ls h n xs] {lo hi : Option Int} : dSl (.ref n) lo hi h = .ok (.ref h.length) (h ++ [.lst (cutD xs lo hi)]) := dSl_l q.q
theorem bLen_I [q : Ls h n xs] : bLen [.ref n] h = .ok (.int xs.length) h := by unfold bLen len0; simp only [q.q]
theorem bTuple_I [q : Ls h n xs] : bTuple [.ref n] h = .ok (.tup xs) h := by unfold bTuple; simp only [lsOf_I]
theorem dAdd_I {m : Nat} [q1 : Ls h n xs] [q2 : Ls h m ys] (q : xs.length + ys.length ≤ 1000000) : dAdd (.ref n) (.ref m) h = .ok (.ref h.length) (h ++ [.lst (xs ++ ys)]) := dAdd_ll q1.q q2.q q
theorem set_at_I : (h ++ g).set (h.length + k) o = h ++ g.set k o := by
  rw [List.set_append_right _ _ (by omega)]
  congr 2
  omega
theorem set_at0_I : (h ++ g).set h.length o = h ++ g.set 0 o := by
  rw [List.set_append_right _ _ (by omega)]
  congr 2
  omega
end
theorem Ls.chk {h : Hd} {n : Nat} {xs : List D} [q : Ls h n xs] (t : Hd) : (h ++ t)[n]? = some (.lst xs) := (ls_app (g := t)).q
theorem cut_mem {xs : List D} {lo hi : Option Int} {x : D} (h : x ∈ cutD xs lo hi) : x ∈ xs := List.mem_of_mem_drop (List.mem_of_mem_take h)
theorem iteAV_I {c d : Bool} {h : Hd} : (if c = true then Res.ok (D.bl d) h else Res.ok (D.bl false) h) = Res.ok (.bl (c && d)) h := by cases c <;> rfl
theorem is_nn_I {neg : Bool} {h : Hd} : isD neg .non .non h = .ok (.bl (neg ^^ true)) h := rfl
theorem is_fn_I {neg : Bool} {a : Rat} {h : Hd} : isD neg (FQ a) .non h = .ok (.bl (neg ^^ false)) h := rfl
theorem appD_mid {h' g : Hd} {n : Nat} {acc : List D} {d : D} (e : h'.length = n) (hl : acc.length < 1000000) : appD n d (h' ++ .lst acc :: g) = .ok () (h' ++ .lst (acc ++ [d]) :: g) := by
  subst e
  unfold appD
  rw [get_at0]
  simp only [List.getElem?_cons_zero]
  rw [if_pos (Nat.lt_of_lt_of_le hl (by decide +kernel)), set_at0_I]
  rfl
theorem bls_py : ∀ bs : List Bool, D.pyAll (bs.map D.bl) = some (bs.map PyData.bool)
  | [] => rfl
  | b :: bs => by rw [List.map_cons, D.pyAll, bls_py bs]; rfl
end DL
namespace DL
open PySem PySem.Spec L2
def T (l : List Nat) : D := .str ⟨l.toArray⟩
theorem T_str {x : Str} : D.str x = T x.cps.toList := rfl
def dig (n : Nat) : List Nat := (Nat.toDigits 10 n).map Char.toNat
section
variable {h : Hd} {a b l : List Nat} {c : Nat} {n : Nat}
theorem str_nat (n : Nat) : (toString (n : Int) : Str) = ⟨(dig n).toArray⟩ := by
  show Str.ofString (toString (n : Int)) = _
  rw [Str.ofString_eq_toList]
  show (⟨((Nat.repr n).toList.map Char.toNat).toArray⟩ : Str) = _
  rw [Nat.toList_repr]
  rfl
class Tx (l : List Nat) : Prop where
  ok : ∀ c ∈ l, c < 1114112
instance tx_nil : Tx [] := ⟨by simp⟩
theorem shaped_T [q : Tx a] : SeqAt.shaped (.str ⟨a.toArray⟩) = true := by
  unfold SeqAt.shaped
  rw [PyData.canLay0, PyData.depth]
  have : PyData.strOk ⟨a.toArray⟩ = true := by
    unfold PyData.strOk
    simpa using q.ok
  rw [this]
  rfl
theorem eqn_T {neg : Bool} [p : Tx a] [q : Tx b] : dEqn neg (T a) (T b) h = .ok (.bl (neg ^^ decide (a = b))) h := by
  unfold dEqn T
  rw [show pyH h (.str ⟨a.toArray⟩) = some (.str ⟨a.toArray⟩) from rfl, show pyH h (.str ⟨b.toArray⟩) = some (.str ⟨b.toArray⟩) from rfl]
  simp only
  rw [if_pos ⟨shaped_T, shaped_T⟩]
  congr 3
  show ((⟨a.toArray⟩ : Str) == ⟨b.toArray⟩) = _
  rw [Bool.eq_iff_iff]
  simp
theorem dEq_T_I [p : Tx a] [q : Tx b] : dEq (T a) (T b) h = .ok (.bl (decide (a = b))) h := by
  show dEqn false _ _ h = _
  rw [eqn_T, Bool.false_xor]
theorem dNe_T_I [p : Tx a] [q : Tx b] : dNe (T a) (T b) h = .ok (.bl (!decide (a = b))) h := by
  show dEqn true _ _ h = _
  rw [eqn_T, Bool.true_xor]
theorem lo_T {n : Nat} : D.lo n (T a) = true := lo_str
theorem len_T : Str.length ⟨l.toArray⟩ = l.length := by simp [Str.length]
theorem dig_len_of {k : Nat} (hk : 1 ≤ k) (hn : n < 10 ^ k) : (dig n).length ≤ k := by
  unfold dig
  rw [List.length_map]
  exact (Nat.length_toDigits_le_iff (by decide) hk).mpr hn
end
theorem dig_lenS {n k : Nat} (q : Sz k (n : Int)) : (dig n).length ≤ k + 1 := by
  unfold Sz at q
  rw [Int.natAbs_natCast] at q
  exact dig_len_of (by omega) (Nat.lt_of_lt_of_le q (Nat.le_trans (Nat.pow_le_pow_left (by decide) k) (Nat.pow_le_pow_right (by decide) (by omega))))
end DL
namespace DL
open PySem PySem.Spec L2
abbrev Pc := Rat × Rat × Rat
section
variable {h : Hd} {p : Pc} {r : List Pc} {k : Nat}
end
def onP (b : Rat) (p : Pc) (t : Rat) : Rat := if p.1 = b then p.2.1 else p.2.1 + (p.2.2 - p.2.1) * ((t - b) / (p.1 - b))
def cm (b : Rat) : List Pc → Rat → Option Rat
  | [], _ => none
  | p :: r, t => if p.1 < t then cm p.1 r t else some (onP b p t)
def optD : Option Rat → D
  | none => .non
  | some q => FQ q
end DL
namespace DL
open PySem PySem.Spec L2
def D.pl : Nat → D → Bool
  | _, .non => true
  | _, .int _ => true
  | _, .str x => PyData.strOk x
  | n + 1, .tup xs => xs.all (D.pl n)
  | _, _ => false
theorem pl_py : ∀ (n : Nat) (x : D), D.pl n x = true → ∃ p, D.py x = some p ∧ p.canLay0 = true ∧ p.depth ≤ n
  | n, .non, _ => ⟨.none, by rw [D.py], rfl, by rw [PyData.depth]; exact Nat.zero_le _⟩
  | n, .int i, _ => ⟨.int i, by rw [D.py], rfl, by rw [PyData.depth]; exact Nat.zero_le _⟩
  | n, .str x, h => ⟨.str x, by rw [D.py], by rw [PyData.canLay0]; cases n <;> exact h, by rw [PyData.depth]; exact Nat.zero_le _⟩
  | n + 1, .tup xs, h => by
    have key : ∀ l : List D, (l.all (D.pl n)) = true → ∃ ps, D.pyAll l = some ps ∧ PyData.canLayAll0 ps = true ∧ PyData.depthAll ps ≤ n := by
      intro l
      induction l with
      | nil => exact fun _ => ⟨[], by rw [D.pyAll], rfl, by rw [PyData.depthAll]; exact Nat.zero_le _⟩
      | cons y l ih =>
        intro hl
        rw [List.all_cons, Bool.and_eq_true] at hl
        obtain ⟨p, e1, c1, d1⟩ := pl_py n y hl.1
        obtain ⟨ps, e2, c2, d2⟩ := ih hl.2
        exact ⟨p :: ps, by rw [D.pyAll, e1, e2], by rw [PyData.canLayAll0, c1, c2]; rfl, by rw [PyData.depthAll]; omega⟩
    obtain ⟨ps, e, c, d⟩ := key xs (by rw [D.pl] at h; exact h)
    exact ⟨.tuple ps, by rw [D.py, e]; rfl, by rw [PyData.canLay0]; exact c, by rw [PyData.depth]; omega⟩
  | _, .bl _, h => by simp [D.pl] at h
  | _, .ty _, h => by simp [D.pl] at h
  | _, .rol _, h => by simp [D.pl] at h
  | _, .ref _, h => by simp [D.pl] at h
  | _, .con _, h => by simp [D.pl] at h
  | _, .exn _ _ _ _, h => by simp [D.pl] at h
  | 0, .tup _, h => by simp [D.pl] at h
theorem pl_cases {n : Nat} {x : D} (h : D.pl n x = true) : x = .non ∨ (∃ i, x = .int i) ∨ (∃ s, x = .str s) ∨ ∃ m xs, n = m + 1 ∧ x = .tup xs ∧ xs.all (D.pl m) = true := by
  cases x with
  | non => exact .inl rfl
  | int i => exact .inr (.inl ⟨i, rfl⟩)
  | str s => exact .inr (.inr (.inl ⟨s, rfl⟩))
  | tup xs =>
    cases n with
    | zero => simp [D.pl] at h
    | succ m => exact .inr (.inr (.inr ⟨m, xs, rfl, rfl, by rw [D.pl] at h; exact h⟩))
  | _ => cases n <;> simp [D.pl] at h
theorem pl_eqv : ∀ (n : Nat) (x y : D) (p q : PyData), D.pl n x = true → D.pl n y = true → D.py x = some p → D.py y = some q → (PyData.eqv p q = true ↔ x = y) := by
  intro n
  induction n with
  | zero =>
    intro x y p q hx hy ex ey
    rcases pl_cases hx with rfl | ⟨i, rfl⟩ | ⟨s, rfl⟩ | ⟨m, xs, hn, _⟩
    all_goals (try (exfalso; omega))
    all_goals rcases pl_cases hy with rfl | ⟨j, rfl⟩ | ⟨u, rfl⟩ | ⟨m, xs, hn, _⟩
    all_goals (try (exfalso; omega))
    all_goals (rw [D.py] at ex; rw [D.py] at ey; cases ex; cases ey; rw [PyData.eqv]; simp)
  | succ n ih =>
    have all : ∀ (xs ys : List D) (ps qs : List PyData), xs.all (D.pl n) = true → ys.all (D.pl n) = true → D.pyAll xs = some ps → D.pyAll ys = some qs → (PyData.eqvAll ps qs = true ↔ xs = ys) := by
      intro xs
      induction xs with
      | nil =>
        intro ys ps qs _ _ ex ey
        rw [D.pyAll] at ex
        cases ex
        cases ys with
        | nil => rw [D.pyAll] at ey; cases ey; rw [PyData.eqvAll]; simp
        | cons y ys =>
          rw [D.pyAll] at ey
          split at ey
          · cases ey; rw [PyData.eqvAll]; simp
          · cases ey
      | cons x xs ihx =>
        intro ys ps qs hx hy ex ey
        rw [D.pyAll] at ex
        split at ex
        · rename_i a b e1 e2
          cases ex
          cases ys with
          | nil => rw [D.pyAll] at ey; cases ey; rw [PyData.eqvAll]; simp
          | cons y ys =>
            rw [D.pyAll] at ey
            split at ey
            · rename_i c d f1 f2
              cases ey
              rw [List.all_cons, Bool.and_eq_true] at hx hy
              rw [PyData.eqvAll, Bool.and_eq_true, ih x y a c hx.1 hy.1 e1 f1, ihx ys b d hx.2 hy.2 e2 f2]
              simp
            · cases ey
        · cases ex
    intro x y p q hx hy ex ey
    rcases pl_cases hx with rfl | ⟨i, rfl⟩ | ⟨s, rfl⟩ | ⟨m, xs, hn, rfl, hx'⟩
    all_goals rcases pl_cases hy with rfl | ⟨j, rfl⟩ | ⟨u, rfl⟩ | ⟨m', ys, hn', rfl, hy'⟩
    all_goals (rw [D.py] at ex; rw [D.py] at ey)
    all_goals first
      | (cases ex; cases ey; rw [PyData.eqv]; simp; done)
      | (obtain ⟨ps, e1, e2⟩ := Option.map_eq_some_iff.mp ex; obtain ⟨qs, f1, f2⟩ := Option.map_eq_some_iff.mp ey; cases e2; cases f2; cases hn; cases hn'; rw [PyData.eqv, all xs ys ps qs hx' hy' e1 f1]; simp; done)
      | (obtain ⟨ps, e1, e2⟩ := Option.map_eq_some_iff.mp ex; cases e2; cases ey; rw [PyData.eqv]; simp; done)
      | (obtain ⟨qs, f1, f2⟩ := Option.map_eq_some_iff.mp ey; cases f2; cases ex; rw [PyData.eqv]; simp; done)
open Classical in
theorem eqn_pl {neg : Bool} {n : Nat} {x y : D} {h : Hd} (hn : n ≤ 64) (hx : D.pl n x = true) (hy : D.pl n y = true) : dEqn neg x y h = .ok (.bl (neg ^^ decide (x = y))) h := by
  obtain ⟨p, e1, c1, d1⟩ := pl_py n x hx
  obtain ⟨q, e2, c2, d2⟩ := pl_py n y hy
  have nr : ∀ {z : D} {r : PyData}, D.py z = some r → pyH h z = some r := fun {z r} e => by
    unfold pyH
    split
    · rw [D.py] at e; cases e
    · exact e
  have hs : ∀ {r : PyData}, r.canLay0 = true → r.depth ≤ n → SeqAt.shaped r = true := fun c d => by
    unfold SeqAt.shaped
    rw [c, Bool.true_and]
    exact decide_eq_true (by omega)
  unfold dEqn
  rw [nr e1, nr e2]
  simp only
  rw [if_pos ⟨hs c1 d1, hs c2 d2⟩]
  congr 3
  rw [Bool.eq_iff_iff, pl_eqv n x y p q hx hy e1 e2, decide_eq_true_eq]
theorem pl_FQ {n : Nat} {a : Rat} : D.pl (n + 1) (FQ a) = true := by unfold FQ; rw [D.pl]; cases n <;> rfl
theorem gcd_while {t : TM} {bd : SM} {h : Hd} {S : Int → Int → Sl} (ht : ∀ a b : Int, t (S a b) h = .ok (decide (0 < b)) h) (hb : ∀ a b : Int, 0 < b → bd (S a b) h = .nx (S b (a % b)) h) :
    ∀ (n : Nat) (a b : Int), b.toNat ≤ n → 0 ≤ a → 0 ≤ b → sWhile t bd (S a b) h = .nx (S (Int.gcd a b) 0) h := by
  have base : ∀ a : Int, 0 ≤ a → sWhile t bd (S a 0) h = .nx (S (Int.gcd a 0) 0) h := fun a ha => by
    rw [while_end (ht a 0)]
    have : ((Int.gcd a 0 : Nat) : Int) = a := by rw [Int.gcd_zero_right]; omega
    rw [this]
  intro n
  induction n with
  | zero =>
    intro a b hn ha hb'
    obtain rfl : b = 0 := by omega
    exact base a ha
  | succ n ih =>
    intro a b hn ha hb'
    by_cases hz : b = 0
    · subst hz
      exact base a ha
    · have hp : 0 < b := by omega
      rw [while_step (by rw [ht]; simp only [hp, decide_true]) (hb a b hp), ih b (a % b) (by have := Int.emod_lt_of_pos a hp; have := Int.emod_nonneg a hz; omega) hb' (Int.emod_nonneg a hz), gcd_step ha hb']
theorem gcd_pos1 {a b : Int} (hb : 1 ≤ b) : (0 : Int) < (Int.gcd a b : Int) := by
  have : 0 < Int.gcd a b := Int.gcd_pos_of_ne_zero_right a (by omega)
  omega
theorem gcd_le1 {a b : Int} (hb : 1 ≤ b) : ((Int.gcd a b : Nat) : Int) ≤ b := Int.le_of_dvd (by omega) (Int.gcd_dvd_right a b)
theorem optD_some_I {c : Rat} : optD (some c) = FQ c := rfl
theorem optD_none_I : optD none = .non := rfl
theorem dNe_nn_I {h : Hd} : dNe .non .non h = .ok (.bl false) h := by
  show dEqn true _ _ h = _
  rw [eqn_pl (n := 0) (by decide) rfl rfl]
  simp
end DL
namespace DL
open PySem PySem.Spec L2
def RowB (k : Nat) : Bool → Rat → Rat → List Pc → Prop
  | _, _, _, [] => True
  | f, b, a, p :: r => (b < p.1 ∨ (f = true ∧ b = p.1)) ∧ a ≤ p.2.1 ∧ b ≤ p.2.1 ∧ p.2.1 ≤ p.2.2 ∧ p.1 ≤ p.2.2 ∧ (SzQ k p.1 ∧ SzQ k p.2.1 ∧ SzQ k p.2.2) ∧ RowB k false p.1 p.2.2 r
theorem onP_ge {b t : Rat} {p : Pc} (h1 : b ≤ p.1) (h3 : b ≤ p.2.1) (h4 : p.2.1 ≤ p.2.2) (h5 : p.1 ≤ p.2.2) (hb : b ≤ t) (ht : t ≤ p.1) : t ≤ onP b p t ∧ p.2.1 ≤ onP b p t ∧ onP b p t ≤ p.2.2 := by
  obtain ⟨e, l, u⟩ := p
  unfold onP
  simp only at *
  by_cases c : e = b
  · rw [if_pos c]
    refine ⟨by grind, by grind, h4⟩
  · rw [if_neg c]
    have d : 0 < e - b := by grind
    have q0 : 0 ≤ (t - b) / (e - b) := div_nn (by grind) d
    have q1 : (t - b) / (e - b) * (e - b) = t - b := Rat.div_mul_cancel (by grind)
    generalize (t - b) / (e - b) = q at *
    have q2 : q ≤ 1 := by
      apply Rat.not_lt.mp
      intro h
      have := Rat.mul_lt_mul_of_pos_right h d
      grind
    have m1 := Rat.mul_le_mul_of_nonneg_left q2 (show 0 ≤ u - l by grind)
    have m2 := Rat.mul_nonneg (show 0 ≤ u - l by grind) q0
    have m3 := Rat.mul_nonneg q0 (show 0 ≤ u - e by grind)
    have m4 := Rat.mul_nonneg (show 0 ≤ 1 - q by grind) (show 0 ≤ l - b by grind)
    refine ⟨?_, by grind, by grind⟩
    grind
theorem onP_mono {b s t : Rat} {p : Pc} (h4 : p.2.1 ≤ p.2.2) (h1 : b ≤ p.1) (hst : s ≤ t) : onP b p s ≤ onP b p t := by
  obtain ⟨e, l, u⟩ := p
  unfold onP
  simp only at *
  by_cases c : e = b
  · rw [if_pos c, if_pos c]
    exact Rat.le_refl
  · rw [if_neg c, if_neg c]
    have d : 0 < e - b := by grind
    have q1 : (t - b) / (e - b) * (e - b) = t - b := Rat.div_mul_cancel (by grind)
    have q2 : (s - b) / (e - b) * (e - b) = s - b := Rat.div_mul_cancel (by grind)
    generalize (t - b) / (e - b) = q at *
    generalize (s - b) / (e - b) = q' at *
    have q3 : q' ≤ q := by
      apply Rat.not_lt.mp
      intro h
      have := Rat.mul_lt_mul_of_pos_right h d
      grind
    have m1 := Rat.mul_le_mul_of_nonneg_left q3 (show 0 ≤ u - l by grind)
    grind
theorem cm_ge {k : Nat} : ∀ {r : List Pc} {f : Bool} {b a t c : Rat}, RowB k f b a r → b ≤ t → cm b r t = some c → t ≤ c ∧ a ≤ c
  | [], _, _, _, _, _, _, _, e => by cases e
  | p :: r, f, b, a, t, c, ⟨h1, h2, h3, h4, h5, h6, h7⟩, hb, e => by
    unfold cm at e
    split at e
    · rename_i q
      have := cm_ge h7 (Rat.le_of_lt q) e
      exact ⟨this.1, by grind⟩
    · rename_i q
      cases e
      have hbp : b ≤ p.1 := by rcases h1 with q | ⟨_, q⟩ <;> grind
      have := onP_ge hbp h3 h4 h5 hb (Rat.not_lt.mp q)
      exact ⟨this.1, by grind⟩
theorem cm_mono {k : Nat} : ∀ {r : List Pc} {f : Bool} {b a s t c d : Rat}, RowB k f b a r → b ≤ s → s ≤ t → cm b r s = some c → cm b r t = some d → c ≤ d
  | [], _, _, _, _, _, _, _, _, _, _, e, _ => by cases e
  | p :: r, f, b, a, s, t, c, d, ⟨h1, h2, h3, h4, h5, h6, h7⟩, hb, hst, e1, e2 => by
    unfold cm at e1 e2
    have hbp : b ≤ p.1 := by rcases h1 with q | ⟨_, q⟩ <;> grind
    split at e1
    · rename_i q
      rw [if_pos (by grind)] at e2
      exact cm_mono h7 (Rat.le_of_lt q) hst e1 e2
    · rename_i q
      cases e1
      split at e2
      · rename_i q2
        have m1 := (onP_ge hbp h3 h4 h5 hb (Rat.not_lt.mp q)).2.2
        have m2 := (cm_ge h7 (Rat.le_of_lt q2) e2).2
        grind
      · cases e2
        exact onP_mono h4 hbp hst
end DL
namespace DL
open PySem PySem.Spec L2
class Lw (h : Hd) (d : D) : Prop where
  lo : d.lo h.length = true
class LwL (h : Hd) (xs : List D) : Prop where
  lo : ∀ x ∈ xs, x.lo h.length = true
class SlLo (h : Hd) (s : Sl) : Prop where
  lo : ∀ d, some d ∈ s → d.lo h.length = true
section
variable {h g A A1 l l1 tk : Hd} {d : D} {xs ys : List D} {n k m : Nat} {s : Sl} {i : Int} {b : Bool} {a : Rat} {p : Pc} {r : List Pc} {w : List Nat}
instance lw_int : Lw h (.int i) := ⟨lo_int⟩
instance lw_bl : Lw h (.bl b) := ⟨lo_bl⟩
instance lw_non : Lw h .non := ⟨lo_non⟩
instance lw_T : Lw h (T w) := ⟨lo_T⟩
instance lw_FQ : Lw h (FQ a) := ⟨lo_FQ⟩
instance lw_opt {o : Option Rat} : Lw h (optD o) := ⟨by cases o <;> first | exact lo_non | exact lo_FQ⟩
instance lw_tup [q : LwL h xs] : Lw h (.tup xs) := ⟨by rw [lo_tup]; exact loAll_of q.lo⟩
instance lwl_nil : LwL h [] := ⟨by simp⟩
instance lwl_cons [q : Lw h d] [t : LwL h xs] : LwL h (d :: xs) := ⟨fun x hx => by rcases List.mem_cons.mp hx with rfl | hx; exact q.lo; exact t.lo x hx⟩
instance lwl_app [q : LwL h xs] [t : LwL h ys] : LwL h (xs ++ ys) := ⟨fun x hx => (List.mem_append.mp hx).elim (q.lo x) (t.lo x)⟩
instance lwl_map {α : Type} {f : α → D} {zs : List α} [q : ∀ z, Lw h (f z)] : LwL h (zs.map f) := ⟨fun x hx => by obtain ⟨z, _, rfl⟩ := List.mem_map.mp hx; exact (q z).lo⟩
instance lwl_cut {lo hi : Option Int} [q : LwL h xs] : LwL h (cutD xs lo hi) := ⟨fun x hx => q.lo x (cut_mem hx)⟩
instance sl_nil : SlLo h [] := ⟨by simp⟩
instance sl_none [t : SlLo h s] : SlLo h (none :: s) := ⟨fun x hx => by rcases List.mem_cons.mp hx with z | hx; cases z; exact t.lo x hx⟩
instance sl_some [q : Lw h d] [t : SlLo h s] : SlLo h (some d :: s) := ⟨fun x hx => by rcases List.mem_cons.mp hx with z | hx; (cases z; exact q.lo); exact t.lo x hx⟩
class Hsp (h : Hd) (A : outParam Hd) (l : outParam Hd) : Prop where
  e : h = A ++ l
instance (priority := high) hsp_app : Hsp (A ++ l) A l := ⟨rfl⟩
instance (priority := low) hsp_one : Hsp A A [] := ⟨(List.append_nil A).symm⟩
class OkA (A A1 : Hd) : Prop where
  len : A1.length = A.length
  ok : ∀ (i : Nat) (o : MO), A1[i]? = some o → (∀ n, o.lo n = true) ∨ A[i]? = some o
instance (priority := high) oka_rfl : OkA A A := ⟨rfl, fun _ _ h => .inr h⟩
class PreL (B l l1 : Hd) (tk : outParam Hd) : Prop where
  tk : l1.take l.length = tk
  len : l.length ≤ l1.length
  ok : ∀ (i : Nat) (o : MO), i < l.length → l1[i]? = some o → o.lo B.length = true ∨ l[i]? = some o
instance pre_nil {B : Hd} : PreL B [] l1 [] := ⟨rfl, Nat.zero_le _, fun i o hi _ => by simp at hi⟩
instance (priority := high) pre_same {B : Hd} {o : MO} [q : PreL B l l1 tk] : PreL B (o :: l) (o :: l1) (o :: tk) := ⟨by simp [q.tk], by simpa using q.len, fun i u hi e => by
  cases i with
  | zero => exact .inr e
  | succ i => exact (q.ok i u (by simpa using hi) (by simpa using e)).imp_right (by simp)⟩
instance (priority := low) pre_lst {B : Hd} {o : MO} [q : PreL B l l1 tk] [z : LwL B xs] : PreL B (o :: l) (.lst xs :: l1) (.lst xs :: tk) := ⟨by simp [q.tk], by simpa using q.len, fun i u hi e => by
  cases i with
  | zero => simp at e; subst e; exact .inl (by rw [lo_lst]; exact loAll_of z.lo)
  | succ i => exact (q.ok i u (by simpa using hi) (by simpa using e)).imp_right (by simp)⟩
theorem okb_of [p1 : Hsp h A l] {h1 : Hd} [p2 : Hsp h1 A1 l1] [q : OkA A A1] [t : PreL h l l1 tk] : OkBelow h h1 ∧ h1.take h.length = A1 ++ tk := by
  obtain rfl := p2.e
  refine ⟨fun i o hi e => ?_, ?_⟩
  · have hi' := hi
    rw [p1.e, List.length_append] at hi'
    by_cases c : i < A1.length
    · rw [List.getElem?_append_left c] at e
      rcases q.ok i o e with z | z
      · exact .inl (z _)
      · exact .inr (by rw [p1.e, List.getElem?_append_left (by rw [← q.len]; exact c)]; exact z)
    · rw [List.getElem?_append_right (by omega)] at e
      have ql := q.len
      refine (t.ok (i - A1.length) o (by omega) e).imp_right fun z => ?_
      rw [p1.e, List.getElem?_append_right (by omega), ← ql]
      exact z
  · rw [show h.length = A1.length + l.length by rw [p1.e, List.length_append, q.len], ← t.tk]
    have := t.len
    rw [List.take_append, List.take_of_length_le (by omega)]
    congr 2
    omega
theorem gc_I [p1 : Hsp h A l] {h1 : Hd} [p2 : Hsp h1 A1 l1] [q : OkA A A1] [t : PreL h l l1 tk] [w : Lw h d] : gc h d h1 = .ok d (A1 ++ tk) := by
  obtain ⟨e1, e2⟩ := okb_of (h := h) (h1 := h1) (tk := tk)
  unfold gc
  rw [if_pos e1, if_pos w.lo, e2]
class Rsp (A : Hd) (m : Nat) (k : outParam Nat) : Prop where
  e : m = A.length + k
instance rsp_0 : Rsp A A.length 0 := ⟨rfl⟩
instance rsp_k : Rsp A (A.length + k) k := ⟨rfl⟩
theorem gcn_I [p1 : Hsp h A l] {h1 : Hd} [p2 : Hsp h1 A1 l1] [q : OkA A A1] [t : PreL h l l1 tk] [e : Rsp A1 m k] [u : Lt l1 k xs] [w : LwL h xs] (hk : l.length ≤ k) : gc h (.ref m) h1 = .ok (.ref h.length) (A1 ++ (tk ++ [.lst xs])) := by
  obtain ⟨e1, e2⟩ := okb_of (h := h) (h1 := h1) (tk := tk)
  have hl : h.length = A1.length + l.length := by rw [p1.e, List.length_append, q.len]
  unfold gc
  rw [if_pos e1, if_neg (by rw [lo_ref, e.e, hl]; simpa using hk)]
  simp only
  rw [e.e, p2.e, get_at, u.q]
  simp only
  rw [if_pos (by rw [lo_lst]; exact loAll_of w.lo), ← p2.e, e2, List.append_assoc]
theorem gcS_I [p1 : Hsp h A l] {h1 : Hd} [p2 : Hsp h1 A1 l1] [q : OkA A A1] [t : PreL h l l1 tk] [w : SlLo h s] : (SR.nx s h1).gcS h = .nx s (A1 ++ tk) := by
  obtain ⟨e1, e2⟩ := okb_of (h := h) (h1 := h1) (tk := tk)
  unfold SR.gcS
  simp only
  rw [if_pos ⟨e1, w.lo⟩, e2]
noncomputable def Res.bTG (r : Res Bool) (h : Hd) : Res Bool := r.bind fun c h1 => (gc h (.bl c) h1).bind asB
def Res.toRt (r : Res D) : SR := match r with
  | .ok d h => .rt d h
  | _ => .bad
theorem gcR_I {h1 : Hd} : (SR.rt d h1).gcS h = (gc h d h1).toRt := rfl
theorem toRt_I : (Res.ok d h).toRt = .rt d h := rfl
theorem ev_G_I {e : EM} : eG e s h = (e s h).bind (gc h) := rfl
theorem ev_tG_I {t : TM} : tG t s h = (t s h).bTG h := rfl
theorem bTG_I {b : Bool} {h1 : Hd} : (Res.ok b h1).bTG h = (gc h (.bl b) h1).bind asB := rfl
theorem ev_sG_I {ms : SM} : sG ms s h = (ms s h).gcS h := rfl
theorem ev_sW_I {ms : SM} {vs : List Nat} : sW vs ms s h = (ms s h).wp vs := rfl
theorem wp_nx_I {vs : List Nat} : (SR.nx s h).wp vs = .nx (wipeD s vs) h := rfl
theorem wp_rt_I {vs : List Nat} : (SR.rt d h).wp vs = .rt d h := rfl
theorem wipe_nil_I : wipeD s [] = s := rfl
theorem wipe_cons_I {v : Nat} {vs : List Nat} : wipeD s (v :: vs) = (wipeD s vs).set v none := rfl
end
abbrev PS := Int × Int
def HP (h : Hd) (p : Nat) (c : PS) : Hd := h.set p (.lst [.int c.1, .int c.2])
class PotI (c : PS) : Prop where
  v : 0 ≤ c.1 ∧ 0 ≤ c.2 ∧ c.2 < 2147483629
class PL (p : Nat) (h : Hd) : Prop where
  lt : p < h.length
section
variable {h g : Hd} {c c' c2 : PS} {p n k m : Nat} {xs : List D} {o : MO} {d : D}
theorem HP_len_I : (HP h p c).length = h.length := by unfold HP; simp
theorem HP_get [q : PL p h] : (HP h p c)[p]? = some (.lst [.int c.1, .int c.2]) := by unfold HP; rw [List.getElem?_set_self q.lt]
theorem HP_HP_I : HP (HP h p c) p c2 = HP h p c2 := by unfold HP; rw [List.set_set]
instance pl_app [q : PL p h] : PL p (h ++ g) := ⟨by have := q.lt; rw [List.length_append]; omega⟩
instance pl_HP [q : PL p h] {r : Nat} : PL p (HP h r c) := ⟨by rw [HP_len_I]; exact q.lt⟩
theorem HP_app [q : PL p h] : HP (h ++ g) p c = HP h p c ++ g := by unfold HP; rw [List.set_append_left _ _ q.lt]
theorem HP_lo {c : PS} : ∀ n, MO.lo n (.lst [.int c.1, .int c.2]) = true := fun n => by simp only [lo_lst, lo_cons, lo_int, lo_nil]; rfl
instance oka_HP : OkA (HP h p c) (HP h p c') := ⟨by rw [HP_len_I, HP_len_I], fun i o e => by
  unfold HP at *
  by_cases q : p = i
  · subst q
    rw [List.getElem?_set] at e
    split at e
    · split at e
      · cases e; exact .inl HP_lo
      · cases e
    · rename_i w; exact (w rfl).elim
  · rw [List.getElem?_set_ne q] at e ⊢
    exact .inr e⟩
instance oka_HP1 : OkA h (HP h p c') := ⟨by rw [HP_len_I], fun i o e => by
  unfold HP at *
  by_cases q : p = i
  · subst q
    rw [List.getElem?_set] at e
    split at e
    · split at e
      · cases e; exact .inl HP_lo
      · cases e
    · rename_i w; exact (w rfl).elim
  · rw [List.getElem?_set_ne q] at e
    exact .inr e⟩
instance rsp_HPk : Rsp (HP h p c) (h.length + k) k := ⟨by rw [HP_len_I]⟩
instance lw_pot [q : PL p h] : Lw h (.ref p) := ⟨by rw [lo_ref]; exact decide_eq_true q.lt⟩
class Ne2 (p n : Nat) : Prop where
  ne : p ≠ n
instance ls_HPk [q : Lt g k xs] : Ls (HP h p c ++ g) (h.length + k) xs := ⟨by
  have := get_at (h := HP h p c) (g := g) (k := k)
  rw [HP_len_I] at this
  rw [this]; exact q.q⟩
instance ls_HP0 : Ls (HP h p c ++ .lst xs :: g) h.length xs := ⟨by
  have := get_at0 (h := HP h p c) (g := .lst xs :: g)
  rw [HP_len_I] at this
  rw [this]; rfl⟩
theorem set_HPk_I : (HP h p c ++ g).set (h.length + k) o = HP h p c ++ g.set k o := by
  have := set_at_I (h := HP h p c) (g := g) (k := k) (o := o)
  rw [HP_len_I] at this
  exact this
theorem set_HP0_I : (HP h p c ++ g).set h.length o = HP h p c ++ g.set 0 o := by
  have := set_at0_I (h := HP h p c) (g := g) (o := o)
  rw [HP_len_I] at this
  exact this
class Hpt (H : Hd) (h : outParam Hd) (p : Nat) (c : outParam PS) (g : outParam Hd) : Prop where
  e : H = HP h p c ++ g
instance (priority := high) hpt_app : Hpt (HP h p c ++ g) h p c g := ⟨rfl⟩
instance hpt_one : Hpt (HP h p c) h p c [] := ⟨(List.append_nil _).symm⟩
theorem frame {F : List D → M D} {args : List D} (e : ∀ h : Hd, PL p h → F args (HP h p c) = .ok d (HP h p c')) {H : Hd} [q : Hpt H h p c g] [z : PL p h] : F args H = .ok d (HP h p c' ++ g) := by
  rw [q.e, ← HP_app, e (h ++ g) inferInstance, HP_app]
end
section
variable {c : PS} {m : Int}
end
instance f1_1 : Fa ((1 : Int) ≤ 1) := ⟨by decide⟩
instance f1_2 : Fa ((1 : Int) ≤ 2) := ⟨by decide⟩
instance f1_3 : Fa ((1 : Int) ≤ 3) := ⟨by decide⟩
instance f1_4 : Fa ((1 : Int) ≤ 4) := ⟨by decide⟩
instance f1_5 : Fa ((1 : Int) ≤ 5) := ⟨by decide⟩
instance f1_9 : Fa ((1 : Int) ≤ 9) := ⟨by decide⟩
instance f1_12 : Fa ((1 : Int) ≤ 12) := ⟨by decide⟩
instance f1_24 : Fa ((1 : Int) ≤ 24) := ⟨by decide⟩
instance f1_40 : Fa ((1 : Int) ≤ 40) := ⟨by decide⟩
instance zl_1 : ZI 1 1 := ⟨by unfold Sz; decide⟩
instance zl_2 : ZI 2 2 := ⟨by unfold Sz; decide⟩
instance zl_3 : ZI 2 3 := ⟨by unfold Sz; decide⟩
instance zl_4 : ZI 3 4 := ⟨by unfold Sz; decide⟩
instance zl_5 : ZI 3 5 := ⟨by unfold Sz; decide⟩
instance zl_9 : ZI 4 9 := ⟨by unfold Sz; decide⟩
instance zl_12 : ZI 4 12 := ⟨by unfold Sz; decide⟩
instance zl_24 : ZI 5 24 := ⟨by unfold Sz; decide⟩
instance zl_40 : ZI 6 40 := ⟨by unfold Sz; decide⟩
instance zl_50 : ZI 6 50 := ⟨by unfold Sz; decide⟩
instance fa_addI {a b : Int} [f : Fa (0 ≤ a)] [g : Fa (0 ≤ b)] : Fa (0 ≤ a + b) := ⟨by have := f.out; have := g.out; omega⟩
instance f0_36 : Fa ((0 : Int) ≤ 36) := ⟨by decide⟩
def turn (g : GM) (body : SM) (x : D) : SM := fun s h => (g x s h).toS.seq body
theorem ev_turn_I {g : GM} {body : SM} {x : D} {s : Sl} {h : Hd} : turn g body x s h = (g x s h).toS.seq body := rfl
section
variable {α : Type} {emb : α → D} {chk : Hd → Prop} {g : GM} {body : SM} {xs : List α} {s : Sl} {h : Hd} {r : SR}
theorem turn_cons {x : D} {ys : List D} (hc : chk h) : forD chk g body (x :: ys) s h = (turn g body x s h).seq (forD chk g body ys) := by
  unfold turn
  conv => lhs; unfold forD
  rw [if_pos hc]
  cases g x s h with
  | ok s1 h1 =>
    show (match body s1 h1 with | .nx s2 h2 => forD chk g body ys s2 h2 | r => r) = ((SR.nx s1 h1).seq body).seq _
    unfold SR.seq
    simp only
    cases body s1 h1 <;> rfl
  | exc _ _ => rfl
  | bad => rfl
theorem forD_go (hR : forD chk g body (xs.map emb) s h = r) (I : List α → Sl → Hd → Prop) (i0 : I [] s h) (hc : ∀ pre s h, I pre s h → chk h)
    (ht : ∀ pre x post s h, xs = pre ++ x :: post → I pre s h → ∃ s2 h2, turn g body (emb x) s h = .nx s2 h2 ∧ I (pre ++ [x]) s2 h2) : ∃ s2 h2, r = .nx s2 h2 ∧ I xs s2 h2 := by
  have key : ∀ (ys pre : List α) (s : Sl) (h : Hd), xs = pre ++ ys → I pre s h → ∃ s2 h2, forD chk g body (ys.map emb) s h = .nx s2 h2 ∧ I xs s2 h2 := by
    intro ys
    induction ys with
    | nil =>
      intro pre s h e i
      rw [List.append_nil] at e
      subst e
      refine ⟨s, h, ?_, i⟩
      rw [List.map_nil]
      unfold forD
      rw [if_pos (hc _ _ _ i)]
    | cons y ys ih =>
      intro pre s h e i
      obtain ⟨s2, h2, e2, i2⟩ := ht pre y ys s h e i
      rw [List.map_cons, turn_cons (hc _ _ _ i), e2]
      exact ih (pre ++ [y]) s2 h2 (by rw [e, List.append_assoc]; rfl) i2
  obtain ⟨s2, h2, e, i⟩ := key xs [] s h rfl i0
  exact ⟨s2, h2, by rw [← hR, e], i⟩
def Till (I : Sl → Hd → Prop) (E : SR → Prop) : SR → Prop
  | .nx s h => I s h
  | .rt d h => E (.rt d h)
  | .exc x s h => E (.exc x s h)
  | .bad => E .bad
theorem forD_till (hR : forD chk g body (xs.map emb) s h = r) (I : List α → Sl → Hd → Prop) (E : SR → Prop) (i0 : I [] s h) (hc : ∀ pre s h, I pre s h → chk h)
    (ht : ∀ pre x post s h, xs = pre ++ x :: post → I pre s h → Till (I (pre ++ [x])) E (turn g body (emb x) s h)) : (∃ s2 h2, r = .nx s2 h2 ∧ I xs s2 h2) ∨ E r := by
  have key : ∀ (ys pre : List α) (s : Sl) (h : Hd), xs = pre ++ ys → I pre s h → (∃ s2 h2, forD chk g body (ys.map emb) s h = .nx s2 h2 ∧ I xs s2 h2) ∨ E (forD chk g body (ys.map emb) s h) := by
    intro ys
    induction ys with
    | nil =>
      intro pre s h e i
      rw [List.append_nil] at e
      subst e
      refine .inl ⟨s, h, ?_, i⟩
      rw [List.map_nil]
      unfold forD
      rw [if_pos (hc _ _ _ i)]
    | cons y ys ih =>
      intro pre s h e i
      have q := ht pre y ys s h e i
      rw [List.map_cons, turn_cons (hc _ _ _ i)]
      cases z : turn g body (emb y) s h with
      | nx s2 h2 => rw [z] at q; exact ih (pre ++ [y]) s2 h2 (by rw [e, List.append_assoc]; rfl) q
      | rt d h2 => rw [z] at q; exact .inr q
      | exc x s2 h2 => rw [z] at q; exact .inr q
      | bad => rw [z] at q; exact .inr q
  rcases key xs [] s h rfl i0 with ⟨s2, h2, e, i⟩ | q
  · exact .inl ⟨s2, h2, by rw [← hR, e], i⟩
  · exact .inr (by rw [← hR]; exact q)
noncomputable def Res.kLc (r : Res ItD) (g : GM) (t : TM) (e : EM) (vs : List Nat) (s : Sl) : Res D := r.bind fun p h1 => (lcD p.2 g t e vs h1.length s p.1 (h1 ++ [.lst []])).bind fun _ h2 => .ok (.ref h1.length) h2
theorem ev_Lc_I {im : IM} {t : TM} {e : EM} {vs : List Nat} : eLc im g t e vs s h = (im s h).kLc g t e vs s := rfl
theorem kLc_map {t : TM} {e : EM} {vs : List Nat} (p : α → Bool) (f : α → D) (hl : xs.length < 1000000) (hc : ∀ acc : List D, chk (h ++ [.lst acc]))
    (he : ∀ x ∈ xs, ∀ acc : List D, ∃ s1, g (emb x) (wipeD s vs) (h ++ [.lst acc]) = .ok s1 (h ++ [.lst acc]) ∧ t s1 (h ++ [.lst acc]) = .ok (p x) (h ++ [.lst acc]) ∧ (p x = true → e s1 (h ++ [.lst acc]) = .ok (f x) (h ++ [.lst acc]))) :
    (Res.ok (xs.map emb, chk) h).kLc g t e vs s = .ok (.ref h.length) (h ++ [.lst ((xs.filter p).map f)]) := by
  have key : ∀ (xs : List α) (acc : List D), acc.length + xs.length < 1000000 → (∀ x ∈ xs, ∀ acc : List D, ∃ s1, g (emb x) (wipeD s vs) (h ++ [.lst acc]) = .ok s1 (h ++ [.lst acc]) ∧ t s1 (h ++ [.lst acc]) = .ok (p x) (h ++ [.lst acc]) ∧ (p x = true → e s1 (h ++ [.lst acc]) = .ok (f x) (h ++ [.lst acc]))) →
      lcD chk g t e vs h.length s (xs.map emb) (h ++ [.lst acc]) = .ok () (h ++ [.lst (acc ++ (xs.filter p).map f)]) := by
    intro xs
    induction xs with
    | nil =>
      intro acc _ _
      rw [List.map_nil]
      unfold lcD
      rw [if_pos (hc acc)]
      simp
    | cons x xs ih =>
      intro acc hl he
      obtain ⟨s1, e1, e2, e3⟩ := he x (by simp) acc
      rw [List.map_cons]
      unfold lcD
      rw [if_pos (hc acc), e1]
      simp only
      rw [e2, Res.bind_ok]
      by_cases hp : p x = true
      · rw [if_pos hp, e3 hp, Res.bind_ok, appD_ok (Nat.lt_of_lt_of_le (show acc.length < 1000000 by simp only [List.length_cons] at hl; omega) (by decide +kernel)), Res.bind_ok]
        rw [ih (acc ++ [f x]) (by simp only [List.length_append, List.length_cons, List.length_nil] at hl ⊢; omega) fun y hy => he y (by simp [hy])]
        rw [List.filter_cons_of_pos hp, List.map_cons, List.append_assoc]
        rfl
      · rw [if_neg hp]
        rw [ih acc (by simp only [List.length_cons] at hl; omega) fun y hy => he y (by simp [hy])]
        rw [List.filter_cons_of_neg hp]
  show (lcD chk g t e vs h.length s (xs.map emb) (h ++ [.lst []])).bind _ = _
  rw [key xs [] (by simpa using hl) he, Res.bind_ok, List.nil_append]
theorem kLc_all {t : TM} {e : EM} {vs : List Nat} (f : α → D) (hl : xs.length < 1000000) (hc : ∀ acc : List D, chk (h ++ [.lst acc]))
    (he : ∀ x ∈ xs, ∀ acc : List D, ∃ s1, g (emb x) (wipeD s vs) (h ++ [.lst acc]) = .ok s1 (h ++ [.lst acc]) ∧ t s1 (h ++ [.lst acc]) = .ok true (h ++ [.lst acc]) ∧ e s1 (h ++ [.lst acc]) = .ok (f x) (h ++ [.lst acc])) :
    (Res.ok (xs.map emb, chk) h).kLc g t e vs s = .ok (.ref h.length) (h ++ [.lst (xs.map f)]) := by
  rw [kLc_map (p := fun _ => true) (f := f) hl hc fun x hx acc => by
    obtain ⟨s1, a, b, c⟩ := he x hx acc
    exact ⟨s1, a, b, fun _ => c⟩]
  rw [List.filter_eq_self.mpr fun _ _ => rfl]
end
end DL
namespace DL
open PySem PySem.Spec L2
abbrev Un := Int × Int × Int
section
variable {h : Hd} {u : Un} {us : List Un}
theorem eqn_lst {neg : Bool} {h : Hd} {n m k : Nat} {xs ys : List D} [q1 : Ls h n xs] [q2 : Ls h m ys] (hk : k ≤ 60) (hx : xs.all (D.pl k) = true) (hy : ys.all (D.pl k) = true) : dEqn neg (.ref n) (.ref m) h = .ok (.bl (neg ^^ @decide (xs = ys) (Classical.propDecidable _))) h := by
  obtain ⟨p, e1, c1, d1⟩ := pl_py (k + 1) (.tup xs) (by rw [D.pl]; exact hx)
  obtain ⟨q, e2, c2, d2⟩ := pl_py (k + 1) (.tup ys) (by rw [D.pl]; exact hy)
  have key := eqn_pl (neg := neg) (n := k + 1) (x := .tup xs) (y := .tup ys) (h := h) (by omega) (by rw [D.pl]; exact hx) (by rw [D.pl]; exact hy)
  unfold dEqn at key ⊢
  have f1 : pyH h (.tup xs) = (D.pyAll xs).map .tuple := by
    show D.py (.tup xs) = _
    rw [D.py]
  have f2 : pyH h (.tup ys) = (D.pyAll ys).map .tuple := by
    show D.py (.tup ys) = _
    rw [D.py]
  have g1 : pyH h (.ref n) = (D.pyAll xs).map .list := by
    unfold pyH
    simp only [q1.q]
  have g2 : pyH h (.ref m) = (D.pyAll ys).map .list := by
    unfold pyH
    simp only [q2.q]
  rw [D.py] at e1 e2
  rw [f1, f2] at key
  rw [g1, g2]
  cases a1 : D.pyAll xs with
  | none => rw [a1] at e1; cases e1
  | some ps =>
    cases a2 : D.pyAll ys with
    | none => rw [a2] at e2; cases e2
    | some qs =>
      rw [a1, a2] at key
      rw [a1] at e1
      rw [a2] at e2
      cases e1
      cases e2
      simp only [Option.map_some] at key ⊢
      have s1 : SeqAt.shaped (.list ps) = true ↔ SeqAt.shaped (.tuple ps) = true := by
        unfold SeqAt.shaped
        rw [PyData.canLay0, PyData.canLay0, PyData.depth, PyData.depth]
      have s2 : SeqAt.shaped (.list qs) = true ↔ SeqAt.shaped (.tuple qs) = true := by
        unfold SeqAt.shaped
        rw [PyData.canLay0, PyData.canLay0, PyData.depth, PyData.depth]
      have e3 : PyData.eqv (.list ps) (.list qs) = PyData.eqv (.tuple ps) (.tuple qs) := by
        rw [PyData.eqv, PyData.eqv]
      rw [e3]
      simp only [s1, s2]
      rw [key]
      congr 3
      exact decide_eq_decide.mpr (by simp)
section
variable {i j a b : Int} {k l : Nat}
theorem dPow_I (q : PowOk i j) : dPow (.int i) (.int j) h = .ok (.int (i ^ j.toNat)) h := dPow_ok q
theorem Big.of (z : Sz k i) (hk : k ≤ 61) : Big i := by
  have := z.mono hk
  unfold Sz at this
  unfold Big
  omega
theorem iRange1_I [z : ZI k a] (hk : k ≤ 61) : iRange1 [.int a] h = .ok ((List.range a.toNat).map fun (i : Nat) => D.int (0 + (i : Int)), fun _ => True) h := if_pos (Big.of z.z hk)
end
end
section
variable {α : Type} {f : α → D} {r s : List α} {p : α} {h : Hd} {n m : Nat} {xs ys : List D} {i : Int} {d : D} {a b c : Rat} {w : List Pc}
theorem map_snoc_I : r.map f ++ [f p] = (r ++ [p]).map f := by rw [List.map_append]; rfl
theorem map_app_I : r.map f ++ s.map f = (r ++ s).map f := by rw [List.map_append]
theorem mExt_I [q : Ls h n xs] [t : Ls h m ys] (hl : xs.length + ys.length ≤ 1000000) : mExt (.ref n) [.ref m] h = .ok .non (h.set n (.lst (xs ++ ys))) := by
  unfold mExt
  simp only [q.q, t.q]
  rw [if_pos (Nat.le_trans hl (by decide +kernel))]
theorem mIns_I [q : Ls h n xs] (hl : xs.length < 1000000) (h0 : 0 ≤ i) (h1 : i < 1000000) : mIns (.ref n) [.int i, d] h = .ok .non (h.set n (.lst (xs.take i.toNat ++ [d] ++ xs.drop i.toNat))) := by
  unfold mIns
  simp only [q.q]
  rw [if_pos ⟨Nat.lt_of_lt_of_le hl (by decide +kernel), h0, by omega⟩]
end
end DL
namespace DL
open PySem PySem.Spec L2
end DL
namespace DL
open PySem PySem.Spec L2
def riseP (b : Rat) (p : Pc) : Rat := (p.2.2 - p.2.1) / (p.1 - b)
def strt (b : Rat) (p q : Pc) : Bool := decide (q.2.1 = p.2.2) && (decide (p.1 = b) || decide (riseP b p = riseP p.1 q))
def leanB : Rat → List Pc → Bool
  | b, p :: q :: r => !strt b p q && leanB p.1 (q :: r)
  | _, _ => true
section
variable {h : Hd} {r : List Pc} {j : Nat}
theorem zero_add_I {n : Nat} : 0 + (n : Int) = (n : Int) := by omega
theorem cast_sub1_I {n : Nat} : ((n + 1 : Nat) : Int) - 1 = (n : Int) := by omega
end
end DL
namespace DL
open PySem PySem.Spec L2
def endB (b : Rat) : List Pc → Rat
  | [] => b
  | p :: r => endB p.1 r
def highB (a : Rat) : List Pc → Rat
  | [] => a
  | p :: r => highB p.2.2 r
theorem endB_app : ∀ (xs : List Pc) (b : Rat) (ys : List Pc), endB b (xs ++ ys) = endB (endB b xs) ys
  | [], _, _ => rfl
  | p :: r, b, ys => endB_app r p.1 ys
theorem highB_app : ∀ (xs : List Pc) (b : Rat) (ys : List Pc), highB b (xs ++ ys) = highB (highB b xs) ys
  | [], _, _ => rfl
  | p :: r, b, ys => highB_app r p.2.2 ys
theorem cm_app (t : Rat) : ∀ (xs : List Pc) (b : Rat) (ys : List Pc), cm b (xs ++ ys) t = (cm b xs t).or (cm (endB b xs) ys t)
  | [], _, _ => by simp [cm, endB]
  | p :: r, b, ys => by
    show (if p.1 < t then cm p.1 (r ++ ys) t else some (onP b p t)) = (if p.1 < t then cm p.1 r t else some (onP b p t)).or (cm (endB p.1 r) ys t)
    split
    · exact cm_app t r p.1 ys
    · rfl
theorem RowB_app {k : Nat} : ∀ (xs : List Pc) (f : Bool) (b a : Rat) (ys : List Pc), RowB k f b a (xs ++ ys) ↔ RowB k f b a xs ∧ RowB k (f && xs.isEmpty) (endB b xs) (highB a xs) ys
  | [], f, b, a, ys => by simp [RowB, endB, highB]
  | p :: r, f, b, a, ys => by
    have ih := RowB_app (k := k) r false p.1 p.2.2 ys
    have e : (f && (p :: r).isEmpty) = false := by simp
    rw [e]
    constructor
    · rintro ⟨h1, h2, h3, h4, h5, h6, h7⟩
      obtain ⟨h7, h8⟩ := ih.mp h7
      exact ⟨⟨h1, h2, h3, h4, h5, h6, h7⟩, h8⟩
    · rintro ⟨⟨h1, h2, h3, h4, h5, h6, h7⟩, h8⟩
      exact ⟨h1, h2, h3, h4, h5, h6, ih.mpr ⟨h7, h8⟩⟩
theorem leanB_snoc : ∀ (f : List Pc) (b : Rat) (a p : Pc), leanB b (f ++ [a, p]) = (leanB b (f ++ [a]) && !strt (endB b f) a p)
  | [], b, a, p => by simp [leanB, endB]
  | [x], b, a, p => by simp [leanB, endB]
  | x :: y :: r, b, a, p => by
    have ih := leanB_snoc (y :: r) x.1 a p
    simp only [List.cons_append, leanB, endB] at ih ⊢
    rw [ih, Bool.and_assoc]
theorem RowB.end_ge {k : Nat} : ∀ {r : List Pc} {f : Bool} {b a : Rat}, RowB k f b a r → b ≤ endB b r ∧ a ≤ highB a r
  | [], _, _, _, _ => ⟨Rat.le_refl, Rat.le_refl⟩
  | p :: r, f, b, a, ⟨h1, h2, h3, h4, h5, h6, h7⟩ => by
    have := RowB.end_ge h7
    unfold endB highB
    have : b ≤ p.1 := by rcases h1 with q | ⟨_, q⟩ <;> grind
    constructor <;> grind
def mergeP (a p : Pc) : Pc := (p.1, a.2.1, p.2.2)
theorem cm_merge {k : Nat} {f : Bool} {b h : Rat} {a p : Pc} (ok : RowB k f b h [a, p]) (m : a.1 = b → a.2.1 = a.2.2) (s : strt b a p = true) {t : Rat} (ht : b ≤ t) : cm b [a, p] t = cm b [mergeP a p] t := by
  obtain ⟨h1, h2, h3, h4, h5, h6, k1, k2, k3, k4, k5, k6, _⟩ := ok
  unfold strt at s
  rw [Bool.and_eq_true, Bool.or_eq_true, decide_eq_true_eq, decide_eq_true_eq, decide_eq_true_eq] at s
  obtain ⟨s1, s2⟩ := s
  obtain ⟨e, l, u⟩ := a
  obtain ⟨e', l', u'⟩ := p
  have q1 : e < e' := by rcases k1 with q | ⟨q, _⟩; exact q; cases q
  have q0 : b ≤ e := by rcases h1 with q | ⟨_, q⟩ <;> grind
  simp only [riseP] at *
  show (if e < t then (if e' < t then none else some (onP e (e', l', u') t)) else some (onP b (e, l, u) t)) = (if e' < t then none else some (onP b (e', l, u') t))
  simp only [onP]
  subst s1
  by_cases c1 : e' < t
  · have : e < t := by grind
    simp [c1, this]
  · have n1 : ¬ e' = b := by grind
    by_cases c2 : e < t
    · rw [if_pos c2, if_neg c1, if_neg c1, if_neg n1, if_neg (show ¬ e' = e by grind)]
      congr 1
      have d1 : e' - e ≠ 0 := by grind
      have d2 : e' - b ≠ 0 := by grind
      rcases s2 with rfl | s2
      · have : l = l' := by grind
        grind
      · by_cases z : e = b
        · subst z
          have : l = l' := by grind
          grind
        · have d3 : e - b ≠ 0 := by grind
          grind
    · rw [if_neg c2, if_neg c1, if_neg n1]
      congr 1
      by_cases z : e = b
      · rw [if_pos z]
        have : t = b := by grind
        grind
      · rw [if_neg z]
        have s2 := s2.resolve_left z
        have d1 : e' - e ≠ 0 := by grind
        have d2 : e' - b ≠ 0 := by grind
        have d3 : e - b ≠ 0 := by grind
        grind
theorem cm_none {k : Nat} {t : Rat} : ∀ {r : List Pc} {f : Bool} {b a : Rat}, RowB k f b a r → b ≤ t → cm b r t = none → endB b r ≤ t
  | [], _, _, _, _, h, _ => h
  | p :: r, f, b, a, ⟨h1, h2, h3, h4, h5, h6, h7⟩, _, e => by
    unfold cm at e
    split at e
    · rename_i q
      exact cm_none (r := r) (f := false) (b := p.1) (a := p.2.2) h7 (Rat.le_of_lt q) e
    · cases e
theorem cm_some {k : Nat} {t c : Rat} : ∀ {r : List Pc} {f : Bool} {b a : Rat}, RowB k f b a r → cm b r t = some c → t ≤ endB b r
  | [], _, _, _, _, e => by cases e
  | p :: r, f, b, a, ⟨h1, h2, h3, h4, h5, h6, h7⟩, e => by
    unfold cm at e
    unfold endB
    split at e
    · exact cm_some (r := r) (f := false) (b := p.1) (a := p.2.2) h7 e
    · rename_i q
      have := (RowB.end_ge h7).1
      grind
def Mom (r : List Pc) : Prop := ∀ p, r.head? = some p → p.1 = 0 → p.2.1 = p.2.2
def RowR (k : Nat) (r : List Pc) : Prop := RowB k true 0 0 r ∧ Mom r
theorem Mom.pre {r s : List Pc} (h : Mom (r ++ s)) : Mom r := fun p e => h p (by cases r with | nil => cases e | cons x r => exact e)
theorem RowR.pre {k : Nat} {r s : List Pc} (h : RowR k (r ++ s)) : RowR k r := ⟨((RowB_app _ _ _ _ _).mp h.1).1, h.2.pre⟩
def leanStep (found : List Pc) (p : Pc) : List Pc := match found.getLast? with
  | none => [p]
  | some a => if strt (endB 0 found.dropLast) a p = true then found.dropLast ++ [mergeP a p] else found ++ [p]
def leanF (r : List Pc) : List Pc := r.foldl leanStep []
theorem leanStep_nil {p : Pc} : leanStep [] p = [p] := rfl
theorem leanStep_snoc {f : List Pc} {a p : Pc} : leanStep (f ++ [a]) p = if strt (endB 0 f) a p = true then f ++ [mergeP a p] else f ++ [a, p] := by
  unfold leanStep
  simp
theorem leanF_snoc {r : List Pc} {p : Pc} : leanF (r ++ [p]) = leanStep (leanF r) p := by unfold leanF; rw [List.foldl_append]; rfl
structure LInv (k : Nat) (pre found : List Pc) : Prop where
  row : RowR k found
  lean : leanB 0 found = true
  en : endB 0 found = endB 0 pre
  hi : highB 0 found = highB 0 pre
  nil : found = [] ↔ pre = []
  len : found.length ≤ pre.length
  cm : ∀ t, 0 ≤ t → cm 0 found t = cm 0 pre t
theorem LInv.nil0 {k : Nat} : LInv k [] [] := ⟨⟨trivial, fun _ h => by cases h⟩, rfl, rfl, rfl, Iff.rfl, Nat.le_refl _, fun _ _ => rfl⟩
theorem LInv.step {k : Nat} {pre found : List Pc} {p : Pc} (i : LInv k pre found) (r : RowR k (pre ++ [p])) : LInv k (pre ++ [p]) (leanStep found p) := by
  obtain ⟨r1, r2⟩ := (RowB_app _ _ _ _ _).mp r.1
  rcases List.eq_nil_or_concat found with rfl | ⟨f, a, rfl⟩
  · obtain rfl := i.nil.mp rfl
    rw [leanStep_nil]
    exact ⟨r, rfl, rfl, rfl, by simp, Nat.le_refl _, fun _ _ => rfl⟩
  · rw [List.concat_eq_append] at *
    have hp : pre ≠ [] := fun q => by
      have := i.nil.mpr q
      simp at this
    have hf : (true && pre.isEmpty) = false := by cases pre with | nil => exact (hp rfl).elim | cons _ _ => rfl
    rw [hf, ← i.en, ← i.hi] at r2
    have full : RowB k true 0 0 (f ++ [a] ++ [p]) := (RowB_app _ _ _ _ _).mpr ⟨i.row.1, by
      have : (true && (f ++ [a]).isEmpty) = false := by simp
      rw [this]; exact r2⟩
    have full' : RowB k true 0 0 (f ++ [a, p]) := by
      rw [List.append_assoc] at full
      exact full
    obtain ⟨rf, rap⟩ := (RowB_app _ _ _ _ _).mp full'
    rw [leanStep_snoc]
    split
    · rename_i s
      have ma : a.1 = endB 0 f → a.2.1 = a.2.2 := fun q => by
        obtain ⟨h1, _⟩ := rap
        rcases h1 with w | ⟨w, _⟩
        · grind
        · have : f = [] := by cases f with | nil => rfl | cons _ _ => simp at w
          subst this
          exact i.row.2 a rfl q
      have lt : a.1 < p.1 := by
        obtain ⟨_, _, _, _, _, _, h1, _⟩ := rap
        rcases h1 with w | ⟨w, _⟩
        · exact w
        · cases w
      have ge : endB 0 f ≤ a.1 := by
        obtain ⟨h1, _⟩ := rap
        rcases h1 with w | ⟨_, w⟩ <;> grind
      have g0 := (RowB.end_ge rf).1
      refine ⟨⟨(RowB_app _ _ _ _ _).mpr ⟨rf, ?_⟩, ?_⟩, ?_, ?_, ?_, ?_, ?_, ?_⟩
      · obtain ⟨h1, h2, h3, h4, h5, h6, k1, k2, k3, k4, k5, k6, _⟩ := rap
        exact ⟨.inl (by show _ < p.1; grind), h2, h3, by show a.2.1 ≤ p.2.2; grind, k5, ⟨k6.1, h6.2.1, k6.2.2⟩, trivial⟩
      · intro q hq h0
        cases f with
        | nil =>
          cases hq
          have : p.1 = 0 := h0
          have : (0 : Rat) ≤ a.1 := ge
          grind
        | cons x f => exact i.row.2 q hq h0
      · rcases List.eq_nil_or_concat f with rfl | ⟨g, z, rfl⟩
        · rfl
        · rw [List.concat_eq_append] at *
          have l := i.lean
          have ap : ∀ w : Pc, g ++ [z] ++ [w] = g ++ [z, w] := fun w => by simp
          rw [ap] at l ⊢
          rw [leanB_snoc] at l ⊢
          have ez : endB 0 (g ++ [z]) = z.1 := by rw [endB_app]; rfl
          have e : strt (endB 0 g) z (mergeP a p) = strt (endB 0 g) z a := by
            unfold strt
            have h1 : z.1 < a.1 := by
              obtain ⟨h1, _⟩ := rap
              rw [ez] at h1
              rcases h1 with w | ⟨w, _⟩
              · exact w
              · simp at w
            have e1 : riseP z.1 (mergeP a p) = riseP z.1 a := by
              unfold strt at s
              rw [Bool.and_eq_true, Bool.or_eq_true, decide_eq_true_eq, decide_eq_true_eq, decide_eq_true_eq] at s
              obtain ⟨s1, s2⟩ := s
              rw [ez] at s2
              have s2 := s2.resolve_left (by grind)
              unfold riseP at s2 ⊢
              show (p.2.2 - a.2.1) / (p.1 - z.1) = _
              have d1 : p.1 - z.1 ≠ 0 := by grind
              have d2 : a.1 - z.1 ≠ 0 := by grind
              have d3 : p.1 - a.1 ≠ 0 := by grind
              grind
            rw [e1]
            rfl
          rw [e]
          exact l
      · rw [endB_app, endB_app]; rfl
      · rw [highB_app, highB_app]; rfl
      · simp
      · have := i.len
        simp at this ⊢
        omega
      · intro t ht
        have e1 : DL.cm 0 (pre ++ [p]) t = (DL.cm 0 f t).or (DL.cm (endB 0 f) [a, p] t) := by
          have e2 : DL.cm 0 (f ++ [a] ++ [p]) t = DL.cm 0 (pre ++ [p]) t := by
            rw [cm_app t (f ++ [a]), cm_app t pre, i.cm t ht, i.en]
          rw [← e2, List.append_assoc, cm_app]
          rfl
        rw [e1, cm_app]
        cases e : DL.cm 0 f t with
        | some c => rfl
        | none =>
          have := cm_none rf ht e
          simp only [Option.none_or]
          exact (cm_merge rap ma s this).symm
    · rename_i s
      have ap : f ++ [a, p] = f ++ [a] ++ [p] := by simp
      refine ⟨⟨full', ?_⟩, ?_, ?_, ?_, by simp, ?_, ?_⟩
      · intro q hq
        rw [ap] at hq
        exact i.row.2 q (by cases f with | nil => exact hq | cons x f => exact hq)
      · rw [leanB_snoc, i.lean]
        simpa using s
      · rw [ap, endB_app (f ++ [a]), endB_app pre, i.en]
      · rw [ap, highB_app (f ++ [a]), highB_app pre, i.hi]
      · have := i.len
        simp at this ⊢
        omega
      · intro t ht
        rw [ap, cm_app t (f ++ [a]), cm_app t pre, i.cm t ht, i.en]
theorem snoc_rec {α : Type} {P : List α → Prop} (h0 : P []) (h1 : ∀ r p, P r → P (r ++ [p])) (r : List α) : P r := by
  have key : ∀ n (r : List α), r.length = n → P r := by
    intro n
    induction n with
    | zero => intro r h; rw [List.length_eq_zero_iff.mp h]; exact h0
    | succ n ih =>
      intro r h
      rcases List.eq_nil_or_concat r with rfl | ⟨f, a, rfl⟩
      · exact h0
      · rw [List.concat_eq_append] at *
        exact h1 f a (ih f (by simpa using h))
  exact key _ r rfl
theorem leanF_inv {k : Nat} (r : List Pc) : RowR k r → LInv k r (leanF r) := snoc_rec (P := fun r => RowR k r → LInv k r (leanF r)) (fun _ => .nil0) (fun r p ih h => by
  rw [leanF_snoc]
  exact (ih h.pre).step h) r
theorem RowB.endSz {k : Nat} : ∀ {r : List Pc} {f : Bool} {b a : Rat}, RowB k f b a r → SzQ k b → SzQ k (endB b r)
  | [], _, _, _, _, z => z
  | p :: r, f, b, a, ⟨h1, h2, h3, h4, h5, h6, h7⟩, _ => RowB.endSz (r := r) (f := false) (b := p.1) (a := p.2.2) h7 h6.1
theorem RowR.mid {k : Nat} {pre post : List Pc} {x : Pc} (h : RowR k (pre ++ x :: post)) (k1 : 1 ≤ k) : endB 0 pre ≤ x.1 ∧ 0 ≤ endB 0 pre ∧ SzQ k (endB 0 pre) ∧ SzQ k x.1 ∧ SzQ k x.2.1 ∧ SzQ k x.2.2 ∧ x.2.1 ≤ x.2.2 ∧ 0 ≤ x.2.1 ∧ (pre ≠ [] → endB 0 pre < x.1) ∧ highB 0 pre ≤ x.2.1 := by
  obtain ⟨r1, r2⟩ := (RowB_app _ _ _ _ _).mp h.1
  have g := RowB.end_ge r1
  have z := RowB.endSz r1 ((zq_0.z : SzQ 1 0).mono k1)
  obtain ⟨h1, h2, h3, h4, h5, h6, h7⟩ := r2
  refine ⟨?_, g.1, z, h6.1, h6.2.1, h6.2.2, h4, by grind, fun q => ?_, h2⟩
  · rcases h1 with w | ⟨_, w⟩ <;> grind
  · rcases h1 with w | ⟨w, _⟩
    · exact w
    · cases pre with
      | nil => exact (q rfl).elim
      | cons _ _ => simp at w
theorem divInt_lt {a b d : Int} (h : 1 ≤ d) : Rat.divInt a d < Rat.divInt b d ↔ a < b := by
  rw [Rat.divInt_eq_div, Rat.divInt_eq_div]
  have hd : (0 : Rat) < (d : Rat) := by exact_mod_cast (show (0 : Int) < d by omega)
  constructor
  · intro q
    have := Rat.mul_lt_mul_of_pos_right q hd
    rw [Rat.div_mul_cancel (by grind), Rat.div_mul_cancel (by grind)] at this
    exact_mod_cast this
  · intro q
    rw [Rat.div_lt_iff hd, Rat.div_mul_cancel (by grind)]
    exact_mod_cast q
theorem divInt_le {a b d : Int} (h : 1 ≤ d) : Rat.divInt a d ≤ Rat.divInt b d ↔ a ≤ b := by
  rw [← Rat.not_lt, divInt_lt h]
  omega
section
variable {h : Hd} {p : Pc} {x y : Option Rat}
end
theorem bAll_map_I {α : Type} {xs : List α} {f : α → Bool} {h : Hd} {n : Nat} [q : Ls h n (xs.map fun x => D.bl (f x))] : bAll [.ref n] h = .ok (.bl (xs.all f)) h := bAll_map q.q
theorem all_true_I {α : Type} {xs : List α} : xs.all (fun _ => true) = true := by simp
end DL
namespace DL
open PySem PySem.Spec L2
def pairsB : Rat → List Pc → List (Rat × Pc)
  | _, [] => []
  | b, p :: r => (b, p) :: pairsB p.1 r
theorem pairsB_app : ∀ (xs : List Pc) (b : Rat) (ys : List Pc), pairsB b (xs ++ ys) = pairsB b xs ++ pairsB (endB b xs) ys
  | [], _, _ => rfl
  | p :: r, b, ys => by
    rw [List.cons_append, pairsB, pairsB, List.cons_append, pairsB_app r p.1 ys]
    rfl
section
variable {h : Hd} {n : Nat} {xs : List D} {r : List Pc} {b : Rat} {q : Rat × Pc} {α : Type} {f : α → D} {l : List α}
end
theorem onP_sz2 {k l : Nat} {b t : Rat} {p : Pc} (zb : SzQ k b) (zt : SzQ l t) (z : SzQ k p.1 ∧ SzQ k p.2.1 ∧ SzQ k p.2.2) (h : b ≤ p.1) : SzQ (l + 6 * k + 4) (onP b p t) := by
  unfold onP
  split
  · exact z.2.1.mono (by omega)
  · rename_i c
    exact (z.2.1.add ((z.2.2.sub z.2.1).mul ((zt.sub zb).div (b := p.1 - b) (by grind) (z.1.sub zb)))).mono (by omega)
section
variable {h : Hd} {x y : Option Rat} {neg : Bool}
end
section
variable {h : Hd} {n : Nat} {d : D}
end
end DL
namespace DL
open PySem PySem.Spec L2
theorem aff_ge {A B b e c : Rat} (h : b < e) (q : ∀ t, b < t → t ≤ e → c ≤ A + B * t) : c ≤ A + B * b := by
  apply Rat.not_lt.mp
  intro w
  have h1 := q e h Rat.le_refl
  have d : 0 < (A + B * e) - (A + B * b) := by grind
  have d2 : 0 < e - b := by grind
  have hB : 0 < B := by
    apply Rat.not_le.mp
    intro hB
    have := Rat.mul_nonneg (show 0 ≤ -B by grind) (Rat.le_of_lt d2)
    grind
  have hw : 0 < (c - (A + B * b)) / (2 * B) := by
    rw [Rat.lt_div_iff (by grind)]
    grind
  have e1 : (c - (A + B * b)) / (2 * B) * (2 * B) = c - (A + B * b) := Rat.div_mul_cancel (by grind)
  generalize (c - (A + B * b)) / (2 * B) = x at *
  have hx : b + x ≤ e := by
    apply Rat.not_lt.mp
    intro hx
    have := Rat.mul_lt_mul_of_pos_left hx hB
    grind
  have := q (b + x) (by grind) hx
  grind
theorem onP_aff {b t : Rat} {p : Pc} (h : p.1 ≠ b) : onP b p t = (p.2.1 - (p.2.2 - p.2.1) / (p.1 - b) * b) + (p.2.2 - p.2.1) / (p.1 - b) * t := by
  unfold onP
  rw [if_neg h]
  have : p.1 - b ≠ 0 := by grind
  grind
theorem onP_end {b : Rat} {p : Pc} (h : p.1 ≠ b) : onP b p p.1 = p.2.2 := by
  unfold onP
  rw [if_neg h]
  have : p.1 - b ≠ 0 := by grind
  grind
theorem onP_beg {b : Rat} {p : Pc} : onP b p b = p.2.1 := by
  unfold onP
  split
  · rfl
  · rename_i h
    have : p.1 - b ≠ 0 := by grind
    grind
def MomB (b : Rat) (r : List Pc) : Prop := ∀ p, r.head? = some p → p.1 = b → p.2.1 = p.2.2
def Beh (f : Bool) (b t : Rat) : Prop := b < t ∨ (f = true ∧ b = t)
theorem cm_head {b t : Rat} {p : Pc} {r : List Pc} (h : t ≤ p.1) : cm b (p :: r) t = some (onP b p t) := by
  unfold cm
  rw [if_neg (Rat.not_lt.mpr h)]
theorem cm_tail {b t : Rat} {p : Pc} {r : List Pc} (h : p.1 < t) : cm b (p :: r) t = cm p.1 r t := by
  conv => lhs; unfold cm
  rw [if_pos h]
theorem leanB_tail {b : Rat} {p : Pc} {r : List Pc} (h : leanB b (p :: r) = true) : leanB p.1 r = true := by
  cases r with
  | nil => rfl
  | cons q r =>
    unfold leanB at h
    rw [Bool.and_eq_true] at h
    exact h.2
def Fits (G : Rat → Option Rat) (k : Nat) : Bool → Rat → List Pc → Prop
  | _, _, [] => True
  | f, b, p :: r => Beh f b p.1 ∧ (p.1 = b → p.2.1 = p.2.2) ∧ (SzQ k p.1 ∧ SzQ k p.2.1 ∧ SzQ k p.2.2) ∧ (∀ t, Beh f b t → t ≤ p.1 → G t = some (onP b p t)) ∧ Fits G k false p.1 r
theorem onP_limit {b c : Rat} {p : Pc} (h : b < p.1) (q : ∀ t, b < t → t ≤ p.1 → c ≤ onP b p t) : c ≤ p.2.1 := by
  have n : p.1 ≠ b := by grind
  have := aff_ge h (c := c) (A := p.2.1 - (p.2.2 - p.2.1) / (p.1 - b) * b) (B := (p.2.2 - p.2.1) / (p.1 - b)) fun t t1 t2 => by
    rw [← onP_aff n]
    exact q t t1 t2
  rw [← onP_aff n, onP_beg] at this
  exact this
theorem Fits.row {G : Rat → Option Rat} {k : Nat} (mono : ∀ s t c d, 0 ≤ s → s ≤ t → G s = some c → G t = some d → c ≤ d) (ge : ∀ t c, 0 ≤ t → G t = some c → t ≤ c) :
    ∀ {r : List Pc} {f : Bool} {b a : Rat}, 0 ≤ b → Fits G k f b r → (∀ t c, Beh f b t → G t = some c → a ≤ c) → RowB k f b a r
  | [], _, _, _, _, _, _ => trivial
  | p :: r, f, b, a, b0, ⟨h1, h2, h3, h4, h5⟩, ha => by
    have hp : G p.1 = some p.2.2 := by
      have := h4 p.1 h1 Rat.le_refl
      by_cases c : p.1 = b
      · rw [this, ← h2 c]
        conv => lhs; rw [c]
        rw [onP_beg]
      · rwa [onP_end c] at this
    have hb : b ≤ p.1 := by rcases h1 with w | ⟨_, w⟩ <;> grind
    have lim : ∀ x, (∀ t c, Beh f b t → t ≤ p.1 → G t = some c → x ≤ c) → x ≤ p.2.1 := fun x q => by
      rcases h1 with w | ⟨w1, w2⟩
      · exact onP_limit w fun t t1 t2 => q t _ (.inl t1) t2 (h4 t (.inl t1) t2)
      · have := q p.1 _ (.inr ⟨w1, w2⟩) Rat.le_refl hp
        rw [h2 w2.symm]
        exact this
    have up : p.2.1 ≤ p.2.2 := by
      by_cases c : p.1 = b
      · rw [h2 c]
        exact Rat.le_refl
      · have lt : b < p.1 := by grind
        apply Rat.not_lt.mp
        intro w
        have q1 := h4 ((b + p.1) / 2) (.inl (by grind)) (by grind)
        have := mono _ p.1 _ _ (by grind) (by grind) q1 hp
        rw [onP_aff c] at this
        have e1 := onP_end c
        rw [onP_aff c] at e1
        have e2 := onP_beg (b := b) (p := p)
        rw [onP_aff c] at e2
        generalize (p.2.2 - p.2.1) / (p.1 - b) = x at *
        grind
    refine ⟨h1, lim a fun t c t1 t2 e => ha t c t1 e, lim b fun t c t1 t2 e => ?_, up, ge p.1 _ (by grind) hp, h3, Fits.row mono ge (r := r) (f := false) (b := p.1) (a := p.2.2) (by grind) h5 fun t c t1 e => ?_⟩
    · have : b ≤ t := by rcases t1 with w | ⟨_, w⟩ <;> grind
      have := ge t c (by grind) e
      grind
    · have : p.1 < t := by
        rcases t1 with w | ⟨w, _⟩
        · exact w
        · cases w
      exact mono p.1 t _ _ (by grind) (Rat.le_of_lt this) hp e
theorem Fits.cm {G : Rat → Option Rat} {k : Nat} : ∀ {r : List Pc} {f : Bool} {b : Rat}, Fits G k f b r → (∀ t, endB b r < t → G t = none) → (r = [] → f = true → G b = none) → ∀ t, Beh f b t → cm b r t = G t
  | [], f, b, _, hn, hz, t, ht => by
    show none = G t
    rcases ht with w | ⟨w1, w2⟩
    · exact (hn t w).symm
    · subst w2
      exact (hz rfl w1).symm
  | p :: r, f, b, ⟨h1, h2, h3, h4, h5⟩, hn, _, t, ht => by
    by_cases c : p.1 < t
    · rw [cm_tail c]
      exact Fits.cm (r := r) (f := false) (b := p.1) h5 hn (fun _ w => by cases w) t (.inl c)
    · have c' := Rat.not_lt.mp c
      rw [cm_head c', h4 t ht c']
theorem Fits.mom {G : Rat → Option Rat} {k : Nat} {r : List Pc} {f : Bool} {b : Rat} (h : Fits G k f b r) : MomB b r := fun p hp e => by
  cases r with
  | nil => cases hp
  | cons x r =>
    cases hp
    exact h.2.1 e
end DL
namespace DL
open PySem PySem.Spec L2
def pieceW (b : Rat) : List Pc → Rat → Option (Rat × Pc)
  | [], _ => none
  | p :: r, t => if p.1 < t then pieceW p.1 r t else some (b, p)
theorem cm_pieceW {t : Rat} : ∀ {r : List Pc} {b : Rat}, cm b r t = (pieceW b r t).map fun q => onP q.1 q.2 t
  | [], _ => rfl
  | p :: r, b => by
    unfold cm pieceW
    split
    · exact cm_pieceW
    · rfl
theorem pieceW_mem {t : Rat} {q : Rat × Pc} : ∀ {r : List Pc} {b : Rat}, pieceW b r t = some q → q ∈ pairsB b r ∧ t ≤ q.2.1
  | [], _, h => by cases h
  | p :: r, b, h => by
    unfold pieceW at h
    split at h
    · have := pieceW_mem (r := r) h
      exact ⟨List.mem_cons_of_mem _ this.1, this.2⟩
    · rename_i c
      cases h
      exact ⟨by simp [pairsB], Rat.not_lt.mp c⟩
theorem pieceW_beg {t : Rat} {q : Rat × Pc} : ∀ {r : List Pc} {b : Rat}, pieceW b r t = some q → (q.1 = b ∧ r.head? = some q.2) ∨ ∃ x ∈ r, x.1 = q.1 ∧ q.1 < t
  | [], _, h => by cases h
  | p :: r, b, h => by
    unfold pieceW at h
    split at h
    · rename_i c
      rcases pieceW_beg (r := r) h with ⟨e, _⟩ | ⟨x, hx, e, l⟩
      · exact .inr ⟨p, by simp, e.symm, by rw [e]; exact c⟩
      · exact .inr ⟨x, by simp [hx], e, l⟩
    · cases h
      exact .inl ⟨rfl, rfl⟩
theorem pieceW_same {k : Nat} {q : Rat × Pc} {t : Rat} : ∀ {r : List Pc} {f : Bool} {b a : Rat}, RowB k f b a r → q ∈ pairsB b r → q.1 < t → t ≤ q.2.1 → pieceW b r t = some q
  | [], _, _, _, _, h, _, _ => by simp [pairsB] at h
  | p :: r, f, b, a, ⟨h1, h2, h3, h4, h5, h6, h7⟩, hq, t1, t2 => by
    unfold pieceW
    rcases List.mem_cons.mp hq with rfl | hq
    · rw [if_neg (Rat.not_lt.mpr t2)]
    · have g := pairsB_ge h7 hq
      rw [if_pos (by grind)]
      exact pieceW_same (r := r) (f := false) (b := p.1) (a := p.2.2) h7 hq t1 t2
where
  pairsB_ge {k : Nat} {q : Rat × Pc} : ∀ {r : List Pc} {f : Bool} {b a : Rat}, RowB k f b a r → q ∈ pairsB b r → b ≤ q.1
    | [], _, _, _, _, h => by simp [pairsB] at h
    | p :: r, f, b, a, ⟨h1, h2, h3, h4, h5, h6, h7⟩, hq => by
      rcases List.mem_cons.mp hq with rfl | hq
      · exact Rat.le_refl
      · have := pairsB_ge (r := r) (f := false) (b := p.1) (a := p.2.2) h7 hq
        have : b ≤ p.1 := by rcases h1 with w | ⟨_, w⟩ <;> grind
        grind
theorem pieceW_head {b t : Rat} {p : Pc} {r : List Pc} (h : t ≤ p.1) : pieceW b (p :: r) t = some (b, p) := by
  unfold pieceW
  rw [if_neg (Rat.not_lt.mpr h)]
theorem cm_at {r : List Pc} {b t : Rat} {q : Rat × Pc} (h : pieceW b r t = some q) : cm b r t = some (onP q.1 q.2 t) := by
  rw [cm_pieceW, h]
  rfl
theorem cm_end {k : Nat} {t : Rat} : ∀ {r : List Pc} {f : Bool} {b a : Rat}, RowB k f b a r → r ≠ [] → t ≤ endB b r → ∃ q, pieceW b r t = some q
  | [], _, _, _, _, h, _ => (h rfl).elim
  | p :: r, f, b, a, ⟨h1, h2, h3, h4, h5, h6, h7⟩, _, ht => by
    unfold pieceW
    by_cases c : p.1 < t
    · rw [if_pos c]
      cases r with
      | nil => exact absurd ht (Rat.not_le.mpr c)
      | cons x r => exact cm_end (r := x :: r) (f := false) (b := p.1) (a := p.2.2) h7 (by simp) ht
    · rw [if_neg c]
      exact ⟨_, rfl⟩
theorem onP_isAff (b : Rat) (p : Pc) : ∃ A B : Rat, ∀ t, onP b p t = A + B * t := by
  by_cases c : p.1 = b
  · exact ⟨p.2.1, 0, fun t => by unfold onP; rw [if_pos c]; grind⟩
  · exact ⟨_, _, fun t => onP_aff c⟩
theorem onP_of_aff {b e t A B : Rat} (h : e = b → t = b) : onP b (e, A + B * b, A + B * e) t = A + B * t := by
  unfold onP
  by_cases c : e = b
  · rw [if_pos c, h c]
  · rw [if_neg c]
    have : e - b ≠ 0 := by grind
    grind
def insU : List Rat → Rat → List Rat
  | [], x => [x]
  | y :: l, x => if x < y then x :: y :: l else if x = y then y :: l else y :: insU l x
def inTurn (M : List Rat) : List Rat := M.foldl insU []
theorem insU_mem {x z : Rat} : ∀ {l : List Rat}, z ∈ insU l x ↔ z = x ∨ z ∈ l
  | [] => by simp [insU]
  | y :: l => by
    unfold insU
    split
    · simp
    · split
      · rename_i e; subst e; simp
      · rw [List.mem_cons, insU_mem, List.mem_cons]
        constructor
        · rintro (h | h | h) <;> simp [h]
        · rintro (h | h | h) <;> simp [h]
theorem insU_sorted {x : Rat} : ∀ {l : List Rat}, l.Pairwise (· < ·) → (insU l x).Pairwise (· < ·)
  | [], _ => by simp [insU]
  | y :: l, h => by
    have h' := List.pairwise_cons.mp h
    unfold insU
    split
    · rename_i c
      rw [List.pairwise_cons]
      refine ⟨fun z hz => ?_, h⟩
      rcases List.mem_cons.mp hz with rfl | hz
      · exact c
      · have := h'.1 z hz
        grind
    · split
      · exact h
      · rename_i c d
        rw [List.pairwise_cons]
        refine ⟨fun z hz => ?_, insU_sorted h'.2⟩
        rcases insU_mem.mp hz with rfl | hz
        · grind
        · exact h'.1 z hz
theorem inTurn_sorted (M : List Rat) : (inTurn M).Pairwise (· < ·) := by
  unfold inTurn
  have key : ∀ (M l : List Rat), l.Pairwise (· < ·) → (M.foldl insU l).Pairwise (· < ·) := by
    intro M
    induction M with
    | nil => exact fun l h => h
    | cons x M ih => exact fun l h => ih _ (insU_sorted h)
  exact key M [] .nil
theorem inTurn_mem {M : List Rat} {x : Rat} : x ∈ inTurn M ↔ x ∈ M := by
  unfold inTurn
  have key : ∀ (M l : List Rat), x ∈ M.foldl insU l ↔ x ∈ l ∨ x ∈ M := by
    intro M
    induction M with
    | nil => intro l; simp
    | cons y M ih =>
      intro l
      rw [List.foldl_cons, ih, insU_mem, List.mem_cons]
      constructor
      · rintro ((h | h) | h) <;> simp [h]
      · rintro (h | h | h) <;> simp [h]
  rw [key]
  simp
def rowOn (F : Rat → Rat → Rat × Rat) : Rat → List Rat → List Pc
  | _, [] => []
  | b, e :: l => (e, F b e) :: rowOn F e l
theorem rowOn_end (F : Rat → Rat → Rat × Rat) : ∀ (l : List Rat) (b : Rat), endB b (rowOn F b l) = l.getLast?.getD b
  | [], _ => rfl
  | e :: l, b => by
    unfold rowOn endB
    rw [rowOn_end F l e]
    cases l with
    | nil => rfl
    | cons x l =>
      rw [List.getLast?_cons_cons]
      obtain ⟨z, hz⟩ : ∃ z, (x :: l).getLast? = some z := ⟨_, List.getLast?_eq_some_getLast (by simp)⟩
      rw [hz]
      rfl
def onPart (r : List Pc) (b e : Rat) : Option (Rat × Rat) := (pieceW 0 r e).map fun q => (onP q.1 q.2 b, onP q.1 q.2 e)
section
variable {k l : Nat} {r s : List Pc} {fur : Rat}
theorem endB_mem : ∀ {r : List Pc} {b : Rat}, r ≠ [] → ∃ p ∈ r, p.1 = endB b r
  | [], _, h => (h rfl).elim
  | [p], _, _ => ⟨p, by simp, rfl⟩
  | p :: q :: r, b, _ => by
    obtain ⟨x, hx, e⟩ := endB_mem (r := q :: r) (b := p.1) (by simp)
    exact ⟨x, by simp [hx], e⟩
theorem ends_le {k : Nat} : ∀ {r : List Pc} {f : Bool} {b a : Rat}, RowB k f b a r → ∀ p ∈ r, b ≤ p.1 ∧ p.1 ≤ endB b r
  | [], _, _, _, _, p, h => by simp at h
  | x :: r, f, b, a, ⟨h1, h2, h3, h4, h5, h6, h7⟩, p, hp => by
    have hb : b ≤ x.1 := by rcases h1 with w | ⟨_, w⟩ <;> grind
    rcases List.mem_cons.mp hp with rfl | hp
    · exact ⟨hb, (RowB.end_ge h7).1⟩
    · have := ends_le (r := r) (f := false) (b := x.1) (a := x.2.2) h7 p hp
      exact ⟨by grind, this.2⟩
end
section
variable {k l : Nat} {r s : List Pc} {fur : Rat}
theorem pairsB_all {k : Nat} {q : Rat × Pc} : ∀ {r : List Pc} {f : Bool} {b a : Rat}, RowB k f b a r → q ∈ pairsB b r → b ≤ q.1 ∧ q.1 ≤ q.2.1 ∧ a ≤ q.2.2.1 ∧ q.1 ≤ q.2.2.1 ∧ q.2.2.1 ≤ q.2.2.2 ∧ q.2.1 ≤ q.2.2.2 ∧ (SzQ k q.2.1 ∧ SzQ k q.2.2.1 ∧ SzQ k q.2.2.2) ∧ (SzQ k b → SzQ k q.1)
  | [], _, _, _, _, h => by simp [pairsB] at h
  | p :: r, f, b, a, ⟨h1, h2, h3, h4, h5, h6, h7⟩, hq => by
    have hb : b ≤ p.1 := by rcases h1 with w | ⟨_, w⟩ <;> grind
    rcases List.mem_cons.mp hq with rfl | hq
    · exact ⟨Rat.le_refl, hb, h2, h3, h4, h5, h6, id⟩
    · obtain ⟨a1, a2, a3, a4, a5, a6, a7, a8⟩ := pairsB_all (r := r) (f := false) (b := p.1) (a := p.2.2) h7 hq
      exact ⟨by grind, a2, by grind, a4, a5, a6, a7, fun _ => a8 h6.1⟩
end
end DL
namespace DL
open PySem PySem.Spec L2
def LinP (K : Nat) (b : Rat) (p : Pc) : Prop := ∃ α β γ : Int, 0 < γ ∧ Sz K α ∧ Sz K β ∧ Sz K γ ∧ ∀ t, onP b p t = ((α : Rat) * t + (β : Rat)) / (γ : Rat)
def LinR (K : Nat) (r : List Pc) : Prop := ∀ q ∈ pairsB 0 r, LinP K q.1 q.2
theorem cast_pos {n : Int} (h : 0 < n) : (0 : Rat) < (n : Rat) := by exact_mod_cast h
theorem den_ne (q : Rat) : (q.den : Rat) ≠ 0 := by exact_mod_cast q.den_nz
theorem num_den (q : Rat) : q * (q.den : Rat) = (q.num : Rat) := by
  have h := Rat.num_divInt_den q
  rw [Rat.divInt_eq_div] at h
  have h : (q.num : Rat) / (q.den : Rat) = q := h
  have := den_ne q
  have e := Rat.div_mul_cancel (a := (q.num : Rat)) this
  rwa [h] at e
theorem divInt_of {q : Rat} {n d : Int} (hd : 0 < d) (h : q * (d : Rat) = (n : Rat)) : q = Rat.divInt n d := by
  rw [Rat.divInt_eq_div]
  have := cast_pos hd
  grind
theorem LinP.at {K S : Nat} {b t : Rat} {p : Pc} (h : LinP K b p) (z : SzQ S t) : SzQ (K + S + 1) (onP b p t) := by
  obtain ⟨α, β, γ, g, za, zb, zg, e⟩ := h
  have hd : 0 < γ * (t.den : Int) := Int.mul_pos g (by have := t.den_pos; omega)
  have : onP b p t = Rat.divInt (α * t.num + β * t.den) (γ * t.den) := divInt_of hd (by
    rw [e]
    have g' := cast_pos g
    have n := num_den t
    push_cast
    have : (γ : Rat) ≠ 0 := by grind
    generalize (t.den : Rat) = d at *
    generalize (t.num : Rat) = m at *
    rw [← n]
    grind)
  rw [this]
  exact .divInt (by omega) (((za.mul z.1).add (zb.mul z.2)).mono (by omega)) ((zg.mul z.2).mono (by omega))
theorem LinP.same {K : Nat} {b b' : Rat} {p p' : Pc} (h : LinP K b p) (e : ∀ t, onP b' p' t = onP b p t) : LinP K b' p' := by
  obtain ⟨α, β, γ, g, za, zb, zg, e1⟩ := h
  exact ⟨α, β, γ, g, za, zb, zg, fun t => by rw [e, e1]⟩
theorem LinP.const {K : Nat} {b c : Rat} {p : Pc} (z : SzQ K c) (e : ∀ t, onP b p t = c) : LinP K b p := by
  refine ⟨0, c.num, c.den, by have := c.den_pos; omega, ?_, z.1, z.2, fun t => ?_⟩
  · have := z.1
    unfold Sz at *
    simp
    exact Nat.pow_pos (by decide)
  · rw [e]
    have n := num_den c
    have := den_ne c
    push_cast
    grind
theorem LinP.of {k : Nat} {b : Rat} {p : Pc} (zb : SzQ k b) (z : SzQ k p.1 ∧ SzQ k p.2.1 ∧ SzQ k p.2.2) (h : b ≤ p.1) : LinP (4 * k + 2) b p := by
  obtain ⟨e, l, u⟩ := p
  simp only at *
  by_cases c : e = b
  · refine (LinP.const (z.2.1.mono (by omega)) fun t => ?_)
    unfold onP
    rw [if_pos c]
  · have lt : b < e := by grind
    have hw : 0 < e.num * (b.den : Int) - b.num * e.den := by
      have := (Rat.lt_iff b e).mp lt
      omega
    have hlu : 0 < (l.den : Int) * u.den := Int.mul_pos (by have := l.den_pos; omega) (by have := u.den_pos; omega)
    refine ⟨(u.num * l.den - l.num * u.den) * (e.den * b.den), l.num * u.den * (e.num * b.den - b.num * e.den) - (u.num * l.den - l.num * u.den) * (b.num * e.den), l.den * u.den * (e.num * b.den - b.num * e.den), Int.mul_pos hlu hw, ?_, ?_, ?_, fun t => ?_⟩
    · exact (((z.2.2.1.mul z.2.1.2).sub (z.2.1.1.mul z.2.2.2)).mul (z.1.2.mul zb.2)).mono (by omega)
    · exact (((z.2.1.1.mul z.2.2.2).mul ((z.1.1.mul zb.2).sub (zb.1.mul z.1.2))).sub (((z.2.2.1.mul z.2.1.2).sub (z.2.1.1.mul z.2.2.2)).mul (zb.1.mul z.1.2))).mono (by omega)
    · exact ((z.2.1.2.mul z.2.2.2).mul ((z.1.1.mul zb.2).sub (zb.1.mul z.1.2))).mono (by omega)
    · unfold onP
      simp only
      rw [if_neg c]
      have n1 := num_den e
      have n2 := num_den b
      have n3 := num_den l
      have n4 := num_den u
      have d1 := den_ne e
      have d2 := den_ne b
      have d3 := den_ne l
      have d4 := den_ne u
      push_cast
      rw [← n1, ← n2, ← n3, ← n4]
      generalize (e.den : Rat) = de at *
      generalize (b.den : Rat) = db at *
      generalize (l.den : Rat) = dl at *
      generalize (u.den : Rat) = du at *
      have : e - b ≠ 0 := by grind
      have f1 : l * dl * du * (e * de * db - b * db * de) - (u * du * dl - l * dl * du) * (b * db * de) = (de * db * dl * du) * (l * (e - b) - (u - l) * b) := by grind
      have f2 : dl * du * (e * de * db - b * db * de) = (de * db * dl * du) * (e - b) := by grind
      have f3 : (u * du * dl - l * dl * du) * (de * db) = (de * db * dl * du) * (u - l) := by grind
      rw [f1, f2, f3]
      have d5 : de * db * dl * du ≠ 0 := by
        intro w
        rcases Rat.mul_eq_zero.mp w with w | w
        · rcases Rat.mul_eq_zero.mp w with w | w
          · rcases Rat.mul_eq_zero.mp w with w | w
            · exact d1 w
            · exact d2 w
          · exact d3 w
        · exact d4 w
      generalize de * db * dl * du = m at *
      generalize e - b = x at *
      have d6 : m * x ≠ 0 := by
        intro w
        rcases Rat.mul_eq_zero.mp w with w | w
        · exact d5 w
        · exact this w
      grind
theorem pairs_mom {k : Nat} {r : List Pc} (hr : RowR k r) {q : Rat × Pc} (hq : q ∈ pairsB 0 r) : q.2.1 = q.1 → q.2.2.1 = q.2.2.2 := fun e => by
  cases r with
  | nil => simp [pairsB] at hq
  | cons p r =>
    rcases List.mem_cons.mp hq with rfl | hq
    · exact hr.2 p rfl e
    · obtain ⟨h1, h2, h3, h4, h5, h6, h7⟩ := hr.1
      exfalso
      clear hr
      have key : ∀ {r : List Pc} {b a : Rat}, RowB k false b a r → q ∈ pairsB b r → q.1 < q.2.1 := by
        intro r
        induction r with
        | nil => intro b a _ h; simp [pairsB] at h
        | cons x r ih =>
          rintro b a ⟨g1, g2, g3, g4, g5, g6, g7⟩ h
          rcases List.mem_cons.mp h with rfl | h
          · rcases g1 with w | ⟨w, _⟩
            · exact w
            · cases w
          · exact ih g7 h
      have := key h7 hq
      grind
theorem leanF_lin {k K : Nat} {r : List Pc} (hr : RowR k r) (lr : LinR K r) : LinR K (leanF r) := by
  have key : ∀ r : List Pc, RowR k r → ∀ q ∈ pairsB 0 (leanF r), ∃ q' ∈ pairsB 0 r, ∀ t, onP q.1 q.2 t = onP q'.1 q'.2 t := fun r => snoc_rec (P := fun r => RowR k r → ∀ q ∈ pairsB 0 (leanF r), ∃ q' ∈ pairsB 0 r, ∀ t, onP q.1 q.2 t = onP q'.1 q'.2 t) (fun _ q hq => by simp [leanF, pairsB] at hq) (fun r p ih h q hq => by
    have inv := leanF_inv r h.pre
    have ihr := ih h.pre
    have mid := RowR.mid (pre := r) (post := []) (x := p) h
    rw [leanF_snoc] at hq
    rw [pairsB_app]
    have old : ∀ q' : Rat × Pc, (∃ q'' ∈ pairsB 0 r, ∀ t, onP q'.1 q'.2 t = onP q''.1 q''.2 t) → ∃ q'' ∈ pairsB 0 r ++ pairsB (endB 0 r) [p], ∀ t, onP q'.1 q'.2 t = onP q''.1 q''.2 t := fun q' ⟨q'', m, e⟩ => ⟨q'', List.mem_append_left _ m, e⟩
    generalize leanF r = L at *
    rcases List.eq_nil_or_concat L with rfl | ⟨f, a, rfl⟩
    · obtain rfl := inv.nil.mp rfl
      rw [leanStep_nil] at hq
      exact ⟨q, List.mem_append_right _ hq, fun _ => rfl⟩
    · rw [List.concat_eq_append] at *
      rw [leanStep_snoc] at hq
      have en : endB 0 r = a.1 := by rw [← inv.en, endB_app]; rfl
      have rn : r ≠ [] := fun w => by
        have := inv.nil.mpr w
        simp at this
      split at hq
      · rename_i st
        rw [pairsB_app] at hq
        rcases List.mem_append.mp hq with hq | hq
        · exact old q (ihr q (by rw [pairsB_app]; exact List.mem_append_left _ hq))
        · simp only [pairsB, List.mem_singleton] at hq
          subst hq
          refine ⟨(a.1, p), List.mem_append_right _ (by rw [en]; simp [pairsB]), fun t => ?_⟩
          have ra : RowR k (f ++ a :: []) := inv.row
          unfold strt at st
          rw [Bool.and_eq_true, Bool.or_eq_true, decide_eq_true_eq, decide_eq_true_eq, decide_eq_true_eq] at st
          obtain ⟨s1, s2⟩ := st
          have lt : a.1 < p.1 := by
            obtain ⟨r1, r2⟩ := (RowB_app _ _ _ _ _).mp h.1
            obtain ⟨g1, _⟩ := r2
            rw [en] at g1
            rcases g1 with w | ⟨w, _⟩
            · exact w
            · cases r with
              | nil => exact (rn rfl).elim
              | cons _ _ => simp at w
          have ge : endB 0 f ≤ a.1 := by
            obtain ⟨r1, r2⟩ := (RowB_app _ _ _ _ _).mp inv.row.1
            obtain ⟨g1, _⟩ := r2
            rcases g1 with w | ⟨_, w⟩ <;> grind
          have ma : a.1 = endB 0 f → a.2.1 = a.2.2 := fun w => pairs_mom inv.row (q := (endB 0 f, a)) (by rw [pairsB_app]; exact List.mem_append_right _ (by simp [pairsB])) w
          unfold riseP at s2
          show onP (endB 0 f) (p.1, a.2.1, p.2.2) t = onP a.1 p t
          unfold onP
          simp only
          rw [if_neg (by grind), if_neg (by grind)]
          have d1 : p.1 - a.1 ≠ 0 := by grind
          have d2 : p.1 - endB 0 f ≠ 0 := by grind
          rcases s2 with w | w
          · have := ma w
            rw [← w]
            grind
          · by_cases c : a.1 = endB 0 f
            · have := ma c
              rw [← c]
              grind
            · have d3 : a.1 - endB 0 f ≠ 0 := by grind
              grind
      · have ap : f ++ [a, p] = f ++ [a] ++ [p] := by simp
        rw [ap, pairsB_app] at hq
        rcases List.mem_append.mp hq with hq | hq
        · exact old q (ihr q hq)
        · rw [inv.en] at hq
          exact ⟨q, List.mem_append_right _ hq, fun _ => rfl⟩) r
  intro q hq
  obtain ⟨q', m, e⟩ := key r hr q hq
  exact (lr q' m).same e
end DL
namespace DL
open PySem PySem.Spec L2
def PrD (q : Rat × Rat) : D := .tup [FQ q.1, FQ q.2]
def begL : Rat → List Rat → List (Rat × Rat)
  | _, [] => []
  | b, e :: l => (b, e) :: begL e l
theorem begL_len : ∀ (l : List Rat) (b : Rat), (begL b l).length = l.length
  | [], _ => rfl
  | e :: l, b => by rw [begL, List.length_cons, List.length_cons, begL_len l e]
section
variable {h : Hd} {n m : Nat} {l : List Rat} {b : Rat} {q : Rat × Rat}
instance lw_PrD : Lw h (PrD q) := ⟨by unfold PrD; rw [lo_tup]; simp only [lo_cons, lo_nil, lo_FQ]; rfl⟩
theorem dIx_PrD1_I : dIx (PrD q) (.int 1) h = .ok (FQ q.2) h := dIx_t.trans (by rw [at_1]; rfl)
def QdD (q : Rat × Pc) : D := .tup [FQ q.1, FQ q.2.1, FQ q.2.2.1, FQ q.2.2.2]
theorem dIx_Qd0_I {q : Rat × Pc} : dIx (QdD q) (.int 0) h = .ok (FQ q.1) h := dIx_t.trans (by rw [at_0]; rfl)
theorem dIx_Qd1_I {q : Rat × Pc} : dIx (QdD q) (.int 1) h = .ok (FQ q.2.1) h := dIx_t.trans (by rw [at_1]; rfl)
theorem is_PrD_I {neg : Bool} {q : Rat × Rat} : isD neg (PrD q) .non h = .ok (.bl (neg ^^ false)) h := rfl
end
theorem insU_at {x : Rat} : ∀ {A B : List Rat}, (A ++ B).Pairwise (· < ·) → (∀ z ∈ A, z ≤ x) → (∀ z ∈ B, x < z) → insU (A ++ B) x = if A.getLast? = some x then A ++ B else A ++ x :: B
  | [], B, _, _, hB => by
    cases B with
    | nil => rfl
    | cons y B =>
      have := hB y (by simp)
      show insU (y :: B) x = _
      unfold insU
      rw [if_pos this]
      rfl
  | y :: A, B, hs, hA, hB => by
    have hy := hA y (by simp)
    have hs' := List.pairwise_cons.mp (show (y :: (A ++ B)).Pairwise (· < ·) from hs)
    show insU (y :: (A ++ B)) x = _
    unfold insU
    rw [if_neg (by grind)]
    by_cases c : x = y
    · rw [if_pos c]
      have : A = [] := by
        cases A with
        | nil => rfl
        | cons z A =>
          have h1 := hs'.1 z (by simp)
          have h2 := hA z (by simp)
          grind
      subst this
      rw [if_pos (by rw [c]; rfl)]
      rfl
    · rw [if_neg c, insU_at hs'.2 (fun z hz => hA z (by simp [hz])) hB]
      cases A with
      | nil =>
        rw [if_neg (by simp), if_neg (by simp; exact fun w => c w.symm)]
        rfl
      | cons z A =>
        rw [List.getLast?_cons_cons]
        split <;> rfl
theorem pieceW_app {t : Rat} : ∀ {pre : List Pc} {b : Rat} {post : List Pc}, (∀ p ∈ pre, p.1 < t) → pieceW b (pre ++ post) t = pieceW (endB b pre) post t
  | [], _, _, _ => rfl
  | p :: pre, b, post, h => by
    show (if p.1 < t then pieceW p.1 (pre ++ post) t else some (b, p)) = _
    rw [if_pos (h p (by simp))]
    exact pieceW_app fun q hq => h q (by simp [hq])
section
variable {h : Hd} {n m : Nat} {r s : List Pc} {p q : Pc} {e : Rat} {x : Rat × Rat} {α : Type} {f : α → D} {l : List α} {a b c : α}
theorem neP_nil0_I [q1 : Ls h n []] [q2 : Ls h m []] : dNe (.ref n) (.ref m) h = .ok (.bl false) h := by
  show dEqn true _ _ h = _
  rw [eqn_lst (k := 2) (by decide) rfl rfl]
  simp
end
theorem rowOn_begL (F : Rat → Rat → Rat × Rat) : ∀ (L : List Rat) (b : Rat), rowOn F b L = (begL b L).map fun q => (q.2, F q.1 q.2)
  | [], _ => rfl
  | e :: L, b => by rw [rowOn, begL, List.map_cons, rowOn_begL F L e]
theorem insU_len {x : Rat} : ∀ l : List Rat, (insU l x).length ≤ l.length + 1
  | [] => by simp [insU]
  | y :: l => by
    unfold insU
    split
    · simp
    · split
      · simp
      · have := insU_len (x := x) l
        simp
        exact this
theorem inTurn_len (M : List Rat) : (inTurn M).length ≤ M.length := by
  unfold inTurn
  have key : ∀ (M l : List Rat), (M.foldl insU l).length ≤ l.length + M.length := by
    intro M
    induction M with
    | nil => intro l; simp
    | cons x M ih =>
      intro l
      have := ih (insU l x)
      have := insU_len (x := x) l
      rw [List.foldl_cons, List.length_cons]
      omega
  have := key M []
  simpa using this
end DL
namespace DL
open PySem PySem.Spec L2
section
variable {c : PS} {m : Int}
end
end DL
namespace DL
open PySem PySem.Spec L2
theorem divInt_iff {a b d : Int} (h : 1 ≤ d) : Rat.divInt a d = Rat.divInt b d ↔ a = b := by
  constructor
  · intro e
    have h1 := (divInt_le (a := a) (b := b) h).mp (by rw [e]; exact Rat.le_refl)
    have h2 := (divInt_le (a := b) (b := a) h).mp (by rw [e]; exact Rat.le_refl)
    omega
  · intro e
    rw [e]
theorem cross {p q r s : Rat} (hq : q ≠ 0) (hs : s ≠ 0) : p / q = r / s ↔ p * s = r * q := by
  constructor
  · intro e
    have h1 := Rat.div_mul_cancel (a := p) hq
    have h2 := Rat.div_mul_cancel (a := r) hs
    grind
  · intro e
    have h1 := Rat.div_mul_cancel (a := p) hq
    have h2 := Rat.div_mul_cancel (a := r) hs
    grind
end DL
namespace DL
open PySem PySem.Spec L2
structure Good (k K n : Nat) (r : List Pc) : Prop where
  row : RowR k r
  lean : leanB 0 r = true
  lin : LinR K r
  len : r.length ≤ n
end DL
namespace DL
open PySem PySem.Spec L2
end DL
namespace DL
open PySem PySem.Spec L2
def aheadN : Option (Rat × Rat) → Option (Rat × Rat) → Bool
  | _, none => false
  | none, some _ => true
  | some x, some y => decide (y.1 < x.1) || decide (y.2 < x.2)
def crossAt (b e : Rat) (f g : Rat × Rat) : Rat := b + (e - b) * ((g.1 - f.1) / ((g.1 - f.1) + (f.2 - g.2)))
def crossL (b e : Rat) (x y : Rat × Rat) : List Rat :=
  if x.1 < y.1 ∧ y.2 < x.2 then [crossAt b e x y] else if y.1 < x.1 ∧ x.2 < y.2 then [crossAt b e y x] else []
def lesserPart (r s : List Pc) (lo hi : Rat) : Bool × (Rat × Rat) := (aheadN (onPart r lo hi) (onPart s lo hi), if aheadN (onPart r lo hi) (onPart s lo hi) = true then (onPart s lo hi).getD (0, 0) else (onPart r lo hi).getD (0, 0))
def cutsOf (r s : List Pc) (b e : Rat) : List Rat := match onPart r b e, onPart s b e with
  | some x, some y => crossL b e x y
  | _, _ => []
abbrev Qu := Rat × Bool × Rat × Rat
def partOf (r s : List Pc) (p : Rat × Rat) : Qu := (p.2, lesserPart r s p.1 p.2)
def partsOf (r s : List Pc) (L : List (Rat × Rat)) : List Qu := L.flatMap fun q => (begL q.1 (cutsOf r s q.1 q.2 ++ [q.2])).map (partOf r s)
def partsF (r s : List Pc) : List Qu := partsOf r s (begL 0 (inTurn (r.map (·.1) ++ s.map (·.1))))
theorem cross_mid {b e : Rat} {f g : Rat × Rat} (hb : b < e) (h1 : f.1 < g.1) (h2 : g.2 < f.2) : b < crossAt b e f g ∧ crossAt b e f g < e := by
  unfold crossAt
  have hd : 0 < (g.1 - f.1) + (f.2 - g.2) := by grind
  have hx : 0 < g.1 - f.1 := by grind
  have p1 : 0 < (g.1 - f.1) / ((g.1 - f.1) + (f.2 - g.2)) := by
    rw [Rat.lt_div_iff hd]
    grind
  have p2 : (g.1 - f.1) / ((g.1 - f.1) + (f.2 - g.2)) < 1 := by
    rw [Rat.div_lt_iff hd]
    grind
  have m1 := Rat.mul_lt_mul_of_pos_left p1 (show 0 < e - b by grind)
  have m2 := Rat.mul_lt_mul_of_pos_left p2 (show 0 < e - b by grind)
  constructor <;> grind
theorem cross_line {b e α β γ α' β' γ' : Rat} {f g : Rat × Rat} (hb : b < e) (h1 : f.1 < g.1) (h2 : g.2 < f.2) (hγ : γ ≠ 0) (hγ' : γ' ≠ 0)
    (e1 : f.1 = (α * b + β) / γ) (e2 : f.2 = (α * e + β) / γ) (e3 : g.1 = (α' * b + β') / γ') (e4 : g.2 = (α' * e + β') / γ') :
    crossAt b e f g * (α * γ' - α' * γ) = β' * γ - β * γ' := by
  have hd : (g.1 - f.1) + (f.2 - g.2) ≠ 0 := by grind
  have hc : (crossAt b e f g - b) * ((g.1 - f.1) + (f.2 - g.2)) = (e - b) * (g.1 - f.1) := by
    unfold crossAt
    have := Rat.div_mul_cancel (a := g.1 - f.1) hd
    grind
  have k1 : f.1 * γ = α * b + β := by rw [e1, Rat.div_mul_cancel hγ]
  have k2 : f.2 * γ = α * e + β := by rw [e2, Rat.div_mul_cancel hγ]
  have k3 : g.1 * γ' = α' * b + β' := by rw [e3, Rat.div_mul_cancel hγ']
  have k4 : g.2 * γ' = α' * e + β' := by rw [e4, Rat.div_mul_cancel hγ']
  have key : ((g.1 - f.1) + (f.2 - g.2)) * (γ * γ') = (e - b) * (α * γ' - α' * γ) := by grind
  have key2 : (g.1 - f.1) * (γ * γ') = b * (α' * γ - α * γ') + (β' * γ - β * γ') := by grind
  have key3 : (crossAt b e f g - b) * ((e - b) * (α * γ' - α' * γ)) = (e - b) * (b * (α' * γ - α * γ') + (β' * γ - β * γ')) := by
    rw [← key, ← key2]
    grind
  have he : e - b ≠ 0 := by grind
  have key4 : (e - b) * ((crossAt b e f g - b) * (α * γ' - α' * γ) - (b * (α' * γ - α * γ') + (β' * γ - β * γ'))) = 0 := by grind
  have key5 := (Rat.mul_eq_zero.mp key4).resolve_left he
  grind
theorem cross_sz {K : Nat} {b e b1 b2 : Rat} {p q : Pc} (hp : LinP K b1 p) (hq : LinP K b2 q) (hb : b < e) (h1 : onP b1 p b < onP b2 q b) (h2 : onP b2 q e < onP b1 p e) :
    SzQ (2 * K + 1) (crossAt b e (onP b1 p b, onP b1 p e) (onP b2 q b, onP b2 q e)) := by
  obtain ⟨α, β, γ, g0, za, zb, zg, ep⟩ := hp
  obtain ⟨α', β', γ', g0', za', zb', zg', eq⟩ := hq
  have c0 := cast_pos g0
  have c0' := cast_pos g0'
  have cl := cross_line (α := (α : Rat)) (β := (β : Rat)) (γ := (γ : Rat)) (α' := (α' : Rat)) (β' := (β' : Rat)) (γ' := (γ' : Rat)) (f := (onP b1 p b, onP b1 p e)) (g := (onP b2 q b, onP b2 q e)) hb h1 h2 (by grind) (by grind) (ep b) (ep e) (eq b) (eq e)
  generalize crossAt b e (onP b1 p b, onP b1 p e) (onP b2 q b, onP b2 q e) = c at *
  have pos : 0 < α * γ' - α' * γ := by
    have k1 : onP b1 p b * (γ : Rat) = α * b + β := by rw [ep b, Rat.div_mul_cancel (by grind)]
    have k2 : onP b1 p e * (γ : Rat) = α * e + β := by rw [ep e, Rat.div_mul_cancel (by grind)]
    have k3 : onP b2 q b * (γ' : Rat) = α' * b + β' := by rw [eq b, Rat.div_mul_cancel (by grind)]
    have k4 : onP b2 q e * (γ' : Rat) = α' * e + β' := by rw [eq e, Rat.div_mul_cancel (by grind)]
    have key : ((onP b2 q b - onP b1 p b) + (onP b1 p e - onP b2 q e)) * ((γ : Rat) * γ') = (e - b) * ((α : Rat) * γ' - α' * γ) := by grind
    have m := Rat.mul_pos (show (0 : Rat) < (onP b2 q b - onP b1 p b) + (onP b1 p e - onP b2 q e) by grind) (Rat.mul_pos c0 c0')
    rw [key] at m
    have he : (0 : Rat) < e - b := by grind
    have : (0 : Rat) < (α : Rat) * γ' - α' * γ := by
      refine Rat.not_le.mp fun w => ?_
      have := Rat.mul_le_mul_of_nonneg_left w (Rat.le_of_lt he)
      grind
    exact_mod_cast this
  have cl2 : c * ((α * γ' - α' * γ : Int) : Rat) = ((β' * γ - β * γ' : Int) : Rat) := by
    rw [Rat.intCast_sub, Rat.intCast_sub, Rat.intCast_mul, Rat.intCast_mul, Rat.intCast_mul, Rat.intCast_mul]
    exact cl
  rw [divInt_of pos cl2]
  have s1 := (Sz.mul za zg').sub (Sz.mul za' zg)
  have s2 := (Sz.mul zb' zg).sub (Sz.mul zb zg')
  exact .divInt (by omega) (s2.mono (by omega)) (s1.mono (by omega))
theorem part_some {k : Nat} {r : List Pc} {b e : Rat} {p : Pc} (hr : RowR k r) (hp : p ∈ r) (he : e ≤ p.1) : (onPart r b e).isSome = true := by
  have hn : r ≠ [] := fun w => by subst w; cases hp
  obtain ⟨q, hq⟩ := cm_end hr.1 hn (show e ≤ endB 0 r from Rat.le_trans he (ends_le hr.1 p hp).2)
  unfold onPart
  rw [hq]
  rfl
theorem piece_same {k : Nat} {r : List Pc} {b c e : Rat} {q : Rat × Pc} (hr : RowR k r) (hq : pieceW 0 r e = some q) (h1 : q.1 ≤ b) (h2 : b < c) (h3 : c ≤ e) : pieceW 0 r c = some q := by
  obtain ⟨m, t⟩ := pieceW_mem hq
  exact pieceW_same hr.1 m (by grind) (by grind)
theorem crossL_len {b e : Rat} {x y : Rat × Rat} : (crossL b e x y).length ≤ 1 := by
  unfold crossL
  split
  · exact Nat.le_refl _
  · split <;> simp
theorem cutsOf_len {r s : List Pc} {b e : Rat} : (cutsOf r s b e).length ≤ 1 := by
  unfold cutsOf
  split
  · exact crossL_len
  · simp
theorem partsOf_len {r s : List Pc} : ∀ L : List (Rat × Rat), (partsOf r s L).length ≤ 2 * L.length
  | [] => Nat.le_refl _
  | q :: L => by
    have h1 := partsOf_len (r := r) (s := s) L
    have h2 := cutsOf_len (r := r) (s := s) (b := q.1) (e := q.2)
    have e : partsOf r s (q :: L) = (begL q.1 (cutsOf r s q.1 q.2 ++ [q.2])).map (partOf r s) ++ partsOf r s L := rfl
    rw [e, List.length_append, List.length_map, begL_len, List.length_append, List.length_singleton, List.length_cons]
    omega
def lesserRow (r s : List Pc) : List Pc := (partsF r s).map fun q => (q.1, q.2.2.1, q.2.2.2)
def lesserF (r s : List Pc) : List Pc := leanF (lesserRow r s)
theorem partsF_len {r s : List Pc} : (partsF r s).length ≤ 2 * (r.length + s.length) := by
  unfold partsF
  refine Nat.le_trans (partsOf_len _) ?_
  rw [begL_len]
  have := inTurn_len (r.map (·.1) ++ s.map (·.1))
  rw [List.length_append, List.length_map, List.length_map] at this
  omega
end DL
namespace DL
open PySem PySem.Spec L2
def minO : Option Rat → Option Rat → Option Rat
  | none, y => y
  | some x, none => some x
  | some x, some y => some (if y < x then y else x)
def lesG (r s : List Pc) (t : Rat) : Option Rat := minO (cm 0 r t) (cm 0 s t)
theorem Fits_app {G : Rat → Option Rat} {k : Nat} : ∀ {xs ys : List Pc} {f : Bool} {b : Rat}, Fits G k f b xs → Fits G k (f && xs.isEmpty) (endB b xs) ys → Fits G k f b (xs ++ ys)
  | [], ys, f, b, _, h => by simpa [endB] using h
  | p :: xs, ys, f, b, ⟨h1, h2, h3, h4, h5⟩, h => ⟨h1, h2, h3, h4, Fits_app (f := false) h5 (by simpa [endB] using h)⟩
structure CoOk (r : List Pc) (f : Bool) (b e : Rat) : Prop where
  pc : ∀ p, pieceW 0 r e = some p → p.1 ≤ b
  no : pieceW 0 r e = none → ∀ x ∈ r, x.1 ≤ b
  fi : f = true → b = 0 ∧ ∀ x ∈ r, e ≤ x.1
theorem CoOk.cm {k : Nat} {r : List Pc} {f : Bool} {b e t : Rat} (hr : RowR k r) (c : CoOk r f b e) (be : b ≤ e) (b0 : 0 ≤ b) (h : Beh f b t) (ht : t ≤ e) : DL.cm 0 r t = (pieceW 0 r e).map fun p => onP p.1 p.2 t := by
  have bt : b ≤ t := by rcases h with w | ⟨_, w⟩ <;> grind
  cases hp : pieceW 0 r e with
  | none =>
    show DL.cm 0 r t = none
    cases hc : DL.cm 0 r t with
    | none => rfl
    | some v =>
      exfalso
      have h1 := cm_some hr.1 hc
      have hn : r ≠ [] := fun w => by subst w; cases hc
      obtain ⟨p, hm, ep⟩ := endB_mem (b := 0) hn
      have h2 := c.no hp p hm
      rcases h with w | ⟨hf, w⟩
      · grind
      · obtain ⟨z, hx⟩ := c.fi hf
        have h3 := hx p hm
        obtain ⟨q, hq⟩ := cm_end hr.1 hn (show e ≤ endB 0 r by grind)
        rw [hp] at hq
        cases hq
  | some p =>
    show DL.cm 0 r t = some _
    rcases h with w | ⟨hf, w⟩
    · exact cm_at (piece_same hr hp (c.pc p hp) w ht)
    · obtain ⟨z, hx⟩ := c.fi hf
      rcases pieceW_beg hp with ⟨e1, e2⟩ | ⟨x, hm, e1, e2⟩
      · obtain ⟨m, t2⟩ := pieceW_mem hp
        cases r with
        | nil => cases e2
        | cons y r =>
          cases e2
          refine cm_at ?_
          rw [pieceW_head (by grind)]
          congr 1
          rw [← e1]
      · have := hx x hm
        grind
theorem CoOk.cut {k : Nat} {r : List Pc} {f : Bool} {b c e : Rat} {p : Rat × Pc} (hr : RowR k r) (o : CoOk r f b e) (hp : pieceW 0 r e = some p) (h1 : b < c) (h2 : c < e) : CoOk r f b c ∧ CoOk r false c e := by
  have h3 := piece_same hr hp (o.pc p hp) h1 (by grind)
  refine ⟨⟨fun q hq => ?_, fun hq => ?_, fun hf => ?_⟩, ⟨fun q hq => ?_, fun hq => ?_, fun hf => by cases hf⟩⟩
  · rw [h3] at hq; cases hq; exact o.pc p hp
  · rw [h3] at hq; cases hq
  · obtain ⟨z, hx⟩ := o.fi hf
    exact ⟨z, fun x hm => by have := hx x hm; grind⟩
  · rw [hp] at hq; cases hq; have := o.pc p hp; grind
  · rw [hp] at hq; cases hq
def lesP (r s : List Pc) (lo hi : Rat) : Rat × Rat := (lesserPart r s lo hi).2
theorem onP_part {b e t : Rat} {p : Rat × Pc} (h : e = b → t = b) : onP b (e, onP p.1 p.2 b, onP p.1 p.2 e) t = onP p.1 p.2 t := by
  obtain ⟨A, B, aff⟩ := onP_isAff p.1 p.2
  rw [aff, aff, aff]
  exact onP_of_aff h
theorem aff_le {p q : Rat × Pc} {b e t : Rat} (h1 : onP p.1 p.2 b ≤ onP q.1 q.2 b) (h2 : onP p.1 p.2 e ≤ onP q.1 q.2 e) (hb : b ≤ t) (he : t ≤ e) : onP p.1 p.2 t ≤ onP q.1 q.2 t := by
  obtain ⟨A, B, a1⟩ := onP_isAff p.1 p.2
  obtain ⟨A', B', a2⟩ := onP_isAff q.1 q.2
  rw [a1, a2] at *
  by_cases c : b = e
  · have : t = b := by grind
    subst this
    exact h1
  · have lt : 0 < e - b := by grind
    have m1 := Rat.mul_le_mul_of_nonneg_left h1 (show 0 ≤ e - t by grind)
    have m2 := Rat.mul_le_mul_of_nonneg_left h2 (show 0 ≤ t - b by grind)
    have m3 : (e - b) * (A + B * t) ≤ (e - b) * (A' + B' * t) := by grind
    exact Rat.not_lt.mp fun w => by
      have := Rat.mul_lt_mul_of_pos_left w lt
      grind
def WhoOk (r s : List Pc) (w : Bool) (t : Rat) : Prop := if w = true then ∃ v, cm 0 s t = some v ∧ ∀ u, cm 0 r t = some u → v ≤ u else ∃ v, cm 0 r t = some v ∧ ∀ u, cm 0 s t = some u → v ≤ u
structure LesPart (K Z : Nat) (r s : List Pc) (f : Bool) (b e : Rat) : Prop where
  z : SzQ (K + Z + 1) (lesP r s b e).1 ∧ SzQ (K + Z + 1) (lesP r s b e).2
  mom : e = b → (lesP r s b e).1 = (lesP r s b e).2
  lin : LinP K b (e, lesP r s b e)
  cm : ∀ t, Beh f b t → t ≤ e → lesG r s t = some (onP b (e, lesP r s b e) t)
  who : ∀ t, Beh f b t → t ≤ e → WhoOk r s (lesserPart r s b e).1 t
theorem LesPart.of {K Z : Nat} {r s : List Pc} {f : Bool} {b e : Rat} {p : Rat × Pc} (be : b ≤ e) (fb : f = false → b < e) (ef : f = true → b = 0) (zb : SzQ Z b) (ze : SzQ Z e) (lp : LinP K p.1 p.2) (h : lesP r s b e = (onP p.1 p.2 b, onP p.1 p.2 e)) (hc : ∀ t, Beh f b t → t ≤ e → lesG r s t = some (onP p.1 p.2 t)) (hw : ∀ t, Beh f b t → t ≤ e → WhoOk r s (lesserPart r s b e).1 t) : LesPart K Z r s f b e := by
  refine ⟨?_, fun w => ?_, ?_, fun t ht te => ?_, hw⟩
  · rw [h]; exact ⟨lp.at zb, lp.at ze⟩
  · rw [h, w]
  · rw [h]
    by_cases c : e = b
    · subst c
      have b0 : e = 0 := ef (by
        cases f with
        | true => rfl
        | false => have := fb rfl; grind)
      obtain ⟨α, β, γ, g, za, zb, zg, e1⟩ := lp
      have hz : Sz K (0 : Int) := by unfold Sz; simp; exact Nat.pow_pos (by decide)
      refine ⟨0, β, γ, g, hz, zb, zg, fun t => ?_⟩
      unfold onP
      rw [if_pos rfl]
      show onP p.1 p.2 e = _
      rw [e1, b0]
      have := cast_pos g
      push_cast
      grind
    · exact lp.same fun t => onP_part fun w => (c w).elim
  · rw [h, onP_part (fun w => by rcases ht with w2 | ⟨_, w2⟩ <;> grind), hc t ht te]
theorem lesPart_ok {k l K Z : Nat} {r s : List Pc} {f : Bool} {b e : Rat} (hr : RowR k r) (hs : RowR l s) (lr : LinR K r) (ls : LinR K s) (b0 : 0 ≤ b) (be : b ≤ e) (fb : f = false → b < e) (zb : SzQ Z b) (ze : SzQ Z e) (c1 : CoOk r f b e) (c2 : CoOk s f b e)
    (sm : (onPart r b e).isSome = true ∨ (onPart s b e).isSome = true)
    (nc : ∀ x y, onPart r b e = some x → onPart s b e = some y → ¬ (x.1 < y.1 ∧ y.2 < x.2) ∧ ¬ (y.1 < x.1 ∧ x.2 < y.2)) : LesPart K Z r s f b e := by
  have ef : f = true → b = 0 := fun w => (c1.fi w).1
  cases h1 : pieceW 0 r e with
  | none =>
    cases h2 : pieceW 0 s e with
    | none => exfalso; unfold onPart at sm; rw [h1, h2] at sm; simp at sm
    | some q =>
      have lq := ls q (pieceW_mem h2).1
      refine LesPart.of be fb ef zb ze lq ?_ (fun t ht te => ?_) fun t ht te => ?_
      · unfold lesP lesserPart onPart
        rw [h1, h2]
        rfl
      · unfold lesG
        rw [c1.cm hr be b0 ht te, c2.cm hs be b0 ht te, h1, h2]
        rfl
      · have ew : (lesserPart r s b e).1 = true := by unfold lesserPart onPart; rw [h1, h2]; rfl
        unfold WhoOk
        rw [ew, if_pos rfl, c1.cm hr be b0 ht te, c2.cm hs be b0 ht te, h1, h2]
        exact ⟨_, rfl, fun u hu => by cases hu⟩
  | some p =>
    have lp := lr p (pieceW_mem h1).1
    cases h2 : pieceW 0 s e with
    | none =>
      refine LesPart.of be fb ef zb ze lp ?_ (fun t ht te => ?_) fun t ht te => ?_
      · unfold lesP lesserPart onPart
        rw [h1, h2]
        rfl
      · unfold lesG
        rw [c1.cm hr be b0 ht te, c2.cm hs be b0 ht te, h1, h2]
        rfl
      · have ew : (lesserPart r s b e).1 = false := by unfold lesserPart onPart; rw [h1, h2]; rfl
        unfold WhoOk
        rw [ew, if_neg (by simp), c1.cm hr be b0 ht te, c2.cm hs be b0 ht te, h1, h2]
        exact ⟨_, rfl, fun u hu => by cases hu⟩
    | some q =>
      have lq := ls q (pieceW_mem h2).1
      have o1 : onPart r b e = some (onP p.1 p.2 b, onP p.1 p.2 e) := by unfold onPart; rw [h1]; rfl
      have o2 : onPart s b e = some (onP q.1 q.2 b, onP q.1 q.2 e) := by unfold onPart; rw [h2]; rfl
      obtain ⟨n1, n2⟩ := nc _ _ o1 o2
      simp only at n1 n2
      by_cases c : onP q.1 q.2 b < onP p.1 p.2 b ∨ onP q.1 q.2 e < onP p.1 p.2 e
      · refine LesPart.of be fb ef zb ze lq ?_ (fun t ht te => ?_) fun t ht te => ?_
        · unfold lesP lesserPart
          rw [o1, o2]
          have : aheadN (some (onP p.1 p.2 b, onP p.1 p.2 e)) (some (onP q.1 q.2 b, onP q.1 q.2 e)) = true := by
            unfold aheadN
            simp only [Bool.or_eq_true, decide_eq_true_eq]
            exact c
          rw [this]
          rfl
        · unfold lesG
          rw [c1.cm hr be b0 ht te, c2.cm hs be b0 ht te, h1, h2]
          show some (if onP q.1 q.2 t < onP p.1 p.2 t then onP q.1 q.2 t else onP p.1 p.2 t) = _
          have bt : b ≤ t := by rcases ht with w | ⟨_, w⟩ <;> grind
          have := aff_le (p := q) (q := p) (b := b) (e := e) (t := t) (by grind) (by grind) bt te
          congr 1
          split <;> grind
        · have ew : (lesserPart r s b e).1 = true := by
            unfold lesserPart
            rw [o1, o2]
            show (decide _ || decide _) = true
            rw [Bool.or_eq_true, decide_eq_true_eq, decide_eq_true_eq]
            exact c
          have bt : b ≤ t := by rcases ht with w | ⟨_, w⟩ <;> grind
          unfold WhoOk
          rw [ew, if_pos rfl, c1.cm hr be b0 ht te, c2.cm hs be b0 ht te, h1, h2]
          refine ⟨_, rfl, fun u hu => ?_⟩
          cases hu
          exact aff_le (p := q) (q := p) (b := b) (e := e) (t := t) (by grind) (by grind) bt te
      · refine LesPart.of be fb ef zb ze lp ?_ (fun t ht te => ?_) fun t ht te => ?_
        · unfold lesP lesserPart
          rw [o1, o2]
          have : aheadN (some (onP p.1 p.2 b, onP p.1 p.2 e)) (some (onP q.1 q.2 b, onP q.1 q.2 e)) = false := by
            unfold aheadN
            simp only [Bool.or_eq_false_iff, decide_eq_false_iff_not]
            exact ⟨fun w => c (.inl w), fun w => c (.inr w)⟩
          rw [this]
          rfl
        · unfold lesG
          rw [c1.cm hr be b0 ht te, c2.cm hs be b0 ht te, h1, h2]
          show some (if onP q.1 q.2 t < onP p.1 p.2 t then onP q.1 q.2 t else onP p.1 p.2 t) = _
          have bt : b ≤ t := by rcases ht with w | ⟨_, w⟩ <;> grind
          have := aff_le (p := p) (q := q) (b := b) (e := e) (t := t) (by grind) (by grind) bt te
          congr 1
          split <;> grind
        · have ew : (lesserPart r s b e).1 = false := by
            unfold lesserPart
            rw [o1, o2]
            show (decide _ || decide _) = false
            rw [Bool.or_eq_false_iff, decide_eq_false_iff_not, decide_eq_false_iff_not]
            exact ⟨fun w => c (.inl w), fun w => c (.inr w)⟩
          have bt : b ≤ t := by rcases ht with w | ⟨_, w⟩ <;> grind
          unfold WhoOk
          rw [ew, if_neg (by simp), c1.cm hr be b0 ht te, c2.cm hs be b0 ht te, h1, h2]
          refine ⟨_, rfl, fun u hu => ?_⟩
          cases hu
          exact aff_le (p := p) (q := q) (b := b) (e := e) (t := t) (by grind) (by grind) bt te
theorem cross_same {b e : Rat} {p q : Rat × Pc} (hb : b < e) (h1 : onP p.1 p.2 b < onP q.1 q.2 b) (h2 : onP q.1 q.2 e < onP p.1 p.2 e) :
    onP p.1 p.2 (crossAt b e (onP p.1 p.2 b, onP p.1 p.2 e) (onP q.1 q.2 b, onP q.1 q.2 e)) = onP q.1 q.2 (crossAt b e (onP p.1 p.2 b, onP p.1 p.2 e) (onP q.1 q.2 b, onP q.1 q.2 e)) := by
  obtain ⟨A, B, a1⟩ := onP_isAff p.1 p.2
  obtain ⟨A', B', a2⟩ := onP_isAff q.1 q.2
  rw [a1, a2] at *
  rw [a1, a2]
  unfold crossAt
  simp only
  rw [a1, a2]
  have hd : (A' + B' * b - (A + B * b)) + (A + B * e - (A' + B' * e)) ≠ 0 := by grind
  have hm := Rat.div_mul_cancel (a := A' + B' * b - (A + B * b)) hd
  generalize (A' + B' * b - (A + B * b)) / ((A' + B' * b - (A + B * b)) + (A + B * e - (A' + B' * e))) = m at *
  grind
def WFit (r s : List Pc) : Bool → Rat → List Qu → Prop
  | _, _, [] => True
  | f, b, q :: L => Beh f b q.1 ∧ (∀ t, Beh f b t → t ≤ q.1 → WhoOk r s q.2.1 t) ∧ WFit r s false q.1 L
def endQ (b : Rat) : List Qu → Rat
  | [] => b
  | q :: L => endQ q.1 L
theorem WFit_app {r s : List Pc} : ∀ {xs ys : List Qu} {f : Bool} {b : Rat}, WFit r s f b xs → WFit r s (f && xs.isEmpty) (endQ b xs) ys → WFit r s f b (xs ++ ys)
  | [], ys, f, b, _, h => by simpa [endQ] using h
  | p :: xs, ys, f, b, ⟨h1, h2, h5⟩, h => ⟨h1, h2, WFit_app (f := false) h5 (by simpa [endQ] using h)⟩
theorem co_fits {k l K Z : Nat} {r s : List Pc} {f : Bool} {b e : Rat} (hr : RowR k r) (hs : RowR l s) (lr : LinR K r) (ls : LinR K s) (hK : 2 * K + 1 ≤ Z) (b0 : 0 ≤ b) (be : b ≤ e) (fb : f = false → b < e) (zb : SzQ Z b) (ze : SzQ Z e) (c1 : CoOk r f b e) (c2 : CoOk s f b e)
    (sm : (onPart r b e).isSome = true ∨ (onPart s b e).isSome = true) :
    Fits (lesG r s) (K + Z + 1) f b (rowOn (lesP r s) b (cutsOf r s b e ++ [e])) ∧ (∀ q ∈ pairsB b (rowOn (lesP r s) b (cutsOf r s b e ++ [e])), LinP K q.1 q.2) ∧ WFit r s f b ((begL b (cutsOf r s b e ++ [e])).map (partOf r s)) := by
  have ef : f = true → b = 0 := fun w => (c1.fi w).1
  have beh : Beh f b e := by
    cases f with
    | true =>
      by_cases c : b < e
      · exact .inl c
      · exact .inr ⟨rfl, by grind⟩
    | false => exact .inl (fb rfl)
  have none : cutsOf r s b e = [] → (∀ x y, onPart r b e = some x → onPart s b e = some y → ¬ (x.1 < y.1 ∧ y.2 < x.2) ∧ ¬ (y.1 < x.1 ∧ x.2 < y.2)) → Fits (lesG r s) (K + Z + 1) f b (rowOn (lesP r s) b (cutsOf r s b e ++ [e])) ∧ (∀ q ∈ pairsB b (rowOn (lesP r s) b (cutsOf r s b e ++ [e])), LinP K q.1 q.2) ∧ WFit r s f b ((begL b (cutsOf r s b e ++ [e])).map (partOf r s)) := fun h nc => by
    have o := lesPart_ok hr hs lr ls b0 be fb zb ze c1 c2 sm nc
    rw [h]
    refine ⟨⟨beh, o.mom, ⟨ze.mono (by omega), o.z.1, o.z.2⟩, o.cm, trivial⟩, fun q hq => ?_, ⟨beh, o.who, trivial⟩⟩
    have : q = (b, (e, lesP r s b e)) := by simpa [rowOn, pairsB] using hq
    rw [this]
    exact o.lin
  cases h1 : pieceW 0 r e with
  | none => exact none (by unfold cutsOf onPart; rw [h1]; rfl) fun x y hx => by unfold onPart at hx; rw [h1] at hx; cases hx
  | some p =>
    cases h2 : pieceW 0 s e with
    | none => exact none (by unfold cutsOf onPart; rw [h1, h2]; rfl) fun x y _ hx => by unfold onPart at hx; rw [h2] at hx; cases hx
    | some q =>
      have o1 : onPart r b e = some (onP p.1 p.2 b, onP p.1 p.2 e) := by unfold onPart; rw [h1]; rfl
      have o2 : onPart s b e = some (onP q.1 q.2 b, onP q.1 q.2 e) := by unfold onPart; rw [h2]; rfl
      have ec : cutsOf r s b e = crossL b e (onP p.1 p.2 b, onP p.1 p.2 e) (onP q.1 q.2 b, onP q.1 q.2 e) := by unfold cutsOf; rw [o1, o2]
      have lp := lr p (pieceW_mem h1).1
      have lq := ls q (pieceW_mem h2).1
      have two : ∀ c, cutsOf r s b e = [c] → b < c → c < e → onP p.1 p.2 c = onP q.1 q.2 c → SzQ Z c → Fits (lesG r s) (K + Z + 1) f b (rowOn (lesP r s) b (cutsOf r s b e ++ [e])) ∧ (∀ q ∈ pairsB b (rowOn (lesP r s) b (cutsOf r s b e ++ [e])), LinP K q.1 q.2) ∧ WFit r s f b ((begL b (cutsOf r s b e ++ [e])).map (partOf r s)) := fun c hc bc ce eq zc => by
        obtain ⟨u1, u2⟩ := c1.cut hr h1 bc ce
        obtain ⟨v1, v2⟩ := c2.cut hs h2 bc ce
        have p1 := piece_same hr h1 (c1.pc p h1) bc (by grind)
        have p2 := piece_same hs h2 (c2.pc q h2) bc (by grind)
        have a1 := lesPart_ok (Z := Z) hr hs lr ls b0 (show b ≤ c by grind) (fun _ => bc) zb zc u1 v1 (.inl (by unfold onPart; rw [p1]; rfl)) (fun x y hx hy => by
          unfold onPart at hx hy
          rw [p1] at hx
          rw [p2] at hy
          cases hx
          cases hy
          simp only
          rw [eq]
          grind)
        have a2 := lesPart_ok (Z := Z) hr hs lr ls (show 0 ≤ c by grind) (show c ≤ e by grind) (fun _ => ce) zc ze u2 v2 (.inl (by unfold onPart; rw [h1]; rfl)) (fun x y hx hy => by
          unfold onPart at hx hy
          rw [h1] at hx
          rw [h2] at hy
          cases hx
          cases hy
          simp only
          rw [eq]
          grind)
        rw [hc]
        refine ⟨⟨.inl bc, a1.mom, ⟨zc.mono (by omega), a1.z.1, a1.z.2⟩, a1.cm, .inl ce, a2.mom, ⟨ze.mono (by omega), a2.z.1, a2.z.2⟩, a2.cm, trivial⟩, fun w hw => ?_, ⟨.inl bc, a1.who, .inl ce, a2.who, trivial⟩⟩
        have : w = (b, (c, lesP r s b c)) ∨ w = (c, (e, lesP r s c e)) := by simpa [rowOn, pairsB] using hw
        rcases this with rfl | rfl
        · exact a1.lin
        · exact a2.lin
      by_cases w1 : onP p.1 p.2 b < onP q.1 q.2 b ∧ onP q.1 q.2 e < onP p.1 p.2 e
      · have lt : b < e := by
          by_cases c : b < e
          · exact c
          · have : b = e := by grind
            subst this
            grind
        obtain ⟨m1, m2⟩ := cross_mid (f := (onP p.1 p.2 b, onP p.1 p.2 e)) (g := (onP q.1 q.2 b, onP q.1 q.2 e)) lt w1.1 w1.2
        exact two _ (by rw [ec]; unfold crossL; rw [if_pos w1]) m1 m2 (cross_same lt w1.1 w1.2) ((cross_sz lp lq lt w1.1 w1.2).mono hK)
      · by_cases w2 : onP q.1 q.2 b < onP p.1 p.2 b ∧ onP p.1 p.2 e < onP q.1 q.2 e
        · have lt : b < e := by
            by_cases c : b < e
            · exact c
            · have : b = e := by grind
              subst this
              grind
          obtain ⟨m1, m2⟩ := cross_mid (f := (onP q.1 q.2 b, onP q.1 q.2 e)) (g := (onP p.1 p.2 b, onP p.1 p.2 e)) lt w2.1 w2.2
          exact two _ (by rw [ec]; unfold crossL; rw [if_neg w1, if_pos w2]) m1 m2 (cross_same lt w2.1 w2.2).symm ((cross_sz lq lp lt w2.1 w2.2).mono hK)
        · refine none (by rw [ec]; unfold crossL; rw [if_neg w1, if_neg w2]) fun x y hx hy => ?_
          rw [o1] at hx
          rw [o2] at hy
          cases hx
          cases hy
          exact ⟨w1, w2⟩
theorem ih_end {r s : List Pc} : ∀ (C : List Rat) (b e : Rat), endQ b ((begL b (C ++ [e])).map (partOf r s)) = e
  | [], _, _ => rfl
  | x :: C, b, e => ih_end C x e
def lesOn (r s : List Pc) (b : Rat) (L : List Rat) : List Pc := (partsOf r s (begL b L)).map fun q => (q.1, q.2.2.1, q.2.2.2)
theorem lesOn_cons {r s : List Pc} {b e : Rat} {L : List Rat} : lesOn r s b (e :: L) = rowOn (lesP r s) b (cutsOf r s b e ++ [e]) ++ lesOn r s e L := by
  have h : partsOf r s (begL b (e :: L)) = (begL b (cutsOf r s b e ++ [e])).map (partOf r s) ++ partsOf r s (begL e L) := rfl
  unfold lesOn
  rw [h, List.map_append, rowOn_begL, List.map_map]
  rfl
theorem rowOn_snoc {F : Rat → Rat → Rat × Rat} : ∀ (xs : List Rat) (b e : Rat), endB b (rowOn F b (xs ++ [e])) = e ∧ (rowOn F b (xs ++ [e])).isEmpty = false := fun xs b e => by
  refine ⟨?_, ?_⟩
  · rw [rowOn_end]; simp
  · cases xs <;> rfl
theorem les_fits {k l K Z : Nat} {r s : List Pc} (hr : RowR k r) (hs : RowR l s) (lr : LinR K r) (ls : LinR K s) (hK : 2 * K + 1 ≤ Z) : ∀ (L : List Rat) (f : Bool) (b : Rat), SzQ Z b → 0 ≤ b → (∀ e ∈ L, SzQ Z e) → L.Pairwise (· < ·) → (∀ e, L.head? = some e → b ≤ e ∧ (f = false → b < e)) →
    (f = true → b = 0 ∧ (∀ p ∈ r, p.1 ∈ L) ∧ ∀ p ∈ s, p.1 ∈ L) → (∀ p ∈ r, p.1 ≤ b ∨ p.1 ∈ L) → (∀ p ∈ s, p.1 ≤ b ∨ p.1 ∈ L) → (∀ e ∈ L, (∃ p ∈ r, p.1 = e) ∨ ∃ p ∈ s, p.1 = e) →
    Fits (lesG r s) (K + Z + 1) f b (lesOn r s b L) ∧ (∀ q ∈ pairsB b (lesOn r s b L), LinP K q.1 q.2) ∧ WFit r s f b (partsOf r s (begL b L))
  | [], _, _, _, _, _, _, _, _, _, _, _ => ⟨trivial, fun q hq => by simp [lesOn, partsOf, begL, pairsB] at hq, trivial⟩
  | e :: L, f, b, zb, b0, hz, hp, hh, hf, hr2, hs2, hx => by
    obtain ⟨be, fb⟩ := hh e rfl
    obtain ⟨hp1, hp2⟩ := List.pairwise_cons.mp hp
    have co : ∀ {u : List Pc} {j : Nat}, RowR j u → (∀ p ∈ u, p.1 ≤ b ∨ p.1 ∈ e :: L) → (f = true → ∀ p ∈ u, p.1 ∈ e :: L) → CoOk u f b e := fun {u j} hu h1 h2 => by
      have ge : ∀ p ∈ u, b < p.1 → e ≤ p.1 := fun p hm w => by
        rcases h1 p hm with w2 | w2
        · grind
        · rcases List.mem_cons.mp w2 with w3 | w3
          · rw [w3]; exact Rat.le_refl
          · exact Rat.le_of_lt (hp1 _ w3)
      refine ⟨fun p hq => ?_, fun hq p hm => ?_, fun w => ⟨(hf w).1, fun p hm => ?_⟩⟩
      · rcases pieceW_beg hq with ⟨w, _⟩ | ⟨x, hm, w1, w2⟩
        · rw [w]; exact b0
        · rw [← w1]
          exact Rat.not_lt.mp fun w3 => by have := ge x hm w3; grind
      · refine Rat.not_lt.mp fun w => ?_
        have h3 := ge p hm w
        obtain ⟨q, hq2⟩ := cm_end hu.1 (fun w => by subst w; cases hm) (show e ≤ endB 0 u from Rat.le_trans h3 (ends_le hu.1 p hm).2)
        rw [hq] at hq2
        cases hq2
      · rcases List.mem_cons.mp (h2 w p hm) with w3 | w3
        · rw [w3]; exact Rat.le_refl
        · exact Rat.le_of_lt (hp1 _ w3)
    have c1 : CoOk r f b e := co hr hr2 fun w => (hf w).2.1
    have c2 : CoOk s f b e := co hs hs2 fun w => (hf w).2.2
    have sm : (onPart r b e).isSome = true ∨ (onPart s b e).isSome = true := by
      rcases hx e (by simp) with ⟨p, hm, w⟩ | ⟨p, hm, w⟩
      · exact .inl (part_some hr hm (by rw [w]; exact Rat.le_refl))
      · exact .inr (part_some hs hm (by rw [w]; exact Rat.le_refl))
    obtain ⟨g1, g2, w1⟩ := co_fits hr hs lr ls hK b0 be fb zb (hz e (by simp)) c1 c2 sm
    have tl : ∀ {u : List Pc}, (∀ p ∈ u, p.1 ≤ b ∨ p.1 ∈ e :: L) → ∀ p ∈ u, p.1 ≤ e ∨ p.1 ∈ L := fun {u} h p hm => by
      rcases h p hm with w | w
      · exact .inl (by grind)
      · rcases List.mem_cons.mp w with w | w
        · exact .inl (by rw [w]; exact Rat.le_refl)
        · exact .inr w
    obtain ⟨g3, g4, w2⟩ := les_fits hr hs lr ls hK L false e (hz e (by simp)) (by grind) (fun x hx => hz x (by simp [hx])) hp2 (fun x hx => ⟨Rat.le_of_lt (hp1 x (List.mem_of_mem_head? hx)), fun _ => hp1 x (List.mem_of_mem_head? hx)⟩) (fun w => by cases w) (tl hr2) (tl hs2) (fun x hm => hx x (by simp [hm]))
    obtain ⟨s1, s2⟩ := rowOn_snoc (F := lesP r s) (cutsOf r s b e) b e
    rw [lesOn_cons]
    refine ⟨Fits_app g1 (by rw [s1, s2, Bool.and_false]; exact g3), fun q hq => ?_, ?_⟩
    case refine_2 =>
      have hsp : partsOf r s (begL b (e :: L)) = (begL b (cutsOf r s b e ++ [e])).map (partOf r s) ++ partsOf r s (begL e L) := rfl
      rw [hsp]
      refine WFit_app w1 ?_
      have q1 : endQ b ((begL b (cutsOf r s b e ++ [e])).map (partOf r s)) = e := by
        exact ih_end _ b e
      have q2 : ((begL b (cutsOf r s b e ++ [e])).map (partOf r s)).isEmpty = false := by
        cases cutsOf r s b e <;> rfl
      rw [q1, q2, Bool.and_false]
      exact w2
    rw [pairsB_app, s1] at hq
    rcases List.mem_append.mp hq with hq | hq
    · exact g2 q hq
    · exact g4 q hq
theorem lesG_mono {k l : Nat} {r s : List Pc} (hr : RowR k r) (hs : RowR l s) {x y c d : Rat} (h0 : 0 ≤ x) (h : x ≤ y) (e1 : lesG r s x = some c) (e2 : lesG r s y = some d) : c ≤ d := by
  have dom : ∀ {u : List Pc} {j : Nat}, RowR j u → ∀ v, cm 0 u y = some v → ∃ w, cm 0 u x = some w ∧ w ≤ v := fun {u j} hu v hv => by
    have hn : u ≠ [] := fun w => by subst w; cases hv
    obtain ⟨q, hq⟩ := cm_end hu.1 hn (show x ≤ endB 0 u from Rat.le_trans h (cm_some hu.1 hv))
    exact ⟨_, cm_at hq, cm_mono hu.1 h0 h (cm_at hq) hv⟩
  have d1 := dom hr
  have d2 := dom hs
  unfold lesG at e1 e2
  cases a1 : cm 0 r y with
  | none =>
    rw [a1] at e2
    obtain ⟨w, w1, w2⟩ := d2 d e2
    rw [w1] at e1
    cases a2 : cm 0 r x with
    | none => rw [a2] at e1; cases e1; exact w2
    | some v =>
      rw [a2] at e1
      simp only [minO, Option.some.injEq] at e1
      split at e1 <;> grind
  | some v =>
    obtain ⟨w, w1, w2⟩ := d1 v a1
    rw [w1] at e1
    rw [a1] at e2
    cases a2 : cm 0 s y with
    | none =>
      rw [a2] at e2
      cases e2
      cases a3 : cm 0 s x with
      | none => rw [a3] at e1; cases e1; exact w2
      | some z =>
        rw [a3] at e1
        simp only [minO, Option.some.injEq] at e1
        split at e1 <;> grind
    | some z =>
      obtain ⟨w', w1', w2'⟩ := d2 z a2
      rw [a2] at e2
      rw [w1'] at e1
      simp only [minO, Option.some.injEq] at e1 e2
      split at e1 <;> split at e2 <;> grind
theorem lesG_ge {k l : Nat} {r s : List Pc} (hr : RowR k r) (hs : RowR l s) {x c : Rat} (h0 : 0 ≤ x) (e : lesG r s x = some c) : x ≤ c := by
  unfold lesG at e
  cases a1 : cm 0 r x with
  | none => rw [a1] at e; exact (cm_ge hs.1 h0 e).1
  | some v =>
    rw [a1] at e
    have := (cm_ge hr.1 h0 a1).1
    cases a2 : cm 0 s x with
    | none => rw [a2] at e; cases e; exact this
    | some z =>
      rw [a2] at e
      have := (cm_ge hs.1 h0 a2).1
      simp only [minO, Option.some.injEq] at e
      split at e <;> grind
theorem endB_fits {F : Rat → Rat → Rat × Rat} {r s : List Pc} : ∀ (L : List Rat) (b : Rat), endB b (lesOn r s b L) = L.getLast?.getD b
  | [], b => rfl
  | e :: L, b => by
    rw [lesOn_cons, endB_app, (rowOn_snoc (F := lesP r s) (cutsOf r s b e) b e).1, endB_fits (F := F) L e]
    cases L with
    | nil => rfl
    | cons x L => simp [List.getLast?_cons]
theorem endQ_app : ∀ (xs : List Qu) (b : Rat) (ys : List Qu), endQ b (xs ++ ys) = endQ (endQ b xs) ys
  | [], _, _ => rfl
  | _ :: xs, _, ys => endQ_app xs _ ys
theorem endQ_parts {r s : List Pc} : ∀ (L : List Rat) (b : Rat), endQ b (partsOf r s (begL b L)) = L.getLast?.getD b
  | [], b => rfl
  | e :: L, b => by
    have hsp : partsOf r s (begL b (e :: L)) = (begL b (cutsOf r s b e ++ [e])).map (partOf r s) ++ partsOf r s (begL e L) := rfl
    rw [hsp, endQ_app, ih_end, endQ_parts L e]
    cases L with
    | nil => rfl
    | cons x L => simp [List.getLast?_cons]
theorem lesser_row {k l K Z : Nat} {r s : List Pc} (k1 : 1 ≤ k) (l1 : 1 ≤ l) (hr : RowR k r) (hs : RowR l s) (lr : LinR K r) (ls : LinR K s) (hK : 2 * K + 1 ≤ Z) (zk : k ≤ Z) (zl : l ≤ Z) :
    RowR (K + Z + 1) (lesserRow r s) ∧ LinR K (lesserRow r s) ∧ (∀ t, 0 ≤ t → cm 0 (lesserRow r s) t = lesG r s t) ∧ WFit r s true 0 (partsF r s) ∧ endQ 0 (partsF r s) = (inTurn (r.map (·.1) ++ s.map (·.1))).getLast?.getD 0 := by
  have zr : ∀ {u : List Pc} {j : Nat}, 1 ≤ j → j ≤ Z → RowR j u → ∀ p ∈ u, SzQ Z p.1 ∧ 0 ≤ p.1 := fun {u j} j1 jZ hu p hm => by
    obtain ⟨pre, post, rfl⟩ := List.append_of_mem hm
    obtain ⟨m1, m2, m3, m4, _⟩ := RowR.mid hu j1
    exact ⟨m4.mono jZ, by grind⟩
  have zr1 := zr k1 zk hr
  have zs1 := zr l1 zl hs
  have mem : ∀ x, x ∈ inTurn (r.map (·.1) ++ s.map (·.1)) ↔ (∃ p ∈ r, p.1 = x) ∨ ∃ p ∈ s, p.1 = x := fun x => by
    rw [inTurn_mem, List.mem_append, List.mem_map, List.mem_map]
  have srt := inTurn_sorted (r.map (·.1) ++ s.map (·.1))
  have hL : lesserRow r s = lesOn r s 0 (inTurn (r.map (·.1) ++ s.map (·.1))) := rfl
  have hP : partsF r s = partsOf r s (begL 0 (inTurn (r.map (·.1) ++ s.map (·.1)))) := rfl
  rw [hL, hP]
  generalize inTurn (r.map (·.1) ++ s.map (·.1)) = L at *
  have z0 : SzQ Z (0 : Rat) := by
    refine ⟨?_, ?_⟩
    · unfold Sz; simp; exact Nat.pow_pos (by decide)
    · unfold Sz
      have : 2 ^ 1 ≤ 2 ^ Z := Nat.pow_le_pow_right (by decide) (by omega)
      have e1 : ((0 : Rat).den : Int).natAbs = 1 := rfl
      omega
  have zL : ∀ e ∈ L, SzQ Z e ∧ 0 ≤ e := fun e he => by
    rcases (mem e).mp he with ⟨p, hm, w⟩ | ⟨p, hm, w⟩
    · rw [← w]; exact zr1 p hm
    · rw [← w]; exact zs1 p hm
  obtain ⟨ft, lin, wf⟩ := les_fits hr hs lr ls hK L true 0 z0 Rat.le_refl (fun e he => (zL e he).1) srt (fun e he => ⟨(zL e (List.mem_of_mem_head? he)).2, fun w => by cases w⟩)
    (fun _ => ⟨rfl, fun p hm => (mem _).mpr (.inl ⟨p, hm, rfl⟩), fun p hm => (mem _).mpr (.inr ⟨p, hm, rfl⟩)⟩) (fun p hm => .inr ((mem _).mpr (.inl ⟨p, hm, rfl⟩))) (fun p hm => .inr ((mem _).mpr (.inr ⟨p, hm, rfl⟩))) (fun e he => (mem e).mp he)
  have last : ∀ {u : List Pc} {j : Nat}, RowR j u → (∀ p ∈ u, p.1 ∈ L) → ∀ t, endB 0 (lesOn r s 0 L) < t → cm 0 u t = none := fun {u j} hu h t ht => by
    cases hc : cm 0 u t with
    | none => rfl
    | some c =>
      exfalso
      have h1 := cm_some hu.1 hc
      have hn : u ≠ [] := fun w => by subst w; cases hc
      obtain ⟨p, hm, ep⟩ := endB_mem (b := 0) hn
      have h2 := h p hm
      rw [endB_fits (F := fun _ _ => (0, 0))] at ht
      rcases List.eq_nil_or_concat L with w | ⟨L', x, w⟩
      · rw [w] at h2; cases h2
      · rw [List.concat_eq_append] at w
        rw [w] at h2 ht srt
        simp only [List.getLast?_append, List.getLast?_singleton, Option.some_or, Option.getD_some] at ht
        have : p.1 ≤ x := by
          rcases List.mem_append.mp h2 with h2 | h2
          · rw [List.pairwise_append] at srt
            exact Rat.le_of_lt (srt.2.2 p.1 h2 x (by simp))
          · rw [List.mem_singleton.mp h2]; exact Rat.le_refl
        grind
  have lastr := last hr fun p hm => (mem _).mpr (.inl ⟨p, hm, rfl⟩)
  have lasts := last hs fun p hm => (mem _).mpr (.inr ⟨p, hm, rfl⟩)
  refine ⟨⟨ft.row (fun x y c d h0 h e1 e2 => lesG_mono hr hs h0 h e1 e2) (fun x c h0 e => lesG_ge hr hs h0 e) Rat.le_refl fun t c bt e => ?_, ft.mom⟩, lin, fun t h0 => ?_, wf, endQ_parts L 0⟩
  · have h0 : 0 ≤ t := by rcases bt with w | ⟨_, w⟩ <;> grind
    have := lesG_ge hr hs h0 e
    grind
  · refine ft.cm (fun t ht => ?_) (fun w _ => ?_) t ?_
    · unfold lesG
      rw [lastr t ht, lasts t ht]
      rfl
    · have : L = [] := by
        cases L with
        | nil => rfl
        | cons e L =>
          rw [lesOn_cons] at w
          have := (rowOn_snoc (F := lesP r s) (cutsOf r s 0 e) 0 e).2
          simp at w
          rw [w.1] at this
          cases this
      have er : r = [] := by
        cases r with
        | nil => rfl
        | cons p r => have := (mem p.1).mpr (.inl ⟨p, by simp, rfl⟩); rw [‹L = []›] at this; cases this
      have es : s = [] := by
        cases s with
        | nil => rfl
        | cons p s => have := (mem p.1).mpr (.inr ⟨p, by simp, rfl⟩); rw [‹L = []›] at this; cases this
      subst er es
      rfl
    · by_cases c : 0 < t
      · exact .inl c
      · exact .inr ⟨rfl, by grind⟩
structure LesOk (M K : Nat) (r s t : List Pc) : Prop where
  row : RowR M t
  lean : leanB 0 t = true
  lin : LinR K t
  cm : ∀ x, 0 ≤ x → DL.cm 0 t x = lesG r s x
  len : t.length ≤ 2 * (r.length + s.length)
theorem lesserF_ok {k l K Z : Nat} {r s : List Pc} (k1 : 1 ≤ k) (l1 : 1 ≤ l) (hr : RowR k r) (hs : RowR l s) (lr : LinR K r) (ls : LinR K s) (hK : 2 * K + 1 ≤ Z) (zk : k ≤ Z) (zl : l ≤ Z) : LesOk (K + Z + 1) K r s (lesserF r s) := by
  obtain ⟨h1, h2, h3, _⟩ := lesser_row k1 l1 hr hs lr ls hK zk zl
  have inv := leanF_inv _ h1
  refine ⟨inv.row, inv.lean, leanF_lin h1 h2, fun x hx => ?_, Nat.le_trans inv.len ?_⟩
  · show DL.cm 0 (leanF (lesserRow r s)) x = _
    rw [inv.cm x hx, h3 x hx]
  · show (lesserRow r s).length ≤ _
    unfold lesserRow
    rw [List.length_map]
    exact partsF_len
theorem minO_comm {x y : Option Rat} : minO x y = minO y x := by
  cases x <;> cases y <;> simp only [minO]
  congr 1
  split <;> split <;> grind
theorem LesOk.good {M K n m : Nat} {r s t : List Pc} (o : LesOk M K r s t) (hr : r.length ≤ n) (hs : s.length ≤ m) : Good M K (2 * (n + m)) t := ⟨o.row, o.lean, o.lin, by have := o.len; omega⟩
theorem Good.lesser {k l K Z n m : Nat} {r s : List Pc} (k1 : 1 ≤ k) (l1 : 1 ≤ l) (a : Good k K n r) (b : Good l K m s) (hK : 2 * K + 1 ≤ Z) (zk : k ≤ Z) (zl : l ≤ Z) : Good (K + Z + 1) K (2 * (n + m)) (lesserF r s) :=
  (lesserF_ok k1 l1 a.row b.row a.lin b.lin hK zk zl).good a.len b.len
theorem les_cm {k l K n m : Nat} {r s : List Pc} (k1 : 1 ≤ k) (l1 : 1 ≤ l) (a : Good k K n r) (b : Good l K m s) {x : Rat} (h : 0 ≤ x) : cm 0 (lesserF r s) x = minO (cm 0 r x) (cm 0 s x) :=
  (lesserF_ok k1 l1 a.row b.row a.lin b.lin (Z := 2 * K + 1 + k + l) (by omega) (by omega) (by omega)).cm x h
end DL
namespace DL
open PySem PySem.Spec L2
abbrev Pr := Int × Int
variable {h : Hd} {q t : Pr} {n m : Nat} {xs : List D}
end DL
namespace DL
open PySem PySem.Spec L2
theorem toStr_len {i : Int} {k : Nat} (h : Sz k i) : (toString i : Str).length ≤ k + 6 := by
  rcases Int.le_total 0 i with c | c
  · obtain ⟨n, rfl⟩ := Int.eq_ofNat_of_zero_le c
    rw [show (toString ((n : Nat) : Int) : Str) = ⟨(dig n).toArray⟩ from str_nat n, len_T]
    have := dig_lenS h
    omega
  · obtain ⟨n, e⟩ := Int.eq_ofNat_of_zero_le (show 0 ≤ -i by omega)
    have hz : Sz k (n : Int) := by unfold Sz at *; omega
    have hd := dig_lenS hz
    have e2 : i = -(n : Int) := by omega
    subst e2
    cases n with
    | zero =>
      rw [show (-((0 : Nat) : Int)) = ((0 : Nat) : Int) by omega, show (toString (((0 : Nat) : Nat) : Int) : Str) = ⟨(dig 0).toArray⟩ from str_nat 0, len_T]
      omega
    | succ m =>
      have e3 : (toString (-((m + 1 : Nat) : Int)) : String) = "-" ++ Nat.repr (m + 1) := rfl
      have e4 : (Nat.repr (m + 1) : String).toList.length = (dig (m + 1)).length := by
        rw [Nat.repr, String.toList_ofList]
        unfold dig
        rw [List.length_map]
      show (Str.ofString (toString (-((m + 1 : Nat) : Int)))).length ≤ _
      rw [e3]
      have e5 : ∀ s : String, (Str.ofString s).length = s.toList.length := fun s => by
        rw [Str.ofString_eq_toList]
        unfold Str.length
        simp
      rw [e5, String.toList_append, List.length_append, e4]
      have : ("-" : String).toList.length = 1 := rfl
      omega
def SgOk (s : Str) : Prop := ∀ c ∈ s.cps.toList, c < 1114112
theorem sg_app {a b : Str} (h : SgOk a) (g : SgOk b) : SgOk (a ++ b) := fun c hc => by
  have e : (a ++ b).cps = a.cps ++ b.cps := rfl
  rw [e, Array.toList_append] at hc
  rcases List.mem_append.mp hc with hc | hc
  · exact h c hc
  · exact g c hc
theorem sg_join {p : Str} (hp : SgOk p) : ∀ ts : List Str, (∀ t ∈ ts, SgOk t) → SgOk (Str.join p ts)
  | [], _ => fun c hc => by simp [Str.join, Str.empty] at hc
  | [x], h => h x (by simp)
  | x :: y :: r, h => sg_app (sg_app (h x (by simp)) hp) (sg_join hp (y :: r) fun t ht => h t (by simp [ht]))
theorem sg_of {s : String} (h : ∀ c ∈ s.toList, c.toNat < 1114112) : SgOk (s : Str) := fun c hc => by
  have e : (s : Str) = ⟨(s.toList.map Char.toNat).toArray⟩ := Str.ofString_eq_toList s
  rw [e] at hc
  simp only [List.mem_map] at hc
  obtain ⟨x, hx, rfl⟩ := hc
  exact h x hx
theorem sg_str (s : String) : SgOk (s : Str) := sg_of fun c _ => by
  have h1 : c.toNat.isValidChar := c.valid
  unfold Nat.isValidChar at h1
  omega
theorem sg_same {t : Str} {h : Hd} {neg : Bool} (ok : SgOk t) : dEqn neg (.str t) (.str t) h = .ok (.bl (neg ^^ true)) h := by
  have e : PyData.strOk t = true := by
    unfold PyData.strOk
    first
      | (rw [Array.all_eq_true_iff_forall_mem]; intro c hc; have := ok c (Array.mem_toList_iff.mpr hc); simpa using this)
      | simpa [SgOk] using ok
  have e2 : D.pl 1 (.str t) = true := e
  have e3 := eqn_pl (neg := neg) (n := 1) (h := h) (by decide) e2 e2
  simpa using e3
end DL
namespace DL
open PySem PySem.Spec L2
abbrev Ew := Rat × Bool
def ew (q : Qu) : Ew := (q.1, q.2.1)
variable {h : Hd} {q : Ew} {n m : Nat}
theorem gcS_no {h h1 : Hd} {s : Sl} {m : Nat} (hm : some (D.ref m) ∈ s) (hl : h.length ≤ m) : (SR.nx s h1).gcS h = .nx s h1 := by
  unfold SR.gcS
  simp only
  rw [if_neg]
  rintro ⟨_, w⟩
  have := w _ hm
  rw [lo_ref, decide_eq_true_eq] at this
  omega
end DL
namespace DL
open PySem PySem.Spec L2
end DL
namespace DL
open PySem PySem.Spec L2
abbrev Ru := Int × Int × Int × Int
abbrev Rq := Rat × Pc
def uR (d : Int) (u : Ru) : Rq := (Rat.divInt u.1 d, Rat.divInt u.2.1 d, Rat.divInt u.2.2.1 d, Rat.divInt u.2.2.2 d)
def RuOk (B : Int) (u : Ru) : Prop := 0 ≤ u.1 ∧ u.1 ≤ u.2.1 ∧ u.1 ≤ u.2.2.1 ∧ u.2.1 ≤ u.2.2.2 ∧ (u.1 = u.2.1 → u.2.2.1 = u.2.2.2) ∧ u.2.1 ≤ B ∧ u.2.2.1 ≤ B ∧ u.2.2.2 ≤ B
theorem RuOk.mono {B C : Int} {u : Ru} (o : RuOk B u) (h : B ≤ C) : RuOk C u := by
  obtain ⟨a, b, c, d, e, f, g, i⟩ := o
  exact ⟨a, b, c, d, e, by omega, by omega, by omega⟩
def rdOk (q : Rq) : Bool := !(decide (q.2.1 < q.1) || (decide (q.2.2.1 < q.1) || decide (q.2.2.2 < q.2.1))) && (!decide (q.1 = q.2.1) || decide (q.2.2.1 = q.2.2.2))
theorem RuOk.rd {B d : Int} {u : Ru} (o : RuOk B u) (hd : 1 ≤ d) : rdOk (uR d u) = true := by
  obtain ⟨a, b, c, e, f, _⟩ := o
  unfold rdOk uR
  simp only
  rw [decide_eq_false (by rw [divInt_lt hd]; omega), decide_eq_false (by rw [divInt_lt hd]; omega), decide_eq_false (by rw [divInt_lt hd]; omega)]
  by_cases g : u.1 = u.2.1
  · rw [g, f g]
    simp
  · rw [decide_eq_false (by rw [divInt_iff hd]; exact g)]
    rfl
variable {h : Hd} {u : Ru} {q : Rq} {n m : Nat}
theorem gT_Qd_I {gs : GMs} {s : Sl} : gT 4 gs (QdD q) s h = gs [FQ q.1, FQ q.2.1, FQ q.2.2.1, FQ q.2.2.2] s h := rfl
theorem lcD_pot {α β : Type} {emb : α → D} {f : β → D} {g : GM} {t : TM} {e : EM} {vs : List Nat} {s : Sl} {p : Nat} {h l : Hd} {Q : PS → Prop} {P : β → Prop} (all : List α)
    (he : ∀ x ∈ all, ∀ c acc, Q c → ∃ s1 y c', Q c' ∧ P y ∧ g (emb x) (wipeD s vs) (HP h p c ++ (l ++ [.lst acc])) = .ok s1 (HP h p c ++ (l ++ [.lst acc])) ∧ t s1 (HP h p c ++ (l ++ [.lst acc])) = .ok true (HP h p c ++ (l ++ [.lst acc])) ∧ e s1 (HP h p c ++ (l ++ [.lst acc])) = .ok (f y) (HP h p c' ++ (l ++ [.lst acc]))) :
    ∀ (xs : List α) (ys : List β) (c : PS), (∀ x ∈ xs, x ∈ all) → ys.length + xs.length < 1000000 → Q c → (∀ y ∈ ys, P y) →
    ∃ (zs : List β) (c' : PS), Q c' ∧ (∀ y ∈ zs, P y) ∧ zs.length = ys.length + xs.length ∧ lcD (fun _ => True) g t e vs (h.length + l.length) s (xs.map emb) (HP h p c ++ (l ++ [.lst (ys.map f)])) = .ok () (HP h p c' ++ (l ++ [.lst (zs.map f)])) := by
  intro xs
  induction xs with
  | nil =>
    intro ys c _ _ qc py
    refine ⟨ys, c, qc, py, rfl, ?_⟩
    rw [List.map_nil]
    unfold lcD
    rw [if_pos trivial]
  | cons x xs ih =>
    intro ys c hx hl qc py
    rw [List.length_cons] at hl
    obtain ⟨s1, y, c', qc', pY, e1, e2, e3⟩ := he x (hx x (by simp)) c (ys.map f) qc
    obtain ⟨zs, c2, q2, p2, l2, e4⟩ := ih (ys ++ [y]) c' (fun z hz => hx z (by simp [hz])) (by rw [List.length_append, List.length_singleton]; omega) qc' (fun z hz => by
      rcases List.mem_append.mp hz with hz | hz
      · exact py z hz
      · rw [List.mem_singleton.mp hz]; exact pY)
    refine ⟨zs, c2, q2, p2, by rw [l2, List.length_append, List.length_singleton, List.length_cons]; omega, ?_⟩
    rw [List.map_cons]
    unfold lcD
    rw [if_pos trivial, e1]
    simp only
    rw [e2, Res.bind_ok, if_pos rfl, e3, Res.bind_ok]
    have ap : appD (h.length + l.length) (f y) (HP h p c' ++ (l ++ [.lst (ys.map f)])) = .ok () (HP h p c' ++ (l ++ [.lst ((ys ++ [y]).map f)])) := by
      have := appD_mid (h' := HP h p c' ++ l) (g := []) (acc := ys.map f) (d := f y) (n := h.length + l.length) (by rw [List.length_append, HP_len_I]) (by rw [List.length_map]; omega)
      rw [List.append_assoc, List.append_assoc] at this
      rw [this, List.map_append]
      rfl
    rw [ap, Res.bind_ok]
    exact e4
theorem kLc_pot {α β : Type} {emb : α → D} {f : β → D} {g : GM} {t : TM} {e : EM} {vs : List Nat} {s : Sl} {p : Nat} {h l : Hd} {c : PS} {xs : List α} (Q : PS → Prop) (P : β → Prop) (hl : xs.length < 1000000) (qc : Q c)
    (he : ∀ x ∈ xs, ∀ c acc, Q c → ∃ s1 y c', Q c' ∧ P y ∧ g (emb x) (wipeD s vs) (HP h p c ++ (l ++ [.lst acc])) = .ok s1 (HP h p c ++ (l ++ [.lst acc])) ∧ t s1 (HP h p c ++ (l ++ [.lst acc])) = .ok true (HP h p c ++ (l ++ [.lst acc])) ∧ e s1 (HP h p c ++ (l ++ [.lst acc])) = .ok (f y) (HP h p c' ++ (l ++ [.lst acc]))) :
    ∃ (zs : List β) (c' : PS), Q c' ∧ (∀ y ∈ zs, P y) ∧ zs.length = xs.length ∧ (Res.ok (xs.map emb, fun _ => True) (HP h p c ++ l)).kLc g t e vs s = .ok (.ref (h.length + l.length)) (HP h p c' ++ (l ++ [.lst (zs.map f)])) := by
  obtain ⟨zs, c', q, pz, lz, ez⟩ := lcD_pot (f := f) (Q := Q) (P := P) xs he xs [] c (fun _ h => h) (by simpa using hl) qc (by simp)
  refine ⟨zs, c', q, pz, by simpa using lz, ?_⟩
  unfold Res.kLc
  rw [Res.bind_ok]
  simp only
  rw [List.length_append, HP_len_I, List.append_assoc]
  rw [List.map_nil] at ez
  rw [ez, Res.bind_ok]
end DL
namespace DL
open PySem PySem.Spec L2
section
variable {α β : Type} {N n : Nat} {body b su : SM} {ds : List D} {h h1 : Hd} {d d1 : D} {s s1 : Sl} {x : XD} {m m2 : EM} {tm tm2 : TM} {am : AM} {vs : List Nat} {c : String} {sm sm2 : SM} {F : List D → M D}
theorem seq_exc_I : (SR.exc x s h).seq b = .exc x s h := rfl
theorem gcS_exc_I : (SR.exc x s h1).gcS h = .exc x s h1 := rfl
theorem wp_exc_I : (SR.exc x s h1).wp vs = .exc x s h1 := rfl
def Res.kFn (r : Res D) : Res D := match r with
  | .ok d h1 => .ok d h1
  | _ => .bad
theorem ev_Fn_I (q : ds.length = n) : eFn n F ds h = (F ds h).kFn := if_pos q
theorem kFn_ok_I : (Res.ok d h).kFn = .ok d h := rfl
theorem x_kRet_I : (Res.exc x h).kRet s = .exc x s h := rfl
end
theorem toNat_cast_I {n : Nat} : ((n : Int)).toNat = n := Int.toNat_natCast n
end DL
namespace DL
open PySem PySem.Spec L2
end DL
namespace DL
open PySem PySem.Spec L2
structure RqOk (k : Nat) (q : Rq) : Prop where
  nn : 0 ≤ q.1
  rd : rdOk q = true
  z : SzQ k q.1 ∧ SzQ k q.2.1 ∧ SzQ k q.2.2.1 ∧ SzQ k q.2.2.2
theorem rdOk_iff {q : Rq} : rdOk q = true ↔ q.1 ≤ q.2.1 ∧ q.1 ≤ q.2.2.1 ∧ q.2.1 ≤ q.2.2.2 ∧ (q.1 = q.2.1 → q.2.2.1 = q.2.2.2) := by
  unfold rdOk
  simp only [Bool.and_eq_true, Bool.not_eq_true', Bool.or_eq_false_iff, decide_eq_false_iff_not, Rat.not_lt, Bool.or_eq_true, decide_eq_true_eq]
  constructor
  · rintro ⟨⟨a, b, c⟩, d⟩
    refine ⟨a, b, c, fun e => ?_⟩
    rcases d with d | d
    · exact absurd e (by simpa using d)
    · exact d
  · rintro ⟨a, b, c, d⟩
    refine ⟨⟨a, b, c⟩, ?_⟩
    by_cases e : q.1 = q.2.1
    · exact .inr (d e)
    · exact .inl (by simpa using e)
theorem RqOk.le {k : Nat} {q : Rq} (o : RqOk k q) : 0 ≤ q.1 ∧ q.1 ≤ q.2.1 ∧ q.1 ≤ q.2.2.1 ∧ q.2.1 ≤ q.2.2.2 ∧ (q.1 = q.2.1 → q.2.2.1 = q.2.2.2) ∧ 0 ≤ q.2.1 ∧ 0 ≤ q.2.2.1 ∧ 0 ≤ q.2.2.2 := by
  obtain ⟨a, b, c, d⟩ := rdOk_iff.mp o.rd
  have := o.nn
  exact ⟨this, a, b, c, d, by grind, by grind, by grind⟩
def rdHas (q : Rq) (t : Rat) : Bool := !decide (t < q.1) && !decide (q.2.1 < t)
theorem rdHas_iff {q : Rq} {t : Rat} : rdHas q t = true ↔ q.1 ≤ t ∧ t ≤ q.2.1 := by
  unfold rdHas
  simp [Rat.not_lt]
abbrev rdOn (q : Rq) (t : Rat) : Rat := onP q.1 q.2 t
theorem mid_w {b e t : Rat} (h1 : b ≤ t) (h2 : t ≤ e) (h : b < e) : ∃ w, (t - b) / (e - b) = w ∧ 0 ≤ w ∧ w ≤ 1 ∧ t = b + (e - b) * w := by
  have d : 0 < e - b := by grind
  have q0 : 0 ≤ (t - b) / (e - b) := div_nn (by grind) d
  have q1 : (t - b) / (e - b) * (e - b) = t - b := Rat.div_mul_cancel (by grind)
  generalize (t - b) / (e - b) = q at *
  have q2 : q ≤ 1 := by
    apply Rat.not_lt.mp
    intro h
    have := Rat.mul_lt_mul_of_pos_right h d
    grind
  exact ⟨q, rfl, q0, q2, by grind⟩
theorem rdOn_ge {k : Nat} {q : Rq} {t : Rat} (o : RqOk k q) (h : rdHas q t = true) : t ≤ rdOn q t := by
  obtain ⟨h1, h2⟩ := rdHas_iff.mp h
  obtain ⟨a, b, c, d, e, _⟩ := o.le
  unfold rdOn onP
  split
  · rename_i hq
    grind
  · rename_i hq
    obtain ⟨w, ew, w0, w1, wt⟩ := mid_w h1 h2 (by grind)
    rw [ew]
    have m1 : 0 ≤ (q.2.2.1 - q.1) * (1 - w) := Rat.mul_nonneg (by grind) (by grind)
    have m2 : 0 ≤ (q.2.2.2 - q.2.1) * w := Rat.mul_nonneg (by grind) w0
    grind
def offStep (t : Rat) (f : Option Rat) (q : Rq) : Option Rat := if rdHas q t = true then minO f (some (rdOn q t)) else f
def offF (R : List Rq) (t : Rat) : Option Rat := R.foldl (offStep t) none
theorem offF_snoc {R : List Rq} {q : Rq} {t : Rat} : offF (R ++ [q]) t = offStep t (offF R t) q := by
  unfold offF
  rw [List.foldl_append]
  rfl
theorem offF_spec {t : Rat} : ∀ {R : List Rq}, (offF R t = none ∧ ∀ q ∈ R, rdHas q t = false) ∨ ∃ q ∈ R, rdHas q t = true ∧ offF R t = some (rdOn q t) ∧ ∀ p ∈ R, rdHas p t = true → rdOn q t ≤ rdOn p t := by
  intro R
  induction R using snoc_rec with
  | h0 => exact .inl ⟨rfl, by simp⟩
  | h1 R p ih =>
    rw [offF_snoc]
    unfold offStep
    by_cases c : rdHas p t = true
    · rw [if_pos c]
      rcases ih with ⟨e, hn⟩ | ⟨q, hq, hh, e, hm⟩
      · refine .inr ⟨p, by simp, c, by rw [e]; rfl, fun x hx hx2 => ?_⟩
        rcases List.mem_append.mp hx with hx | hx
        · rw [hn x hx] at hx2
          cases hx2
        · rw [List.mem_singleton.mp hx]
          exact Rat.le_refl
      · rw [e]
        by_cases c2 : rdOn p t < rdOn q t
        · refine .inr ⟨p, by simp, c, by show some (if _ then _ else _) = _; rw [if_pos c2], fun x hx hx2 => ?_⟩
          rcases List.mem_append.mp hx with hx | hx
          · exact Rat.le_trans (Rat.le_of_lt c2) (hm x hx hx2)
          · rw [List.mem_singleton.mp hx]
            exact Rat.le_refl
        · refine .inr ⟨q, by simp [hq], hh, by show some (if _ then _ else _) = _; rw [if_neg c2], fun x hx hx2 => ?_⟩
          rcases List.mem_append.mp hx with hx | hx
          · exact hm x hx hx2
          · rw [List.mem_singleton.mp hx]
            exact Rat.not_lt.mp c2
    · rw [if_neg c]
      have c : rdHas p t = false := by simpa using c
      rcases ih with ⟨e, hn⟩ | ⟨q, hq, hh, e, hm⟩
      · refine .inl ⟨e, fun x hx => ?_⟩
        rcases List.mem_append.mp hx with hx | hx
        · exact hn x hx
        · rw [List.mem_singleton.mp hx]
          exact c
      · refine .inr ⟨q, by simp [hq], hh, e, fun x hx hx2 => ?_⟩
        rcases List.mem_append.mp hx with hx | hx
        · exact hm x hx hx2
        · rw [List.mem_singleton.mp hx, c] at hx2
          cases hx2
theorem rdOn_sz {k m : Nat} {q : Rq} {t : Rat} (o : RqOk k q) (zt : SzQ m t) : SzQ (m + 6 * k + 4) (rdOn q t) := onP_sz2 o.z.1 zt ⟨o.z.2.1, o.z.2.2.1, o.z.2.2.2⟩ o.le.2.1
theorem offF_sz {k m : Nat} {R : List Rq} {t c : Rat} (o : ∀ q ∈ R, RqOk k q) (zt : SzQ m t) (e : offF R t = some c) : SzQ (m + 6 * k + 4) c := by
  rcases offF_spec (t := t) (R := R) with ⟨e2, _⟩ | ⟨q, hq, _, e2, _⟩
  · rw [e] at e2
    cases e2
  · rw [e] at e2
    cases e2
    exact rdOn_sz (o q hq) zt
theorem offF_ge {k : Nat} {R : List Rq} {t c : Rat} (o : ∀ q ∈ R, RqOk k q) (e : offF R t = some c) : t ≤ c := by
  rcases offF_spec (t := t) (R := R) with ⟨e2, _⟩ | ⟨q, hq, h, e2, _⟩
  · rw [e] at e2
    cases e2
  · rw [e] at e2
    cases e2
    exact rdOn_ge (o q hq) h
def endsR (R : List Rq) : List Rat := R.map (·.1) ++ R.map (·.2.1)
def soStep (R : List Rq) (f : Option (Rat × Rat)) (m : Rat) : Option (Rat × Rat) := match offF R m, f with
  | none, f => f
  | some c, none => some (m, c)
  | some c, some g => if c < g.2 then some (m, c) else some g
def soF (R : List Rq) (M : List Rat) : Option (Rat × Rat) := M.foldl (soStep R) none
def soM (R : List Rq) (w : Bool) (t : Rat) : List Rat := if w = true then inTurn (t :: (endsR R).filter fun e => decide (t < e)) else [t]
theorem endsR_mem {R : List Rq} {x : Rat} : x ∈ endsR R ↔ ∃ q ∈ R, q.1 = x ∨ q.2.1 = x := by
  unfold endsR
  simp only [List.mem_append, List.mem_map]
  constructor
  · rintro (⟨q, hq, e⟩ | ⟨q, hq, e⟩)
    · exact ⟨q, hq, .inl e⟩
    · exact ⟨q, hq, .inr e⟩
  · rintro ⟨q, hq, e | e⟩
    · exact .inl ⟨q, hq, e⟩
    · exact .inr ⟨q, hq, e⟩
theorem soF_snoc {R : List Rq} {M : List Rat} {m : Rat} : soF R (M ++ [m]) = soStep R (soF R M) m := by
  unfold soF
  rw [List.foldl_append]
  rfl
theorem soF_sz {R : List Rq} {k m : Nat} (o : ∀ q ∈ R, RqOk k q) : ∀ {M : List Rat}, (∀ x ∈ M, SzQ m x) → ∀ {g}, soF R M = some g → SzQ m g.1 ∧ SzQ (m + 6 * k + 4) g.2 ∧ g.1 ∈ M ∧ offF R g.1 = some g.2 := by
  intro M
  induction M using snoc_rec with
  | h0 => intro _ g e; cases e
  | h1 M x ih =>
    intro zM g e
    have ih := @ih fun y hy => zM y (by simp [hy])
    have zx := zM x (by simp)
    rw [soF_snoc] at e
    unfold soStep at e
    split at e
    · obtain ⟨a, b, c, d⟩ := ih e
      exact ⟨a, b, by simp [c], d⟩
    · rename_i c ec ef
      cases e
      exact ⟨zx, offF_sz o zx ec, by simp, ec⟩
    · rename_i c g2 ec ef
      split at e
      · cases e
        exact ⟨zx, offF_sz o zx ec, by simp, ec⟩
      · cases e
        obtain ⟨a, b, c, d⟩ := ih ef
        exact ⟨a, b, by simp [c], d⟩
theorem soM_sz {R : List Rq} {w : Bool} {t : Rat} {k m : Nat} (o : ∀ q ∈ R, RqOk k q) (zt : SzQ m t) (km : k ≤ m) : ∀ x ∈ soM R w t, SzQ m x := by
  intro x hx
  unfold soM at hx
  split at hx
  · rw [inTurn_mem] at hx
    rcases List.mem_cons.mp hx with rfl | hx
    · exact zt
    · obtain ⟨q, hq, e | e⟩ := endsR_mem.mp (List.mem_filter.mp hx).1
      · rw [← e]; exact (o q hq).z.1.mono km
      · rw [← e]; exact (o q hq).z.2.1.mono km
  · rw [List.mem_singleton.mp hx]
    exact zt
def optSo : Option (Rat × Rat) → D
  | none => .non
  | some q => PrD q
instance lw_optSo {h : Hd} {q : Option (Rat × Rat)} : Lw h (optSo q) := by
  cases q with
  | none => exact (inferInstance : Lw h D.non)
  | some q => exact (inferInstance : Lw h (PrD q))
theorem soF_spec {R : List Rq} : ∀ {M : List Rat}, M.Pairwise (· ≤ ·) → (soF R M = none ∧ ∀ m ∈ M, offF R m = none) ∨ ∃ m c, soF R M = some (m, c) ∧ m ∈ M ∧ offF R m = some c ∧ ∀ m' ∈ M, ∀ c', offF R m' = some c' → c ≤ c' ∧ (c' = c → m ≤ m') := by
  intro M
  induction M using snoc_rec with
  | h0 => exact fun _ => .inl ⟨rfl, by simp⟩
  | h1 M x ih =>
    intro up
    obtain ⟨u1, _, u2⟩ := List.pairwise_append.mp up
    have ux : ∀ y ∈ M, y ≤ x := fun y hy => u2 y hy x (by simp)
    rw [soF_snoc]
    unfold soStep
    rcases ih u1 with ⟨e, hn⟩ | ⟨m, c, e, hm, ec, hl⟩
    · rw [e]
      cases ex : offF R x with
      | none =>
        refine .inl ⟨rfl, fun y hy => ?_⟩
        rcases List.mem_append.mp hy with hy | hy
        · exact hn y hy
        · rw [List.mem_singleton.mp hy, ex]
      | some c =>
        refine .inr ⟨x, c, rfl, by simp, ex, fun y hy c' e' => ?_⟩
        rcases List.mem_append.mp hy with hy | hy
        · rw [hn y hy] at e'
          cases e'
        · rw [List.mem_singleton.mp hy, ex] at e'
          cases e'
          rw [List.mem_singleton.mp hy]
          exact ⟨Rat.le_refl, fun _ => Rat.le_refl⟩
    · rw [e]
      cases ex : offF R x with
      | none =>
        refine .inr ⟨m, c, rfl, by simp [hm], ec, fun y hy c' e' => ?_⟩
        rcases List.mem_append.mp hy with hy | hy
        · exact hl y hy c' e'
        · rw [List.mem_singleton.mp hy, ex] at e'
          cases e'
      | some cx =>
        simp only
        by_cases k : cx < c
        · rw [if_pos k]
          refine .inr ⟨x, cx, rfl, by simp, ex, fun y hy c' e' => ?_⟩
          rcases List.mem_append.mp hy with hy | hy
          · have := (hl y hy c' e').1
            exact ⟨by grind, fun w => by grind⟩
          · rw [List.mem_singleton.mp hy, ex] at e'
            cases e'
            rw [List.mem_singleton.mp hy]
            exact ⟨Rat.le_refl, fun _ => Rat.le_refl⟩
        · rw [if_neg k]
          refine .inr ⟨m, c, rfl, by simp [hm], ec, fun y hy c' e' => ?_⟩
          rcases List.mem_append.mp hy with hy | hy
          · exact hl y hy c' e'
          · rw [List.mem_singleton.mp hy, ex] at e'
            cases e'
            rw [List.mem_singleton.mp hy]
            exact ⟨Rat.not_lt.mp k, fun _ => ux m hm⟩
theorem up_le {M : List Rat} (h : M.Pairwise (· < ·)) : M.Pairwise (· ≤ ·) := h.imp fun h => Rat.le_of_lt h
theorem soM_up {R : List Rq} {w : Bool} {t : Rat} : (soM R w t).Pairwise (· ≤ ·) := by
  unfold soM
  split
  · exact up_le (inTurn_sorted _)
  · simp
theorem soM_mem {R : List Rq} {w : Bool} {t x : Rat} : x ∈ soM R w t ↔ x = t ∨ (w = true ∧ x ∈ endsR R ∧ t < x) := by
  unfold soM
  split
  · rename_i h
    rw [inTurn_mem, List.mem_cons, List.mem_filter, decide_eq_true_eq]
    simp [h]
  · rename_i h
    simp [h]
variable {d : Rat}
theorem div_inj' (hd : 0 < d) {a b : Rat} : a / d = b / d ↔ a = b := by
  have e1 : a / d * d = a := Rat.div_mul_cancel (by grind)
  have e2 : b / d * d = b := Rat.div_mul_cancel (by grind)
  exact ⟨fun h => by rw [← e1, h, e2], fun h => by rw [h]⟩
theorem divInt_1 {n : Int} : Rat.divInt n 1 = (n : Rat) := by
  rw [Rat.divInt_eq_div]
  show (n : Rat) / 1 = n
  grind
structure RuS' (k : Nat) (u : Ru) : Prop where
  o : u.1 ≤ u.2.1
  z : Sz k u.1 ∧ Sz k u.2.1 ∧ Sz k u.2.2.1 ∧ Sz k u.2.2.2
end DL
namespace DL
open PySem PySem.Spec L2
theorem onP_min {b x y s : Rat} {p : Pc} (h1 : x ≤ s) (h2 : s ≤ y) : onP b p x ≤ onP b p s ∨ onP b p y ≤ onP b p s := by
  obtain ⟨A, B, e⟩ := onP_isAff b p
  rw [e, e, e]
  rcases (Rat.le_total : (0 : Rat) ≤ B ∨ B ≤ 0) with c | c
  · have := Rat.mul_le_mul_of_nonneg_left h1 c
    exact .inl (by grind)
  · have := Rat.mul_le_mul_of_nonneg_left h2 (show 0 ≤ -B by grind)
    exact .inr (by grind)
structure IsG (R : List Rq) (t c : Rat) : Prop where
  at_ : ∃ s, t ≤ s ∧ offF R s = some c
  le : ∀ s, t ≤ s → ∀ c', offF R s = some c' → c ≤ c'
theorem IsG.eq {R : List Rq} {t c d : Rat} (a : IsG R t c) (b : IsG R t d) : c = d := by
  obtain ⟨s, hs, es⟩ := a.at_
  obtain ⟨r, hr, er⟩ := b.at_
  have := a.le r hr d er
  have := b.le s hs c es
  grind
def waitG (R : List Rq) (t : Rat) : Option Rat := (soF R (soM R true t)).map (·.2)
theorem offF_le {R : List Rq} {t : Rat} {q : Rq} (hq : q ∈ R) (h : rdHas q t = true) : ∃ c, offF R t = some c ∧ c ≤ rdOn q t := by
  rcases offF_spec (t := t) (R := R) with ⟨_, e⟩ | ⟨p, hp, _, e, hl⟩
  · rw [e q hq] at h
    cases h
  · exact ⟨_, e, hl q hq h⟩
theorem offF_at {R : List Rq} {t c : Rat} (e : offF R t = some c) : ∃ q ∈ R, rdHas q t = true ∧ rdOn q t = c := by
  rcases offF_spec (t := t) (R := R) with ⟨e2, _⟩ | ⟨p, hp, hh, e2, _⟩
  · rw [e] at e2
    cases e2
  · rw [e] at e2
    cases e2
    exact ⟨p, hp, hh, rfl⟩
theorem ride_low {R : List Rq} {t s : Rat} {q : Rq} (hq : q ∈ R) (ts : t ≤ s) (h : rdHas q s = true) : ∃ m c, m ∈ soM R true t ∧ offF R m = some c ∧ c ≤ rdOn q s := by
  obtain ⟨h1, h2⟩ := rdHas_iff.mp h
  have key : ∀ x, q.1 ≤ x → x ≤ q.2.1 → (x = t ∨ (t < x ∧ x ∈ endsR R)) → rdOn q x ≤ rdOn q s → ∃ m c, m ∈ soM R true t ∧ offF R m = some c ∧ c ≤ rdOn q s := fun x a b d e => by
    obtain ⟨c, ec, hc⟩ := offF_le hq (rdHas_iff.mpr ⟨a, b⟩)
    refine ⟨x, c, soM_mem.mpr ?_, ec, Rat.le_trans hc e⟩
    rcases d with d | ⟨d1, d2⟩
    · exact .inl d
    · exact .inr ⟨rfl, d2, d1⟩
  by_cases c0 : q.1 ≤ t
  · rcases onP_min (b := q.1) (p := q.2) ts h2 with w | w
    · exact key t c0 (Rat.le_trans ts h2) (.inl rfl) w
    · by_cases c1 : q.2.1 = t
      · exact key _ (Rat.le_trans h1 h2) Rat.le_refl (.inl c1) w
      · exact key _ (Rat.le_trans h1 h2) Rat.le_refl (.inr ⟨by grind, endsR_mem.mpr ⟨q, hq, .inr rfl⟩⟩) w
  · have c0 : t < q.1 := Rat.not_le.mp c0
    rcases onP_min (b := q.1) (p := q.2) h1 h2 with w | w
    · exact key _ Rat.le_refl (Rat.le_trans h1 h2) (.inr ⟨c0, endsR_mem.mpr ⟨q, hq, .inl rfl⟩⟩) w
    · exact key _ (Rat.le_trans h1 h2) Rat.le_refl (.inr ⟨by grind, endsR_mem.mpr ⟨q, hq, .inr rfl⟩⟩) w
theorem soM_ge {R : List Rq} {t x : Rat} {w : Bool} (h : x ∈ soM R w t) : t ≤ x := by
  rw [soM_mem] at h
  rcases h with h | ⟨_, _, h⟩
  · rw [h]
    exact Rat.le_refl
  · exact Rat.le_of_lt h
theorem waitG_iff {R : List Rq} {t c : Rat} : waitG R t = some c ↔ IsG R t c := by
  have fw : ∀ c, waitG R t = some c → IsG R t c := fun c h => by
    obtain ⟨g, eg, rfl⟩ := Option.map_eq_some_iff.mp h
    rcases soF_spec (R := R) (soM_up (w := true) (t := t)) with ⟨e, _⟩ | ⟨m, d, e, hm, ed, hl⟩
    · rw [eg] at e
      cases e
    · rw [eg] at e
      cases e
      refine ⟨⟨m, soM_ge hm, ed⟩, fun s hs c' e' => ?_⟩
      obtain ⟨q, hq, hh, rfl⟩ := offF_at e'
      obtain ⟨m', c2, hm', ec2, l2⟩ := ride_low hq hs hh
      exact Rat.le_trans (hl m' hm' c2 ec2).1 l2
  refine ⟨fw c, fun h => ?_⟩
  obtain ⟨s, hs, es⟩ := h.at_
  obtain ⟨q, hq, hh, e⟩ := offF_at es
  obtain ⟨m', c2, hm', ec2, l2⟩ := ride_low hq hs hh
  cases ew : waitG R t with
  | none =>
    have e0 : soF R (soM R true t) = none := Option.map_eq_none_iff.mp ew
    rcases soF_spec (R := R) (soM_up (w := true) (t := t)) with ⟨_, hn⟩ | ⟨m, d, e, _⟩
    · rw [hn m' hm'] at ec2
      cases ec2
    · rw [e0] at e
      cases e
  | some d => rw [(fw d ew).eq h]
theorem waitG_none {R : List Rq} {t : Rat} : waitG R t = none ↔ ∀ s, t ≤ s → offF R s = none := by
  constructor
  · intro h s hs
    cases e : offF R s with
    | none => rfl
    | some c =>
      obtain ⟨q, hq, hh, _⟩ := offF_at e
      obtain ⟨m', c2, hm', ec2, l2⟩ := ride_low hq hs hh
      have e0 : soF R (soM R true t) = none := Option.map_eq_none_iff.mp h
      rcases soF_spec (R := R) (soM_up (w := true) (t := t)) with ⟨_, hn⟩ | ⟨m, d, e, _⟩
      · rw [hn m' hm'] at ec2
        cases ec2
      · rw [e0] at e
        cases e
  · intro h
    cases e : waitG R t with
    | none => rfl
    | some c =>
      obtain ⟨s, hs, es⟩ := (waitG_iff.mp e).at_
      rw [h s hs] at es
      cases es
theorem waitG_mono {R : List Rq} {s t c d : Rat} (h : s ≤ t) (e1 : waitG R s = some c) (e2 : waitG R t = some d) : c ≤ d := by
  obtain ⟨r, hr, er⟩ := (waitG_iff.mp e2).at_
  exact (waitG_iff.mp e1).le r (Rat.le_trans h hr) d er
theorem waitG_ge {k : Nat} {R : List Rq} {t c : Rat} (o : ∀ q ∈ R, RqOk k q) (e : waitG R t = some c) : t ≤ c := by
  obtain ⟨r, hr, er⟩ := (waitG_iff.mp e).at_
  exact Rat.le_trans hr (offF_ge o er)
def minR (x y : Rat) : Rat := if y < x then y else x
def maxR (x y : Rat) : Rat := if x < y then y else x
def meetR (q p : Rq) : List Rat := if maxR q.1 p.1 < minR q.2.1 p.2.1 then crossL (maxR q.1 p.1) (minR q.2.1 p.2.1) (rdOn q (maxR q.1 p.1), rdOn q (minR q.2.1 p.2.1)) (rdOn p (maxR q.1 p.1), rdOn p (minR q.2.1 p.2.1)) else []
def meetsL : List Rq → List Rq → List Rat
  | _, [] => []
  | P, q :: R => P.flatMap (meetR q) ++ meetsL (P ++ [q]) R
def corners (R : List Rq) : List Rat := inTurn (endsR R ++ meetsL [] R)
def midM (b e : Rat) : Rat := (b + e) * Rat.divInt 1 2
theorem midM_eq {b e : Rat} : midM b e = (b + e) / 2 := by
  unfold midM
  rw [Rat.divInt_eq_div]
  show (b + e) * (1 / 2) = _
  grind
theorem midM_in {b e : Rat} (h : b < e) : b < midM b e ∧ midM b e < e := by
  rw [midM_eq]
  constructor <;> grind
theorem ride_lin {u : Ru} {d : Int} (o : RuS' 40 u) (d1 : 1 ≤ d) (zd : Sz 40 d) : LinP 83 (uR d u).1 (uR d u).2 := by
  obtain ⟨z1, z2, z3, z4⟩ := o.z
  have d0 : (0 : Rat) < (d : Rat) := cast_pos (by omega)
  have eu : uR d u = ((u.1 : Rat) / (d : Rat), (u.2.1 : Rat) / (d : Rat), (u.2.2.1 : Rat) / (d : Rat), (u.2.2.2 : Rat) / (d : Rat)) := by
    unfold uR
    simp only [Rat.divInt_eq_div]
  rw [eu]
  by_cases c : u.1 = u.2.1
  · refine ⟨0, u.2.2.1, d, by omega, (by unfold Sz; decide), z3.mono (by decide), zd.mono (by decide), fun t => ?_⟩
    unfold onP
    simp only
    rw [if_pos (by rw [c])]
    simp only [Rat.intCast_zero]
    grind
  · have lt : u.1 < u.2.1 := by have := o.o; omega
    have hl : (0 : Rat) < (u.2.1 : Rat) - (u.1 : Rat) := by
      have : (u.1 : Rat) < (u.2.1 : Rat) := Rat.intCast_lt_intCast.mpr lt
      grind
    refine ⟨(u.2.2.2 - u.2.2.1) * d, u.2.2.1 * (u.2.1 - u.1) - u.1 * (u.2.2.2 - u.2.2.1), (u.2.1 - u.1) * d, Int.mul_pos (by omega) (by omega), ((z4.sub z3).mul zd).mono (by decide), ((z3.mul (z2.sub z1)).sub (z1.mul (z4.sub z3))).mono (by decide), ((z2.sub z1).mul zd).mono (by decide), fun t => ?_⟩
    unfold onP
    simp only
    rw [if_neg (fun w => by rw [div_inj' d0] at w; exact c (Rat.intCast_inj.mp w.symm))]
    simp only [Rat.intCast_mul, Rat.intCast_sub]
    have h1 : (u.2.1 : Rat) / (d : Rat) - (u.1 : Rat) / (d : Rat) = ((u.2.1 : Rat) - (u.1 : Rat)) / (d : Rat) := by
      rw [Rat.div_def, Rat.div_def, Rat.div_def]
      grind
    rw [h1]
    generalize (u.2.1 : Rat) - (u.1 : Rat) = L at *
    have hL : L * (d : Rat) ≠ 0 := by
      have := Rat.mul_pos hl d0
      grind
    have h2 : (t - (u.1 : Rat) / (d : Rat)) / (L / (d : Rat)) = (t * (d : Rat) - (u.1 : Rat)) / L := by
      rw [cross (by
        intro w
        have := Rat.div_mul_cancel (a := L) (b := (d : Rat)) (by grind)
        rw [w] at this
        grind) (by grind)]
      have e1 := Rat.div_mul_cancel (a := L) (b := (d : Rat)) (by grind)
      have e2 := Rat.div_mul_cancel (a := (u.1 : Rat)) (b := (d : Rat)) (by grind)
      generalize L / (d : Rat) = l at *
      generalize (u.1 : Rat) / (d : Rat) = v at *
      rw [← e1, ← e2]
      grind
    rw [h2]
    have e1 := Rat.div_mul_cancel (a := (u.2.2.1 : Rat)) (b := (d : Rat)) (by grind)
    have e2 := Rat.div_mul_cancel (a := (u.2.2.2 : Rat)) (b := (d : Rat)) (by grind)
    have e3 := Rat.div_mul_cancel (a := t * (d : Rat) - (u.1 : Rat)) (b := L) (by grind)
    have e4 := Rat.div_mul_cancel (a := ((u.2.2.2 : Rat) - (u.2.2.1 : Rat)) * (d : Rat) * t + ((u.2.2.1 : Rat) * L - (u.1 : Rat) * ((u.2.2.2 : Rat) - (u.2.2.1 : Rat)))) (b := L * (d : Rat)) hL
    generalize (((u.2.2.2 : Rat) - (u.2.2.1 : Rat)) * (d : Rat) * t + ((u.2.2.1 : Rat) * L - (u.1 : Rat) * ((u.2.2.2 : Rat) - (u.2.2.1 : Rat)))) / (L * (d : Rat)) = X at *
    generalize (t * (d : Rat) - (u.1 : Rat)) / L = w at *
    generalize (u.2.2.1 : Rat) / (d : Rat) = c1 at *
    generalize (u.2.2.2 : Rat) / (d : Rat) = c2 at *
    rw [← e1, ← e2] at e4
    have e5 : t * (d : Rat) = w * L + u.1 := by grind
    have key : (c1 + (c2 - c1) * w) * (L * (d : Rat)) = X * (L * (d : Rat)) := by
      rw [e4]
      have : (c2 * (d : Rat) - c1 * (d : Rat)) * (d : Rat) * t = (c2 - c1) * (d : Rat) * (w * L + u.1) := by
        rw [← e5]
        grind
      rw [this]
      grind
    have := Rat.mul_div_cancel (a := c1 + (c2 - c1) * w) hL
    have := Rat.mul_div_cancel (a := X) hL
    rw [key] at *
    grind
end DL
namespace DL
open PySem PySem.Spec PyProof.Rows L2
def NoOver (R : List Rq) : Prop := ∀ t, 0 ≤ t → offF R t = waitG R t
end DL
namespace DL
open PySem PySem.Spec L2
section
variable {b su : SM} {ds : List D} {h h1 : Hd} {d d1 d2 d3 : D} {s s1 : Sl} {am : AM} {c : String} {fs : List String} {f1 f2 f3 : String}
def xo (c : String) (fs : List String) (ds : List D) : XD := ⟨.type c, some (flV fs ds)⟩
def Res.kRI (r : Res (List D)) (c : String) (fs : List String) (s : Sl) : SR := match r with
  | .ok ds h1 => if ds.length = fs.length ∧ ds.length ≤ 1000 then .exc (xo c fs ds) s h1 else .bad
  | _ => .bad
theorem ev_raiseI_I : sRaiseI c fs am s h = (am s h).kRI c fs s := rfl
theorem kRI1_I : (Res.ok [d1] h).kRI c [f1] s = .exc (xo c [f1] [d1]) s h := by
  unfold Res.kRI
  exact if_pos (by simp)
end
end DL
namespace DL
open PySem PySem.Spec L2
class Ob (h : Hd) (n : Nat) (o : outParam MO) : Prop where
  q : h[n]? = some o
class Ot (g : Hd) (k : Nat) (o : outParam MO) : Prop where
  q : g[k]? = some o
section
variable {h g : Hd} {n k p : Nat} {o u : MO} {c : PS} {kvs : List (Key × D)} {s : Sl} {d : D} {xs : List D}
instance ot_0 : Ot (o :: g) 0 o := ⟨rfl⟩
instance ot_s [q : Ot g k o] : Ot (u :: g) (k + 1) o := ⟨by simpa using q.q⟩
instance ob_app [q : Ob h n o] : Ob (h ++ g) n o := ⟨by
  have := q.q
  rw [List.getElem?_append_left (List.getElem?_eq_some_iff.mp this).1]
  exact this⟩
instance ob_at [q : Ot g k o] : Ob (h ++ g) (h.length + k) o := ⟨by rw [get_at]; exact q.q⟩
instance ob_at0 : Ob (h ++ o :: g) h.length o := ⟨by rw [get_at0]; rfl⟩
instance ob_HP [q : Ob h n o] [z : Ne2 p n] : Ob (HP h p c) n o := ⟨by unfold HP; rw [List.getElem?_set_ne z.ne]; exact q.q⟩
instance ob_HPk [q : Ot g k o] : Ob (HP h p c ++ g) (h.length + k) o := ⟨by
  have := get_at (h := HP h p c) (g := g) (k := k)
  rw [HP_len_I] at this
  rw [this]; exact q.q⟩
instance ob_HP0 : Ob (HP h p c ++ o :: g) h.length o := ⟨by
  have := get_at0 (h := HP h p c) (g := o :: g)
  rw [HP_len_I] at this
  rw [this]; rfl⟩
theorem Ob.lt [q : Ob h n o] : n < h.length := (List.getElem?_eq_some_iff.mp q.q).1
instance ob_set [q : Ob h n o] : Ob (h.set n u) n u := ⟨by rw [List.getElem?_set_self q.lt]⟩
theorem set_app_l (hl : n < h.length) : (h ++ g).set n u = h.set n u ++ g := by rw [List.set_append_left _ _ hl]
abbrev kS (w : List Nat) : Key := .inr ⟨w.toArray⟩
theorem kS_inj {a b : List Nat} : (kS a = kS b) ↔ a = b := ⟨fun e => by
  have e := Sum.inr.inj e
  have := congrArg (fun s : Str => s.cps.toList) e
  simpa using this, fun e => by rw [e]⟩
theorem keyD_T {w : List Nat} : keyD (T w) = some (kS w) := rfl
theorem dct_of [q : Ob h n (.dK kvs)] : dctOf h (.ref n) = some kvs := by unfold dctOf; simp only [q.q]
theorem dct_ofF [q : Ob h n (.dF kvs)] : dctOf h (.ref n) = some kvs := by unfold dctOf; simp only [q.q]
theorem dctF_of [q : Ob h n (.dF kvs)] : dctF h (.ref n) = some kvs := by unfold dctF; simp only [q.q]
def getR (o : Option D) (h : Hd) : Res D := match o with
  | some v => .ok v h
  | none => .bad
theorem getR_I {v : D} : getR (some v) h = .ok v h := rfl
theorem dDG_I {w : List Nat} [q : Ob h n (.dK kvs)] : dDG (.ref n) (T w) h = getR (valK kvs (kS w)) h := by
  unfold dDG
  rw [dct_of, keyD_T]
  rfl
theorem dDGF_I {w : List Nat} [q : Ob h n (.dF kvs)] : dDG (.ref n) (T w) h = getR (valK kvs (kS w)) h := by
  unfold dDG
  rw [dct_ofF, keyD_T]
  rfl
theorem dDI_I {w : List Nat} {neg : Bool} [q : Ob h n (.dK kvs)] : dDI neg (T w) (.ref n) h = .ok (.bl (neg ^^ (valK kvs (kS w)).isSome)) h := by
  unfold dDI
  rw [dct_of, keyD_T]
theorem dSetD_I {w : List Nat} {z : D} [q : Ob h n (.dK kvs)] (hl : kvs.length < 1000000) : dSetD (.ref n) (T w) z h = .ok () (h.set n (.dK (putD kvs (kS w) z))) := by
  unfold dSetD
  rw [keyD_T]
  simp only [q.q]
  rw [if_pos (Nat.lt_of_lt_of_le hl (by decide +kernel))]
noncomputable def Res.kLock (r : Res D) (m : SM) (s : Sl) (h : Hd) : SR := match r with
  | .ok (.ref n) _ => (match h[n]? with
    | some (.dK kds) => (m s (h.set n (.dF kds))).unl n
    | _ => m s h)
  | _ => m s h
theorem ev_sLock_I {e : EM} {m : SM} : sLock e m s h = (e s h).kLock m s h := rfl
theorem kLock_I {m : SM} {h1 : Hd} [q : Ob h n (.dK kvs)] : (Res.ok (.ref n) h1).kLock m s h = (m s (h.set n (.dF kvs))).unl n := by
  unfold Res.kLock
  simp only [q.q]
theorem unlS_nx_I [q : Ob h n (.dF kvs)] : (SR.nx s h).unl n = .nx s (h.set n (.dK kvs)) := by
  unfold SR.unl
  simp only [q.q]
noncomputable def Res.kKey (r : Res D) : Res ItD := r.bind fun x h1 => match dctF h1 x with
  | some kvs => .ok (kvs.map (fun kv => kD kv.1), fun _ => True) h1
  | none => .bad
noncomputable def Res.kItm (r : Res D) : Res ItD := r.bind fun x h1 => match dctF h1 x with
  | some kvs => .ok (kvs.map (fun kv => .tup [kD kv.1, kv.2]), fun _ => True) h1
  | none => .bad
noncomputable def Res.kVal (r : Res D) : Res ItD := r.bind fun x h1 => match dctF h1 x with
  | some kvs => .ok (kvs.map (fun kv => kv.2), fun _ => True) h1
  | none => .bad
theorem ev_iKey_I {m : EM} : iKey m s h = (m s h).kKey := rfl
theorem ev_iItm_I {m : EM} : iItm m s h = (m s h).kItm := rfl
theorem ev_iVal_I {m : EM} : iVal m s h = (m s h).kVal := rfl
theorem kKey_of [q : Ob h n (.dF kvs)] : (Res.ok (.ref n) h).kKey = .ok (kvs.map (fun kv => kD kv.1), fun _ => True) h := by
  unfold Res.kKey
  rw [Res.bind_ok, dctF_of]
theorem kItm_of [q : Ob h n (.dF kvs)] : (Res.ok (.ref n) h).kItm = .ok (kvs.map (fun kv => .tup [kD kv.1, kv.2]), fun _ => True) h := by
  unfold Res.kItm
  rw [Res.bind_ok, dctF_of]
theorem kVal_of [q : Ob h n (.dF kvs)] : (Res.ok (.ref n) h).kVal = .ok (kvs.map (fun kv => kv.2), fun _ => True) h := by
  unfold Res.kVal
  rw [Res.bind_ok, dctF_of]
theorem ev_DN_I : eDN s h = .ok (.ref h.length) (h ++ [.dK []]) := rfl
theorem cl_refs {d : D} : D.lo 0 d = true → D.refs d = [] := by
  refine D.rec (motive_1 := fun d => D.lo 0 d = true → D.refs d = []) (motive_2 := fun l => D.loAll 0 l = true → D.refsAll l = []) ?_ ?_ ?_ ?_ ?_ ?_ ?_ ?_ ?_ ?_ ?_ ?_ d
  · intro _; rfl
  · intro _ _; rfl
  · intro _ _; rfl
  · intro _ _; rfl
  · intro _ _; rfl
  · intro xs ih e; rw [lo_tup] at e; unfold D.refs; exact ih e
  · intro xs ih e; rw [lo_rol] at e; unfold D.refs; exact ih e
  · intro n e; rw [lo_ref] at e; simp at e
  · intro _ _; rfl
  · intro _ _ _ xs ih e; unfold D.lo at e; unfold D.refs; exact ih e
  · intro _; rfl
  · intro x xs i1 i2 e; rw [lo_cons, Bool.and_eq_true] at e; unfold D.refsAll; rw [i1 e.1, i2 e.2]; rfl
theorem cl_ren {d : D} {f : Nat → Nat} : D.lo 0 d = true → D.ren f d = d := by
  refine D.rec (motive_1 := fun d => D.lo 0 d = true → D.ren f d = d) (motive_2 := fun l => D.loAll 0 l = true → D.renAll f l = l) ?_ ?_ ?_ ?_ ?_ ?_ ?_ ?_ ?_ ?_ ?_ ?_ d
  · intro _; rfl
  · intro _ _; rfl
  · intro _ _; rfl
  · intro _ _; rfl
  · intro _ _; rfl
  · intro xs ih e; rw [lo_tup] at e; unfold D.ren; rw [ih e]
  · intro xs ih e; rw [lo_rol] at e; unfold D.ren; rw [ih e]
  · intro n e; rw [lo_ref] at e; simp at e
  · intro _ _; rfl
  · intro _ _ _ xs ih e; unfold D.lo at e; unfold D.ren; rw [ih e]
  · intro _; rfl
  · intro x xs i1 i2 e; rw [lo_cons, Bool.and_eq_true] at e; unfold D.renAll; rw [i1 e.1, i2 e.2]
theorem cl_inn {d : D} {n : Nat} {js : List Nat} : D.lo 0 d = true → D.inn n js d = true := by
  refine D.rec (motive_1 := fun d => D.lo 0 d = true → D.inn n js d = true) (motive_2 := fun l => D.loAll 0 l = true → D.innAll n js l = true) ?_ ?_ ?_ ?_ ?_ ?_ ?_ ?_ ?_ ?_ ?_ ?_ d
  · intro _; rfl
  · intro _ _; rfl
  · intro _ _; rfl
  · intro _ _; rfl
  · intro _ _; rfl
  · intro xs ih e; rw [lo_tup] at e; unfold D.inn; exact ih e
  · intro xs ih e; rw [lo_rol] at e; unfold D.inn; exact ih e
  · intro n e; rw [lo_ref] at e; simp at e
  · intro _ _; rfl
  · intro _ _ _ xs ih e; unfold D.lo at e; unfold D.inn; exact ih e
  · intro _; rfl
  · intro x xs i1 i2 e; rw [lo_cons, Bool.and_eq_true] at e; unfold D.innAll; rw [i1 e.1, i2 e.2]; rfl
theorem KDs.lo_iff {κ : Type} {n : Nat} : ∀ {kvs : List (κ × D)}, KDs.lo n kvs = true ↔ ∀ kv ∈ kvs, D.lo n kv.2 = true
  | [] => by simp [KDs.lo]
  | (k, d) :: r => by
    unfold KDs.lo
    rw [Bool.and_eq_true, KDs.lo_iff (kvs := r)]
    simp
theorem cl_mo {o : MO} (h : MO.lo 0 o = true) : MO.refs o = [] ∧ (∀ f, MO.ren f o = o) ∧ ∀ n js, MO.inn n js o = true := by
  have kv : ∀ {κ : Type} {kvs : List (κ × D)}, KDs.lo 0 kvs = true → (kvs.flatMap fun kv => D.refs kv.2) = [] ∧ (∀ f, KDs.map (D.ren f) kvs = kvs) ∧ ∀ n js, (kvs.all fun kv => D.inn n js kv.2) = true := fun {κ kvs} e => by
    rw [KDs.lo_iff] at e
    refine ⟨List.flatMap_eq_nil_iff.mpr fun x hx => cl_refs (e x hx), fun f => ?_, fun n js => List.all_eq_true.mpr fun x hx => cl_inn (e x hx)⟩
    unfold KDs.map
    rw [List.map_congr_left (g := id) fun x hx => by rw [cl_ren (e x hx)]; rfl, List.map_id]
  cases o with
  | lst xs =>
    have e : D.lo 0 (.tup xs) = true := by rw [lo_tup]; exact h
    refine ⟨?_, fun f => ?_, fun n js => ?_⟩
    · have := cl_refs e
      unfold D.refs at this
      exact this
    · have := cl_ren (f := f) e
      unfold D.ren at this
      show MO.lst _ = _
      rw [D.tup.inj this]
    · have := cl_inn (n := n) (js := js) e
      unfold D.inn at this
      exact this
  | dK ks => exact ⟨(kv h).1, fun f => by show MO.dK _ = _; rw [(kv h).2.1 f], (kv h).2.2⟩
  | dF ks => exact ⟨(kv h).1, fun f => by show MO.dF _ = _; rw [(kv h).2.1 f], (kv h).2.2⟩
  | dT ks => exact ⟨(kv h).1, fun f => by show MO.dT _ = _; rw [(kv h).2.1 f], (kv h).2.2⟩
  | dG ks => exact ⟨(kv h).1, fun f => by show MO.dG _ = _; rw [(kv h).2.1 f], (kv h).2.2⟩
theorem gcT_of {h h' H : Hd} {d d' : D} (js : List Nat) (ok : OkBelow h h') (hn : newsD h h' d = js) (nd : js.Nodup) (new : ∀ j ∈ js, h.length ≤ j ∧ ∃ o, h'[j]? = some o ∧ o.inn h.length js = true) (inn : d.inn h.length js = true)
    (hd : d.ren (rn h.length js) = d') (hH : keepH h h' js = H) : gcT h d h' = .ok d' H := by
  unfold gcT gc2
  rw [hn, if_pos ⟨ok, nd, new, inn⟩, hd, hH]
theorem ev_run2_I {N : Nat} {sm : SM} : runB2 N sm xs h = (sm (xs.map some ++ List.replicate (N - xs.length) none) h).fin2 h := rfl
theorem fin2_rt_I {h1 : Hd} : (SR.rt d h).fin2 h1 = gcT h1 d h := rfl
end
section
variable {h g A A1 l l1 tk : Hd} {n k m : Nat} {o : MO} {kvs : List (Key × D)}
class LwK (h : Hd) (kvs : List (Key × D)) : Prop where
  lo : ∀ kv ∈ kvs, kv.2.lo h.length = true
theorem LwK.mo [q : LwK h kvs] : MO.lo h.length (.dK kvs) = true := KDs.lo_iff.mpr q.lo
instance (priority := low) pre_dK {B : Hd} [q : PreL B l l1 tk] [z : LwK B kvs] : PreL B (o :: l) (.dK kvs :: l1) (.dK kvs :: tk) := ⟨by simp [q.tk], by simpa using q.len, fun i u hi e => by
  cases i with
  | zero => simp at e; subst e; exact .inl z.mo
  | succ i => exact (q.ok i u (by simpa using hi) (by simpa using e)).imp_right (by simp)⟩
instance lw_refO [q : Ob h n o] : Lw h (.ref n) := ⟨by rw [lo_ref]; exact decide_eq_true q.lt⟩
theorem gcnK_I [p1 : Hsp h A l] {h1 : Hd} [p2 : Hsp h1 A1 l1] [q : OkA A A1] [t : PreL h l l1 tk] [e : Rsp A1 m k] [u : Ot l1 k (.dK kvs)] [w : LwK h kvs] (hk : l.length ≤ k) : gc h (.ref m) h1 = .ok (.ref h.length) (A1 ++ (tk ++ [.dK kvs])) := by
  obtain ⟨e1, e2⟩ := okb_of (h := h) (h1 := h1) (tk := tk)
  have hl : h.length = A1.length + l.length := by rw [p1.e, List.length_append, q.len]
  unfold gc
  rw [if_pos e1, if_neg (by rw [lo_ref, e.e, hl]; simpa using hk)]
  simp only
  rw [e.e, p2.e, get_at, u.q]
  simp only
  rw [if_pos w.mo, ← p2.e, e2, List.append_assoc]
end
section
variable {α : Type} {f : α → D} {nm : α → List Nat}
def dctK (nm : α → List Nat) (f : α → D) (zs : List α) : List (Key × D) := zs.map fun z => (kS (nm z), f z)
theorem valK_dct {zs : List α} {w : List Nat} : valK (dctK nm f zs) (kS w) = (zs.find? fun z => decide (nm z = w)).map f := by
  unfold valK dctK
  rw [List.find?_map, Option.map_map]
  congr 1
  congr 1
  funext z
  exact decide_eq_decide.mpr kS_inj
theorem putD_new {zs : List α} {z : α} (hn : ∀ y ∈ zs, nm y ≠ nm z) : putD (dctK nm f zs) (kS (nm z)) (f z) = dctK nm f (zs ++ [z]) := by
  unfold putD
  rw [if_neg]
  · unfold dctK
    rw [List.map_append]
    rfl
  · unfold dctK
    rw [List.any_map, List.any_eq_true]
    rintro ⟨y, hy, e⟩
    simp only [Function.comp, decide_eq_true_eq] at e
    exact hn y hy (kS_inj.mp e)
theorem find_mem {zs : List α} {z : α} (nd : (zs.map nm).Nodup) (hz : z ∈ zs) : (zs.find? fun y => decide (nm y = nm z)) = some z := by
  induction zs with
  | nil => cases hz
  | cons y ys ih =>
    rw [List.map_cons, List.nodup_cons] at nd
    rw [List.find?_cons]
    by_cases e : nm y = nm z
    · rw [decide_eq_true e]
      rcases List.mem_cons.mp hz with rfl | hz
      · rfl
      · exact absurd (e ▸ List.mem_map_of_mem hz) nd.1
    · rw [decide_eq_false e]
      rcases List.mem_cons.mp hz with rfl | hz
      · exact absurd rfl e
      · exact ih nd.2 hz
end
section
variable {h : Hd} {n : Nat} {kvs : List (Key × D)} {xs : List D}
theorem dClear_I [q : Ob h n (.dK kvs)] : dClear (.ref n) h = .ok .non (h.set n (.dK [])) := by
  unfold dClear
  simp only [q.q]
end
section
variable {h : Hd}
theorem eqDs_self {F : D → D → Bool} : ∀ {xs : List D}, (∀ x ∈ xs, F x x = true) → eqDs F xs xs = true
  | [], _ => rfl
  | x :: xs, q => by
    unfold eqDs
    rw [q x (by simp), eqDs_self fun y hy => q y (by simp [hy])]
    rfl
theorem eqD_pl : ∀ (n : Nat) (x : D), D.pl n x = true → eqD h (n + 1) x x = true
  | n, x, q => by
    rcases pl_cases q with rfl | ⟨i, rfl⟩ | ⟨s, rfl⟩ | ⟨m, xs, rfl, rfl, hx⟩
    · rfl
    · unfold eqD sameD; simp
    · unfold eqD sameD; simp
    · have := eqDs_self (F := eqD h (m + 1)) (xs := xs) fun x hx' => eqD_pl m x (List.all_eq_true.mp hx x hx')
      show (sameD _ _ || eqDs (eqD h (m + 1)) xs xs || _) = true
      rw [this]
      simp
theorem eqD_le : ∀ {n : Nat} {x y : D}, eqD h n x y = true → ∀ {m : Nat}, n ≤ m → eqD h m x y = true := by
  have ds : ∀ {F G : D → D → Bool}, (∀ x y, F x y = true → G x y = true) → ∀ {xs ys : List D}, eqDs F xs ys = true → eqDs G xs ys = true := by
    intro F G hFG xs
    induction xs with
    | nil => intro ys e; cases ys with
      | nil => rfl
      | cons _ _ => cases e
    | cons x xs ih => intro ys e; cases ys with
      | nil => cases e
      | cons y ys =>
        unfold eqDs at e ⊢
        rw [Bool.and_eq_true] at e ⊢
        exact ⟨hFG _ _ e.1, ih e.2⟩
  intro n
  induction n with
  | zero => intro x y e; cases e
  | succ n ih =>
    intro x y e m hm
    obtain ⟨m, rfl⟩ : ∃ k, m = k + 1 := ⟨m - 1, by omega⟩
    have ih' : ∀ x y, eqD h n x y = true → eqD h m x y = true := fun x y e => ih e (by omega)
    unfold eqD at e ⊢
    rw [Bool.or_eq_true, Bool.or_eq_true] at e ⊢
    rcases e with (e | e) | e
    · exact .inl (.inl e)
    · refine .inl (.inr ?_)
      unfold eqS at e ⊢
      split at e
      · exact ds ih' e
      · split at e
        · unfold eqKs at e ⊢
          rw [Bool.and_eq_true, List.all_eq_true] at e ⊢
          refine ⟨e.1, fun p hp => ?_⟩
          have := e.2 p hp
          split at this
          · exact ih' _ _ this
          · cases this
        · cases e
      · cases e
    · refine .inr ?_
      unfold eqL at e ⊢
      split at e
      · split at e
        · exact ds ih' e
        · cases e
      · cases e
section
variable {α : Type} {f f' : α → D} {nm : α → List Nat}
theorem eqKs_dct {F : D → D → Bool} {zs ys : List α} (nd : (ys.map nm).Nodup) (hl : zs.length = ys.length) (hm : ∀ z ∈ zs, z ∈ ys ∧ F (f z) (f' z) = true) : eqKs F (dctK nm f zs) (dctK nm f' ys) = true := by
  unfold eqKs
  rw [Bool.and_eq_true]
  refine ⟨by unfold dctK; simp [hl], List.all_eq_true.mpr fun p hp => ?_⟩
  obtain ⟨z, hz, rfl⟩ := List.mem_map.mp hp
  obtain ⟨h1, h2⟩ := hm z hz
  simp only
  rw [valK_dct, find_mem nd h1]
  exact h2
end
theorem eqS_dct {F : D → D → Bool} {n m : Nat} {ks ls : List (Key × D)} {o u : MO} [p : Ob h n o] [q : Ob h m u] (h1 : kvsM o = some ks) (h2 : kvsM u = some ls) (e : eqKs F ks ls = true) : eqS h F (.ref n) (.ref m) = true := by
  unfold eqS
  simp only [p.q, q.q, Option.bind_some, h1, h2]
  exact e
theorem dEqX_t {neg : Bool} {x y : D} (e : eqS h (eqD h 40) x y = true) : dEqX neg x y h = .ok (.bl (neg ^^ true)) h := by
  unfold dEqX
  rw [if_pos e]
end
end DL
namespace DL
open PySem PySem.Spec L2
section
variable {c : PS} {m : Int}
end
section
variable {l a b : List Nat} {h : Hd}
end
def NmOk (w : List Nat) : Prop := 1 ≤ w.length ∧ w.length ≤ 8 ∧ ∀ c ∈ w, 97 ≤ c ∧ c ≤ 122
class Nm (w : List Nat) : Prop where
  ok : NmOk w
instance tx_nm {w : List Nat} [q : Nm w] : Tx w := ⟨fun c hc => by have := q.ok.2.2 c hc; omega⟩
section
variable {w : List Nat} {ws : List (List Nat)} {h : Hd} {neg : Bool}
theorem pl_T {n : Nat} [t : Tx w] : D.pl n (T w) = true := by
  have := shaped_T (a := w)
  unfold SeqAt.shaped at this
  rw [Bool.and_eq_true] at this
  have q : PyData.canLay0 (.str ⟨w.toArray⟩) = true := this.1
  cases n <;> exact q
theorem pyAll_T : ∀ ws : List (List Nat), D.pyAll (ws.map T) = some (ws.map fun w => PyData.str ⟨w.toArray⟩)
  | [] => rfl
  | w :: ws => by
    rw [List.map_cons, List.map_cons]
    unfold D.pyAll
    rw [pyAll_T ws]
    rfl
theorem layAll_T : ∀ ws : List (List Nat), (∀ w ∈ ws, Tx w) → PyData.canLayAll0 (ws.map fun w => PyData.str ⟨w.toArray⟩) = true ∧ PyData.depthAll (ws.map fun w => PyData.str ⟨w.toArray⟩) = 0
  | [], _ => ⟨rfl, rfl⟩
  | w :: ws, hw => by
    obtain ⟨i1, i2⟩ := layAll_T ws fun y hy => hw y (by simp [hy])
    have t := hw w (by simp)
    have := shaped_T (a := w)
    unfold SeqAt.shaped at this
    rw [Bool.and_eq_true] at this
    refine ⟨?_, ?_⟩
    · rw [List.map_cons]
      unfold PyData.canLayAll0
      rw [this.1, i1]
      rfl
    · rw [List.map_cons]
      unfold PyData.depthAll
      rw [i2]
      rfl
theorem any_T (ws : List (List Nat)) : ((ws.map fun w => PyData.str ⟨w.toArray⟩).any fun z => PyData.eqv z (.str ⟨w.toArray⟩)) = decide (w ∈ ws) := by
  rw [List.any_map]
  rw [Bool.eq_iff_iff, List.any_eq_true, decide_eq_true_eq]
  constructor
  · rintro ⟨y, hy, e⟩
    have e : (decide ((⟨y.toArray⟩ : Str) = ⟨w.toArray⟩)) = true := by simpa [PyData.eqv] using e
    have := congrArg (fun s : Str => s.cps.toList) (of_decide_eq_true e)
    simp only at this
    rw [← this]
    exact hy
  · intro hw
    exact ⟨w, hw, by simp [PyData.eqv]⟩
theorem shaped_Ts (hw : ∀ w ∈ ws, Tx w) : SeqAt.shaped (.list (ws.map fun w => PyData.str ⟨w.toArray⟩)) = true ∧ SeqAt.shaped (.tuple (ws.map fun w => PyData.str ⟨w.toArray⟩)) = true := by
  obtain ⟨i1, i2⟩ := layAll_T ws hw
  constructor
  · unfold SeqAt.shaped PyData.canLay0 PyData.depth
    rw [i1, i2]
    rfl
  · unfold SeqAt.shaped PyData.canLay0 PyData.depth
    rw [i1, i2]
    rfl
theorem dIn_Tt [t : Tx w] (hw : ∀ w ∈ ws, Tx w) : dIn neg (T w) (.tup (ws.map T)) h = .ok (.bl (neg ^^ decide (w ∈ ws))) h := by
  have e : pyH h (T w) = some (.str ⟨w.toArray⟩) := rfl
  unfold dIn
  simp only [e, pyAll_T]
  rw [if_pos ⟨shaped_T, (shaped_Ts hw).2⟩, any_T]
theorem dIn_Tl {n : Nat} [t : Tx w] (hw : ∀ w ∈ ws, Tx w) [q : Ls h n (ws.map T)] : dIn neg (T w) (.ref n) h = .ok (.bl (neg ^^ decide (w ∈ ws))) h := by
  have e : pyH h (T w) = some (.str ⟨w.toArray⟩) := rfl
  have e2 : pyL h (.ref n) = some (ws.map fun w => PyData.str ⟨w.toArray⟩) := by
    unfold pyL
    simp only [lsOf_I, Option.bind_some, pyAll_T]
  unfold dIn
  simp only [e, e2]
  rw [if_pos ⟨shaped_T, (shaped_Ts hw).1⟩, any_T]
def sortN (ws : List (List Nat)) : List (List Nat) := (sortT (ws.map fun w => (⟨w.toArray⟩ : Str))).map fun s => s.cps.toList
theorem sortN_perm : (sortN ws).Perm ws := by
  unfold sortN
  have := (sortT_perm (ws.map fun w => (⟨w.toArray⟩ : Str))).map fun s => s.cps.toList
  rw [List.map_map] at this
  simpa [Function.comp_def] using this
theorem sortN_T : (sortT (ws.map fun w => (⟨w.toArray⟩ : Str))).map D.str = (sortN ws).map T := by
  unfold sortN
  rw [List.map_map]
  exact List.map_congr_left fun s _ => T_str
theorem strsOf_T : ∀ ws : List (List Nat), strsOf (ws.map T) = some (ws.map fun w => (⟨w.toArray⟩ : Str))
  | [] => rfl
  | w :: ws => by
    rw [List.map_cons]
    show (strsOf (ws.map T)).map _ = _
    rw [strsOf_T ws]
    rfl
theorem namesOf_dct {α : Type} {f : α → D} {nm : α → List Nat} : ∀ zs : List α, namesOf (dctK nm f zs) = some ((zs.map nm).map fun w => (⟨w.toArray⟩ : Str))
  | [] => rfl
  | z :: zs => by
    show (namesOf (dctK nm f zs)).map _ = _
    rw [namesOf_dct zs]
    rfl
theorem bSortT_d {α : Type} {f : α → D} {nm : α → List Nat} {zs : List α} {n : Nat} [q : Ob h n (.dK (dctK nm f zs))] (hl : zs.length < 64) : bSortT [.ref n] h = .ok (.ref h.length) (h ++ [.lst ((sortN (zs.map nm)).map T)]) := by
  unfold bSortT
  simp only [dct_of, namesOf_dct]
  rw [if_pos (by rw [List.length_map, List.length_map]; exact hl), sortN_T]
end
section
variable {h h' A A1 g : Hd} {n p : Nat} {o u : MO} {c c' : PS} {xs : List D} {kvs : List (Key × D)}
instance (priority := low) ob_ls [q : Ls h n xs] : Ob h n (.lst xs) := ⟨q.q⟩
theorem setHP_I [z : Ne2 p n] : (HP h p c).set n u = HP (h.set n u) p c := by
  unfold HP
  rw [List.set_comm _ _ z.ne]
theorem set_appO_I [q : Ob A n o] : (A ++ g).set n u = A.set n u ++ g := set_app_l q.lt
end
theorem nodup_len {α : Type} [DecidableEq α] : ∀ {L ws : List α}, L.Nodup → (∀ w ∈ L, w ∈ ws) → L.length ≤ ws.length
  | [], _, _, _ => Nat.zero_le _
  | a :: L, ws, nd, h => by
    rw [List.nodup_cons] at nd
    have ha := h a (by simp)
    have := nodup_len (L := L) (ws := ws.erase a) nd.2 fun w hw => (List.mem_erase_of_ne (fun e => nd.1 (by rw [← e]; exact hw))).mpr (h w (by simp [hw]))
    rw [List.length_erase_of_mem ha] at this
    have := List.length_pos_of_mem ha
    rw [List.length_cons]
    omega
theorem while_go {t : TM} {b : SM} {s : Sl} {h : Hd} {r : SR} {n : Nat} {P : Sl → Hd → Prop} (hW : sWhile t b s h = r) (I : Nat → Sl → Hd → Prop) (i0 : I n s h)
    (ht : ∀ n s h, I n s h → (∃ h1, t s h = .ok true h1 ∧ ∃ s2 h2 m, b s h1 = .nx s2 h2 ∧ m < n ∧ I m s2 h2) ∨ (∃ h1, t s h = .ok false h1 ∧ P s h1)) : ∃ s2 h2, r = .nx s2 h2 ∧ P s2 h2 := by
  subst hW
  induction n using Nat.strongRecOn generalizing s h with
  | ind n ih =>
    rcases ht n s h i0 with ⟨h1, e1, s2, h2, m, e2, hm, i⟩ | ⟨h1, e1, p⟩
    · obtain ⟨s3, h3, e3, p⟩ := ih m hm i
      exact ⟨s3, h3, by rw [while_step e1 e2, e3], p⟩
    · exact ⟨s, h1, while_end e1, p⟩
end DL
namespace DL
open PySem PySem.Spec L2
section
variable {h g : Hd} {n k p : Nat} {o u : MO} {c : PS} {xs : List D}
variable {α : Type} {f : α → D} {nm : α → List Nat} {zs : List α}
theorem kKey_I [q : Ob h n (.dF (dctK nm f zs))] : (Res.ok (.ref n) h).kKey = .ok (zs.map (fun z => T (nm z)), fun _ => True) h := by
  rw [kKey_of]
  unfold dctK
  rw [List.map_map]
  rfl
theorem kItm_I [q : Ob h n (.dF (dctK nm f zs))] : (Res.ok (.ref n) h).kItm = .ok (zs.map (fun z => .tup [T (nm z), f z]), fun _ => True) h := by
  rw [kItm_of]
  unfold dctK
  rw [List.map_map]
  rfl
theorem kVal_I [q : Ob h n (.dF (dctK nm f zs))] : (Res.ok (.ref n) h).kVal = .ok (zs.map f, fun _ => True) h := by
  rw [kVal_of]
  unfold dctK
  rw [List.map_map]
  rfl
instance lwk_dct [q : ∀ z, Lw h (f z)] : LwK h (dctK nm f zs) := ⟨fun kv hk => by
  obtain ⟨z, _, rfl⟩ := List.mem_map.mp hk
  exact (q z).lo⟩
theorem dct_len : (dctK nm f zs).length = zs.length := by unfold dctK; rw [List.length_map]
end
structure Tie where
  nm : List Nat
  a : List Nat
  b : List Nat
  rs : List Rq
def RdsD (rs : List Rq) : D := .tup (rs.map QdD)
def TieD (t : Tie) : D := .tup [T t.a, T t.b, RdsD t.rs]
abbrev tiesK (ts : List Tie) : List (Key × D) := dctK Tie.nm TieD ts
theorem valK_I {ts : List Tie} {w : List Nat} : valK (tiesK ts) (kS w) = (ts.find? fun z => decide (z.nm = w)).map TieD := valK_dct
section
variable {h : Hd} {t : Tie} {q : Rq} {rs : List Rq}
instance lw_QdN {q : Rq} : Lw h (QdD q) := ⟨by
  show D.lo _ (.tup [FQ _, FQ _, FQ _, FQ _]) = true
  rw [lo_tup, lo_cons, lo_cons, lo_cons, lo_cons, lo_nil, lo_FQ, lo_FQ, lo_FQ, lo_FQ]
  rfl⟩
instance lw_Rds : Lw h (RdsD rs) := ⟨by
  show D.lo _ (.tup _) = true
  rw [lo_tup]
  exact loAll_of fun x hx => by
    obtain ⟨q, _, rfl⟩ := List.mem_map.mp hx
    exact lw_QdN.lo⟩
instance lw_Tie : Lw h (TieD t) := ⟨by
  show D.lo _ (.tup [T _, T _, RdsD _]) = true
  rw [lo_tup, lo_cons, lo_cons, lo_cons, lo_nil, lo_T, lo_T, lw_Rds.lo]
  rfl⟩
theorem dIx_Tie0_I : dIx (TieD t) (.int 0) h = .ok (T t.a) h := rfl
theorem dIx_Tie1_I : dIx (TieD t) (.int 1) h = .ok (T t.b) h := rfl
theorem dIx_Tie2_I : dIx (TieD t) (.int 2) h = .ok (RdsD t.rs) h := rfl
theorem gT_Tie_I {gs : GMs} {s : Sl} : gT 3 gs (TieD t) s h = gs [T t.a, T t.b, RdsD t.rs] s h := rfl
theorem iSeq_Rds_I : iSeq (RdsD rs) h = .ok (rs.map QdD, fun _ => True) h := rfl
theorem pl_Qd {n : Nat} : D.pl (n + 2) (QdD q) = true := by
  show ([FQ _, FQ _, FQ _, FQ _] : List D).all (D.pl (n + 1)) = true
  rw [List.all_cons, List.all_cons, List.all_cons, List.all_cons, pl_FQ, pl_FQ, pl_FQ, pl_FQ]
  rfl
theorem pl_Rds {n : Nat} : D.pl (n + 3) (RdsD rs) = true := by
  show (rs.map QdD).all (D.pl (n + 2)) = true
  rw [List.all_map, List.all_eq_true]
  exact fun x _ => pl_Qd
theorem pl_Tie {n : Nat} [t1 : Tx t.a] [t2 : Tx t.b] : D.pl (n + 4) (TieD t) = true := by
  show ([T _, T _, RdsD _] : List D).all (D.pl (n + 3)) = true
  rw [List.all_cons, List.all_cons, List.all_cons, pl_T, pl_T, pl_Rds]
  rfl
theorem pl_Ts {n : Nat} {ws : List (List Nat)} (hw : ∀ w ∈ ws, Tx w) : D.pl (n + 1) (.tup (ws.map T)) = true := by
  show (ws.map T).all (D.pl n) = true
  rw [List.all_map, List.all_eq_true]
  exact fun w h => by
    have := hw w h
    exact pl_T
end
structure Tu where
  nm : List Nat
  a : List Nat
  b : List Nat
  us : List Ru
def tieU (d : Int) (t : Tu) : Tie := ⟨t.nm, t.a, t.b, t.us.map (uR d)⟩
structure Nu where
  d : Int
  e : Int
  ps : List (List Nat)
  ws : List (List Nat)
  ts : List Tu
def Nu.end (N : Nu) : Rat := Rat.divInt N.e N.d
def Nu.ties (N : Nu) : List Tie := N.ts.map (tieU N.d)
theorem news_closed {h' : Hd} {n : Nat} : ∀ (js acc : List Nat) (f : Nat), (∀ j ∈ js, ∃ o, h'[j]? = some o ∧ MO.lo 0 o = true) → (acc ++ js).Nodup → js.length < f → news h' n f js acc = acc ++ js
  | [], acc, f, _, _, hf => by
    obtain ⟨f, rfl⟩ : ∃ k, f = k + 1 := ⟨f - 1, by simp at hf; omega⟩
    unfold news
    simp
  | j :: js, acc, f, hc, nd, hf => by
    obtain ⟨f, rfl⟩ : ∃ k, f = k + 1 := ⟨f - 1, by simp at hf; omega⟩
    obtain ⟨o, ho, lo⟩ := hc j (by simp)
    have hn : acc.contains j = false := by
      rw [List.contains_eq_mem, decide_eq_false_iff_not]
      intro hj
      exact (List.nodup_append.mp nd).2.2 _ hj _ List.mem_cons_self rfl
    unfold news
    rw [hn, if_neg (by simp), ho]
    simp only [Option.map_some, Option.getD_some, (cl_mo lo).1]
    rw [show newR n [] = [] from rfl, List.nil_append, news_closed js (acc ++ [j]) f (fun i hi => hc i (by simp [hi])) (by rw [List.append_assoc]; exact nd) (by simp at hf; omega), List.append_assoc]
    rfl
theorem gcT_cl {h h' H : Hd} {d d' : D} (js : List Nat) (ok : OkBelow h h') (hr : newR h.length d.refs = js) (nd : js.Nodup) (hl : js.length < 1000) (hc : ∀ j ∈ js, h.length ≤ j ∧ ∃ o, h'[j]? = some o ∧ MO.lo 0 o = true) (inn : d.inn h.length js = true)
    (hd : d.ren (rn h.length js) = d') (hH : h'.take h.length ++ js.map (fun j => (h'[j]?).getD (.lst [])) = H) : gcT h d h' = .ok d' H := by
  refine gcT_of js ok ?_ nd (fun j hj => ?_) inn hd ?_
  · unfold newsD
    rw [hr]
    exact news_closed js [] 1000 (fun j hj => (hc j hj).2) nd hl
  · obtain ⟨h1, o, h2, h3⟩ := hc j hj
    exact ⟨h1, o, h2, (cl_mo h3).2.2 _ _⟩
  · unfold keepH
    rw [← hH]
    congr 1
    refine List.map_congr_left fun j hj => ?_
    obtain ⟨h1, o, h2, h3⟩ := hc j hj
    rw [h2, Option.getD_some]
    exact (cl_mo h3).2.1 _
theorem okb_tail {h g : Hd} : OkBelow h (h ++ g) := fun i o hi e => .inr (by rw [List.getElem?_append_left hi] at e; exact e)
theorem gcT_net {h : Hd} {x w : D} {o : MO} (l1 : Lw ([] : Hd) x) (l2 : Lw ([] : Hd) w) (lo : MO.lo 0 o = true) : gcT h (.tup [x, w, .ref h.length]) (h ++ [o]) = .ok (.tup [x, w, .ref h.length]) (h ++ [o]) := by
  refine gcT_cl [h.length] okb_tail ?_ (by simp) (by simp) (fun j hj => ?_) ?_ ?_ ?_
  · simp only [D.refs, D.refsAll, cl_refs l1.lo, cl_refs l2.lo, List.nil_append, List.append_nil]
    simp [newR]
  · rw [List.mem_singleton.mp hj]
    exact ⟨Nat.le_refl _, o, by simp, lo⟩
  · simp only [D.inn, D.innAll, cl_inn l1.lo, cl_inn l2.lo]
    simp
  · simp only [D.ren, D.renAll, cl_ren l1.lo, cl_ren l2.lo, rn]
    simp
  · simp
theorem kLc_st {σ α β : Type} {emb : α → D} {f : β → D} {g : GM} {t : TM} {e : EM} {vs : List Nat} {s : Sl} {xs : List α} {chk : Hd → Prop} {n : Nat} (G : σ → Hd) (I : List α → σ → List β → Prop) {st0 : σ} (i0 : I [] st0 []) (hn : ∀ st, (G st).length = n) (hc : ∀ pre st ys, I pre st ys → chk (G st ++ [.lst (ys.map f)])) (hl : xs.length < 1000000)
    (he : ∀ pre x post st ys, xs = pre ++ x :: post → I pre st ys → ∃ s1, g (emb x) (wipeD s vs) (G st ++ [.lst (ys.map f)]) = .ok s1 (G st ++ [.lst (ys.map f)]) ∧ ((∃ st1, t s1 (G st ++ [.lst (ys.map f)]) = .ok false (G st1 ++ [.lst (ys.map f)]) ∧ I (pre ++ [x]) st1 ys) ∨
      ∃ st1 st2 y, t s1 (G st ++ [.lst (ys.map f)]) = .ok true (G st1 ++ [.lst (ys.map f)]) ∧ e s1 (G st1 ++ [.lst (ys.map f)]) = .ok (f y) (G st2 ++ [.lst (ys.map f)]) ∧ I (pre ++ [x]) st2 (ys ++ [y]))) :
    ∃ (ys : List β) (st : σ), I xs st ys ∧ (Res.ok (xs.map emb, chk) (G st0)).kLc g t e vs s = .ok (.ref n) (G st ++ [.lst (ys.map f)]) := by
  have key : ∀ (zs pre : List α) (st : σ) (ys : List β), xs = pre ++ zs → ys.length ≤ pre.length → I pre st ys → ∃ (ys2 : List β) (st2 : σ), I xs st2 ys2 ∧ lcD chk g t e vs n s (zs.map emb) (G st ++ [.lst (ys.map f)]) = .ok () (G st2 ++ [.lst (ys2.map f)]) := by
    intro zs
    induction zs with
    | nil =>
      intro pre st ys ex hl2 i
      rw [List.append_nil] at ex
      subst ex
      refine ⟨ys, st, i, ?_⟩
      rw [List.map_nil]
      unfold lcD
      rw [if_pos (hc _ st ys i)]
    | cons x zs ih =>
      intro pre st ys ex hl2 i
      obtain ⟨s1, e1, q⟩ := he pre x zs st ys ex i
      have lx := congrArg List.length ex
      rw [List.length_append, List.length_cons] at lx
      rw [List.map_cons]
      unfold lcD
      rw [if_pos (hc _ st ys i), e1]
      simp only
      rcases q with ⟨st1, e2, i2⟩ | ⟨st1, st2, y, e2, e3, i2⟩
      · rw [e2, Res.bind_ok, if_neg (by simp)]
        exact ih (pre ++ [x]) st1 ys (by rw [ex, List.append_assoc]; rfl) (by rw [List.length_append]; simp; omega) i2
      · rw [e2, Res.bind_ok, if_pos rfl, e3, Res.bind_ok, appD_mid (hn st2) (by rw [List.length_map]; omega), Res.bind_ok]
        have := ih (pre ++ [x]) st2 (ys ++ [y]) (by rw [ex, List.append_assoc]; rfl) (by rw [List.length_append, List.length_append]; simp; omega) i2
        rw [List.map_append] at this
        exact this
  obtain ⟨ys, st, i, ek⟩ := key xs [] st0 [] rfl (Nat.le_refl _) i0
  refine ⟨ys, st, i, ?_⟩
  show (lcD chk g t e vs (G st0).length s (xs.map emb) (G st0 ++ [.lst []])).bind _ = _
  rw [hn st0]
  rw [List.map_nil] at ek
  rw [ek, Res.bind_ok]
theorem at_idx {α : Type} {L : List α} {f : α → D} {i : Int} (h0 : 0 ≤ i) (h1 : i < (L.length : Int)) : ∃ hi : i.toNat < L.length, atI (L.map f) i = some (f L[i.toNat]) := by
  obtain ⟨n, rfl⟩ := Int.eq_ofNat_of_zero_le h0
  have hn : n < L.length := by omega
  refine ⟨by omega, ?_⟩
  rw [at_nat (by rw [List.length_map]; exact hn)]
  simp
theorem idx_ne {α : Type} {L : List α} {i j : Nat} (nd : L.Nodup) (hi : i < L.length) (hj : j < L.length) (h : i ≠ j) : L[i] ≠ L[j] := by
  rw [List.nodup_iff_pairwise_ne, List.pairwise_iff_getElem] at nd
  rcases Nat.lt_or_gt_of_ne h with q | q
  · exact nd i j hi hj q
  · exact fun e => nd j i hj hi q e.symm
section
variable {d : D} {f : Nat → Nat} {n : Nat} {js : List Nat} {h : Hd} {m k p : Nat} {o : MO} {c : PS}
theorem refs_cl [q : Lw ([] : Hd) d] : D.refs d = [] := cl_refs q.lo
theorem ren_cl [q : Lw ([] : Hd) d] : D.ren f d = d := cl_ren q.lo
theorem inn_cl [q : Lw ([] : Hd) d] : D.inn n js d = true := cl_inn q.lo
theorem cl_dK {kvs : List (Key × D)} [q : LwK ([] : Hd) kvs] : MO.lo 0 (.dK kvs) = true := LwK.mo (h := [])
theorem get_HPk {g : Hd} : (HP h p c ++ g)[h.length + k]? = g[k]? := by
  have := get_at (h := HP h p c) (g := g) (k := k)
  rw [HP_len_I] at this
  exact this
theorem newR_cons {l : List Nat} {j : Nat} : newR n (j :: l) = if n ≤ j then j :: newR n l else newR n l := by
  unfold newR
  rw [List.filter_cons]
  simp
theorem newR_nil : newR n [] = [] := rfl
theorem take_HP {g : Hd} : (HP h p c ++ g).take h.length = HP h p c := by
  rw [List.take_append_of_le_length (by rw [HP_len_I]; exact Nat.le_refl _), List.take_of_length_le (by rw [HP_len_I]; exact Nat.le_refl _)]
end
theorem refsAll_T {ws : List (List Nat)} : D.refsAll (ws.map T) = [] := by
  have := refs_cl (d := .tup (ws.map T))
  unfold D.refs at this
  exact this
theorem renAll_T {ws : List (List Nat)} {f : Nat → Nat} : D.renAll f (ws.map T) = ws.map T := by
  have := ren_cl (d := .tup (ws.map T)) (f := f)
  unfold D.ren at this
  exact D.tup.inj this
theorem innAll_T {ws : List (List Nat)} {n : Nat} {js : List Nat} : D.innAll n js (ws.map T) = true := by
  have := inn_cl (d := .tup (ws.map T)) (n := n) (js := js)
  unfold D.inn at this
  exact this
theorem omap_I {α β : Type} {f : α → β} {a : α} : (some a).map f = some (f a) := rfl
theorem omap0_I {α β : Type} {f : α → β} : (none : Option α).map f = none := rfl
section
variable {h : Hd} {n m : Nat} {x w : D} {ts : List Tie}
theorem eqKs_ties {k : Nat} (hk : 6 ≤ k) (nd : (ts.map Tie.nm).Nodup) (ht : ∀ t ∈ ts, Tx t.a ∧ Tx t.b) : eqKs (eqD h k) (tiesK ts) (tiesK ts) = true :=
  eqKs_dct nd rfl fun t h1 => ⟨h1, by
    obtain ⟨t1, t2⟩ := ht t h1
    exact eqD_le (eqD_pl 4 _ (pl_Tie (n := 0))) (by omega)⟩
end
end DL
namespace DL
open PySem PySem.Spec L2
section
variable {β : Type} {g : β → D} {zs : List (List Nat × β)} {w : List Nat} {c : β}
abbrev dctP (g : β → D) (zs : List (List Nat × β)) : List (Key × D) := dctK Prod.fst (fun p : List Nat × β => g p.2) zs
def putP (zs : List (List Nat × β)) (w : List Nat) (c : β) : List (List Nat × β) :=
  if zs.any (fun p => decide (p.1 = w)) = true then zs.map (fun p => if p.1 = w then (p.1, c) else p) else zs ++ [(w, c)]
def getP (zs : List (List Nat × β)) (w : List Nat) : Option β := (zs.find? fun p => decide (p.1 = w)).map (·.2)
theorem putD_P : putD (dctP g zs) (kS w) (g c) = dctP g (putP zs w c) := by
  unfold putD putP
  have e : ((dctP g zs).any fun kv => decide (kv.1 = kS w)) = zs.any fun p => decide (p.1 = w) := by
    unfold dctP dctK
    rw [List.any_map]
    congr 1
    funext p
    exact decide_eq_decide.mpr kS_inj
  rw [e]
  split
  · unfold dctP dctK
    rw [List.map_map, List.map_map]
    refine List.map_congr_left fun p _ => ?_
    simp only [Function.comp]
    by_cases q : p.1 = w
    · rw [if_pos (kS_inj.mpr q), if_pos q]
    · rw [if_neg (fun z => q (kS_inj.mp z)), if_neg q]
  · unfold dctP dctK
    rw [List.map_append]
    rfl
theorem valK_P : valK (dctP g zs) (kS w) = (getP zs w).map g := by
  rw [valK_dct]
  unfold getP
  rw [Option.map_map]
  rfl
theorem getP_some {x : List Nat × β} (nd : (zs.map Prod.fst).Nodup) (hx : x ∈ zs) : getP zs x.1 = some x.2 := by
  unfold getP
  rw [find_mem nd hx]
  rfl
theorem putP_names : (putP zs w c).map Prod.fst = if w ∈ zs.map Prod.fst then zs.map Prod.fst else zs.map Prod.fst ++ [w] := by
  unfold putP
  by_cases h : w ∈ zs.map Prod.fst
  · rw [if_pos h, if_pos]
    · rw [List.map_map]
      refine List.map_congr_left fun p _ => ?_
      simp only [Function.comp]
      split <;> rfl
    · obtain ⟨p, hp, e⟩ := List.mem_map.mp h
      exact List.any_eq_true.mpr ⟨p, hp, decide_eq_true e⟩
  · rw [if_neg h, if_neg]
    · rw [List.map_append]
      rfl
    · intro q
      obtain ⟨p, hp, e⟩ := List.any_eq_true.mp q
      exact h (List.mem_map.mpr ⟨p, hp, of_decide_eq_true e⟩)
theorem putP_nd (nd : (zs.map Prod.fst).Nodup) : ((putP zs w c).map Prod.fst).Nodup := by
  rw [putP_names]
  split
  · exact nd
  · rename_i h
    rw [List.nodup_append]
    exact ⟨nd, by simp, fun a ha b hb => by rw [List.mem_singleton.mp hb]; exact fun e => h (e ▸ ha)⟩
theorem getP_put {v : List Nat} : getP (putP zs w c) v = if v = w then some c else getP zs v := by
  unfold putP
  split
  · rename_i h
    unfold getP
    rw [List.find?_map, Option.map_map]
    have e : ((fun p : List Nat × β => decide (p.1 = v)) ∘ fun p => if p.1 = w then (p.1, c) else p) = fun p => decide (p.1 = v) := by
      funext p
      simp only [Function.comp]
      split <;> rfl
    rw [e]
    cases q : zs.find? fun p => decide (p.1 = v) with
    | none =>
      by_cases hv : v = w
      · subst hv
        rw [List.find?_eq_none] at q
        obtain ⟨p, hp, e⟩ := List.any_eq_true.mp h
        exact absurd e (q p hp)
      · rw [if_neg hv]
        rfl
    | some p =>
      have h2 := List.find?_some q
      rw [decide_eq_true_eq] at h2
      show some _ = _
      simp only [Function.comp]
      by_cases hv : v = w
      · rw [if_pos hv, if_pos (by rw [h2, hv])]
      · rw [if_neg hv, if_neg (by rw [h2]; exact hv)]
        rfl
  · rename_i h
    unfold getP
    rw [List.find?_append]
    cases q : zs.find? fun p => decide (p.1 = v) with
    | none =>
      rw [Option.none_or]
      by_cases hv : v = w
      · subst hv
        simp
      · rw [if_neg hv]
        have hv2 : ¬ w = v := fun e => hv e.symm
        simp [hv2]
    | some p =>
      have h2 := List.find?_some q
      rw [decide_eq_true_eq] at h2
      by_cases hv : v = w
      · exfalso
        refine h (List.any_eq_true.mpr ⟨p, List.mem_of_find?_eq_some q, decide_eq_true (by rw [h2, hv])⟩)
      · rw [if_neg hv]
        rfl
theorem valK_P_I : valK (dctP g zs) (kS w) = (getP zs w).map g := valK_P
theorem omap_is_I {α γ : Type} {o : Option α} {f : α → γ} : (o.map f).isSome = o.isSome := by cases o <;> rfl
end
structure Tie.Ok (ws : List (List Nat)) (t : Tie) : Prop where
  ta : Tx t.a
  tb : Tx t.b
  tn : Tx t.nm
  o : ∀ q ∈ t.rs, RqOk 40 q
  l : ∀ q ∈ t.rs, LinP 83 q.1 q.2
  ln : t.rs.length ≤ 20
  no : t.a ∈ ws ∨ NoOver t.rs
abbrev Tie.G (t : Tie) : Rat → Option Rat := waitG t.rs
theorem waitG_sz {R : List Rq} {t c : Rat} {k K m : Nat} (o : ∀ q ∈ R, RqOk k q) (l : ∀ q ∈ R, LinP K q.1 q.2) (zt : SzQ m t) (km : k ≤ m) (e : waitG R t = some c) : SzQ (m + K + 1) c := by
  unfold waitG at e
  obtain ⟨g, eg, rfl⟩ := Option.map_eq_some_iff.mp e
  obtain ⟨z1, _, _, eo⟩ := soF_sz o (soM_sz (w := true) o zt km) eg
  obtain ⟨q, hq, _, ev⟩ := offF_at eo
  rw [← ev]
  exact ((l q hq).at z1).mono (by omega)
noncomputable def Res.kDP2 (r : Res D) (y : D) (n : Nat) : Res D := r.bind fun z h2 => match keyD y, h2[n]? with
  | some k, some (.dK []) => .ok (.ref n) (h2.set n (.dK [(k, z)]))
  | _, _ => .bad
noncomputable def Res.kDP (r : Res D) (mv : EM) (s : Sl) (n : Nat) : Res D := r.bind fun y h1 => (mv s h1).kDP2 y n
theorem ev_DP_I {mk mv : EM} {s : Sl} {h : Hd} : eDP mk mv s h = (mk s (h ++ [.dK []])).kDP mv s h.length := rfl
theorem kDP_I {mv : EM} {s : Sl} {h : Hd} {n : Nat} {y : D} : (Res.ok y h).kDP mv s n = (mv s h).kDP2 y n := rfl
theorem kDP2_I {h : Hd} {n : Nat} {w : List Nat} {z : D} [q : Ob h n (.dK [])] : (Res.ok z h).kDP2 (T w) n = .ok (.ref n) (h.set n (.dK [(kS w, z)])) := by
  unfold Res.kDP2
  rw [Res.bind_ok, keyD_T]
  simp only [q.q]
theorem gcS_keepL {A h g : Hd} {s : Sl} {n : Nat} {xs : List D} (hs : some (D.ref n) ∈ s) (q : (h ++ g)[n]? = some (.lst xs)) (hl : h.length ≤ A.length) : ∃ g', (SR.nx s (h ++ g)).gcS A = .nx s (h ++ g') ∧ (h ++ g')[n]? = some (.lst xs) := by
  unfold SR.gcS
  simp only
  split
  · rename_i w
    have lo := w.2 _ hs
    rw [lo_ref, decide_eq_true_eq] at lo
    have e1 : (h ++ g).take A.length = h ++ g.take (A.length - h.length) := by rw [List.take_append, List.take_of_length_le hl]
    refine ⟨g.take (A.length - h.length), by rw [e1], ?_⟩
    rw [← e1, List.getElem?_take_of_lt lo]
    exact q
  · exact ⟨g, rfl, q⟩
end DL
namespace DL
open PySem PySem.Spec L2
abbrev Pl := List Nat
structure Arc where
  a : Pl
  b : Pl
  L : Rat → Option Rat
structure Better (le : Rat → Rat → Prop) : Prop where
  refl : ∀ x, le x x
  trans : ∀ {x y z}, le x y → le y z → le x z
  total : ∀ x y, le x y ∨ le y x
  anti : ∀ {x y}, le x y → le y x → x = y
theorem better_ge : Better (fun x y : Rat => y ≤ x) := ⟨fun x => Rat.le_refl, fun a b => Rat.le_trans b a, fun x y => Rat.le_total, fun a b => Rat.le_antisymm b a⟩
structure Arc.Ok (le : Rat → Rat → Prop) (A : Arc) : Prop where
  mono : ∀ {x y u}, le x y → A.L x = some u → ∃ v, A.L y = some v ∧ le u v
  far : ∀ {x u}, A.L x = some u → le u x
abbrev Fm := Pl → Option Rat
def Geq (le : Rat → Rat → Prop) (f f' : Fm) : Prop := ∀ q z, f q = some z → ∃ z', f' q = some z' ∧ le z z'
inductive Wk (As : List Arc) (g : Pl) (m : Rat) : List (Pl × Rat) → Prop
  | one : Wk As g m [(g, m)]
  | step {A : Arc} {x y : Rat} {w : List (Pl × Rat)} : A ∈ As → Wk As g m ((A.b, y) :: w) → A.L y = some x → Wk As g m ((A.a, x) :: (A.b, y) :: w)
def Sd (le : Rat → Rat → Prop) (As : List Arc) (g : Pl) (m : Rat) (f : Fm) : Prop := ∀ p x, f p = some x → ∃ w, Wk As g m ((p, x) :: w) ∧ (((p, x) :: w).map Prod.fst).Nodup ∧ ∀ q ∈ (p, x) :: w, ∃ z, f q.1 = some z ∧ le q.2 z
def Cp (le : Rat → Rat → Prop) (As : List Arc) (g : Pl) (m : Rat) (n : Nat) (f : Fm) : Prop := ∀ p x w, Wk As g m ((p, x) :: w) → w.length ≤ n → ∃ z, f p = some z ∧ le x z
def Stp (le : Rat → Rat → Prop) (A : Arc) (f f' : Fm) : Prop :=
  (f' = f ∧ ∀ y x, f A.b = some y → A.L y = some x → ∃ z, f A.a = some z ∧ le x z) ∨
  ∃ y x, f A.b = some y ∧ A.L y = some x ∧ (∀ z, f A.a = some z → ¬ le x z) ∧ f' A.a = some x ∧ ∀ q, q ≠ A.a → f' q = f q
section
variable {le : Rat → Rat → Prop} {As : List Arc} {g : Pl} {m : Rat} {n : Nat} {f f' f'' : Fm} {A : Arc}
theorem Stp.geq (B : Better le) (s : Stp le A f f') : Geq le f f' := fun q z h => by
  rcases s with ⟨rfl, _⟩ | ⟨y, x, _, _, hn, ha, ho⟩
  · exact ⟨z, h, B.refl z⟩
  · by_cases e : q = A.a
    · subst e
      exact ⟨x, ha, (B.total z x).resolve_right (hn z h)⟩
    · exact ⟨z, (ho q e).trans h, B.refl z⟩
theorem Wk.down (B : Better le) (ok : ∀ A ∈ As, A.Ok le) : ∀ {w : List (Pl × Rat)}, Wk As g m w → ∀ p x v, w = (p, x) :: v → ∀ q ∈ w, le x q.2 := fun {w} h => by
  induction h with
  | one =>
    intro p x v e q hq
    cases e
    rw [List.mem_singleton.mp hq]
    exact B.refl _
  | @step A x' y' w' hA hw hL ih =>
    intro p x v e q hq
    cases e
    rcases List.mem_cons.mp hq with rfl | hq
    · exact B.refl _
    · exact B.trans ((ok A hA).far hL) (ih _ _ _ rfl q hq)
theorem Wk.places {P : List Pl} (hg : g ∈ P) (ha : ∀ A ∈ As, A.a ∈ P) {w : List (Pl × Rat)} (h : Wk As g m w) : ∀ q ∈ w, q.1 ∈ P := by
  induction h with
  | one =>
    intro q hq
    rw [List.mem_singleton.mp hq]
    exact hg
  | @step A x y w hA _ _ ih =>
    intro q hq
    rcases List.mem_cons.mp hq with rfl | hq
    · exact ha A hA
    · exact ih q hq
theorem Sd.step (B : Better le) (ok : ∀ A ∈ As, A.Ok le) (hA : A ∈ As) (sd : Sd le As g m f) (s : Stp le A f f') : Sd le As g m f' := fun p x hp => by
  have up := s.geq B
  rcases s with ⟨rfl, _⟩ | ⟨y, x', hy, hx, hn, ha, ho⟩
  · exact sd p x hp
  · by_cases e : p = A.a
    · subst e
      rw [ha] at hp
      cases hp
      obtain ⟨w, hw, nd, dm⟩ := sd A.b y hy
      refine ⟨(A.b, y) :: w, .step hA hw hx, ?_, fun q hq => ?_⟩
      · rw [List.map_cons, List.nodup_cons]
        refine ⟨fun hm => ?_, nd⟩
        obtain ⟨q, hq, e⟩ := List.mem_map.mp hm
        obtain ⟨z, hz, lz⟩ := dm q hq
        have := hw.down B ok _ _ _ rfl q hq
        rw [e] at hz
        exact hn z hz (B.trans ((ok A hA).far hx) (B.trans this lz))
      · rcases List.mem_cons.mp hq with rfl | hq
        · exact ⟨x, ha, B.refl _⟩
        · obtain ⟨z, hz, lz⟩ := dm q hq
          obtain ⟨z', hz', lz'⟩ := up q.1 z hz
          exact ⟨z', hz', B.trans lz lz'⟩
    · rw [ho p e] at hp
      obtain ⟨w, hw, nd, dm⟩ := sd p x hp
      refine ⟨w, hw, nd, fun q hq => ?_⟩
      obtain ⟨z, hz, lz⟩ := dm q hq
      obtain ⟨z', hz', lz'⟩ := up q.1 z hz
      exact ⟨z', hz', B.trans lz lz'⟩
theorem Sd.short {P : List Pl} (hg : g ∈ P) (ha : ∀ A ∈ As, A.a ∈ P) (hP : P.length ≤ n + 1) (sd : Sd le As g m f) {p : Pl} {x : Rat} (h : f p = some x) : ∃ w, Wk As g m ((p, x) :: w) ∧ w.length ≤ n := by
  obtain ⟨w, hw, nd, _⟩ := sd p x h
  refine ⟨w, hw, ?_⟩
  have := nodup_len nd (ws := P) fun v hv => by
    obtain ⟨q, hq, rfl⟩ := List.mem_map.mp hv
    exact hw.places hg ha q hq
  rw [List.length_map, List.length_cons] at this
  omega
theorem fm_same (B : Better le) {P : List Pl} (hg : g ∈ P) (ha : ∀ A ∈ As, A.a ∈ P) (hP : P.length ≤ n + 1) (s1 : Sd le As g m f) (c1 : Cp le As g m n f) (s2 : Sd le As g m f') (c2 : Cp le As g m n f') : f = f' := by
  have key : ∀ {f f' : Fm}, Sd le As g m f → Cp le As g m n f' → Geq le f f' := fun s c q z hz => by
    obtain ⟨w, hw, lw⟩ := s.short hg ha hP hz
    exact c _ _ _ hw lw
  funext p
  have k1 := key s1 c2 p
  have k2 := key s2 c1 p
  cases e : f p with
  | none => cases e' : f' p with
    | none => rfl
    | some z =>
      obtain ⟨z', hz', _⟩ := k2 z e'
      rw [e] at hz'
      cases hz'
  | some x =>
    obtain ⟨z, hz, lz⟩ := k1 x e
    obtain ⟨z', hz', lz'⟩ := k2 z hz
    rw [e] at hz'
    cases hz'
    rw [hz, B.anti lz lz']
theorem Cp.all (B : Better le) (ok : ∀ A ∈ As, A.Ok le) (h0 : ∃ z, f g = some z ∧ le m z) (h : ∀ A ∈ As, ∀ x y, f A.b = some y → A.L y = some x → ∃ z, f A.a = some z ∧ le x z) : ∀ n, Cp le As g m n f := fun n p x w hw hl => by
  clear hl
  generalize e : (p, x) :: w = v at hw
  induction hw generalizing p x w with
  | one =>
    cases e
    exact h0
  | @step A x' y w' hA hw hx ih =>
    cases e
    obtain ⟨y', hy', ly'⟩ := ih _ _ _ rfl
    obtain ⟨x', hx', lx'⟩ := (ok A hA).mono ly' hx
    obtain ⟨z, hz, lz⟩ := h A hA _ _ hy' hx'
    exact ⟨z, hz, B.trans lx' lz⟩
theorem Sd.start (B : Better le) (h : ∀ p x, f p = some x → p = g ∧ x = m) : Sd le As g m f := fun p x hp => by
  obtain ⟨rfl, rfl⟩ := h p x hp
  exact ⟨[], .one, by simp, fun q hq => by rw [List.mem_singleton.mp hq]; exact ⟨x, hp, B.refl x⟩⟩
theorem Wk.prop {Q : Nat → Rat → Prop} (q0 : Q 0 m) (qs : ∀ A ∈ As, ∀ n x y, Q n y → A.L y = some x → Q (n + 1) x) : ∀ {w : List (Pl × Rat)}, Wk As g m w → ∀ p x v, w = (p, x) :: v → Q v.length x := fun {w} h => by
  induction h with
  | one =>
    intro p x v e
    cases e
    exact q0
  | @step A x' y' w' hA hw hL ih =>
    intro p x v e
    cases e
    exact qs A hA _ _ _ (ih _ _ _ rfl) hL
theorem Sd.prop {Q : Nat → Rat → Prop} {P : List Pl} (hg : g ∈ P) (ha : ∀ A ∈ As, A.a ∈ P) (hP : P.length ≤ n + 1) (q0 : Q 0 m) (qs : ∀ A ∈ As, ∀ n x y, Q n y → A.L y = some x → Q (n + 1) x) (sd : Sd le As g m f) {p : Pl} {x : Rat} (h : f p = some x) : ∃ k, k ≤ n ∧ Q k x := by
  obtain ⟨w, hw, lw⟩ := sd.short hg ha hP h
  exact ⟨w.length, lw, hw.prop q0 qs _ _ _ rfl⟩
end
end DL
namespace DL
open PySem PySem.Spec L2
section
variable {ws : List (List Nat)} {t : Tie} {x y s : Rat}
end
end DL
namespace DL
open PySem PySem.Spec L2
section
variable {ts : List Tie} {ws P : List Pl} {g : Pl} {mo : Rat} {m : Nat}
theorem getP_one {β : Type} {v : β} {p : Pl} : getP [(g, v)] p = if p = g then some v else none := by
  unfold getP
  rw [List.find?_cons]
  by_cases c : p = g
  · subst c
    simp
  · rw [if_neg c]
    simp [Ne.symm c]
abbrev PapS := List (Pl × (Rat × Pl))
abbrev PvD (v : Rat × Pl) : D := .tup [FQ v.1, T v.2]
abbrev fmP (b : PapS) : Fm := fun p => (getP b p).map Prod.fst
def tiesBy (ts : List Tie) (ns : List Pl) : List Tie := ns.filterMap fun w => ts.find? fun t => decide (t.nm = w)
theorem tiesBy_nm : ∀ {ns : List Pl}, (∀ w ∈ ns, w ∈ ts.map Tie.nm) → (ts.map Tie.nm).Nodup → (tiesBy ts ns).map Tie.nm = ns
  | [], _, _ => rfl
  | w :: ns, h, nd => by
    obtain ⟨t, ht, rfl⟩ := List.mem_map.mp (h w (by simp))
    unfold tiesBy
    rw [List.filterMap_cons, find_mem nd ht, List.map_cons]
    exact congrArg _ (tiesBy_nm (fun v hv => h v (by simp [hv])) nd)
theorem tiesBy_mem {ns : List Pl} {t : Tie} (h : t ∈ tiesBy ts ns) : t ∈ ts := by
  obtain ⟨w, _, hw⟩ := List.mem_filterMap.mp h
  exact List.mem_of_find?_eq_some hw
theorem tiesBy_all {ns : List Pl} (nd : (ts.map Tie.nm).Nodup) {t : Tie} (ht : t ∈ ts) (h : t.nm ∈ ns) : t ∈ tiesBy ts ns := List.mem_filterMap.mpr ⟨t.nm, h, find_mem nd ht⟩
end
end DL
namespace DL
open PySem PySem.Spec L2
section
variable {g g' : D → D → M D} {a b c : EM} {s : Sl} {h : Hd} {x y : D}
end
end DL
namespace DL
open PySem PySem.Spec L2
section
variable {ts : List Tie} {ws P : List Pl} {g : Pl} {mo : Rat} {m : Nat} {b : PapS}
theorem nm_inj (nd : (ts.map Tie.nm).Nodup) {t u : Tie} (ht : t ∈ ts) (hu : u ∈ ts) (e : t.nm = u.nm) : t = u := by
  have h1 := find_mem nd ht
  have h2 := find_mem nd hu
  rw [e, h2] at h1
  exact (Option.some.inj h1).symm
end
end DL
namespace DL
open PySem PySem.Spec L2
abbrev geR : Rat → Rat → Prop := fun x y => y ≤ x
theorem better_geR : Better geR := better_ge
def Tie.arcS (t : Tie) : Arc := ⟨t.b, t.a, t.G⟩
section
variable {ts : List Tie} {ws P : List Pl} {g : Pl} {mo : Rat} {m : Nat} {b : PapS} {t : Tie}
theorem Tie.Ok.G_mono (o : t.Ok ws) {x y u : Rat} (xy : y ≤ x) (e : t.G x = some u) : ∃ v, t.G y = some v ∧ v ≤ u := by
  cases c : t.G y with
  | some v => exact ⟨v, rfl, waitG_mono xy c e⟩
  | none =>
    have h := waitG_none.mp c
    have : waitG t.rs x = none := waitG_none.mpr fun s hs => h s (Rat.le_trans xy hs)
    rw [show waitG t.rs x = some u from e] at this
    cases this
theorem Tie.Ok.arcS (o : t.Ok ws) : t.arcS.Ok geR := ⟨fun {x y u} h e => o.G_mono h e, fun {x u} e => waitG_ge o.o e⟩
structure SnOk (ts : List Tie) (ws : List Pl) (P : List Pl) (g : Pl) (mo : Rat) (m : Nat) : Prop where
  ok : ∀ t ∈ ts, t.Ok ws
  nd : (ts.map Tie.nm).Nodup
  lt : ts.length ≤ 60
  hg : g ∈ P
  hb : ∀ t ∈ ts, t.b ∈ P
  hP : P.length ≤ 10
  m0 : 0 ≤ mo
  zm : SzQ m mo
  h40 : 40 ≤ m
  hm : m ≤ 1000
  gx : Tx g
theorem SnOk.arcs (L : SnOk ts ws P g mo m) : ∀ A ∈ ts.map Tie.arcS, A.Ok geR := fun A hA => by
  obtain ⟨t, ht, rfl⟩ := List.mem_map.mp hA
  exact (L.ok t ht).arcS
theorem SnOk.plc (L : SnOk ts ws P g mo m) : ∀ A ∈ ts.map Tie.arcS, A.a ∈ P := fun A hA => by
  obtain ⟨t, ht, rfl⟩ := List.mem_map.mp hA
  exact L.hb t ht
theorem SnOk.val (L : SnOk ts ws P g mo m) {f : Fm} (sd : Sd geR (ts.map Tie.arcS) g mo f) {p : Pl} {x : Rat} (h : f p = some x) : mo ≤ x ∧ SzQ (m + 756) x ∧ p ∈ P := by
  obtain ⟨k, hk, h0, hz⟩ := sd.prop (n := 9) (P := P) (Q := fun k x => mo ≤ x ∧ SzQ (m + 84 * k) x) L.hg L.plc (by have := L.hP; omega) ⟨Rat.le_refl, L.zm⟩ (fun A hA n x y ⟨y0, zy⟩ e => by
    obtain ⟨t, ht, rfl⟩ := List.mem_map.mp hA
    have o := L.ok t ht
    exact ⟨Rat.le_trans y0 (waitG_ge o.o e), (waitG_sz o.o o.l zy (by have := L.h40; omega) e).mono (by omega)⟩) h
  refine ⟨h0, hz.mono (by omega), ?_⟩
  obtain ⟨w, hw, _⟩ := sd p x h
  exact hw.places L.hg L.plc _ List.mem_cons_self
theorem SnOk.len {β : Type} {v : β → Rat} (L : SnOk ts ws P g mo m) {b : List (Pl × β)} (nd : (b.map Prod.fst).Nodup) (sd : Sd geR (ts.map Tie.arcS) g mo (fun p => (getP b p).map v)) : b.length ≤ 10 := by
  have := nodup_len nd (ws := P) fun p hp => by
    obtain ⟨z, hz, rfl⟩ := List.mem_map.mp hp
    exact (L.val sd (show (getP b z.1).map v = some (v z.2) by rw [getP_some nd hz]; rfl)).2.2
  rw [List.length_map] at this
  have := L.hP
  omega
abbrev SnS := PapS × List Pl
def soonP (b : PapS) (p : Pl) (x : Rat) : Bool := match getP b p with
  | none => true
  | some z => decide (x < z.1)
def snStep (p : Pl) (s : SnS) (t : Tie) : SnS := match getP s.1 p with
  | none => s
  | some y => match t.G y.1 with
    | none => s
    | some x => if soonP s.1 t.b x = true then (putP s.1 t.b (x, t.nm), if t.b ∈ s.2 then s.2 else s.2 ++ [t.b]) else s
inductive LdB (ts : List Tie) (b : PapS) (left : List Pl) (g : Pl) : Nat → Pl → Prop
  | zero : LdB ts b left g 0 g
  | succ {n : Nat} {p : Pl} {v : Rat × Pl} {t : Tie} : p ≠ g → getP b p = some v → t ∈ ts → t.nm = v.2 → t.b = p → t.a ∉ left → LdB ts b left g n t.a → LdB ts b left g (n + 1) p
structure SnI (ts : List Tie) (g : Pl) (mo : Rat) (p : Pl) (D : List Tie) (s : SnS) : Prop where
  nb : (s.1.map Prod.fst).Nodup
  nl : s.2.Nodup
  lk : ∀ q ∈ s.2, ∃ v, getP s.1 q = some v
  sd : Sd geR (ts.map Tie.arcS) g mo (fmP s.1)
  gl : getP s.1 g = some (mo, [])
  tie : ∀ q v, q ≠ g → getP s.1 q = some v → ∃ t ∈ ts, t.nm = v.2 ∧ t.b = q ∧ t.a ∉ s.2 ∧ ∃ z, getP s.1 t.a = some z ∧ t.G z.1 = some v.1
  lead : ∀ q v, getP s.1 q = some v → ∃ n, LdB ts s.1 s.2 g n q
  done : ∀ r ∉ s.2, ∀ y, getP s.1 r = some y → ∀ t ∈ ts, t.a = r → (r = p → t ∈ D) → ∀ x, t.G y.1 = some x → ∃ z, getP s.1 t.b = some z ∧ z.1 ≤ x
  ord : ∀ r ∉ s.2, ∀ y, getP s.1 r = some y → ∀ q ∈ s.2, ∀ z, getP s.1 q = some z → y.1 ≤ z.1
theorem LdB.put {left left' : List Pl} {q : Pl} {w : Rat × Pl} (hl : ∀ r, r ∉ left → (∃ v, getP b r = some v) → r ∉ left' ∧ r ≠ q) (hk : ∀ p v, p ≠ g → getP b p = some v → ∃ t ∈ ts, t.nm = v.2 ∧ t.b = p ∧ t.a ∉ left ∧ ∃ z, getP b t.a = some z ∧ t.G z.1 = some v.1) (nd : (ts.map Tie.nm).Nodup) {n : Nat} {r : Pl} (h : LdB ts b left g n r) : r ≠ q → LdB ts (putP b q w) left' g n r := by
  induction h with
  | zero => exact fun _ => .zero
  | @succ n p v t hp hv ht hn hb ha hl' ih =>
    intro hq
    obtain ⟨u, hu, un, ub, ua, z, ez, _⟩ := hk p v hp hv
    have e : t = u := nm_inj nd ht hu (hn.trans un.symm)
    subst e
    have := hl t.a ha ⟨z, ez⟩
    exact .succ hp (by rw [getP_put, if_neg hq]; exact hv) ht hn hb this.1 (ih this.2)
theorem snStep_ok (L : SnOk ts ws P g mo m) {p : Pl} {y : Rat × Pl} {D : List Tie} {s : SnS} {t : Tie} (ht : t ∈ ts) (ta : t.a = p) (hp : p ∉ s.2) (hy : getP s.1 p = some y) (lo : ∀ r ∉ s.2, ∀ u, getP s.1 r = some u → u.1 ≤ y.1) (I : SnI ts g mo p D s) :
    SnI ts g mo p (D ++ [t]) (snStep p s t) ∧ p ∉ (snStep p s t).2 ∧ getP (snStep p s t).1 p = some y ∧ (∀ r ∉ (snStep p s t).2, ∀ u, getP (snStep p s t).1 r = some u → u.1 ≤ y.1) ∧ (∀ r, r ∉ s.2 → (∃ v, getP s.1 r = some v) → r ∉ (snStep p s t).2 ∧ getP (snStep p s t).1 r = getP s.1 r) := by
  have o := L.ok t ht
  have arc : t.arcS ∈ ts.map Tie.arcS := List.mem_map.mpr ⟨t, ht, rfl⟩
  have keep : (∀ x, t.G y.1 = some x → ∃ z, getP s.1 t.b = some z ∧ z.1 ≤ x) → snStep p s t = s → SnI ts g mo p (D ++ [t]) (snStep p s t) ∧ p ∉ (snStep p s t).2 ∧ getP (snStep p s t).1 p = some y ∧ (∀ r ∉ (snStep p s t).2, ∀ u, getP (snStep p s t).1 r = some u → u.1 ≤ y.1) ∧ (∀ r, r ∉ s.2 → (∃ v, getP s.1 r = some v) → r ∉ (snStep p s t).2 ∧ getP (snStep p s t).1 r = getP s.1 r) := fun hd e => by
    rw [e]
    refine ⟨⟨I.nb, I.nl, I.lk, I.sd, I.gl, I.tie, I.lead, fun r hr y' ey u hu ua hD x ex => ?_, I.ord⟩, hp, hy, lo, fun r hr _ => ⟨hr, rfl⟩⟩
    by_cases c : r = p ∧ u = t
    · obtain ⟨rfl, rfl⟩ := c
      rw [hy] at ey
      cases ey
      exact hd x ex
    · refine I.done r hr y' ey u hu ua (fun e => ?_) x ex
      rcases List.mem_append.mp (hD e) with h | h
      · exact h
      · exact absurd ⟨e, List.mem_singleton.mp h⟩ c
  cases e2 : t.G y.1 with
  | none => exact keep (fun x ex => by rw [e2] at ex; cases ex) (by unfold snStep; rw [hy]; simp only; rw [e2])
  | some x =>
    by_cases c : soonP s.1 t.b x = true
    · have e : snStep p s t = (putP s.1 t.b (x, t.nm), if t.b ∈ s.2 then s.2 else s.2 ++ [t.b]) := by
        unfold snStep
        rw [hy]
        simp only
        rw [e2]
        simp only
        rw [if_pos c]
      have xy : y.1 ≤ x := waitG_ge o.o e2
      have nb : ∀ r, r ∉ s.2 → (∃ v, getP s.1 r = some v) → r ≠ t.b := fun r hr ⟨v, hv⟩ e => by
        have h1 := lo r hr v hv
        unfold soonP at c
        rw [← e, hv] at c
        have := of_decide_eq_true c
        grind
      have ml : ∀ r, r ∈ (if t.b ∈ s.2 then s.2 else s.2 ++ [t.b]) ↔ r ∈ s.2 ∨ r = t.b := fun r => by
        split
        · rename_i h
          exact ⟨.inl, fun h2 => h2.elim id fun e => e ▸ h⟩
        · simp
      have st : ∀ r, r ∉ (if t.b ∈ s.2 then s.2 else s.2 ++ [t.b]) → r ∉ s.2 ∧ r ≠ t.b := fun r hr => ⟨fun h => hr ((ml r).mpr (.inl h)), fun h => hr ((ml r).mpr (.inr h))⟩
      have hpb : p ≠ t.b := nb p hp ⟨y, hy⟩
      have hgs : t.b ≠ g := fun e => by
        have h1 := (L.val I.sd (show fmP s.1 p = some y.1 from congrArg (Option.map Prod.fst) hy)).1
        unfold soonP at c
        rw [e, I.gl] at c
        have := of_decide_eq_true c
        simp only at this
        grind
      have stp : Stp geR t.arcS (fmP s.1) (fmP (putP s.1 t.b (x, t.nm))) := by
        refine .inr ⟨y.1, x, ?_, e2, fun z hz le => ?_, ?_, fun q hq => ?_⟩
        · show fmP s.1 t.a = _
          rw [ta]
          exact congrArg (Option.map Prod.fst) hy
        · obtain ⟨v, hv, rfl⟩ := Option.map_eq_some_iff.mp (show (getP s.1 t.b).map Prod.fst = some z from hz)
          unfold soonP at c
          rw [hv] at c
          have := of_decide_eq_true c
          grind
        · show (getP _ t.b).map _ = _
          rw [getP_put, if_pos rfl]
          rfl
        · show (getP _ q).map _ = (getP _ q).map _
          rw [getP_put, if_neg (show ¬ q = t.b from hq)]
      have hl' : ∀ r, r ∉ s.2 → (∃ v, getP s.1 r = some v) → r ∉ (if t.b ∈ s.2 then s.2 else s.2 ++ [t.b]) ∧ r ≠ t.b := fun r hr hv => ⟨fun h => ((ml r).mp h).elim hr (nb r hr hv), nb r hr hv⟩
      rw [e]
      refine ⟨⟨putP_nd I.nb, ?_, fun q hq => ?_, I.sd.step better_geR L.arcs arc stp, ?_, fun q v hq hv => ?_, fun q v hv => ?_, fun r hr y' ey u hu ua hD x' ex => ?_, fun r hr y' ey q hq z ez => ?_⟩, fun h => ((ml p).mp h).elim hp hpb, ?_, fun r hr u hu => ?_, fun r hr hv => ⟨(hl' r hr hv).1, ?_⟩⟩
      · simp only
        split
        · exact I.nl
        · rename_i h
          exact List.nodup_append.mpr ⟨I.nl, by simp, fun a ha b hb e => h (by rw [List.mem_singleton] at hb; rw [← hb, ← e]; exact ha)⟩
      · simp only at hq ⊢
        rw [getP_put]
        by_cases d : q = t.b
        · exact ⟨_, if_pos d⟩
        · rw [if_neg d]
          exact I.lk q (((ml q).mp hq).resolve_right d)
      · simp only
        rw [getP_put, if_neg (Ne.symm hgs)]
        exact I.gl
      · simp only at hv ⊢
        rw [getP_put] at hv
        by_cases d : q = t.b
        · rw [if_pos d] at hv
          cases hv
          exact ⟨t, ht, rfl, d.symm, by rw [ta]; exact fun h => ((ml p).mp h).elim hp hpb, y, by rw [getP_put, ta, if_neg hpb]; exact hy, e2⟩
        · rw [if_neg d] at hv
          obtain ⟨u, hu, un, ub, ua, z, ez, ex⟩ := I.tie q v hq hv
          have := hl' u.a ua ⟨z, ez⟩
          exact ⟨u, hu, un, ub, this.1, z, by rw [getP_put, if_neg this.2]; exact ez, ex⟩
      · simp only at hv ⊢
        rw [getP_put] at hv
        have lp : ∀ n r, LdB ts s.1 s.2 g n r → r ≠ t.b → LdB ts (putP s.1 t.b (x, t.nm)) (if t.b ∈ s.2 then s.2 else s.2 ++ [t.b]) g n r := fun n r h hr => h.put hl' I.tie L.nd hr
        by_cases d : q = t.b
        · subst d
          obtain ⟨n, hn⟩ := I.lead p y hy
          exact ⟨n + 1, .succ hgs (by rw [getP_put, if_pos rfl]) ht rfl rfl (by rw [ta]; exact fun h => ((ml p).mp h).elim hp hpb) (by rw [ta]; exact lp n p hn hpb)⟩
        · rw [if_neg d] at hv
          obtain ⟨n, hn⟩ := I.lead q v hv
          exact ⟨n, lp n q hn d⟩
      · simp only at hr ey ⊢
        have hr' := st r hr
        rw [getP_put, if_neg hr'.2] at ey
        rw [getP_put]
        by_cases d : u.b = t.b
        · rw [if_pos d]
          refine ⟨_, rfl, ?_⟩
          by_cases c2 : r = p ∧ u = t
          · obtain ⟨rfl, rfl⟩ := c2
            rw [hy] at ey
            cases ey
            rw [e2] at ex
            cases ex
            exact Rat.le_refl
          · obtain ⟨z, ez, zx⟩ := I.done r hr'.1 y' ey u hu ua (fun e => by
              rcases List.mem_append.mp (hD e) with h | h
              · exact h
              · exact absurd ⟨e, List.mem_singleton.mp h⟩ c2) x' ex
            unfold soonP at c
            rw [← d, ez] at c
            have := of_decide_eq_true c
            simp only
            grind
        · rw [if_neg d]
          refine I.done r hr'.1 y' ey u hu ua (fun e => ?_) x' ex
          rcases List.mem_append.mp (hD e) with h | h
          · exact h
          · exact absurd (congrArg Tie.b (List.mem_singleton.mp h)) d
      · simp only at hr ey hq ez
        have hr' := st r hr
        rw [getP_put, if_neg hr'.2] at ey
        rw [getP_put] at ez
        by_cases d : q = t.b
        · rw [if_pos d] at ez
          cases ez
          simp only
          exact Rat.le_trans (lo r hr'.1 y' ey) xy
        · rw [if_neg d] at ez
          exact I.ord r hr'.1 y' ey q (((ml q).mp hq).resolve_right d) z ez
      · simp only
        rw [getP_put, if_neg hpb]
        exact hy
      · simp only at hr hu
        have hr' := st r hr
        rw [getP_put, if_neg hr'.2] at hu
        exact lo r hr'.1 u hu
      · simp only
        rw [getP_put, if_neg (nb r hr hv)]
    · refine keep (fun x' ex => ?_) (by unfold snStep; rw [hy]; simp only; rw [e2]; simp only; rw [if_neg c])
      rw [e2] at ex
      cases ex
      unfold soonP at c
      cases d : getP s.1 t.b with
      | none =>
        rw [d] at c
        exact absurd rfl c
      | some z =>
        rw [d] at c
        simp only [decide_eq_true_eq] at c
        exact ⟨z, rfl, by grind⟩
theorem snFold_ok (L : SnOk ts ws P g mo m) {p : Pl} {y : Rat × Pl} : ∀ {S D : List Tie} {s : SnS}, (∀ t ∈ S, t ∈ ts ∧ t.a = p) → p ∉ s.2 → getP s.1 p = some y → (∀ r ∉ s.2, ∀ u, getP s.1 r = some u → u.1 ≤ y.1) → SnI ts g mo p D s →
    SnI ts g mo p (D ++ S) (S.foldl (snStep p) s) ∧ p ∉ (S.foldl (snStep p) s).2 ∧ getP (S.foldl (snStep p) s).1 p = some y ∧ (∀ r ∉ (S.foldl (snStep p) s).2, ∀ u, getP (S.foldl (snStep p) s).1 r = some u → u.1 ≤ y.1) ∧ (∀ r, r ∉ s.2 → (∃ v, getP s.1 r = some v) → r ∉ (S.foldl (snStep p) s).2 ∧ getP (S.foldl (snStep p) s).1 r = getP s.1 r)
  | [], D, s, _, hp, hy, lo, I => by
    rw [List.append_nil]
    exact ⟨I, hp, hy, lo, fun r hr _ => ⟨hr, rfl⟩⟩
  | t :: S, D, s, hS, hp, hy, lo, I => by
    obtain ⟨h1, h2⟩ := hS t (by simp)
    obtain ⟨I1, p1, y1, l1, k1⟩ := snStep_ok L h1 h2 hp hy lo I
    obtain ⟨I2, p2, y2, l2, k2⟩ := snFold_ok L (S := S) (fun u hu => hS u (by simp [hu])) p1 y1 l1 I1
    rw [List.append_assoc] at I2
    refine ⟨I2, p2, y2, l2, fun r hr hv => ?_⟩
    obtain ⟨a1, a2⟩ := k1 r hr hv
    obtain ⟨b1, b2⟩ := k2 r a1 (by rw [a2]; exact hv)
    exact ⟨b1, b2.trans a2⟩
theorem LdB.left' {left left' : List Pl} (h : ∀ r, r ∈ left' → r ∈ left) {n : Nat} {r : Pl} (l : LdB ts b left g n r) : LdB ts b left' g n r := by
  induction l with
  | zero => exact .zero
  | succ hp hv ht hn hb ha _ ih => exact .succ hp hv ht hn hb (fun h2 => ha (h _ h2)) ih
theorem SnI.take {s : SnS} {p : Pl} {y : Rat × Pl} (I : SnI ts g mo g ts s) (hp : p ∈ s.2) (hy : getP s.1 p = some y) (le : ∀ q ∈ s.2, ∀ z, getP s.1 q = some z → y.1 ≤ z.1) : SnI ts g mo p [] (s.1, s.2.erase p) ∧ p ∉ s.2.erase p ∧ ∀ r ∉ s.2.erase p, ∀ u, getP s.1 r = some u → u.1 ≤ y.1 := by
  have sub : ∀ r, r ∈ s.2.erase p → r ∈ s.2 := fun r hr => List.mem_of_mem_erase hr
  have out : ∀ r, r ∉ s.2.erase p → r = p ∨ r ∉ s.2 := fun r hr => by
    by_cases e : r = p
    · exact .inl e
    · exact .inr fun h => hr ((List.mem_erase_of_ne e).mpr h)
  refine ⟨⟨I.nb, I.nl.erase p, fun q hq => I.lk q (sub q hq), I.sd, I.gl, fun q v hq hv => ?_, fun q v hv => ?_, fun r hr y' ey t ht ta hD x ex => ?_, fun r hr y' ey q hq z ez => ?_⟩, fun h => ((List.Nodup.mem_erase_iff I.nl).mp h).1 rfl, fun r hr u hu => ?_⟩
  · obtain ⟨t, ht, a, b, c, d⟩ := I.tie q v hq hv
    exact ⟨t, ht, a, b, fun h => c (sub _ h), d⟩
  · obtain ⟨n, hn⟩ := I.lead q v hv
    exact ⟨n, hn.left' sub⟩
  · rcases out r hr with e | h
    · exact absurd (hD e) (by simp)
    · exact I.done r h y' ey t ht ta (fun _ => ht) x ex
  · rcases out r hr with e | h
    · subst e
      simp only at ey ez hq
      rw [hy] at ey
      cases ey
      exact le q (sub q hq) z ez
    · exact I.ord r h y' ey q (sub q hq) z ez
  · rcases out r hr with e | h
    · subst e
      rw [hy] at hu
      cases hu
      exact Rat.le_refl
    · exact I.ord r h u hu p hp y hy
theorem SnI.back {s : SnS} {p : Pl} {D : List Tie} (I : SnI ts g mo p D s) (hD : ∀ t ∈ ts, t.a = p → t ∈ D) : SnI ts g mo g ts s :=
  ⟨I.nb, I.nl, I.lk, I.sd, I.gl, I.tie, I.lead, fun r hr y ey t ht ta _ x ex => I.done r hr y ey t ht ta (fun e => hD t ht (ta.trans e)) x ex, I.ord⟩
theorem SnI.start (L : SnOk ts ws P g mo m) : SnI ts g mo g ts ([(g, (mo, []))], [g]) := by
  have hg : ∀ p v, getP [(g, (mo, ([] : Pl)))] p = some v → p = g ∧ v = (mo, []) := fun p v h => by
    rw [getP_one] at h
    split at h
    · rename_i e
      cases h
      exact ⟨e, rfl⟩
    · cases h
  refine ⟨by simp, by simp, fun q hq => ?_, Sd.start better_geR fun p x h => ?_, by rw [getP_one, if_pos rfl], fun q v hq hv => absurd (hg q v hv).1 hq, fun q v hv => ⟨0, by rw [(hg q v hv).1]; exact .zero⟩, fun r hr y ey => ?_, fun r hr y ey => ?_⟩
  · rw [List.mem_singleton.mp hq]
    exact ⟨_, by rw [getP_one, if_pos rfl]⟩
  · obtain ⟨v, hv, rfl⟩ := Option.map_eq_some_iff.mp (show (getP _ p).map Prod.fst = some x from h)
    obtain ⟨rfl, rfl⟩ := hg p v hv
    exact ⟨rfl, rfl⟩
  · exact absurd (by rw [(hg r y ey).1]; simp) hr
  · exact absurd (by rw [(hg r y ey).1]; simp) hr
structure PapB (ts : List Tie) (g : Pl) (mo : Rat) (b : PapS) : Prop where
  nd : (b.map Prod.fst).Nodup
  sd : Sd geR (ts.map Tie.arcS) g mo (fmP b)
  cp : ∀ n, Cp geR (ts.map Tie.arcS) g mo n (fmP b)
  gl : getP b g = some (mo, [])
  tie : ∀ q v, q ≠ g → getP b q = some v → ∃ t ∈ ts, t.nm = v.2 ∧ t.b = q ∧ ∃ z, getP b t.a = some z ∧ t.G z.1 = some v.1
  lead : ∀ q v, getP b q = some v → ∃ n, LdB ts b [] g n q
theorem SnI.paper (L : SnOk ts ws P g mo m) {b : PapS} (I : SnI ts g mo g ts (b, [])) : PapB ts g mo b := by
  refine ⟨I.nb, I.sd, Cp.all better_geR L.arcs ⟨mo, ?_, Rat.le_refl⟩ fun A hA x y hy hx => ?_, I.gl, fun q v hq hv => ?_, I.lead⟩
  · show (getP b g).map Prod.fst = _
    rw [show getP b g = _ from I.gl]
    rfl
  · obtain ⟨t, ht, rfl⟩ := List.mem_map.mp hA
    obtain ⟨v, hv, rfl⟩ := Option.map_eq_some_iff.mp (show (getP b t.a).map Prod.fst = some y from hy)
    obtain ⟨z, ez, le⟩ := I.done t.a (by simp) v hv t ht rfl (fun _ => ht) x hx
    exact ⟨z.1, congrArg (Option.map Prod.fst) ez, le⟩
  · obtain ⟨t, ht, a, b', _, d⟩ := I.tie q v hq hv
    exact ⟨t, ht, a, b', d⟩
theorem strsOf_Ts {ws : List Pl} : strsOf (ws.map T) = some (ws.map fun w => (⟨w.toArray⟩ : Str)) := strsOf_T ws
theorem strIdx_T {ws : List Pl} {w : Pl} : strIdx (ws.map fun w => (⟨w.toArray⟩ : Str)) ⟨w.toArray⟩ = ws.idxOf w := by
  unfold strIdx List.idxOf
  rw [List.findIdx_map]
  rfl
theorem eraseIdx_mapT {α β : Type} {f : α → β} : ∀ (l : List α) (j : Nat), (l.map f).eraseIdx j = (l.eraseIdx j).map f
  | [], j => by simp
  | a :: r, 0 => by simp
  | a :: r, j + 1 => by
    have ih := eraseIdx_mapT (f := f) r j
    simp [ih]
theorem mRem_I {h : Hd} {n : Nat} {w : Pl} [q : Ls h n (ws.map T)] (hm : w ∈ ws) : mRem (.ref n) [T w] h = .ok .non (h.set n (.lst ((ws.erase w).map T))) := by
  unfold mRem
  show (match h[n]? with
    | some (.lst xs) => _
    | _ => _) = _
  rw [q.q]
  simp only
  rw [strsOf_Ts]
  simp only
  rw [show strIdx (ws.map fun w => (⟨w.toArray⟩ : Str)) ⟨w.toArray⟩ = ws.idxOf w from strIdx_T, if_pos (by rw [List.length_map]; exact List.idxOf_lt_length_of_mem hm), eraseIdx_mapT, List.map_map, ← List.erase_eq_eraseIdx_of_idxOf (l := ws) (a := w) rfl]
  rfl
end
end DL
namespace DL
open PySem PySem.Spec L2
def rideS (ws : List Pl) (t : Tie) (x : Rat) : Option (Rat × Rat) := soF t.rs (soM t.rs (decide (t.a ∈ ws)) x)
theorem rideS_snd {ws : List Pl} {t : Tie} {x : Rat} (o : t.Ok ws) (x0 : 0 ≤ x) : (rideS ws t x).map Prod.snd = t.G x := by
  unfold rideS
  by_cases c : t.a ∈ ws
  · rw [decide_eq_true c]
    rfl
  · rw [decide_eq_false c]
    show (soStep t.rs none x).map Prod.snd = _
    unfold soStep
    rw [(o.no.resolve_left c) x x0]
    show _ = waitG t.rs x
    cases waitG t.rs x <;> rfl
def optT (c : Option Pl) : D := match c with
  | none => .non
  | some w => T w
theorem optT_none_I : optT none = .non := rfl
theorem optT_some_I {w : Pl} : optT (some w) = T w := rfl
theorem is_T_I {neg : Bool} {w : Pl} {h : Hd} : isD neg (T w) .non h = .ok (.bl (neg ^^ false)) h := rfl
theorem neT_nil {h : Hd} {n m : Nat} {ls : List Pl} [q1 : Ls h n (ls.map T)] [q2 : Ls h m []] (tl : ∀ w ∈ ls, Tx w) : dNe (.ref n) (.ref m) h = .ok (.bl (!decide (ls = []))) h := by
  have a : (ls.map T).all (D.pl 1) = true := by
    rw [List.all_map, List.all_eq_true]
    intro w hw
    have := tl w hw
    exact pl_T
  show dEqn true _ _ h = _
  rw [eqn_lst (neg := true) (k := 1) (by decide) a rfl]
  cases ls <;> simp
end DL
namespace DL
open PySem PySem.Spec L2
section
variable {ts S : List Tie} {ws P : List Pl} {bef fnd b : List (Pl × Rat)} {t : Tie} {p q st : Pl} {mo x y z : Rat} {n k : Nat}
end
end DL
namespace DL
open PySem PySem.Spec PyProof.Rows L2
theorem sg_chr (c : Char) : c.toNat < 1114112 := by
  have h1 : c.toNat.isValidChar := c.valid
  unfold Nat.isValidChar at h1
  omega
theorem sg_rc {q c : Nat} (hq : q < 1114112) (hc : c < 1114112) : ∀ d ∈ Builtin.Str.reprChar q c, d < 1114112 := by
  have hx : ∀ (l : List Nat), (∀ d ∈ l, d < 1114112) → ∀ w, ∀ d ∈ l ++ (List.replicate w 48 ++ (Nat.toDigits 16 c).map Char.toNat), d < 1114112 := fun l hl w d hd => by
    rcases List.mem_append.mp hd with h | h
    · exact hl d h
    · rcases List.mem_append.mp h with h | h
      · rw [List.eq_of_mem_replicate h]
        decide
      · obtain ⟨x, _, rfl⟩ := List.mem_map.mp h
        exact sg_chr x
  intro d hd
  unfold Builtin.Str.reprChar at hd
  simp only at hd
  have two : ∀ a b : Nat, a < 1114112 → b < 1114112 → d ∈ [a, b] → d < 1114112 := fun a b h1 h2 h => by
    simp only [List.mem_cons, List.not_mem_nil, or_false] at h
    rcases h with rfl | rfl
    · exact h1
    · exact h2
  split at hd
  · exact two _ _ (by decide) hc hd
  · split at hd
    · exact two _ _ (by decide) (by decide) hd
    · split at hd
      · exact two _ _ (by decide) (by decide) hd
      · split at hd
        · exact two _ _ (by decide) (by decide) hd
        · split at hd
          · rw [List.mem_singleton.mp hd]
            exact hc
          · split at hd
            · exact hx [92, 120] (by decide) _ d hd
            · split at hd
              · exact hx [92, 117] (by decide) _ d hd
              · exact hx [92, 85] (by decide) _ d hd
theorem sg_rt {x : Str} (h : SgOk x) : SgOk (reprText x) := by
  have hq : reprQuote x < 1114112 := by
    unfold reprQuote
    split <;> decide
  have key : ∀ (l : List Nat) (acc : Array Nat), (∀ c ∈ l, c < 1114112) → (∀ c ∈ acc.toList, c < 1114112) → ∀ d ∈ (l.foldl (fun out c => out ++ (Builtin.Str.reprChar (reprQuote x) c).toArray) acc).toList, d < 1114112 := by
    intro l
    induction l with
    | nil => exact fun acc _ h d hd => h d hd
    | cons c l ih =>
      intro acc h1 h2
      refine ih _ (fun e he => h1 e (by simp [he])) fun d hd => ?_
      rw [Array.toList_append] at hd
      rcases List.mem_append.mp hd with hd | hd
      · exact h2 d hd
      · exact sg_rc hq (h1 c (by simp)) d hd
  intro d hd
  unfold reprText at hd
  simp only [Array.toList_push, List.mem_append, List.mem_singleton] at hd
  rcases hd with hd | rfl
  · rw [← Array.foldl_toList] at hd
    exact key _ _ h (fun c hc => by
      simp only [List.mem_singleton] at hc
      rw [hc]
      exact hq) d hd
  · exact hq
inductive Rw : Bool → PyData → Nat → Nat → Prop
  | non {κ : Bool} {n : Nat} : Rw κ .none 8 n
  | bl {κ : Bool} {n : Nat} (b : Bool) : Rw κ (.bool b) 8 n
  | int {κ : Bool} {n k : Nat} {i : Int} : Sz k i → k ≤ 1900 → Rw κ (.int i) (k + 6) n
  | str {κ : Bool} {n : Nat} {l : List Nat} : Tx l → Rw κ (.str ⟨l.toArray⟩) (10 * l.length + 2) n
  | tup {κ : Bool} {n w c : Nat} {ps : List PyData} : (∀ p, p ∈ ps → Rw κ p w n) → ps.length ≤ c → Rw κ (.tuple ps) (c * (w + 2) + 3) (n + 1)
  | lst {n w c : Nat} {ps : List PyData} : (∀ p, p ∈ ps → Rw false p w n) → ps.length ≤ c → Rw false (.list ps) (c * (w + 2) + 3) (n + 1)
  | dic {n w v c : Nat} {ps : List (PyData × PyData)} : (∀ p, p ∈ ps → Rw true p.1 w n) → (∀ p, p ∈ ps → Rw true p.2 v n) → ps.length ≤ c → Rw true (.dict ps) (c * (w + v + 4) + 2) (n + 1)
  | up {κ : Bool} {n m w v : Nat} {p : PyData} : Rw κ p w n → w ≤ v → n ≤ m → Rw κ p v m
theorem Tx.sg {l : List Nat} (t : Tx l) : SgOk ⟨l.toArray⟩ := fun c hc => t.ok c (by simpa using hc)
theorem sum_le {α : Type} {f : α → Nat} {w : Nat} : ∀ {l : List α}, (∀ x ∈ l, f x ≤ w) → (l.map f).sum ≤ l.length * w
  | [], _ => by simp
  | x :: l, h => by
    have := sum_le (f := f) (w := w) (l := l) fun y hy => h y (by simp [hy])
    have h1 := h x (by simp)
    rw [List.map_cons, List.sum_cons, List.length_cons, Nat.succ_mul]
    omega
theorem rw_all {n w : Nat} : ∀ {ps : List PyData}, (∀ p ∈ ps, p.showable = true ∧ p.depth ≤ n ∧ p.shown.length ≤ w ∧ SgOk p.shown) → PyData.showableAll ps = true ∧ PyData.depthAll ps ≤ n ∧ (∀ t ∈ PyData.shownAll ps, t.length ≤ w ∧ SgOk t) ∧ (PyData.shownAll ps).length = ps.length
  | [], _ => ⟨rfl, by simp [PyData.depthAll], by simp [PyData.shownAll], by simp [PyData.shownAll]⟩
  | p :: ps, h => by
    obtain ⟨a1, a2, a3, a4⟩ := h p (by simp)
    obtain ⟨b1, b2, b3, b4⟩ := rw_all (ps := ps) fun q hq => h q (by simp [hq])
    refine ⟨by simp only [PyData.showableAll, a1, b1, Bool.and_self], by simp only [PyData.depthAll]; omega, fun t ht => ?_, by simp only [PyData.shownAll, List.length_cons, b4]⟩
    simp only [PyData.shownAll, List.mem_cons] at ht
    rcases ht with rfl | ht
    · exact ⟨a3, a4⟩
    · exact b3 t ht
theorem tt_len {ts : List Str} {w c : Nat} (h : ∀ t ∈ ts, t.length ≤ w) (hl : ts.length ≤ c) : (tupleText ts).length ≤ c * (w + 2) + 3 := by
  unfold tupleText
  have j := StrLaws.join_length_le (", " : Str) ts
  have l1 : (("(" : String) : Str).length = 1 := rfl
  have l2 : ((", " : String) : Str).length = 2 := rfl
  have l3 : (((if ts.length == 1 then ",)" else ")" : String)) : Str).length ≤ 2 := by split <;> decide
  have s := sum_le (f := fun t : Str => t.length) h
  rw [strLen_append, strLen_append, l1]
  rw [l2] at j
  have m : ts.length * (w + 2) ≤ c * (w + 2) := Nat.mul_le_mul_right _ hl
  rw [Nat.mul_add] at m
  omega
theorem lsT_len {ts : List Str} {w c : Nat} (h : ∀ t ∈ ts, t.length ≤ w) (hl : ts.length ≤ c) : (listText ts).length ≤ c * (w + 2) + 3 := by
  unfold listText
  have j := textFrom_len_le ts 0 ("[" : Str)
  have l1 : (("[" : String) : Str).length = 1 := rfl
  have l2 : (("]" : String) : Str).length = 1 := rfl
  have s := sum_le (f := fun t : Str => t.length) h
  rw [strLen_append, l2]
  rw [l1] at j
  have m : ts.length * (w + 2) ≤ c * (w + 2) := Nat.mul_le_mul_right _ hl
  rw [Nat.mul_add] at m
  omega
theorem sg_tt {ts : List Str} (h : ∀ t ∈ ts, SgOk t) : SgOk (tupleText ts) := by
  unfold tupleText
  exact sg_app (sg_app (sg_str _) (sg_join (sg_str _) _ h)) (sg_str _)
theorem sg_lt {ts : List Str} (h : ∀ t ∈ ts, SgOk t) : SgOk (listText ts) := by
  have key : ∀ (ts : List Str) (k : Nat) (acc : Str), SgOk acc → (∀ t ∈ ts, SgOk t) → SgOk (textFrom k acc ts) := by
    intro ts
    induction ts with
    | nil => exact fun _ _ h _ => h
    | cons t ts ih => exact fun k acc h1 h2 => ih _ _ (sg_app (sg_app h1 (sg_str _)) (h2 t (by simp))) fun u hu => h2 u (by simp [hu])
  exact sg_app (key ts 0 _ (sg_str _) h) (sg_str _)
theorem rw_kv {n w v : Nat} : ∀ {ps : List (PyData × PyData)}, (∀ p ∈ ps, p.1.showable = true ∧ p.1.depth ≤ n ∧ p.1.shown.length ≤ w ∧ SgOk p.1.shown) → (∀ p ∈ ps, p.2.showable = true ∧ p.2.depth ≤ n ∧ p.2.shown.length ≤ v ∧ SgOk p.2.shown) →
    PyData.showableKv ps = true ∧ PyData.depthKv ps ≤ n ∧ (∀ t ∈ PyData.shownKv ps, t.length ≤ w + v + 2 ∧ SgOk t) ∧ (PyData.shownKv ps).length = ps.length
  | [], _, _ => ⟨rfl, by simp [PyData.depthKv], by simp [PyData.shownKv], by simp [PyData.shownKv]⟩
  | (k, p) :: ps, h, g => by
    obtain ⟨a1, a2, a3, a4⟩ := h (k, p) (by simp)
    obtain ⟨c1, c2, c3, c4⟩ := g (k, p) (by simp)
    obtain ⟨b1, b2, b3, b4⟩ := rw_kv (ps := ps) (fun q hq => h q (by simp [hq])) fun q hq => g q (by simp [hq])
    simp only at a1 a2 a3 a4 c1 c2 c3 c4
    refine ⟨by simp only [PyData.showableKv, a1, b1, c1, Bool.and_self], by simp only [PyData.depthKv]; omega, fun t ht => ?_, by simp only [PyData.shownKv, List.length_cons, b4]⟩
    simp only [PyData.shownKv, List.mem_cons] at ht
    rcases ht with rfl | ht
    · have l2 : ((": " : String) : Str).length = 2 := rfl
      exact ⟨by rw [strLen_append, strLen_append, l2]; omega, sg_app (sg_app a4 (sg_str _)) c4⟩
    · exact b3 t ht
theorem Rw.ok {κ : Bool} {p : PyData} {w n : Nat} (r : Rw κ p w n) : p.showable = true ∧ p.depth ≤ n ∧ p.shown.length ≤ w ∧ SgOk p.shown := by
  induction r with
  | non => exact ⟨rfl, by simp [PyData.depth], by simp only [PyData.shown]; decide, by simp only [PyData.shown]; exact sg_str _⟩
  | bl b => exact ⟨rfl, by simp [PyData.depth], by simp only [PyData.shown]; cases b <;> decide, by simp only [PyData.shown]; cases b <;> exact sg_str _⟩
  | int z hk =>
    refine ⟨?_, by simp [PyData.depth], ?_, ?_⟩
    · simp only [PyData.showable, decide_eq_true_eq]
      have := Sz.log z
      omega
    · simp only [PyData.shown]
      exact toStr_len z
    · simp only [PyData.shown]
      exact sg_str _
  | @str κ n l t =>
    refine ⟨rfl, by simp [PyData.depth], ?_, ?_⟩
    · simp only [PyData.shown]
      have := StrLaws.reprText_len ⟨l.toArray⟩ (fun c hc => Nat.lt_trans (t.sg c hc) (by decide))
      exact Nat.le_trans this (by unfold Str.length; simp)
    · simp only [PyData.shown]
      exact sg_rt t.sg
  | tup _ hl ih =>
    obtain ⟨b1, b2, b3, b4⟩ := rw_all ih
    exact ⟨by simp only [PyData.showable, b1], by simp only [PyData.depth]; omega, by simp only [PyData.shown]; exact tt_len (fun t ht => (b3 t ht).1) (by omega), by simp only [PyData.shown]; exact sg_tt fun t ht => (b3 t ht).2⟩
  | lst _ hl ih =>
    obtain ⟨b1, b2, b3, b4⟩ := rw_all ih
    exact ⟨by simp only [PyData.showable, b1], by simp only [PyData.depth]; omega, by simp only [PyData.shown]; exact lsT_len (fun t ht => (b3 t ht).1) (by omega), by simp only [PyData.shown]; exact sg_lt fun t ht => (b3 t ht).2⟩
  | @dic n w v c ps _ _ hl ih1 ih2 =>
    obtain ⟨b1, b2, b3, b4⟩ := rw_kv ih1 ih2
    refine ⟨by simp only [PyData.showable, b1], by simp only [PyData.depth]; omega, ?_, ?_⟩
    · simp only [PyData.shown]
      unfold dictText
      have j := StrLaws.join_length_le (", " : Str) (PyData.shownKv ps)
      have l1 : (("{" : String) : Str).length = 1 := rfl
      have l2 : ((", " : String) : Str).length = 2 := rfl
      have l3 : (("}" : String) : Str).length = 1 := rfl
      have s := sum_le (f := fun t : Str => t.length) (fun t ht => (b3 t ht).1)
      rw [strLen_append, strLen_append, l1, l3]
      rw [l2] at j
      have m : (PyData.shownKv ps).length * (w + v + 4) ≤ c * (w + v + 4) := Nat.mul_le_mul_right _ (by omega)
      rw [show (PyData.shownKv ps).length * (w + v + 4) = (PyData.shownKv ps).length * (w + v + 2) + (PyData.shownKv ps).length * 2 by rw [← Nat.mul_add]] at m
      omega
    · simp only [PyData.shown]
      unfold dictText
      exact sg_app (sg_app (sg_str _) (sg_join (sg_str _) _ fun t ht => (b3 t ht).2)) (sg_str _)
  | up _ hw hn ih => exact ⟨ih.1, Nat.le_trans ih.2.1 hn, Nat.le_trans ih.2.2.1 hw, ih.2.2.2⟩
theorem noLs_all : ∀ {ps : List PyData}, (∀ p ∈ ps, noL p = true) → noLs ps = true
  | [], _ => by simp [noLs]
  | p :: ps, h => by
    simp only [noLs, h p (by simp), noLs_all (ps := ps) fun q hq => h q (by simp [hq]), Bool.and_self]
theorem noLk_all : ∀ {ps : List (PyData × PyData)}, (∀ p ∈ ps, noL p.2 = true) → noLk ps = true
  | [], _ => by simp [noLk]
  | p :: ps, h => by
    simp only [noLk, h p (by simp), noLk_all (ps := ps) fun q hq => h q (by simp [hq]), Bool.and_self]
theorem noD_all : ∀ {ps : List PyData}, (∀ p ∈ ps, p.hasDict = false) → PyData.hasDictAll ps = false
  | [], _ => by simp [PyData.hasDictAll]
  | p :: ps, h => by
    simp only [PyData.hasDictAll, h p (by simp), noD_all (ps := ps) fun q hq => h q (by simp [hq]), Bool.or_self]
theorem Rw.kind {κ : Bool} {p : PyData} {w n : Nat} (r : Rw κ p w n) : (κ = true → noL p = true) ∧ (κ = false → p.hasDict = false) := by
  induction r with
  | non => exact ⟨fun _ => by simp [noL], fun _ => rfl⟩
  | bl b => exact ⟨fun _ => by simp [noL], fun _ => rfl⟩
  | int => exact ⟨fun _ => by simp [noL], fun _ => rfl⟩
  | str => exact ⟨fun _ => by simp [noL], fun _ => rfl⟩
  | tup _ hl ih => exact ⟨fun e => by simp only [noL]; exact noLs_all fun p hp => (ih p hp).1 e, fun e => by simp only [PyData.hasDict]; exact noD_all fun p hp => (ih p hp).2 e⟩
  | lst _ hl ih => exact ⟨(fun e => by cases e), fun e => by simp only [PyData.hasDict]; exact noD_all fun p hp => (ih p hp).2 e⟩
  | dic _ _ hl ih1 ih2 => exact ⟨fun e => by simp only [noL]; exact noLk_all fun p hp => (ih2 p hp).1 e, (fun e => by cases e)⟩
  | up _ _ _ ih => exact ih
theorem noT_of {p : PyData} (h : noL p = true) : noT p = true := by
  cases p with
  | list xs => simp [noL] at h
  | _ => exact h
theorem Rw.okP {κ : Bool} {p : PyData} {w n : Nat} (r : Rw κ p w n) (hw : w ≤ 1000000) (hn : n ≤ 60) : OkP p := by
  obtain ⟨a, b, c, _⟩ := r.ok
  refine ⟨a, by omega, Nat.le_trans (Nat.le_trans c hw) (by decide), ?_⟩
  cases κ with
  | true => exact .inr (noT_of (r.kind.1 rfl))
  | false => exact .inl (r.kind.2 rfl)
theorem reprN_of {h : Hd} {x : D} {p : PyData} (e : pyN h 20 x = some p) (ok : OkP p) : bReprN [x] h = .ok (.str p.shown) h := by
  unfold bReprN
  simp only [e]
  rw [if_pos ok]
theorem pyNs_map {α : Type} {f : D → Option PyData} {g : α → D} {g' : α → PyData} : ∀ {xs : List α}, (∀ x ∈ xs, f (g x) = some (g' x)) → pyNs f (xs.map g) = some (xs.map g')
  | [], _ => rfl
  | x :: xs, h => by
    rw [List.map_cons, pyNs, h x (by simp), pyNs_map (xs := xs) fun y hy => h y (by simp [hy])]
    rfl
abbrev txP (l : List Nat) : PyData := .str ⟨l.toArray⟩
theorem pyNk_dct {α : Type} {f : D → Option PyData} {nm : α → List Nat} {g : α → D} {g' : α → PyData} : ∀ {xs : List α}, (∀ x ∈ xs, f (g x) = some (g' x)) → pyNk f (dctK nm g xs) = some (xs.map fun x => (txP (nm x), g' x))
  | [], _ => rfl
  | x :: xs, h => by
    show (f (g x)).bind _ = _
    rw [h x (by simp)]
    show (pyNk f (dctK nm g xs)).map _ = _
    rw [pyNk_dct (xs := xs) fun y hy => h y (by simp [hy])]
    rfl
def fqP (q : Rat) : PyData := .tuple [.int q.num, .int (q.den : Int)]
def qdP (q : Rq) : PyData := .tuple [fqP q.1, fqP q.2.1, fqP q.2.2.1, fqP q.2.2.2]
def tieP' (t : Tie) : PyData := .tuple [txP t.a, txP t.b, .tuple (t.rs.map qdP)]
def netP (e : Rat) (ws : List Pl) (ts : List Tie) : PyData := .tuple [fqP e, .tuple (ws.map txP), .dict (ts.map fun t => (txP t.nm, tieP' t))]
section
variable {h : Hd} {n : Nat}
theorem pyN_T {l : List Nat} : pyN h (n + 1) (T l) = some (txP l) := rfl
theorem pyN_FQ {q : Rat} : pyN h (n + 2) (FQ q) = some (fqP q) := rfl
theorem pyN_tup {xs : List D} : pyN h (n + 1) (.tup xs) = (pyNs (pyN h n) xs).map .tuple := rfl
theorem pyN_Qd {q : Rq} : pyN h (n + 3) (QdD q) = some (qdP q) := rfl
theorem pyN_Tie {t : Tie} : pyN h (n + 5) (TieD t) = some (tieP' t) := by
  show (pyNs (pyN h (n + 4)) [T t.a, T t.b, .tup (t.rs.map QdD)]).map PyData.tuple = _
  have e : pyN h (n + 4) (.tup (t.rs.map QdD)) = some (.tuple (t.rs.map qdP)) := by
    rw [pyN_tup, pyNs_map (g' := qdP) fun q _ => pyN_Qd (n := n)]
    rfl
  rw [pyNs, pyN_T, pyNs, pyN_T, pyNs, e]
  rfl
theorem pyN_dct {α : Type} {nm : α → List Nat} {g : α → D} {g' : α → PyData} {zs : List α} {k : Nat} [q : Ob h k (.dK (dctK nm g zs))] (hg : ∀ z ∈ zs, pyN h n (g z) = some (g' z)) : pyN h (n + 1) (.ref k) = some (.dict (zs.map fun x => (txP (nm x), g' x))) := by
  have e1 : lstOf h (.ref k) = none := by
    unfold lstOf
    simp only [q.q]
  show (match lstOf h (.ref k) with
    | some xs => (pyNs (pyN h n) xs).map PyData.list
    | none => (dctOf h (.ref k)).bind fun kds => (pyNk (pyN h n) kds).map PyData.dict) = _
  rw [e1, dct_of (kvs := dctK nm g zs)]
  simp only [Option.bind_some]
  rw [pyNk_dct hg]
  rfl
theorem pyN_net {e : Rat} {ws : List Pl} {ts : List Tie} {k : Nat} [q : Ob h k (.dK (tiesK ts))] : pyN h (n + 7) (.tup [FQ e, .tup (ws.map T), .ref k]) = some (netP e ws ts) := by
  rw [pyN_tup, pyNs, pyN_FQ, pyNs, pyN_tup, pyNs_map (g' := txP) fun w _ => pyN_T, pyNs, pyN_dct (g' := tieP') fun t _ => pyN_Tie]
  rfl
end
section
variable {κ : Bool} {n : Nat}
theorem rw_fq {q : Rat} {k : Nat} (z : SzQ k q) (hk : k ≤ 1900) : Rw κ (fqP q) (2 * (k + 8) + 3) (n + 1) := .tup (fun p hp => by
  simp only [List.mem_cons, List.not_mem_nil, or_false] at hp
  rcases hp with rfl | rfl
  · exact .int z.1 hk
  · exact .int z.2 hk) (by simp)
theorem rw_qd {q : Rq} {k : Nat} (z : SzQ k q.1 ∧ SzQ k q.2.1 ∧ SzQ k q.2.2.1 ∧ SzQ k q.2.2.2) (hk : k ≤ 1900) : Rw κ (qdP q) (4 * (2 * (k + 8) + 5) + 3) (n + 2) := .tup (fun p hp => by
  simp only [List.mem_cons, List.not_mem_nil, or_false] at hp
  rcases hp with rfl | rfl | rfl | rfl
  · exact rw_fq z.1 hk
  · exact rw_fq z.2.1 hk
  · exact rw_fq z.2.2.1 hk
  · exact rw_fq z.2.2.2 hk) (by simp)
theorem rw_nm {l : Pl} (h : l.length ≤ 8) (t : Tx l) : Rw κ (txP l) 82 n := (Rw.str t).up (by omega) (Nat.le_refl _)
end
end DL
namespace DL
open PySem PySem.Spec L2
section
variable {c : PS} {m : Int}
end
end DL
namespace DL
open PySem PySem.Spec L2
def RdK (q : Rq) : Prop := ∃ (d : Int) (u : Ru), 1 ≤ d ∧ d ≤ 100000000000 ∧ RuOk 600000000000 u ∧ q = uR d u
theorem RdK.ok {q : Rq} (h : RdK q) : RqOk 40 q ∧ LinP 83 q.1 q.2 := by
  obtain ⟨d, u, d1, d2, o, rfl⟩ := h
  have rd := o.rd d1
  obtain ⟨g1, g2, g3, g4, g5, g6, g7, g8⟩ := o
  have zd : Sz 40 d := Sz.of (by omega) (by omega)
  have ou : RuS' 40 u := ⟨g2, Sz.of (by omega) (by omega), Sz.of (by omega) (by omega), Sz.of (by omega) (by omega), Sz.of (by omega) (by omega)⟩
  obtain ⟨z1, z2, z3, z4⟩ := ou.z
  exact ⟨⟨divInt_nonneg g1 d1, rd, .divInt d1 z1 zd, .divInt d1 z2 zd, .divInt d1 z3 zd, .divInt d1 z4 zd⟩, ride_lin ou d1 zd⟩
end DL
namespace DL
open PySem PySem.Spec L2
end DL
namespace DL
open PySem PySem.Spec L2
section
variable {h g h' : Hd} {c c' c2 : PS} {p n k m : Nat} {t : Int} {xs : List D} {o u : MO} {d : D}
end
end DL
namespace DL
open PySem PySem.Spec L2
end DL
namespace DL
open PySem PySem.Spec L2
theorem pig {α : Type} {P : α → Rat → Prop} : ∀ (cs : List α) (b e : Rat), b < e → (∀ t, b < t → t ≤ e → ∃ c ∈ cs, P c t) → ∃ c ∈ cs, ∃ s t, b < s ∧ s < t ∧ t ≤ e ∧ P c s ∧ P c t := by
  intro cs
  induction cs with
  | nil =>
    intro b e h k
    obtain ⟨c, hc, _⟩ := k e h Rat.le_refl
    cases hc
  | cons c cs ih =>
    intro b e h k
    by_cases h1 : ∃ s, b < s ∧ s ≤ e ∧ P c s
    · obtain ⟨s, s1, s2, ps⟩ := h1
      by_cases h2 : ∃ t, b < t ∧ t < s ∧ P c t
      · obtain ⟨t, t1, t2, pt⟩ := h2
        exact ⟨c, List.mem_cons_self, t, s, t1, t2, s2, pt, ps⟩
      · have m1 : b < midM b s := (midM_in s1).1
        have m2 : midM b s < s := (midM_in s1).2
        obtain ⟨c', hc', u, v, u1, u2, u3, pu, pv⟩ := ih b (midM b s) m1 (fun t t1 t2 => by
          obtain ⟨c', hc', pc⟩ := k t t1 (by grind)
          rcases List.mem_cons.mp hc' with rfl | hc'
          · exact (h2 ⟨t, t1, by grind, pc⟩).elim
          · exact ⟨c', hc', pc⟩)
        exact ⟨c', List.mem_cons_of_mem _ hc', u, v, u1, u2, by grind, pu, pv⟩
    · obtain ⟨c', hc', r⟩ := ih b e h (fun t t1 t2 => by
        obtain ⟨c', hc', pc⟩ := k t t1 t2
        rcases List.mem_cons.mp hc' with rfl | hc'
        · exact (h1 ⟨t, t1, t2, pc⟩).elim
        · exact ⟨c', hc', pc⟩)
      exact ⟨c', List.mem_cons_of_mem _ hc', r⟩
theorem onP_two2 {b b' s t : Rat} {p p' : Pc} (st : s < t) (e1 : onP b p s = onP b' p' s) (e2 : onP b p t = onP b' p' t) (u : Rat) : onP b' p' u = onP b p u := by
  obtain ⟨A, B, f⟩ := onP_isAff b p
  obtain ⟨A', B', f'⟩ := onP_isAff b' p'
  rw [f, f'] at e1 e2
  rw [f, f']
  have h : (B - B') * (t - s) = 0 := by grind
  have hB : B = B' := by
    rcases Rat.mul_eq_zero.mp h with h | h
    · grind
    · grind
  subst hB
  grind
theorem pairs_point {k : Nat} {q : Rat × Pc} : ∀ {r : List Pc} {f : Bool} {b a : Rat}, RowB k f b a r → q ∈ pairsB b r → q.2.1 = q.1 → q.1 = b ∧ r.head? = some q.2 ∧ f = true
  | [], _, _, _, _, hq, _ => by cases hq
  | p :: r, f, b, a, ⟨h1, _, _, _, _, _, h7⟩, hq, e => by
    simp only [pairsB, List.mem_cons] at hq
    rcases hq with rfl | hq
    · refine ⟨rfl, rfl, ?_⟩
      rcases h1 with h1 | h1
      · simp only at e
        grind
      · exact h1.1
    · have := (pairs_point h7 hq e).2.2
      cases this
theorem pairsB_mem {q : Rat × Pc} : ∀ {r : List Pc} {b : Rat}, q ∈ pairsB b r → q.2 ∈ r ∧ (q.1 = b ∨ ∃ x ∈ r, x.1 = q.1)
  | [], _, h => by cases h
  | p :: r, b, h => by
    simp only [pairsB, List.mem_cons] at h
    rcases h with rfl | h
    · exact ⟨List.mem_cons_self, .inl rfl⟩
    · obtain ⟨h1, h2⟩ := pairsB_mem h
      refine ⟨List.mem_cons_of_mem _ h1, .inr ?_⟩
      rcases h2 with h2 | ⟨x, hx, e⟩
      · exact ⟨p, List.mem_cons_self, h2.symm⟩
      · exact ⟨x, List.mem_cons_of_mem _ hx, e⟩
theorem SzQ.zero {k : Nat} : SzQ (k + 1) 0 := ⟨Sz.mono (k := 1) (by unfold Sz; decide) (by omega), Sz.mono (k := 1) (by unfold Sz; decide) (by omega)⟩
def rideO (us : List Tie) (o : Option Rat) : Option Rat := us.foldl (fun o t => o.bind t.G) o
end DL
namespace DL
open PySem PySem.Spec L2
end DL
namespace DL
open PySem PySem.Spec L2
variable {ts : List Tie} {s p q : Pl} {w u v : List Tie} {t : Tie}
abbrev Wst := Pl → List Tie → Prop
def wayG (e : Rat) (w : List Tie) (x : Rat) : Option Rat := rideO w (if e < x then none else some x)
theorem minO_some {o o' : Option Rat} {c : Rat} (h : minO o o' = some c) : (o = some c ∨ o' = some c) ∧ (∀ d, o = some d → c ≤ d) ∧ ∀ d, o' = some d → c ≤ d := by
  cases o with
  | none =>
    simp only [minO] at h
    exact ⟨.inr h, by simp, fun d hd => by rw [h] at hd; cases hd; exact Rat.le_refl⟩
  | some a =>
    cases o' with
    | none =>
      simp only [minO] at h
      cases h
      exact ⟨.inl rfl, fun d hd => by cases hd; exact Rat.le_refl, by simp⟩
    | some b =>
      simp only [minO, Option.some.injEq] at h
      split at h
      · subst h
        exact ⟨.inr rfl, fun d hd => by cases hd; grind, fun d hd => by cases hd; exact Rat.le_refl⟩
      · subst h
        exact ⟨.inl rfl, fun d hd => by cases hd; exact Rat.le_refl, fun d hd => by cases hd; grind⟩
theorem minO_le1 {o o' : Option Rat} {d : Rat} (h : o = some d) : ∃ c, minO o o' = some c ∧ c ≤ d := by
  subst h
  cases o' with
  | none => exact ⟨d, rfl, Rat.le_refl⟩
  | some b =>
    refine ⟨_, rfl, ?_⟩
    split <;> grind
theorem minO_le2 {o o' : Option Rat} {d : Rat} (h : o' = some d) : ∃ c, minO o o' = some c ∧ c ≤ d := by
  rw [minO_comm]
  exact minO_le1 h
end DL
namespace DL
open PySem PySem.Spec L2
theorem gap_below : ∀ (Z : List Rat) (b x : Rat), b < x → ∃ b', b ≤ b' ∧ b' < x ∧ ∀ z ∈ Z, z ≤ b' ∨ x ≤ z
  | [], b, x, h => ⟨b, Rat.le_refl, h, by simp⟩
  | z :: Z, b, x, h => by
    obtain ⟨b', h1, h2, h3⟩ := gap_below Z b x h
    by_cases c : b' < z ∧ z < x
    · refine ⟨z, by grind, c.2, fun y hy => ?_⟩
      rcases List.mem_cons.mp hy with rfl | hy
      · exact .inl Rat.le_refl
      · rcases h3 y hy with h | h
        · exact .inl (by grind)
        · exact .inr h
    · refine ⟨b', h1, h2, fun y hy => ?_⟩
      rcases List.mem_cons.mp hy with rfl | hy
      · grind
      · exact h3 y hy
theorem gap_above : ∀ (Z : List Rat) (x y : Rat), x < y → ∃ y', x < y' ∧ y' ≤ y ∧ ∀ z ∈ Z, z ≤ x ∨ y' ≤ z
  | [], x, y, h => ⟨y, h, Rat.le_refl, by simp⟩
  | z :: Z, x, y, h => by
    obtain ⟨y', h1, h2, h3⟩ := gap_above Z x y h
    by_cases c : x < z ∧ z < y'
    · refine ⟨z, c.1, by grind, fun w hw => ?_⟩
      rcases List.mem_cons.mp hw with rfl | hw
      · exact .inr Rat.le_refl
      · rcases h3 w hw with h | h
        · exact .inl h
        · exact .inr (by grind)
    · refine ⟨y', h1, h2, fun w hw => ?_⟩
      rcases List.mem_cons.mp hw with rfl | hw
      · grind
      · exact h3 w hw
theorem onP_eq2 {b b' s t : Rat} {p p' : Pc} (st : s < t) (e1 : onP b p s = onP b' p' s) (e2 : onP b p t = onP b' p' t) (u : Rat) : onP b p u = onP b' p' u := (onP_two2 st e1 e2 u).symm
theorem rise_of {b b' : Rat} {p q : Pc} (h1 : p.1 ≠ b) (h2 : q.1 ≠ b') (e : ∀ u, onP b p u = onP b' q u) : riseP b p = riseP b' q := by
  have e0 := e 0
  have e1 := e 1
  rw [onP_aff h1, onP_aff h2] at e0 e1
  unfold riseP
  grind
theorem piece_over {k : Nat} {h : List Pc} (hh : RowR k h) {b' t v : Rat} (nb : ∀ p ∈ h, p.1 ≤ b' ∨ t ≤ p.1) (b0 : 0 ≤ b') (bt : b' < t) (e : cm 0 h t = some v) : ∃ q ∈ pairsB 0 h, q.1 ≤ b' ∧ t ≤ q.2.1 ∧ ∀ u, b' < u → u ≤ q.2.1 → cm 0 h u = some (onP q.1 q.2 u) := by
  rw [cm_pieceW] at e
  obtain ⟨q, hq, rfl⟩ := Option.map_eq_some_iff.mp e
  obtain ⟨m, tq⟩ := pieceW_mem hq
  have hb : q.1 ≤ b' := by
    rcases pieceW_beg hq with ⟨h1, _⟩ | ⟨x, hx, h1, h2⟩
    · rw [h1]; exact b0
    · rcases nb x hx with h | h
      · rw [← h1]; exact h
      · grind
  exact ⟨q, m, hb, tq, fun u h1 h2 => cm_at (pieceW_same hh.1 m (by grind) h2)⟩
theorem leanB_mid2 {a p : Pc} {post : List Pc} : ∀ {f : List Pc} {b : Rat}, leanB b (f ++ a :: p :: post) = true → strt (endB b f) a p = false
  | [], b, h => by
    simp only [List.nil_append, leanB, Bool.and_eq_true, Bool.not_eq_true'] at h
    exact h.1
  | x :: f, b, h => by
    rw [List.cons_append] at h
    exact leanB_mid2 (f := f) (b := x.1) (leanB_tail h)
theorem cmr_app2 {t : Rat} {pre post : List Pc} (h : ∀ p ∈ pre, p.1 < t) (b : Rat) : cm b (pre ++ post) t = cm (endB b pre) post t := by
  rw [cm_pieceW, pieceW_app h, ← cm_pieceW]
variable {k n K : Nat} {F : List (List Pc)} {r : List Pc}
theorem ends_of {k' : Nat} (k1 : 1 ≤ k) (hF : ∀ f ∈ F, Good k K n f) (hr : RowR k' r) (k1' : 1 ≤ k') (le0 : leanB 0 r = true) (at_ : ∀ x c, 0 ≤ x → cm 0 r x = some c → ∃ f ∈ F, cm 0 f x = some c) (le : ∀ x f c, 0 ≤ x → f ∈ F → cm 0 f x = some c → ∃ d, cm 0 r x = some d ∧ d ≤ c) : ∀ p ∈ r, ∃ f ∈ F, ∃ g ∈ F, ∃ q ∈ lesserF f g, q.1 = p.1 := by
  intro p hp
  apply Classical.byContradiction
  intro no
  have no : ∀ f ∈ F, ∀ g ∈ F, ∀ q ∈ lesserF f g, q.1 ≠ p.1 := fun f hf g hg q hq e => no ⟨f, hf, g, hg, q, hq, e⟩
  obtain ⟨pre, post, rfl⟩ := List.append_of_mem hp
  obtain ⟨m1, m2, m3, m4, m5, m6, m7, m8, m9, m10⟩ := RowR.mid hr k1'
  have mp : (endB 0 pre, p) ∈ pairsB 0 (pre ++ p :: post) := by rw [pairsB_app]; exact List.mem_append_right _ (by simp [pairsB])
  have hrow : ∀ f ∈ F, ∀ g ∈ F, RowR (K + (2 * K + 1 + k) + 1) (lesserF f g) := fun f hf g hg => ((hF f hf).lesser (Z := 2 * K + 1 + k) k1 k1 (hF g hg) (by omega) (by omega) (by omega)).row
  have hcm : ∀ f ∈ F, ∀ g ∈ F, ∀ x, 0 ≤ x → cm 0 (lesserF f g) x = minO (cm 0 f x) (cm 0 g x) := fun f hf g hg x x0 => les_cm k1 k1 (hF f hf) (hF g hg) x0
  have isR : ∀ f ∈ F, ∀ g ∈ F, ∀ x c, 0 ≤ x → cm 0 (pre ++ p :: post) x = some c → (cm 0 f x = some c ∨ cm 0 g x = some c) → cm 0 (lesserF f g) x = some c := fun f hf g hg x c x0 e h => by
    rw [hcm f hf g hg x x0]
    obtain ⟨d, ed, ld⟩ : ∃ d, minO (cm 0 f x) (cm 0 g x) = some d ∧ d ≤ c := by
      rcases h with h | h
      · exact minO_le1 h
      · exact minO_le2 h
    obtain ⟨h2, _, _⟩ := minO_some ed
    have : c ≤ d := by
      rcases h2 with h2 | h2
      · obtain ⟨c', e', l'⟩ := le x f d x0 hf h2
        rw [e] at e'; cases e'; exact l'
      · obtain ⟨c', e', l'⟩ := le x g d x0 hg h2
        rw [e] at e'; cases e'; exact l'
    rw [ed]
    congr 1
    grind
  let Z := F.flatMap fun f => F.flatMap fun g => (lesserF f g).map (·.1)
  have mZ : ∀ f ∈ F, ∀ g ∈ F, ∀ q ∈ lesserF f g, q.1 ∈ Z := fun f hf g hg q hq => List.mem_flatMap.mpr ⟨f, hf, List.mem_flatMap.mpr ⟨g, hg, List.mem_map.mpr ⟨q, hq, rfl⟩⟩⟩
  have p0 : 0 ≤ p.1 := by grind
  have right : ∀ q' post', post = q' :: post' → ∃ g ∈ F, ∃ y', p.1 < y' ∧ (∀ z ∈ Z, z ≤ p.1 ∨ y' ≤ z) ∧ ∃ s t, p.1 < s ∧ s < t ∧ t < y' ∧ t ≤ q'.1 ∧ cm 0 g s = some (onP p.1 q' s) ∧ cm 0 g t = some (onP p.1 q' t) ∧ cm 0 (pre ++ p :: post) s = some (onP p.1 q' s) ∧ cm 0 (pre ++ p :: post) t = some (onP p.1 q' t) := fun q' post' ep => by
    subst ep
    have er : pre ++ p :: q' :: post' = (pre ++ [p]) ++ q' :: post' := by simp
    have eb : endB 0 (pre ++ [p]) = p.1 := by rw [endB_app]; rfl
    obtain ⟨n1, n2, n3, n4, n5, n6, n7, n8, n9, n10⟩ := RowR.mid (pre := pre ++ [p]) (x := q') (post := post') (er ▸ hr) k1'
    have lt := n9 (by simp)
    rw [eb] at lt
    have mq : (p.1, q') ∈ pairsB 0 (pre ++ p :: q' :: post') := by
      rw [er, pairsB_app, eb]
      exact List.mem_append_right _ (by simp [pairsB])
    obtain ⟨y', h1, h2, h3⟩ := gap_above Z p.1 q'.1 lt
    have hm := midM_in h1
    obtain ⟨g, hg, s, t, s1, s2, s3, ps, pt⟩ := pig (P := fun (g : List Pc) t => cm 0 g t = some (onP p.1 q' t)) F p.1 (midM p.1 y') hm.1 (fun t t1 t2 => by
      have e := cm_at (pieceW_same hr.1 mq t1 (by simp only; grind))
      obtain ⟨g, hg, eg⟩ := at_ t _ (by grind) e
      exact ⟨g, hg, eg⟩)
    exact ⟨g, hg, y', h1, h3, s, t, s1, s2, by grind, by grind, ps, pt, cm_at (pieceW_same hr.1 mq s1 (by simp only; grind)), cm_at (pieceW_same hr.1 mq (by simp only; grind) (by simp only; grind))⟩
  have behind : post = [] → ∀ y, p.1 < y → cm 0 (pre ++ p :: post) y = none := fun ep y hy => by
    subst ep
    have := cmr_app2 (pre := pre ++ [p]) (post := []) (t := y) (fun z hz => by
      have := (ends_le hr.1 z hz).2
      rw [endB_app] at this
      have e : endB (endB 0 pre) [p] = p.1 := rfl
      rw [e] at this
      grind) 0
    rw [List.append_nil] at this
    rw [this]
    rfl
  by_cases cb : endB 0 pre < p.1
  · obtain ⟨b', h1, h2, h3⟩ := gap_below Z (endB 0 pre) p.1 cb
    obtain ⟨f, hf, s, t, s1, s2, s3, ps, pt⟩ := pig (P := fun (f : List Pc) t => cm 0 f t = some (onP (endB 0 pre) p t)) F b' p.1 h2 (fun t t1 t2 => by
      have e := cm_at (pieceW_same hr.1 mp (by simp only; grind) t2)
      obtain ⟨g, hg, eg⟩ := at_ t _ (by grind) e
      exact ⟨g, hg, eg⟩)
    have rs : ∀ u, b' < u → u ≤ p.1 → cm 0 (pre ++ p :: post) u = some (onP (endB 0 pre) p u) := fun u u1 u2 => cm_at (pieceW_same hr.1 mp (by simp only; grind) u2)
    cases hpost : post with
    | nil =>
      have e1 := isR f hf f hf t _ (by grind) (rs t (by grind) s3) (.inl pt)
      obtain ⟨q, mq, q1, q2, qc⟩ := piece_over (hrow f hf f hf) (b' := b') (t := t) (fun z hz => by
        rcases h3 _ (mZ f hf f hf z hz) with h | h
        · exact .inl h
        · exact .inr (by grind)) (by grind) (by grind) e1
      have q3 : p.1 < q.2.1 := by
        have hz := (pairsB_mem mq).1
        rcases h3 _ (mZ f hf f hf q.2 hz) with h | h
        · grind
        · have := no f hf f hf q.2 hz
          grind
      have e2 := qc q.2.1 (by grind) Rat.le_refl
      rw [hcm f hf f hf _ (by grind)] at e2
      obtain ⟨h5, _, _⟩ := minO_some e2
      have h5 : cm 0 f q.2.1 = some (onP q.1 q.2 q.2.1) := by rcases h5 with h5 | h5 <;> exact h5
      obtain ⟨d, ed, _⟩ := le _ f _ (by grind) hf h5
      rw [behind hpost _ q3] at ed
      cases ed
    | cons q' post' =>
      obtain ⟨g, hg, y', g1, g2, s', t', g3, g4, g5, g6, g7, g8, g9, g10⟩ := right q' post' hpost
      have e1 := isR f hf g hg t' _ (by grind) g10 (.inr g8)
      obtain ⟨q, mq, q1, q2, qc⟩ := piece_over (hrow f hf g hg) (b' := b') (t := t') (fun z hz => by
        have n := no f hf g hg z hz
        rcases h3 _ (mZ f hf g hg z hz) with h | h
        · exact .inl h
        · rcases g2 _ (mZ f hf g hg z hz) with h' | h'
          · grind
          · exact .inr (by grind)) (by grind) (by grind) e1
      have a1 := isR f hf g hg s _ (by grind) (rs s (by grind) (by grind)) (.inl ps)
      have a2 := isR f hf g hg t _ (by grind) (rs t (by grind) (by grind)) (.inl pt)
      have a3 := isR f hf g hg s' _ (by grind) g9 (.inr g7)
      rw [qc s (by grind) (by grind)] at a1
      rw [qc t (by grind) (by grind)] at a2
      rw [qc s' (by grind) (by grind)] at a3
      rw [qc t' (by grind) (by grind)] at e1
      simp only [Option.some.injEq] at a1 a2 a3 e1
      have l1 := fun u => onP_eq2 s2 a1 a2 u
      have l2 := fun u => onP_eq2 g4 a3 e1 u
      have l3 : ∀ u, onP (endB 0 pre) p u = onP p.1 q' u := fun u => (l1 u).symm.trans (l2 u)
      rw [hpost] at le0
      have st := leanB_mid2 le0
      have hne : p.1 ≠ endB 0 pre := by grind
      have v1 := onP_end hne
      have v2 := onP_beg (b := p.1) (p := q')
      have hq : q'.1 ≠ p.1 := by grind
      unfold strt at st
      rw [decide_eq_true (show q'.2.1 = p.2.2 by rw [← v2, ← v1, l3]), decide_eq_true (rise_of hne hq l3)] at st
      simp at st
  · have e0 : p.1 = endB 0 pre := by grind
    obtain ⟨z, hd, _⟩ := pairs_point hr.1 mp e0
    simp only at z
    have pz : p.1 = 0 := by rw [e0, z]
    have epre : pre = [] := by
      cases pre with
      | nil => rfl
      | cons a A =>
        exfalso
        have := m9 (by simp)
        grind
    subst epre
    have r0 : cm 0 ([] ++ p :: post) 0 = some p.2.1 := by
      rw [List.nil_append, cm_head (by grind)]
      congr 1
      exact onP_beg
    obtain ⟨f, hf, ef⟩ := at_ 0 _ Rat.le_refl r0
    cases hpost : post with
    | nil =>
      have e1 := isR f hf f hf 0 _ Rat.le_refl r0 (.inl ef)
      rw [cm_pieceW] at e1
      obtain ⟨q, hq, _⟩ := Option.map_eq_some_iff.mp e1
      obtain ⟨mq, q2⟩ := pieceW_mem hq
      have hz := (pairsB_mem mq).1
      have q3 : 0 < q.2.1 := by
        have := no f hf f hf q.2 hz
        grind
      have qq := pairsB_all (hrow f hf f hf).1 mq
      have e2 : cm 0 (lesserF f f) q.2.1 = some (onP q.1 q.2 q.2.1) := by
        by_cases cq : q.1 < q.2.1
        · exact cm_at (pieceW_same (hrow f hf f hf).1 mq cq Rat.le_refl)
        · obtain ⟨w1, _, _⟩ := pairs_point (hrow f hf f hf).1 mq (by grind)
          grind
      rw [hcm f hf f hf _ (by grind)] at e2
      obtain ⟨h5, _, _⟩ := minO_some e2
      have h5 : cm 0 f q.2.1 = some (onP q.1 q.2 q.2.1) := by rcases h5 with h5 | h5 <;> exact h5
      obtain ⟨d, ed, _⟩ := le _ f _ (by grind) hf h5
      rw [behind hpost _ (by grind)] at ed
      cases ed
    | cons q' post' =>
      obtain ⟨g, hg, y', g1, g2, s', t', g3, g4, g5, g6, g7, g8, g9, g10⟩ := right q' post' hpost
      have e1 := isR f hf g hg t' _ (by grind) g10 (.inr g8)
      have a3 := isR f hf g hg s' _ (by grind) g9 (.inr g7)
      have a0 := isR f hf g hg 0 _ Rat.le_refl r0 (.inl ef)
      obtain ⟨q, mq, q1, q2, qc⟩ := piece_over (hrow f hf g hg) (b' := 0) (t := t') (fun z hz => by
        have n := no f hf g hg z hz
        have zz := (ends_le (hrow f hf g hg).1 z hz).1
        rcases g2 _ (mZ f hf g hg z hz) with h' | h'
        · grind
        · exact .inr (by grind)) Rat.le_refl (by grind) e1
      rw [qc s' (by grind) (by grind)] at a3
      rw [qc t' (by grind) (by grind)] at e1
      simp only [Option.some.injEq] at a3 e1
      have l2 := fun u => onP_eq2 g4 a3 e1 u
      rw [cm_pieceW] at a0
      obtain ⟨h0, hh0, v0⟩ := Option.map_eq_some_iff.mp a0
      obtain ⟨mh, h02⟩ := pieceW_mem hh0
      have hz := (pairsB_mem mh).1
      have h03 : 0 < h0.2.1 := by
        have := no f hf g hg h0.2 hz
        grind
      have bh : h0.1 = 0 := by
        rcases pieceW_beg hh0 with ⟨w, _⟩ | ⟨x, hx, w1, w2⟩
        · exact w
        · have := (ends_le (hrow f hf g hg).1 x hx).1
          grind
      have bq : q.1 = 0 := by have := (pairsB_all (hrow f hf g hg).1 mq).1; grind
      have same : h0 = q := by
        have w1 := pieceW_same (hrow f hf g hg).1 mh (t := min h0.2.1 q.2.1) (by rw [bh]; grind) (by grind)
        have w2 := pieceW_same (hrow f hf g hg).1 mq (t := min h0.2.1 q.2.1) (by rw [bq]; grind) (by grind)
        rw [w1] at w2
        exact Option.some.inj w2
      subst same
      have l3 : onP h0.1 h0.2 0 = onP p.1 q' 0 := l2 0
      rw [hpost] at le0
      have st := leanB_mid2 (f := []) le0
      have v2 := onP_beg (b := p.1) (p := q')
      have mom := hr.2 p rfl pz
      unfold strt at st
      rw [decide_eq_true (show q'.2.1 = p.2.2 by rw [← v2, pz, ← mom, ← v0, l3, pz]), decide_eq_true (show p.1 = endB 0 [] from pz)] at st
      simp at st
end DL
namespace DL
open PySem PySem.Spec L2
variable {ts : List Tie} {s p q : Pl} {w u v : List Tie} {t : Tie}
theorem flat_lenK {α β : Type} {f : α → List β} {c : Nat} : ∀ {L : List α}, (∀ x ∈ L, (f x).length ≤ c) → (L.flatMap f).length ≤ L.length * c
  | [], _ => by simp
  | x :: L, h => by
    have h1 := h x List.mem_cons_self
    have h2 := flat_lenK (L := L) fun y hy => h y (List.mem_cons_of_mem _ hy)
    rw [List.flatMap_cons, List.length_append, List.length_cons, Nat.succ_mul]
    omega
end DL
namespace DL
open PySem PySem.Spec L2
end DL
namespace DL
open PySem PySem.Spec L2
abbrev Sr := Rat × List Pl
end DL
namespace DL
open PySem PySem.Spec L2
variable {ts : List Tie} {s p q : Pl} {w u v : List Tie} {t : Tie} {ws : List Pl} {e : Rat} {S : Wst}
abbrev KV := List Pc × List Sr
abbrev KnS := List (Pl × KV)
end DL
namespace DL
open PySem PySem.Spec L2
variable {ts : List Tie} {s p q : Pl} {w u v : List Tie} {t : Tie} {ws ps : List Pl} {e : Rat}
end DL
namespace DL
open PySem PySem.Spec L2
variable {ts : List Tie} {s p q : Pl} {w u v : List Tie} {t : Tie} {ws : List Pl} {e x : Rat} {S : Wst}
abbrev LwS := List (Pl × Rat)
end DL
namespace DL
open PySem PySem.Spec L2
variable {ts : List Tie} {s p q : Pl} {w u v : List Tie} {t : Tie} {ws : List Pl} {e x : Rat} {S : Wst} {Y : List Rat} {c : Nat} {zs : KnS} {k : LwS}
end DL
namespace DL
open PySem PySem.Spec L2
end DL
namespace DL
open PySem PySem.Spec L2
variable {ts : List Tie} {s p q : Pl} {t : Tie} {ws : List Pl} {e : Rat} {S : Wst}
end DL
namespace DL
open PySem PySem.Spec L2
variable {ts : List Tie} {s p q : Pl} {w u v : List Tie} {t : Tie} {ws : List Pl} {e : Rat} {S : Wst}
end DL
namespace DL
open PySem PySem.Spec L2
variable {ts : List Tie} {s p q n : Pl} {w u v : List Tie} {t t0 : Tie} {ws ws' ps : List Pl} {e : Rat} {S S' : Wst}
end DL
namespace DL
open PySem PySem.Spec L2
def wayAt (R : List Sr) (x : Rat) : Option (List Pl) := (R.find? fun r => decide (x ≤ r.1)).map Prod.snd
section
variable {R A B f W : List Sr} {r : Sr} {x e : Rat} {b : Option Rat}
end
def AltS : List Sr → Prop
  | a :: b :: r => a.2 ≠ b.2 ∧ AltS (b :: r)
  | _ => True
end DL
namespace DL
open PySem PySem.Spec L2
variable {ts : List Tie} {s p q : Pl} {w u v : List Tie} {t : Tie} {ws ps : List Pl} {e x : Rat} {S : Wst} {Y : List Rat} {c : Nat} {zs : KnS}
structure ToldOk (e : Rat) (Q : Pl → List Tie → Prop) (p : Pl) (v : KV) : Prop where
  iff : ∀ x, 0 ≤ x → (wayAt v.2 x = none ↔ cm 0 v.1 x = none)
  way : ∀ x w, 0 ≤ x → wayAt v.2 x = some w → ∃ u : List Tie, u.map Tie.nm = w ∧ Q p u ∧ wayG e u x = cm 0 v.1 x
  alt : AltS v.2
end DL
namespace DL
open PySem PySem.Spec L2
variable {ts : List Tie} {s p q : Pl} {w u v : List Tie} {t : Tie} {ws ps : List Pl} {e x : Rat} {S : Wst} {Y : List Rat} {c : Nat} {zs : KnS}
inductive Vw (ts : List Tie) (s : Pl) : List Tie → Pl → Prop
  | nil : Vw ts s [] s
  | snoc {w : List Tie} {t : Tie} : Vw ts s w t.a → t ∈ ts → Vw ts s (w ++ [t]) t.b
def QA (ts : List Tie) (s : Pl) (d : Nat) (p : Pl) (u : List Tie) : Prop := Vw ts s u p ∧ u.length ≤ 1 + d ∧ (p = s → u = [])
def TA (ts : List Tie) (s : Pl) (e : Rat) (S : Wst) (zs : KnS) : Prop := ∃ D : List (List Tie), D.Nodup ∧ (∀ w ∈ D, (∃ p, S p w) ∧ 2 ≤ w.length) ∧ ∀ p v, getP zs p = some v → ToldOk e (QA ts s D.length) p v
end DL
namespace DL
open PySem PySem.Spec L2
variable {ts : List Tie} {s p q : Pl} {w u v : List Tie} {t : Tie} {ws ps : List Pl} {e x : Rat} {S : Wst} {Y : List Rat} {c : Nat} {zs : KnS}
end DL
namespace DL
open PySem PySem.Spec L2
variable {ts : List Tie} {s p q g : Pl} {w u v : List Tie} {t : Tie} {ws ps : List Pl} {e x : Rat} {S : Wst} {Y : List Rat} {c : Nat} {zs : KnS}
end DL
namespace DL
open PySem PySem.Spec L2
end DL
namespace DL
open PySem PySem.Spec L2
variable {ts ts' : List Tie} {s p q g : Pl} {w u v : List Tie} {t : Tie} {ws ws' ps : List Pl} {e x : Rat} {S S' : Wst} {Y Y' : List Rat} {c c' : Nat} {zs zs' : KnS}
variable {f f' : Tie → Tie} {r r' : Pl → Pl}
end DL
namespace DL
open PySem PySem.Spec L2
variable {xs ys : List Pl} {zs : List (Pl × Pl)} {w x y a b : Pl}
section
variable {α β : Type} {R : α → β → Prop}
end
end DL
namespace DL
open PySem PySem.Spec L2
variable {ts ms ts' : List Tie} {s p q g : Pl} {ws ps ps' ns ns' : List Pl} {e : Rat}
end DL
namespace DL
open PySem PySem.Spec L2
def wkV (c : PS) (m : Int) : Int := if 0 < c.1 then c.1 % m else (c.2 * 40487 + 12289) % 2147483629 * ((c.2 * 40487 + 12289) % 2147483629) % 2147483563 / 13 % m
def wkC (c : PS) (m : Int) : PS := if 0 < c.1 then (c.1 / m, c.2) else (c.1, (c.2 * 40487 + 12289) % 2147483629)
section
variable {c : PS} {m : Int}
theorem wkV_bd (h : 1 ≤ m) : 0 ≤ wkV c m ∧ wkV c m < m := by
  unfold wkV
  split
  · exact ⟨Int.emod_nonneg _ (by omega), Int.emod_lt_of_pos _ (by omega)⟩
  · exact ⟨Int.emod_nonneg _ (by omega), Int.emod_lt_of_pos _ (by omega)⟩
theorem wkC_ok (v : PotI c) (h : 1 ≤ m) : PotI (wkC c m) := ⟨by
  obtain ⟨a, b, d⟩ := v.v
  unfold wkC
  split
  · exact ⟨Int.ediv_nonneg a (by omega), b, d⟩
  · exact ⟨a, Int.emod_nonneg _ (by decide), Int.emod_lt_of_pos _ (by decide)⟩⟩
instance pot_wk [v : PotI c] [q : Fa (1 ≤ m)] : PotI (wkC c m) := wkC_ok v q.out
instance zi_wk {k : Nat} [q : Fa (1 ≤ m)] [z : ZI k m] : ZI k (wkV c m) := ⟨by
  have := wkV_bd (c := c) q.out
  have := z.z
  unfold Sz at *
  omega⟩
instance fa_wk0 [q : Fa (1 ≤ m)] : Fa (0 ≤ wkV c m) := ⟨(wkV_bd q.out).1⟩
end
end DL
namespace DL
open PySem PySem.Spec L2
section
variable {ts S : List Tie} {ws P bar : List Pl} {f : List (Pl × Rat)} {z : Tie} {s p : Pl} {mo x y : Rat} {m n : Nat}
end
end DL
namespace DL
open PySem PySem.Spec L2
end DL
namespace DL
open PySem PySem.Spec L2
section
variable {ts S : List Tie} {ws P : List Pl} {s p q g : Pl} {mo x y e : Rat} {m n : Nat}
end
end DL
namespace DL
open PySem PySem.Spec L2
structure NetN (ts : List Tie) (ws : List Pl) : Prop where
  nm : ∀ t ∈ ts, NmOk t.nm ∧ NmOk t.a ∧ NmOk t.b
  wn : ∀ w ∈ ws, NmOk w
  lr : ∀ t ∈ ts, t.rs.length ≤ 8
  lw : ws.length ≤ 9
  lt : ts.length ≤ 10
  sz : ∀ t ∈ ts, ∀ q ∈ t.rs, (0 ≤ q.1 ∧ 0 ≤ q.2.1 ∧ 0 ≤ q.2.2.1 ∧ 0 ≤ q.2.2.2) ∧ SzQ 40 q.1 ∧ SzQ 40 q.2.1 ∧ SzQ 40 q.2.2.1 ∧ SzQ 40 q.2.2.2
section
variable {ts : List Tie} {ws : List Pl} {e : Rat}
end
end DL
namespace DL
open PySem PySem.Spec L2
end DL
namespace DL
open PySem PySem.Spec L2
end DL
namespace DL
open PySem PySem.Spec PyProof.Rows L2
section
variable {ts : List Tie} {ws P : List Pl} {g : Pl} {mo : Rat} {m : Nat} {b : PapS}
end
end DL
namespace DL
def mvQ (f : Rat) (q : Rq) : Rq := (q.1 + f, q.2.1 + f, q.2.2.1 + f, q.2.2.2 + f)
theorem mvQ_has {f t : Rat} {q : Rq} : rdHas (mvQ f q) t = true ↔ rdHas q (t - f) = true := by
  rw [rdHas_iff, rdHas_iff]
  unfold mvQ
  constructor
  · rintro ⟨a, b⟩
    simp only at a b
    exact ⟨by grind, by grind⟩
  · rintro ⟨a, b⟩
    exact ⟨by simp only; grind, by simp only; grind⟩
theorem mvQ_on {f t : Rat} {q : Rq} : rdOn (mvQ f q) t = rdOn q (t - f) + f := by
  unfold mvQ rdOn onP
  simp only
  have e1 : q.2.1 + f - (q.1 + f) = q.2.1 - q.1 := by grind
  have e2 : q.2.2.2 + f - (q.2.2.1 + f) = q.2.2.2 - q.2.2.1 := by grind
  have e3 : t - (q.1 + f) = t - f - q.1 := by grind
  by_cases c : q.2.1 = q.1
  · rw [if_pos (by rw [c]), if_pos c]
  · rw [if_neg (fun w => c (by grind)), if_neg c, e1, e2, e3]
    grind
theorem mvQ_mvQ {f g : Rat} {q : Rq} : mvQ f (mvQ g q) = mvQ (g + f) q := by
  unfold mvQ
  simp only [Prod.mk.injEq]
  exact ⟨by grind, by grind, by grind, by grind⟩
theorem waitG_rd {R : List Rq} {t c : Rat} : waitG R t = some c ↔ (∃ q ∈ R, ∃ s, t ≤ s ∧ rdHas q s = true ∧ rdOn q s = c) ∧ ∀ q ∈ R, ∀ s, t ≤ s → rdHas q s = true → c ≤ rdOn q s := by
  rw [waitG_iff]
  constructor
  · rintro ⟨⟨s, hs, e⟩, le⟩
    obtain ⟨q, hq, hh, hc⟩ := offF_at e
    refine ⟨⟨q, hq, s, hs, hh, hc⟩, fun q hq s hs hh => ?_⟩
    obtain ⟨c', e', l⟩ := offF_le hq hh
    exact Rat.le_trans (le s hs c' e') l
  · rintro ⟨⟨q, hq, s, hs, hh, hc⟩, le⟩
    refine ⟨?_, fun s hs c' e' => ?_⟩
    · obtain ⟨c', e', l⟩ := offF_le hq hh
      obtain ⟨q2, hq2, hh2, hc2⟩ := offF_at e'
      have := le q2 hq2 s hs hh2
      refine ⟨s, hs, ?_⟩
      rw [e']
      congr 1
      grind
    · obtain ⟨q2, hq2, hh2, hc2⟩ := offF_at e'
      rw [← hc2]
      exact le q2 hq2 s hs hh2
theorem waitG_mv {R S : List Rq} {y x : Rat} (h : ∀ q, q ∈ S ↔ q ∈ S ∧ (∃ p ∈ R, q = mvQ y p) ∨ q ∈ S ∧ q.2.1 < y) (hr : ∀ p ∈ R, mvQ y p ∈ S) (x0 : 0 ≤ x) : waitG S (x + y) = (waitG R x).map (· + y) := by
  have gone : ∀ q : Rq, ∀ s, q.2.1 < y → x + y ≤ s → rdHas q s = true → False := fun q s a b c => by
    have := (rdHas_iff.mp c).2
    grind
  have key : ∀ c, waitG S (x + y) = some c ↔ waitG R x = some (c - y) := fun c => by
    rw [waitG_rd, waitG_rd]
    constructor
    · rintro ⟨⟨q, hq, s, hs, hh, hc⟩, le⟩
      refine ⟨?_, fun p hp s hs hh => ?_⟩
      · rcases (h q).mp hq with ⟨_, p, hp, rfl⟩ | ⟨_, b⟩
        · refine ⟨p, hp, s - y, by grind, mvQ_has.mp hh, ?_⟩
          rw [mvQ_on] at hc
          grind
        · exact (gone q s b hs hh).elim
      · have := le (mvQ y p) (hr p hp) (s + y) (by grind) (mvQ_has.mpr (by rw [show s + y - y = s by grind]; exact hh))
        rw [mvQ_on, show s + y - y = s by grind] at this
        grind
    · rintro ⟨⟨p, hp, s, hs, hh, hc⟩, le⟩
      refine ⟨⟨mvQ y p, hr p hp, s + y, by grind, mvQ_has.mpr (by rw [show s + y - y = s by grind]; exact hh), ?_⟩, fun q hq s hs hh => ?_⟩
      · rw [mvQ_on, show s + y - y = s by grind]
        grind
      · rcases (h q).mp hq with ⟨_, p, hp, rfl⟩ | ⟨_, b⟩
        · have := le p hp (s - y) (by grind) (mvQ_has.mp hh)
          rw [mvQ_on]
          grind
        · exact (gone q s b hs hh).elim
  cases e : waitG R x with
  | none =>
    cases e2 : waitG S (x + y) with
    | none => rfl
    | some c =>
      rw [(key c).mp e2] at e
      cases e
  | some d =>
    rw [(key (d + y)).mpr (by rw [e]; congr 1; grind)]
    rfl
structure MvT (y : Rat) (A B : Arc) : Prop where
  a : B.a = A.a
  b : B.b = A.b
  g : ∀ x, 0 ≤ x → B.L (x + y) = (A.L x).map (· + y)
variable {y : Rat} {As Bs : List Arc} {g : Pl} {mo : Rat}
theorem wk_mv (f : ∀ A ∈ As, ∃ B ∈ Bs, MvT y A B) (ge : ∀ A ∈ As, ∀ x u, A.L x = some u → x ≤ u) (m0 : 0 ≤ mo) {w : List (Pl × Rat)} (h : Wk As g mo w) : Wk Bs g (mo + y) (w.map fun z => (z.1, z.2 + y)) ∧ ∀ z ∈ w, 0 ≤ z.2 := by
  induction h with
  | one => exact ⟨.one, fun z hz => by rw [List.mem_singleton.mp hz]; exact m0⟩
  | step hA hw e ih =>
    rename_i A x u w
    obtain ⟨B, hB, M⟩ := f A hA
    have u0 := ih.2 (A.b, u) (by simp)
    simp only at u0
    refine ⟨?_, fun z hz => ?_⟩
    · have i1 := ih.1
      simp only [List.map_cons] at i1 ⊢
      rw [← M.a, ← M.b]
      rw [← M.b] at i1
      exact .step hB i1 (by rw [M.g u u0, e]; rfl)
    · rcases List.mem_cons.mp hz with rfl | hz
      · exact Rat.le_trans u0 (ge A hA _ _ e)
      · exact ih.2 z hz
theorem wk_vm (f : ∀ B ∈ Bs, ∃ A ∈ As, MvT y A B) (ge : ∀ A ∈ As, ∀ x u, A.L x = some u → x ≤ u) (m0 : 0 ≤ mo) {w : List (Pl × Rat)} (h : Wk Bs g (mo + y) w) : ∃ v, Wk As g mo v ∧ w = v.map (fun z => (z.1, z.2 + y)) ∧ ∀ z ∈ v, 0 ≤ z.2 := by
  induction h with
  | one => exact ⟨_, .one, rfl, fun z hz => by rw [List.mem_singleton.mp hz]; exact m0⟩
  | step hB hw e ih =>
    rename_i B x u w
    obtain ⟨A, hA, M⟩ := f B hB
    obtain ⟨v, hv, ev, v0⟩ := ih
    cases v with
    | nil => cases ev
    | cons z v =>
      simp only [List.map_cons, List.cons.injEq, Prod.mk.injEq] at ev
      obtain ⟨⟨e1, e2⟩, rfl⟩ := ev
      have z0 := v0 z (by simp)
      rw [e2, M.g _ z0] at e
      obtain ⟨c, ec, rfl⟩ := Option.map_eq_some_iff.mp e
      refine ⟨(A.a, c) :: z :: v, ?_, ?_, fun q hq => ?_⟩
      · obtain ⟨z1, z2⟩ := z
        simp only at e1 ec
        subst e1
        rw [M.b] at hv ⊢
        exact .step hA hv ec
      · simp only [List.map_cons]
        rw [M.a, e1, e2]
      · rcases List.mem_cons.mp hq with rfl | hq
        · exact Rat.le_trans z0 (ge A hA _ _ ec)
        · exact v0 q hq
theorem sd_mv (f : ∀ A ∈ As, ∃ B ∈ Bs, MvT y A B) (ge : ∀ A ∈ As, ∀ x u, A.L x = some u → x ≤ u) (m0 : 0 ≤ mo) {F : Fm} (sd : Sd geR As g mo F) : Sd geR Bs g (mo + y) (fun p => (F p).map (· + y)) := fun p x h => by
  obtain ⟨c, ec, rfl⟩ := Option.map_eq_some_iff.mp h
  obtain ⟨w, hw, nd, l⟩ := sd p c ec
  refine ⟨w.map fun z : Pl × Rat => (z.1, z.2 + y), (wk_mv f ge m0 hw).1, ?_, fun q hq => ?_⟩
  · have : ((p, c + y) :: w.map fun z : Pl × Rat => (z.1, z.2 + y)).map Prod.fst = ((p, c) :: w).map Prod.fst := by
      simp only [List.map_cons, List.map_map]
      rfl
    rw [this]
    exact nd
  · obtain ⟨q2, hq2, rfl⟩ : ∃ q2 ∈ (p, c) :: w, (q2.1, q2.2 + y) = q := by
      rcases List.mem_cons.mp hq with rfl | hq
      · exact ⟨_, List.mem_cons_self, rfl⟩
      · obtain ⟨q2, h2, rfl⟩ := List.mem_map.mp hq
        exact ⟨q2, List.mem_cons_of_mem _ h2, rfl⟩
    obtain ⟨z, ez, lz⟩ := l q2 hq2
    refine ⟨z + y, by simp only; rw [ez]; rfl, ?_⟩
    have : z ≤ q2.2 := lz
    show z + y ≤ q2.2 + y
    grind
theorem cp_mv (f : ∀ B ∈ Bs, ∃ A ∈ As, MvT y A B) (ge : ∀ A ∈ As, ∀ x u, A.L x = some u → x ≤ u) (m0 : 0 ≤ mo) {F : Fm} {n : Nat} (cp : Cp geR As g mo n F) : Cp geR Bs g (mo + y) n (fun p => (F p).map (· + y)) := fun p x w hw hl => by
  obtain ⟨v, hv, ev, v0⟩ := wk_vm f ge m0 hw
  cases v with
  | nil => cases ev
  | cons z v =>
    simp only [List.map_cons, List.cons.injEq, Prod.mk.injEq] at ev
    obtain ⟨⟨rfl, rfl⟩, rfl⟩ := ev
    rw [List.length_map] at hl
    obtain ⟨c, ec, lc⟩ := cp z.1 z.2 v hv hl
    refine ⟨c + y, by simp only; rw [ec]; rfl, ?_⟩
    have : c ≤ z.2 := lc
    show c + y ≤ z.2 + y
    grind
theorem fm_moved {P : List Pl} (f1 : ∀ A ∈ As, ∃ B ∈ Bs, MvT y A B) (f2 : ∀ B ∈ Bs, ∃ A ∈ As, MvT y A B) (ge : ∀ A ∈ As, ∀ x u, A.L x = some u → x ≤ u) (m0 : 0 ≤ mo) (hg : g ∈ P) (ha : ∀ B ∈ Bs, B.a ∈ P) (hP : P.length ≤ 10) {F F' : Fm} (s1 : Sd geR As g mo F) (c1 : ∀ n, Cp geR As g mo n F) (s2 : Sd geR Bs g (mo + y) F') (c2 : ∀ n, Cp geR Bs g (mo + y) n F') : F' = fun p => (F p).map (· + y) :=
  fm_same better_geR (n := 9) hg ha (by omega) s2 (c2 9) (sd_mv f1 ge m0 s1) (cp_mv f2 ge m0 (c1 9))
end DL
namespace DL
open PySem PySem.Spec PyProof.Rows L2
def topS (i : Nat) : Stmt := PySem.Challenge.pw_hourstairs_k95_whole_days.main.body.getD i (.Pass ⟨0, 0, 0, 0⟩)
abbrev k_NO_TIE : D := .str ""
abbrev s_p_common : Stmt := topS 8
theorem sc_p_common : FnScope ["one", "other"] ["one", "other"] (defScope s_p_common) := ⟨rfl, rfl, rfl, by decide +kernel, rfl, by decide +kernel, by decide +kernel⟩
abbrev s_p_is_below : Stmt := topS 14
theorem sc_p_is_below : FnScope ["one", "other"] ["one", "other"] (defScope s_p_is_below) := ⟨rfl, rfl, rfl, by decide +kernel, rfl, by decide +kernel, by decide +kernel⟩
abbrev s_p_ends_of : Stmt := topS 26
theorem sc_p_ends_of : FnScope ["rides", "ride"] ["rides"] (defScope s_p_ends_of) := ⟨rfl, rfl, rfl, by decide +kernel, rfl, by decide +kernel, by decide +kernel⟩
abbrev s_p_is_waiting_let : Stmt := topS 29
theorem sc_p_is_waiting_let : FnScope ["net", "name", "end", "waits", "ties"] ["net", "name"] (defScope s_p_is_waiting_let) := ⟨rfl, rfl, rfl, by decide +kernel, rfl, by decide +kernel, by decide +kernel⟩
abbrev s_p_ties_from : Stmt := topS 33
theorem sc_p_ties_from : FnScope ["net", "place", "name"] ["net", "place"] (defScope s_p_ties_from) := ⟨rfl, rfl, rfl, by decide +kernel, rfl, by decide +kernel, by decide +kernel⟩
abbrev s_pot : Stmt := topS 38
theorem sc_pot : FnScope ["_law_script", "_law_k", "_law_cell"] ["_law_script", "_law_k"] (defScope s_pot) := ⟨rfl, rfl, rfl, by decide +kernel, rfl, by decide +kernel, by decide +kernel⟩
abbrev s_take : Stmt := topS 39
theorem sc_take : FnScope ["_law_pot_here", "_law_many", "_law_digit"] ["_law_pot_here", "_law_many"] (defScope s_take) := ⟨rfl, rfl, rfl, by decide +kernel, rfl, by decide +kernel, by decide +kernel⟩
abbrev s_low : Stmt := topS 40
theorem sc_low : FnScope ["_law_n", "_law_d", "_law_one", "_law_other"] ["_law_n", "_law_d"] (defScope s_low) := ⟨rfl, rfl, rfl, by decide +kernel, rfl, by decide +kernel, by decide +kernel⟩
abbrev s_under : Stmt := topS 41
theorem sc_under : FnScope ["_law_one", "_law_other"] ["_law_one", "_law_other"] (defScope s_under) := ⟨rfl, rfl, rfl, by decide +kernel, rfl, by decide +kernel, by decide +kernel⟩
abbrev s_p_fraction : Stmt := topS 9
theorem sc_p_fraction : FnScope ["n", "d", "by"] ["n", "d"] (defScope s_p_fraction) := ⟨rfl, rfl, rfl, by decide +kernel, rfl, by decide +kernel, by decide +kernel⟩
abbrev s_p_may_come_again : Stmt := topS 18
theorem sc_p_may_come_again : FnScope ["net", "name", "day", "a", "b", "rides", "ride"] ["net", "name", "day"] (defScope s_p_may_come_again) := ⟨rfl, rfl, rfl, by decide +kernel, rfl, by decide +kernel, by decide +kernel⟩
abbrev s_p_ride_has : Stmt := topS 22
theorem sc_p_ride_has : FnScope ["ride", "t"] ["ride", "t"] (defScope s_p_ride_has) := ⟨rfl, rfl, rfl, by decide +kernel, rfl, by decide +kernel, by decide +kernel⟩
abbrev s_p_in_turn : Stmt := topS 25
theorem sc_p_in_turn : FnScope ["moments", "found", "moment", "at"] ["moments"] (defScope s_p_in_turn) := ⟨rfl, rfl, rfl, by decide +kernel, rfl, by decide +kernel, by decide +kernel⟩
abbrev s_p_soonest_place : Stmt := topS 34
theorem sc_p_soonest_place : FnScope ["paper", "left", "best", "place"] ["paper", "left"] (defScope s_p_soonest_place) := ⟨rfl, rfl, rfl, by decide +kernel, rfl, by decide +kernel, by decide +kernel⟩
abbrev s_more : Stmt := topS 42
theorem sc_more : FnScope ["_law_one", "_law_other"] ["_law_one", "_law_other"] (defScope s_more) := ⟨rfl, rfl, rfl, by decide +kernel, rfl, by decide +kernel, by decide +kernel⟩
abbrev s_rides : Stmt := topS 43
theorem sc_rides : FnScope ["_law_pot_here", "_law_part", "_law_found", "_law_k", "_law_first", "_law_late", "_law_come", "_law_comes", "_law_number"] ["_law_pot_here", "_law_part"] (defScope s_rides) := ⟨rfl, rfl, rfl, by decide +kernel, rfl, by decide +kernel, by decide +kernel⟩
abbrev s_day : Stmt := topS 45
theorem sc_day : FnScope ["_law_pot_here", "_law_net_here", "_law_lasts", "_law_a", "_law_b", "_law_rides_here", "_law_ride"] ["_law_pot_here", "_law_net_here"] (defScope s_day) := ⟨rfl, rfl, rfl, by decide +kernel, rfl, by decide +kernel, by decide +kernel⟩
abbrev s_first_wrong : Stmt := topS 46
theorem sc_first_wrong : FnScope ["_law_net_here", "_law_day_here", "_law_name", "_law_a", "_law_b", "_law_rides_here", "_law_ride"] ["_law_net_here", "_law_day_here"] (defScope s_first_wrong) := ⟨rfl, rfl, rfl, by decide +kernel, rfl, by decide +kernel, by decide +kernel⟩
abbrev s_p_plus : Stmt := topS 10
theorem sc_p_plus : FnScope ["one", "other"] ["one", "other"] (defScope s_p_plus) := ⟨rfl, rfl, rfl, by decide +kernel, rfl, by decide +kernel, by decide +kernel⟩
abbrev s_p_less : Stmt := topS 11
theorem sc_p_less : FnScope ["one", "other"] ["one", "other"] (defScope s_p_less) := ⟨rfl, rfl, rfl, by decide +kernel, rfl, by decide +kernel, by decide +kernel⟩
abbrev s_p_times : Stmt := topS 12
theorem sc_p_times : FnScope ["one", "other"] ["one", "other"] (defScope s_p_times) := ⟨rfl, rfl, rfl, by decide +kernel, rfl, by decide +kernel, by decide +kernel⟩
abbrev s_p_over : Stmt := topS 13
theorem sc_p_over : FnScope ["one", "other"] ["one", "other"] (defScope s_p_over) := ⟨rfl, rfl, rfl, by decide +kernel, rfl, by decide +kernel, by decide +kernel⟩
abbrev s_net : Stmt := topS 44
theorem sc_net : FnScope ["_law_pot_here", "_law_part", "_law_places", "_law_bound", "_law_waits", "_law_ties", "_law_name", "_law_a", "_law_b", "_law_rides_here", "_law_place"] ["_law_pot_here", "_law_part"] (defScope s_net) := ⟨rfl, rfl, rfl, by decide +kernel, rfl, by decide +kernel, by decide +kernel⟩
abbrev s_moved : Stmt := topS 47
theorem sc_moved : FnScope ["_law_net_here", "_law_day_here", "_law_many", "_law_ties", "_law_name", "_law_a", "_law_b", "_law_rides_here", "_law_found", "_law_j", "_law_far", "_law_ride", "_law_moment"] ["_law_net_here", "_law_day_here", "_law_many"] (defScope s_moved) := ⟨rfl, rfl, rfl, by decide +kernel, rfl, by decide +kernel, by decide +kernel⟩
abbrev s_p_moved : Stmt := topS 16
theorem sc_p_moved : FnScope ["ride", "far", "moment"] ["ride", "far"] (defScope s_p_moved) := ⟨rfl, rfl, rfl, by decide +kernel, rfl, by decide +kernel, by decide +kernel⟩
abbrev s_p_on_straight : Stmt := topS 21
theorem sc_p_on_straight : FnScope ["begin", "end", "low", "high", "t", "part"] ["begin", "end", "low", "high", "t"] (defScope s_p_on_straight) := ⟨rfl, rfl, rfl, by decide +kernel, rfl, by decide +kernel, by decide +kernel⟩
abbrev s_p_all_moved : Stmt := topS 17
theorem sc_p_all_moved : FnScope ["rides", "day", "many", "found", "j", "far", "ride"] ["rides", "day", "many"] (defScope s_p_all_moved) := ⟨rfl, rfl, rfl, by decide +kernel, rfl, by decide +kernel, by decide +kernel⟩
abbrev s_p_ride_comes : Stmt := topS 23
theorem sc_p_ride_comes : FnScope ["ride", "t", "first", "last", "come", "comes"] ["ride", "t"] (defScope s_p_ride_comes) := ⟨rfl, rfl, rfl, by decide +kernel, rfl, by decide +kernel, by decide +kernel⟩
abbrev s_p_days : Stmt := topS 19
theorem sc_p_days : FnScope ["net", "day", "many", "name", "ties", "told"] ["net", "day", "many"] (defScope s_p_days) := ⟨rfl, rfl, rfl, by decide +kernel, rfl, by decide +kernel, by decide +kernel⟩
abbrev s_p_offer : Stmt := topS 24
theorem sc_p_offer : FnScope ["rides", "t", "found", "ride", "coming"] ["rides", "t"] (defScope s_p_offer) := ⟨rfl, rfl, rfl, by decide +kernel, rfl, by decide +kernel, by decide +kernel⟩
abbrev s_p_set_out : Stmt := topS 27
theorem sc_p_set_out : FnScope ["rides", "wait", "t", "moments", "found", "moment", "coming", "end"] ["rides", "wait", "t"] (defScope s_p_set_out) := ⟨rfl, rfl, rfl, by decide +kernel, rfl, by decide +kernel, by decide +kernel⟩
abbrev s_told : Stmt := topS 48
theorem sc_told : FnScope ["_law_net_here", "_law_day_here", "_law_many", "e", "_law_found"] ["_law_net_here", "_law_day_here", "_law_many"] (defScope s_told) := ⟨rfl, rfl, rfl, by decide +kernel, rfl, by decide +kernel, by decide +kernel⟩
abbrev s_p_ridden_by : Stmt := topS 32
theorem sc_p_ridden_by : FnScope ["net", "name", "moment"] ["net", "name", "moment"] (defScope s_p_ridden_by) := ⟨rfl, rfl, rfl, by decide +kernel, rfl, by decide +kernel, by decide +kernel⟩
abbrev s_p_paper_of : Stmt := topS 35
theorem sc_p_paper_of : FnScope ["net", "start", "moment", "paper", "left", "place", "name", "row", "goal"] ["net", "start", "moment"] (defScope s_p_paper_of) := ⟨rfl, rfl, rfl, by decide +kernel, rfl, by decide +kernel, by decide +kernel⟩
abbrev s_p_soonest : Stmt := topS 36
theorem sc_p_soonest : FnScope ["net", "start", "goal", "moment", "paper"] ["net", "start", "goal", "moment"] (defScope s_p_soonest) := ⟨rfl, rfl, rfl, by decide +kernel, rfl, by decide +kernel, by decide +kernel⟩
abbrev s_later : Stmt := topS 49
theorem sc_later : FnScope ["_law_one", "_law_more_here", "_law_day_here", "_law_t", "_law_place", "_law_due"] ["_law_one", "_law_more_here", "_law_day_here", "_law_t"] (defScope s_later) := ⟨rfl, rfl, rfl, by decide +kernel, rfl, by decide +kernel, by decide +kernel⟩
abbrev s_law : Stmt := topS 50
theorem sc_law : FnScope ["_law_script", "_law_pot_here", "_law_part", "_law_net_here", "_law_day_here", "_law_many", "_law_before", "_law_wrong", "_law_one", "_law_more_here", "_law_moments", "_law_k", "_law_t"] ["_law_script"] (defScope s_law) := ⟨rfl, rfl, rfl, by decide +kernel, rfl, by decide +kernel, by decide +kernel⟩
def subS (j : Nat) : Stmt → Stmt
  | .ClassDef (body := b) .. => b.getD j (.Pass ⟨0, 0, 0, 0⟩)
  | _ => .Pass ⟨0, 0, 0, 0⟩
abbrev s_init_NoDay : Stmt := subS 0 (topS 6)
theorem sc_init_NoDay : FnScope ["self", "name"] ["self", "name"] (defScope s_init_NoDay) := ⟨rfl, rfl, rfl, by decide +kernel, rfl, by decide +kernel, by decide +kernel⟩
noncomputable def B_p_common : SM := (sSeq (sWhile (tB' (e2 dGt (eV 1) (eC (.int 0)))) (sPar 0 1 (aC (eV 1) (aC (e2 dMod (eV 0) (eV 1)) aN))))
    (sRet (eV 0)))
noncomputable def F_p_common : List D → M D := runB 2 B_p_common
noncomputable def B_p_is_below : SM := (sRet (e2 dLt (e2 dMul (e2 dIx (eV 0) (eC (.int 0))) (e2 dIx (eV 1) (eC (.int 1)))) (e2 dMul (e2 dIx (eV 1) (eC (.int 0))) (e2 dIx (eV 0) (eC (.int 1))))))
noncomputable def F_p_is_below : List D → M D := runB 2 B_p_is_below
noncomputable def B_p_ends_of : SM := (sRet (eG (e2 dAdd (eLc (i1 (eV 0) iSeq) (gN 1) tT (e2 dIx (eV 1) (eC (.int 0))) [1]) (eLc (i1 (eV 0) iSeq) (gN 1) tT (e2 dIx (eV 1) (eC (.int 1))) [1]))))
noncomputable def F_p_ends_of : List D → M D := runB 2 B_p_ends_of
noncomputable def B_p_is_waiting_let : SM := (sSeq (sAsg (eV 0) (gT 3 (gsC (gN 2) (gsC (gN 3) (gsC (gN 4) gsN)))))
    (sRet (e2 (dIn false) (e2 dIx (e2 dDG (eV 4) (eV 1)) (eC (.int 0))) (eV 3))))
noncomputable def F_p_is_waiting_let : List D → M D := runB 5 B_p_is_waiting_let
noncomputable def B_p_ties_from : SM := (sRet (eLc (i1 (eA bSortT (aC (e2 dIx (eV 0) (eC (.int 2))) aN)) iSeq) (gN 2) (tB' (e2 dEq (e2 dIx (e2 dDG (e2 dIx (eV 0) (eC (.int 2))) (eV 2)) (eC (.int 0))) (eV 1))) (eV 2) [2]))
noncomputable def F_p_ties_from : List D → M D := runB 3 B_p_ties_from
noncomputable def B_pot : SM := (sSeq (sSet 2 (eIf (tB' (e2 dLt (eV 1) (eA bLen (aC (eV 0) aN)))) (e2 dIx (eV 0) (eV 1)) (eC (.int 0))))
    (sRet (eA mkL (aC (eA bMax2 (aC (eC (.int 0)) (aC (e2 dSub (eV 2) (e2 dPow (eC (.int 10)) (eC (.int 18)))) aN))) (aC (e2 dMod (e2 dAdd (e2 dAdd (e2 dMul (e2 dMod (eV 2) (eC (.int 2147483587))) (eC (.int 39119))) (e2 dMul (eC (.int 7919)) (eV 1))) (eC (.int 41))) (eC (.int 2147483629))) aN)))))
noncomputable def F_pot : List D → M D := runB 3 B_pot
noncomputable def B_take : SM := (sSeq (sIf (tB' (e2 dGt (e2 dIx (eV 0) (eC (.int 0))) (eC (.int 0)))) (sSeq (sAsg (eA bDivmod (aC (e2 dIx (eV 0) (eC (.int 0))) (aC (eV 1) aN))) (gT 2 (gsC (gS (eV 0) (eC (.int 0)) dSetL) (gsC (gN 2) gsN))))
    (sRet (eV 2))) sNil)
    (sSeq (sAsg (e2 dMod (e2 dAdd (e2 dMul (e2 dIx (eV 0) (eC (.int 1))) (eC (.int 40487))) (eC (.int 12289))) (eC (.int 2147483629))) (gS (eV 0) (eC (.int 1)) dSetL))
    (sRet (e2 dMod (e2 dDiv (e2 dMod (e2 dMul (e2 dIx (eV 0) (eC (.int 1))) (e2 dIx (eV 0) (eC (.int 1)))) (eC (.int 2147483563))) (eC (.int 13))) (eV 1)))))
noncomputable def F_take : List D → M D := runB 3 B_take
noncomputable def B_low : SM := (sSeq (sPar 2 3 (aC (eV 0) (aC (eV 1) aN)))
    (sSeq (sWhile (tB' (e2 dGt (eV 3) (eC (.int 0)))) (sPar 2 3 (aC (eV 3) (aC (e2 dMod (eV 2) (eV 3)) aN))))
    (sRet (eA mkT (aC (e2 dDiv (eV 0) (eV 2)) (aC (e2 dDiv (eV 1) (eV 2)) aN))))))
noncomputable def F_low : List D → M D := runB 4 B_low
noncomputable def B_under : SM := (sRet (e2 dLt (e2 dMul (e2 dIx (eV 0) (eC (.int 0))) (e2 dIx (eV 1) (eC (.int 1)))) (e2 dMul (e2 dIx (eV 1) (eC (.int 0))) (e2 dIx (eV 0) (eC (.int 1))))))
noncomputable def F_under : List D → M D := runB 2 B_under
noncomputable def B_p_fraction : SM := (sSeq (sSet 2 (eA (eF 2 F_p_common) (aC (eV 0) (aC (eV 1) aN))))
    (sRet (eA mkT (aC (e2 dDiv (eV 0) (eV 2)) (aC (e2 dDiv (eV 1) (eV 2)) aN)))))
noncomputable def F_p_fraction : List D → M D := runB 3 B_p_fraction
noncomputable def B_p_may_come_again : SM := (sSeq (sAsg (e2 dDG (e2 dIx (eV 0) (eC (.int 2))) (eV 1)) (gT 3 (gsC (gN 3) (gsC (gN 4) (gsC (gN 5) gsN)))))
    (sRet (eAnd (e2 (dIn false) (eV 3) (e2 dIx (eV 0) (eC (.int 1)))) (eG (eA bAll (aC (eLc (i1 (eV 5) iSeq) (gN 6) tT (eA (eF 2 F_p_is_below) (aC (e2 dIx (eV 6) (eC (.int 1))) (aC (eV 2) aN))) [6]) aN))))))
noncomputable def F_p_may_come_again : List D → M D := runB 7 B_p_may_come_again
noncomputable def B_p_ride_has : SM := (sRet (eAnd (eNot (eA (eF 2 F_p_is_below) (aC (eV 1) (aC (e2 dIx (eV 0) (eC (.int 0))) aN)))) (eNot (eA (eF 2 F_p_is_below) (aC (e2 dIx (eV 0) (eC (.int 1))) (aC (eV 1) aN))))))
noncomputable def F_p_ride_has : List D → M D := runB 2 B_p_ride_has
noncomputable def B_p_in_turn : SM := (sSeq (sSet 1 (eA mkL aN))
    (sSeq (sG (sW [2, 3] (sFor (i1 (eV 0) iSeq) (gN 2) (sG (sW [2, 3] (sSeq (sSet 3 (eA bLen (aC (eV 1) aN)))
    (sSeq (sG (sWhile (tAnd' (tB' (e2 dGt (eV 3) (eC (.int 0)))) (tTr (eA (eF 2 F_p_is_below) (aC (eV 2) (aC (e2 dIx (eV 1) (e2 dSub (eV 3) (eC (.int 1)))) aN))))) (sG (sSet 3 (e2 dSub (eV 3) (eC (.int 1)))))))
    (sIf (tOr' (tB' (e2 dEq (eV 3) (eC (.int 0)))) (tB' (e2 dNe (e2 dIx (eV 1) (e2 dSub (eV 3) (eC (.int 1)))) (eV 2)))) (sExpr (eM "list" mIns (eV 1) (aC (eV 3) (aC (eV 2) aN)))) sNil))))))))
    (sRet (eV 1))))
noncomputable def F_p_in_turn : List D → M D := runB 4 B_p_in_turn
noncomputable def B_p_soonest_place : SM := (sSeq (sSet 2 (eC .non))
    (sSeq (sG (sW [3] (sFor (i1 (eV 1) iSeq) (gN 3) (sG (sW [3] (sIf (tOr' (tB' (e2 (isD false) (eV 2) (eC .non))) (tTr (eA (eF 2 F_p_is_below) (aC (e2 dIx (e2 dDG (eV 0) (eV 3)) (eC (.int 0))) (aC (e2 dIx (e2 dDG (eV 0) (eV 2)) (eC (.int 0))) aN))))) (sSet 2 (eV 3)) sNil))))))
    (sRet (eV 2))))
noncomputable def F_p_soonest_place : List D → M D := runB 4 B_p_soonest_place
noncomputable def B_more : SM := (sRet (eA (eF 2 F_low) (aC (e2 dAdd (e2 dMul (e2 dIx (eV 0) (eC (.int 0))) (e2 dIx (eV 1) (eC (.int 1)))) (e2 dMul (e2 dIx (eV 1) (eC (.int 0))) (e2 dIx (eV 0) (eC (.int 1))))) (aC (e2 dMul (e2 dIx (eV 0) (eC (.int 1))) (e2 dIx (eV 1) (eC (.int 1)))) aN))))
noncomputable def F_more : List D → M D := runB 2 B_more
noncomputable def B_rides : SM := (sSeq (sSet 2 (eA mkL aN))
    (sSeq (sG (sW [3, 4, 5, 6, 7] (sFor (iA (aC (eG (eA (eF 2 F_take) (aC (eV 0) (aC (eG (e2 dIx (eA mkL (aC (eC (.int 3)) (aC (eC (.int 3)) (aC (eC (.int 5)) aN)))) (eA (eF 2 F_take) (aC (eV 0) (aC (eC (.int 3)) aN))))) aN)))) aN) iRange1) (gN 3) (sG (sW [3, 4, 5, 6, 7] (sSeq (sSet 4 (eA (eF 2 F_take) (aC (eV 0) (aC (eC (.int 24)) aN))))
    (sSeq (sSet 5 (e2 dAdd (eV 4) (e2 dMul (eA (eF 2 F_take) (aC (eV 0) (aC (eC (.int 12)) aN))) (eA (eF 2 F_take) (aC (eV 0) (aC (eC (.int 2)) aN))))))
    (sSeq (sSet 6 (e2 dAdd (eV 4) (eA (eF 2 F_take) (aC (eV 0) (aC (eC (.int 40)) aN)))))
    (sSeq (sSet 7 (e2 dAdd (eV 5) (eA (eF 2 F_take) (aC (eV 0) (aC (eC (.int 40)) aN)))))
    (sSeq (sIf (tB' (e2 dEq (eV 5) (eV 4))) (sSet 7 (eV 6)) sNil)
    (sExpr (eG (eM "list" mApp (eV 2) (aC (eG (eA bTuple (aC (eLc (i1 (eA mkT (aC (eV 4) (aC (eV 5) (aC (eV 6) (aC (eV 7) aN))))) iSeq) (gN 8) tT (eA (eF 2 F_low) (aC (eV 8) (aC (eV 1) aN))) [8]) aN))) aN))))))))))))))
    (sRet (eA bTuple (aC (eV 2) aN)))))
noncomputable def F_rides : List D → M D := runB 9 B_rides
noncomputable def B_day : SM := (sSeq (sSet 2 (eA mkL aN))
    (sSeq (sG (sW [3, 4, 5] (sLock (e2 dIx (eV 1) (eC (.int 2))) (sFor (iVal (e2 dIx (eV 1) (eC (.int 2)))) (gT 3 (gsC (gN 3) (gsC (gN 4) (gsC (gN 5) gsN)))) (sG (sW [3, 4, 5] (sSet 2 (eG (e2 dAdd (eV 2) (eLc (i1 (eV 5) iSeq) (gN 6) (tB' (e2 dGt (e2 dIx (e2 dIx (eV 6) (eC (.int 1))) (eC (.int 0))) (eC (.int 0)))) (e2 dIx (eV 6) (eC (.int 1))) [6]))))))))))
    (sSeq (sIf (tOr' (tG (tB' (e2 dEq (eV 2) (eA mkL aN)))) (tB' (e2 dGt (eA (eF 2 F_take) (aC (eV 0) (aC (eC (.int 3)) aN))) (eC (.int 0))))) (sRet (eA (eF 2 F_low) (aC (e2 dAdd (eC (.int 36)) (eA (eF 2 F_take) (aC (eV 0) (aC (eC (.int 9)) aN)))) (aC (eC (.int 1)) aN)))) sNil)
    (sRet (e2 dIx (eV 2) (eA (eF 2 F_take) (aC (eV 0) (aC (eA bLen (aC (eV 2) aN)) aN))))))))
noncomputable def F_day : List D → M D := runB 7 B_day
noncomputable def B_first_wrong : SM := (sSeq (sG (sW [2, 3, 4, 5] (sFor (i1 (eA bSortT (aC (e2 dIx (eV 0) (eC (.int 2))) aN)) iSeq) (gN 2) (sG (sW [2, 3, 4, 5] (sSeq (sAsg (e2 dDG (e2 dIx (eV 0) (eC (.int 2))) (eV 2)) (gT 3 (gsC (gN 3) (gsC (gN 4) (gsC (gN 5) gsN)))))
    (sIf (tOr' (tB' (e2 (dIn true) (eV 3) (e2 dIx (eV 0) (eC (.int 1))))) (tG (tB' (e2 dNe (eLc (i1 (eV 5) iSeq) (gN 6) (tNot' (tTr (eA (eF 2 F_under) (aC (e2 dIx (eV 6) (eC (.int 1))) (aC (eV 1) aN))))) (eV 6) [6]) (eA mkL aN))))) (sRet (eV 2)) sNil)))))))
    (sRet (eC (.str ""))))
noncomputable def F_first_wrong : List D → M D := runB 7 B_first_wrong
noncomputable def B_p_plus : SM := (sRet (eA (eF 2 F_p_fraction) (aC (e2 dAdd (e2 dMul (e2 dIx (eV 0) (eC (.int 0))) (e2 dIx (eV 1) (eC (.int 1)))) (e2 dMul (e2 dIx (eV 1) (eC (.int 0))) (e2 dIx (eV 0) (eC (.int 1))))) (aC (e2 dMul (e2 dIx (eV 0) (eC (.int 1))) (e2 dIx (eV 1) (eC (.int 1)))) aN))))
noncomputable def F_p_plus : List D → M D := runB 2 B_p_plus
noncomputable def B_p_less : SM := (sRet (eA (eF 2 F_p_fraction) (aC (e2 dSub (e2 dMul (e2 dIx (eV 0) (eC (.int 0))) (e2 dIx (eV 1) (eC (.int 1)))) (e2 dMul (e2 dIx (eV 1) (eC (.int 0))) (e2 dIx (eV 0) (eC (.int 1))))) (aC (e2 dMul (e2 dIx (eV 0) (eC (.int 1))) (e2 dIx (eV 1) (eC (.int 1)))) aN))))
noncomputable def F_p_less : List D → M D := runB 2 B_p_less
noncomputable def B_p_times : SM := (sRet (eA (eF 2 F_p_fraction) (aC (e2 dMul (e2 dIx (eV 0) (eC (.int 0))) (e2 dIx (eV 1) (eC (.int 0)))) (aC (e2 dMul (e2 dIx (eV 0) (eC (.int 1))) (e2 dIx (eV 1) (eC (.int 1)))) aN))))
noncomputable def F_p_times : List D → M D := runB 2 B_p_times
noncomputable def B_p_over : SM := (sRet (eA (eF 2 F_p_fraction) (aC (e2 dMul (e2 dIx (eV 0) (eC (.int 0))) (e2 dIx (eV 1) (eC (.int 1)))) (aC (e2 dMul (e2 dIx (eV 0) (eC (.int 1))) (e2 dIx (eV 1) (eC (.int 0)))) aN))))
noncomputable def F_p_over : List D → M D := runB 2 B_p_over
noncomputable def B_net : SM := (sSeq (sSet 2 (eG (eSl (eA mkL (aC (eC (.str "a")) (aC (eC (.str "b")) (aC (eC (.str "c")) (aC (eC (.str "d")) aN))))) oN (oS (e2 dAdd (eC (.int 2)) (eA (eF 2 F_take) (aC (eV 0) (aC (eC (.int 3)) aN))))))))
    (sSeq (sSet 3 (eG (e2 dIx (eA mkL (aC (eC (.int 0)) (aC (eC (.int 0)) (aC (eC (.int 0)) (aC (eC (.int 1)) (aC (eC (.int 5)) aN)))))) (eA (eF 2 F_take) (aC (eV 0) (aC (eC (.int 5)) aN))))))
    (sSeq (sSet 4 (eG (eA bTuple (aC (eLc (i1 (eV 2) iSeq) (gN 10) (tB' (e2 dGe (eA (eF 2 F_take) (aC (eV 0) (aC (eC (.int 5)) aN))) (eV 3))) (eV 10) [10]) aN))))
    (sSeq (sSet 5 eDN)
    (sSeq (sG (sW [6, 7, 8, 9] (sFor (i1 (eG (eSl (eA mkL (aC (eC (.str "s")) (aC (eC (.str "q")) (aC (eC (.str "r")) (aC (eC (.str "p")) (aC (eC (.str "t")) aN)))))) oN (oS (e2 dAdd (eC (.int 1)) (eA (eF 2 F_take) (aC (eV 0) (aC (eC (.int 5)) aN))))))) iSeq) (gN 6) (sG (sW [6, 7, 8, 9] (sSeq (sSet 7 (eA (eF 2 F_take) (aC (eV 0) (aC (eA bLen (aC (eV 2) aN)) aN))))
    (sSeq (sSet 8 (e2 dMod (e2 dAdd (e2 dAdd (eV 7) (eC (.int 1))) (eA (eF 2 F_take) (aC (eV 0) (aC (e2 dSub (eA bLen (aC (eV 2) aN)) (eC (.int 1))) aN)))) (eA bLen (aC (eV 2) aN))))
    (sSeq (sSet 9 (eA (eF 2 F_rides) (aC (eV 0) (aC (eV 1) aN))))
    (sSeq (sIf (tB' (e2 (dIn true) (e2 dIx (eV 2) (eV 7)) (eV 4))) (sSet 9 (eSl (eA mkT (aC (eA mkT (aC (eA mkT (aC (eC (.int 0)) (aC (eC (.int 1)) aN))) (aC (eA mkT (aC (eC (.int 2)) (aC (eC (.int 1)) aN))) (aC (eA mkT (aC (eC (.int 3)) (aC (eC (.int 1)) aN))) (aC (eA mkT (aC (eC (.int 5)) (aC (eC (.int 1)) aN))) aN))))) aN)) oN (oS (eA (eF 2 F_take) (aC (eV 0) (aC (eC (.int 3)) aN)))))) sNil)
    (sAsg (eA mkT (aC (e2 dIx (eV 2) (eV 7)) (aC (e2 dIx (eV 2) (eV 8)) (aC (eV 9) aN)))) (gS (eV 5) (eV 6) dSetD)))))))))))
    (sRet (eA mkT (aC (eA (eF 2 F_low) (aC (eC (.int 60)) (aC (eV 1) aN))) (aC (eV 4) (aC (eV 5) aN))))))))))
noncomputable def F_net : List D → M D := runB2 11 B_net
noncomputable def B_moved : SM := (sSeq (sSet 3 eDN)
    (sSeq (sG (sW [4, 5, 6, 7, 8, 9, 10] (sLock (e2 dIx (eV 0) (eC (.int 2))) (sFor (iKey (e2 dIx (eV 0) (eC (.int 2)))) (gN 4) (sG (sW [4, 5, 6, 7, 8, 9, 10] (sSeq (sAsg (e2 dDG (e2 dIx (eV 0) (eC (.int 2))) (eV 4)) (gT 3 (gsC (gN 5) (gsC (gN 6) (gsC (gN 7) gsN)))))
    (sSeq (sSet 8 (eA mkL aN))
    (sSeq (sG (sW [9, 10] (sFor (iA (aC (eV 2) aN) iRange1) (gN 9) (sG (sW [9, 10] (sSeq (sSet 10 (eA (eF 2 F_low) (aC (e2 dMul (eV 9) (e2 dIx (eV 1) (eC (.int 0)))) (aC (e2 dIx (eV 1) (eC (.int 1))) aN))))
    (sSet 8 (eG (e2 dAdd (eV 8) (eLc (i1 (eV 7) iSeq) (gN 11) tT (eG (eA bTuple (aC (eLc (i1 (eV 11) iSeq) (gN 12) tT (eA (eF 2 F_more) (aC (eV 12) (aC (eV 10) aN))) [12]) aN))) [11]))))))))))
    (sAsg (eA mkT (aC (eV 5) (aC (eV 6) (aC (eA bTuple (aC (eV 8) aN)) aN)))) (gS (eV 3) (eV 4) dSetD)))))))))))
    (sRet (eA mkT (aC (eA (eF 2 F_low) (aC (e2 dMul (eV 2) (e2 dIx (eV 1) (eC (.int 0)))) (aC (e2 dIx (eV 1) (eC (.int 1))) aN))) (aC (e2 dIx (eV 0) (eC (.int 1))) (aC (eV 3) aN)))))))
noncomputable def F_moved : List D → M D := runB2 13 B_moved
noncomputable def B_p_moved : SM := (sRet (eG (eA bTuple (aC (eLc (i1 (eV 0) iSeq) (gN 2) tT (eA (eF 2 F_p_plus) (aC (eV 2) (aC (eV 1) aN))) [2]) aN))))
noncomputable def F_p_moved : List D → M D := runB 3 B_p_moved
noncomputable def B_p_on_straight : SM := (sSeq (sIf (tB' (e2 dEq (eV 0) (eV 1))) (sRet (eV 2)) sNil)
    (sSeq (sSet 5 (eA (eF 2 F_p_over) (aC (eA (eF 2 F_p_less) (aC (eV 4) (aC (eV 0) aN))) (aC (eA (eF 2 F_p_less) (aC (eV 1) (aC (eV 0) aN))) aN))))
    (sSeq (sIf (tTr (eA (eF 2 F_p_is_below) (aC (eV 3) (aC (eV 2) aN)))) (sRet (eA (eF 2 F_p_less) (aC (eV 2) (aC (eA (eF 2 F_p_times) (aC (eA (eF 2 F_p_less) (aC (eV 2) (aC (eV 3) aN))) (aC (eV 5) aN))) aN)))) sNil)
    (sRet (eA (eF 2 F_p_plus) (aC (eV 2) (aC (eA (eF 2 F_p_times) (aC (eA (eF 2 F_p_less) (aC (eV 3) (aC (eV 2) aN))) (aC (eV 5) aN))) aN)))))))
noncomputable def F_p_on_straight : List D → M D := runB 6 B_p_on_straight
noncomputable def B_p_all_moved : SM := (sSeq (sSet 3 (eA mkL aN))
    (sSeq (sG (sW [4, 5] (sFor (iA (aC (eV 2) aN) iRange1) (gN 4) (sG (sW [4, 5] (sSeq (sSet 5 (eA (eF 2 F_p_times) (aC (eV 1) (aC (eA mkT (aC (eV 4) (aC (eC (.int 1)) aN))) aN))))
    (sExpr (eG (eM "list" mExt (eV 3) (aC (eLc (i1 (eV 0) iSeq) (gN 6) tT (eA (eF 2 F_p_moved) (aC (eV 6) (aC (eV 5) aN))) [6]) aN))))))))))
    (sRet (eA bTuple (aC (eV 3) aN)))))
noncomputable def F_p_all_moved : List D → M D := runB 7 B_p_all_moved
noncomputable def B_p_ride_comes : SM := (sSeq (sAsg (eV 0) (gT 4 (gsC (gN 2) (gsC (gN 3) (gsC (gN 4) (gsC (gN 5) gsN))))))
    (sRet (eA (eF 5 F_p_on_straight) (aC (eV 2) (aC (eV 3) (aC (eV 4) (aC (eV 5) (aC (eV 1) aN))))))))
noncomputable def F_p_ride_comes : List D → M D := runB 6 B_p_ride_comes
noncomputable def B_p_days : SM := (sSeq (sG (sW [3] (sFor (i1 (eA bSortT (aC (e2 dIx (eV 0) (eC (.int 2))) aN)) iSeq) (gN 3) (sG (sW [3] (sIf (tNot' (tTr (eA (eFn 3 F_p_may_come_again) (aC (eV 0) (aC (eV 3) (aC (eV 1) aN)))))) (sRaiseI "NoDay" ["name"] (aC (eV 3) aN)) sNil))))))
    (sSeq (sSet 4 eDN)
    (sSeq (sG (sW [3, 5] (sLock (e2 dIx (eV 0) (eC (.int 2))) (sFor (iItm (e2 dIx (eV 0) (eC (.int 2)))) (gT 2 (gsC (gN 3) (gsC (gN 5) gsN))) (sG (sW [3, 5] (sAsg (eA mkT (aC (e2 dIx (eV 5) (eC (.int 0))) (aC (e2 dIx (eV 5) (eC (.int 1))) (aC (eA (eFn 3 F_p_all_moved) (aC (e2 dIx (eV 5) (eC (.int 2))) (aC (eV 1) (aC (eV 2) aN)))) aN)))) (gS (eV 4) (eV 3) dSetD))))))))
    (sRet (eA mkT (aC (eA (eFn 2 F_p_times) (aC (eV 1) (aC (eA mkT (aC (eV 2) (aC (eC (.int 1)) aN))) aN))) (aC (e2 dIx (eV 0) (eC (.int 1))) (aC (eV 4) aN))))))))
noncomputable def F_p_days : List D → M D := runX2 6 B_p_days
noncomputable def B_p_offer : SM := (sSeq (sSet 2 (eC .non))
    (sSeq (sG (sW [3, 4] (sFor (i1 (eV 0) iSeq) (gN 3) (sG (sW [3, 4] (sIf (tTr (eA (eF 2 F_p_ride_has) (aC (eV 3) (aC (eV 1) aN)))) (sSeq (sSet 4 (eA (eF 2 F_p_ride_comes) (aC (eV 3) (aC (eV 1) aN))))
    (sIf (tOr' (tB' (e2 (isD false) (eV 2) (eC .non))) (tTr (eA (eF 2 F_p_is_below) (aC (eV 4) (aC (eV 2) aN))))) (sSet 2 (eV 4)) sNil)) sNil))))))
    (sRet (eV 2))))
noncomputable def F_p_offer : List D → M D := runB 5 B_p_offer
noncomputable def B_p_set_out : SM := (sSeq (sSet 3 (eA mkL (aC (eV 2) aN)))
    (sSeq (sIf (tTr (eV 1)) (sSet 3 (eG (eA (eF 1 F_p_in_turn) (aC (eG (e2 dAdd (eA mkL (aC (eV 2) aN)) (eLc (i1 (eA (eF 1 F_p_ends_of) (aC (eV 0) aN)) iSeq) (gN 7) (tTr (eA (eF 2 F_p_is_below) (aC (eV 2) (aC (eV 7) aN)))) (eV 7) [7]))) aN)))) sNil)
    (sSeq (sSet 4 (eC .non))
    (sSeq (sG (sW [5, 6] (sFor (i1 (eV 3) iSeq) (gN 5) (sG (sW [5, 6] (sSeq (sSet 6 (eA (eF 2 F_p_offer) (aC (eV 0) (aC (eV 5) aN))))
    (sIf (tAnd' (tB' (e2 (isD true) (eV 6) (eC .non))) (tOr' (tB' (e2 (isD false) (eV 4) (eC .non))) (tTr (eA (eF 2 F_p_is_below) (aC (eV 6) (aC (e2 dIx (eV 4) (eC (.int 1))) aN)))))) (sSet 4 (eA mkT (aC (eV 5) (aC (eV 6) aN)))) sNil)))))))
    (sRet (eV 4))))))
noncomputable def F_p_set_out : List D → M D := runB 8 B_p_set_out
noncomputable def B_told : SM := (sTryE 3 (sRet (eA (eF 3 F_p_days) (aC (eV 0) (aC (eV 1) (aC (eV 2) aN))))) "NoDay" fun a d => (sSeq (sSet 4 (eA mkL (aC (eIsN 3 a d true) (aC (eIsN 3 a d false) (aC (eIsN 3 a d false) (aC (eIsN 3 a d false) aN))))))
    (sSeq (sSet 4 (e2 dAdd (eV 4) (eA mkL (aC (eIsN 3 a d false) (aC (eIsN 3 a d true) aN)))))
    (sRet (eA mkT (aC (eV 4) (aC (eIf (tTr (eIsN 3 a d true)) (eFld 3 a d "name") (eC (.str ""))) aN)))))))
noncomputable def F_told : List D → M D := runB2 5 B_told
noncomputable def B_p_ridden_by : SM := (sRet (eA (eF 3 F_p_set_out) (aC (e2 dIx (e2 dDG (e2 dIx (eV 0) (eC (.int 2))) (eV 1)) (eC (.int 2))) (aC (eA (eF 2 F_p_is_waiting_let) (aC (eV 0) (aC (eV 1) aN))) (aC (eV 2) aN)))))
noncomputable def F_p_ridden_by : List D → M D := runB 3 B_p_ridden_by
noncomputable def B_p_paper_of : SM := (sSeq (sSet 3 (eDP (eV 1) (eA mkT (aC (eV 2) (aC (eC k_NO_TIE) aN)))))
    (sSeq (sSet 4 (eA mkL (aC (eV 1) aN)))
    (sSeq (sG (sW [5, 6, 7, 8] (sWhile (tG (tB' (e2 dNe (eV 4) (eA mkL aN)))) (sG (sW [5, 6, 7, 8] (sSeq (sSet 5 (eA (eF 2 F_p_soonest_place) (aC (eV 3) (aC (eV 4) aN))))
    (sSeq (sExpr (eM "list" mRem (eV 4) (aC (eV 5) aN)))
    (sG (sW [6, 7, 8] (sFor (i1 (eA (eF 2 F_p_ties_from) (aC (eV 0) (aC (eV 5) aN))) iSeq) (gN 6) (sG (sW [6, 7, 8] (sSeq (sSet 7 (eA (eF 3 F_p_ridden_by) (aC (eV 0) (aC (eV 6) (aC (e2 dIx (e2 dDG (eV 3) (eV 5)) (eC (.int 0))) aN)))))
    (sSeq (sSet 8 (e2 dIx (e2 dDG (e2 dIx (eV 0) (eC (.int 2))) (eV 6)) (eC (.int 1))))
    (sIf (tAnd' (tB' (e2 (isD true) (eV 7) (eC .non))) (tOr' (tB' (e2 (dDI true) (eV 8) (eV 3))) (tTr (eA (eF 2 F_p_is_below) (aC (e2 dIx (eV 7) (eC (.int 1))) (aC (e2 dIx (e2 dDG (eV 3) (eV 8)) (eC (.int 0))) aN)))))) (sSeq (sIf (tB' (e2 (dIn true) (eV 8) (eV 4))) (sExpr (eM "list" mApp (eV 4) (aC (eV 8) aN))) sNil)
    (sAsg (eA mkT (aC (e2 dIx (eV 7) (eC (.int 1))) (aC (eV 6) aN))) (gS (eV 3) (eV 8) dSetD))) sNil)))))))))))))))
    (sRet (eV 3)))))
noncomputable def F_p_paper_of : List D → M D := runB 9 B_p_paper_of
noncomputable def B_p_soonest : SM := (sSeq (sSet 4 (eA (eF 3 F_p_paper_of) (aC (eV 0) (aC (eV 1) (aC (eV 3) aN)))))
    (sSeq (sIf (tB' (e2 (dDI true) (eV 2) (eV 4))) (sRet (eC .non)) sNil)
    (sRet (e2 dIx (e2 dDG (eV 4) (eV 2)) (eC (.int 0))))))
noncomputable def F_p_soonest : List D → M D := runB 5 B_p_soonest
noncomputable def B_later : SM := (sSeq (sG (sW [4, 5] (sFor (i1 (eA mkL (aC (eC (.str "a")) (aC (eC (.str "b")) (aC (eC (.str "c")) (aC (eC (.str "d")) aN))))) iSeq) (gN 4) (sG (sW [4, 5] (sSeq (sSet 5 (eA (eF 4 F_p_soonest) (aC (eV 0) (aC (eC (.str "a")) (aC (eV 4) (aC (eV 3) aN))))))
    (sSeq (sIf (tB' (e2 (isD true) (eV 5) (eC .non))) (sSet 5 (eA (eF 2 F_more) (aC (eV 5) (aC (eV 2) aN)))) sNil)
    (sIf (tB' (e2 dNe (eA (eF 4 F_p_soonest) (aC (eV 1) (aC (eC (.str "a")) (aC (eV 4) (aC (eA (eF 2 F_more) (aC (eV 3) (aC (eV 2) aN))) aN))))) (eV 5))) (sRet (eC (.bl false))) sNil))))))))
    (sRet (eC (.bl true))))
noncomputable def F_later : List D → M D := runB 6 B_later
noncomputable def B_law : SM := (sSeq (sSet 1 (eA (eF 2 F_pot) (aC (eV 0) (aC (eC (.int 0)) aN))))
    (sSeq (sSet 2 (e2 dAdd (eC (.int 1)) (eA (eF 2 F_take) (aC (eV 1) (aC (eC (.int 4)) aN)))))
    (sSeq (sSet 3 (eA (eF 2 F_net) (aC (eV 1) (aC (eV 2) aN))))
    (sSeq (sSet 4 (eA (eF 2 F_day) (aC (eV 1) (aC (eV 3) aN))))
    (sSeq (sSet 5 (e2 dAdd (eC (.int 1)) (eA (eF 2 F_take) (aC (eV 1) (aC (eC (.int 4)) aN)))))
    (sSeq (sSet 6 (eA bReprN (aC (eV 3) aN)))
    (sSeq (sSet 7 (eA (eF 2 F_first_wrong) (aC (eV 3) (aC (eV 4) aN))))
    (sSeq (sSet 8 (eA (eF 3 F_told) (aC (eV 3) (aC (eV 4) (aC (eV 5) aN)))))
    (sSeq (sIf (tB' (e2 dNe (eV 7) (eC (.str "")))) (sRet (eAnd (eG (e2 (dEqX false) (eV 8) (eA mkT (aC (eA mkL (aC (eC (.bl true)) (aC (eC (.bl false)) (aC (eC (.bl false)) (aC (eC (.bl false)) (aC (eC (.bl false)) (aC (eC (.bl true)) aN))))))) (aC (eV 7) aN))))) (e2 dEq (eA bReprN (aC (eV 3) aN)) (eV 6)))) sNil)
    (sSeq (sSet 9 (eA (eF 3 F_told) (aC (eV 3) (aC (eV 4) (aC (e2 dAdd (eV 5) (eC (.int 1))) aN)))))
    (sSeq (sIf (tOr' (tG (tB' (e2 (dEqX true) (eV 8) (eA (eF 3 F_moved) (aC (eV 3) (aC (eV 4) (aC (eV 5) aN))))))) (tG (tB' (e2 (dEqX true) (eV 9) (eA (eF 3 F_moved) (aC (eV 3) (aC (eV 4) (aC (e2 dAdd (eV 5) (eC (.int 1))) aN)))))))) (sRet (eC (.bl false))) sNil)
    (sSeq (sIf (tB' (e2 dNe (eA bReprN (aC (eV 3) aN)) (eV 6))) (sRet (eC (.bl false))) sNil)
    (sSeq (sSet 10 (eG (e2 dAdd (eLc (iA (aC (eC (.int 3)) aN) iRange1) (gN 11) tT (eA (eF 2 F_low) (aC (eA (eF 2 F_take) (aC (eV 1) (aC (e2 dMul (eC (.int 50)) (eV 5)) aN))) (aC (eV 2) aN))) [11]) (eA mkL (aC (eA mkT (aC (eC (.int 0)) (aC (eC (.int 1)) aN))) (aC (e2 dIx (eV 8) (eC (.int 0))) aN))))))
    (sSeq (sIf (tNot' (tTr (eG (eA bAll (aC (eLc (i1 (eV 10) iSeq) (gN 12) tT (eA (eF 4 F_later) (aC (eV 8) (aC (eV 9) (aC (eV 4) (aC (eV 12) aN))))) [12]) aN))))) (sRet (eC (.bl false))) sNil)
    (sSeq (sExpr (e1 dClear (e2 dIx (eV 8) (eC (.int 2)))))
    (sRet (eG (e2 (dEqX false) (eA (eF 3 F_p_days) (aC (eV 3) (aC (eV 4) (aC (eV 5) aN)))) (eA (eF 3 F_moved) (aC (eV 3) (aC (eV 4) (aC (eV 5) aN))))))))))))))))))))))
noncomputable def F_law : List D → M D := runB 13 B_law
structure TopF (K : PySem.W.Frag) (mg : Str → Option Value) : Prop where
  t_p_common : Top K mg "common" s_p_common ["one", "other"]
  t_p_is_below : Top K mg "is_below" s_p_is_below ["one", "other"]
  t_p_ends_of : Top K mg "ends_of" s_p_ends_of ["rides"]
  t_p_is_waiting_let : Top K mg "is_waiting_let" s_p_is_waiting_let ["net", "name"]
  t_p_ties_from : Top K mg "ties_from" s_p_ties_from ["net", "place"]
  t_pot : Top K mg "_law_pot" s_pot ["_law_script", "_law_k"]
  t_take : Top K mg "_law_take" s_take ["_law_pot_here", "_law_many"]
  t_low : Top K mg "_law_low" s_low ["_law_n", "_law_d"]
  t_under : Top K mg "_law_under" s_under ["_law_one", "_law_other"]
  t_p_fraction : Top K mg "fraction" s_p_fraction ["n", "d"]
  t_p_may_come_again : Top K mg "may_come_again" s_p_may_come_again ["net", "name", "day"]
  t_p_ride_has : Top K mg "ride_has" s_p_ride_has ["ride", "t"]
  t_p_in_turn : Top K mg "in_turn" s_p_in_turn ["moments"]
  t_p_soonest_place : Top K mg "soonest_place" s_p_soonest_place ["paper", "left"]
  t_more : Top K mg "_law_more" s_more ["_law_one", "_law_other"]
  t_rides : Top K mg "_law_rides" s_rides ["_law_pot_here", "_law_part"]
  t_day : Top K mg "_law_day" s_day ["_law_pot_here", "_law_net_here"]
  t_first_wrong : Top K mg "_law_first_wrong" s_first_wrong ["_law_net_here", "_law_day_here"]
  t_p_plus : Top K mg "plus" s_p_plus ["one", "other"]
  t_p_less : Top K mg "less" s_p_less ["one", "other"]
  t_p_times : Top K mg "times" s_p_times ["one", "other"]
  t_p_over : Top K mg "over" s_p_over ["one", "other"]
  t_net : Top K mg "_law_net" s_net ["_law_pot_here", "_law_part"]
  t_moved : Top K mg "_law_moved" s_moved ["_law_net_here", "_law_day_here", "_law_many"]
  t_p_moved : Top K mg "moved" s_p_moved ["ride", "far"]
  t_p_on_straight : Top K mg "on_straight" s_p_on_straight ["begin", "end", "low", "high", "t"]
  t_p_all_moved : Top K mg "all_moved" s_p_all_moved ["rides", "day", "many"]
  t_p_ride_comes : Top K mg "ride_comes" s_p_ride_comes ["ride", "t"]
  t_p_days : Top K mg "days" s_p_days ["net", "day", "many"]
  t_p_offer : Top K mg "offer" s_p_offer ["rides", "t"]
  t_p_set_out : Top K mg "set_out" s_p_set_out ["rides", "wait", "t"]
  t_told : Top K mg "_law_told" s_told ["_law_net_here", "_law_day_here", "_law_many"]
  t_p_ridden_by : Top K mg "ridden_by" s_p_ridden_by ["net", "name", "moment"]
  t_p_paper_of : Top K mg "paper_of" s_p_paper_of ["net", "start", "moment"]
  t_p_soonest : Top K mg "soonest" s_p_soonest ["net", "start", "goal", "moment"]
  t_later : Top K mg "_law_later" s_later ["_law_one", "_law_more_here", "_law_day_here", "_law_t"]
  t_law : Top K mg "law" s_law ["_law_script"]
  z_ValueError : mg "ValueError" = none
  z_all : mg "all" = none
  z_divmod : mg "divmod" = none
  z_isinstance : mg "isinstance" = none
  z_len : mg "len" = none
  z_max : mg "max" = none
  z_range : mg "range" = none
  z_repr : mg "repr" = none
  z_sorted : mg "sorted" = none
  z_tuple : mg "tuple" = none
  c_NO_TIE : CF K mg "NO_TIE" k_NO_TIE
  n_NoDay : ExN K mg "NoDay"
  f_NoDay_name : FlN K mg "NoDay" "name"
  b_HourError : BaseC K mg "HourError"
  y_NoDay : TopI K mg "NoDay" "NoDay.__init__" s_init_NoDay ["name"]
  h_HourError_NoDay : HnF K mg "HourError" "NoDay"
  i_NoDay_NoDay : IsF K mg "NoDay" "NoDay" true
  i_NoDay_NoText : IsF K mg "NoDay" "NoText" false
  i_NoDay_NoTie : IsF K mg "NoDay" "NoTie" false
  i_NoDay_NotRight : IsF K mg "NoDay" "NotRight" false
  i_NoDay_Overtaken : IsF K mg "NoDay" "Overtaken" false
  j_NoDay_ValueError : IsB K mg "NoDay" "ValueError" true
section
variable {P : Program} {w : World} {K : PySem.W.Frag} {mg : Str → Option Value} {base : Heap}
theorem d_init_NoDay (T : TopF K mg) : DefI P w K mg base 1 "NoDay" ["name"] := by
  refine init_mk (k := 0) (m := "a tie that can't come again each day") (N := ["self", "name"]) T.y_NoDay sc_init_NoDay (by decide) (by decide) fun f cdv A outer s H E => ?_
  exact pss_cons (ps_expr (pe_oinit T.b_HourError rfl (pa_cons (pe_var (i := 0) rfl (Or.inl rfl)) (pa_cons pe_str pa_nil)))) (pss_cons (ps_ost (pe_var (i := 0) rfl (Or.inl rfl)) (pe_var (i := 1) rfl (Or.inl rfl))) pss_nil)
theorem d_p_common (T : TopF K mg) : Def P w K mg base 1 "common" ["one", "other"] F_p_common := by
  have sc := sc_p_common
  refine def_mk (body := B_p_common) (N := ["one", "other"]) T.t_p_common sc fun f cdv A outer s H E hr => ?_
  exact (ds_cons (ds_while PassesOwn.never (dt_cmp op_gtD lift_ord (de_var 1) de_int) (ds_one (ds_par 0 1 rfl sc.nd (da_cons (de_var 1) (da_cons (de_mod (de_var 0) (de_var 1)) da_nil)))))
    (ds_one (ds_ret (de_var 0))))
theorem d_p_is_below (T : TopF K mg) : Def P w K mg base 1 "is_below" ["one", "other"] F_p_is_below := by
  have sc := sc_p_is_below
  refine def_mk (body := B_p_is_below) (N := ["one", "other"]) T.t_p_is_below sc fun f cdv A outer s H E hr => ?_
  exact (ds_one (ds_ret (de_cmp op_ltD lift_ord (de_mul (de_ixD (de_var 0) de_int) (de_ixD (de_var 1) de_int)) (de_mul (de_ixD (de_var 1) de_int) (de_ixD (de_var 0) de_int)))))
theorem d_p_ends_of (T : TopF K mg) : Def P w K mg base 1 "ends_of" ["rides"] F_p_ends_of := by
  have sc := sc_p_ends_of
  refine def_mk (body := B_p_ends_of) (N := ["rides", "ride"]) T.t_p_ends_of sc fun f cdv A outer s H E hr => ?_
  exact (ds_one (ds_ret (de_gc (de_add (de_lc (own := [("ride", 1)]) rfl sc.nd (di_seq (de_var 0)) (blkOk_by (N := ["rides", "ride"]) (sc := defScope s_p_ends_of) (by decide +kernel)) (lg_name sc.nd (i := 1)) (fun _ _ _ _ _ => pts_T) (fun _ _ _ _ _ => (de_ixD (de_var 1) de_int))) (de_lc (own := [("ride", 1)]) rfl sc.nd (di_seq (de_var 0)) (blkOk_by (N := ["rides", "ride"]) (sc := defScope s_p_ends_of) (by decide +kernel)) (lg_name sc.nd (i := 1)) (fun _ _ _ _ _ => pts_T) (fun _ _ _ _ _ => (de_ixD (de_var 1) de_int)))))))
theorem d_p_is_waiting_let (T : TopF K mg) : Def P w K mg base 1 "is_waiting_let" ["net", "name"] F_p_is_waiting_let := by
  have sc := sc_p_is_waiting_let
  refine def_mk (body := B_p_is_waiting_let) (N := ["net", "name", "end", "waits", "ties"]) T.t_p_is_waiting_let sc fun f cdv A outer s H E hr => ?_
  exact (ds_cons (ds_asg (de_var 0) (dg_tup rfl (dgs_cons (dg_name sc.nd (i := 2)) (dgs_cons (dg_name sc.nd (i := 3)) (dgs_cons (dg_name sc.nd (i := 4)) dgs_nil)))))
    (ds_one (ds_ret (de_cmp (op_inX (hu65 hr)) lift_in (de_ixD (de_dget (hu1 hr) (de_var 4) (de_var 1)) de_int) (de_var 3)))))
theorem d_p_ties_from (T : TopF K mg) : Def P w K mg base 1 "ties_from" ["net", "place"] F_p_ties_from := by
  have sc := sc_p_ties_from
  refine def_mk (body := B_p_ties_from) (N := ["net", "place", "name"]) T.t_p_ties_from sc fun f cdv A outer s H E hr => ?_
  exact (ds_one (ds_ret (de_lc (own := [("name", 2)]) rfl sc.nd (di_seq (de_bt (call_sortT rfl) lift_sortT T.z_sorted (da_cons (de_ixD (de_var 0) de_int) da_nil))) (blkOk_by (N := ["net", "place", "name"]) (sc := defScope s_p_ties_from) (by decide +kernel)) (lg_name sc.nd (i := 2)) (fun _ _ _ _ _ => pts_1 (dt_cmp (op_eqD' (hu64 hr)) lift_eq (de_ixD (de_dget (hu1 hr) (de_ixD (de_var 0) de_int) (de_var 2)) de_int) (de_var 1))) (fun _ _ _ _ _ => (de_var 2)))))
theorem d_pot (T : TopF K mg) : Def P w K mg base 1 "_law_pot" ["_law_script", "_law_k"] F_pot := by
  have sc := sc_pot
  refine def_mk (body := B_pot) (N := ["_law_script", "_law_k", "_law_cell"]) T.t_pot sc fun f cdv A outer s H E hr => ?_
  exact (ds_cons (ds_set 2 sc.nd (de_if (dt_cmp op_ltD lift_ord (de_var 1) (de_bt call_lenA lift_len T.z_len (da_cons (de_var 0) da_nil))) (de_ixD (de_var 0) (de_var 1)) de_int))
    (ds_one (ds_ret (de_lst (da_cons (de_bt (call_max2 rfl) lift_bII T.z_max (da_cons de_int (da_cons (de_sub (de_var 2) (de_pow de_int de_int)) da_nil))) (da_cons (de_mod (de_add (de_add (de_mul (de_mod (de_var 2) de_int) de_int) (de_mul de_int (de_var 1))) de_int) de_int) da_nil))))))
theorem d_take (T : TopF K mg) : Def P w K mg base 1 "_law_take" ["_law_pot_here", "_law_many"] F_take := by
  have sc := sc_take
  refine def_mk (body := B_take) (N := ["_law_pot_here", "_law_many", "_law_digit"]) T.t_take sc fun f cdv A outer s H E hr => ?_
  exact (ds_cons (ds_if (dt_cmp op_gtD lift_ord (de_ixD (de_var 0) de_int) de_int) (ds_cons (ds_asg (de_bt call_divmodW lift_divmod T.z_divmod (da_cons (de_ixD (de_var 0) de_int) (da_cons (de_var 1) da_nil))) (dg_tup rfl (dgs_cons (dg_sub set_list lift_setL (de_var 0) de_int) (dgs_cons (dg_name sc.nd (i := 2)) dgs_nil))))
    (ds_one (ds_ret (de_var 2)))) ds_nil)
    (ds_cons (ds_asg (de_mod (de_add (de_mul (de_ixD (de_var 0) de_int) de_int) de_int) de_int) (dg_sub set_list lift_setL (de_var 0) de_int))
    (ds_one (ds_ret (de_mod (de_div (de_mod (de_mul (de_ixD (de_var 0) de_int) (de_ixD (de_var 0) de_int)) de_int) de_int) (de_var 1))))))
theorem d_low (T : TopF K mg) : Def P w K mg base 1 "_law_low" ["_law_n", "_law_d"] F_low := by
  have sc := sc_low
  refine def_mk (body := B_low) (N := ["_law_n", "_law_d", "_law_one", "_law_other"]) T.t_low sc fun f cdv A outer s H E hr => ?_
  exact (ds_cons (ds_par 2 3 rfl sc.nd (da_cons (de_var 0) (da_cons (de_var 1) da_nil)))
    (ds_cons (ds_while PassesOwn.never (dt_cmp op_gtD lift_ord (de_var 3) de_int) (ds_one (ds_par 2 3 rfl sc.nd (da_cons (de_var 3) (da_cons (de_mod (de_var 2) (de_var 3)) da_nil)))))
    (ds_one (ds_ret (de_tup (da_cons (de_div (de_var 0) (de_var 2)) (da_cons (de_div (de_var 1) (de_var 2)) da_nil)))))))
theorem d_under (T : TopF K mg) : Def P w K mg base 1 "_law_under" ["_law_one", "_law_other"] F_under := by
  have sc := sc_under
  refine def_mk (body := B_under) (N := ["_law_one", "_law_other"]) T.t_under sc fun f cdv A outer s H E hr => ?_
  exact (ds_one (ds_ret (de_cmp op_ltD lift_ord (de_mul (de_ixD (de_var 0) de_int) (de_ixD (de_var 1) de_int)) (de_mul (de_ixD (de_var 1) de_int) (de_ixD (de_var 0) de_int)))))
theorem d_p_fraction (T : TopF K mg) : Def P w K mg base 2 "fraction" ["n", "d"] F_p_fraction := by
  have sc := sc_p_fraction
  refine def_mk (body := B_p_fraction) (N := ["n", "d", "by"]) T.t_p_fraction sc fun f cdv A outer s H E hr => ?_
  exact (ds_cons (ds_set 2 sc.nd (de_def (d_p_common T) (hr.mono (by decide)) (da_cons (de_var 0) (da_cons (de_var 1) da_nil))))
    (ds_one (ds_ret (de_tup (da_cons (de_div (de_var 0) (de_var 2)) (da_cons (de_div (de_var 1) (de_var 2)) da_nil))))))
theorem d_p_may_come_again (T : TopF K mg) : Def P w K mg base 2 "may_come_again" ["net", "name", "day"] F_p_may_come_again := by
  have sc := sc_p_may_come_again
  refine def_mk (body := B_p_may_come_again) (N := ["net", "name", "day", "a", "b", "rides", "ride"]) T.t_p_may_come_again sc fun f cdv A outer s H E hr => ?_
  exact (ds_cons (ds_asg (de_dget (hu1 hr) (de_ixD (de_var 0) de_int) (de_var 1)) (dg_tup rfl (dgs_cons (dg_name sc.nd (i := 3)) (dgs_cons (dg_name sc.nd (i := 4)) (dgs_cons (dg_name sc.nd (i := 5)) dgs_nil)))))
    (ds_one (ds_ret (de_and (de_cmp (op_inX (hu65 hr)) lift_in (de_var 3) (de_ixD (de_var 0) de_int)) (de_one (de_gc (de_bt (cr_all rfl) lift_all T.z_all (da_cons (de_lc (own := [("ride", 6)]) rfl sc.nd (di_seq (de_var 5)) (blkOk_by (N := ["net", "name", "day", "a", "b", "rides", "ride"]) (sc := defScope s_p_may_come_again) (by decide +kernel)) (lg_name sc.nd (i := 6)) (fun _ _ _ _ _ => pts_T) (fun _ _ _ _ _ => (de_def (d_p_is_below T) (hr.mono (by decide)) (da_cons (de_ixD (de_var 6) de_int) (da_cons (de_var 2) da_nil))))) da_nil))))))))
theorem d_p_ride_has (T : TopF K mg) : Def P w K mg base 2 "ride_has" ["ride", "t"] F_p_ride_has := by
  have sc := sc_p_ride_has
  refine def_mk (body := B_p_ride_has) (N := ["ride", "t"]) T.t_p_ride_has sc fun f cdv A outer s H E hr => ?_
  exact (ds_one (ds_ret (de_and (de_not (de_def (d_p_is_below T) (hr.mono (by decide)) (da_cons (de_var 1) (da_cons (de_ixD (de_var 0) de_int) da_nil)))) (de_one (de_not (de_def (d_p_is_below T) (hr.mono (by decide)) (da_cons (de_ixD (de_var 0) de_int) (da_cons (de_var 1) da_nil))))))))
theorem d_p_in_turn (T : TopF K mg) : Def P w K mg base 2 "in_turn" ["moments"] F_p_in_turn := by
  have sc := sc_p_in_turn
  refine def_mk (body := B_p_in_turn) (N := ["moments", "found", "moment", "at"]) T.t_p_in_turn sc fun f cdv A outer s H E hr => ?_
  exact (ds_cons (ds_set 1 sc.nd (de_lst da_nil))
    (ds_cons (ds_gc (ds_wp [2, 3] (ds_for PassesOwn.never rfl (di_seq (de_var 0)) (dg_name sc.nd (i := 2)) (dss_gc (dss_wp [2, 3] (ds_cons (ds_set 3 sc.nd (de_bt call_lenA lift_len T.z_len (da_cons (de_var 1) da_nil)))
    (ds_cons (ds_gc (ds_while PassesOwn.never (dt_w (dw_and (dt_cmp op_gtD lift_ord (de_var 3) de_int) (dw_and1 (dt_tr (de_def (d_p_is_below T) (hr.mono (by decide)) (da_cons (de_var 2) (da_cons (de_ixD (de_var 1) (de_sub (de_var 3) de_int)) da_nil))))))) (dss_gc (ds_one (ds_set 3 sc.nd (de_sub (de_var 3) de_int))))))
    (ds_one (ds_if (dt_w (dw_or (dt_cmp (op_eqD' (hu64 hr)) lift_eq (de_var 3) de_int) (dw_or1 (dt_cmp (op_neD' (hu64 hr)) lift_eq (de_ixD (de_var 1) (de_sub (de_var 3) de_int)) (de_var 2))))) (ds_one (ds_expr (de_m PySem.F.plainAttrs_list PySem.F.slot_list_insert PySem.F.type_list_insert mt_insert lift_ins (de_var 1) (da_cons (de_var 3) (da_cons (de_var 2) da_nil))))) ds_nil)))))))))
    (ds_one (ds_ret (de_var 1)))))
theorem d_p_soonest_place (T : TopF K mg) : Def P w K mg base 2 "soonest_place" ["paper", "left"] F_p_soonest_place := by
  have sc := sc_p_soonest_place
  refine def_mk (body := B_p_soonest_place) (N := ["paper", "left", "best", "place"]) T.t_p_soonest_place sc fun f cdv A outer s H E hr => ?_
  exact (ds_cons (ds_set 2 sc.nd de_non)
    (ds_cons (ds_gc (ds_wp [3] (ds_for PassesOwn.never rfl (di_seq (de_var 1)) (dg_name sc.nd (i := 3)) (dss_gc (dss_wp [3] (ds_one (ds_if (dt_w (dw_or (dt_cmp op_isD lift_is (de_var 2) de_non) (dw_or1 (dt_tr (de_def (d_p_is_below T) (hr.mono (by decide)) (da_cons (de_ixD (de_dget (hu1 hr) (de_var 0) (de_var 3)) de_int) (da_cons (de_ixD (de_dget (hu1 hr) (de_var 0) (de_var 2)) de_int) da_nil))))))) (ds_one (ds_set 2 sc.nd (de_var 3))) ds_nil)))))))
    (ds_one (ds_ret (de_var 2)))))
theorem d_more (T : TopF K mg) : Def P w K mg base 2 "_law_more" ["_law_one", "_law_other"] F_more := by
  have sc := sc_more
  refine def_mk (body := B_more) (N := ["_law_one", "_law_other"]) T.t_more sc fun f cdv A outer s H E hr => ?_
  exact (ds_one (ds_ret (de_def (d_low T) (hr.mono (by decide)) (da_cons (de_add (de_mul (de_ixD (de_var 0) de_int) (de_ixD (de_var 1) de_int)) (de_mul (de_ixD (de_var 1) de_int) (de_ixD (de_var 0) de_int))) (da_cons (de_mul (de_ixD (de_var 0) de_int) (de_ixD (de_var 1) de_int)) da_nil)))))
theorem d_rides (T : TopF K mg) : Def P w K mg base 2 "_law_rides" ["_law_pot_here", "_law_part"] F_rides := by
  have sc := sc_rides
  refine def_mk (body := B_rides) (N := ["_law_pot_here", "_law_part", "_law_found", "_law_k", "_law_first", "_law_late", "_law_come", "_law_comes", "_law_number"]) T.t_rides sc fun f cdv A outer s H E hr => ?_
  exact (ds_cons (ds_set 2 sc.nd (de_lst da_nil))
    (ds_cons (ds_gc (ds_wp [3, 4, 5, 6, 7] (ds_for PassesOwn.never rfl (di_range1 T.z_range (da_cons (de_gc (de_def (d_take T) (hr.mono (by decide)) (da_cons (de_var 0) (da_cons (de_gc (de_ixD (de_lst (da_cons de_int (da_cons de_int (da_cons de_int da_nil)))) (de_def (d_take T) (hr.mono (by decide)) (da_cons (de_var 0) (da_cons de_int da_nil))))) da_nil)))) da_nil)) (dg_name sc.nd (i := 3)) (dss_gc (dss_wp [3, 4, 5, 6, 7] (ds_cons (ds_set 4 sc.nd (de_def (d_take T) (hr.mono (by decide)) (da_cons (de_var 0) (da_cons de_int da_nil))))
    (ds_cons (ds_set 5 sc.nd (de_add (de_var 4) (de_mul (de_def (d_take T) (hr.mono (by decide)) (da_cons (de_var 0) (da_cons de_int da_nil))) (de_def (d_take T) (hr.mono (by decide)) (da_cons (de_var 0) (da_cons de_int da_nil))))))
    (ds_cons (ds_set 6 sc.nd (de_add (de_var 4) (de_def (d_take T) (hr.mono (by decide)) (da_cons (de_var 0) (da_cons de_int da_nil)))))
    (ds_cons (ds_set 7 sc.nd (de_add (de_var 5) (de_def (d_take T) (hr.mono (by decide)) (da_cons (de_var 0) (da_cons de_int da_nil)))))
    (ds_cons (ds_if (dt_cmp (op_eqD' (hu64 hr)) lift_eq (de_var 5) (de_var 4)) (ds_one (ds_set 7 sc.nd (de_var 6))) ds_nil)
    (ds_one (ds_expr (de_gc (de_app (de_var 2) (da_cons (de_gc (de_ty call_tuple_of lift_tuple T.z_tuple (da_cons (de_lc (own := [("_law_number", 8)]) rfl sc.nd (di_seq (de_tup (da_cons (de_var 4) (da_cons (de_var 5) (da_cons (de_var 6) (da_cons (de_var 7) da_nil)))))) (blkOk_by (N := ["_law_pot_here", "_law_part", "_law_found", "_law_k", "_law_first", "_law_late", "_law_come", "_law_comes", "_law_number"]) (sc := defScope s_rides) (by decide +kernel)) (lg_name sc.nd (i := 8)) (fun _ _ _ _ _ => pts_T) (fun _ _ _ _ _ => (de_def (d_low T) (hr.mono (by decide)) (da_cons (de_var 8) (da_cons (de_var 1) da_nil))))) da_nil))) da_nil)))))))))))))))
    (ds_one (ds_ret (de_ty call_tuple_of lift_tuple T.z_tuple (da_cons (de_var 2) da_nil))))))
theorem d_day (T : TopF K mg) : Def P w K mg base 2 "_law_day" ["_law_pot_here", "_law_net_here"] F_day := by
  have sc := sc_day
  refine def_mk (body := B_day) (N := ["_law_pot_here", "_law_net_here", "_law_lasts", "_law_a", "_law_b", "_law_rides_here", "_law_ride"]) T.t_day sc fun f cdv A outer s H E hr => ?_
  exact (ds_cons (ds_set 2 sc.nd (de_lst da_nil))
    (ds_cons (ds_gc (ds_wp [3, 4, 5] (ds_lock (e2 dIx (eV 1) (eC (.int 2))) (ds_for PassesOwn.never rfl (di_values (de_ixD (de_var 1) de_int)) (dg_tup rfl (dgs_cons (dg_name sc.nd (i := 3)) (dgs_cons (dg_name sc.nd (i := 4)) (dgs_cons (dg_name sc.nd (i := 5)) dgs_nil)))) (dss_gc (dss_wp [3, 4, 5] (ds_one (ds_set 2 sc.nd (de_gc (de_add (de_var 2) (de_lc (own := [("_law_ride", 6)]) rfl sc.nd (di_seq (de_var 5)) (blkOk_by (N := ["_law_pot_here", "_law_net_here", "_law_lasts", "_law_a", "_law_b", "_law_rides_here", "_law_ride"]) (sc := defScope s_day) (by decide +kernel)) (lg_name sc.nd (i := 6)) (fun _ _ _ _ _ => pts_1 (dt_cmp op_gtD lift_ord (de_ixD (de_ixD (de_var 6) de_int) de_int) de_int)) (fun _ _ _ _ _ => (de_ixD (de_var 6) de_int)))))))))))))
    (ds_cons (ds_if (dt_w (dw_or (dt_gc (dt_cmp (op_eqD' (hu64 hr)) lift_eq (de_var 2) (de_lst da_nil))) (dw_or1 (dt_cmp op_gtD lift_ord (de_def (d_take T) (hr.mono (by decide)) (da_cons (de_var 0) (da_cons de_int da_nil))) de_int)))) (ds_one (ds_ret (de_def (d_low T) (hr.mono (by decide)) (da_cons (de_add de_int (de_def (d_take T) (hr.mono (by decide)) (da_cons (de_var 0) (da_cons de_int da_nil)))) (da_cons de_int da_nil))))) ds_nil)
    (ds_one (ds_ret (de_ixD (de_var 2) (de_def (d_take T) (hr.mono (by decide)) (da_cons (de_var 0) (da_cons (de_bt call_lenA lift_len T.z_len (da_cons (de_var 2) da_nil)) da_nil)))))))))
theorem d_first_wrong (T : TopF K mg) : Def P w K mg base 2 "_law_first_wrong" ["_law_net_here", "_law_day_here"] F_first_wrong := by
  have sc := sc_first_wrong
  refine def_mk (body := B_first_wrong) (N := ["_law_net_here", "_law_day_here", "_law_name", "_law_a", "_law_b", "_law_rides_here", "_law_ride"]) T.t_first_wrong sc fun f cdv A outer s H E hr => ?_
  exact (ds_cons (ds_gc (ds_wp [2, 3, 4, 5] (ds_for PassesOwn.never rfl (di_seq (de_bt (call_sortT rfl) lift_sortT T.z_sorted (da_cons (de_ixD (de_var 0) de_int) da_nil))) (dg_name sc.nd (i := 2)) (dss_gc (dss_wp [2, 3, 4, 5] (ds_cons (ds_asg (de_dget (hu1 hr) (de_ixD (de_var 0) de_int) (de_var 2)) (dg_tup rfl (dgs_cons (dg_name sc.nd (i := 3)) (dgs_cons (dg_name sc.nd (i := 4)) (dgs_cons (dg_name sc.nd (i := 5)) dgs_nil)))))
    (ds_one (ds_if (dt_w (dw_or (dt_cmp (op_notInX (hu65 hr)) lift_in (de_var 3) (de_ixD (de_var 0) de_int)) (dw_or1 (dt_gc (dt_cmp (op_neD' (hu64 hr)) lift_eq (de_lc (own := [("_law_ride", 6)]) rfl sc.nd (di_seq (de_var 5)) (blkOk_by (N := ["_law_net_here", "_law_day_here", "_law_name", "_law_a", "_law_b", "_law_rides_here", "_law_ride"]) (sc := defScope s_first_wrong) (by decide +kernel)) (lg_name sc.nd (i := 6)) (fun _ _ _ _ _ => pts_1 (dt_not (dt_tr (de_def (d_under T) (hr.mono (by decide)) (da_cons (de_ixD (de_var 6) de_int) (da_cons (de_var 1) da_nil)))))) (fun _ _ _ _ _ => (de_var 6))) (de_lst da_nil)))))) (ds_one (ds_ret (de_var 2))) ds_nil))))))))
    (ds_one (ds_ret de_str)))
theorem d_p_plus (T : TopF K mg) : Def P w K mg base 3 "plus" ["one", "other"] F_p_plus := by
  have sc := sc_p_plus
  refine def_mk (body := B_p_plus) (N := ["one", "other"]) T.t_p_plus sc fun f cdv A outer s H E hr => ?_
  exact (ds_one (ds_ret (de_def (d_p_fraction T) (hr.mono (by decide)) (da_cons (de_add (de_mul (de_ixD (de_var 0) de_int) (de_ixD (de_var 1) de_int)) (de_mul (de_ixD (de_var 1) de_int) (de_ixD (de_var 0) de_int))) (da_cons (de_mul (de_ixD (de_var 0) de_int) (de_ixD (de_var 1) de_int)) da_nil)))))
theorem d_p_less (T : TopF K mg) : Def P w K mg base 3 "less" ["one", "other"] F_p_less := by
  have sc := sc_p_less
  refine def_mk (body := B_p_less) (N := ["one", "other"]) T.t_p_less sc fun f cdv A outer s H E hr => ?_
  exact (ds_one (ds_ret (de_def (d_p_fraction T) (hr.mono (by decide)) (da_cons (de_sub (de_mul (de_ixD (de_var 0) de_int) (de_ixD (de_var 1) de_int)) (de_mul (de_ixD (de_var 1) de_int) (de_ixD (de_var 0) de_int))) (da_cons (de_mul (de_ixD (de_var 0) de_int) (de_ixD (de_var 1) de_int)) da_nil)))))
theorem d_p_times (T : TopF K mg) : Def P w K mg base 3 "times" ["one", "other"] F_p_times := by
  have sc := sc_p_times
  refine def_mk (body := B_p_times) (N := ["one", "other"]) T.t_p_times sc fun f cdv A outer s H E hr => ?_
  exact (ds_one (ds_ret (de_def (d_p_fraction T) (hr.mono (by decide)) (da_cons (de_mul (de_ixD (de_var 0) de_int) (de_ixD (de_var 1) de_int)) (da_cons (de_mul (de_ixD (de_var 0) de_int) (de_ixD (de_var 1) de_int)) da_nil)))))
theorem d_p_over (T : TopF K mg) : Def P w K mg base 3 "over" ["one", "other"] F_p_over := by
  have sc := sc_p_over
  refine def_mk (body := B_p_over) (N := ["one", "other"]) T.t_p_over sc fun f cdv A outer s H E hr => ?_
  exact (ds_one (ds_ret (de_def (d_p_fraction T) (hr.mono (by decide)) (da_cons (de_mul (de_ixD (de_var 0) de_int) (de_ixD (de_var 1) de_int)) (da_cons (de_mul (de_ixD (de_var 0) de_int) (de_ixD (de_var 1) de_int)) da_nil)))))
theorem d_net (T : TopF K mg) : Def P w K mg base 3 "_law_net" ["_law_pot_here", "_law_part"] F_net := by
  have sc := sc_net
  refine def2_mk (body := B_net) (N := ["_law_pot_here", "_law_part", "_law_places", "_law_bound", "_law_waits", "_law_ties", "_law_name", "_law_a", "_law_b", "_law_rides_here", "_law_place"]) T.t_net sc fun f cdv A outer s H E hr => ?_
  exact (ds_cons (ds_set 2 sc.nd (de_gc (de_sl (de_lst (da_cons de_str (da_cons de_str (da_cons de_str (da_cons de_str da_nil))))) do_none (do_some (de_add de_int (de_def (d_take T) (hr.mono (by decide)) (da_cons (de_var 0) (da_cons de_int da_nil))))))))
    (ds_cons (ds_set 3 sc.nd (de_gc (de_ixD (de_lst (da_cons de_int (da_cons de_int (da_cons de_int (da_cons de_int (da_cons de_int da_nil)))))) (de_def (d_take T) (hr.mono (by decide)) (da_cons (de_var 0) (da_cons de_int da_nil))))))
    (ds_cons (ds_set 4 sc.nd (de_gc (de_ty call_tuple_of lift_tuple T.z_tuple (da_cons (de_lc (own := [("_law_place", 10)]) rfl sc.nd (di_seq (de_var 2)) (blkOk_by (N := ["_law_pot_here", "_law_part", "_law_places", "_law_bound", "_law_waits", "_law_ties", "_law_name", "_law_a", "_law_b", "_law_rides_here", "_law_place"]) (sc := defScope s_net) (by decide +kernel)) (lg_name sc.nd (i := 10)) (fun _ _ _ _ _ => pts_1 (dt_cmp op_geD lift_ord (de_def (d_take T) (hr.mono (by decide)) (da_cons (de_var 0) (da_cons de_int da_nil))) (de_var 3))) (fun _ _ _ _ _ => (de_var 10))) da_nil))))
    (ds_cons (ds_set 5 sc.nd de_dnew)
    (ds_cons (ds_gc (ds_wp [6, 7, 8, 9] (ds_for PassesOwn.never rfl (di_seq (de_gc (de_sl (de_lst (da_cons de_str (da_cons de_str (da_cons de_str (da_cons de_str (da_cons de_str da_nil)))))) do_none (do_some (de_add de_int (de_def (d_take T) (hr.mono (by decide)) (da_cons (de_var 0) (da_cons de_int da_nil)))))))) (dg_name sc.nd (i := 6)) (dss_gc (dss_wp [6, 7, 8, 9] (ds_cons (ds_set 7 sc.nd (de_def (d_take T) (hr.mono (by decide)) (da_cons (de_var 0) (da_cons (de_bt call_lenA lift_len T.z_len (da_cons (de_var 2) da_nil)) da_nil))))
    (ds_cons (ds_set 8 sc.nd (de_mod (de_add (de_add (de_var 7) de_int) (de_def (d_take T) (hr.mono (by decide)) (da_cons (de_var 0) (da_cons (de_sub (de_bt call_lenA lift_len T.z_len (da_cons (de_var 2) da_nil)) de_int) da_nil)))) (de_bt call_lenA lift_len T.z_len (da_cons (de_var 2) da_nil))))
    (ds_cons (ds_set 9 sc.nd (de_def (d_rides T) (hr.mono (by decide)) (da_cons (de_var 0) (da_cons (de_var 1) da_nil))))
    (ds_cons (ds_if (dt_cmp (op_notInX (hu65 hr)) lift_in (de_ixD (de_var 2) (de_var 7)) (de_var 4)) (ds_one (ds_set 9 sc.nd (de_sl (de_tup (da_cons (de_tup (da_cons (de_tup (da_cons de_int (da_cons de_int da_nil))) (da_cons (de_tup (da_cons de_int (da_cons de_int da_nil))) (da_cons (de_tup (da_cons de_int (da_cons de_int da_nil))) (da_cons (de_tup (da_cons de_int (da_cons de_int da_nil))) da_nil))))) da_nil)) do_none (do_some (de_def (d_take T) (hr.mono (by decide)) (da_cons (de_var 0) (da_cons de_int da_nil))))))) ds_nil)
    (ds_one (ds_asg (de_tup (da_cons (de_ixD (de_var 2) (de_var 7)) (da_cons (de_ixD (de_var 2) (de_var 8)) (da_cons (de_var 9) da_nil)))) (dg_sub (set_dict (hu1 hr)) lift_setD (de_var 5) (de_var 6)))))))))))))
    (ds_one (ds_ret (de_tup (da_cons (de_def (d_low T) (hr.mono (by decide)) (da_cons de_int (da_cons (de_var 1) da_nil))) (da_cons (de_var 4) (da_cons (de_var 5) da_nil)))))))))))
theorem d_moved (T : TopF K mg) : Def P w K mg base 3 "_law_moved" ["_law_net_here", "_law_day_here", "_law_many"] F_moved := by
  have sc := sc_moved
  refine def2_mk (body := B_moved) (N := ["_law_net_here", "_law_day_here", "_law_many", "_law_ties", "_law_name", "_law_a", "_law_b", "_law_rides_here", "_law_found", "_law_j", "_law_far", "_law_ride", "_law_moment"]) T.t_moved sc fun f cdv A outer s H E hr => ?_
  exact (ds_cons (ds_set 3 sc.nd de_dnew)
    (ds_cons (ds_gc (ds_wp [4, 5, 6, 7, 8, 9, 10] (ds_lock (e2 dIx (eV 0) (eC (.int 2))) (ds_for PassesOwn.never rfl (di_keys (de_ixD (de_var 0) de_int)) (dg_name sc.nd (i := 4)) (dss_gc (dss_wp [4, 5, 6, 7, 8, 9, 10] (ds_cons (ds_asg (de_dget (hu1 hr) (de_ixD (de_var 0) de_int) (de_var 4)) (dg_tup rfl (dgs_cons (dg_name sc.nd (i := 5)) (dgs_cons (dg_name sc.nd (i := 6)) (dgs_cons (dg_name sc.nd (i := 7)) dgs_nil)))))
    (ds_cons (ds_set 8 sc.nd (de_lst da_nil))
    (ds_cons (ds_gc (ds_wp [9, 10] (ds_for PassesOwn.never rfl (di_range1 T.z_range (da_cons (de_var 2) da_nil)) (dg_name sc.nd (i := 9)) (dss_gc (dss_wp [9, 10] (ds_cons (ds_set 10 sc.nd (de_def (d_low T) (hr.mono (by decide)) (da_cons (de_mul (de_var 9) (de_ixD (de_var 1) de_int)) (da_cons (de_ixD (de_var 1) de_int) da_nil))))
    (ds_one (ds_set 8 sc.nd (de_gc (de_add (de_var 8) (de_lc (own := [("_law_ride", 11)]) rfl sc.nd (di_seq (de_var 7)) (blkOk_by (N := ["_law_net_here", "_law_day_here", "_law_many", "_law_ties", "_law_name", "_law_a", "_law_b", "_law_rides_here", "_law_found", "_law_j", "_law_far", "_law_ride", "_law_moment"]) (sc := defScope s_moved) (by decide +kernel)) (lg_name sc.nd (i := 11)) (fun _ _ _ _ _ => pts_T) (fun _ _ _ _ _ => (de_gc (de_ty call_tuple_of lift_tuple T.z_tuple (da_cons (de_lc (own := [("_law_moment", 12)]) rfl sc.nd (di_seq (de_var 11)) (blkOk_nest (N := ["_law_net_here", "_law_day_here", "_law_many", "_law_ties", "_law_name", "_law_a", "_law_b", "_law_rides_here", "_law_found", "_law_j", "_law_far", "_law_ride", "_law_moment"]) (sc := defScope s_moved) rfl (by decide +kernel)) (lg_name sc.nd (i := 12)) (fun _ _ _ _ _ => pts_T) (fun _ _ _ _ _ => (de_def (d_more T) (hr.mono (by decide)) (da_cons (de_var 12) (da_cons (de_var 10) da_nil))))) da_nil)))))))))))))))
    (ds_one (ds_asg (de_tup (da_cons (de_var 5) (da_cons (de_var 6) (da_cons (de_ty call_tuple_of lift_tuple T.z_tuple (da_cons (de_var 8) da_nil)) da_nil)))) (dg_sub (set_dict (hu1 hr)) lift_setD (de_var 3) (de_var 4)))))))))))))
    (ds_one (ds_ret (de_tup (da_cons (de_def (d_low T) (hr.mono (by decide)) (da_cons (de_mul (de_var 2) (de_ixD (de_var 1) de_int)) (da_cons (de_ixD (de_var 1) de_int) da_nil))) (da_cons (de_ixD (de_var 0) de_int) (da_cons (de_var 3) da_nil))))))))
theorem d_p_moved (T : TopF K mg) : Def P w K mg base 4 "moved" ["ride", "far"] F_p_moved := by
  have sc := sc_p_moved
  refine def_mk (body := B_p_moved) (N := ["ride", "far", "moment"]) T.t_p_moved sc fun f cdv A outer s H E hr => ?_
  exact (ds_one (ds_ret (de_gc (de_ty call_tuple_of lift_tuple T.z_tuple (da_cons (de_lc (own := [("moment", 2)]) rfl sc.nd (di_seq (de_var 0)) (blkOk_by (N := ["ride", "far", "moment"]) (sc := defScope s_p_moved) (by decide +kernel)) (lg_name sc.nd (i := 2)) (fun _ _ _ _ _ => pts_T) (fun _ _ _ _ _ => (de_def (d_p_plus T) (hr.mono (by decide)) (da_cons (de_var 2) (da_cons (de_var 1) da_nil))))) da_nil)))))
theorem d_p_on_straight (T : TopF K mg) : Def P w K mg base 4 "on_straight" ["begin", "end", "low", "high", "t"] F_p_on_straight := by
  have sc := sc_p_on_straight
  refine def_mk (body := B_p_on_straight) (N := ["begin", "end", "low", "high", "t", "part"]) T.t_p_on_straight sc fun f cdv A outer s H E hr => ?_
  exact (ds_cons (ds_if (dt_cmp (op_eqD' (hu64 hr)) lift_eq (de_var 0) (de_var 1)) (ds_one (ds_ret (de_var 2))) ds_nil)
    (ds_cons (ds_set 5 sc.nd (de_def (d_p_over T) (hr.mono (by decide)) (da_cons (de_def (d_p_less T) (hr.mono (by decide)) (da_cons (de_var 4) (da_cons (de_var 0) da_nil))) (da_cons (de_def (d_p_less T) (hr.mono (by decide)) (da_cons (de_var 1) (da_cons (de_var 0) da_nil))) da_nil))))
    (ds_cons (ds_if (dt_tr (de_def (d_p_is_below T) (hr.mono (by decide)) (da_cons (de_var 3) (da_cons (de_var 2) da_nil)))) (ds_one (ds_ret (de_def (d_p_less T) (hr.mono (by decide)) (da_cons (de_var 2) (da_cons (de_def (d_p_times T) (hr.mono (by decide)) (da_cons (de_def (d_p_less T) (hr.mono (by decide)) (da_cons (de_var 2) (da_cons (de_var 3) da_nil))) (da_cons (de_var 5) da_nil))) da_nil))))) ds_nil)
    (ds_one (ds_ret (de_def (d_p_plus T) (hr.mono (by decide)) (da_cons (de_var 2) (da_cons (de_def (d_p_times T) (hr.mono (by decide)) (da_cons (de_def (d_p_less T) (hr.mono (by decide)) (da_cons (de_var 3) (da_cons (de_var 2) da_nil))) (da_cons (de_var 5) da_nil))) da_nil))))))))
theorem d_p_all_moved (T : TopF K mg) : Def P w K mg base 5 "all_moved" ["rides", "day", "many"] F_p_all_moved := by
  have sc := sc_p_all_moved
  refine def_mk (body := B_p_all_moved) (N := ["rides", "day", "many", "found", "j", "far", "ride"]) T.t_p_all_moved sc fun f cdv A outer s H E hr => ?_
  exact (ds_cons (ds_set 3 sc.nd (de_lst da_nil))
    (ds_cons (ds_gc (ds_wp [4, 5] (ds_for PassesOwn.never rfl (di_range1 T.z_range (da_cons (de_var 2) da_nil)) (dg_name sc.nd (i := 4)) (dss_gc (dss_wp [4, 5] (ds_cons (ds_set 5 sc.nd (de_def (d_p_times T) (hr.mono (by decide)) (da_cons (de_var 1) (da_cons (de_tup (da_cons (de_var 4) (da_cons de_int da_nil))) da_nil))))
    (ds_one (ds_expr (de_gc (de_m PySem.F.plainAttrs_list PySem.F.slot_list_extend PySem.F.type_list_extend mt_extend lift_ext (de_var 3) (da_cons (de_lc (own := [("ride", 6)]) rfl sc.nd (di_seq (de_var 0)) (blkOk_by (N := ["rides", "day", "many", "found", "j", "far", "ride"]) (sc := defScope s_p_all_moved) (by decide +kernel)) (lg_name sc.nd (i := 6)) (fun _ _ _ _ _ => pts_T) (fun _ _ _ _ _ => (de_def (d_p_moved T) (hr.mono (by decide)) (da_cons (de_var 6) (da_cons (de_var 5) da_nil))))) da_nil)))))))))))
    (ds_one (ds_ret (de_ty call_tuple_of lift_tuple T.z_tuple (da_cons (de_var 3) da_nil))))))
theorem d_p_ride_comes (T : TopF K mg) : Def P w K mg base 5 "ride_comes" ["ride", "t"] F_p_ride_comes := by
  have sc := sc_p_ride_comes
  refine def_mk (body := B_p_ride_comes) (N := ["ride", "t", "first", "last", "come", "comes"]) T.t_p_ride_comes sc fun f cdv A outer s H E hr => ?_
  exact (ds_cons (ds_asg (de_var 0) (dg_tup rfl (dgs_cons (dg_name sc.nd (i := 2)) (dgs_cons (dg_name sc.nd (i := 3)) (dgs_cons (dg_name sc.nd (i := 4)) (dgs_cons (dg_name sc.nd (i := 5)) dgs_nil))))))
    (ds_one (ds_ret (de_def (d_p_on_straight T) (hr.mono (by decide)) (da_cons (de_var 2) (da_cons (de_var 3) (da_cons (de_var 4) (da_cons (de_var 5) (da_cons (de_var 1) da_nil)))))))))
theorem d_p_days (T : TopF K mg) : DefX P w K mg base 6 "days" ["net", "day", "many"] F_p_days := by
  have sc := sc_p_days
  refine defX2_mk (body := B_p_days) (N := ["net", "day", "many", "name", "ties", "told"]) T.t_p_days sc fun f cdv A outer s H E hr => ?_
  have tk := takes_of (X := cxOf (L2.CX P w) P w K mg base ["net", "day", "many", "name", "ties", "told"] "days" (defScope s_p_days) f cdv A outer s H E) (E := E) rfl rfl rfl rfl
  exact (ds_cons (ds_gc (ds_wp [3] (ds_for (passes_of rfl) rfl (di_seq (de_bt (call_sortT rfl) lift_sortT T.z_sorted (da_cons (de_ixD (de_var 0) de_int) da_nil))) (dg_name sc.nd (i := 3)) (dss_gc (dss_wp [3] (ds_one (ds_if (dt_not (dt_tr (de_defN (d_p_may_come_again T) (hr.mono (by decide)) (da_cons (de_var 0) (da_cons (de_var 3) (da_cons (de_var 1) da_nil)))))) (ds_one (ds_raiseI (Vr := W0) tk (d_init_NoDay T) (hr.mono (by decide)) (da_cons (de_var 3) da_nil))) ds_nil)))))))
    (ds_cons (ds_set 4 sc.nd de_dnew)
    (ds_cons (ds_gc (ds_wp [3, 5] (ds_lock (e2 dIx (eV 0) (eC (.int 2))) (ds_for (passes_of rfl) rfl (di_items (de_ixD (de_var 0) de_int)) (dg_tup rfl (dgs_cons (dg_name sc.nd (i := 3)) (dgs_cons (dg_name sc.nd (i := 5)) dgs_nil))) (dss_gc (dss_wp [3, 5] (ds_one (ds_asg (de_tup (da_cons (de_ixD (de_var 5) de_int) (da_cons (de_ixD (de_var 5) de_int) (da_cons (de_defN (d_p_all_moved T) (hr.mono (by decide)) (da_cons (de_ixD (de_var 5) de_int) (da_cons (de_var 1) (da_cons (de_var 2) da_nil)))) da_nil)))) (dg_sub (set_dict (hu1 hr)) lift_setD (de_var 4) (de_var 3))))))))))
    (ds_one (ds_ret (de_tup (da_cons (de_defN (d_p_times T) (hr.mono (by decide)) (da_cons (de_var 1) (da_cons (de_tup (da_cons (de_var 2) (da_cons de_int da_nil))) da_nil))) (da_cons (de_ixD (de_var 0) de_int) (da_cons (de_var 4) da_nil)))))))))
theorem d_p_offer (T : TopF K mg) : Def P w K mg base 6 "offer" ["rides", "t"] F_p_offer := by
  have sc := sc_p_offer
  refine def_mk (body := B_p_offer) (N := ["rides", "t", "found", "ride", "coming"]) T.t_p_offer sc fun f cdv A outer s H E hr => ?_
  exact (ds_cons (ds_set 2 sc.nd de_non)
    (ds_cons (ds_gc (ds_wp [3, 4] (ds_for PassesOwn.never rfl (di_seq (de_var 0)) (dg_name sc.nd (i := 3)) (dss_gc (dss_wp [3, 4] (ds_one (ds_if (dt_tr (de_def (d_p_ride_has T) (hr.mono (by decide)) (da_cons (de_var 3) (da_cons (de_var 1) da_nil)))) (ds_cons (ds_set 4 sc.nd (de_def (d_p_ride_comes T) (hr.mono (by decide)) (da_cons (de_var 3) (da_cons (de_var 1) da_nil))))
    (ds_one (ds_if (dt_w (dw_or (dt_cmp op_isD lift_is (de_var 2) de_non) (dw_or1 (dt_tr (de_def (d_p_is_below T) (hr.mono (by decide)) (da_cons (de_var 4) (da_cons (de_var 2) da_nil))))))) (ds_one (ds_set 2 sc.nd (de_var 4))) ds_nil))) ds_nil)))))))
    (ds_one (ds_ret (de_var 2)))))
theorem d_p_set_out (T : TopF K mg) : Def P w K mg base 7 "set_out" ["rides", "wait", "t"] F_p_set_out := by
  have sc := sc_p_set_out
  refine def_mk (body := B_p_set_out) (N := ["rides", "wait", "t", "moments", "found", "moment", "coming", "end"]) T.t_p_set_out sc fun f cdv A outer s H E hr => ?_
  exact (ds_cons (ds_set 3 sc.nd (de_lst (da_cons (de_var 2) da_nil)))
    (ds_cons (ds_if (dt_tr (de_var 1)) (ds_one (ds_set 3 sc.nd (de_gc (de_def (d_p_in_turn T) (hr.mono (by decide)) (da_cons (de_gc (de_add (de_lst (da_cons (de_var 2) da_nil)) (de_lc (own := [("end", 7)]) rfl sc.nd (di_seq (de_def (d_p_ends_of T) (hr.mono (by decide)) (da_cons (de_var 0) da_nil))) (blkOk_by (N := ["rides", "wait", "t", "moments", "found", "moment", "coming", "end"]) (sc := defScope s_p_set_out) (by decide +kernel)) (lg_name sc.nd (i := 7)) (fun _ _ _ _ _ => pts_1 (dt_tr (de_def (d_p_is_below T) (hr.mono (by decide)) (da_cons (de_var 2) (da_cons (de_var 7) da_nil))))) (fun _ _ _ _ _ => (de_var 7))))) da_nil))))) ds_nil)
    (ds_cons (ds_set 4 sc.nd de_non)
    (ds_cons (ds_gc (ds_wp [5, 6] (ds_for PassesOwn.never rfl (di_seq (de_var 3)) (dg_name sc.nd (i := 5)) (dss_gc (dss_wp [5, 6] (ds_cons (ds_set 6 sc.nd (de_def (d_p_offer T) (hr.mono (by decide)) (da_cons (de_var 0) (da_cons (de_var 5) da_nil))))
    (ds_one (ds_if (dt_w (dw_and (dt_cmp op_notD lift_is (de_var 6) de_non) (dw_and1 (dt_w (dw_or (dt_cmp op_isD lift_is (de_var 4) de_non) (dw_or1 (dt_tr (de_def (d_p_is_below T) (hr.mono (by decide)) (da_cons (de_var 6) (da_cons (de_ixD (de_var 4) de_int) da_nil)))))))))) (ds_one (ds_set 4 sc.nd (de_tup (da_cons (de_var 5) (da_cons (de_var 6) da_nil))))) ds_nil))))))))
    (ds_one (ds_ret (de_var 4)))))))
theorem d_told (T : TopF K mg) : Def P w K mg base 7 "_law_told" ["_law_net_here", "_law_day_here", "_law_many"] F_told := by
  have sc := sc_told
  refine def2_mk (body := B_told) (N := ["_law_net_here", "_law_day_here", "_law_many", "e", "_law_found"]) T.t_told sc fun f cdv A outer s H E hr => ?_
  exact (ds_one (ds_tryE rfl rfl sc.nd rfl rfl T.h_HourError_NoDay (fun V pn xe tk po => (ds_one (ds_ret (de_defX tk (d_p_days T) (hr.mono (by decide)) (da_cons (de_var 0) (da_cons (de_var 1) (da_cons (de_var 2) da_nil))))))) (fun a d oe C pn hC hz hf => (ds_cons (ds_set 4 sc.nd (de_lst (da_cons (de_isNF T.i_NoDay_NoDay T.n_NoDay hC hz hf T.z_isinstance (de_var 3)) (da_cons (de_isNF T.i_NoDay_NoTie T.n_NoDay hC hz hf T.z_isinstance (de_var 3)) (da_cons (de_isNF T.i_NoDay_NotRight T.n_NoDay hC hz hf T.z_isinstance (de_var 3)) (da_cons (de_isNF T.i_NoDay_NoText T.n_NoDay hC hz hf T.z_isinstance (de_var 3)) da_nil))))))
    (ds_cons (ds_set 4 sc.nd (de_add (de_var 4) (de_lst (da_cons (de_isNF T.i_NoDay_Overtaken T.n_NoDay hC hz hf T.z_isinstance (de_var 3)) (da_cons (de_isNB T.j_NoDay_ValueError T.n_NoDay hC hz hf T.z_isinstance (de_var 3) (de_tyname T.z_ValueError)) da_nil)))))
    (ds_one (ds_ret (de_tup (da_cons (de_var 4) (da_cons (de_if (dt_tr (de_isNF T.i_NoDay_NoDay T.n_NoDay hC hz hf T.z_isinstance (de_var 3))) (de_fld T.n_NoDay T.f_NoDay_name hC hz hf (de_var 3)) de_str) da_nil))))))))))
theorem d_p_ridden_by (T : TopF K mg) : Def P w K mg base 8 "ridden_by" ["net", "name", "moment"] F_p_ridden_by := by
  have sc := sc_p_ridden_by
  refine def_mk (body := B_p_ridden_by) (N := ["net", "name", "moment"]) T.t_p_ridden_by sc fun f cdv A outer s H E hr => ?_
  exact (ds_one (ds_ret (de_def (d_p_set_out T) (hr.mono (by decide)) (da_cons (de_ixD (de_dget (hu1 hr) (de_ixD (de_var 0) de_int) (de_var 1)) de_int) (da_cons (de_def (d_p_is_waiting_let T) (hr.mono (by decide)) (da_cons (de_var 0) (da_cons (de_var 1) da_nil))) (da_cons (de_var 2) da_nil))))))
theorem d_p_paper_of (T : TopF K mg) : Def P w K mg base 9 "paper_of" ["net", "start", "moment"] F_p_paper_of := by
  have sc := sc_p_paper_of
  refine def_mk (body := B_p_paper_of) (N := ["net", "start", "moment", "paper", "left", "place", "name", "row", "goal"]) T.t_p_paper_of sc fun f cdv A outer s H E hr => ?_
  exact (ds_cons (ds_set 3 sc.nd (de_dp (de_var 1) (de_tup (da_cons (de_var 2) (da_cons (T.c_NO_TIE.de) da_nil)))))
    (ds_cons (ds_set 4 sc.nd (de_lst (da_cons (de_var 1) da_nil)))
    (ds_cons (ds_gc (ds_wp [5, 6, 7, 8] (ds_while PassesOwn.never (dt_gc (dt_cmp (op_neD' (hu64 hr)) lift_eq (de_var 4) (de_lst da_nil))) (dss_gc (dss_wp [5, 6, 7, 8] (ds_cons (ds_set 5 sc.nd (de_def (d_p_soonest_place T) (hr.mono (by decide)) (da_cons (de_var 3) (da_cons (de_var 4) da_nil))))
    (ds_cons (ds_expr (de_m PySem.F.plainAttrs_list PySem.F.slot_list_remove PySem.F.type_list_remove mt_remS lift_rem (de_var 4) (da_cons (de_var 5) da_nil)))
    (ds_one (ds_gc (ds_wp [6, 7, 8] (ds_for PassesOwn.never rfl (di_seq (de_def (d_p_ties_from T) (hr.mono (by decide)) (da_cons (de_var 0) (da_cons (de_var 5) da_nil)))) (dg_name sc.nd (i := 6)) (dss_gc (dss_wp [6, 7, 8] (ds_cons (ds_set 7 sc.nd (de_def (d_p_ridden_by T) (hr.mono (by decide)) (da_cons (de_var 0) (da_cons (de_var 6) (da_cons (de_ixD (de_dget (hu1 hr) (de_var 3) (de_var 5)) de_int) da_nil)))))
    (ds_cons (ds_set 8 sc.nd (de_ixD (de_dget (hu1 hr) (de_ixD (de_var 0) de_int) (de_var 6)) de_int))
    (ds_one (ds_if (dt_w (dw_and (dt_cmp op_notD lift_is (de_var 7) de_non) (dw_and1 (dt_w (dw_or (dt_dnotin (hu1 hr) (de_var 8) (de_var 3)) (dw_or1 (dt_tr (de_def (d_p_is_below T) (hr.mono (by decide)) (da_cons (de_ixD (de_var 7) de_int) (da_cons (de_ixD (de_dget (hu1 hr) (de_var 3) (de_var 8)) de_int) da_nil)))))))))) (ds_cons (ds_if (dt_cmp (op_notInX (hu65 hr)) lift_in (de_var 8) (de_var 4)) (ds_one (ds_expr (de_app (de_var 4) (da_cons (de_var 8) da_nil)))) ds_nil)
    (ds_one (ds_asg (de_tup (da_cons (de_ixD (de_var 7) de_int) (da_cons (de_var 6) da_nil))) (dg_sub (set_dict (hu1 hr)) lift_setD (de_var 3) (de_var 8))))) ds_nil)))))))))))))))))
    (ds_one (ds_ret (de_var 3))))))
theorem d_p_soonest (T : TopF K mg) : Def P w K mg base 10 "soonest" ["net", "start", "goal", "moment"] F_p_soonest := by
  have sc := sc_p_soonest
  refine def_mk (body := B_p_soonest) (N := ["net", "start", "goal", "moment", "paper"]) T.t_p_soonest sc fun f cdv A outer s H E hr => ?_
  exact (ds_cons (ds_set 4 sc.nd (de_def (d_p_paper_of T) (hr.mono (by decide)) (da_cons (de_var 0) (da_cons (de_var 1) (da_cons (de_var 3) da_nil)))))
    (ds_cons (ds_if (dt_dnotin (hu1 hr) (de_var 2) (de_var 4)) (ds_one (ds_ret de_non)) ds_nil)
    (ds_one (ds_ret (de_ixD (de_dget (hu1 hr) (de_var 4) (de_var 2)) de_int)))))
theorem d_later (T : TopF K mg) : Def P w K mg base 11 "_law_later" ["_law_one", "_law_more_here", "_law_day_here", "_law_t"] F_later := by
  have sc := sc_later
  refine def_mk (body := B_later) (N := ["_law_one", "_law_more_here", "_law_day_here", "_law_t", "_law_place", "_law_due"]) T.t_later sc fun f cdv A outer s H E hr => ?_
  exact (ds_cons (ds_gc (ds_wp [4, 5] (ds_for PassesOwn.never rfl (di_seq (de_lst (da_cons de_str (da_cons de_str (da_cons de_str (da_cons de_str da_nil)))))) (dg_name sc.nd (i := 4)) (dss_gc (dss_wp [4, 5] (ds_cons (ds_set 5 sc.nd (de_def (d_p_soonest T) (hr.mono (by decide)) (da_cons (de_var 0) (da_cons de_str (da_cons (de_var 4) (da_cons (de_var 3) da_nil))))))
    (ds_cons (ds_if (dt_cmp op_notD lift_is (de_var 5) de_non) (ds_one (ds_set 5 sc.nd (de_def (d_more T) (hr.mono (by decide)) (da_cons (de_var 5) (da_cons (de_var 2) da_nil))))) ds_nil)
    (ds_one (ds_if (dt_cmp (op_neD' (hu64 hr)) lift_eq (de_def (d_p_soonest T) (hr.mono (by decide)) (da_cons (de_var 1) (da_cons de_str (da_cons (de_var 4) (da_cons (de_def (d_more T) (hr.mono (by decide)) (da_cons (de_var 3) (da_cons (de_var 2) da_nil))) da_nil))))) (de_var 5)) (ds_one (ds_ret de_bl)) ds_nil)))))))))
    (ds_one (ds_ret de_bl)))
theorem d_law (T : TopF K mg) : DefG P w K mg base 12 "law" ["_law_script"] F_law := by
  have sc := sc_law
  refine defG_mk (body := B_law) (N := ["_law_script", "_law_pot_here", "_law_part", "_law_net_here", "_law_day_here", "_law_many", "_law_before", "_law_wrong", "_law_one", "_law_more_here", "_law_moments", "_law_k", "_law_t"]) T.t_law sc fun f cdv A outer s H E hgd hr => ?_
  exact (ds_cons (ds_set 1 sc.nd (de_def (d_pot T) (hr.mono (by decide)) (da_cons (de_var 0) (da_cons de_int da_nil))))
    (ds_cons (ds_set 2 sc.nd (de_add de_int (de_def (d_take T) (hr.mono (by decide)) (da_cons (de_var 1) (da_cons de_int da_nil)))))
    (ds_cons (ds_set 3 sc.nd (de_def (d_net T) (hr.mono (by decide)) (da_cons (de_var 1) (da_cons (de_var 2) da_nil))))
    (ds_cons (ds_set 4 sc.nd (de_def (d_day T) (hr.mono (by decide)) (da_cons (de_var 1) (da_cons (de_var 3) da_nil))))
    (ds_cons (ds_set 5 sc.nd (de_add de_int (de_def (d_take T) (hr.mono (by decide)) (da_cons (de_var 1) (da_cons de_int da_nil)))))
    (ds_cons (ds_set 6 sc.nd (de_reprN hgd (hu64 hr) T.z_repr (da_cons (de_var 3) da_nil)))
    (ds_cons (ds_set 7 sc.nd (de_def (d_first_wrong T) (hr.mono (by decide)) (da_cons (de_var 3) (da_cons (de_var 4) da_nil))))
    (ds_cons (ds_set 8 sc.nd (de_def (d_told T) (hr.mono (by decide)) (da_cons (de_var 3) (da_cons (de_var 4) (da_cons (de_var 5) da_nil)))))
    (ds_cons (ds_if (dt_cmp (op_neD' (hu64 hr)) lift_eq (de_var 7) de_str) (ds_one (ds_ret (de_and (de_gc (de_cmp (op_xEq (hu64 hr)) lift_eqX (de_var 8) (de_tup (da_cons (de_lst (da_cons de_bl (da_cons de_bl (da_cons de_bl (da_cons de_bl (da_cons de_bl (da_cons de_bl da_nil))))))) (da_cons (de_var 7) da_nil))))) (de_one (de_cmp (op_eqD' (hu64 hr)) lift_eq (de_reprN hgd (hu64 hr) T.z_repr (da_cons (de_var 3) da_nil)) (de_var 6)))))) ds_nil)
    (ds_cons (ds_set 9 sc.nd (de_def (d_told T) (hr.mono (by decide)) (da_cons (de_var 3) (da_cons (de_var 4) (da_cons (de_add (de_var 5) de_int) da_nil)))))
    (ds_cons (ds_if (dt_w (dw_or (dt_gc (dt_cmp (op_xNe (hu64 hr)) lift_eqX (de_var 8) (de_def (d_moved T) (hr.mono (by decide)) (da_cons (de_var 3) (da_cons (de_var 4) (da_cons (de_var 5) da_nil)))))) (dw_or1 (dt_gc (dt_cmp (op_xNe (hu64 hr)) lift_eqX (de_var 9) (de_def (d_moved T) (hr.mono (by decide)) (da_cons (de_var 3) (da_cons (de_var 4) (da_cons (de_add (de_var 5) de_int) da_nil))))))))) (ds_one (ds_ret de_bl)) ds_nil)
    (ds_cons (ds_if (dt_cmp (op_neD' (hu64 hr)) lift_eq (de_reprN hgd (hu64 hr) T.z_repr (da_cons (de_var 3) da_nil)) (de_var 6)) (ds_one (ds_ret de_bl)) ds_nil)
    (ds_cons (ds_set 10 sc.nd (de_gc (de_add (de_lc (own := [("_law_k", 11)]) rfl sc.nd (di_range1 T.z_range (da_cons de_int da_nil)) (blkOk_by (N := ["_law_script", "_law_pot_here", "_law_part", "_law_net_here", "_law_day_here", "_law_many", "_law_before", "_law_wrong", "_law_one", "_law_more_here", "_law_moments", "_law_k", "_law_t"]) (sc := defScope s_law) (by decide +kernel)) (lg_name sc.nd (i := 11)) (fun _ _ _ _ _ => pts_T) (fun _ _ _ _ _ => (de_def (d_low T) (hr.mono (by decide)) (da_cons (de_def (d_take T) (hr.mono (by decide)) (da_cons (de_var 1) (da_cons (de_mul de_int (de_var 5)) da_nil))) (da_cons (de_var 2) da_nil))))) (de_lst (da_cons (de_tup (da_cons de_int (da_cons de_int da_nil))) (da_cons (de_ixD (de_var 8) de_int) da_nil))))))
    (ds_cons (ds_if (dt_not (dt_tr (de_gc (de_bt (cr_all rfl) lift_all T.z_all (da_cons (de_lc (own := [("_law_t", 12)]) rfl sc.nd (di_seq (de_var 10)) (blkOk_by (N := ["_law_script", "_law_pot_here", "_law_part", "_law_net_here", "_law_day_here", "_law_many", "_law_before", "_law_wrong", "_law_one", "_law_more_here", "_law_moments", "_law_k", "_law_t"]) (sc := defScope s_law) (by decide +kernel)) (lg_name sc.nd (i := 12)) (fun _ _ _ _ _ => pts_T) (fun _ _ _ _ _ => (de_def (d_later T) (hr.mono (by decide)) (da_cons (de_var 8) (da_cons (de_var 9) (da_cons (de_var 4) (da_cons (de_var 12) da_nil))))))) da_nil))))) (ds_one (ds_ret de_bl)) ds_nil)
    (ds_cons (ds_expr (de_dclear (de_ixD (de_var 8) de_int)))
    (ds_one (ds_ret (de_gc (de_cmp (op_xEq (hu64 hr)) lift_eqX (de_w0 (de_defX takes0 (d_p_days T) (hr.mono (by decide)) (da_cons (de_var 3) (da_cons (de_var 4) (da_cons (de_var 5) da_nil))))) (de_def (d_moved T) (hr.mono (by decide)) (da_cons (de_var 3) (da_cons (de_var 4) (da_cons (de_var 5) da_nil)))))))))))))))))))))))
end
theorem topF_mk {K : PySem.W.Frag} {mg : Str → Option Value} {h : Heap} (X : K.In h) (G : h.Ns mainGlobals mg)
    {f0 : Addr} {oc0 : Value} {od0 an0 : Option Addr} {sl0 : Array (Option Value)} {kV0 dc0 pm0 cd0 ct0 : Value}
    (a0 : PySem.W.nsIn K mainGlobals "common" = some (some (.ref f0))) (l0 : K.lookup f0 = some ⟨oc0, od0, .func (PySem.W.fnOf "common" "common" (defArgs s_p_common) (defBody s_p_common) (defScope s_p_common) .none kV0 dc0 pm0 an0 cd0 ct0), sl0⟩) (c0 : PySem.W.codeIn K cd0 "common" = true) (k0 : PySem.W.keepIn K (.ref f0) = true)
    {f1 : Addr} {oc1 : Value} {od1 an1 : Option Addr} {sl1 : Array (Option Value)} {kV1 dc1 pm1 cd1 ct1 : Value}
    (a1 : PySem.W.nsIn K mainGlobals "is_below" = some (some (.ref f1))) (l1 : K.lookup f1 = some ⟨oc1, od1, .func (PySem.W.fnOf "is_below" "is_below" (defArgs s_p_is_below) (defBody s_p_is_below) (defScope s_p_is_below) .none kV1 dc1 pm1 an1 cd1 ct1), sl1⟩) (c1 : PySem.W.codeIn K cd1 "is_below" = true) (k1 : PySem.W.keepIn K (.ref f1) = true)
    {f2 : Addr} {oc2 : Value} {od2 an2 : Option Addr} {sl2 : Array (Option Value)} {kV2 dc2 pm2 cd2 ct2 : Value}
    (a2 : PySem.W.nsIn K mainGlobals "ends_of" = some (some (.ref f2))) (l2 : K.lookup f2 = some ⟨oc2, od2, .func (PySem.W.fnOf "ends_of" "ends_of" (defArgs s_p_ends_of) (defBody s_p_ends_of) (defScope s_p_ends_of) .none kV2 dc2 pm2 an2 cd2 ct2), sl2⟩) (c2 : PySem.W.codeIn K cd2 "ends_of" = true) (k2 : PySem.W.keepIn K (.ref f2) = true)
    {f3 : Addr} {oc3 : Value} {od3 an3 : Option Addr} {sl3 : Array (Option Value)} {kV3 dc3 pm3 cd3 ct3 : Value}
    (a3 : PySem.W.nsIn K mainGlobals "is_waiting_let" = some (some (.ref f3))) (l3 : K.lookup f3 = some ⟨oc3, od3, .func (PySem.W.fnOf "is_waiting_let" "is_waiting_let" (defArgs s_p_is_waiting_let) (defBody s_p_is_waiting_let) (defScope s_p_is_waiting_let) .none kV3 dc3 pm3 an3 cd3 ct3), sl3⟩) (c3 : PySem.W.codeIn K cd3 "is_waiting_let" = true) (k3 : PySem.W.keepIn K (.ref f3) = true)
    {f4 : Addr} {oc4 : Value} {od4 an4 : Option Addr} {sl4 : Array (Option Value)} {kV4 dc4 pm4 cd4 ct4 : Value}
    (a4 : PySem.W.nsIn K mainGlobals "ties_from" = some (some (.ref f4))) (l4 : K.lookup f4 = some ⟨oc4, od4, .func (PySem.W.fnOf "ties_from" "ties_from" (defArgs s_p_ties_from) (defBody s_p_ties_from) (defScope s_p_ties_from) .none kV4 dc4 pm4 an4 cd4 ct4), sl4⟩) (c4 : PySem.W.codeIn K cd4 "ties_from" = true) (k4 : PySem.W.keepIn K (.ref f4) = true)
    {f5 : Addr} {oc5 : Value} {od5 an5 : Option Addr} {sl5 : Array (Option Value)} {kV5 dc5 pm5 cd5 ct5 : Value}
    (a5 : PySem.W.nsIn K mainGlobals "_law_pot" = some (some (.ref f5))) (l5 : K.lookup f5 = some ⟨oc5, od5, .func (PySem.W.fnOf "_law_pot" "_law_pot" (defArgs s_pot) (defBody s_pot) (defScope s_pot) .none kV5 dc5 pm5 an5 cd5 ct5), sl5⟩) (c5 : PySem.W.codeIn K cd5 "_law_pot" = true) (k5 : PySem.W.keepIn K (.ref f5) = true)
    {f6 : Addr} {oc6 : Value} {od6 an6 : Option Addr} {sl6 : Array (Option Value)} {kV6 dc6 pm6 cd6 ct6 : Value}
    (a6 : PySem.W.nsIn K mainGlobals "_law_take" = some (some (.ref f6))) (l6 : K.lookup f6 = some ⟨oc6, od6, .func (PySem.W.fnOf "_law_take" "_law_take" (defArgs s_take) (defBody s_take) (defScope s_take) .none kV6 dc6 pm6 an6 cd6 ct6), sl6⟩) (c6 : PySem.W.codeIn K cd6 "_law_take" = true) (k6 : PySem.W.keepIn K (.ref f6) = true)
    {f7 : Addr} {oc7 : Value} {od7 an7 : Option Addr} {sl7 : Array (Option Value)} {kV7 dc7 pm7 cd7 ct7 : Value}
    (a7 : PySem.W.nsIn K mainGlobals "_law_low" = some (some (.ref f7))) (l7 : K.lookup f7 = some ⟨oc7, od7, .func (PySem.W.fnOf "_law_low" "_law_low" (defArgs s_low) (defBody s_low) (defScope s_low) .none kV7 dc7 pm7 an7 cd7 ct7), sl7⟩) (c7 : PySem.W.codeIn K cd7 "_law_low" = true) (k7 : PySem.W.keepIn K (.ref f7) = true)
    {f8 : Addr} {oc8 : Value} {od8 an8 : Option Addr} {sl8 : Array (Option Value)} {kV8 dc8 pm8 cd8 ct8 : Value}
    (a8 : PySem.W.nsIn K mainGlobals "_law_under" = some (some (.ref f8))) (l8 : K.lookup f8 = some ⟨oc8, od8, .func (PySem.W.fnOf "_law_under" "_law_under" (defArgs s_under) (defBody s_under) (defScope s_under) .none kV8 dc8 pm8 an8 cd8 ct8), sl8⟩) (c8 : PySem.W.codeIn K cd8 "_law_under" = true) (k8 : PySem.W.keepIn K (.ref f8) = true)
    {f9 : Addr} {oc9 : Value} {od9 an9 : Option Addr} {sl9 : Array (Option Value)} {kV9 dc9 pm9 cd9 ct9 : Value}
    (a9 : PySem.W.nsIn K mainGlobals "fraction" = some (some (.ref f9))) (l9 : K.lookup f9 = some ⟨oc9, od9, .func (PySem.W.fnOf "fraction" "fraction" (defArgs s_p_fraction) (defBody s_p_fraction) (defScope s_p_fraction) .none kV9 dc9 pm9 an9 cd9 ct9), sl9⟩) (c9 : PySem.W.codeIn K cd9 "fraction" = true) (k9 : PySem.W.keepIn K (.ref f9) = true)
    {f10 : Addr} {oc10 : Value} {od10 an10 : Option Addr} {sl10 : Array (Option Value)} {kV10 dc10 pm10 cd10 ct10 : Value}
    (a10 : PySem.W.nsIn K mainGlobals "may_come_again" = some (some (.ref f10))) (l10 : K.lookup f10 = some ⟨oc10, od10, .func (PySem.W.fnOf "may_come_again" "may_come_again" (defArgs s_p_may_come_again) (defBody s_p_may_come_again) (defScope s_p_may_come_again) .none kV10 dc10 pm10 an10 cd10 ct10), sl10⟩) (c10 : PySem.W.codeIn K cd10 "may_come_again" = true) (k10 : PySem.W.keepIn K (.ref f10) = true)
    {f11 : Addr} {oc11 : Value} {od11 an11 : Option Addr} {sl11 : Array (Option Value)} {kV11 dc11 pm11 cd11 ct11 : Value}
    (a11 : PySem.W.nsIn K mainGlobals "ride_has" = some (some (.ref f11))) (l11 : K.lookup f11 = some ⟨oc11, od11, .func (PySem.W.fnOf "ride_has" "ride_has" (defArgs s_p_ride_has) (defBody s_p_ride_has) (defScope s_p_ride_has) .none kV11 dc11 pm11 an11 cd11 ct11), sl11⟩) (c11 : PySem.W.codeIn K cd11 "ride_has" = true) (k11 : PySem.W.keepIn K (.ref f11) = true)
    {f12 : Addr} {oc12 : Value} {od12 an12 : Option Addr} {sl12 : Array (Option Value)} {kV12 dc12 pm12 cd12 ct12 : Value}
    (a12 : PySem.W.nsIn K mainGlobals "in_turn" = some (some (.ref f12))) (l12 : K.lookup f12 = some ⟨oc12, od12, .func (PySem.W.fnOf "in_turn" "in_turn" (defArgs s_p_in_turn) (defBody s_p_in_turn) (defScope s_p_in_turn) .none kV12 dc12 pm12 an12 cd12 ct12), sl12⟩) (c12 : PySem.W.codeIn K cd12 "in_turn" = true) (k12 : PySem.W.keepIn K (.ref f12) = true)
    {f13 : Addr} {oc13 : Value} {od13 an13 : Option Addr} {sl13 : Array (Option Value)} {kV13 dc13 pm13 cd13 ct13 : Value}
    (a13 : PySem.W.nsIn K mainGlobals "soonest_place" = some (some (.ref f13))) (l13 : K.lookup f13 = some ⟨oc13, od13, .func (PySem.W.fnOf "soonest_place" "soonest_place" (defArgs s_p_soonest_place) (defBody s_p_soonest_place) (defScope s_p_soonest_place) .none kV13 dc13 pm13 an13 cd13 ct13), sl13⟩) (c13 : PySem.W.codeIn K cd13 "soonest_place" = true) (k13 : PySem.W.keepIn K (.ref f13) = true)
    {f14 : Addr} {oc14 : Value} {od14 an14 : Option Addr} {sl14 : Array (Option Value)} {kV14 dc14 pm14 cd14 ct14 : Value}
    (a14 : PySem.W.nsIn K mainGlobals "_law_more" = some (some (.ref f14))) (l14 : K.lookup f14 = some ⟨oc14, od14, .func (PySem.W.fnOf "_law_more" "_law_more" (defArgs s_more) (defBody s_more) (defScope s_more) .none kV14 dc14 pm14 an14 cd14 ct14), sl14⟩) (c14 : PySem.W.codeIn K cd14 "_law_more" = true) (k14 : PySem.W.keepIn K (.ref f14) = true)
    {f15 : Addr} {oc15 : Value} {od15 an15 : Option Addr} {sl15 : Array (Option Value)} {kV15 dc15 pm15 cd15 ct15 : Value}
    (a15 : PySem.W.nsIn K mainGlobals "_law_rides" = some (some (.ref f15))) (l15 : K.lookup f15 = some ⟨oc15, od15, .func (PySem.W.fnOf "_law_rides" "_law_rides" (defArgs s_rides) (defBody s_rides) (defScope s_rides) .none kV15 dc15 pm15 an15 cd15 ct15), sl15⟩) (c15 : PySem.W.codeIn K cd15 "_law_rides" = true) (k15 : PySem.W.keepIn K (.ref f15) = true)
    {f16 : Addr} {oc16 : Value} {od16 an16 : Option Addr} {sl16 : Array (Option Value)} {kV16 dc16 pm16 cd16 ct16 : Value}
    (a16 : PySem.W.nsIn K mainGlobals "_law_day" = some (some (.ref f16))) (l16 : K.lookup f16 = some ⟨oc16, od16, .func (PySem.W.fnOf "_law_day" "_law_day" (defArgs s_day) (defBody s_day) (defScope s_day) .none kV16 dc16 pm16 an16 cd16 ct16), sl16⟩) (c16 : PySem.W.codeIn K cd16 "_law_day" = true) (k16 : PySem.W.keepIn K (.ref f16) = true)
    {f17 : Addr} {oc17 : Value} {od17 an17 : Option Addr} {sl17 : Array (Option Value)} {kV17 dc17 pm17 cd17 ct17 : Value}
    (a17 : PySem.W.nsIn K mainGlobals "_law_first_wrong" = some (some (.ref f17))) (l17 : K.lookup f17 = some ⟨oc17, od17, .func (PySem.W.fnOf "_law_first_wrong" "_law_first_wrong" (defArgs s_first_wrong) (defBody s_first_wrong) (defScope s_first_wrong) .none kV17 dc17 pm17 an17 cd17 ct17), sl17⟩) (c17 : PySem.W.codeIn K cd17 "_law_first_wrong" = true) (k17 : PySem.W.keepIn K (.ref f17) = true)
    {f18 : Addr} {oc18 : Value} {od18 an18 : Option Addr} {sl18 : Array (Option Value)} {kV18 dc18 pm18 cd18 ct18 : Value}
    (a18 : PySem.W.nsIn K mainGlobals "plus" = some (some (.ref f18))) (l18 : K.lookup f18 = some ⟨oc18, od18, .func (PySem.W.fnOf "plus" "plus" (defArgs s_p_plus) (defBody s_p_plus) (defScope s_p_plus) .none kV18 dc18 pm18 an18 cd18 ct18), sl18⟩) (c18 : PySem.W.codeIn K cd18 "plus" = true) (k18 : PySem.W.keepIn K (.ref f18) = true)
    {f19 : Addr} {oc19 : Value} {od19 an19 : Option Addr} {sl19 : Array (Option Value)} {kV19 dc19 pm19 cd19 ct19 : Value}
    (a19 : PySem.W.nsIn K mainGlobals "less" = some (some (.ref f19))) (l19 : K.lookup f19 = some ⟨oc19, od19, .func (PySem.W.fnOf "less" "less" (defArgs s_p_less) (defBody s_p_less) (defScope s_p_less) .none kV19 dc19 pm19 an19 cd19 ct19), sl19⟩) (c19 : PySem.W.codeIn K cd19 "less" = true) (k19 : PySem.W.keepIn K (.ref f19) = true)
    {f20 : Addr} {oc20 : Value} {od20 an20 : Option Addr} {sl20 : Array (Option Value)} {kV20 dc20 pm20 cd20 ct20 : Value}
    (a20 : PySem.W.nsIn K mainGlobals "times" = some (some (.ref f20))) (l20 : K.lookup f20 = some ⟨oc20, od20, .func (PySem.W.fnOf "times" "times" (defArgs s_p_times) (defBody s_p_times) (defScope s_p_times) .none kV20 dc20 pm20 an20 cd20 ct20), sl20⟩) (c20 : PySem.W.codeIn K cd20 "times" = true) (k20 : PySem.W.keepIn K (.ref f20) = true)
    {f21 : Addr} {oc21 : Value} {od21 an21 : Option Addr} {sl21 : Array (Option Value)} {kV21 dc21 pm21 cd21 ct21 : Value}
    (a21 : PySem.W.nsIn K mainGlobals "over" = some (some (.ref f21))) (l21 : K.lookup f21 = some ⟨oc21, od21, .func (PySem.W.fnOf "over" "over" (defArgs s_p_over) (defBody s_p_over) (defScope s_p_over) .none kV21 dc21 pm21 an21 cd21 ct21), sl21⟩) (c21 : PySem.W.codeIn K cd21 "over" = true) (k21 : PySem.W.keepIn K (.ref f21) = true)
    {f22 : Addr} {oc22 : Value} {od22 an22 : Option Addr} {sl22 : Array (Option Value)} {kV22 dc22 pm22 cd22 ct22 : Value}
    (a22 : PySem.W.nsIn K mainGlobals "_law_net" = some (some (.ref f22))) (l22 : K.lookup f22 = some ⟨oc22, od22, .func (PySem.W.fnOf "_law_net" "_law_net" (defArgs s_net) (defBody s_net) (defScope s_net) .none kV22 dc22 pm22 an22 cd22 ct22), sl22⟩) (c22 : PySem.W.codeIn K cd22 "_law_net" = true) (k22 : PySem.W.keepIn K (.ref f22) = true)
    {f23 : Addr} {oc23 : Value} {od23 an23 : Option Addr} {sl23 : Array (Option Value)} {kV23 dc23 pm23 cd23 ct23 : Value}
    (a23 : PySem.W.nsIn K mainGlobals "_law_moved" = some (some (.ref f23))) (l23 : K.lookup f23 = some ⟨oc23, od23, .func (PySem.W.fnOf "_law_moved" "_law_moved" (defArgs s_moved) (defBody s_moved) (defScope s_moved) .none kV23 dc23 pm23 an23 cd23 ct23), sl23⟩) (c23 : PySem.W.codeIn K cd23 "_law_moved" = true) (k23 : PySem.W.keepIn K (.ref f23) = true)
    {f24 : Addr} {oc24 : Value} {od24 an24 : Option Addr} {sl24 : Array (Option Value)} {kV24 dc24 pm24 cd24 ct24 : Value}
    (a24 : PySem.W.nsIn K mainGlobals "moved" = some (some (.ref f24))) (l24 : K.lookup f24 = some ⟨oc24, od24, .func (PySem.W.fnOf "moved" "moved" (defArgs s_p_moved) (defBody s_p_moved) (defScope s_p_moved) .none kV24 dc24 pm24 an24 cd24 ct24), sl24⟩) (c24 : PySem.W.codeIn K cd24 "moved" = true) (k24 : PySem.W.keepIn K (.ref f24) = true)
    {f25 : Addr} {oc25 : Value} {od25 an25 : Option Addr} {sl25 : Array (Option Value)} {kV25 dc25 pm25 cd25 ct25 : Value}
    (a25 : PySem.W.nsIn K mainGlobals "on_straight" = some (some (.ref f25))) (l25 : K.lookup f25 = some ⟨oc25, od25, .func (PySem.W.fnOf "on_straight" "on_straight" (defArgs s_p_on_straight) (defBody s_p_on_straight) (defScope s_p_on_straight) .none kV25 dc25 pm25 an25 cd25 ct25), sl25⟩) (c25 : PySem.W.codeIn K cd25 "on_straight" = true) (k25 : PySem.W.keepIn K (.ref f25) = true)
    {f26 : Addr} {oc26 : Value} {od26 an26 : Option Addr} {sl26 : Array (Option Value)} {kV26 dc26 pm26 cd26 ct26 : Value}
    (a26 : PySem.W.nsIn K mainGlobals "all_moved" = some (some (.ref f26))) (l26 : K.lookup f26 = some ⟨oc26, od26, .func (PySem.W.fnOf "all_moved" "all_moved" (defArgs s_p_all_moved) (defBody s_p_all_moved) (defScope s_p_all_moved) .none kV26 dc26 pm26 an26 cd26 ct26), sl26⟩) (c26 : PySem.W.codeIn K cd26 "all_moved" = true) (k26 : PySem.W.keepIn K (.ref f26) = true)
    {f27 : Addr} {oc27 : Value} {od27 an27 : Option Addr} {sl27 : Array (Option Value)} {kV27 dc27 pm27 cd27 ct27 : Value}
    (a27 : PySem.W.nsIn K mainGlobals "ride_comes" = some (some (.ref f27))) (l27 : K.lookup f27 = some ⟨oc27, od27, .func (PySem.W.fnOf "ride_comes" "ride_comes" (defArgs s_p_ride_comes) (defBody s_p_ride_comes) (defScope s_p_ride_comes) .none kV27 dc27 pm27 an27 cd27 ct27), sl27⟩) (c27 : PySem.W.codeIn K cd27 "ride_comes" = true) (k27 : PySem.W.keepIn K (.ref f27) = true)
    {f28 : Addr} {oc28 : Value} {od28 an28 : Option Addr} {sl28 : Array (Option Value)} {kV28 dc28 pm28 cd28 ct28 : Value}
    (a28 : PySem.W.nsIn K mainGlobals "days" = some (some (.ref f28))) (l28 : K.lookup f28 = some ⟨oc28, od28, .func (PySem.W.fnOf "days" "days" (defArgs s_p_days) (defBody s_p_days) (defScope s_p_days) .none kV28 dc28 pm28 an28 cd28 ct28), sl28⟩) (c28 : PySem.W.codeIn K cd28 "days" = true) (k28 : PySem.W.keepIn K (.ref f28) = true)
    {f29 : Addr} {oc29 : Value} {od29 an29 : Option Addr} {sl29 : Array (Option Value)} {kV29 dc29 pm29 cd29 ct29 : Value}
    (a29 : PySem.W.nsIn K mainGlobals "offer" = some (some (.ref f29))) (l29 : K.lookup f29 = some ⟨oc29, od29, .func (PySem.W.fnOf "offer" "offer" (defArgs s_p_offer) (defBody s_p_offer) (defScope s_p_offer) .none kV29 dc29 pm29 an29 cd29 ct29), sl29⟩) (c29 : PySem.W.codeIn K cd29 "offer" = true) (k29 : PySem.W.keepIn K (.ref f29) = true)
    {f30 : Addr} {oc30 : Value} {od30 an30 : Option Addr} {sl30 : Array (Option Value)} {kV30 dc30 pm30 cd30 ct30 : Value}
    (a30 : PySem.W.nsIn K mainGlobals "set_out" = some (some (.ref f30))) (l30 : K.lookup f30 = some ⟨oc30, od30, .func (PySem.W.fnOf "set_out" "set_out" (defArgs s_p_set_out) (defBody s_p_set_out) (defScope s_p_set_out) .none kV30 dc30 pm30 an30 cd30 ct30), sl30⟩) (c30 : PySem.W.codeIn K cd30 "set_out" = true) (k30 : PySem.W.keepIn K (.ref f30) = true)
    {f31 : Addr} {oc31 : Value} {od31 an31 : Option Addr} {sl31 : Array (Option Value)} {kV31 dc31 pm31 cd31 ct31 : Value}
    (a31 : PySem.W.nsIn K mainGlobals "_law_told" = some (some (.ref f31))) (l31 : K.lookup f31 = some ⟨oc31, od31, .func (PySem.W.fnOf "_law_told" "_law_told" (defArgs s_told) (defBody s_told) (defScope s_told) .none kV31 dc31 pm31 an31 cd31 ct31), sl31⟩) (c31 : PySem.W.codeIn K cd31 "_law_told" = true) (k31 : PySem.W.keepIn K (.ref f31) = true)
    {f32 : Addr} {oc32 : Value} {od32 an32 : Option Addr} {sl32 : Array (Option Value)} {kV32 dc32 pm32 cd32 ct32 : Value}
    (a32 : PySem.W.nsIn K mainGlobals "ridden_by" = some (some (.ref f32))) (l32 : K.lookup f32 = some ⟨oc32, od32, .func (PySem.W.fnOf "ridden_by" "ridden_by" (defArgs s_p_ridden_by) (defBody s_p_ridden_by) (defScope s_p_ridden_by) .none kV32 dc32 pm32 an32 cd32 ct32), sl32⟩) (c32 : PySem.W.codeIn K cd32 "ridden_by" = true) (k32 : PySem.W.keepIn K (.ref f32) = true)
    {f33 : Addr} {oc33 : Value} {od33 an33 : Option Addr} {sl33 : Array (Option Value)} {kV33 dc33 pm33 cd33 ct33 : Value}
    (a33 : PySem.W.nsIn K mainGlobals "paper_of" = some (some (.ref f33))) (l33 : K.lookup f33 = some ⟨oc33, od33, .func (PySem.W.fnOf "paper_of" "paper_of" (defArgs s_p_paper_of) (defBody s_p_paper_of) (defScope s_p_paper_of) .none kV33 dc33 pm33 an33 cd33 ct33), sl33⟩) (c33 : PySem.W.codeIn K cd33 "paper_of" = true) (k33 : PySem.W.keepIn K (.ref f33) = true)
    {f34 : Addr} {oc34 : Value} {od34 an34 : Option Addr} {sl34 : Array (Option Value)} {kV34 dc34 pm34 cd34 ct34 : Value}
    (a34 : PySem.W.nsIn K mainGlobals "soonest" = some (some (.ref f34))) (l34 : K.lookup f34 = some ⟨oc34, od34, .func (PySem.W.fnOf "soonest" "soonest" (defArgs s_p_soonest) (defBody s_p_soonest) (defScope s_p_soonest) .none kV34 dc34 pm34 an34 cd34 ct34), sl34⟩) (c34 : PySem.W.codeIn K cd34 "soonest" = true) (k34 : PySem.W.keepIn K (.ref f34) = true)
    {f35 : Addr} {oc35 : Value} {od35 an35 : Option Addr} {sl35 : Array (Option Value)} {kV35 dc35 pm35 cd35 ct35 : Value}
    (a35 : PySem.W.nsIn K mainGlobals "_law_later" = some (some (.ref f35))) (l35 : K.lookup f35 = some ⟨oc35, od35, .func (PySem.W.fnOf "_law_later" "_law_later" (defArgs s_later) (defBody s_later) (defScope s_later) .none kV35 dc35 pm35 an35 cd35 ct35), sl35⟩) (c35 : PySem.W.codeIn K cd35 "_law_later" = true) (k35 : PySem.W.keepIn K (.ref f35) = true)
    {f36 : Addr} {oc36 : Value} {od36 an36 : Option Addr} {sl36 : Array (Option Value)} {kV36 dc36 pm36 cd36 ct36 : Value}
    (a36 : PySem.W.nsIn K mainGlobals "law" = some (some (.ref f36))) (l36 : K.lookup f36 = some ⟨oc36, od36, .func (PySem.W.fnOf "law" "law" (defArgs s_law) (defBody s_law) (defScope s_law) .none kV36 dc36 pm36 an36 cd36 ct36), sl36⟩) (c36 : PySem.W.codeIn K cd36 "law" = true) (k36 : PySem.W.keepIn K (.ref f36) = true)
    (z_ValueError : PySem.W.nsIn K mainGlobals "ValueError" = some none)
    (z_all : PySem.W.nsIn K mainGlobals "all" = some none)
    (z_divmod : PySem.W.nsIn K mainGlobals "divmod" = some none)
    (z_isinstance : PySem.W.nsIn K mainGlobals "isinstance" = some none)
    (z_len : PySem.W.nsIn K mainGlobals "len" = some none)
    (z_max : PySem.W.nsIn K mainGlobals "max" = some none)
    (z_range : PySem.W.nsIn K mainGlobals "range" = some none)
    (z_repr : PySem.W.nsIn K mainGlobals "repr" = some none)
    (z_sorted : PySem.W.nsIn K mainGlobals "sorted" = some none)
    (z_tuple : PySem.W.nsIn K mainGlobals "tuple" = some none)
    {tk_NO_TIE : Tok} (ca_NO_TIE : PySem.W.nsIn K mainGlobals "NO_TIE" = some (some (.str "" tk_NO_TIE)))
    {A_HourError : Addr}
    (xn_HourError : PySem.W.nsIn K mainGlobals (Str.ofString "HourError") = some (some (.ref A_HourError)))
    {A_NoDay : Addr}
    (xn_NoDay : PySem.W.nsIn K mainGlobals (Str.ofString "NoDay") = some (some (.ref A_NoDay)))
    {A_NoText : Addr}
    (xn_NoText : PySem.W.nsIn K mainGlobals (Str.ofString "NoText") = some (some (.ref A_NoText)))
    {A_NoTie : Addr}
    (xn_NoTie : PySem.W.nsIn K mainGlobals (Str.ofString "NoTie") = some (some (.ref A_NoTie)))
    {A_NotRight : Addr}
    (xn_NotRight : PySem.W.nsIn K mainGlobals (Str.ofString "NotRight") = some (some (.ref A_NotRight)))
    {A_Overtaken : Addr}
    (xn_Overtaken : PySem.W.nsIn K mainGlobals (Str.ofString "Overtaken") = some (some (.ref A_Overtaken)))
    (xd_HourError : PySem.W.hasDictIn K A_HourError = true)
    (xt_HourError : PySem.W.typeIn K (.ref A_HourError) = some (.type "type"))
    (xd_NoDay : PySem.W.hasDictIn K A_NoDay = true)
    (xt_NoDay : PySem.W.typeIn K (.ref A_NoDay) = some (.type "type"))
    (xd_NoText : PySem.W.hasDictIn K A_NoText = true)
    (xt_NoText : PySem.W.typeIn K (.ref A_NoText) = some (.type "type"))
    (xd_NoTie : PySem.W.hasDictIn K A_NoTie = true)
    (xt_NoTie : PySem.W.typeIn K (.ref A_NoTie) = some (.type "type"))
    (xd_NotRight : PySem.W.hasDictIn K A_NotRight = true)
    (xt_NotRight : PySem.W.typeIn K (.ref A_NotRight) = some (.type "type"))
    (xd_Overtaken : PySem.W.hasDictIn K A_Overtaken = true)
    (xt_Overtaken : PySem.W.typeIn K (.ref A_Overtaken) = some (.type "type"))
    (xb_HourError : PySem.W.subIn K (.ref A_HourError) (.type "BaseException") = some true)
    (xb_NoDay : PySem.W.subIn K (.ref A_NoDay) (.type "BaseException") = some true)
    (xs : PySem.W.specialIn K (.builtin "object.__class__") "__get__" = some (some (.builtin "getset_descriptor.__get__")))
    (xu : PySem.W.takesIn K (.builtin "object.__class__") = some true)
    (xg_NoDay : PySem.W.findIn K (.ref A_NoDay) "__getattribute__" = some (some (.builtin "BaseException.__getattribute__")))
    (xh_NoDay : PySem.W.findIn K (.ref A_NoDay) "__getattr__" = some none)
    (xa_NoDay : PySem.W.findIn K (.ref A_NoDay) "__class__" = some (some (.builtin "object.__class__")))
    (xm_NoDay : PySem.W.mroIn K A_NoDay (.type "object") = some true)
    (bg_HourError : PySem.W.specialIn K (.ref A_HourError) "__getattribute__" = some (some (.builtin "type.__getattribute__")))
    (br_HourError : PySem.W.readsIn K A_HourError (.type "type") = true)
    (bf_HourError : PySem.W.findCls K (.ref A_HourError) (.type "type") "__init__" = some (.val (.builtin "ValueError.__init__")))
    {nm_NoDay qn_NoDay : Str} {NN_NoDay : Addr} {bs_NoDay : List Value} {sn_NoDay : List Str} {sub_NoDay : List Value} {ab_NoDay : Bool} {col_NoDay : Option Bool} {dd_NoDay : Option Addr} {k0_NoDay k1_NoDay k2_NoDay k3_NoDay k5_NoDay : Option Value}
    {I_NoDay : Addr} {ioc_NoDay : Value} {iod_NoDay ian_NoDay : Option Addr} {isl_NoDay : Array (Option Value)} {ikV_NoDay idc_NoDay ipm_NoDay icd_NoDay ict_NoDay : Value}
    (yl_NoDay : K.lookup A_NoDay = some (excClassObj nm_NoDay qn_NoDay A_NoDay NN_NoDay bs_NoDay [.ref A_HourError, .type "ValueError", .type "Exception", .type "BaseException", .type "object"] true sn_NoDay sub_NoDay ab_NoDay col_NoDay dd_NoDay k0_NoDay k1_NoDay k2_NoDay k3_NoDay k5_NoDay "ValueError.__new__"))
    (ys_NoDay : PySem.W.findIn K (.ref A_NoDay) "__setattr__" = some (some (.builtin "object.__setattr__")))
    (xk_NoDay : PySem.W.keepIn K (.ref A_NoDay) = true)
    (yi_NoDay : PySem.W.findIn K (.ref A_NoDay) "__init__" = some (some (.ref I_NoDay)))
    (yt_NoDay : PySem.W.typeIn K (.ref I_NoDay) = some (.type "function"))
    (yf_NoDay : K.lookup I_NoDay = some ⟨ioc_NoDay, iod_NoDay, .func (PySem.W.fnOf "__init__" (Str.ofString "NoDay.__init__") (defArgs s_init_NoDay) (defBody s_init_NoDay) (defScope s_init_NoDay) .none ikV_NoDay idc_NoDay ipm_NoDay ian_NoDay icd_NoDay ict_NoDay), isl_NoDay⟩)
    (yc_NoDay : PySem.W.codeIn K icd_NoDay (Str.ofString "NoDay.__init__") = true)
    (yk_NoDay : PySem.W.keepIn K (.ref I_NoDay) = true)
    (yn_NoDay_name : PySem.W.findIn K (.ref A_NoDay) (Str.ofString "name") = some none)
    (xp_NoDay_HourError : PySem.W.subIn K (.ref A_NoDay) (.ref A_HourError) = some true)
    (xp_NoDay_NoDay : PySem.W.subIn K (.ref A_NoDay) (.ref A_NoDay) = some true)
    (xp_NoDay_NoText : PySem.W.subIn K (.ref A_NoDay) (.ref A_NoText) = some false)
    (xq_NoDay_NoText : A_NoDay = A_NoText → false = true)
    (xp_NoDay_NoTie : PySem.W.subIn K (.ref A_NoDay) (.ref A_NoTie) = some false)
    (xq_NoDay_NoTie : A_NoDay = A_NoTie → false = true)
    (xp_NoDay_NotRight : PySem.W.subIn K (.ref A_NoDay) (.ref A_NotRight) = some false)
    (xq_NoDay_NotRight : A_NoDay = A_NotRight → false = true)
    (xp_NoDay_Overtaken : PySem.W.subIn K (.ref A_NoDay) (.ref A_Overtaken) = some false)
    (xq_NoDay_Overtaken : A_NoDay = A_Overtaken → false = true)
    (xp_NoDay_ValueError : PySem.W.subIn K (.ref A_NoDay) (.type "ValueError") = some true)
    : TopF K mg where
  b_HourError := basec_mk X G xn_HourError bg_HourError br_HourError bf_HourError
  y_NoDay := topi_mk X G xn_NoDay yl_NoDay (show PySem.HandSPX.refsVE [.type "ValueError", .type "Exception", .type "BaseException", .type "object"] = true from by decide +kernel) ys_NoDay xb_NoDay xt_NoDay xk_NoDay yi_NoDay yt_NoDay yf_NoDay yc_NoDay yk_NoDay (List.forall_mem_cons.mpr ⟨yn_NoDay_name, fun _ h => absurd h List.not_mem_nil⟩) (fun _ _ _ _ _ _ us hl => match us, hl with | [_, _], _ => rfl)
  n_NoDay := exnN_mk X G xn_NoDay xb_NoDay xg_NoDay xh_NoDay xd_NoDay xa_NoDay xs xu xm_NoDay
  f_NoDay_name := fln_mk X G xn_NoDay yn_NoDay_name
  h_HourError_NoDay := hnf_mk X G xn_HourError xn_NoDay xb_HourError xd_HourError xt_HourError xp_NoDay_HourError
  i_NoDay_NoDay := isf_mk X G xn_NoDay xn_NoDay (kit1_own xd_NoDay xt_NoDay xp_NoDay_NoDay (fun _ => rfl))
  i_NoDay_NoText := isf_mk X G xn_NoDay xn_NoText (kit1_own xd_NoText xt_NoText xp_NoDay_NoText xq_NoDay_NoText)
  i_NoDay_NoTie := isf_mk X G xn_NoDay xn_NoTie (kit1_own xd_NoTie xt_NoTie xp_NoDay_NoTie xq_NoDay_NoTie)
  i_NoDay_NotRight := isf_mk X G xn_NoDay xn_NotRight (kit1_own xd_NotRight xt_NotRight xp_NoDay_NotRight xq_NoDay_NotRight)
  i_NoDay_Overtaken := isf_mk X G xn_NoDay xn_Overtaken (kit1_own xd_Overtaken xt_Overtaken xp_NoDay_Overtaken xq_NoDay_Overtaken)
  j_NoDay_ValueError := isb_mk X G xn_NoDay (kit1_bi (by decide +kernel) xp_NoDay_ValueError)
  t_p_common := top_mk X G a0 l0 c0 k0 (fun _ _ _ _ _ _ us hl => match us, hl with | [_, _], _ => rfl)
  t_p_is_below := top_mk X G a1 l1 c1 k1 (fun _ _ _ _ _ _ us hl => match us, hl with | [_, _], _ => rfl)
  t_p_ends_of := top_mk X G a2 l2 c2 k2 (fun _ _ _ _ _ _ us hl => match us, hl with | [_], _ => rfl)
  t_p_is_waiting_let := top_mk X G a3 l3 c3 k3 (fun _ _ _ _ _ _ us hl => match us, hl with | [_, _], _ => rfl)
  t_p_ties_from := top_mk X G a4 l4 c4 k4 (fun _ _ _ _ _ _ us hl => match us, hl with | [_, _], _ => rfl)
  t_pot := top_mk X G a5 l5 c5 k5 (fun _ _ _ _ _ _ us hl => match us, hl with | [_, _], _ => rfl)
  t_take := top_mk X G a6 l6 c6 k6 (fun _ _ _ _ _ _ us hl => match us, hl with | [_, _], _ => rfl)
  t_low := top_mk X G a7 l7 c7 k7 (fun _ _ _ _ _ _ us hl => match us, hl with | [_, _], _ => rfl)
  t_under := top_mk X G a8 l8 c8 k8 (fun _ _ _ _ _ _ us hl => match us, hl with | [_, _], _ => rfl)
  t_p_fraction := top_mk X G a9 l9 c9 k9 (fun _ _ _ _ _ _ us hl => match us, hl with | [_, _], _ => rfl)
  t_p_may_come_again := top_mk X G a10 l10 c10 k10 (fun _ _ _ _ _ _ us hl => match us, hl with | [_, _, _], _ => rfl)
  t_p_ride_has := top_mk X G a11 l11 c11 k11 (fun _ _ _ _ _ _ us hl => match us, hl with | [_, _], _ => rfl)
  t_p_in_turn := top_mk X G a12 l12 c12 k12 (fun _ _ _ _ _ _ us hl => match us, hl with | [_], _ => rfl)
  t_p_soonest_place := top_mk X G a13 l13 c13 k13 (fun _ _ _ _ _ _ us hl => match us, hl with | [_, _], _ => rfl)
  t_more := top_mk X G a14 l14 c14 k14 (fun _ _ _ _ _ _ us hl => match us, hl with | [_, _], _ => rfl)
  t_rides := top_mk X G a15 l15 c15 k15 (fun _ _ _ _ _ _ us hl => match us, hl with | [_, _], _ => rfl)
  t_day := top_mk X G a16 l16 c16 k16 (fun _ _ _ _ _ _ us hl => match us, hl with | [_, _], _ => rfl)
  t_first_wrong := top_mk X G a17 l17 c17 k17 (fun _ _ _ _ _ _ us hl => match us, hl with | [_, _], _ => rfl)
  t_p_plus := top_mk X G a18 l18 c18 k18 (fun _ _ _ _ _ _ us hl => match us, hl with | [_, _], _ => rfl)
  t_p_less := top_mk X G a19 l19 c19 k19 (fun _ _ _ _ _ _ us hl => match us, hl with | [_, _], _ => rfl)
  t_p_times := top_mk X G a20 l20 c20 k20 (fun _ _ _ _ _ _ us hl => match us, hl with | [_, _], _ => rfl)
  t_p_over := top_mk X G a21 l21 c21 k21 (fun _ _ _ _ _ _ us hl => match us, hl with | [_, _], _ => rfl)
  t_net := top_mk X G a22 l22 c22 k22 (fun _ _ _ _ _ _ us hl => match us, hl with | [_, _], _ => rfl)
  t_moved := top_mk X G a23 l23 c23 k23 (fun _ _ _ _ _ _ us hl => match us, hl with | [_, _, _], _ => rfl)
  t_p_moved := top_mk X G a24 l24 c24 k24 (fun _ _ _ _ _ _ us hl => match us, hl with | [_, _], _ => rfl)
  t_p_on_straight := top_mk X G a25 l25 c25 k25 (fun _ _ _ _ _ _ us hl => match us, hl with | [_, _, _, _, _], _ => rfl)
  t_p_all_moved := top_mk X G a26 l26 c26 k26 (fun _ _ _ _ _ _ us hl => match us, hl with | [_, _, _], _ => rfl)
  t_p_ride_comes := top_mk X G a27 l27 c27 k27 (fun _ _ _ _ _ _ us hl => match us, hl with | [_, _], _ => rfl)
  t_p_days := top_mk X G a28 l28 c28 k28 (fun _ _ _ _ _ _ us hl => match us, hl with | [_, _, _], _ => rfl)
  t_p_offer := top_mk X G a29 l29 c29 k29 (fun _ _ _ _ _ _ us hl => match us, hl with | [_, _], _ => rfl)
  t_p_set_out := top_mk X G a30 l30 c30 k30 (fun _ _ _ _ _ _ us hl => match us, hl with | [_, _, _], _ => rfl)
  t_told := top_mk X G a31 l31 c31 k31 (fun _ _ _ _ _ _ us hl => match us, hl with | [_, _, _], _ => rfl)
  t_p_ridden_by := top_mk X G a32 l32 c32 k32 (fun _ _ _ _ _ _ us hl => match us, hl with | [_, _, _], _ => rfl)
  t_p_paper_of := top_mk X G a33 l33 c33 k33 (fun _ _ _ _ _ _ us hl => match us, hl with | [_, _, _], _ => rfl)
  t_p_soonest := top_mk X G a34 l34 c34 k34 (fun _ _ _ _ _ _ us hl => match us, hl with | [_, _, _, _], _ => rfl)
  t_later := top_mk X G a35 l35 c35 k35 (fun _ _ _ _ _ _ us hl => match us, hl with | [_, _, _, _], _ => rfl)
  t_law := top_mk X G a36 l36 c36 k36 (fun _ _ _ _ _ _ us hl => match us, hl with | [_], _ => rfl)
  z_ValueError := PySem.W.mg_none_of X G z_ValueError
  z_all := PySem.W.mg_none_of X G z_all
  z_divmod := PySem.W.mg_none_of X G z_divmod
  z_isinstance := PySem.W.mg_none_of X G z_isinstance
  z_len := PySem.W.mg_none_of X G z_len
  z_max := PySem.W.mg_none_of X G z_max
  z_range := PySem.W.mg_none_of X G z_range
  z_repr := PySem.W.mg_none_of X G z_repr
  z_sorted := PySem.W.mg_none_of X G z_sorted
  z_tuple := PySem.W.mg_none_of X G z_tuple
  c_NO_TIE := cf_str X G ca_NO_TIE
theorem law_end {P : Program} {w : World} {K : PySem.W.Frag} {mg : Str → Option Value} {fa : Addr} (T : TopF K mg) (hmg : mg "law" = some (.ref fa)) :
    ∃ fd : FuncData, (∀ (s : Shared) (u : Value), BindsTo s fd ⟨[u], []⟩ [("_law_script", u)]) ∧ ∀ base : Heap, K.In base → base.Ns mainGlobals mg → FnG P w K mg base CX0 12 fa fd ["_law_script"] (spD K 1 F_law) := lawG_F T.t_law (fun base => d_law T) hmg fun _ _ _ _ _ _ _ _ => .of_eq rfl
end DL
namespace DL
open PySem PySem.Spec L2
local macro_rules | `(tactic| walk_at "ev") => `(tactic| try simp -implicitDefEqProofs only [evB1, Nat.reduceLeDiff, asO_int, Res.bind_ok, b1_ok, b2_ok, bAnd_ok, bOr_ok, bNot_ok, bAndV_ok, bNotV_ok, bIf_ok, bC_ok, bC1_ok, bM_ok, bM1_ok, bSl_ok, bSl1_ok, bSl2_ok, kAsg_ok, bG_ok, bS1_ok, bS2_ok, bS3_ok, kSet_ok, kRet_ok, kExp_ok, kIf_ok, kFor_ok, kPar_ok, kPar1_ok, SR.seq_nx, SR.seq_rt, SR.fin_rt, toS_ok, slAt_some, optR_some, asB_bl, asT_bl, dAdd_ii, dSub_ii, dLt_ii, dGt_ii, dGe_ii, bMax2_ii, bLen_r, dIx_t, dIx_r, at_0, at_1, at_2, dEq_ii, iSeq_t, List.map, List.length_cons, List.length_nil, List.replicate_succ, List.replicate_zero, List.cons_append, List.nil_append, List.append_nil, List.getElem?_cons_zero, List.getElem?_cons_succ, List.set_cons_zero, List.set_cons_succ, Nat.reduceSub, Nat.reduceAdd, Nat.sub_self, Bool.not_true, Bool.not_false, if_true, if_false, reduceIte, Bool.false_eq_true, decide_true, decide_false])
local macro_rules | `(tactic| walk_at "evn") => `(tactic| try simp -implicitDefEqProofs only [evB1, List.append_assoc, List.length_append, Nat.add_assoc, get_at, get_at0, Nat.reduceLeDiff, asO_int, Res.bind_ok, b1_ok, b2_ok, bAnd_ok, bOr_ok, bNot_ok, bAndV_ok, bNotV_ok, bIf_ok, bC_ok, bC1_ok, bM_ok, bM1_ok, bSl_ok, bSl1_ok, bSl2_ok, kAsg_ok, bG_ok, bS1_ok, bS2_ok, bS3_ok, kSet_ok, kRet_ok, kExp_ok, kIf_ok, kFor_ok, kPar_ok, kPar1_ok, SR.seq_nx, SR.seq_rt, SR.fin_rt, toS_ok, slAt_some, optR_some, asB_bl, asT_bl, dAdd_ii, dSub_ii, dLt_ii, dGt_ii, dGe_ii, bMax2_ii, bLen_r, dIx_t, dIx_r, at_0, at_1, at_2, dEq_ii, iSeq_t, List.map, List.length_cons, List.length_nil, List.replicate_succ, List.replicate_zero, List.cons_append, List.nil_append, List.append_nil, List.getElem?_cons_zero, List.getElem?_cons_succ, List.set_cons_zero, List.set_cons_succ, Nat.reduceSub, Nat.reduceAdd, Nat.sub_self, Bool.not_true, Bool.not_false, if_true, if_false, reduceIte, Bool.false_eq_true, decide_true, decide_false])
local macro_rules | `(tactic| walk_at "evq") => `(tactic| try simp -implicitDefEqProofs only [evB1, dIx_FQ0, dIx_FQ1, dEq_FQ, dNe_FQ, FQ_01, List.append_assoc, List.length_append, Nat.add_assoc, get_at, get_at0, Nat.reduceLeDiff, asO_int, Res.bind_ok, b1_ok, b2_ok, bAnd_ok, bOr_ok, bNot_ok, bAndV_ok, bNotV_ok, bIf_ok, bC_ok, bC1_ok, bM_ok, bM1_ok, bSl_ok, bSl1_ok, bSl2_ok, kAsg_ok, bG_ok, bS1_ok, bS2_ok, bS3_ok, kSet_ok, kRet_ok, kExp_ok, kIf_ok, kFor_ok, kPar_ok, kPar1_ok, SR.seq_nx, SR.seq_rt, SR.fin_rt, toS_ok, slAt_some, optR_some, asB_bl, asT_bl, dAdd_ii, dSub_ii, dLt_ii, dGt_ii, dGe_ii, bMax2_ii, bLen_r, dIx_t, dIx_r, at_0, at_1, at_2, dEq_ii, iSeq_t, List.map, List.length_cons, List.length_nil, List.replicate_succ, List.replicate_zero, List.cons_append, List.nil_append, List.append_nil, List.getElem?_cons_zero, List.getElem?_cons_succ, List.set_cons_zero, List.set_cons_succ, Nat.reduceSub, Nat.reduceAdd, Nat.sub_self, Bool.not_true, Bool.not_false, if_true, if_false, reduceIte, Bool.false_eq_true, decide_true, decide_false])
theorem sl0_I : D.str (Str.ofString "") = T [] := by
  show D.str _ = D.str _
  congr 1
theorem sl1_I : D.str (Str.ofString "a") = T [97] := by
  show D.str _ = D.str _
  congr 1
theorem sl2_I : D.str (Str.ofString "b") = T [98] := by
  show D.str _ = D.str _
  congr 1
theorem sl3_I : D.str (Str.ofString "c") = T [99] := by
  show D.str _ = D.str _
  congr 1
theorem sl4_I : D.str (Str.ofString "d") = T [100] := by
  show D.str _ = D.str _
  congr 1
theorem sl5_I : D.str (Str.ofString "s") = T [115] := by
  show D.str _ = D.str _
  congr 1
theorem sl6_I : D.str (Str.ofString "q") = T [113] := by
  show D.str _ = D.str _
  congr 1
theorem sl7_I : D.str (Str.ofString "r") = T [114] := by
  show D.str _ = D.str _
  congr 1
theorem sl8_I : D.str (Str.ofString "p") = T [112] := by
  show D.str _ = D.str _
  congr 1
theorem sl9_I : D.str (Str.ofString "t") = T [116] := by
  show D.str _ = D.str _
  congr 1
theorem p_common {a b : Int} {h : Hd} (ha : 0 ≤ a) (hb : 0 ≤ b) : F_p_common [.int a, .int b] h = .ok (.int (Int.gcd a b)) h := by
  simp only [F_p_common, B_p_common]
  walk_at "ev"
  rw [common_while (fun a b => by walk_at "ev") (fun a b q => by walk_at "ev"; rw [dMod_ok q]; rfl) b.toNat a b (Nat.le_refl _) ha hb]
  walk_at "ev"
  exact gc_same lo_int
theorem p_is_below_ok {a b : Rat} {h : Hd} {k l : Nat} (x : SzQ k a) (y : SzQ l b) (hk : k + l ≤ 7999) : F_p_is_below [FQ a, FQ b] h = .ok (.bl (decide (a < b))) h := by
  simp only [F_p_is_below, B_p_is_below]
  walk_at "evq"
  rw [dMul_ok (MulOk.of x.1 y.2 (by omega))]
  walk_at "evq"
  rw [dMul_ok (MulOk.of y.1 x.2 (by omega))]
  walk_at "evq"
  simp only [lt_FQ]
  exact gc_same lo_bl
theorem p_is_below_I {a b : Rat} {h : Hd} {k l : Nat} [x : ZQ k a] [y : ZQ l b] (hk : k + l ≤ 7999) : F_p_is_below [FQ a, FQ b] h = .ok (.bl (decide (a < b))) h := p_is_below_ok x.z y.z hk
def evB2 := andB @lt_FQ <| andB @dMul_I <| andB @iSeq_I <| andB @tyM_I <| andB @lsOf_I <| andB @dIx_I <| andB @mApp_I <| andB @dSl_I <| andB @bLen_I <| andB @bTuple_I <| andB @dAdd_I <| andB @set_at_I <| andB @set_at0_I <| andB @iteAV_I <| andB @is_nn_I <| andB @is_fn_I <| andB @dEq_T_I <| andB @dNe_T_I <| andB @optD_some_I <| andB @optD_none_I <| andB @dNe_nn_I <| andB @gc_I <| andB @gcn_I <| andB @gcS_I <| andB @gcR_I <| andB @toRt_I <| andB @ev_G_I <| andB @ev_tG_I <| andB @bTG_I <| andB @ev_sG_I <| andB @ev_sW_I <| andB @wp_nx_I <| andB @wp_rt_I <| andB @wipe_nil_I <| andB @wipe_cons_I <| andB @HP_len_I <| andB @HP_HP_I <| andB @set_HPk_I <| andB @set_HP0_I <| andB @ev_turn_I <| andB @ev_Lc_I <| andB @dPow_I <| andB @iRange1_I <| andB @map_snoc_I <| andB @map_app_I <| andB @mExt_I <| andB @mIns_I <| andB @zero_add_I <| andB @cast_sub1_I <| andB @bAll_map_I <| andB @all_true_I <| andB @dIx_PrD1_I <| andB @dIx_Qd0_I <| andB @dIx_Qd1_I <| andB @is_PrD_I <| andB @neP_nil0_I <| andB @gT_Qd_I <| andB @seq_exc_I <| andB @gcS_exc_I <| andB @wp_exc_I <| andB @ev_Fn_I <| andB @kFn_ok_I <| andB @x_kRet_I <| andB @toNat_cast_I <| andB @ev_raiseI_I <| andB @kRI1_I <| andB @getR_I <| andB @dDG_I <| andB @dDGF_I <| andB @dDI_I <| andB @dSetD_I <| andB @ev_sLock_I <| andB @kLock_I <| andB @unlS_nx_I <| andB @ev_iKey_I <| andB @ev_iItm_I <| andB @ev_iVal_I <| andB @ev_DN_I <| andB @ev_run2_I <| andB @fin2_rt_I <| andB @gcnK_I <| andB @dClear_I <| andB @setHP_I <| andB @set_appO_I <| andB @kKey_I <| andB @kItm_I <| andB @kVal_I <| andB @valK_I <| andB @dIx_Tie0_I <| andB @dIx_Tie1_I <| andB @dIx_Tie2_I <| andB @gT_Tie_I <| andB @iSeq_Rds_I <| andB @omap_I <| andB @omap0_I <| andB @valK_P_I <| andB @omap_is_I <| andB @ev_DP_I <| andB @kDP_I <| andB @kDP2_I <| andB @mRem_I <| andB @optT_none_I <| andB @optT_some_I <| andB @is_T_I <| andB @sl0_I <| andB @sl1_I <| andB @sl2_I <| andB @sl3_I <| andB @sl4_I <| andB @sl5_I <| andB @sl6_I <| andB @sl7_I <| andB @sl8_I <| andB @sl9_I <| @p_is_below_I
local macro_rules | `(tactic| walk_at "evj") => `(tactic| try simp -implicitDefEqProofs (disch := first | (simp only [List.length_cons, List.length_nil, Nat.reduceAdd, Nat.reduceLeDiff]; done) | exact tyM_I | exact tyM_T | decide | omega | (simp only [List.length_map, List.length_cons, List.length_nil, List.length_append, List.length_replicate, List.length_take, List.length_dropLast]; omega) | assumption) only [evB1, evB2, Bool.false_xor, Bool.true_xor, beq_self_eq_true, Bool.true_and, Bool.and_true, Bool.false_and, Bool.and_false, Bool.true_or, Bool.or_true, Bool.false_or, Bool.or_false, Int.reduceToNat, Int.reducePow, Int.reduceSub, Int.reduceAdd, Int.reduceNeg, Int.reduceMul, List.singleton_append, k_NO_TIE, dIx_FQ0, dIx_FQ1, dEq_FQ, dNe_FQ, FQ_01, List.append_assoc, List.length_append, Nat.add_assoc, get_at, get_at0, Nat.reduceLeDiff, asO_int, Res.bind_ok, b1_ok, b2_ok, bAnd_ok, bOr_ok, bNot_ok, bAndV_ok, bNotV_ok, bIf_ok, bC_ok, bC1_ok, bM_ok, bM1_ok, bSl_ok, bSl1_ok, bSl2_ok, kAsg_ok, bG_ok, bS1_ok, bS2_ok, bS3_ok, kSet_ok, kRet_ok, kExp_ok, kIf_ok, kFor_ok, kPar_ok, kPar1_ok, SR.seq_nx, SR.seq_rt, SR.fin_rt, toS_ok, slAt_some, optR_some, asB_bl, asT_bl, dAdd_ii, dSub_ii, dLt_ii, dGt_ii, dGe_ii, bMax2_ii, bLen_r, dIx_t, dIx_r, at_0, at_1, at_2, dEq_ii, iSeq_t, List.map, List.length_cons, List.length_nil, List.replicate_succ, List.replicate_zero, List.cons_append, List.nil_append, List.append_nil, List.getElem?_cons_zero, List.getElem?_cons_succ, List.set_cons_zero, List.set_cons_succ, Nat.reduceSub, Nat.reduceAdd, Nat.sub_self, Bool.not_true, Bool.not_false, if_true, if_false, reduceIte, Bool.false_eq_true, decide_true, decide_false])
theorem p_ends_of_ok {R : List Rq} {h : Hd} (hl : R.length ≤ 1000) : F_p_ends_of [.tup (R.map QdD)] h = .ok (.ref h.length) (h ++ [.lst ((endsR R).map FQ)]) := by
  simp only [F_p_ends_of, B_p_ends_of]
  walk_at "evj"
  rw [kLc_all (f := (fun q : Rq => FQ q.1)) (by omega) (fun _ => by first | trivial | exact Ls.q) (fun p hp acc => ⟨_, rfl, rfl, by walk_at "evj"⟩)]
  walk_at "evj"
  rw [kLc_all (f := (fun q : Rq => FQ q.2.1)) (by omega) (fun _ => by first | trivial | exact Ls.q) (fun p hp acc => ⟨_, rfl, rfl, by walk_at "evj"⟩)]
  walk_at "evj"
  rw [show (R.map fun q : Rq => FQ q.1) ++ (R.map fun q : Rq => FQ q.2.1) = (endsR R).map FQ by unfold endsR; simp [Function.comp_def]]
theorem p_is_waiting_let_ok {h : Hd} {n : Nat} {x : D} {ts : List Tie} {ws : List (List Nat)} {t : Tie} (q : Ob h n (.dK (tiesK ts))) (nd : (ts.map Tie.nm).Nodup) (ht : t ∈ ts) (hw : ∀ w ∈ ws, Tx w) (ta : Tx t.a) (tn : Tx t.nm) : F_p_is_waiting_let [.tup [x, .tup (ws.map T), .ref n], T t.nm] h = .ok (.bl (decide (t.a ∈ ws))) h := by
  simp only [F_p_is_waiting_let, B_p_is_waiting_let]
  walk_at "evj"
  rw [find_mem nd ht]
  walk_at "evj"
  rw [dIn_Tt hw]
  walk_at "evj"
theorem p_ties_from_ok {h : Hd} {n : Nat} {x : D} {ts : List Tie} {ws : List Pl} {p : Pl} (q : Ob h n (.dK (tiesK ts))) (nd : (ts.map Tie.nm).Nodup) (ok : ∀ t ∈ ts, t.Ok ws) (lt : ts.length ≤ 60) (tp : Tx p) (lx : ∀ h : Hd, Lw h x) :
    F_p_ties_from [.tup [x, .tup (ws.map T), .ref n], T p] h = .ok (.ref h.length) (h ++ [.lst (((tiesBy ts (sortN (ts.map Tie.nm))).filter fun t => decide (t.a = p)).map fun t => T t.nm)]) := by
  simp only [F_p_ties_from, B_p_ties_from]
  walk_at "evj"
  rw [bSortT_d (by omega)]
  have lo1 : ∀ w ∈ sortN (ts.map Tie.nm), w ∈ ts.map Tie.nm := fun w hw => sortN_perm.mem_iff.mp hw
  have eN := tiesBy_nm lo1 nd
  have S1 : ∀ t ∈ tiesBy ts (sortN (ts.map Tie.nm)), t ∈ ts := fun t ht => tiesBy_mem ht
  have lS : (tiesBy ts (sortN (ts.map Tie.nm))).length = ts.length := by
    have := congrArg List.length eN
    rw [List.length_map, sortN_perm.length_eq, List.length_map] at this
    exact this
  generalize tiesBy ts (sortN (ts.map Tie.nm)) = S at *
  rw [← eN, show (S.map Tie.nm).map T = S.map (fun t => T t.nm) from List.map_map]
  walk_at "evj"
  rw [kLc_map (xs := S) (fun t : Tie => decide (t.a = p)) (fun t : Tie => T t.nm) (by omega) (fun _ => by rw [List.append_assoc, ← Nat.add_zero h.length, get_at]; rfl) (fun t ht acc => by
    have ht2 := S1 t ht
    have ta := (ok t ht2).ta
    have tn := (ok t ht2).tn
    refine ⟨_, rfl, ?_, fun _ => ?_⟩
    · walk_at "evj"
      rw [find_mem nd ht2]
      walk_at "evj"
    · walk_at "evj")]
  walk_at "evj"
theorem pot_ok {ns : List Int} {k : Nat} {h : Hd} (hk : k < 64) : ∃ c : PS, PotI c ∧ F_pot [.rol (ns.map D.int), .int k] h = .ok (.ref h.length) (h ++ [.lst [.int c.1, .int c.2]]) := by
  have zk : ZI 7 (k : Int) := ⟨Sz.of (by omega) (by omega)⟩
  simp only [F_pot, B_pot]
  walk_at "evj"
  have key : ∀ z : Int, ∃ c : PS, PotI c ∧ c = ((if 0 < z - 1000000000000000000 then z - 1000000000000000000 else 0), (z % 2147483587 * 39119 + 7919 * k + 41) % 2147483629) := fun z => ⟨_, ⟨⟨by simp only; split <;> omega, by simp only; omega, by simp only; omega⟩⟩, rfl⟩
  by_cases c : k < ns.length
  · have e1 : decide ((k : Int) < ((ns.map D.int).length : Int)) = true := decide_eq_true (by rw [List.length_map]; omega)
    have e2 : atI (ns.map D.int) (k : Int) = some (.int ns[k]) := by
      rw [at_nat (by rw [List.length_map]; exact c)]
      simp
    rw [e1, e2]
    generalize ns[k] = z
    obtain ⟨c, vc, ec⟩ := key z
    walk_at "evj"
    rw [dMod_ok (by decide)]
    walk_at "evj"
    rw [dMul_ok (MulOk.of (k := 40) (l := 20) (Sz.of (by omega) (by omega)) (Sz.of (by decide) (by decide)) (by decide))]
    walk_at "evj"
    rw [dMul_ok (MulOk.of (k := 20) (l := 20) (Sz.of (by decide) (by decide)) (Sz.of (by omega) (by omega)) (by decide))]
    walk_at "evj"
    rw [dMod_ok (by decide)]
    walk_at "evj"
    refine ⟨c, vc, ?_⟩
    rw [ec]
  · have e1 : decide ((k : Int) < ((ns.map D.int).length : Int)) = false := decide_eq_false (by rw [List.length_map]; omega)
    rw [e1]
    obtain ⟨c, vc, ec⟩ := key 0
    walk_at "evj"
    rw [dMod_ok (by decide)]
    walk_at "evj"
    rw [dMul_ok (MulOk.of (k := 40) (l := 20) (Sz.of (by decide) (by decide)) (Sz.of (by decide) (by decide)) (by decide))]
    walk_at "evj"
    rw [dMul_ok (MulOk.of (k := 20) (l := 20) (Sz.of (by decide) (by decide)) (Sz.of (by omega) (by omega)) (by decide))]
    walk_at "evj"
    rw [dMod_ok (by decide)]
    walk_at "evj"
    refine ⟨c, vc, ?_⟩
    rw [ec]
    rfl
theorem takeW_ok {p : Nat} {h : Hd} {c : PS} {m : Int} [z : PL p h] (v : PotI c) (h1 : 1 ≤ m) (h2 : m < 2 ^ 60) : F_take [.ref p, .int m] (HP h p c) = .ok (.int (wkV c m)) (HP h p (wkC c m)) := by
  obtain ⟨hx, hy, hy2⟩ := v.v
  obtain ⟨x, y⟩ := c
  simp only at hx hy hy2
  have hp : p < (HP h p (x, y)).length := by rw [HP_len_I]; exact z.lt
  have e : (HP h p (x, y))[p]? = some (.lst [.int x, .int y]) := HP_get
  have mz : DivOk x m := DivOk.of (by omega) (Sz.of (k := 60) (by omega) (by omega)) (by decide)
  simp only [F_take, B_take]
  walk_at "ev"
  simp only [dIx_l e]
  walk_at "ev"
  unfold wkV wkC
  simp only
  by_cases hx0 : 0 < x
  · simp only [hx0, decide_true, if_true]
    walk_at "ev"
    simp only [dIx_l e]
    walk_at "ev"
    rw [bDivmod_ok mz]
    walk_at "ev"
    rw [setL_l (k := 0) e (by rfl)]
    walk_at "ev"
    rw [show (HP h p (x, y)).set p (.lst [.int (x / m), .int y]) = HP h p (x / m, y) from HP_HP_I (c := (x, y)) (c2 := (x / m, y))]
    have := gc_I (h := HP h p (x, y)) (h1 := HP h p (x / m, y)) (d := .int (x % m)) (tk := [])
    rw [this, List.append_nil]
  · simp only [hx0]
    walk_at "ev"
    simp only [dIx_l e]
    walk_at "ev"
    rw [dMul_ok (MulOk.of (Sz.of (k := 40) (by omega) (by omega)) (Sz.of (k := 40) (by omega) (by omega)) (by decide))]
    walk_at "ev"
    rw [dMod_ok (by decide)]
    walk_at "ev"
    rw [setL_l (k := 1) e (by rfl)]
    walk_at "ev"
    generalize hy' : (y * 40487 + 12289) % 2147483629 = y'
    have b1 : 0 ≤ y' := by omega
    have b2 : y' < 2147483629 := by omega
    rw [show (HP h p (x, y)).set p (.lst [.int x, .int y']) = HP h p (x, y') from HP_HP_I (c := (x, y)) (c2 := (x, y'))]
    have e' : (HP h p (x, y'))[p]? = some (.lst [.int x, .int y']) := HP_get
    simp only [dIx_l e']
    walk_at "ev"
    simp only [dIx_l e']
    walk_at "ev"
    rw [dMul_ok (MulOk.of (Sz.of (k := 40) (by omega) (by omega)) (Sz.of (k := 40) (by omega) (by omega)) (by decide))]
    walk_at "ev"
    rw [dMod_ok (by decide)]
    walk_at "ev"
    rw [dDiv_ok (DivOk.of (by decide) (Sz.of (k := 40) (by omega) (by omega)) (by decide))]
    walk_at "ev"
    rw [dMod_ok (by omega)]
    walk_at "ev"
    have := gc_I (h := HP h p (x, y)) (h1 := HP h p (x, y')) (d := .int (y' * y' % 2147483563 / 13 % m)) (tk := [])
    rw [this, List.append_nil]
theorem take_I {H h g : Hd} {p k : Nat} {c : PS} {m : Int} [q : Hpt H h p c g] [v : PotI c] [z : PL p h] [f : Fa (1 ≤ m)] [w : ZI k m] (hk : k ≤ 60) : F_take [.ref p, .int m] H = .ok (.int (wkV c m)) (HP h p (wkC c m) ++ g) :=
  frame (fun h _ => takeW_ok v f.out (by have := w.z.mono hk; unfold Sz at this; omega))
def evB3 := andB @lt_FQ <| andB @dMul_I <| andB @iSeq_I <| andB @tyM_I <| andB @lsOf_I <| andB @dIx_I <| andB @mApp_I <| andB @dSl_I <| andB @bLen_I <| andB @bTuple_I <| andB @dAdd_I <| andB @set_at_I <| andB @set_at0_I <| andB @iteAV_I <| andB @is_nn_I <| andB @is_fn_I <| andB @dEq_T_I <| andB @dNe_T_I <| andB @optD_some_I <| andB @optD_none_I <| andB @dNe_nn_I <| andB @sl0_I <| andB @sl1_I <| andB @sl2_I <| andB @sl3_I <| andB @sl4_I <| andB @sl5_I <| andB @sl6_I <| andB @sl7_I <| andB @sl8_I <| andB @sl9_I <| andB @p_is_below_I <| @take_I
local macro_rules | `(tactic| walk_at "evi") => `(tactic| try simp -implicitDefEqProofs (disch := first | (simp only [List.length_cons, List.length_nil, Nat.reduceAdd, Nat.reduceLeDiff]; done) | exact tyM_I | exact tyM_T | decide | omega | assumption) only [evB1, evB3, Bool.false_xor, Bool.true_xor, k_NO_TIE, dIx_FQ0, dIx_FQ1, dEq_FQ, dNe_FQ, FQ_01, List.append_assoc, List.length_append, Nat.add_assoc, get_at, get_at0, Nat.reduceLeDiff, asO_int, Res.bind_ok, b1_ok, b2_ok, bAnd_ok, bOr_ok, bNot_ok, bAndV_ok, bNotV_ok, bIf_ok, bC_ok, bC1_ok, bM_ok, bM1_ok, bSl_ok, bSl1_ok, bSl2_ok, kAsg_ok, bG_ok, bS1_ok, bS2_ok, bS3_ok, kSet_ok, kRet_ok, kExp_ok, kIf_ok, kFor_ok, kPar_ok, kPar1_ok, SR.seq_nx, SR.seq_rt, SR.fin_rt, toS_ok, slAt_some, optR_some, asB_bl, asT_bl, dAdd_ii, dSub_ii, dLt_ii, dGt_ii, dGe_ii, bMax2_ii, bLen_r, dIx_t, dIx_r, at_0, at_1, at_2, dEq_ii, iSeq_t, List.map, List.length_cons, List.length_nil, List.replicate_succ, List.replicate_zero, List.cons_append, List.nil_append, List.append_nil, List.getElem?_cons_zero, List.getElem?_cons_succ, List.set_cons_zero, List.set_cons_succ, Nat.reduceSub, Nat.reduceAdd, Nat.sub_self, Bool.not_true, Bool.not_false, if_true, if_false, reduceIte, Bool.false_eq_true, decide_true, decide_false])
theorem low_ok {n d : Int} {h : Hd} {k : Nat} (h0 : 0 ≤ n) (h1 : 1 ≤ d) (z : Sz k d) (hk : k < 9000) : F_low [.int n, .int d] h = .ok (FQ (Rat.divInt n d)) h := by
  simp only [F_low, B_low]
  walk_at "evi"
  rw [gcd_while (S := fun a b => [some (.int n), some (.int d), some (.int a), some (.int b)]) (fun a b => by walk_at "evi") (fun a b q => by walk_at "evi"; rw [dMod_ok q]; rfl) d.toNat n d (Nat.le_refl _) h0 (by omega)]
  walk_at "evi"
  have zg : Sz k ((Int.gcd n d : Nat) : Int) := by
    have := gcd_pos1 (a := n) h1
    have := gcd_le1 (a := n) h1
    unfold Sz at z ⊢
    omega
  rw [dDiv_ok (DivOk.of (gcd_pos1 h1) zg hk)]
  walk_at "evi"
  rw [dDiv_ok (DivOk.of (gcd_pos1 h1) zg hk)]
  walk_at "evi"
  rw [← FQ_divInt h1]
  exact gc_same lo_FQ
theorem low_I {n d : Int} {h : Hd} {k : Nat} [f : Fa (0 ≤ n)] [g : Fa (1 ≤ d)] [z : ZI k d] (hk : k < 9000) : F_low [.int n, .int d] h = .ok (FQ (Rat.divInt n d)) h := low_ok f.out g.out z.z hk
theorem under_ok {a b : Rat} {h : Hd} {k l : Nat} (x : SzQ k a) (y : SzQ l b) (hk : k + l ≤ 7999) : F_under [FQ a, FQ b] h = .ok (.bl (decide (a < b))) h := by
  have ia : ZQ k a := ⟨x⟩
  have ib : ZQ l b := ⟨y⟩
  simp only [F_under, B_under]
  walk_at "evj"
theorem under_I {a b : Rat} {h : Hd} {k l : Nat} [x : ZQ k a] [y : ZQ l b] (hk : k + l ≤ 7999) : F_under [FQ a, FQ b] h = .ok (.bl (decide (a < b))) h := under_ok x.z y.z hk
def evB4 := andB @take_I <| andB @low_I <| @under_I
local macro_rules | `(tactic| walk_at "evj") => `(tactic| try simp -implicitDefEqProofs (disch := first | (simp only [List.length_cons, List.length_nil, Nat.reduceAdd, Nat.reduceLeDiff]; done) | exact tyM_I | exact tyM_T | decide | omega | (simp only [List.length_map, List.length_cons, List.length_nil, List.length_append, List.length_replicate, List.length_take, List.length_dropLast]; omega) | assumption) only [evB1, evB2, evB4, Bool.false_xor, Bool.true_xor, beq_self_eq_true, Bool.true_and, Bool.and_true, Bool.false_and, Bool.and_false, Bool.true_or, Bool.or_true, Bool.false_or, Bool.or_false, Int.reduceToNat, Int.reducePow, Int.reduceSub, Int.reduceAdd, Int.reduceNeg, Int.reduceMul, List.singleton_append, k_NO_TIE, dIx_FQ0, dIx_FQ1, dEq_FQ, dNe_FQ, FQ_01, List.append_assoc, List.length_append, Nat.add_assoc, get_at, get_at0, Nat.reduceLeDiff, asO_int, Res.bind_ok, b1_ok, b2_ok, bAnd_ok, bOr_ok, bNot_ok, bAndV_ok, bNotV_ok, bIf_ok, bC_ok, bC1_ok, bM_ok, bM1_ok, bSl_ok, bSl1_ok, bSl2_ok, kAsg_ok, bG_ok, bS1_ok, bS2_ok, bS3_ok, kSet_ok, kRet_ok, kExp_ok, kIf_ok, kFor_ok, kPar_ok, kPar1_ok, SR.seq_nx, SR.seq_rt, SR.fin_rt, toS_ok, slAt_some, optR_some, asB_bl, asT_bl, dAdd_ii, dSub_ii, dLt_ii, dGt_ii, dGe_ii, bMax2_ii, bLen_r, dIx_t, dIx_r, at_0, at_1, at_2, dEq_ii, iSeq_t, List.map, List.length_cons, List.length_nil, List.replicate_succ, List.replicate_zero, List.cons_append, List.nil_append, List.append_nil, List.getElem?_cons_zero, List.getElem?_cons_succ, List.set_cons_zero, List.set_cons_succ, Nat.reduceSub, Nat.reduceAdd, Nat.sub_self, Bool.not_true, Bool.not_false, if_true, if_false, reduceIte, Bool.false_eq_true, decide_true, decide_false])
theorem p_fraction {n d : Int} {h : Hd} (hn : 0 ≤ n) (hd : 1 ≤ d) (hz : Sz 8000 d) : F_p_fraction [.int n, .int d] h = .ok (.tup [.int (n / Int.gcd n d), .int (d / Int.gcd n d)]) h := by
  have gp : (0 : Int) < (Int.gcd n d : Int) := by
    have : 0 < Int.gcd n d := Int.gcd_pos_of_ne_zero_right n (by omega)
    omega
  have gl : ((Int.gcd n d : Nat) : Int) ≤ d := Int.le_of_dvd (by omega) (Int.gcd_dvd_right n d)
  have gz : Sz 8000 ((Int.gcd n d : Nat) : Int) := by unfold Sz at *; omega
  simp only [F_p_fraction, B_p_fraction]
  walk_at "ev"
  rw [p_common hn (by omega)]
  walk_at "ev"
  rw [dDiv_ok (DivOk.of gp gz (by decide))]
  walk_at "ev"
  rw [dDiv_ok (DivOk.of gp gz (by decide))]
  walk_at "ev"
  exact gc_same (by simp only [lo_tup, lo_cons, lo_int, lo_nil]; rfl)
theorem p_fractionQ {n d : Int} {h : Hd} (hn : 0 ≤ n) (hd : 1 ≤ d) (hz : Sz 8000 d) : F_p_fraction [.int n, .int d] h = .ok (FQ (Rat.divInt n d)) h := by
  rw [p_fraction hn hd hz, FQ_divInt hd]
theorem find_nm {ts : List Tie} {t : Tie} (nd : (ts.map Tie.nm).Nodup) (ht : t ∈ ts) : ts.find? (fun z => decide (z.nm = t.nm)) = some t := find_mem nd ht
def lateB (y : Rat) (q : Rq) : Bool := decide (q.2.1 < y)
def mayB (ws : List Pl) (y : Rat) (t : Tie) : Bool := decide (t.a ∈ ws) && t.rs.all (lateB y)
theorem p_may_come_again_ok {h : Hd} {n : Nat} {x : D} {ts : List Tie} {ws : List Pl} {t : Tie} {y : Rat} (q : Ob h n (.dK (tiesK ts))) (nd : (ts.map Tie.nm).Nodup) (ht : t ∈ ts) (hw : ∀ w ∈ ws, Tx w) (ta : NmOk t.a) (o : ∀ q ∈ t.rs, SzQ 40 q.2.1) (ln : t.rs.length ≤ 20) (zy : SzQ 40 y) (lx : ∀ h : Hd, Lw h x) :
    F_p_may_come_again [.tup [x, .tup (ws.map T), .ref n], T t.nm, FQ y] h = .ok (.bl (mayB ws y t)) h := by
  have ia : Nm t.a := ⟨ta⟩
  have iy : ZQ 40 y := ⟨zy⟩
  have fm := find_nm nd ht
  simp only [F_p_may_come_again, B_p_may_come_again]
  walk_at "evj"
  rw [fm]
  walk_at "evj"
  rw [dIn_Tt hw]
  walk_at "evj"
  unfold mayB
  by_cases c : t.a ∈ ws
  · rw [decide_eq_true c]
    walk_at "evj"
    rw [kLc_all (xs := t.rs) (h := h) (f := fun q => D.bl (lateB y q)) (by omega) (fun _ => trivial) (fun q hq acc => ⟨_, rfl, rfl, by
      have iq : ZQ 40 q.2.1 := ⟨o q hq⟩
      walk_at "evj"
      rfl⟩)]
    walk_at "evj"
  · rw [decide_eq_false c]
    walk_at "evj"
theorem p_ride_has_ok {q : Rq} {t : Rat} {h : Hd} {k m : Nat} (hk : k + m ≤ 7999) (z : SzQ k q.1 ∧ SzQ k q.2.1) (zt : SzQ m t) : F_p_ride_has [QdD q, FQ t] h = .ok (.bl (rdHas q t)) h := by
  have i1 : ZQ k q.1 := ⟨z.1⟩
  have i2 : ZQ k q.2.1 := ⟨z.2⟩
  have i3 : ZQ m t := ⟨zt⟩
  simp only [F_p_ride_has, B_p_ride_has]
  walk_at "evj"
  unfold rdHas
  walk_at "evj"
theorem mIns_at {A B : List Rat} {h : Hd} {x : Rat} (hl : (A ++ B).length ≤ 999990) : mIns (.ref h.length) [.int (A.length : Int), FQ x] (h ++ [.lst ((A ++ B).map FQ)]) = .ok .non (h ++ [.lst ((A ++ x :: B).map FQ)]) := by
  rw [List.length_append] at hl
  rw [mIns_I (xs := (A ++ B).map FQ) (by rw [List.length_map, List.length_append]; omega) (by omega) (by omega), List.set_append_right _ _ (Nat.le_refl _), Nat.sub_self, List.set_cons_zero, ← List.map_take, ← List.map_drop, Int.toNat_natCast, List.take_left, List.drop_left]
  simp
theorem p_in_turn_ok {n k : Nat} {M : List Rat} {h : Hd} [q : Ls h n (M.map FQ)] (hk : k ≤ 3900) (hl : M.length ≤ 999990) (gM : ∀ x ∈ M, SzQ k x) : F_p_in_turn [.ref n] h = .ok (.ref h.length) (h ++ [.lst ((inTurn M).map FQ)]) := by
  simp only [F_p_in_turn, B_p_in_turn]
  walk_at "evj"
  generalize hR : forD _ _ _ _ _ _ = R
  obtain ⟨s2, h2, rfl, rfl, rfl⟩ := forD_go hR (fun pre s H => s = [some (.ref n), some (.ref h.length), none, none] ∧ H = h ++ [.lst ((inTurn pre).map FQ)]) ⟨rfl, rfl⟩ (fun pre s H ⟨_, e⟩ => by rw [e]; exact Ls.q) (fun pre x post s H hx ⟨e, eH⟩ => by
    subst e eH
    have zx := gM x (by rw [hx]; simp)
    have ix : ZQ k x := ⟨zx⟩
    have srt := inTurn_sorted pre
    have len : (inTurn pre).length ≤ 999990 := Nat.le_trans (inTurn_len pre) (by have := congrArg List.length hx; simp at this; omega)
    have zL : ∀ z ∈ inTurn pre, SzQ k z := fun z hz => gM z (by rw [hx]; exact List.mem_append_left _ (inTurn_mem.mp hz))
    have eS : inTurn (pre ++ [x]) = insU (inTurn pre) x := by unfold inTurn; rw [List.foldl_append]; rfl
    rw [eS]
    generalize inTurn pre = L at *
    walk_at "evj"
    generalize hW : sWhile _ _ _ _ = W
    obtain ⟨A, B, eL, hA, hB, rfl⟩ : ∃ A B, L = A ++ B ∧ (∀ z ∈ A, z ≤ x) ∧ (∀ z ∈ B, x < z) ∧ W = .nx [some (.ref n), some (.ref h.length), some (FQ x), some (.int (A.length : Int))] (h ++ [.lst (L.map FQ)]) := by
      rw [← hW]
      have key : ∀ (A B : List Rat), L = A ++ B → (∀ z ∈ B, x < z) → ∃ A' B', L = A' ++ B' ∧ (∀ z ∈ A', z ≤ x) ∧ (∀ z ∈ B', x < z) ∧
          sWhile (tAnd' (tB' (e2 dGt (eV 3) (eC (.int 0)))) (tTr (eA (eF 2 F_p_is_below) (aC (eV 2) (aC (e2 dIx (eV 1) (e2 dSub (eV 3) (eC (.int 1)))) aN))))) (sG (sSet 3 (e2 dSub (eV 3) (eC (.int 1))))) [some (.ref n), some (.ref h.length), some (FQ x), some (.int (A.length : Int))] (h ++ [.lst (L.map FQ)]) =
          .nx [some (.ref n), some (.ref h.length), some (FQ x), some (.int (A'.length : Int))] (h ++ [.lst (L.map FQ)]) := by
        intro A
        induction A using snoc_rec with
        | h0 =>
          intro B eL hB
          refine ⟨[], B, eL, by simp, hB, while_end ?_⟩
          walk_at "evj"
          rfl
        | h1 A a ih =>
          intro B eL hB
          have za : ZQ k a := ⟨zL a (by rw [eL]; simp)⟩
          have ea : atI (L.map FQ) (A.length : Int) = some (FQ a) := by
            rw [at_nat (by rw [List.length_map, eL]; simp)]
            simp [eL]
          have pos : decide (0 < ((A.length + 1 : Nat) : Int)) = true := decide_eq_true (by omega)
          by_cases c : x < a
          · obtain ⟨A', B', e1, e2, e3, e4⟩ := ih ([a] ++ B) (by rw [eL]; simp) (fun z hz => by
              rcases List.mem_append.mp hz with hz | hz
              · rw [List.mem_singleton.mp hz]; exact c
              · exact hB z hz)
            refine ⟨A', B', e1, e2, e3, ?_⟩
            rw [while_step (s2 := [some (.ref n), some (.ref h.length), some (FQ x), some (.int (A.length : Int))]) (h2 := h ++ [.lst (L.map FQ)]) (h1 := h ++ [.lst (L.map FQ)]) ?_ ?_, e4]
            · walk_at "evj"
              rw [pos]
              walk_at "evj"
              rw [ea]
              walk_at "evj"
              rw [decide_eq_true c]
            · walk_at "evj"
          · refine ⟨A ++ [a], B, eL, fun z hz => ?_, hB, while_end ?_⟩
            · rw [eL] at srt
              rcases List.mem_append.mp hz with hz | hz
              · rw [List.append_assoc, List.pairwise_append] at srt
                have := srt.2.2 z hz a (by simp)
                grind
              · rw [List.mem_singleton.mp hz]; exact Rat.not_lt.mp c
            · walk_at "evj"
              rw [pos]
              walk_at "evj"
              rw [ea]
              walk_at "evj"
              rw [decide_eq_false c]
      have := key L [] (by simp) (by simp)
      rw [List.length_map]
      exact this
    clear hW
    walk_at "evj"
    have ins := insU_at (x := x) (A := A) (B := B) (by rw [← eL]; exact srt) hA hB
    rw [eL, ins]
    rcases List.eq_nil_or_concat A with rfl | ⟨A', a, rfl⟩
    · rw [if_neg (c := ([] : List Rat).getLast? = some x) (by simp), show ((([] : List Rat).length : Nat) : Int) = 0 from rfl, List.nil_append]
      walk_at "evj"
      rw [show mIns (.ref h.length) [.int 0, FQ x] (h ++ [.lst (B.map FQ)]) = .ok .non (h ++ [.lst (FQ x :: B.map FQ)]) from mIns_at (A := []) (by rw [eL] at len; exact len)]
      walk_at "evj"
      exact ⟨_, _, rfl, rfl, rfl⟩
    · rw [List.concat_eq_append] at *
      have ea : atI ((A' ++ a :: B).map FQ) (A'.length : Int) = some (FQ a) := by
        rw [at_nat (by rw [List.length_map]; simp)]
        simp
      have n0 : decide (((A'.length + 1 : Nat) : Int) = 0) = false := decide_eq_false (by omega)
      have za : ZQ k a := ⟨zL a (by rw [eL]; simp)⟩
      have lA : ((A'.length + 1 : Nat) : Int) < 1000000 := by rw [eL] at len; simp at len ⊢; omega
      have l0 : 0 ≤ ((A'.length + 1 : Nat) : Int) := by omega
      have lM : (A' ++ a :: B).length ≤ 999990 := by rw [eL] at len; simpa using len
      have ei : (if (A' ++ [a]).getLast? = some x then A' ++ [a] ++ B else A' ++ [a] ++ x :: B) = if a = x then A' ++ a :: B else A' ++ a :: x :: B := by
        by_cases c : a = x
        · rw [if_pos c, if_pos (by simp [c])]
          simp
        · rw [if_neg c, if_neg (by simp [c])]
          simp
      rw [ei]
      walk_at "evj"
      rw [n0]
      walk_at "evj"
      rw [ea]
      walk_at "evj"
      by_cases c : a = x
      · rw [decide_eq_true c, if_pos c]
        walk_at "evj"
        exact ⟨_, _, rfl, rfl, rfl⟩
      · rw [decide_eq_false c, if_neg c]
        walk_at "evj"
        have mi := mIns_at (A := A' ++ [a]) (B := B) (x := x) (h := h) (by rw [eL] at len; exact len)
        rw [show A' ++ [a] ++ B = A' ++ a :: B by simp, show A' ++ [a] ++ x :: B = A' ++ a :: x :: B by simp, show (A' ++ [a]).length = A'.length + 1 by simp] at mi
        rw [mi]
        walk_at "evj"
        exact ⟨_, _, rfl, rfl, rfl⟩)
  clear hR
  walk_at "evj"
theorem p_soonest_place_ok {h : Hd} {n k m : Nat} {b : PapS} {left : List Pl} (qb : Ob h n (.dK (dctP PvD b))) (ql : Ls h k (left.map T)) (hl : left ≠ []) (ll : left.length ≤ 1000) (lk : ∀ p ∈ left, Tx p ∧ ∃ v, getP b p = some v ∧ SzQ m v.1) (hm : m ≤ 3900) :
    ∃ p ∈ left, (∃ y, getP b p = some y ∧ ∀ q ∈ left, ∀ z, getP b q = some z → y.1 ≤ z.1) ∧ F_p_soonest_place [.ref n, .ref k] h = .ok (T p) h := by
  simp only [F_p_soonest_place, B_p_soonest_place]
  walk_at "evj"
  generalize hR : forD _ _ _ _ _ _ = R
  obtain ⟨s2, h2, rfl, c, rfl, rfl, hc, hp⟩ := forD_go hR (fun pre s H => ∃ c : Option Pl, s = [some (.ref n), some (.ref k), some (optT c), none] ∧ H = h ∧ (c = none → pre = []) ∧ ∀ p, c = some p → p ∈ pre ∧ ∃ y, getP b p = some y ∧ ∀ q ∈ pre, ∀ z, getP b q = some z → y.1 ≤ z.1)
    ⟨none, rfl, rfl, fun _ => rfl, fun p hp => by cases hp⟩ (fun _ _ _ ⟨_, _, e, _⟩ => by rw [e]; exact ql.q) (fun pre p post s H hx ⟨c, e, eH, hc, hp⟩ => by
    subst e eH
    obtain ⟨tp, v, hv, zv⟩ := lk p (by rw [hx]; simp)
    cases c with
    | none =>
      rw [optT_none_I]
      walk_at "evj"
      rw [hc rfl]
      refine ⟨_, _, rfl, some p, rfl, rfl, (fun e => by cases e), fun p' e => ?_⟩
      cases e
      refine ⟨by simp, v, hv, fun q hq z hz => ?_⟩
      rw [List.nil_append, List.mem_singleton] at hq
      rw [hq, hv] at hz
      cases hz
      exact Rat.le_refl
    | some r =>
      obtain ⟨hr, y, hy, le⟩ := hp r rfl
      obtain ⟨tr, v', hv', zv'⟩ := lk r (by rw [hx]; simp [hr])
      rw [hy] at hv'
      cases hv'
      have iv : ZQ m v.1 := ⟨zv⟩
      have iy : ZQ m y.1 := ⟨zv'⟩
      rw [optT_some_I]
      walk_at "evj"
      rw [hv]
      walk_at "evj"
      rw [hy]
      walk_at "evj"
      by_cases c : v.1 < y.1
      · rw [decide_eq_true c]
        walk_at "evj"
        refine ⟨_, _, rfl, some p, rfl, rfl, (fun e => by cases e), fun p' e => ?_⟩
        cases e
        refine ⟨by simp, v, hv, fun q hq z hz => ?_⟩
        rcases List.mem_append.mp hq with hq | hq
        · exact Rat.le_trans (Rat.le_of_lt c) (le q hq z hz)
        · rw [List.mem_singleton.mp hq, hv] at hz
          cases hz
          exact Rat.le_refl
      · rw [decide_eq_false c]
        walk_at "evj"
        refine ⟨_, _, rfl, some r, rfl, rfl, (fun e => by cases e), fun p' e => ?_⟩
        cases e
        refine ⟨by simp [hr], y, hy, fun q hq z hz => ?_⟩
        rcases List.mem_append.mp hq with hq | hq
        · exact le q hq z hz
        · rw [List.mem_singleton.mp hq, hv] at hz
          cases hz
          grind)
  clear hR
  cases c with
  | none => exact absurd (hc rfl) hl
  | some p =>
    obtain ⟨h1, y, h2, h3⟩ := hp p rfl
    refine ⟨p, h1, ⟨y, h2, h3⟩, ?_⟩
    rw [optT_some_I]
    walk_at "evj"
theorem add_eq {x y : Rat} : Rat.divInt (x.num * (y.den : Int) + y.num * (x.den : Int)) ((x.den : Int) * (y.den : Int)) = x + y := by
  have hx : ((x.den : Int) : Int) ≠ 0 := by have := x.den_pos; omega
  have hy : ((y.den : Int) : Int) ≠ 0 := by have := y.den_pos; omega
  rw [← Rat.divInt_add_divInt _ _ hx hy, Rat.num_divInt_den, Rat.num_divInt_den]
theorem more_ok {x y : Rat} {h : Hd} {k : Nat} (x0 : 0 ≤ x) (y0 : 0 ≤ y) (zx : SzQ k x) (zy : SzQ k y) (hk : k ≤ 1000) : F_more [FQ x, FQ y] h = .ok (FQ (x + y)) h := by
  have ix : ZQ k x := ⟨zx⟩
  have iy : ZQ k y := ⟨zy⟩
  have n1 := Rat.num_nonneg.mpr x0
  have n2 := Rat.num_nonneg.mpr y0
  have d1 : (1 : Int) ≤ (x.den : Int) := by have := x.den_pos; omega
  have d2 : (1 : Int) ≤ (y.den : Int) := by have := y.den_pos; omega
  simp only [F_more, B_more]
  walk_at "evj"
  rw [low_ok (Int.add_nonneg (Int.mul_nonneg n1 (by omega)) (Int.mul_nonneg n2 (by omega))) (by have := Int.mul_le_mul d1 d2 (by omega) (by omega); omega) ((zx.2.mul zy.2).mono (show k + k ≤ 2 * k by omega)) (by omega), add_eq]
  walk_at "evj"
theorem lowQ_ok {d a b e f : Int} {h : Hd} {x0 x2 x3 x4 x5 x6 x7 x8 : Option D} (o : 0 ≤ a ∧ 0 ≤ b ∧ 0 ≤ e ∧ 0 ≤ f) (fd : Fa (1 ≤ d)) (zd : ZI 4 d) :
    (Res.ok ([D.int a, D.int b, D.int e, D.int f], fun _ : Hd => True) h).kLc (gN 8) tT (eA (eF 2 F_low) (aC (eV 8) (aC (eV 1) aN))) [8] [x0, some (.int d), x2, x3, x4, x5, x6, x7, x8] = .ok (.ref h.length) (h ++ [.lst [FQ (Rat.divInt a d), FQ (Rat.divInt b d), FQ (Rat.divInt e d), FQ (Rat.divInt f d)]]) := by
  refine kLc_all (h := h) (chk := fun _ => True) (emb := D.int) (xs := [a, b, e, f]) (fun z => FQ (Rat.divInt z d)) (by simp) (fun _ => trivial) (fun z hz acc => ?_)
  have f0 : Fa (0 ≤ z) := ⟨by
    simp only [List.mem_cons, List.not_mem_nil, or_false] at hz
    rcases hz with rfl | rfl | rfl | rfl <;> omega⟩
  refine ⟨_, rfl, rfl, ?_⟩
  walk_at "evj"
theorem rides_okY {p : Nat} {d : Int} {h : Hd} {c : PS} (v : PotI c) (pl : PL p h) (d1 : 1 ≤ d) (d2 : d ≤ 4) : ∃ (us : List Ru) (c' : PS), PotI c' ∧ (∀ u ∈ us, RuOk 1000 u ∧ u.2.1 ≤ 36) ∧ us.length ≤ 4 ∧ F_rides [.ref p, .int d] (HP h p c) = .ok (RdsD (us.map (uR d))) (HP h p c') := by
  have fd : Fa (1 ≤ d) := ⟨d1⟩
  have zd : ZI 4 d := ⟨Sz.of (by omega) (by omega)⟩
  have b0 := wkV_bd (c := c) (m := 3) (by decide)
  have v0 : PotI (wkC c 3) := inferInstance
  simp only [F_rides, B_rides]
  walk_at "evj"
  generalize wkV c 3 = n0 at b0 ⊢
  generalize wkC c 3 = cz at v0 ⊢
  obtain ⟨m, hm, em⟩ : ∃ m : Int, (1 ≤ m ∧ m ≤ 5) ∧ atI [D.int 3, D.int 3, D.int 5] n0 = some (.int m) := by
    have : n0 = 0 ∨ n0 = 1 ∨ n0 = 2 := by omega
    rcases this with rfl | rfl | rfl
    · exact ⟨3, by omega, rfl⟩
    · exact ⟨3, by omega, rfl⟩
    · exact ⟨5, by omega, rfl⟩
  rw [em]
  have fm : Fa (1 ≤ m) := ⟨hm.1⟩
  have zm : ZI 4 m := ⟨Sz.of (by omega) (by omega)⟩
  have b0' := wkV_bd (c := cz) (m := m) hm.1
  have v0' : PotI (wkC cz m) := inferInstance
  walk_at "evj"
  generalize wkV cz m = n0 at b0' ⊢
  generalize wkC cz m = c0 at v0' ⊢
  generalize hR : forD _ _ _ _ _ _ = R
  obtain ⟨s2, h2, rfl, us, c2, v2, ou, lu, rfl, rfl⟩ := forD_go (xs := List.range n0.toNat) (emb := fun i : Nat => D.int (i : Int)) hR (fun pre s H => ∃ (us : List Ru) (c2 : PS), PotI c2 ∧ (∀ u ∈ us, RuOk 1000 u ∧ u.2.1 ≤ 36) ∧ us.length ≤ pre.length ∧ s = [some (.ref p), some (.int d), some (.ref h.length), none, none, none, none, none, none] ∧ H = HP h p c2 ++ [.lst (us.map fun u => QdD (uR d u))])
    ⟨[], c0, v0', by simp, Nat.le_refl _, rfl, rfl⟩ (fun _ _ _ _ => trivial) (fun pre x post s H hx ⟨us, c2, v2, ou, lu, es, eH⟩ => by
    subst es eH
    have lp := congrArg List.length hx
    simp only [List.length_range, List.length_append, List.length_cons] at lp
    have b1 := wkV_bd (c := c2) (m := 24) (by decide)
    have v1 : PotI (wkC c2 24) := inferInstance
    rw [ev_turn_I]
    generalize hK : sSeq (sSet 5 _) _ = K
    walk_at "evj"
    generalize wkV c2 24 = x1 at b1 ⊢
    generalize wkC c2 24 = c3 at v1 ⊢
    have b2 := wkV_bd (c := c3) (m := 12) (by decide)
    have v3 : PotI (wkC c3 12) := inferInstance
    subst hK
    generalize hK : sSeq (sSet 6 _) _ = K
    walk_at "evj"
    generalize wkV c3 12 = x2 at b2 ⊢
    generalize wkC c3 12 = c4 at v3 ⊢
    have b3 := wkV_bd (c := c4) (m := 2) (by decide)
    have v4 : PotI (wkC c4 2) := inferInstance
    generalize wkV c4 2 = x3 at b3 ⊢
    generalize wkC c4 2 = c5 at v4 ⊢
    have g2 : 0 ≤ x2 * x3 ∧ x2 * x3 < 12 := by
      have : x3 = 0 ∨ x3 = 1 := by omega
      rcases this with rfl | rfl <;> omega
    generalize x2 * x3 = y2 at g2 ⊢
    have b5 := wkV_bd (c := c5) (m := 40) (by decide)
    have v5 : PotI (wkC c5 40) := inferInstance
    subst hK
    generalize hK : sSeq (sSet 7 _) _ = K
    walk_at "evj"
    generalize wkV c5 40 = x4 at b5 ⊢
    generalize wkC c5 40 = c6 at v5 ⊢
    have b6 := wkV_bd (c := c6) (m := 40) (by decide)
    have v6 : PotI (wkC c6 40) := inferInstance
    subst hK
    generalize hK : sSeq (sIf _ _ _) _ = K
    walk_at "evj"
    generalize wkV c6 40 = x5 at b6 ⊢
    generalize wkC c6 40 = c7 at v6 ⊢
    subst hK
    generalize hK : sExpr _ = K
    walk_at "evj"
    have fin : ∀ cm : Int, 0 ≤ cm → cm < 100 → x1 ≤ x1 + y2 → RuOk 1000 (x1, x1 + y2, x1 + x4, cm) → ∀ ss : Sl, ss = [some (.ref p), some (.int d), some (.ref h.length), some (.int (x : Int)), some (.int x1), some (.int (x1 + y2)), some (.int (x1 + x4)), some (.int cm), none] → K ss (HP h p c7 ++ [.lst (us.map fun u => QdD (uR d u))]) = .nx ss (HP h p c7 ++ [.lst ((us ++ [(x1, x1 + y2, x1 + x4, cm)]).map fun u => QdD (uR d u))]) := fun cm m0 m1 q0 o ss es => by
      subst hK es
      walk_at "evj"
      rw [lowQ_ok ⟨by omega, by omega, by omega, m0⟩ fd zd]
      walk_at "evj"
      rw [List.map_append]
      rfl
    by_cases q : y2 = 0
    · have o : RuOk 1000 (x1, x1 + y2, x1 + x4, x1 + x4) := ⟨b1.1, by simp only; omega, by simp only; omega, by simp only; omega, fun _ => rfl, by simp only; omega, by simp only; omega, by simp only; omega⟩
      have e2 := fin (x1 + x4) (by omega) (by omega) (by omega) o _ rfl
      rw [decide_eq_true (show x1 + y2 = x1 by omega)]
      walk_at "evj"
      rw [e2]
      walk_at "evj"
      refine ⟨_, _, rfl, us ++ [_], c7, v6, fun u hu => ?_, by simp; omega, rfl, rfl⟩
      rcases List.mem_append.mp hu with hu | hu
      · exact ou u hu
      · rw [List.mem_singleton.mp hu]; exact ⟨o, by simp only; omega⟩
    · have o : RuOk 1000 (x1, x1 + y2, x1 + x4, x1 + y2 + x5) := ⟨b1.1, by simp only; omega, by simp only; omega, by simp only; omega, fun e => by simp only at e; omega, by simp only; omega, by simp only; omega, by simp only; omega⟩
      have e2 := fin (x1 + y2 + x5) (by omega) (by omega) (by omega) o _ rfl
      rw [decide_eq_false (show ¬ x1 + y2 = x1 by omega)]
      walk_at "evj"
      rw [e2]
      walk_at "evj"
      refine ⟨_, _, rfl, us ++ [_], c7, v6, fun u hu => ?_, by simp; omega, rfl, rfl⟩
      rcases List.mem_append.mp hu with hu | hu
      · exact ou u hu
      · rw [List.mem_singleton.mp hu]; exact ⟨o, by simp only; omega⟩)
  clear hR
  walk_at "evj"
  refine ⟨us, c2, v2, ou, by rw [List.length_range] at lu; omega, ?_⟩
  unfold RdsD
  rw [List.map_map]
  rfl
theorem neQd_nil {h : Hd} {n m : Nat} {ls : List Rq} [q1 : Ls h n (ls.map QdD)] [q2 : Ls h m []] : dNe (.ref n) (.ref m) h = .ok (.bl (!decide (ls = []))) h := by
  have a : (ls.map QdD).all (D.pl 2) = true := by
    rw [List.all_map, List.all_eq_true]
    intro w hw
    exact pl_Qd (n := 0)
  show dEqn true _ _ h = _
  rw [eqn_lst (neg := true) (k := 2) (by decide) a rfl]
  cases ls <;> simp
theorem first_wrong_ok {h : Hd} {n : Nat} {x : D} {ts : List Tie} {ws : List Pl} {y : Rat} (q : Ob h n (.dK (tiesK ts))) (nd : (ts.map Tie.nm).Nodup) (lt : ts.length ≤ 10) (nm : ∀ t ∈ ts, NmOk t.nm ∧ NmOk t.a) (hw : ∀ w ∈ ws, Tx w) (o : ∀ t ∈ ts, ∀ q ∈ t.rs, RqOk 40 q) (ln : ∀ t ∈ ts, t.rs.length ≤ 20) (zy : SzQ 40 y) (lx : ∀ h : Hd, Lw h x) :
    F_first_wrong [.tup [x, .tup (ws.map T), .ref n], FQ y] h = .ok (T (((tiesBy ts (sortN (ts.map Tie.nm))).find? fun t => !mayB ws y t).map Tie.nm |>.getD [])) h := by
  have iy : ZQ 40 y := ⟨zy⟩
  have lo1 : ∀ w ∈ sortN (ts.map Tie.nm), w ∈ ts.map Tie.nm := fun w hw => sortN_perm.mem_iff.mp hw
  have eN := tiesBy_nm lo1 nd
  have S1 : ∀ t ∈ tiesBy ts (sortN (ts.map Tie.nm)), t ∈ ts := fun t ht => tiesBy_mem ht
  generalize tiesBy ts (sortN (ts.map Tie.nm)) = L at *
  have hTE : (sortN (ts.map Tie.nm)).map T = L.map fun t => T t.nm := by
    rw [← eN, List.map_map]
    rfl
  simp only [F_first_wrong, B_first_wrong]
  walk_at "evj"
  rw [bSortT_d (by omega), hTE]
  walk_at "evj"
  generalize hR : forD _ _ _ _ _ _ = R
  have key := forD_till (xs := L) (emb := fun t => T t.nm) hR (fun pre s H => (∀ t ∈ pre, mayB ws y t = true) ∧ s = [some (D.tup [x, D.tup (List.map T ws), D.ref n]), some (FQ y), none, none, none, none, none] ∧ H = h ++ [.lst (L.map fun t => T t.nm)])
    (fun r => ∃ t, (L.find? fun t => !mayB ws y t) = some t ∧ r = .rt (T t.nm) (h ++ [.lst (L.map fun t => T t.nm)])) ⟨by simp, rfl, rfl⟩ (fun _ s H ⟨_, _, e⟩ => by rw [e]; exact Ls.q) (fun pre t post s H hx ⟨hp, e1, eH⟩ => by
    subst e1 eH
    have ht : t ∈ ts := S1 t (by rw [hx]; simp)
    have it : Nm t.a := ⟨(nm t ht).2⟩
    have ot := o t ht
    have lt2 := ln t ht
    have fm := find_nm nd ht
    walk_at "evj"
    rw [fm]
    walk_at "evj"
    rw [dIn_Tt hw]
    have find : ∀ b, mayB ws y t = b → (b = false → (L.find? fun t => !mayB ws y t) = some t) ∧ (b = true → ∀ u ∈ pre ++ [t], mayB ws y u = true) := fun b hb => ⟨fun e => by
      rw [hx, List.find?_append, List.find?_eq_none.mpr (fun u hu => by rw [hp u hu]; decide), Option.none_or, List.find?_cons, hb, e]
      rfl, fun e u hu => by
      rcases List.mem_append.mp hu with hu | hu
      · exact hp u hu
      · rw [List.mem_singleton.mp hu, hb, e]⟩
    have live : (h ++ [MO.lst (L.map fun t => T t.nm)]).length = h.length + 1 := by simp
    by_cases c : t.a ∈ ws
    · rw [decide_eq_true c]
      walk_at "evj"
      rw [kLc_map (xs := t.rs) (h := h ++ [MO.lst (L.map fun t => T t.nm)]) (p := fun q => !lateB y q) (f := QdD) (by omega) (fun _ => trivial) (fun q hq acc => ⟨_, rfl, by
        have iq : ZQ 40 q.2.1 := ⟨(ot q hq).z.2.1⟩
        walk_at "evj"
        rfl, fun _ => by walk_at "evj"⟩)]
      walk_at "evj"
      have qa : Ls (h ++ [MO.lst (L.map fun t => T t.nm), MO.lst ((t.rs.filter fun q => !lateB y q).map QdD), MO.lst []]) (h.length + 1) ((t.rs.filter fun q => !lateB y q).map QdD) := ⟨by rw [get_at]; rfl⟩
      have qb : Ls (h ++ [MO.lst (L.map fun t => T t.nm), MO.lst ((t.rs.filter fun q => !lateB y q).map QdD), MO.lst []]) (h.length + 2) [] := ⟨by rw [get_at]; rfl⟩
      rw [neQd_nil (q1 := qa) (q2 := qb)]
      have em : decide (t.rs.filter (fun q => !lateB y q) = []) = mayB ws y t := by
        unfold mayB
        rw [decide_eq_true c, Bool.true_and, Bool.eq_iff_iff, decide_eq_true_eq, List.filter_eq_nil_iff, List.all_eq_true]
        constructor
        · intro w q hq
          have := w q hq
          simpa using this
        · intro w q hq
          simp [w q hq]
      rw [em]
      cases hb : mayB ws y t with
      | false =>
        walk_at "evj"
        exact ⟨t, (find _ hb).1 rfl, rfl⟩
      | true =>
        walk_at "evj"
        exact ⟨(find _ hb).2 rfl, rfl, rfl⟩
    · rw [decide_eq_false c]
      walk_at "evj"
      have hb : mayB ws y t = false := by
        unfold mayB
        rw [decide_eq_false c, Bool.false_and]
      exact ⟨t, (find _ hb).1 rfl, rfl⟩)
  clear hR
  rcases key with ⟨s2, h2, rfl, ha, rfl, rfl⟩ | ⟨t, ht, rfl⟩
  · rw [List.find?_eq_none.mpr (fun u hu => by rw [ha u hu]; decide)]
    walk_at "evj"
    rfl
  · rw [ht]
    walk_at "evj"
    rfl
theorem p_plus {a b : Rat} {h : Hd} {k l : Nat} (ha : 0 ≤ a) (hb : 0 ≤ b) (x : SzQ k a) (y : SzQ l b) (hk : k + l ≤ 7999) : F_p_plus [FQ a, FQ b] h = .ok (FQ (a + b)) h := by
  simp only [F_p_plus, B_p_plus]
  walk_at "ev"
  simp only [dIx_FQ0, dIx_FQ1]
  walk_at "ev"
  simp only [dIx_FQ0, dIx_FQ1]
  walk_at "ev"
  rw [dMul_ok (MulOk.of x.1 y.2 (by omega))]
  walk_at "ev"
  simp only [dIx_FQ0, dIx_FQ1]
  walk_at "ev"
  simp only [dIx_FQ0, dIx_FQ1]
  walk_at "ev"
  rw [dMul_ok (MulOk.of y.1 x.2 (by omega))]
  walk_at "ev"
  simp only [dIx_FQ0, dIx_FQ1]
  walk_at "ev"
  simp only [dIx_FQ0, dIx_FQ1]
  walk_at "ev"
  rw [dMul_ok (MulOk.of x.2 y.2 (by omega))]
  walk_at "ev"
  have p1 := Int.mul_nonneg (num_nonneg ha) (show (0 : Int) ≤ b.den by omega)
  have p2 := Int.mul_nonneg (num_nonneg hb) (show (0 : Int) ≤ a.den by omega)
  rw [p_fractionQ (by omega) (den_mul a b) ((x.2.mul y.2).mono (by omega)), ← add_divInt]
  walk_at "ev"
  exact gc_same lo_FQ
theorem p_plus_I {a b : Rat} {h : Hd} {k l : Nat} [ha : Fa (0 ≤ a)] [hb : Fa (0 ≤ b)] [x : ZQ k a] [y : ZQ l b] (hk : k + l ≤ 7999) : F_p_plus [FQ a, FQ b] h = .ok (FQ (a + b)) h := p_plus ha.out hb.out x.z y.z hk
theorem p_less {a b : Rat} {h : Hd} {k l : Nat} (hab : b ≤ a) (x : SzQ k a) (y : SzQ l b) (hk : k + l ≤ 7999) : F_p_less [FQ a, FQ b] h = .ok (FQ (a - b)) h := by
  simp only [F_p_less, B_p_less]
  walk_at "ev"
  simp only [dIx_FQ0, dIx_FQ1]
  walk_at "ev"
  simp only [dIx_FQ0, dIx_FQ1]
  walk_at "ev"
  rw [dMul_ok (MulOk.of x.1 y.2 (by omega))]
  walk_at "ev"
  simp only [dIx_FQ0, dIx_FQ1]
  walk_at "ev"
  simp only [dIx_FQ0, dIx_FQ1]
  walk_at "ev"
  rw [dMul_ok (MulOk.of y.1 x.2 (by omega))]
  walk_at "ev"
  simp only [dIx_FQ0, dIx_FQ1]
  walk_at "ev"
  simp only [dIx_FQ0, dIx_FQ1]
  walk_at "ev"
  rw [dMul_ok (MulOk.of x.2 y.2 (by omega))]
  walk_at "ev"
  have p1 := (Rat.le_iff b a).mp hab
  rw [p_fractionQ (by omega) (den_mul a b) ((x.2.mul y.2).mono (by omega)), ← sub_divInt]
  walk_at "ev"
  exact gc_same lo_FQ
theorem p_less_I {a b : Rat} {h : Hd} {k l : Nat} [hab : Fa (b ≤ a)] [x : ZQ k a] [y : ZQ l b] (hk : k + l ≤ 7999) : F_p_less [FQ a, FQ b] h = .ok (FQ (a - b)) h := p_less hab.out x.z y.z hk
theorem p_times {a b : Rat} {h : Hd} {k l : Nat} (ha : 0 ≤ a) (hb : 0 ≤ b) (x : SzQ k a) (y : SzQ l b) (hk : k + l ≤ 7999) : F_p_times [FQ a, FQ b] h = .ok (FQ (a * b)) h := by
  simp only [F_p_times, B_p_times]
  walk_at "ev"
  simp only [dIx_FQ0, dIx_FQ1]
  walk_at "ev"
  simp only [dIx_FQ0, dIx_FQ1]
  walk_at "ev"
  rw [dMul_ok (MulOk.of x.1 y.1 (by omega))]
  walk_at "ev"
  simp only [dIx_FQ0, dIx_FQ1]
  walk_at "ev"
  simp only [dIx_FQ0, dIx_FQ1]
  walk_at "ev"
  rw [dMul_ok (MulOk.of x.2 y.2 (by omega))]
  walk_at "ev"
  rw [p_fractionQ (Int.mul_nonneg (num_nonneg ha) (num_nonneg hb)) (den_mul a b) ((x.2.mul y.2).mono (by omega)), ← mul_divInt]
  walk_at "ev"
  exact gc_same lo_FQ
theorem p_times_I {a b : Rat} {h : Hd} {k l : Nat} [ha : Fa (0 ≤ a)] [hb : Fa (0 ≤ b)] [x : ZQ k a] [y : ZQ l b] (hk : k + l ≤ 7999) : F_p_times [FQ a, FQ b] h = .ok (FQ (a * b)) h := p_times ha.out hb.out x.z y.z hk
theorem p_over {a b : Rat} {h : Hd} {k l : Nat} (ha : 0 ≤ a) (hb : 0 < b) (x : SzQ k a) (y : SzQ l b) (hk : k + l ≤ 7999) : F_p_over [FQ a, FQ b] h = .ok (FQ (a / b)) h := by
  simp only [F_p_over, B_p_over]
  walk_at "ev"
  simp only [dIx_FQ0, dIx_FQ1]
  walk_at "ev"
  simp only [dIx_FQ0, dIx_FQ1]
  walk_at "ev"
  rw [dMul_ok (MulOk.of x.1 y.2 (by omega))]
  walk_at "ev"
  simp only [dIx_FQ0, dIx_FQ1]
  walk_at "ev"
  simp only [dIx_FQ0, dIx_FQ1]
  walk_at "ev"
  rw [dMul_ok (MulOk.of x.2 y.1 (by omega))]
  walk_at "ev"
  rw [p_fractionQ (Int.mul_nonneg (num_nonneg ha) (show (0 : Int) ≤ b.den by omega)) (by have := Int.mul_le_mul (den_pos a) (num_pos hb) (by decide) (by omega); omega) ((x.2.mul y.1).mono (by omega)), ← div_divInt a b hb]
  walk_at "ev"
  exact gc_same lo_FQ
theorem p_over_I {a b : Rat} {h : Hd} {k l : Nat} [ha : Fa (0 ≤ a)] [hb : Fa (0 < b)] [x : ZQ k a] [y : ZQ l b] (hk : k + l ≤ 7999) : F_p_over [FQ a, FQ b] h = .ok (FQ (a / b)) h := p_over ha.out hb.out x.z y.z hk
def evB5 := andB @p_plus_I <| andB @p_less_I <| andB @p_times_I <| @p_over_I
local macro_rules | `(tactic| walk_at "evj") => `(tactic| try simp -implicitDefEqProofs (disch := first | (simp only [List.length_cons, List.length_nil, Nat.reduceAdd, Nat.reduceLeDiff]; done) | exact tyM_I | exact tyM_T | decide | omega | (simp only [List.length_map, List.length_cons, List.length_nil, List.length_append, List.length_replicate, List.length_take, List.length_dropLast]; omega) | assumption) only [evB1, evB2, evB4, evB5, Bool.false_xor, Bool.true_xor, beq_self_eq_true, Bool.true_and, Bool.and_true, Bool.false_and, Bool.and_false, Bool.true_or, Bool.or_true, Bool.false_or, Bool.or_false, Int.reduceToNat, Int.reducePow, Int.reduceSub, Int.reduceAdd, Int.reduceNeg, Int.reduceMul, List.singleton_append, k_NO_TIE, dIx_FQ0, dIx_FQ1, dEq_FQ, dNe_FQ, FQ_01, List.append_assoc, List.length_append, Nat.add_assoc, get_at, get_at0, Nat.reduceLeDiff, asO_int, Res.bind_ok, b1_ok, b2_ok, bAnd_ok, bOr_ok, bNot_ok, bAndV_ok, bNotV_ok, bIf_ok, bC_ok, bC1_ok, bM_ok, bM1_ok, bSl_ok, bSl1_ok, bSl2_ok, kAsg_ok, bG_ok, bS1_ok, bS2_ok, bS3_ok, kSet_ok, kRet_ok, kExp_ok, kIf_ok, kFor_ok, kPar_ok, kPar1_ok, SR.seq_nx, SR.seq_rt, SR.fin_rt, toS_ok, slAt_some, optR_some, asB_bl, asT_bl, dAdd_ii, dSub_ii, dLt_ii, dGt_ii, dGe_ii, bMax2_ii, bLen_r, dIx_t, dIx_r, at_0, at_1, at_2, dEq_ii, iSeq_t, List.map, List.length_cons, List.length_nil, List.replicate_succ, List.replicate_zero, List.cons_append, List.nil_append, List.append_nil, List.getElem?_cons_zero, List.getElem?_cons_succ, List.set_cons_zero, List.set_cons_succ, Nat.reduceSub, Nat.reduceAdd, Nat.sub_self, Bool.not_true, Bool.not_false, if_true, if_false, reduceIte, Bool.false_eq_true, decide_true, decide_false])
structure TuY (tk ws : List Pl) (t : Tu) : Prop where
  nm : NmOk t.nm
  a : t.a ∈ tk
  b : t.b ∈ tk
  ab : t.a ≠ t.b
  us : ∀ u ∈ t.us, RuOk 1000 u
  ln : t.us.length ≤ 4
abbrev ABCD : List Pl := [[97], [98], [99], [100]]
abbrev SQRPT : List Pl := [[115], [113], [114], [112], [116]]
structure Nu.OkY (N : Nu) : Prop where
  d1 : 1 ≤ N.d
  d2 : N.d ≤ 4
  e : N.e = 60
  ps : ∃ n, 2 ≤ n ∧ n ≤ 4 ∧ N.ps = ABCD.take n
  ws : ∀ w ∈ N.ws, w ∈ N.ps
  wl : N.ws.length ≤ 4
  tn : ∃ n, 1 ≤ n ∧ n ≤ 5 ∧ N.ts.map Tu.nm = SQRPT.take n
  ok : ∀ t ∈ N.ts, TuY N.ps N.ws t
theorem tie_putY {ts : List Tu} {d : Int} {t : Tu} (h : t.nm ∉ ts.map Tu.nm) : putD (tiesK (ts.map (tieU d))) (kS t.nm) (TieD (tieU d t)) = tiesK ((ts ++ [t]).map (tieU d)) := by
  rw [show kS t.nm = kS (Tie.nm (tieU d t)) from rfl, putD_new (z := tieU d t) (fun y hy e => by
    obtain ⟨u, hu, rfl⟩ := List.mem_map.mp hy
    exact h (List.mem_map.mpr ⟨u, hu, e⟩)), List.map_append]
  rfl
theorem rides_frY {p : Nat} {d : Int} {h g : Hd} {c : PS} (v : PotI c) (pl : PL p h) (d1 : 1 ≤ d) (d2 : d ≤ 4) : ∃ (us : List Ru) (c' : PS), PotI c' ∧ (∀ u ∈ us, RuOk 1000 u ∧ u.2.1 ≤ 36) ∧ us.length ≤ 4 ∧ F_rides [.ref p, .int d] (HP h p c ++ g) = .ok (RdsD (us.map (uR d))) (HP h p c' ++ g) := by
  have pl2 : PL p (h ++ g) := inferInstance
  obtain ⟨us, c', v', o, l, e⟩ := rides_okY (h := h ++ g) v pl2 d1 d2
  exact ⟨us, c', v', o, l, by rw [← HP_app, e, HP_app]⟩
theorem netW_end {h : Hd} {p : Nat} {c : PS} {e : Rat} {ws tk : List Pl} {ts : List Tie} : gcT h (.tup [FQ e, .tup (ws.map T), .ref (h.length + 1)]) (HP h p c ++ [.lst (tk.map T), .dK (tiesK ts)]) = .ok (.tup [FQ e, .tup (ws.map T), .ref h.length]) (HP h p c ++ [.dK (tiesK ts)]) := by
  have q1 : (HP h p c ++ [.lst (tk.map T), .dK (tiesK ts)])[h.length + 1]? = some (.dK (tiesK ts)) := get_HPk.trans rfl
  refine gcT_cl [h.length + 1] (okb_of (tk := [])).1 ?_ (by simp) (by simp) (fun j hj => ?_) ?_ ?_ ?_
  · simp only [refs_cl, refsAll_T, D.refs, D.refsAll, List.nil_append, List.append_nil, List.cons_append, newR_cons, newR_nil]
    rw [if_pos (by omega)]
  · rw [List.mem_singleton.mp hj]
    exact ⟨by omega, _, q1, cl_dK⟩
  · simp only [inn_cl, innAll_T, D.inn, D.innAll]
    simp
  · simp only [ren_cl, renAll_T, D.ren, D.renAll]
    unfold rn
    simp [List.idxOf_cons]
  · rw [take_HP]
    simp only [List.map_cons, List.map_nil, q1]
    rfl
theorem cut_take {L : List D} {n : Int} (h0 : 0 ≤ n) : cutD L none (some n) = L.take n.toNat := by
  obtain ⟨k, rfl⟩ := Int.eq_ofNat_of_zero_le h0
  unfold cutD
  rw [show HT.sIx L.length 0 none = 0 from rfl, show HT.sIx L.length L.length (some ((k : Nat) : Int)) = min k L.length from HT.sIx_nat _ _ k, List.drop_zero, Nat.sub_zero, Int.toNat_natCast]
  by_cases q : k ≤ L.length
  · rw [Nat.min_eq_left q]
  · rw [Nat.min_eq_right (by omega), List.take_of_length_le (Nat.le_refl _), List.take_of_length_le (by omega)]
theorem const_ride {d : Int} (d1 : 1 ≤ d) : D.tup [D.tup [FQ 0, D.tup [D.int 2, D.int 1], D.tup [D.int 3, D.int 1], D.tup [D.int 5, D.int 1]]] = D.tup (([(0, 2 * d, 3 * d, 5 * d)] : List Ru).map fun u => QdD (uR d u)) := by
  have e : ∀ z : Int, Rat.divInt (z * d) d = Rat.divInt z 1 := fun z => (Rat.divInt_eq_divInt_iff (by omega) (by omega)).mpr (by omega)
  have e0 : Rat.divInt 0 d = 0 := Rat.zero_divInt d
  show _ = D.tup [QdD (Rat.divInt 0 d, Rat.divInt (2 * d) d, Rat.divInt (3 * d) d, Rat.divInt (5 * d) d)]
  rw [e, e, e, e0]
  rfl
theorem net_okY {p : Nat} {d : Int} {h : Hd} {c : PS} (v : PotI c) (pl : PL p h) (d1 : 1 ≤ d) (d2 : d ≤ 4) : ∃ (N : Nu) (c' : PS), PotI c' ∧ N.OkY ∧ N.d = d ∧ F_net [.ref p, .int d] (HP h p c) = .ok (.tup [FQ N.end, .tup (N.ws.map T), .ref h.length]) (HP h p c' ++ [.dK (tiesK N.ties)]) := by
  simp only [F_net, B_net]
  have zdi : ZI 4 d := ⟨Sz.of (by omega) (by omega)⟩
  generalize hK : sSeq (sSet 3 _) _ = K
  have b3 := wkV_bd (c := c) (m := 3) (by decide)
  have v3 : PotI (wkC c 3) := inferInstance
  walk_at "evj"
  generalize wkC c 3 = c3 at v3 ⊢
  generalize wkV c 3 = x1 at b3 ⊢
  obtain ⟨tk, etk, ecut⟩ : ∃ tk : List Pl, tk = ABCD.take (2 + x1).toNat ∧ cutD [T [97], T [98], T [99], T [100]] none (some (2 + x1)) = tk.map T := ⟨_, rfl, by
    rw [cut_take (by omega), List.map_take]
    rfl⟩
  rw [ecut]
  clear ecut
  have ltk : tk.length = (2 + x1).toNat := by
    rw [etk, List.length_take]
    simp only [List.length_cons, List.length_nil]
    omega
  have pn : tk.Nodup := by
    rw [etk]
    exact List.Pairwise.sublist (List.take_sublist _ _) (by decide)
  have po : ∀ w ∈ tk, NmOk w := fun w hw => by
    rw [etk] at hw
    have := List.mem_of_mem_take hw
    simp only [List.mem_cons, List.not_mem_nil, or_false] at this
    unfold NmOk
    rcases this with rfl | rfl | rfl | rfl <;> simp
  subst hK
  generalize hK : sSeq (sSet 4 _) _ = K
  have b4 := wkV_bd (c := c3) (m := 5) (by decide)
  have v4 : PotI (wkC c3 5) := inferInstance
  walk_at "evj"
  generalize wkC c3 5 = c4 at v4 ⊢
  generalize wkV c3 5 = x4 at b4 ⊢
  obtain ⟨bd, hbd, eb⟩ : ∃ bd : Int, (0 ≤ bd ∧ bd ≤ 5) ∧ atI [D.int 0, D.int 0, D.int 0, D.int 1, D.int 5] x4 = some (.int bd) := by
    have : x4 = 0 ∨ x4 = 1 ∨ x4 = 2 ∨ x4 = 3 ∨ x4 = 4 := by omega
    rcases this with rfl | rfl | rfl | rfl | rfl
    · exact ⟨0, by omega, rfl⟩
    · exact ⟨0, by omega, rfl⟩
    · exact ⟨0, by omega, rfl⟩
    · exact ⟨1, by omega, rfl⟩
    · exact ⟨5, by omega, rfl⟩
  rw [eb]
  clear eb b4
  walk_at "evj"
  subst hK
  generalize hK : sSeq (sSet 5 _) _ = K
  walk_at "evj"
  obtain ⟨ws, c5, ⟨v5, wp, wl⟩, ek⟩ := kLc_st (α := List Nat) (f := T) (emb := T) (g := gN 10) (t := tB' (e2 dGe (eA (eF 2 F_take) (aC (eV 0) (aC (eC (.int 5)) aN))) (eV 3))) (e := eV 10) (vs := [10]) (s := [some (.ref p), some (.int d), some (.ref h.length), some (.int bd), none, none, none, none, none, none, none]) (xs := tk) (chk := fun H => H[h.length]? = some (.lst (tk.map T))) (n := h.length + 1)
    (fun c : PS => HP h p c ++ [.lst (tk.map T)]) (fun pre c ys => PotI c ∧ (∀ w ∈ ys, w ∈ tk) ∧ ys.length ≤ pre.length) (st0 := c4) ⟨v4, by simp, by simp⟩ (fun st => by rw [List.length_append, HP_len_I]; rfl) (fun _ _ _ _ => by
      rw [List.append_assoc, List.cons_append, List.nil_append]
      exact Ls.q) (by omega) (fun pre x post c ys hx ⟨v3, ws, wl⟩ => by
      refine ⟨_, rfl, ?_⟩
      have mx : ∀ w ∈ ys ++ [x], w ∈ tk := fun u hu => by
        rcases List.mem_append.mp hu with hu | hu
        · exact ws u hu
        · rw [List.mem_singleton.mp hu, hx]; simp
      by_cases q : bd ≤ wkV c 5
      · refine .inr ⟨wkC c 5, wkC c 5, x, ?_, ?_, inferInstance, mx, by simp; omega⟩
        · walk_at "evj"
          rw [decide_eq_true q]
        · walk_at "evj"
      · refine .inl ⟨wkC c 5, ?_, inferInstance, ws, by simp; omega⟩
        walk_at "evj"
        rw [decide_eq_false q])
  rw [ek]
  clear ek
  walk_at "evj"
  subst hK
  generalize hK : sRet _ = K
  have b6 := wkV_bd (c := c5) (m := 5) (by decide)
  have v6 : PotI (wkC c5 5) := inferInstance
  walk_at "evj"
  generalize wkC c5 5 = c6 at v6 ⊢
  generalize wkV c5 5 = x2 at b6 ⊢
  obtain ⟨ns, ens, ecut⟩ : ∃ ns : List Pl, ns = SQRPT.take (1 + x2).toNat ∧ cutD [T [115], T [113], T [114], T [112], T [116]] none (some (1 + x2)) = ns.map T := ⟨_, rfl, by
    rw [cut_take (by omega), List.map_take]
    rfl⟩
  rw [ecut]
  clear ecut
  have lns : ns.length = (1 + x2).toNat := by
    rw [ens, List.length_take]
    simp only [List.length_cons, List.length_nil]
    omega
  have nn : ns.Nodup := by
    rw [ens]
    exact List.Pairwise.sublist (List.take_sublist _ _) (by decide)
  have no : ∀ w ∈ ns, NmOk w := fun w hw => by
    rw [ens] at hw
    have := List.mem_of_mem_take hw
    simp only [List.mem_cons, List.not_mem_nil, or_false] at this
    unfold NmOk
    rcases this with rfl | rfl | rfl | rfl | rfl <;> simp
  have twp : ∀ w ∈ ws, Tx w := fun w hw => tx_nm (w := w) (q := ⟨po w (wp w hw)⟩)
  have i1 : Fa (1 ≤ (tk.length : Int)) := ⟨by omega⟩
  have i2 : ZI 20 (tk.length : Int) := ⟨Sz.of (by omega) (by omega)⟩
  have i3 : Fa (1 ≤ (tk.length : Int) - 1) := ⟨by omega⟩
  have i4 : Fa (1 ≤ ((tk.map T).length : Int)) := ⟨by rw [List.length_map]; omega⟩
  have i5 : ZI 20 ((tk.map T).length : Int) := ⟨Sz.of (by rw [List.length_map]; omega) (by rw [List.length_map]; omega)⟩
  have i6 : Fa (1 ≤ ((tk.map T).length : Int) - 1) := ⟨by rw [List.length_map]; omega⟩
  generalize hR : forD _ _ _ _ _ _ = R
  obtain ⟨s2, h2, rfl, ts, c7, v7, tn, ot, rfl, rfl⟩ := forD_go (xs := ns) (emb := T) hR (fun pre s H => ∃ (ts : List Tu) (c2 : PS), PotI c2 ∧ ts.map Tu.nm = pre ∧ (∀ t ∈ ts, TuY tk ws t) ∧ s = [some (.ref p), some (.int d), some (.ref h.length), some (.int bd), some (.tup (ws.map T)), some (.ref (h.length + 1)), none, none, none, none, none] ∧ H = HP h p c2 ++ [.lst (tk.map T), .dK (tiesK (ts.map (tieU d))), .lst (ns.map T)])
    ⟨[], c6, v6, rfl, by simp, rfl, rfl⟩ (fun _ _ _ ⟨_, _, _, _, _, _, e⟩ => by
      rw [e]
      exact Ls.q) (fun pre w post s H hx ⟨ts, c2, v2, tn, ot, es, eH⟩ => by
    subst es eH
    have ow : NmOk w := no w (by rw [hx]; simp)
    have inw : Nm w := ⟨ow⟩
    rw [ev_turn_I]
    generalize hK2 : sSeq (sSet 9 _) _ = K2
    have b5 := wkV_bd (c := c2) i1.out
    have b7 := wkV_bd (c := wkC c2 (tk.length : Int)) i3.out
    have vx : PotI (wkC (wkC c2 (tk.length : Int)) ((tk.length : Int) - 1)) := inferInstance
    walk_at "evj"
    simp only [List.length_map]
    generalize wkC (wkC c2 (tk.length : Int)) ((tk.length : Int) - 1) = c3 at *
    generalize wkV (wkC c2 (tk.length : Int)) ((tk.length : Int) - 1) = y at *
    generalize wkV c2 (tk.length : Int) = a at *
    rw [dMod_ok (by omega)]
    walk_at "evj"
    have q0 : 0 ≤ (a + 1 + y) % (tk.length : Int) := Int.emod_nonneg _ (by omega)
    have q1 : (a + 1 + y) % (tk.length : Int) < (tk.length : Int) := Int.emod_lt_of_pos _ (by omega)
    have qne : a.toNat ≠ ((a + 1 + y) % (tk.length : Int)).toNat := by
      intro w
      have w2 : a = (a + 1 + y) % (tk.length : Int) := by omega
      by_cases lt : a + 1 + y < (tk.length : Int)
      · rw [Int.emod_eq_of_lt (by omega) lt] at w2
        omega
      · rw [← Int.sub_emod_right, Int.emod_eq_of_lt (by omega) (by omega)] at w2
        omega
    generalize (a + 1 + y) % (tk.length : Int) = b at *
    obtain ⟨ha, ea⟩ := at_idx (L := tk) (f := T) b5.1 b5.2
    obtain ⟨hb, eb⟩ := at_idx (L := tk) (f := T) q0 q1
    have ab := idx_ne pn ha hb qne
    have ma : tk[a.toNat] ∈ tk := List.getElem_mem ha
    have mb : tk[b.toNat] ∈ tk := List.getElem_mem hb
    generalize tk[a.toNat] = na at *
    generalize tk[b.toNat] = nb at *
    have nna : Nm na := ⟨po na ma⟩
    have nnb : Nm nb := ⟨po nb mb⟩
    subst hK2
    generalize hK2 : sAsg _ _ = K2
    obtain ⟨us, c4, v4, ou, lu, er⟩ := rides_frY (p := p) (h := h) (c := c3) (d := d) (g := [MO.lst (tk.map T), .dK (tiesK (ts.map (tieU d))), .lst (ns.map T)]) vx pl d1 d2
    walk_at "evj"
    rw [er]
    walk_at "evj"
    rw [ea]
    walk_at "evj"
    rw [dIn_Tt twp]
    walk_at "evj"
    have wn : w ∉ ts.map Tu.nm := by
      rw [tn]
      rw [hx] at nn
      intro hm
      exact (List.nodup_append.mp nn).2.2 w hm w (by simp) rfl
    have fin : ∀ (us : List Ru) (c4 : PS), PotI c4 → K2 [some (D.ref p), some (D.int d), some (D.ref (List.length h)), some (D.int bd), some (D.tup (List.map T ws)), some (D.ref (List.length h + 1)), some (T w), some (D.int a), some (D.int b), some (RdsD (us.map (uR d))), none] (HP h p c4 ++ [MO.lst (List.map T tk), MO.dK (tiesK (List.map (tieU d) ts)), MO.lst (List.map T ns)]) =
        .nx [some (D.ref p), some (D.int d), some (D.ref (List.length h)), some (D.int bd), some (D.tup (List.map T ws)), some (D.ref (List.length h + 1)), some (T w), some (D.int a), some (D.int b), some (RdsD (us.map (uR d))), none] (HP h p c4 ++ [MO.lst (List.map T tk), MO.dK (tiesK (List.map (tieU d) (ts ++ [⟨w, na, nb, us⟩]))), MO.lst (List.map T ns)]) := fun us c4 v4 => by
      rw [← hK2]
      walk_at "evj"
      rw [ea]
      walk_at "evj"
      rw [eb]
      walk_at "evj"
      rw [dSetD_I (by rw [dct_len, List.length_map]; have := congrArg List.length tn; rw [List.length_map] at this; have := congrArg List.length hx; rw [List.length_append] at this; omega)]
      rw [show D.tup [T na, T nb, RdsD (us.map (uR d))] = TieD (tieU d ⟨w, na, nb, us⟩) from rfl, tie_putY (t := ⟨w, na, nb, us⟩) wn]
      walk_at "evj"
    have okt : ∀ us : List Ru, (∀ u ∈ us, RuOk 1000 u) → us.length ≤ 4 → TuY tk ws ⟨w, na, nb, us⟩ := fun us ou lu => ⟨ow, ma, mb, ab, ou, lu⟩
    have out : ∀ us : List Ru, TuY tk ws ⟨w, na, nb, us⟩ → ∀ x ∈ ts ++ [⟨w, na, nb, us⟩], TuY tk ws x := fun us ok x hx => by
      rcases List.mem_append.mp hx with hx | hx
      · exact ot x hx
      · rw [List.mem_singleton.mp hx]; exact ok
    by_cases q : na ∈ ws
    · rw [decide_eq_true q]
      walk_at "evj"
      rw [fin us c4 v4]
      walk_at "evj"
      exact ⟨_, _, rfl, ts ++ [⟨w, na, nb, us⟩], c4, v4, by rw [List.map_append, tn]; rfl, out us (okt us (fun u hu => (ou u hu).1) lu), rfl, rfl⟩
    · rw [decide_eq_false q]
      have b9 := wkV_bd (c := c4) (m := 3) (by decide)
      have v9 : PotI (wkC c4 3) := inferInstance
      walk_at "evj"
      generalize wkC c4 3 = c8 at v9 ⊢
      generalize wkV c4 3 = x8 at b9 ⊢
      obtain ⟨us2, o2, l2, e2⟩ : ∃ us2 : List Ru, (∀ u ∈ us2, RuOk 1000 u) ∧ us2.length ≤ 4 ∧ cutD (([(0, 2 * d, 3 * d, 5 * d)] : List Ru).map fun u => QdD (uR d u)) none (some x8) = us2.map fun u => QdD (uR d u) := by
        rw [cut_take b9.1, ← List.map_take]
        refine ⟨_, fun u hu => ?_, by rw [List.length_take]; simp only [List.length_cons, List.length_nil]; omega, rfl⟩
        rw [List.mem_singleton.mp (List.mem_of_mem_take hu)]
        exact ⟨by simp only; omega, by simp only; omega, by simp only; omega, by simp only; omega, fun e => by simp only at e; omega, by simp only; omega, by simp only; omega, by simp only; omega⟩
      rw [const_ride d1, dSl_t, e2, show D.tup (us2.map fun u => QdD (uR d u)) = RdsD (us2.map (uR d)) by unfold RdsD; rw [List.map_map]; rfl]
      walk_at "evj"
      rw [fin us2 c8 v9]
      walk_at "evj"
      exact ⟨_, _, rfl, ts ++ [⟨w, na, nb, us2⟩], c8, v9, by rw [List.map_append, tn]; rfl, out us2 (okt us2 o2 l2), rfl, rfl⟩)
  clear hR
  walk_at "evj"
  subst hK
  walk_at "evj"
  rw [low_ok (by omega) d1 zdi.z (by decide)]
  walk_at "evj"
  refine ⟨⟨d, 60, tk, ws, ts⟩, c7, v7, ⟨d1, d2, rfl, ⟨_, by omega, by omega, etk⟩, wp, by simp only; omega, ⟨_, by omega, by omega, tn.trans ens⟩, ot⟩, rfl, ?_⟩
  have := netW_end (h := HP h p c) (p := p) (c := c7) (e := Rat.divInt 60 d) (ws := ws) (tk := tk) (ts := ts.map (tieU d))
  rw [HP_HP_I, HP_len_I] at this
  exact this
def shQ (f : Rat) (q : Rq) : Rq := (q.1 + f, q.2.1 + f, q.2.2.1 + f, q.2.2.2 + f)
theorem p_moved_ok {h : Hd} {q : Rq} {f : Rat} (o : RqOk 40 q) (f0 : 0 ≤ f) (zf : SzQ 45 f) : F_p_moved [QdD q, FQ f] h = .ok (QdD (shQ f q)) h := by
  have iz : ZQ 45 f := ⟨zf⟩
  have jf : Fa (0 ≤ f) := ⟨f0⟩
  obtain ⟨g0, _, _, _, _, g1, g2, g3⟩ := o.le
  obtain ⟨z1, z2, z3, z4⟩ := o.z
  simp only [F_p_moved, B_p_moved]
  walk_at "evj"
  rw [show iSeq (QdD q) h = .ok ([q.1, q.2.1, q.2.2.1, q.2.2.2].map FQ, fun _ => True) h from rfl]
  rw [kLc_all (h := h) (f := fun a => FQ (a + f)) (by simp) (fun _ => trivial) (fun y hy acc => ⟨_, rfl, rfl, by
    have h2 : 0 ≤ y ∧ SzQ 40 y := by
      simp only [List.mem_cons, List.not_mem_nil, or_false] at hy
      rcases hy with rfl | rfl | rfl | rfl
      · exact ⟨g0, z1⟩
      · exact ⟨g1, z2⟩
      · exact ⟨g2, z3⟩
      · exact ⟨g3, z4⟩
    have iy : ZQ 40 y := ⟨h2.2⟩
    have jy : Fa (0 ≤ y) := ⟨h2.1⟩
    walk_at "evj"⟩)]
  walk_at "evj"
  rfl
theorem p_on_straight_ok {b t : Rat} {p : Pc} {h : Hd} {k m : Nat} (hk : m + 7 * k + 4 ≤ 7999) (zb : SzQ k b) (zt : SzQ m t) (z : SzQ k p.1 ∧ SzQ k p.2.1 ∧ SzQ k p.2.2) (h1 : b ≤ p.1) (h2 : 0 ≤ p.2.1) (h3 : p.2.1 ≤ p.2.2) (h4 : b ≤ t) :
    F_p_on_straight [FQ b, FQ p.1, FQ p.2.1, FQ p.2.2, FQ t] h = .ok (FQ (onP b p t)) h := by
  obtain ⟨e, lo, u⟩ := p
  have i1 : ZQ k b := ⟨zb⟩
  have i2 : ZQ m t := ⟨zt⟩
  have i3 : ZQ k e := ⟨z.1⟩
  have i4 : ZQ k lo := ⟨z.2.1⟩
  have i5 : ZQ k u := ⟨z.2.2⟩
  have f1 : Fa (b ≤ e) := ⟨h1⟩
  have f2 : Fa (0 ≤ lo) := ⟨h2⟩
  have f3 : Fa (lo ≤ u) := ⟨h3⟩
  have f4 : Fa (b ≤ t) := ⟨h4⟩
  simp only [F_p_on_straight, B_p_on_straight]
  walk_at "evj"
  unfold onP
  by_cases c : e = b
  · rw [decide_eq_true c.symm, if_pos c]
    walk_at "evj"
  · rw [decide_eq_false (fun w => c w.symm), if_neg c]
    have f5 : Fa (0 < e - b) := ⟨by have := f1.out; grind⟩
    walk_at "evj"
    rw [decide_eq_false (Rat.not_lt.mpr h3)]
    walk_at "evj"
theorem p_on_straight_any {b t : Rat} {p : Pc} {h : Hd} {k m : Nat} (hk : m + 7 * k + 4 ≤ 7999) (zb : SzQ k b) (zt : SzQ m t) (z : SzQ k p.1 ∧ SzQ k p.2.1 ∧ SzQ k p.2.2) (h1 : b ≤ t) (h2 : t ≤ p.1) (h3 : 0 ≤ p.2.1) (h4 : 0 ≤ p.2.2) :
    F_p_on_straight [FQ b, FQ p.1, FQ p.2.1, FQ p.2.2, FQ t] h = .ok (FQ (onP b p t)) h := by
  by_cases c0 : p.2.1 ≤ p.2.2
  · exact p_on_straight_ok hk zb zt z (by grind) h3 c0 h1
  obtain ⟨e, lo, u⟩ := p
  have i1 : ZQ k b := ⟨zb⟩
  have i2 : ZQ m t := ⟨zt⟩
  have i3 : ZQ k e := ⟨z.1⟩
  have i4 : ZQ k lo := ⟨z.2.1⟩
  have i5 : ZQ k u := ⟨z.2.2⟩
  have c1 : u < lo := Rat.not_le.mp c0
  have f2 : Fa (0 ≤ lo) := ⟨h3⟩
  have f3 : Fa (u ≤ lo) := ⟨Rat.le_of_lt c1⟩
  have f4 : Fa (b ≤ t) := ⟨h1⟩
  have f6 : Fa (b ≤ e) := ⟨by simp only at h2; grind⟩
  simp only [F_p_on_straight, B_p_on_straight]
  walk_at "evj"
  unfold onP
  by_cases c : e = b
  · rw [decide_eq_true c.symm, if_pos c]
    walk_at "evj"
  · rw [decide_eq_false (fun w => c w.symm), if_neg c]
    have hbe : b < e := by have := f6.out; grind
    have f5 : Fa (0 < e - b) := ⟨by grind⟩
    obtain ⟨w, ew, w0, w1, _⟩ := mid_w h1 h2 hbe
    have f7 : Fa ((lo - u) * ((t - b) / (e - b)) ≤ lo) := ⟨by
      simp only at *
      rw [ew]
      have := Rat.mul_le_mul_of_nonneg_left w1 (show 0 ≤ lo - u by grind)
      grind⟩
    walk_at "evj"
    rw [decide_eq_true c1]
    walk_at "evj"
    rw [show lo - (lo - u) * ((t - b) / (e - b)) = lo + (u - lo) * ((t - b) / (e - b)) by grind]
theorem fq_int {z : Int} : D.tup [.int z, .int 1] = FQ (z : Rat) := rfl
theorem nat_rat {j : Nat} : (0 : Rat) ≤ ((j : Int) : Rat) := Rat.intCast_nonneg.mpr (by omega)
theorem nat_szq {j : Nat} (h : j ≤ 16) : SzQ 5 ((j : Int) : Rat) := ⟨Sz.of (by show -(2 ^ 5 : Int) < (j : Int); omega) (by show (j : Int) < 2 ^ 5; omega), (Sz.of (k := 5) (by decide) (by decide) : Sz 5 ((1 : Nat) : Int))⟩
def daysR (R : List Rq) (y : Rat) (k : Nat) : List Rq := (List.range k).flatMap fun j : Nat => R.map (shQ (y * ((j : Int) : Rat)))
theorem p_all_moved_ok {h : Hd} {R : List Rq} {y : Rat} {k : Nat} (o : ∀ q ∈ R, RqOk 40 q) (ln : R.length ≤ 20) (y0 : 0 ≤ y) (zy : SzQ 40 y) (hk : k ≤ 8) : F_p_all_moved [RdsD R, FQ y, .int (k : Int)] h = .ok (RdsD (daysR R y k)) h := by
  have iy : ZQ 40 y := ⟨zy⟩
  have jy : Fa (0 ≤ y) := ⟨y0⟩
  have zk : ZI 5 (k : Int) := ⟨Sz.of (by omega) (by omega)⟩
  simp only [F_p_all_moved, B_p_all_moved]
  walk_at "evj"
  generalize hR : forD _ _ _ _ _ _ = Rr
  obtain ⟨s2, h2, rfl, rfl, rfl⟩ := forD_go (xs := List.range k) (emb := fun i : Nat => D.int (i : Int)) hR (fun pre s H => s = [some (RdsD R), some (FQ y), some (.int (k : Int)), some (.ref h.length), none, none, none] ∧ H = h ++ [.lst ((pre.flatMap fun j : Nat => R.map (shQ (y * ((j : Int) : Rat)))).map QdD)])
    ⟨rfl, rfl⟩ (fun _ _ _ _ => trivial) (fun pre j post s H hx ⟨e1, eH⟩ => by
    subst e1 eH
    have hj : j < k := List.mem_range.mp (by rw [hx]; simp)
    rw [ev_turn_I]
    walk_at "evj"
    rw [fq_int]
    have jj : Fa (0 ≤ ((j : Int) : Rat)) := ⟨nat_rat⟩
    have ij : ZQ 5 ((j : Int) : Rat) := ⟨nat_szq (by omega)⟩
    walk_at "evj"
    have f0 : 0 ≤ y * ((j : Int) : Rat) := Rat.mul_nonneg y0 nat_rat
    have zf : SzQ 45 (y * ((j : Int) : Rat)) := zy.mul (nat_szq (by omega))
    rw [kLc_all (xs := R) (f := fun q => QdD (shQ (y * ((j : Int) : Rat)) q)) (by omega) (fun _ => trivial) (fun q hq acc => ⟨_, rfl, rfl, by
      walk_at "evj"
      exact p_moved_ok (o q hq) f0 zf⟩)]
    have lpre : (pre.flatMap fun j : Nat => R.map (shQ (y * ((j : Int) : Rat)))).length ≤ pre.length * 20 := flat_lenK fun _ _ => by rw [List.length_map]; exact ln
    have lp := congrArg List.length hx
    rw [List.length_range, List.length_append, List.length_cons] at lp
    walk_at "evj"
    rw [show ((pre ++ [j]).flatMap fun j : Nat => R.map (shQ (y * ((j : Int) : Rat)))).map QdD = (pre.flatMap fun j : Nat => R.map (shQ (y * ((j : Int) : Rat)))).map QdD ++ R.map fun q => QdD (shQ (y * ((j : Int) : Rat)) q) by
      rw [List.flatMap_append, List.map_append, List.flatMap_singleton, List.map_map]
      rfl]
    exact ⟨_, _, rfl, rfl, rfl⟩)
  clear hR
  walk_at "evj"
  unfold RdsD daysR
  rfl
theorem ev_runX2_I {N : Nat} {sm : SM} {xs : List D} {h : Hd} : runX2 N sm xs h = (sm (xs.map some ++ List.replicate (N - xs.length) none) h).finX2 h := rfl
theorem finX2_rt_I {d : D} {h1 h : Hd} : (SR.rt d h1).finX2 h = gcT h d h1 := rfl
theorem finX2_exc_I {x : XD} {s : Sl} {h1 h : Hd} : (SR.exc x s h1).finX2 h = .exc x h1 := rfl
def evB6 := andB @ev_runX2_I <| andB @finX2_rt_I <| @finX2_exc_I
local macro_rules | `(tactic| walk_at "evj") => `(tactic| try simp -implicitDefEqProofs (disch := first | (simp only [List.length_cons, List.length_nil, Nat.reduceAdd, Nat.reduceLeDiff]; done) | exact tyM_I | exact tyM_T | decide | omega | (simp only [List.length_map, List.length_cons, List.length_nil, List.length_append, List.length_replicate, List.length_take, List.length_dropLast]; omega) | assumption) only [evB1, evB2, evB4, evB5, evB6, Bool.false_xor, Bool.true_xor, beq_self_eq_true, Bool.true_and, Bool.and_true, Bool.false_and, Bool.and_false, Bool.true_or, Bool.or_true, Bool.false_or, Bool.or_false, Int.reduceToNat, Int.reducePow, Int.reduceSub, Int.reduceAdd, Int.reduceNeg, Int.reduceMul, List.singleton_append, k_NO_TIE, dIx_FQ0, dIx_FQ1, dEq_FQ, dNe_FQ, FQ_01, List.append_assoc, List.length_append, Nat.add_assoc, get_at, get_at0, Nat.reduceLeDiff, asO_int, Res.bind_ok, b1_ok, b2_ok, bAnd_ok, bOr_ok, bNot_ok, bAndV_ok, bNotV_ok, bIf_ok, bC_ok, bC1_ok, bM_ok, bM1_ok, bSl_ok, bSl1_ok, bSl2_ok, kAsg_ok, bG_ok, bS1_ok, bS2_ok, bS3_ok, kSet_ok, kRet_ok, kExp_ok, kIf_ok, kFor_ok, kPar_ok, kPar1_ok, SR.seq_nx, SR.seq_rt, SR.fin_rt, toS_ok, slAt_some, optR_some, asB_bl, asT_bl, dAdd_ii, dSub_ii, dLt_ii, dGt_ii, dGe_ii, bMax2_ii, bLen_r, dIx_t, dIx_r, at_0, at_1, at_2, dEq_ii, iSeq_t, List.map, List.length_cons, List.length_nil, List.replicate_succ, List.replicate_zero, List.cons_append, List.nil_append, List.append_nil, List.getElem?_cons_zero, List.getElem?_cons_succ, List.set_cons_zero, List.set_cons_succ, Nat.reduceSub, Nat.reduceAdd, Nat.sub_self, Bool.not_true, Bool.not_false, if_true, if_false, reduceIte, Bool.false_eq_true, decide_true, decide_false])
theorem p_ride_comes_ok {q : Rq} {t : Rat} {h : Hd} {k m : Nat} (hk : m + 7 * k + 4 ≤ 7999) (o : RqOk k q) (zt : SzQ m t) (ht : rdHas q t = true) : F_p_ride_comes [QdD q, FQ t] h = .ok (FQ (rdOn q t)) h := by
  obtain ⟨h1, h2⟩ := rdHas_iff.mp ht
  obtain ⟨a1, a2, a3, a4, a5, a6, a7, a8⟩ := o.le
  simp only [F_p_ride_comes, B_p_ride_comes]
  walk_at "evj"
  rw [p_on_straight_any hk o.z.1 zt ⟨o.z.2.1, o.z.2.2.1, o.z.2.2.2⟩ h1 h2 a7 a8]
  walk_at "evj"
def dayT (y : Rat) (k : Nat) (t : Tie) : Tie := ⟨t.nm, t.a, t.b, daysR t.rs y k⟩
theorem dayT_nm {y : Rat} {k : Nat} {ts : List Tie} : (ts.map (dayT y k)).map Tie.nm = ts.map Tie.nm := by
  rw [List.map_map]
  rfl
def noDay (w : Pl) : XD := ⟨.type "NoDay", some [(Str.ofString "name", T w)]⟩
structure DayOk (ts : List Tie) (ws : List Pl) (e y : Rat) : Prop where
  nd : (ts.map Tie.nm).Nodup
  lt : ts.length ≤ 10
  nm : ∀ t ∈ ts, NmOk t.nm ∧ NmOk t.a ∧ NmOk t.b
  hw : ∀ w ∈ ws, Tx w
  o : ∀ t ∈ ts, ∀ q ∈ t.rs, RqOk 40 q
  ln : ∀ t ∈ ts, t.rs.length ≤ 4
  y0 : 0 ≤ y
  zy : SzQ 40 y
theorem days_loop {h : Hd} {n k : Nat} {ts L : List Tie} {ws : List Pl} {e y : Rat} {R : SR} (N : DayOk ts ws e y) (q : Ob h n (.dK (tiesK ts))) (S1 : ∀ t ∈ L, t ∈ ts)
    (hR : forD (fun h' => h'[h.length]? = some (MO.lst (L.map fun t => T t.nm))) (gN 3) (sG (sW [3] (sIf (tNot' (tTr (eA (eFn 3 F_p_may_come_again) (aC (eV 0) (aC (eV 3) (aC (eV 1) aN)))))) (sRaiseI "NoDay" ["name"] (aC (eV 3) aN)) sNil))) (L.map fun t => T t.nm)
      [some (.tup [FQ e, .tup (ws.map T), .ref n]), some (FQ y), some (.int (k : Int)), none, none, none] (h ++ [.lst (L.map fun t => T t.nm)]) = R) :
    ((∀ t ∈ L, mayB ws y t = true) ∧ R = .nx [some (.tup [FQ e, .tup (ws.map T), .ref n]), some (FQ y), some (.int (k : Int)), none, none, none] (h ++ [.lst (L.map fun t => T t.nm)])) ∨
    ∃ t s, (L.find? fun t => !mayB ws y t) = some t ∧ R = .exc (noDay t.nm) s (h ++ [.lst (L.map fun t => T t.nm)]) := by
  have iy : ZQ 40 y := ⟨N.zy⟩
  have key := forD_till (xs := L) (emb := fun t => T t.nm) hR (fun pre s H => (∀ t ∈ pre, mayB ws y t = true) ∧ s = [some (.tup [FQ e, .tup (ws.map T), .ref n]), some (FQ y), some (.int (k : Int)), none, none, none] ∧ H = h ++ [.lst (L.map fun t => T t.nm)])
    (fun r => ∃ t s, (L.find? fun t => !mayB ws y t) = some t ∧ r = .exc (noDay t.nm) s (h ++ [.lst (L.map fun t => T t.nm)])) ⟨by simp, rfl, rfl⟩ (fun _ s H ⟨_, _, e⟩ => by rw [e]; exact Ls.q) (fun pre t post s H hx ⟨hp, e1, eH⟩ => by
    subst e1 eH
    have ht : t ∈ ts := S1 t (by rw [hx]; simp)
    have q1 : Ob (h ++ [MO.lst (L.map fun t => T t.nm)]) n (.dK (tiesK ts)) := inferInstance
    walk_at "evj"
    rw [p_may_come_again_ok q1 N.nd ht N.hw (N.nm t ht).2.1 (fun q hq => (N.o t ht q hq).z.2.1) (by have := N.ln t ht; omega) N.zy (fun _ => inferInstance)]
    have find : ∀ b, mayB ws y t = b → (b = false → (L.find? fun t => !mayB ws y t) = some t) ∧ (b = true → ∀ u ∈ pre ++ [t], mayB ws y u = true) := fun b hb => ⟨fun e => by
      rw [hx, List.find?_append, List.find?_eq_none.mpr (fun u hu => by rw [hp u hu]; decide), Option.none_or, List.find?_cons, hb, e]
      rfl, fun e u hu => by
      rcases List.mem_append.mp hu with hu | hu
      · exact hp u hu
      · rw [List.mem_singleton.mp hu, hb, e]⟩
    cases hb : mayB ws y t with
    | true =>
      walk_at "evj"
      exact ⟨(find _ hb).2 rfl, rfl, rfl⟩
    | false =>
      walk_at "evj"
      exact ⟨t, _, (find _ hb).1 rfl, rfl⟩)
  rcases key with ⟨s2, h2, e, ha, rfl, rfl⟩ | key
  · exact .inl ⟨ha, e⟩
  · exact .inr key
theorem p_days_bad {h : Hd} {n k : Nat} {ts : List Tie} {ws : List Pl} {e y : Rat} {t : Tie} (N : DayOk ts ws e y) (q : Ob h n (.dK (tiesK ts))) (hf : (tiesBy ts (sortN (ts.map Tie.nm))).find? (fun t => !mayB ws y t) = some t) :
    ∃ g, F_p_days [.tup [FQ e, .tup (ws.map T), .ref n], FQ y, .int (k : Int)] h = .exc (noDay t.nm) (h ++ g) := by
  have iy : ZQ 40 y := ⟨N.zy⟩
  have lo1 : ∀ w ∈ sortN (ts.map Tie.nm), w ∈ ts.map Tie.nm := fun w hw => sortN_perm.mem_iff.mp hw
  have eN := tiesBy_nm lo1 N.nd
  have S1 : ∀ t ∈ tiesBy ts (sortN (ts.map Tie.nm)), t ∈ ts := fun t ht => tiesBy_mem ht
  have lt := N.lt
  generalize tiesBy ts (sortN (ts.map Tie.nm)) = L at *
  have hTE : (sortN (ts.map Tie.nm)).map T = L.map fun t => T t.nm := by
    rw [← eN, List.map_map]
    rfl
  simp only [F_p_days, B_p_days]
  generalize hK : sSeq (sSet 4 _) _ = K
  walk_at "evj"
  rw [bSortT_d (by omega), hTE]
  walk_at "evj"
  generalize hR : forD _ _ _ _ _ _ = R
  rcases days_loop N q S1 hR with ⟨ha, rfl⟩ | ⟨u, s, hu, rfl⟩
  · rw [List.find?_eq_none.mpr (fun u hu => by rw [ha u hu]; decide)] at hf
    cases hf
  · rw [hf] at hu
    cases hu
    walk_at "evj"
    exact ⟨_, rfl⟩
theorem p_days_ok {h : Hd} {n k : Nat} {ts : List Tie} {ws : List Pl} {e y : Rat} (N : DayOk ts ws e y) (q : Ob h n (.dK (tiesK ts))) (hk : k ≤ 8) (hf : (tiesBy ts (sortN (ts.map Tie.nm))).find? (fun t => !mayB ws y t) = none) :
    F_p_days [.tup [FQ e, .tup (ws.map T), .ref n], FQ y, .int (k : Int)] h = .ok (.tup [FQ (y * ((k : Int) : Rat)), .tup (ws.map T), .ref h.length]) (h ++ [.dK (tiesK (ts.map (dayT y k)))]) := by
  have iy : ZQ 40 y := ⟨N.zy⟩
  have jy : Fa (0 ≤ y) := ⟨N.y0⟩
  have jk : Fa (0 ≤ ((k : Int) : Rat)) := ⟨nat_rat⟩
  have ik : ZQ 5 ((k : Int) : Rat) := ⟨nat_szq (by omega)⟩
  have lo1 : ∀ w ∈ sortN (ts.map Tie.nm), w ∈ ts.map Tie.nm := fun w hw => sortN_perm.mem_iff.mp hw
  have eN := tiesBy_nm lo1 N.nd
  have S1 : ∀ t ∈ tiesBy ts (sortN (ts.map Tie.nm)), t ∈ ts := fun t ht => tiesBy_mem ht
  have lt := N.lt
  have nl := q.lt
  generalize tiesBy ts (sortN (ts.map Tie.nm)) = L at *
  have hTE : (sortN (ts.map Tie.nm)).map T = L.map fun t => T t.nm := by
    rw [← eN, List.map_map]
    rfl
  simp only [F_p_days, B_p_days]
  generalize hK : sSeq (sSet 4 _) _ = K
  walk_at "evj"
  rw [bSortT_d (by omega), hTE]
  walk_at "evj"
  generalize hR : forD _ _ _ _ _ _ = R
  rcases days_loop N q S1 hR with ⟨ha, rfl⟩ | ⟨u, s, hu, rfl⟩
  · clear hR
    walk_at "evj"
    subst hK
    walk_at "evj"
    have lA : (h.set n (MO.dF (tiesK ts))).length = h.length := List.length_set
    obtain ⟨A, hA⟩ : ∃ A, A = h.set n (MO.dF (tiesK ts)) := ⟨_, rfl⟩
    have qA : Ob A n (.dF (tiesK ts)) := ⟨by rw [hA, List.getElem?_set_self nl]⟩
    rw [← hA] at lA ⊢
    rw [← lA]
    generalize hR : forD _ _ _ _ _ _ = R
    obtain ⟨s2, h2, rfl, rfl, rfl⟩ := forD_go (xs := ts) (emb := fun z => D.tup [T z.nm, TieD z]) hR (fun pre s H => s = [some (D.tup [FQ e, D.tup (List.map T ws), D.ref n]), some (FQ y), some (D.int (k : Int)), none, some (D.ref A.length), none] ∧ H = A ++ [.dK (tiesK (pre.map (dayT y k)))])
      ⟨rfl, rfl⟩ (fun _ _ _ _ => trivial) (fun pre t post s H hx ⟨e1, eH⟩ => by
      subst e1 eH
      have ht : t ∈ ts := by rw [hx]; simp
      have i1 : Nm t.nm := ⟨(N.nm t ht).1⟩
      have i2 : Nm t.a := ⟨(N.nm t ht).2.1⟩
      have i3 : Nm t.b := ⟨(N.nm t ht).2.2⟩
      have wn : ∀ u ∈ pre, u.nm ≠ t.nm := fun u hu e => by
        have nd := N.nd
        rw [hx, List.map_append, List.map_cons, List.nodup_append] at nd
        exact nd.2.2 _ (List.mem_map.mpr ⟨u, hu, rfl⟩) _ (by simp) e
      rw [ev_turn_I]
      walk_at "evj"
      rw [p_all_moved_ok (N.o t ht) (by have := N.ln t ht; omega) N.y0 N.zy hk]
      walk_at "evj"
      have lp := congrArg List.length hx
      rw [List.length_append, List.length_cons] at lp
      rw [dSetD_I (q := ob_at0) (by rw [dct_len, List.length_map]; omega), show D.tup [T t.a, T t.b, RdsD (daysR t.rs y k)] = TieD (dayT y k t) from rfl, show kS t.nm = kS (Tie.nm (dayT y k t)) from rfl, putD_new (z := dayT y k t) (fun u hu e => by
        obtain ⟨v, hv, rfl⟩ := List.mem_map.mp hu
        exact wn v hv e), show pre.map (dayT y k) ++ [dayT y k t] = (pre ++ [t]).map (dayT y k) by rw [List.map_append]; rfl]
      rw [show (A ++ [MO.dK (tiesK (pre.map (dayT y k)))]).set A.length (MO.dK (dctK Tie.nm TieD ((pre ++ [t]).map (dayT y k)))) = A ++ [.dK (tiesK ((pre ++ [t]).map (dayT y k)))] by simp]
      walk_at "evj"
      exact ⟨_, _, rfl, rfl, rfl⟩)
    clear hR
    have eqA : A.set n (MO.dK (tiesK ts)) = h := by
      rw [hA, List.set_set]
      exact List.ext_getElem? fun i => by
        by_cases c : n = i
        · subst c
          rw [List.getElem?_set_self nl, q.q]
        · rw [List.getElem?_set_ne c]
    walk_at "evj"
    rw [eqA, lA]
    walk_at "evj"
    rw [fq_int]
    walk_at "evj"
    exact gcT_net inferInstance inferInstance cl_dK
  · rw [hf] at hu
    cases hu
theorem p_offer_ok {R : List Rq} {t : Rat} {h : Hd} {k m : Nat} (hk : 2 * m + 12 * k + 8 ≤ 7999) (o : ∀ q ∈ R, RqOk k q) (zt : SzQ m t) : F_p_offer [.tup (R.map QdD), FQ t] h = .ok (optD (offF R t)) h := by
  simp only [F_p_offer, B_p_offer]
  walk_at "evj"
  generalize hR : forD _ _ _ _ _ _ = Z
  obtain ⟨s2, h2, rfl, rfl, rfl⟩ := forD_go hR (fun pre s H => s = [some (.tup (R.map QdD)), some (FQ t), some (optD (offF pre t)), none, none] ∧ H = h) ⟨rfl, rfl⟩ (fun _ _ _ _ => trivial) (fun pre q post s H hx ⟨e, eH⟩ => by
    subst e eH
    have oq := o q (by rw [hx]; simp)
    have op : ∀ x ∈ pre, RqOk k x := fun x hx2 => o x (by rw [hx]; simp [hx2])
    walk_at "evj"
    rw [p_ride_has_ok (k := k) (m := m) (by omega) ⟨oq.z.1, oq.z.2.1⟩ zt, offF_snoc]
    unfold offStep
    by_cases c : rdHas q t = true
    · rw [c, if_pos rfl]
      walk_at "evj"
      rw [p_ride_comes_ok (m := m) (by omega) oq zt c]
      walk_at "evj"
      have z1 : ZQ (m + 6 * k + 4) (rdOn q t) := ⟨rdOn_sz oq zt⟩
      cases eo : offF pre t with
      | none =>
        rw [optD_none_I]
        walk_at "evj"
        exact ⟨_, _, rfl, rfl, rfl⟩
      | some f =>
        have z2 : ZQ (m + 6 * k + 4) f := ⟨offF_sz op zt eo⟩
        rw [optD_some_I]
        walk_at "evj"
        rw [show minO (some f) (some (rdOn q t)) = some (if rdOn q t < f then rdOn q t else f) from rfl]
        by_cases c2 : rdOn q t < f
        · rw [decide_eq_true c2, if_pos c2]
          walk_at "evj"
          exact ⟨_, _, rfl, rfl, rfl⟩
        · rw [decide_eq_false c2, if_neg c2]
          walk_at "evj"
          exact ⟨_, _, rfl, rfl, rfl⟩
    · have c : rdHas q t = false := by simpa using c
      rw [c, if_neg (by simp)]
      walk_at "evj"
      exact ⟨_, _, rfl, rfl, rfl⟩)
  clear hR
  walk_at "evj"
theorem p_set_out_ok {R : List Rq} {w : Bool} {t : Rat} {h : Hd} {k m : Nat} (hk : 2 * m + 12 * k + 8 ≤ 7000) (km : k ≤ m) (hl : R.length ≤ 1000) (o : ∀ q ∈ R, RqOk k q) (zt : SzQ m t) : F_p_set_out [.tup (R.map QdD), .bl w, FQ t] h = .ok (optSo (soF R (soM R w t))) h := by
  simp only [F_p_set_out, B_p_set_out]
  walk_at "evj"
  generalize hK : sSeq (sSet 4 (eC D.non)) _ = K
  have key : ∀ (H0 : Hd) (n : Nat) (M : List Rat) [q : Ls H0 n (M.map FQ)], (∀ x ∈ M, SzQ m x) → K [some (D.tup (R.map QdD)), some (D.bl w), some (FQ t), some (D.ref n), none, none, none, none] H0 = .rt (optSo (soF R M)) H0 := fun H0 n M q zM => by
    rw [← hK]
    walk_at "evj"
    generalize hR : forD _ _ _ _ _ _ = Z
    obtain ⟨s2, h2, rfl, rfl, rfl⟩ := forD_go hR (fun pre s H => s = [some (D.tup (R.map QdD)), some (D.bl w), some (FQ t), some (D.ref n), some (optSo (soF R pre)), none, none, none] ∧ H = H0) ⟨rfl, rfl⟩ (fun _ s H ⟨_, e⟩ => by rw [e]; exact Ls.q) (fun pre x post s H hx ⟨e, eH⟩ => by
      subst e eH
      have zx := zM x (by rw [hx]; simp)
      have zp : ∀ y ∈ pre, SzQ m y := fun y hy => zM y (by rw [hx]; simp [hy])
      walk_at "evj"
      rw [p_offer_ok (k := k) (m := m) (by omega) o zx, soF_snoc]
      unfold soStep
      cases eo : offF R x with
      | none =>
        rw [optD_none_I]
        walk_at "evj"
        exact ⟨_, _, rfl, rfl, rfl⟩
      | some c =>
        have z1 : ZQ (m + 6 * k + 4) c := ⟨offF_sz o zx eo⟩
        rw [optD_some_I]
        walk_at "evj"
        cases ef : soF R pre with
        | none =>
          rw [show optSo none = .non from rfl]
          walk_at "evj"
          exact ⟨_, _, rfl, rfl, rfl⟩
        | some f =>
          obtain ⟨a1, a2, _, _⟩ := soF_sz o zp ef
          have z2 : ZQ (m + 6 * k + 4) f.2 := ⟨a2⟩
          rw [show optSo (some f) = PrD f from rfl]
          walk_at "evj"
          by_cases c2 : c < f.2
          · rw [decide_eq_true c2, if_pos c2]
            walk_at "evj"
            exact ⟨_, _, rfl, rfl, rfl⟩
          · rw [decide_eq_false c2, if_neg c2]
            walk_at "evj"
            exact ⟨_, _, rfl, rfl, rfl⟩)
    clear hR
    walk_at "evj"
  clear hK
  cases w with
  | false =>
    rw [if_neg (by simp), SR.seq_nx, key (h ++ [MO.lst [FQ t]]) h.length [t] (q := ⟨get_new⟩) (fun x hx => by rw [List.mem_singleton.mp hx]; exact zt)]
    walk_at "evj"
    unfold soM
    rw [if_neg (by simp)]
  | true =>
    walk_at "evj"
    rw [p_ends_of_ok hl]
    walk_at "evj"
    rw [kLc_map (fun e : Rat => decide (t < e)) FQ (by unfold endsR; simp; omega) (fun _ => by first | exact Ls.q | exact Ls.chk _) (fun y hy acc => ⟨_, rfl, by
      obtain ⟨q, hq, e⟩ := endsR_mem.mp hy
      have zy : SzQ k y := by
        rcases e with e | e
        · rw [← e]; exact (o q hq).z.1
        · rw [← e]; exact (o q hq).z.2.1
      have i1 : ZQ k y := ⟨zy⟩
      have i2 : ZQ m t := ⟨zt⟩
      walk_at "evj", fun _ => by walk_at "evj"⟩)]
    have lE : ((endsR R).filter fun e => decide (t < e)).length ≤ 2000 := Nat.le_trans (List.length_filter_le ..) (by unfold endsR; simp; omega)
    have zE : ∀ x ∈ t :: (endsR R).filter fun e => decide (t < e), SzQ m x := fun x hx => soM_sz (w := true) o zt km x (by unfold soM; rw [if_pos rfl, inTurn_mem]; exact hx)
    have eM : soM R true t = inTurn (t :: (endsR R).filter fun e => decide (t < e)) := if_pos rfl
    have zI := soM_sz (w := true) o zt km
    rw [eM] at zI ⊢
    generalize (endsR R).filter (fun e => decide (t < e)) = E at *
    walk_at "evj"
    rw [show FQ t :: E.map FQ = (t :: E).map FQ from rfl]
    rw [p_in_turn_ok (k := m) (by omega) (by simp; omega) zE]
    walk_at "evj"
    rw [key (h ++ [MO.lst [FQ t], MO.lst ((inTurn (t :: E)).map FQ)]) (h.length + 1) (inTurn (t :: E)) (q := ⟨by simp⟩) zI]
    walk_at "evj"
theorem p_ridden_by_ok {h : Hd} {n m : Nat} {x : D} {ts : List Tie} {ws : List Pl} {t : Tie} {y : Rat} (q : Ob h n (.dK (tiesK ts))) (nd : (ts.map Tie.nm).Nodup) (ht : t ∈ ts) (hw : ∀ w ∈ ws, Tx w) (o : t.Ok ws) (zy : SzQ m y) (h40 : 40 ≤ m) (hm : m ≤ 3000) (lx : ∀ h : Hd, Lw h x) :
    F_p_ridden_by [.tup [x, .tup (ws.map T), .ref n], T t.nm, FQ y] h = .ok (optSo (rideS ws t y)) h := by
  have ta := o.ta
  have tn := o.tn
  simp only [F_p_ridden_by, B_p_ridden_by]
  walk_at "evj"
  rw [find_mem nd ht]
  walk_at "evj"
  rw [p_is_waiting_let_ok q nd ht hw ta tn]
  walk_at "evj"
  rw [show RdsD t.rs = D.tup (t.rs.map QdD) from rfl, p_set_out_ok (k := 40) (m := m) (by omega) h40 (by have := o.ln; omega) o.o zy]
  walk_at "evj"
  rfl
theorem p_paper_of_ok {h : Hd} {n m : Nat} {x : D} {ts : List Tie} {ws P : List Pl} {g : Pl} {mo : Rat} (L : SnOk ts ws P g mo m) (q : Ob h n (.dK (tiesK ts))) (hw : ∀ w ∈ ws, Tx w) (hp : ∀ p ∈ P, Tx p) (lx : ∀ h : Hd, Lw h x) :
    ∃ b : PapS, PapB ts g mo b ∧ F_p_paper_of [.tup [x, .tup (ws.map T), .ref n], T g, FQ mo] h = .ok (.ref h.length) (h ++ [.dK (dctP PvD b)]) := by
  have nl : n < h.length := q.lt
  have lt := L.lt
  have gx := L.gx
  simp only [F_p_paper_of, B_p_paper_of]
  walk_at "evj"
  generalize hW : sWhile _ _ _ _ = R
  obtain ⟨s2, h2, rfl, b, pb, rfl, rfl⟩ := while_go (n := 10) (P := fun s H => ∃ b : PapS, PapB ts g mo b ∧ s = [some (.tup [x, .tup (ws.map T), .ref n]), some (T g), some (FQ mo), some (.ref h.length), some (.ref (h.length + 1)), none, none, none, none] ∧ H = h ++ [.dK (dctP PvD b), .lst []])
    hW (fun N s H => ∃ (st : SnS) (S : List Pl), SnI ts g mo g ts st ∧ S.Nodup ∧ (∀ r ∈ S, r ∉ st.2 ∧ ∃ v, getP st.1 r = some v) ∧ N + S.length = 10 ∧ s = [some (.tup [x, .tup (ws.map T), .ref n]), some (T g), some (FQ mo), some (.ref h.length), some (.ref (h.length + 1)), none, none, none, none] ∧ H = h ++ [.dK (dctP PvD st.1), .lst (st.2.map T)])
    ⟨_, [], SnI.start L, .nil, (fun r hr => by cases hr), rfl, rfl, rfl⟩
    (fun N s H ⟨st, S, I, nS, hS, hN, e, eH⟩ => by
      subst e eH
      obtain ⟨b, left⟩ := st
      have inP : ∀ r v, getP b r = some v → r ∈ P ∧ SzQ (m + 756) v.1 := fun r v hv => by
        have := L.val I.sd (show fmP b r = some v.1 from congrArg (Option.map Prod.fst) hv)
        exact ⟨this.2.2, this.2.1⟩
      have lb := L.len (v := Prod.fst) I.nb I.sd
      have lkP : ∀ r ∈ left, r ∈ P := fun r hr => by
        obtain ⟨v, hv⟩ := I.lk r hr
        exact (inP r v hv).1
      have ll := nodup_len I.nl lkP
      have lP := L.hP
      by_cases c : left = []
      · subst c
        refine .inr ⟨h ++ [.dK (dctP PvD b), .lst []], ?_, b, I.paper L, rfl, rfl⟩
        walk_at "evj"
      · have tl : ∀ w ∈ left, Tx w := fun w hw => hp w (lkP w hw)
        have ll : left.length ≤ 10 := by
          have e : (b, left).2.length = left.length := rfl
          omega
        refine .inl ⟨h ++ [.dK (dctP PvD b), .lst (left.map T)], ?_, ?_⟩
        · walk_at "evj"
          rw [neT_nil tl, decide_eq_false c]
          walk_at "evj"
        · have h40 := L.h40
          have hm := L.hm
          walk_at "evj"
          obtain ⟨p, hpl, ⟨y, hy, le⟩, ep⟩ := p_soonest_place_ok (h := h ++ [.dK (dctP PvD b), .lst (left.map T)]) (n := h.length) (k := h.length + 1) (m := m + 756) (b := b) (left := left) inferInstance inferInstance c (by omega) (fun r hr => ⟨hp r (lkP r hr), by
            obtain ⟨v, hv⟩ := I.lk r hr
            exact ⟨v, hv, (inP r v hv).2⟩⟩) (by omega)
          rw [ep]
          clear ep
          have tp := hp p (lkP p hpl)
          obtain ⟨I1, np, lo⟩ := I.take hpl hy le
          simp only at I1 np lo
          walk_at "evj"
          rw [p_ties_from_ok inferInstance L.nd L.ok L.lt tp lx]
          have S1 : ∀ t ∈ (tiesBy ts (sortN (ts.map Tie.nm))).filter (fun t => decide (t.a = p)), t ∈ ts ∧ t.a = p := fun t ht => by
            obtain ⟨h1, h2⟩ := List.mem_filter.mp ht
            exact ⟨tiesBy_mem h1, of_decide_eq_true h2⟩
          have S2 : ∀ t ∈ ts, t.a = p → t ∈ (tiesBy ts (sortN (ts.map Tie.nm))).filter (fun t => decide (t.a = p)) := fun t ht e =>
            List.mem_filter.mpr ⟨tiesBy_all L.nd ht (sortN_perm.mem_iff.mpr (List.mem_map.mpr ⟨t, ht, rfl⟩)), decide_eq_true e⟩
          generalize (tiesBy ts (sortN (ts.map Tie.nm))).filter (fun t => decide (t.a = p)) = TS at *
          walk_at "evj"
          generalize hR : forD _ _ _ _ _ _ = R
          obtain ⟨s3, h3, rfl, rfl, rfl⟩ := forD_go hR (fun pre s H => s = [some (.tup [x, .tup (ws.map T), .ref n]), some (T g), some (FQ mo), some (.ref h.length), some (.ref (h.length + 1)), some (T p), none, none, none] ∧ H = h ++ [.dK (dctP PvD (pre.foldl (snStep p) (b, left.erase p)).1), .lst ((pre.foldl (snStep p) (b, left.erase p)).2.map T), .lst (TS.map (fun t => T t.nm))])
            ⟨rfl, rfl⟩ (fun _ _ _ ⟨_, e⟩ => by rw [e, get_at]; rfl) (fun pre t post s H hx ⟨e, eH⟩ => by
            subst e eH
            obtain ⟨ht, hta⟩ := S1 t (by rw [hx]; simp)
            have o := L.ok t ht
            have ta := o.ta
            have tb := o.tb
            have tn := o.tn
            obtain ⟨I2, np2, hy2, lo2, _⟩ := snFold_ok L (S := pre) (D := []) (fun u hu => S1 u (by rw [hx]; simp [hu])) np hy lo I1
            have eS : (pre ++ [t]).foldl (snStep p) (b, left.erase p) = snStep p (pre.foldl (snStep p) (b, left.erase p)) t := by rw [List.foldl_append]; rfl
            rw [eS]
            generalize pre.foldl (snStep p) (b, left.erase p) = st at *
            obtain ⟨bb, lf⟩ := st
            simp only at I2 np2 hy2 lo2 ⊢
            have inP2 : ∀ r v, getP bb r = some v → mo ≤ v.1 ∧ r ∈ P ∧ SzQ (m + 756) v.1 := fun r v hv => by
              have := L.val I2.sd (show fmP bb r = some v.1 from congrArg (Option.map Prod.fst) hv)
              exact ⟨this.1, this.2.2, this.2.1⟩
            have l2 : bb.length ≤ 10 := L.len (v := Prod.fst) I2.nb I2.sd
            have lf2 : lf.length ≤ P.length := nodup_len I2.nl fun r hr => by
              obtain ⟨v, hv⟩ := I2.lk r hr
              exact (inP2 r v hv).2.1
            have tl2 : ∀ w ∈ lf, Tx w := fun w hw => by
              obtain ⟨v, hv⟩ := I2.lk w hw
              exact hp w (inP2 w v hv).2.1
            obtain ⟨y0, _, zy⟩ := inP2 p y hy2
            have m0 := L.m0
            have y00 : 0 ≤ y.1 := Rat.le_trans m0 y0
            walk_at "evj"
            rw [hy2]
            walk_at "evj"
            rw [p_ridden_by_ok inferInstance L.nd ht hw o zy (by omega) (by omega) lx]
            have eG := rideS_snd (x := y.1) o y00
            unfold snStep
            simp only [hy2]
            cases er : rideS ws t y.1 with
            | none =>
              rw [er] at eG
              rw [← eG, show optSo none = .non from rfl]
              walk_at "evj"
              rw [find_mem L.nd ht]
              walk_at "evj"
              exact ⟨_, _, rfl, rfl, rfl⟩
            | some r =>
              rw [er] at eG
              rw [← eG, show optSo (some r) = PrD r from rfl]
              have zr : SzQ (m + 840) r.2 := (waitG_sz o.o o.l zy (by omega) eG.symm).mono (by omega)
              have ir : ZQ (m + 840) r.2 := ⟨zr⟩
              generalize hK : sSeq (sIf _ _ _) (sAsg _ _) = K
              have key : K [some (.tup [x, .tup (ws.map T), .ref n]), some (T g), some (FQ mo), some (.ref h.length), some (.ref (h.length + 1)), some (T p), some (T t.nm), some (PrD r), some (T t.b)] (h ++ [.dK (dctP PvD bb), .lst (lf.map T), .lst (TS.map (fun t => T t.nm))]) = .nx [some (.tup [x, .tup (ws.map T), .ref n]), some (T g), some (FQ mo), some (.ref h.length), some (.ref (h.length + 1)), some (T p), some (T t.nm), some (PrD r), some (T t.b)] (h ++ [.dK (dctP PvD (putP bb t.b (r.2, t.nm))), .lst ((if t.b ∈ lf then lf else lf ++ [t.b]).map T), .lst (TS.map (fun t => T t.nm))]) := by
                rw [← hK]
                walk_at "evj"
                rw [dIn_Tl tl2]
                by_cases c : t.b ∈ lf
                · rw [decide_eq_true c, if_pos c]
                  walk_at "evj"
                  rw [dSetD_I (by rw [dct_len]; omega), show D.tup [FQ r.2, T t.nm] = PvD (r.2, t.nm) from rfl, putD_P]
                  walk_at "evj"
                · rw [decide_eq_false c, if_neg c]
                  walk_at "evj"
                  rw [dSetD_I (by rw [dct_len]; omega), show D.tup [FQ r.2, T t.nm] = PvD (r.2, t.nm) from rfl, putD_P]
                  walk_at "evj"
              clear hK
              walk_at "evj"
              rw [find_mem L.nd ht]
              walk_at "evj"
              unfold soonP
              cases eb : getP bb t.b with
              | none =>
                simp only [Option.isSome_none, if_true]
                walk_at "evj"
                rw [key]
                walk_at "evj"
                exact ⟨_, _, rfl, rfl, rfl⟩
              | some z =>
                have iz : ZQ (m + 756) z.1 := ⟨(inP2 t.b z eb).2.2⟩
                simp only [Option.isSome_some]
                walk_at "evj"
                by_cases c : r.2 < z.1
                · simp only [c, decide_true, if_true]
                  walk_at "evj"
                  rw [key]
                  walk_at "evj"
                  exact ⟨_, _, rfl, rfl, rfl⟩
                · simp only [c, decide_false, Bool.false_eq_true, if_false]
                  walk_at "evj"
                  exact ⟨_, _, rfl, rfl, rfl⟩)
          clear hR
          obtain ⟨I2, np2, hy2, lo2, k2⟩ := snFold_ok L (S := TS) (D := []) S1 np hy lo I1
          generalize TS.foldl (snStep p) (b, left.erase p) = st at *
          obtain ⟨bb, lf⟩ := st
          walk_at "evj"
          have pS : p ∉ S := fun h => (hS p h).1 hpl
          have nS2 : (p :: S).Nodup := List.nodup_cons.mpr ⟨pS, nS⟩
          have lS := nodup_len nS2 (ws := P) fun r hr => by
            rcases List.mem_cons.mp hr with rfl | hr
            · exact lkP r hpl
            · obtain ⟨_, v, hv⟩ := hS r hr
              exact (inP r v hv).1
          rw [List.length_cons] at lS
          refine ⟨_, _, N - 1, rfl, by omega, (bb, lf), p :: S, I2.back (fun t ht e => by
            rw [List.nil_append]
            exact S2 t ht e), nS2, fun r hr => ?_, by rw [List.length_cons]; omega, rfl, rfl⟩
          rcases List.mem_cons.mp hr with rfl | hr
          · exact ⟨np2, y, hy2⟩
          · obtain ⟨h1, v, hv⟩ := hS r hr
            obtain ⟨h2, h3⟩ := k2 r (fun h => h1 (List.mem_of_mem_erase h)) ⟨v, hv⟩
            exact ⟨h2, v, h3.trans hv⟩)
  clear hW
  walk_at "evj"
  exact ⟨b, pb, rfl⟩
theorem p_soonest_ok {h : Hd} {n m : Nat} {x : D} {ts : List Tie} {ws P : List Pl} {g q' : Pl} {mo : Rat} (L : SnOk ts ws P g mo m) (q : Ob h n (.dK (tiesK ts))) (hw : ∀ w ∈ ws, Tx w) (hp : ∀ p ∈ P, Tx p) (lx : ∀ h : Hd, Lw h x) (tq : Tx q') :
    ∃ b : PapS, PapB ts g mo b ∧ F_p_soonest [.tup [x, .tup (ws.map T), .ref n], T g, T q', FQ mo] h = .ok (optD (fmP b q')) h := by
  have gx := L.gx
  obtain ⟨b, pb, eb⟩ := p_paper_of_ok L q hw hp lx
  refine ⟨b, pb, ?_⟩
  simp only [F_p_soonest, B_p_soonest]
  walk_at "evj"
  rw [eb]
  walk_at "evj"
  unfold fmP
  cases e : getP b q' with
  | none =>
    rw [Option.isSome_none]
    walk_at "evj"
  | some z =>
    rw [Option.isSome_some]
    walk_at "evj"
    rw [e]
    walk_at "evj"
theorem eqFq_nil {h : Hd} {n m : Nat} {α : Type} {f : α → Rat} {ls : List α} [q1 : Ls h n (ls.map fun z => FQ (f z))] [q2 : Ls h m []] : dEq (.ref n) (.ref m) h = .ok (.bl (decide (ls.length = 0))) h := by
  have a : (ls.map fun z => FQ (f z)).all (D.pl 2) = true := by
    rw [List.all_map, List.all_eq_true]
    intro w hw
    rfl
  show dEqn false _ _ h = _
  rw [eqn_lst (neg := false) (k := 2) (by decide) a rfl]
  cases ls <;> simp
theorem day_ok {p n : Nat} {h : Hd} {c : PS} {N : Nu} {x w : D} (v : PotI c) (pl : PL p h) (o : N.OkY) (q : Ob h n (.dK (tiesK N.ties))) (ne : Ne2 p n) (lx : ∀ h : Hd, Lw h x) (lw : ∀ h : Hd, Lw h w) : ∃ (z : Int) (c' : PS), PotI c' ∧ 0 ≤ z ∧ z ≤ 1000 ∧ F_day [.ref p, .tup [x, w, .ref n]] (HP h p c) = .ok (FQ (Rat.divInt z N.d)) (HP h p c') := by
  have d1 := o.d1
  have d2 := o.d2
  have nl := q.lt
  have lt5 : N.ts.length ≤ 5 := by
    obtain ⟨m, m1, m2, e⟩ := o.tn
    have := congrArg List.length e
    rw [List.length_map, List.length_take] at this
    simp only [List.length_cons, List.length_nil] at this
    omega
  simp only [F_day, B_day]
  generalize hK : sSeq (sIf _ _ _) _ = K
  walk_at "evj"
  generalize hR : forD _ _ _ _ _ _ = R
  obtain ⟨A, hA⟩ : ∃ A, A = HP (h.set n (MO.dF (tiesK N.ties))) p c := ⟨_, rfl⟩
  have lA : A.length = h.length := by rw [hA, HP_len_I, List.length_set]
  rw [← hA] at hR
  obtain ⟨s2, h2, rfl, f, g', L, hf, ef, hL, lL, rfl, rfl⟩ := forD_go (xs := N.ties) (emb := TieD) hR (fun pre s H => ∃ (f : Nat) (g' : Hd) (L : List Int), A.length ≤ f ∧ (A ++ g')[f]? = some (.lst (L.map fun z => FQ (Rat.divInt z N.d))) ∧ (∀ z ∈ L, 0 ≤ z ∧ z ≤ 1000) ∧ L.length ≤ 4 * pre.length ∧
      s = [some (D.ref p), some (D.tup [x, w, D.ref n]), some (D.ref f), none, none, none, none] ∧ H = A ++ g')
    ⟨A.length, [.lst []], [], Nat.le_refl _, by rw [get_at0]; rfl, by simp, by simp, by rw [lA], rfl⟩ (fun _ _ _ _ => trivial) (fun pre t post s H hx ⟨f, g', L, hf, ef, hL, lL, e1, eH⟩ => by
    subst e1 eH
    have lp := congrArg List.length hx
    unfold Nu.ties at lp
    rw [List.length_map, List.length_append, List.length_cons] at lp
    obtain ⟨u, hu, rfl⟩ := List.mem_map.mp (show t ∈ N.ts.map (tieU N.d) by show t ∈ N.ties; rw [hx]; simp)
    have ou := o.ok u hu
    obtain ⟨H0, eH0⟩ : ∃ H0, H0 = A ++ g' := ⟨_, rfl⟩
    have lH0 : A.length ≤ H0.length := by rw [eH0, List.length_append]; omega
    rw [← eH0] at ef ⊢
    have qf : Ls H0 f (L.map fun z => FQ (Rat.divInt z N.d)) := ⟨ef⟩
    have lu := ou.ln
    walk_at "evj"
    rw [show (tieU N.d u).rs.map QdD = u.us.map fun v => QdD (uR N.d v) by show (u.us.map (uR N.d)).map QdD = _; rw [List.map_map]; rfl]
    rw [kLc_map (xs := u.us) (emb := fun v => QdD (uR N.d v)) (h := H0) (p := fun v => decide ((uR N.d v).2.1.num > 0)) (f := fun v => FQ (Rat.divInt v.2.1 N.d)) (by omega) (fun _ => trivial) (fun v hv acc => ⟨_, rfl, by
      walk_at "evj", fun _ => by
      walk_at "evj"
      rfl⟩)]
    have l2 : (u.us.filter fun v => decide ((uR N.d v).2.1.num > 0)).length ≤ 4 := Nat.le_trans (List.length_filter_le _ _) lu
    have h2 : ∀ z ∈ (u.us.filter fun v => decide ((uR N.d v).2.1.num > 0)).map (fun v => v.2.1), 0 ≤ z ∧ z ≤ 1000 := fun z hz => by
      obtain ⟨v, hv, rfl⟩ := List.mem_map.mp hz
      have := ou.us v (List.mem_filter.mp hv).1
      exact ⟨Int.le_trans this.1 this.2.1, this.2.2.2.2.2.1⟩
    rw [show (u.us.filter fun v => decide ((uR N.d v).2.1.num > 0)).map (fun v => FQ (Rat.divInt v.2.1 N.d)) = ((u.us.filter fun v => decide ((uR N.d v).2.1.num > 0)).map (fun v => v.2.1)).map fun z => FQ (Rat.divInt z N.d) by rw [List.map_map]; rfl]
    have l3 : ((u.us.filter fun v => decide ((uR N.d v).2.1.num > 0)).map (fun v => v.2.1)).length ≤ 4 := by rw [List.length_map]; exact l2
    generalize (u.us.filter fun v => decide ((uR N.d v).2.1.num > 0)).map (fun v => v.2.1) = L2 at *
    walk_at "evj"
    rw [gcS_no (m := H0.length) (by simp) (by omega)]
    refine ⟨_, _, rfl, H0.length, g' ++ [.lst ((L ++ L2).map fun z => FQ (Rat.divInt z N.d))], L ++ L2, lH0, ?_, fun z hz => ?_, by simp; omega, rfl, ?_⟩
    · rw [← List.append_assoc, ← eH0, List.getElem?_append_right (Nat.le_refl _), Nat.sub_self]
      rfl
    · rcases List.mem_append.mp hz with hz | hz
      · exact hL z hz
      · exact h2 z hz
    · rw [← List.append_assoc, ← eH0, List.map_append])
  clear hR
  have qA : Ob (A ++ g') n (.dF (tiesK N.ties)) := by
    have : Ob A n (.dF (tiesK N.ties)) := by rw [hA]; infer_instance
    infer_instance
  have eA1 : (A ++ g').set n (MO.dK (tiesK N.ties)) = HP h p c ++ g' := by
    rw [List.set_append_left _ _ (by rw [lA]; exact nl)]
    congr 1
    rw [hA]
    unfold HP
    rw [List.set_comm _ _ (fun e => ne.ne e), List.set_set]
    congr 1
    exact List.ext_getElem? fun i => by
      by_cases c : n = i
      · subst c
        rw [List.getElem?_set_self nl, q.q]
      · rw [List.getElem?_set_ne c]
  have ef2 : (HP h p c ++ g')[f]? = some (.lst (L.map fun z => FQ (Rat.divInt z N.d))) := by
    rw [List.getElem?_append_right (by rw [HP_len_I]; omega), HP_len_I]
    rw [List.getElem?_append_right hf, lA] at ef
    exact ef
  walk_at "evj"
  rw [eA1]
  obtain ⟨g2, e1, e2⟩ := gcS_keepL (A := HP h p c ++ [MO.lst []]) (s := [some (D.ref p), some (D.tup [x, w, D.ref n]), some (D.ref f), none, none, none, none]) (by simp) ef2 (by simp)
  rw [e1]
  have qf : Ls (HP h p c ++ g2) f (L.map fun z => FQ (Rat.divInt z N.d)) := ⟨e2⟩
  subst hK
  walk_at "evj"
  have q1 : Ls (HP h p c ++ (g2 ++ [MO.lst []])) f (L.map fun z => FQ (Rat.divInt z N.d)) := by rw [← List.append_assoc]; infer_instance
  have q2 : Ls (HP h p c ++ (g2 ++ [MO.lst []])) (h.length + g2.length) [] := ⟨by
    rw [← List.append_assoc, show h.length + g2.length = (HP h p c ++ g2).length + 0 by rw [List.length_append, HP_len_I]; rfl, get_at]
    rfl⟩
  rw [eqFq_nil (q1 := q1) (q2 := q2)]
  have gcb : ∀ b : Bool, gc (HP h p c ++ g2) (.bl b) (HP h p c ++ (g2 ++ [MO.lst []])) = .ok (.bl b) (HP h p c ++ g2) := fun b => by
    rw [← List.append_assoc]
    exact gc_app rfl
  have qall : ∀ c : PS, Ls (HP h p c ++ g2) f (L.map fun z => FQ (Rat.divInt z N.d)) := fun c' => ⟨by
    rw [List.getElem?_append_right (by rw [HP_len_I]; omega), HP_len_I] at e2 ⊢
    exact e2⟩
  clear e1 e2
  have fin : ∀ c1 : PS, PotI c1 → ∃ (z : Int) (c' : PS), PotI c' ∧ 0 ≤ z ∧ z ≤ 1000 ∧ (Res.ok (FQ (Rat.divInt (36 + wkV c1 9) 1)) (HP h p (wkC c1 9)) : Res D) = .ok (FQ (Rat.divInt z N.d)) (HP h p c') := fun c1 v1 => by
    have b1 := wkV_bd (c := c1) (m := 9) (by decide)
    have v2 : PotI (wkC c1 9) := inferInstance
    generalize wkC c1 9 = c2 at v2 ⊢
    generalize wkV c1 9 = y at b1 ⊢
    have hz : (36 + y) * N.d ≤ 1000 := by
      have : N.d = 1 ∨ N.d = 2 ∨ N.d = 3 ∨ N.d = 4 := by omega
      rcases this with e | e | e | e <;> rw [e] <;> omega
    refine ⟨(36 + y) * N.d, c2, v2, Int.mul_nonneg (by omega) (by omega), hz, ?_⟩
    rw [(Rat.divInt_eq_divInt_iff (by decide) (by omega)).mpr (show (36 + y) * N.d = (36 + y) * N.d * 1 by omega)]
  by_cases c0 : L.length = 0
  · rw [decide_eq_true c0]
    walk_at "evj"
    rw [gcb]
    walk_at "evj"
    exact fin c v
  · rw [decide_eq_false c0]
    walk_at "evj"
    rw [gcb]
    have b1 := wkV_bd (c := c) (m := 3) (by decide)
    have v1 : PotI (wkC c 3) := inferInstance
    walk_at "evj"
    generalize wkC c 3 = c1 at v1 ⊢
    generalize wkV c 3 = y at b1 ⊢
    by_cases cy : 0 < y
    · rw [decide_eq_true cy]
      walk_at "evj"
      exact fin c1 v1
    · rw [decide_eq_false cy]
      have fL : Fa (1 ≤ (L.length : Int)) := ⟨by omega⟩
      have lt5b : N.ties.length ≤ 5 := by unfold Nu.ties; rw [List.length_map]; exact lt5
      have zL : ZI 20 (L.length : Int) := ⟨Sz.of (by omega) (by omega)⟩
      have b2 := wkV_bd (c := c1) fL.out
      have v2 : PotI (wkC c1 (L.length : Int)) := inferInstance
      have qc := qall c1
      walk_at "evj"
      simp only [List.length_map]
      walk_at "evj"
      have qc2 := qall (wkC c1 (L.length : Int))
      generalize wkC c1 (L.length : Int) = c2 at *
      generalize wkV c1 (L.length : Int) = i at *
      obtain ⟨hi, ei⟩ := at_idx (L := L) (f := fun z => FQ (Rat.divInt z N.d)) b2.1 b2.2
      walk_at "evj"
      rw [ei]
      walk_at "evj"
      obtain ⟨z0, z1⟩ := hL _ (List.getElem_mem hi)
      exact ⟨_, c2, v2, z0, z1, rfl⟩
theorem day_mul {y : Rat} {j : Nat} : Rat.divInt ((j : Int) * y.num) (y.den : Int) = y * ((j : Int) : Rat) := by
  have hy : ((y.den : Int) : Int) ≠ 0 := by have := y.den_pos; omega
  have e : ((j : Int) : Rat) = Rat.divInt (j : Int) 1 := divInt_1.symm
  rw [e, Rat.mul_comm]
  conv => rhs; rw [← Rat.num_divInt_den y]
  rw [Rat.divInt_mul_divInt, Int.one_mul]
theorem mvd_ok {h : Hd} {q : Rq} {f : Rat} {x0 x1 x2 x3 x4 x5 x6 x7 x8 x9 x12 : Option D} (o : RqOk 40 q) (f0 : 0 ≤ f) (zf : SzQ 45 f) :
    (eG (eA bTuple (aC (eLc (i1 (eV 11) iSeq) (gN 12) tT (eA (eF 2 F_more) (aC (eV 12) (aC (eV 10) aN))) [12]) aN))) [x0, x1, x2, x3, x4, x5, x6, x7, x8, x9, some (FQ f), some (QdD q), x12] h = .ok (QdD (shQ f q)) h := by
  obtain ⟨g0, _, _, _, _, g1, g2, g3⟩ := o.le
  obtain ⟨z1, z2, z3, z4⟩ := o.z
  walk_at "evj"
  rw [show iSeq (QdD q) h = .ok ([q.1, q.2.1, q.2.2.1, q.2.2.2].map FQ, fun _ => True) h from rfl]
  rw [kLc_all (h := h) (f := fun a => FQ (a + f)) (by simp) (fun _ => trivial) (fun y hy acc => ⟨_, rfl, rfl, by
    have h2 : 0 ≤ y ∧ SzQ 40 y := by
      simp only [List.mem_cons, List.not_mem_nil, or_false] at hy
      rcases hy with rfl | rfl | rfl | rfl
      · exact ⟨g0, z1⟩
      · exact ⟨g1, z2⟩
      · exact ⟨g2, z3⟩
      · exact ⟨g3, z4⟩
    walk_at "evj"
    rw [more_ok h2.1 f0 (h2.2.mono (by decide)) zf (by decide)]⟩)]
  walk_at "evj"
  rfl
theorem moved_ok {h : Hd} {n k : Nat} {ts : List Tie} {ws : List Pl} {e y : Rat} (N : DayOk ts ws e y) (q : Ob h n (.dK (tiesK ts))) (hk : k ≤ 8) :
    F_moved [.tup [FQ e, .tup (ws.map T), .ref n], FQ y, .int (k : Int)] h = .ok (.tup [FQ (y * ((k : Int) : Rat)), .tup (ws.map T), .ref h.length]) (h ++ [.dK (tiesK (ts.map (dayT y k)))]) := by
  have iy : ZQ 40 y := ⟨N.zy⟩
  have jy : Fa (0 ≤ y) := ⟨N.y0⟩
  have jk : Fa (0 ≤ ((k : Int) : Rat)) := ⟨nat_rat⟩
  have ik : ZQ 5 ((k : Int) : Rat) := ⟨nat_szq (by omega)⟩
  have ikk : ZI 5 (k : Int) := ⟨Sz.of (by omega) (by omega)⟩
  have lt := N.lt
  have nl := q.lt
  have y1 := Rat.num_nonneg.mpr N.y0
  have y2 : (1 : Int) ≤ (y.den : Int) := by have := y.den_pos; omega
  have eD : ∀ j : Nat, Rat.divInt ((j : Int) * y.num) (y.den : Int) = y * ((j : Int) : Rat) := fun j => day_mul
  simp only [F_moved, B_moved]
  generalize hK : sRet _ = K
  walk_at "evj"
  have lA : (h.set n (MO.dF (tiesK ts))).length = h.length := List.length_set
  obtain ⟨A, hA⟩ : ∃ A, A = h.set n (MO.dF (tiesK ts)) := ⟨_, rfl⟩
  have qA : Ob A n (.dF (tiesK ts)) := ⟨by rw [hA, List.getElem?_set_self nl]⟩
  rw [← hA] at lA ⊢
  rw [← lA]
  generalize hR : forD _ _ _ _ _ _ = R
  obtain ⟨s2, h2, rfl, rfl, rfl⟩ := forD_go (xs := ts) (emb := fun z => T z.nm) hR (fun pre s H => s = [some (D.tup [FQ e, D.tup (List.map T ws), D.ref n]), some (FQ y), some (D.int (k : Int)), some (D.ref A.length), none, none, none, none, none, none, none, none, none] ∧ H = A ++ [.dK (tiesK (pre.map (dayT y k)))])
    ⟨rfl, rfl⟩ (fun _ _ _ _ => trivial) (fun pre t post s H hx ⟨e1, eH⟩ => by
    subst e1 eH
    have ht : t ∈ ts := by rw [hx]; simp
    have i1 : Nm t.nm := ⟨(N.nm t ht).1⟩
    have i2 : Nm t.a := ⟨(N.nm t ht).2.1⟩
    have i3 : Nm t.b := ⟨(N.nm t ht).2.2⟩
    have fm := find_nm N.nd ht
    have wn : ∀ u ∈ pre, u.nm ≠ t.nm := fun u hu e => by
      have nd := N.nd
      rw [hx, List.map_append, List.map_cons, List.nodup_append] at nd
      exact nd.2.2 _ (List.mem_map.mpr ⟨u, hu, rfl⟩) _ (by simp) e
    rw [ev_turn_I]
    generalize hK2 : sAsg (eA mkT _) _ = K2
    walk_at "evj"
    rw [fm]
    walk_at "evj"
    generalize hR2 : forD _ _ _ _ _ _ = R2
    have ot := N.o t ht
    have lt4 := N.ln t ht
    obtain ⟨B, hB⟩ : ∃ B, B = A ++ [MO.dK (tiesK (pre.map (dayT y k)))] := ⟨_, rfl⟩
    have lB : B.length = A.length + 1 := by rw [hB, List.length_append]; rfl
    have eB : A ++ [MO.dK (tiesK (pre.map (dayT y k))), MO.lst []] = B ++ [MO.lst []] := by rw [hB, List.append_assoc]; rfl
    rw [eB] at hR2 ⊢
    obtain ⟨s3, h3, rfl, f, g', hf, ef, rfl, rfl⟩ := forD_go (xs := List.range k) (emb := fun i : Nat => D.int (i : Int)) hR2 (fun pre s H => ∃ (f : Nat) (g' : Hd), B.length ≤ f ∧ (B ++ g')[f]? = some (.lst ((pre.flatMap fun j : Nat => t.rs.map (shQ (y * ((j : Int) : Rat)))).map QdD)) ∧
        s = [some (D.tup [FQ e, D.tup (List.map T ws), D.ref n]), some (FQ y), some (D.int (k : Int)), some (D.ref A.length), some (T t.nm), some (T t.a), some (T t.b), some (RdsD t.rs), some (.ref f), none, none, none, none] ∧ H = B ++ g')
      ⟨B.length, [.lst []], Nat.le_refl _, by rw [get_at0]; rfl, by rw [lB], rfl⟩ (fun _ _ _ _ => trivial) (fun pre2 j post2 s H hx2 ⟨f, g', hf, ef, e1, eH⟩ => by
      subst e1 eH
      have hj : j < k := List.mem_range.mp (by rw [hx2]; simp)
      have lp2 := congrArg List.length hx2
      rw [List.length_range, List.length_append, List.length_cons] at lp2
      have lpre : (pre2.flatMap fun j : Nat => t.rs.map (shQ (y * ((j : Int) : Rat)))).length ≤ pre2.length * 20 := flat_lenK fun _ _ => by rw [List.length_map]; omega
      have jj : Fa (0 ≤ ((j : Int) : Rat)) := ⟨nat_rat⟩
      have ij : ZI 5 (j : Int) := ⟨Sz.of (by omega) (by omega)⟩
      have f0 : 0 ≤ y * ((j : Int) : Rat) := Rat.mul_nonneg N.y0 nat_rat
      have zf : SzQ 45 (y * ((j : Int) : Rat)) := N.zy.mul (nat_szq (by omega))
      obtain ⟨H0, eH0⟩ : ∃ H0, H0 = B ++ g' := ⟨_, rfl⟩
      have lH0 : B.length ≤ H0.length := by rw [eH0, List.length_append]; omega
      rw [← eH0] at ef ⊢
      have qf : Ls H0 f ((pre2.flatMap fun j : Nat => t.rs.map (shQ (y * ((j : Int) : Rat)))).map QdD) := ⟨ef⟩
      rw [ev_turn_I]
      walk_at "evj"
      rw [low_ok (Int.mul_nonneg (by omega) y1) y2 N.zy.2 (by decide), eD]
      walk_at "evj"
      rw [kLc_all (xs := t.rs) (h := H0) (f := fun q => QdD (shQ (y * ((j : Int) : Rat)) q)) (by omega) (fun _ => trivial) (fun q hq acc => ⟨_, rfl, rfl, mvd_ok (ot q hq) f0 zf⟩)]
      walk_at "evj"
      rw [gcS_no (m := H0.length) (by simp) (by omega)]
      refine ⟨_, _, rfl, H0.length, g' ++ [.lst (((pre2 ++ [j]).flatMap fun j : Nat => t.rs.map (shQ (y * ((j : Int) : Rat)))).map QdD)], lH0, ?_, rfl, ?_⟩
      · rw [← List.append_assoc, ← eH0, List.getElem?_append_right (Nat.le_refl _), Nat.sub_self]
        rfl
      · rw [← List.append_assoc, ← eH0, List.flatMap_append, List.map_append, List.flatMap_singleton, List.map_map]
        rfl)
    clear hR2
    walk_at "evj"
    obtain ⟨g2, e1, e2⟩ := gcS_keepL (A := B ++ [MO.lst []]) (s := [some (D.tup [FQ e, D.tup (List.map T ws), D.ref n]), some (FQ y), some (D.int (k : Int)), some (D.ref A.length), some (T t.nm), some (T t.a), some (T t.b), some (RdsD t.rs), some (D.ref f), none, none, none, none]) (by simp) ef (by simp)
    rw [e1]
    subst hK2
    have qf : Ls (B ++ g2) f (((List.range k).flatMap fun j : Nat => t.rs.map (shQ (y * ((j : Int) : Rat)))).map QdD) := ⟨e2⟩
    have qd : Ob (B ++ g2) A.length (.dK (tiesK (pre.map (dayT y k)))) := ⟨by rw [hB, List.append_assoc, List.getElem?_append_right (Nat.le_refl _), Nat.sub_self]; rfl⟩
    have qn : Ob (B ++ g2) n (.dF (tiesK ts)) := by rw [hB, List.append_assoc]; infer_instance
    obtain ⟨H1, eH1⟩ : ∃ H1, H1 = B ++ g2 := ⟨_, rfl⟩
    rw [← eH1] at qf qd qn ⊢
    walk_at "evj"
    have lp := congrArg List.length hx
    rw [List.length_append, List.length_cons] at lp
    rw [dSetD_I (q := qd) (by rw [dct_len, List.length_map]; omega), show D.tup [T t.a, T t.b, D.tup (List.map QdD (List.flatMap (fun j : Nat => List.map (shQ (y * ((j : Int) : Rat))) t.rs) (List.range k)))] = TieD (dayT y k t) from rfl, show kS t.nm = kS (Tie.nm (dayT y k t)) from rfl, putD_new (z := dayT y k t) (fun u hu e => by
      obtain ⟨v, hv, rfl⟩ := List.mem_map.mp hu
      exact wn v hv e), show pre.map (dayT y k) ++ [dayT y k t] = (pre ++ [t]).map (dayT y k) by rw [List.map_append]; rfl]
    rw [show H1.set A.length (MO.dK (dctK Tie.nm TieD ((pre ++ [t]).map (dayT y k)))) = A ++ .dK (tiesK ((pre ++ [t]).map (dayT y k))) :: g2 by
      rw [eH1, hB, List.append_assoc, List.set_append_right _ _ (Nat.le_refl _), Nat.sub_self]
      rfl]
    walk_at "evj"
    exact ⟨_, _, rfl, rfl, rfl⟩)
  clear hR
  have eqA : A.set n (MO.dK (tiesK ts)) = h := by
    rw [hA, List.set_set]
    exact List.ext_getElem? fun i => by
      by_cases c : n = i
      · subst c
        rw [List.getElem?_set_self nl, q.q]
      · rw [List.getElem?_set_ne c]
  walk_at "evj"
  rw [eqA, lA]
  walk_at "evj"
  subst hK
  walk_at "evj"
  rw [low_ok (Int.mul_nonneg (by omega) y1) y2 N.zy.2 (by decide), eD]
  walk_at "evj"
  exact gcT_net inferInstance inferInstance cl_dK
theorem ev_isN_I {a d : Addr} {b : Bool} {fs : List Str} {vs : List D} {x0 x1 x2 x4 : Option D} {h : Hd} : eIsN 3 a d b [x0, x1, x2, some (.exn a d fs vs), x4] h = .ok (.bl b) h := by
  unfold eIsN
  simp
theorem ev_fld_I {a d : Addr} {v : D} {x0 x1 x2 x4 : Option D} {h : Hd} : eFld 3 a d "name" [x0, x1, x2, some (.exn a d [Str.ofString "name"] [v]), x4] h = .ok v h := by
  unfold eFld lookF
  simp
local macro_rules | `(tactic| walk_at "evj") => `(tactic| try simp -implicitDefEqProofs (disch := first | (simp only [List.length_cons, List.length_nil, Nat.reduceAdd, Nat.reduceLeDiff]; done) | exact tyM_I | exact tyM_T | decide | omega | (simp only [List.length_map, List.length_cons, List.length_nil, List.length_append, List.length_replicate, List.length_take, List.length_dropLast]; omega) | assumption) only [evB1, evB2, evB4, evB5, evB6, ev_isN_I, ev_fld_I, Bool.false_xor, Bool.true_xor, beq_self_eq_true, Bool.true_and, Bool.and_true, Bool.false_and, Bool.and_false, Bool.true_or, Bool.or_true, Bool.false_or, Bool.or_false, Int.reduceToNat, Int.reducePow, Int.reduceSub, Int.reduceAdd, Int.reduceNeg, Int.reduceMul, List.singleton_append, k_NO_TIE, dIx_FQ0, dIx_FQ1, dEq_FQ, dNe_FQ, FQ_01, List.append_assoc, List.length_append, Nat.add_assoc, get_at, get_at0, Nat.reduceLeDiff, asO_int, Res.bind_ok, b1_ok, b2_ok, bAnd_ok, bOr_ok, bNot_ok, bAndV_ok, bNotV_ok, bIf_ok, bC_ok, bC1_ok, bM_ok, bM1_ok, bSl_ok, bSl1_ok, bSl2_ok, kAsg_ok, bG_ok, bS1_ok, bS2_ok, bS3_ok, kSet_ok, kRet_ok, kExp_ok, kIf_ok, kFor_ok, kPar_ok, kPar1_ok, SR.seq_nx, SR.seq_rt, SR.fin_rt, toS_ok, slAt_some, optR_some, asB_bl, asT_bl, dAdd_ii, dSub_ii, dLt_ii, dGt_ii, dGe_ii, bMax2_ii, bLen_r, dIx_t, dIx_r, at_0, at_1, at_2, dEq_ii, iSeq_t, List.map, List.length_cons, List.length_nil, List.replicate_succ, List.replicate_zero, List.cons_append, List.nil_append, List.append_nil, List.getElem?_cons_zero, List.getElem?_cons_succ, List.set_cons_zero, List.set_cons_succ, Nat.reduceSub, Nat.reduceAdd, Nat.sub_self, Bool.not_true, Bool.not_false, if_true, if_false, reduceIte, Bool.false_eq_true, decide_true, decide_false])
theorem sTryE_exc {i : Nat} {b : SM} {m : String} {su : Addr → Addr → SM} {s s1 : Sl} {h h1 : Hd} {fl : List (Str × D)} (e : b s h = .exc ⟨.type m, some fl⟩ s1 h1) : sTryE i b m su s h = anyB fun a d => (su a d (s1.set i (some (.exn a d (fl.map Prod.fst) (fl.map Prod.snd)))) h1).clr i := by
  unfold sTryE
  rw [e]
  exact if_pos rfl
theorem sTryE_rt {i : Nat} {b : SM} {m : String} {su : Addr → Addr → SM} {s : Sl} {h h1 : Hd} {d : D} (e : b s h = .rt d h1) : sTryE i b m su s h = .rt d h1 := by
  unfold sTryE
  rw [e]
theorem told_ok {h : Hd} {n k : Nat} {ts : List Tie} {ws : List Pl} {e y : Rat} (N : DayOk ts ws e y) (q : Ob h n (.dK (tiesK ts))) (hk : k ≤ 8) (hf : (tiesBy ts (sortN (ts.map Tie.nm))).find? (fun t => !mayB ws y t) = none) :
    F_told [.tup [FQ e, .tup (ws.map T), .ref n], FQ y, .int (k : Int)] h = .ok (.tup [FQ (y * ((k : Int) : Rat)), .tup (ws.map T), .ref h.length]) (h ++ [.dK (tiesK (ts.map (dayT y k)))]) := by
  simp only [F_told, B_told]
  walk_at "evj"
  rw [sTryE_rt (d := .tup [FQ (y * ((k : Int) : Rat)), .tup (ws.map T), .ref h.length]) (h1 := h ++ [.dK (tiesK (ts.map (dayT y k)))]) (by
    walk_at "evj"
    rw [p_days_ok N q hk hf]
    walk_at "evj")]
  walk_at "evj"
  exact gcT_net inferInstance inferInstance cl_dK
theorem told_bad {h : Hd} {n k : Nat} {ts : List Tie} {ws : List Pl} {e y : Rat} {t : Tie} (N : DayOk ts ws e y) (q : Ob h n (.dK (tiesK ts))) (hf : (tiesBy ts (sortN (ts.map Tie.nm))).find? (fun t => !mayB ws y t) = some t) :
    F_told [.tup [FQ e, .tup (ws.map T), .ref n], FQ y, .int (k : Int)] h = .ok (.tup [.ref h.length, T t.nm]) (h ++ [.lst [.bl true, .bl false, .bl false, .bl false, .bl false, .bl true]]) := by
  obtain ⟨g, ed⟩ := p_days_bad (k := k) N q hf
  simp only [F_told, B_told]
  walk_at "evj"
  rw [sTryE_exc (fl := [(Str.ofString "name", T t.nm)]) (s1 := [some (.tup [FQ e, .tup (ws.map T), .ref n]), some (FQ y), some (.int (k : Int)), none, none]) (h1 := h ++ g) (by
    walk_at "evj"
    rw [ed]
    walk_at "evj"
    rfl)]
  obtain ⟨H, hH⟩ : ∃ H, H = h ++ g := ⟨_, rfl⟩
  have lH : H.length = h.length + g.length := by rw [hH, List.length_append]
  rw [← hH]
  rw [anyB_ok (r := .rt (.tup [.ref (H.length + 2), T t.nm]) (H ++ [.lst [.bl true, .bl false, .bl false, .bl false], .lst [.bl false, .bl true], .lst [.bl true, .bl false, .bl false, .bl false, .bl false, .bl true]])) (fun a d => by
    walk_at "evj"
    rfl)]
  show gcT h _ _ = _
  subst hH
  have q1 : (h ++ g ++ [MO.lst [.bl true, .bl false, .bl false, .bl false], .lst [.bl false, .bl true], .lst [.bl true, .bl false, .bl false, .bl false, .bl false, .bl true]])[h.length + g.length + 2]? = some (.lst [.bl true, .bl false, .bl false, .bl false, .bl false, .bl true]) := by
    rw [← List.length_append, get_at]
    rfl
  rw [List.length_append]
  refine gcT_cl [h.length + g.length + 2] (by rw [List.append_assoc]; exact okb_tail) ?_ (by simp) (by simp) (fun j hj => ?_) ?_ ?_ ?_
  · show newR h.length [h.length + g.length + 2] = _
    rw [newR_cons, newR_nil, if_pos (by omega)]
  · rw [List.mem_singleton.mp hj]
    exact ⟨by omega, _, q1, rfl⟩
  · show ((decide (h.length + g.length + 2 < h.length) || [h.length + g.length + 2].contains (h.length + g.length + 2)) && (true && true)) = true
    simp
  · show D.tup [.ref (rn h.length [h.length + g.length + 2] (h.length + g.length + 2)), T t.nm] = _
    unfold rn
    rw [if_neg (by omega)]
    simp [List.idxOf_cons]
  · rw [List.append_assoc, List.take_left]
    simp only [List.map_cons, List.map_nil]
    rw [← List.append_assoc, q1]
    rfl
end DL
namespace DL
open PySem PySem.Spec L2
local macro_rules | `(tactic| walk_at "evn") => `(tactic| try simp -implicitDefEqProofs only [evB1, List.append_assoc, List.length_append, Nat.add_assoc, get_at, get_at0, Nat.reduceLeDiff, asO_int, Res.bind_ok, b1_ok, b2_ok, bAnd_ok, bOr_ok, bNot_ok, bAndV_ok, bNotV_ok, bIf_ok, bC_ok, bC1_ok, bM_ok, bM1_ok, bSl_ok, bSl1_ok, bSl2_ok, kAsg_ok, bG_ok, bS1_ok, bS2_ok, bS3_ok, kSet_ok, kRet_ok, kExp_ok, kIf_ok, kFor_ok, kPar_ok, kPar1_ok, SR.seq_nx, SR.seq_rt, SR.fin_rt, toS_ok, slAt_some, optR_some, asB_bl, asT_bl, dAdd_ii, dSub_ii, dLt_ii, dGt_ii, dGe_ii, bMax2_ii, bLen_r, dIx_t, dIx_r, at_0, at_1, at_2, dEq_ii, iSeq_t, List.map, List.length_cons, List.length_nil, List.replicate_succ, List.replicate_zero, List.cons_append, List.nil_append, List.append_nil, List.getElem?_cons_zero, List.getElem?_cons_succ, List.set_cons_zero, List.set_cons_succ, Nat.reduceSub, Nat.reduceAdd, Nat.sub_self, Bool.not_true, Bool.not_false, if_true, if_false, reduceIte, Bool.false_eq_true, decide_true, decide_false])
local macro_rules | `(tactic| walk_at "evj") => `(tactic| try simp -implicitDefEqProofs (disch := first | (simp only [List.length_cons, List.length_nil, Nat.reduceAdd, Nat.reduceLeDiff]; done) | exact tyM_I | exact tyM_T | decide | omega | (simp only [List.length_map, List.length_cons, List.length_nil, List.length_append, List.length_replicate, List.length_take, List.length_dropLast]; omega) | assumption) only [evB1, evB2, evB4, evB5, evB6, ev_isN_I, ev_fld_I, Bool.false_xor, Bool.true_xor, beq_self_eq_true, Bool.true_and, Bool.and_true, Bool.false_and, Bool.and_false, Bool.true_or, Bool.or_true, Bool.false_or, Bool.or_false, Int.reduceToNat, Int.reducePow, Int.reduceSub, Int.reduceAdd, Int.reduceNeg, Int.reduceMul, List.singleton_append, k_NO_TIE, dIx_FQ0, dIx_FQ1, dEq_FQ, dNe_FQ, FQ_01, List.append_assoc, List.length_append, Nat.add_assoc, get_at, get_at0, Nat.reduceLeDiff, asO_int, Res.bind_ok, b1_ok, b2_ok, bAnd_ok, bOr_ok, bNot_ok, bAndV_ok, bNotV_ok, bIf_ok, bC_ok, bC1_ok, bM_ok, bM1_ok, bSl_ok, bSl1_ok, bSl2_ok, kAsg_ok, bG_ok, bS1_ok, bS2_ok, bS3_ok, kSet_ok, kRet_ok, kExp_ok, kIf_ok, kFor_ok, kPar_ok, kPar1_ok, SR.seq_nx, SR.seq_rt, SR.fin_rt, toS_ok, slAt_some, optR_some, asB_bl, asT_bl, dAdd_ii, dSub_ii, dLt_ii, dGt_ii, dGe_ii, bMax2_ii, bLen_r, dIx_t, dIx_r, at_0, at_1, at_2, dEq_ii, iSeq_t, List.map, List.length_cons, List.length_nil, List.replicate_succ, List.replicate_zero, List.cons_append, List.nil_append, List.append_nil, List.getElem?_cons_zero, List.getElem?_cons_succ, List.set_cons_zero, List.set_cons_succ, Nat.reduceSub, Nat.reduceAdd, Nat.sub_self, Bool.not_true, Bool.not_false, if_true, if_false, reduceIte, Bool.false_eq_true, decide_true, decide_false])
theorem later_ok {h : Hd} {n1 n2 m : Nat} {x1 x2 : D} {ts1 ts2 : List Tie} {ws P : List Pl} {t y : Rat} (L1 : SnOk ts1 ws P [97] t m) (L2 : SnOk ts2 ws P [97] (t + y) m) (hm : m ≤ 200) (q1 : Ob h n1 (.dK (tiesK ts1))) (q2 : Ob h n2 (.dK (tiesK ts2))) (hw : ∀ w ∈ ws, Tx w) (hp : ∀ p ∈ P, Tx p) (lx1 : ∀ h : Hd, Lw h x1) (lx2 : ∀ h : Hd, Lw h x2) (y0 : 0 ≤ y) (zy : SzQ 40 y)
    (sh : ∀ b1 b2, PapB ts1 [97] t b1 → PapB ts2 [97] (t + y) b2 → ∀ q, fmP b2 q = (fmP b1 q).map (· + y)) :
    F_later [.tup [x1, .tup (ws.map T), .ref n1], .tup [x2, .tup (ws.map T), .ref n2], FQ y, FQ t] h = .ok (.bl true) h := by
  have t0 := L1.m0
  have zt := L1.zm
  simp only [F_later, B_later]
  walk_at "evj"
  rw [show ([T [97], T [98], T [99], T [100]] : List D) = ([[97], [98], [99], [100]] : List Pl).map T from rfl]
  generalize hR : forD _ _ _ _ _ _ = R
  obtain ⟨s2, h2, rfl, rfl, rfl⟩ := forD_go (xs := ([[97], [98], [99], [100]] : List Pl)) (emb := T) hR (fun pre s H => s = [some (.tup [x1, .tup (ws.map T), .ref n1]), some (.tup [x2, .tup (ws.map T), .ref n2]), some (FQ y), some (FQ t), none, none] ∧ H = h ++ [.lst (([[97], [98], [99], [100]] : List Pl).map T)])
    ⟨rfl, rfl⟩ (fun _ s H ⟨_, e⟩ => by rw [e]; exact Ls.q) (fun pre p post s H hx ⟨e1, eH⟩ => by
    subst e1 eH
    have hp4 : p ∈ ([[97], [98], [99], [100]] : List Pl) := by rw [hx]; simp
    have np : NmOk p := by
      simp only [List.mem_cons, List.not_mem_nil, or_false] at hp4
      unfold NmOk
      rcases hp4 with rfl | rfl | rfl | rfl <;> simp
    have ip : Nm p := ⟨np⟩
    have tp : Tx p := tx_nm (w := p)
    clear hx hp4 hR
    have r1 : Ob (h ++ [MO.lst (([[97], [98], [99], [100]] : List Pl).map T)]) n1 (.dK (tiesK ts1)) := inferInstance
    have r2 : Ob (h ++ [MO.lst (([[97], [98], [99], [100]] : List Pl).map T)]) n2 (.dK (tiesK ts2)) := inferInstance
    generalize h ++ [MO.lst (([[97], [98], [99], [100]] : List Pl).map T)] = H at *
    obtain ⟨b1, p1, e1⟩ := p_soonest_ok (q' := p) L1 r1 hw hp lx1 tp
    obtain ⟨b2, p2, e2⟩ := p_soonest_ok (q' := p) L2 r2 hw hp lx2 tp
    have es := sh b1 b2 p1 p2 p
    rw [es] at e2
    walk_at "evj"
    rw [e1]
    cases hv : fmP b1 p with
    | none =>
      rw [hv] at e2
      walk_at "evj"
      rw [more_ok t0 y0 (zt.mono (by omega)) (zy.mono (k := 40) (l := 1000) (by omega)) (by omega)]
      walk_at "evj"
      rw [e2]
      walk_at "evj"
      exact ⟨_, _, rfl, rfl, rfl⟩
    | some v =>
      rw [hv] at e2
      obtain ⟨v0, zv, _⟩ := L1.val p1.sd hv
      walk_at "evj"
      rw [more_ok (Rat.le_trans t0 v0) y0 (zv.mono (by omega)) (zy.mono (k := 40) (l := 1000) (by omega)) (by omega)]
      walk_at "evj"
      rw [more_ok t0 y0 (zt.mono (by omega)) (zy.mono (k := 40) (l := 1000) (by omega)) (by omega)]
      walk_at "evj"
      rw [e2]
      walk_at "evj"
      exact ⟨_, _, rfl, rfl, rfl⟩)
  clear hR
  walk_at "evj"
theorem rw_tieN {κ : Bool} {t : Tie} {ts : List Tie} {ws : List Pl} {n : Nat} (N : NetN ts ws) (ht : t ∈ ts) : Rw κ (tieP' t) 9840 (n + 4) := by
  obtain ⟨_, n2, n3⟩ := N.nm t ht
  have i2 : Nm t.a := ⟨n2⟩
  have i3 : Nm t.b := ⟨n3⟩
  unfold tieP'
  refine .up (.tup (w := 3275) (c := 3) (n := n + 3) (fun p hp => ?_) (by simp)) (by decide) (Nat.le_refl _)
  simp only [List.mem_cons, List.not_mem_nil, or_false] at hp
  rcases hp with rfl | rfl | rfl
  · exact .up (rw_nm (n := n) n2.2.1 (tx_nm (w := t.a))) (by decide) (by omega)
  · exact .up (rw_nm (n := n) n3.2.1 (tx_nm (w := t.b))) (by decide) (by omega)
  · refine .tup (w := 407) (c := 8) (n := n + 2) (fun p hp => ?_) (by rw [List.length_map]; exact N.lr t ht)
    obtain ⟨q, hq, rfl⟩ := List.mem_map.mp hp
    exact rw_qd (k := 40) (N.sz t ht q hq).2 (by decide)
theorem rw_netN {e : Rat} {ws : List Pl} {ts : List Tie} (N : NetN ts ws) (ez : SzQ 40 e) : Rw true (netP e ws ts) 300000 8 := by
  refine .up (.tup (w := 99500) (c := 3) (n := 7) (fun p hp => ?_) (by simp)) (by decide) (by decide)
  simp only [List.mem_cons, List.not_mem_nil, or_false] at hp
  rcases hp with rfl | rfl | rfl
  · exact .up (rw_fq (n := 0) ez (by decide)) (by decide) (by decide)
  · refine .up (.tup (w := 82) (c := 9) (n := 0) (fun p hp => ?_) (by rw [List.length_map]; exact N.lw)) (by decide) (by decide)
    obtain ⟨w, hw, rfl⟩ := List.mem_map.mp hp
    have i : Nm w := ⟨N.wn w hw⟩
    exact rw_nm (N.wn w hw).2.1 (tx_nm (w := w))
  · refine .up (.dic (w := 82) (v := 9840) (c := 10) (n := 4) (fun p hp => ?_) (fun p hp => ?_) (by rw [List.length_map]; exact N.lt)) (by decide) (by decide)
    · obtain ⟨t, ht, rfl⟩ := List.mem_map.mp hp
      have i : Nm t.nm := ⟨(N.nm t ht).1⟩
      exact rw_nm (N.nm t ht).1.2.1 (tx_nm (w := t.nm))
    · obtain ⟨t, ht, rfl⟩ := List.mem_map.mp hp
      exact rw_tieN (n := 0) N ht
theorem Nu.OkY.lp {N : Nu} (o : N.OkY) : N.ps.length ≤ 4 ∧ ∀ w ∈ N.ps, NmOk w := by
  obtain ⟨n, n1, n2, e⟩ := o.ps
  refine ⟨by rw [e, List.length_take]; omega, fun w hw => ?_⟩
  rw [e] at hw
  have := List.mem_of_mem_take hw
  simp only [List.mem_cons, List.not_mem_nil, or_false] at this
  unfold NmOk
  rcases this with rfl | rfl | rfl | rfl <;> simp
theorem Nu.OkY.nms {N : Nu} : N.ties.map Tie.nm = N.ts.map Tu.nm := by
  unfold Nu.ties
  rw [List.map_map]
  rfl
theorem Nu.OkY.nd {N : Nu} (o : N.OkY) : (N.ties.map Tie.nm).Nodup := by
  obtain ⟨n, n1, n2, e⟩ := o.tn
  rw [Nu.OkY.nms, e]
  exact List.Pairwise.sublist (List.take_sublist _ _) (by decide)
theorem Nu.OkY.lt {N : Nu} (o : N.OkY) : 1 ≤ N.ties.length ∧ N.ties.length ≤ 5 := by
  obtain ⟨n, n1, n2, e⟩ := o.tn
  have := congrArg List.length e
  rw [← Nu.OkY.nms, List.length_map, List.length_take] at this
  simp only [List.length_cons, List.length_nil] at this
  omega
theorem Nu.OkY.tw {N : Nu} (o : N.OkY) : ∀ w ∈ N.ws, Tx w := fun w hw => by
  have : Nm w := ⟨o.lp.2 w (o.ws w hw)⟩
  exact inferInstance
theorem Nu.OkY.zd {N : Nu} (o : N.OkY) : Sz 40 N.d := Sz.of (by have := o.d1; omega) (by have := o.d2; omega)
theorem Nu.OkY.ez {N : Nu} (o : N.OkY) : SzQ 40 N.end := by
  show SzQ 40 (Rat.divInt N.e N.d)
  rw [o.e]
  exact SzQ.divInt o.d1 (by unfold Sz; decide) o.zd
theorem Nu.OkY.rk {N : Nu} (o : N.OkY) : ∀ t ∈ N.ties, (∀ q ∈ t.rs, RqOk 40 q) ∧ t.rs.length ≤ 4 ∧ NmOk t.nm ∧ NmOk t.a ∧ NmOk t.b ∧ t.a ∈ N.ps ∧ t.b ∈ N.ps := fun t ht => by
  obtain ⟨u, hu, rfl⟩ := List.mem_map.mp ht
  have q := o.ok u hu
  refine ⟨fun r hr => ?_, by show (u.us.map (uR N.d)).length ≤ 4; rw [List.length_map]; exact q.ln, q.nm, o.lp.2 _ q.a, o.lp.2 _ q.b, q.a, q.b⟩
  obtain ⟨v, hv, rfl⟩ := List.mem_map.mp hr
  have k : RdK (uR N.d v) := ⟨N.d, v, o.d1, by have := o.d2; omega, (q.us v hv).mono (by decide), rfl⟩
  exact k.ok.1
theorem Nu.OkY.day {N : Nu} (o : N.OkY) {z : Int} (z0 : 0 ≤ z) (z1 : z ≤ 1000) : DayOk N.ties N.ws N.end (Rat.divInt z N.d) :=
  ⟨o.nd, by have := o.lt; omega, fun t ht => by obtain ⟨_, _, a, b, c, _⟩ := o.rk t ht; exact ⟨a, b, c⟩, o.tw, fun t ht => (o.rk t ht).1, fun t ht => (o.rk t ht).2.1, divInt_nonneg z0 o.d1, SzQ.divInt o.d1 (Sz.of (by omega) (by omega)) o.zd⟩
theorem repr_nY {N : Nu} (o : N.OkY) : ∃ t : Str, SgOk t ∧ ∀ (h : Hd) (k : Nat), Ob h k (.dK (tiesK N.ties)) → bReprN [.tup [FQ N.end, .tup (N.ws.map T), .ref k]] h = .ok (.str t) h := by
  have NN : NetN N.ties N.ws := ⟨fun t ht => by obtain ⟨_, _, a, b, c, _⟩ := o.rk t ht; exact ⟨a, b, c⟩, fun w hw => o.lp.2 w (o.ws w hw), fun t ht => by have := (o.rk t ht).2.1; omega, by have := o.wl; omega, by have := o.lt; omega, fun t ht q hq => by
    have o := (o.rk t ht).1 q hq
    obtain ⟨_, _, _, _, _, a1, a2, a3⟩ := o.le
    exact ⟨⟨o.nn, a1, a2, a3⟩, o.z⟩⟩
  have r := rw_netN NN o.ez
  exact ⟨_, r.ok.2.2.2, fun h k q => reprN_of (p := netP N.end N.ws N.ties) (pyN_net (n := 13)) (r.okP (by decide) (by decide))⟩
def shU (f : Int) (u : Ru) : Ru := (u.1 + f, u.2.1 + f, u.2.2.1 + f, u.2.2.2 + f)
theorem div_sh {a z d : Int} {j : Nat} (d1 : 1 ≤ d) : Rat.divInt a d + Rat.divInt z d * ((j : Int) : Rat) = Rat.divInt (a + z * (j : Int)) d := by
  have d0 : (d : Rat) ≠ 0 := by
    have : (0 : Rat) < (d : Rat) := cast_pos (by omega)
    grind
  simp only [Rat.divInt_eq_div, Rat.intCast_add, Rat.intCast_mul]
  grind
theorem sh_uR {z d : Int} {j : Nat} {u : Ru} (d1 : 1 ≤ d) : shQ (Rat.divInt z d * ((j : Int) : Rat)) (uR d u) = uR d (shU (z * (j : Int)) u) := by
  unfold shQ uR shU
  simp only [div_sh d1]
theorem mem_days {R : List Rq} {y : Rat} {k : Nat} {q : Rq} : q ∈ daysR R y k ↔ ∃ j, j < k ∧ ∃ p ∈ R, shQ (y * ((j : Int) : Rat)) p = q := by
  unfold daysR
  simp only [List.mem_flatMap, List.mem_range, List.mem_map]
theorem len_days {R : List Rq} {y : Rat} {k : Nat} : (daysR R y k).length = k * R.length := by
  unfold daysR
  rw [List.length_flatMap]
  simp only [List.length_map]
  rw [List.map_const', List.length_range, List.sum_replicate_nat]
theorem day_tie {N : Nu} {z : Int} {k : Nat} (o : N.OkY) (z0 : 0 ≤ z) (z1 : z ≤ 1000) (hk : k ≤ 5) {t : Tie} (ht : t ∈ N.ties) (hm : mayB N.ws (Rat.divInt z N.d) t = true) : (dayT (Rat.divInt z N.d) k t).Ok N.ws := by
  obtain ⟨_, ln, n1, n2, n3, _⟩ := o.rk t ht
  have i1 : Nm t.a := ⟨n2⟩
  have i2 : Nm t.b := ⟨n3⟩
  have i3 : Nm t.nm := ⟨n1⟩
  have rk : ∀ q ∈ daysR t.rs (Rat.divInt z N.d) k, RdK q := fun q hq => by
    obtain ⟨j, hj, p, hp, rfl⟩ := mem_days.mp hq
    obtain ⟨u, hu, rfl⟩ := List.mem_map.mp ht
    obtain ⟨v, hv, rfl⟩ := List.mem_map.mp hp
    obtain ⟨g1, g2, g3, g4, g5, g6, g7, g8⟩ := (o.ok u hu).us v hv
    rw [sh_uR o.d1]
    have b0 : 0 ≤ z * (j : Int) := Int.mul_nonneg z0 (by omega)
    have b1 : z * (j : Int) ≤ 1000 * 5 := Int.mul_le_mul z1 (by omega) (by omega) (by omega)
    generalize z * (j : Int) = f at *
    exact ⟨N.d, _, o.d1, by have := o.d2; omega, ⟨by simp only [shU]; omega, by simp only [shU]; omega, by simp only [shU]; omega, by simp only [shU]; omega, fun e => by simp only [shU] at e ⊢; omega, by simp only [shU]; omega, by simp only [shU]; omega, by simp only [shU]; omega⟩, rfl⟩
  refine ⟨tx_nm (w := t.a), tx_nm (w := t.b), tx_nm (w := t.nm), fun q hq => (rk q hq).ok.1, fun q hq => (rk q hq).ok.2, ?_, .inl ?_⟩
  · show (daysR t.rs (Rat.divInt z N.d) k).length ≤ 20
    rw [len_days]
    exact Nat.le_trans (Nat.mul_le_mul hk ln) (by decide)
  · unfold mayB at hm
    exact of_decide_eq_true (Bool.and_eq_true_iff.mp hm).1
theorem day_sn {N : Nu} {z : Int} {k m : Nat} {mo : Rat} (o : N.OkY) (z0 : 0 ≤ z) (z1 : z ≤ 1000) (hk : k ≤ 5) (hm : ∀ t ∈ N.ties, mayB N.ws (Rat.divInt z N.d) t = true) (m0 : 0 ≤ mo) (zm : SzQ m mo) (h40 : 40 ≤ m) (h1 : m ≤ 1000) : SnOk (N.ties.map (dayT (Rat.divInt z N.d) k)) N.ws ([97] :: N.ps) [97] mo m :=
  ⟨fun t ht => by
    obtain ⟨u, hu, rfl⟩ := List.mem_map.mp ht
    exact day_tie o z0 z1 hk hu (hm u hu), by rw [dayT_nm]; exact o.nd, by rw [List.length_map]; have := o.lt; omega, by simp, fun t ht => by
    obtain ⟨u, hu, rfl⟩ := List.mem_map.mp ht
    exact List.mem_cons_of_mem _ (o.rk u hu).2.2.2.2.2.2, by rw [List.length_cons]; have := o.lp.1; omega, m0, zm, h40, h1, tx_nm (w := [97]) (q := ⟨by unfold NmOk; simp⟩)⟩
theorem day_mv {y : Rat} {k : Nat} {t : Tie} (h : ∀ q ∈ t.rs, q.2.1 < y) : MvT y (dayT y k t).arcS (dayT y (k + 1) t).arcS := by
  refine ⟨rfl, rfl, fun x x0 => ?_⟩
  show waitG (daysR t.rs y (k + 1)) (x + y) = (waitG (daysR t.rs y k) x).map (· + y)
  have step : ∀ (j : Nat) (p : Rq), shQ (y * (((j + 1 : Nat) : Int) : Rat)) p = mvQ y (shQ (y * ((j : Int) : Rat)) p) := fun j p => by
    have e : y * (((j + 1 : Nat) : Int) : Rat) = y * ((j : Int) : Rat) + y := by
      rw [show (((j + 1 : Nat) : Int) : Rat) = ((j : Int) : Rat) + 1 by rw [Int.natCast_add, Rat.intCast_add]; rfl]
      grind
    rw [e]
    exact (mvQ_mvQ (f := y) (g := y * ((j : Int) : Rat)) (q := p)).symm
  refine waitG_mv (fun q => ⟨fun hq => ?_, fun hq => by rcases hq with hq | hq <;> exact hq.1⟩) (fun p hp => ?_) x0
  · obtain ⟨j, hj, p, hp, e⟩ := mem_days.mp hq
    cases j with
    | zero =>
      refine .inr ⟨hq, ?_⟩
      rw [← e]
      have := h p hp
      show p.2.1 + y * (((0 : Nat) : Int) : Rat) < y
      rw [show (((0 : Nat) : Int) : Rat) = 0 from rfl]
      grind
    | succ j =>
      refine .inl ⟨hq, shQ (y * ((j : Int) : Rat)) p, mem_days.mpr ⟨j, by omega, p, hp, rfl⟩, ?_⟩
      rw [← e, step]
  · obtain ⟨j, hj, q, hq, rfl⟩ := mem_days.mp hp
    exact mem_days.mpr ⟨j + 1, by omega, q, hq, step j q⟩
theorem day_sh {N : Nu} {z : Int} {k m : Nat} {mo : Rat} (o : N.OkY) (hm : ∀ t ∈ N.ties, mayB N.ws (Rat.divInt z N.d) t = true) (L1 : SnOk (N.ties.map (dayT (Rat.divInt z N.d) k)) N.ws ([97] :: N.ps) [97] mo m) {b1 b2 : PapS} (p1 : PapB (N.ties.map (dayT (Rat.divInt z N.d) k)) [97] mo b1) (p2 : PapB (N.ties.map (dayT (Rat.divInt z N.d) (k + 1))) [97] (mo + Rat.divInt z N.d) b2) (q : Pl) : fmP b2 q = (fmP b1 q).map (· + Rat.divInt z N.d) := by
  have lt : ∀ t ∈ N.ties, ∀ q ∈ t.rs, q.2.1 < Rat.divInt z N.d := fun t ht q hq => by
    have := hm t ht
    unfold mayB at this
    have := List.all_eq_true.mp (Bool.and_eq_true_iff.mp this).2 q hq
    unfold lateB at this
    exact of_decide_eq_true this
  have e := fm_moved (P := [97] :: N.ps) (As := (N.ties.map (dayT (Rat.divInt z N.d) k)).map Tie.arcS) (Bs := (N.ties.map (dayT (Rat.divInt z N.d) (k + 1))).map Tie.arcS) (y := Rat.divInt z N.d) (g := [97]) (mo := mo) (F := fmP b1) (F' := fmP b2)
    (fun A hA => by
      obtain ⟨t, ht, rfl⟩ := List.mem_map.mp hA
      obtain ⟨u, hu, rfl⟩ := List.mem_map.mp ht
      exact ⟨_, List.mem_map.mpr ⟨_, List.mem_map.mpr ⟨u, hu, rfl⟩, rfl⟩, day_mv (lt u hu)⟩)
    (fun A hA => by
      obtain ⟨t, ht, rfl⟩ := List.mem_map.mp hA
      obtain ⟨u, hu, rfl⟩ := List.mem_map.mp ht
      exact ⟨_, List.mem_map.mpr ⟨_, List.mem_map.mpr ⟨u, hu, rfl⟩, rfl⟩, day_mv (lt u hu)⟩)
    (fun A hA x u e => by
      obtain ⟨t, ht, rfl⟩ := List.mem_map.mp hA
      exact waitG_ge (L1.ok t ht).o e)
    L1.m0 (by simp) (fun A hA => by
      obtain ⟨t, ht, rfl⟩ := List.mem_map.mp hA
      obtain ⟨u, hu, rfl⟩ := List.mem_map.mp ht
      exact List.mem_cons_of_mem _ (o.rk u hu).2.2.2.2.2.2) (by rw [List.length_cons]; have := o.lp.1; omega) p1.sd p1.cp p2.sd p2.cp
  exact congrFun e q
theorem gc_0 {b : Bool} {H : Hd} : gc [] (.bl b) H = .ok (.bl b) [] := by
  unfold gc
  have ok : OkBelow [] H := fun i o hi => absurd hi (Nat.not_lt_zero _)
  rw [if_pos ok, if_pos (show D.lo ([] : Hd).length (D.bl b) = true from rfl)]
  rfl
theorem same_bls {h : Hd} : eqDs (eqD h 39) [.bl true, .bl false, .bl false, .bl false, .bl false, .bl true] [.bl true, .bl false, .bl false, .bl false, .bl false, .bl true] = true := by
  have a : ∀ b : Bool, eqD h 39 (.bl b) (.bl b) = true := fun b => by
    unfold eqD
    simp [sameD]
  unfold eqDs
  rw [a]
  unfold eqDs
  rw [a]
  unfold eqDs
  rw [a]
  unfold eqDs
  rw [a]
  unfold eqDs
  rw [a]
  unfold eqDs
  rw [a]
  rfl
theorem told_same {h : Hd} {n m : Nat} {L : List D} {w : Pl} (q1 : Ls h n L) (q2 : Ls h m L) (e : eqDs (eqD h 39) L L = true) : dEqX false (.tup [.ref n, T w]) (.tup [.ref m, T w]) h = .ok (.bl true) h := by
  refine dEqX_t ?_
  have e3 : eqD h 40 (.ref n) (.ref m) = true := by
    unfold eqD eqL
    simp only [q1.q, q2.q, e, Bool.or_true]
  have e4 : eqD h 40 (T w) (T w) = true := by
    unfold eqD T
    simp [sameD]
  show (eqD h 40 (.ref n) (.ref m) && (eqD h 40 (T w) (T w) && true)) = true
  rw [e3, e4]
  rfl
theorem dEq_nets {h : Hd} {n m : Nat} {ts : List Tie} {x w : D} {neg : Bool} (p : Ob h n (.dK (tiesK ts))) (q : Ob h m (.dK (tiesK ts))) (nd : (ts.map Tie.nm).Nodup) (ht : ∀ t ∈ ts, Tx t.a ∧ Tx t.b) (hx : D.pl 20 x = true) (hw : D.pl 20 w = true) : dEqX neg (.tup [x, w, .ref n]) (.tup [x, w, .ref m]) h = .ok (.bl (neg ^^ true)) h := by
  refine dEqX_t ?_
  have e3 : eqD h 40 (.ref n) (.ref m) = true := by
    have := eqS_dct (F := eqD h 39) (p := p) (q := q) rfl rfl (eqKs_ties (by decide) nd ht)
    unfold eqD
    rw [this]
    simp
  show (eqD h 40 x x && (eqD h 40 w w && (eqD h 40 (.ref n) (.ref m) && true))) = true
  rw [eqD_le (eqD_pl 20 x hx) (by decide), eqD_le (eqD_pl 20 w hw) (by decide), e3]
  rfl
theorem law_true (ns : List Int) (hl : ns.length ≤ 63) (hb : ∀ z ∈ ns, PySem.Builtin.Int.intBits z ≤ 1048576) : ∃ h', F_law [.rol (ns.map D.int)] [] = .ok (.bl true) h' := by
  obtain ⟨c, v, ep⟩ := pot_ok (ns := ns) (k := 0) (h := []) (by decide)
  obtain ⟨B, hB⟩ : ∃ B : Hd, B = [MO.lst []] := ⟨_, rfl⟩
  have pl : PL 0 B := by rw [hB]; exact ⟨by decide⟩
  have lB : B.length = 1 := by rw [hB]; rfl
  rw [show ([] : Hd) ++ [MO.lst [.int c.1, .int c.2]] = HP B 0 c by rw [hB]; rfl] at ep
  simp only [F_law, B_law]
  generalize hK : sSeq (sSet 3 _) _ = K
  walk_at "evj"
  rw [show D.int 0 = D.int ((0 : Nat) : Int) from rfl, ep, show ([] : Hd).length = 0 from rfl]
  clear ep hB
  have b4 := wkV_bd (c := c) (m := 4) (by decide)
  have v4 : PotI (wkC c 4) := inferInstance
  walk_at "evj"
  generalize wkC c 4 = c4 at v4 ⊢
  generalize wkV c 4 = x4 at b4 ⊢
  obtain ⟨N, c2, v2, oN, ed, eN⟩ := net_okY (d := 1 + x4) v4 pl (by omega) (by omega)
  subst hK
  generalize hK : sSeq (sSet 4 _) _ = K
  walk_at "evj"
  rw [eN]
  walk_at "evj"
  obtain ⟨rt, rtk, er⟩ := repr_nY oN
  obtain ⟨B1, hB1⟩ : ∃ B1, B1 = B ++ [.dK (tiesK N.ties)] := ⟨_, rfl⟩
  have pl1 : PL 0 B1 := by rw [hB1]; infer_instance
  have lB1 : B1.length = 2 := by rw [hB1, List.length_append, lB]; rfl
  have q1 : Ob B1 B.length (.dK (tiesK N.ties)) := by rw [hB1]; exact ob_at0
  rw [show HP B 0 c2 ++ [.dK (tiesK N.ties)] = HP B1 0 c2 by rw [hB1, HP_app]]
  clear eN hB1
  have ne1 : Ne2 0 B.length := ⟨by omega⟩
  obtain ⟨z, c3, v3, z0, z1, eD⟩ := day_ok (w := .tup (N.ws.map T)) (x := FQ N.end) v2 pl1 oN q1 ne1 (fun _ => inferInstance) (fun _ => inferInstance)
  subst hK
  generalize hK : sSeq (sSet 6 _) _ = K
  walk_at "evj"
  rw [eD]
  have b5 := wkV_bd (c := c3) (m := 4) (by decide)
  have v5 : PotI (wkC c3 4) := inferInstance
  walk_at "evj"
  clear eD v3
  generalize wkC c3 4 = c5 at v5 ⊢
  generalize wkV c3 4 = x5 at b5 ⊢
  have q2 : Ob (HP B1 0 c5) B.length (.dK (tiesK N.ties)) := inferInstance
  subst hK
  generalize hK : sSeq (sSet 8 _) _ = K
  walk_at "evj"
  rw [er _ _ q2]
  walk_at "evj"
  have DO := oN.day z0 z1
  rw [first_wrong_ok q2 oN.nd (by have := oN.lt; omega) (fun t ht => by obtain ⟨_, _, a, b, _⟩ := oN.rk t ht; exact ⟨a, b⟩) oN.tw (fun t ht => (oN.rk t ht).1) (fun t ht => by have := (oN.rk t ht).2.1; omega) DO.zy (fun _ => inferInstance)]
  walk_at "evj"
  obtain ⟨k, hk, k1, k2⟩ : ∃ k : Nat, 1 + x5 = (k : Int) ∧ 1 ≤ k ∧ k ≤ 4 := ⟨(1 + x5).toNat, by omega, by omega, by omega⟩
  rw [hk]
  clear hk b5 ed
  have nmw := DO.nm
  generalize hy : Rat.divInt z N.d = y at *
  cases hf : (tiesBy N.ties (sortN (N.ties.map Tie.nm))).find? (fun t => !mayB N.ws y t) with
  | some t =>
    have e1 := fun h q => told_bad (h := h) (n := B.length) (k := k) DO q hf
    have ht : t ∈ N.ties := tiesBy_mem (List.mem_of_find?_eq_some hf)
    have it : Nm t.nm := ⟨(nmw t ht).1⟩
    subst hK
    walk_at "evj"
    rw [e1 _ q2]
    rw [show (some t.nm).getD [] = t.nm from rfl]
    have tn : ¬ t.nm = [] := fun e => by
      have := (nmw t ht).1.1
      rw [e] at this
      simp at this
    walk_at "evj"
    rw [decide_eq_false tn, told_same (L := [D.bl true, D.bl false, D.bl false, D.bl false, D.bl false, D.bl true]) inferInstance inferInstance same_bls]
    walk_at "evj"
    rw [er _ _ inferInstance]
    walk_at "evj"
    rw [show ∀ h, dEq (.str rt) (.str rt) h = .ok (.bl true) h from fun h => sg_same (neg := false) rtk]
    walk_at "evj"
    exact ⟨_, gc_0⟩
  | none =>
    have e1 := fun h k q k8 => told_ok (h := h) (n := B.length) (k := k) DO q k8 hf
    subst hK
    walk_at "evj"
    rw [e1 _ _ q2 (by omega)]
    rw [show (none : Option Pl).getD [] = [] from rfl]
    walk_at "evj"
    have hm : ∀ t ∈ N.ties, mayB N.ws y t = true := fun t ht => by
      have := List.find?_eq_none.mp hf t (tiesBy_all oN.nd ht (sortN_perm.mem_iff.mpr (List.mem_map.mpr ⟨t, ht, rfl⟩)))
      simpa using this
    have nT : ∀ t ∈ N.ties, Tx t.a ∧ Tx t.b := fun t ht => by
      obtain ⟨_, a, b⟩ := nmw t ht
      have i1 : Nm t.a := ⟨a⟩
      have i2 : Nm t.b := ⟨b⟩
      exact ⟨tx_nm (w := t.a), tx_nm (w := t.b)⟩
    have ndk : ∀ k, ((N.ties.map (dayT y k)).map Tie.nm).Nodup := fun k => by rw [dayT_nm]; exact oN.nd
    have nTk : ∀ k, ∀ t ∈ N.ties.map (dayT y k), Tx t.a ∧ Tx t.b := fun k t ht => by
      obtain ⟨u, hu, rfl⟩ := List.mem_map.mp ht
      exact nT u hu
    have plw : D.pl 20 (.tup (N.ws.map T)) = true := pl_Ts (n := 19) oN.tw
    have eM := fun h k q k8 => moved_ok (h := h) (n := B.length) (k := k) DO q k8
    have eq1 : ∀ (h : Hd) (n m k : Nat) (neg : Bool) (x : Rat), Ob h n (.dK (tiesK (N.ties.map (dayT y k)))) → Ob h m (.dK (tiesK (N.ties.map (dayT y k)))) → dEqX neg (.tup [FQ x, .tup (N.ws.map T), .ref n]) (.tup [FQ x, .tup (N.ws.map T), .ref m]) h = .ok (.bl (neg ^^ true)) h := fun h n m k neg x p q => dEq_nets p q (ndk k) (nTk k) (pl_FQ (n := 19)) plw
    rw [show (k : Int) + 1 = ((k + 1 : Nat) : Int) from rfl, e1 _ _ inferInstance (by omega)]
    generalize hK : sSeq (sSet 10 _) _ = K
    walk_at "evj"
    rw [eM _ _ inferInstance (by omega)]
    walk_at "evj"
    rw [eq1 (HP B1 0 c5 ++ [MO.dK (tiesK (N.ties.map (dayT y k))), MO.dK (tiesK (N.ties.map (dayT y (k + 1)))), MO.dK (tiesK (N.ties.map (dayT y k)))]) B1.length (B1.length + 2) k true _ inferInstance inferInstance]
    walk_at "evj"
    rw [show (k : Int) + 1 = ((k + 1 : Nat) : Int) from rfl, eM _ _ inferInstance (by omega)]
    walk_at "evj"
    rw [eq1 (HP B1 0 c5 ++ [MO.dK (tiesK (N.ties.map (dayT y k))), MO.dK (tiesK (N.ties.map (dayT y (k + 1)))), MO.dK (tiesK (N.ties.map (dayT y (k + 1))))]) (B1.length + 1) (B1.length + 2) (k + 1) true _ inferInstance inferInstance]
    walk_at "evj"
    rw [er _ _ inferInstance]
    walk_at "evj"
    rw [show ∀ h, dNe (.str rt) (.str rt) h = .ok (.bl false) h from fun h => sg_same (neg := true) rtk]
    walk_at "evj"
    subst hK
    generalize hK : sSeq (sIf _ _ _) _ = K
    walk_at "evj"
    obtain ⟨G, hG⟩ : ∃ G : Hd, G = [MO.dK (tiesK (N.ties.map (dayT y k))), MO.dK (tiesK (N.ties.map (dayT y (k + 1))))] := ⟨_, rfl⟩
    rw [← hG]
    generalize hR : Res.kLc (Res.ok (List.map _ (List.range 3), _) _) _ _ _ _ _ = R
    obtain ⟨Ms, c6, v6, gM, lM, rfl⟩ : ∃ (Ms : List Rat) (c6 : PS), PotI c6 ∧ (∀ q ∈ Ms, 0 ≤ q ∧ SzQ 60 q) ∧ Ms.length = (List.range 3).length ∧ R = .ok (.ref (B1.length + G.length)) (HP B1 0 c6 ++ (G ++ [.lst (Ms.map FQ)])) := by
      rw [← hR]
      refine kLc_pot (xs := List.range 3) (fun c => PotI c) (fun q => 0 ≤ q ∧ SzQ 60 q) (by decide) v5 (fun i hi c acc v => ?_)
      have j0 : ZI 10 (k : Int) := ⟨Sz.of (by omega) (by omega)⟩
      have j1 : Fa (1 ≤ 50 * (k : Int)) := ⟨by omega⟩
      have j2 : ZI 20 (50 * (k : Int)) := ⟨Sz.of (by omega) (by omega)⟩
      have b7 := wkV_bd (c := c) (m := 50 * (k : Int)) (by omega)
      have v7 : PotI (wkC c (50 * (k : Int))) := inferInstance
      have zx : Sz 20 (wkV c (50 * (k : Int))) := Sz.of (by omega) (by omega)
      have zd : Sz 20 (1 + x4) := Sz.of (by omega) (by omega)
      refine ⟨_, Rat.divInt (wkV c (50 * (k : Int))) (1 + x4), wkC c (50 * (k : Int)), v7, ⟨divInt_nonneg b7.1 (by omega), (SzQ.divInt (by omega) zx zd).mono (by decide)⟩, rfl, rfl, ?_⟩
      walk_at "evj"
      rw [low_ok b7.1 (by omega) zd (by decide)]
    clear hR
    subst hG
    walk_at "evj"
    rw [dAdd_ll (xs := Ms.map FQ) (ys := [FQ 0, FQ (y * ((k : Int) : Rat))]) Ls.q Ls.q (by rw [List.length_map, lM]; simp)]
    obtain ⟨Mt, hMt, gT, lT⟩ : ∃ Mt : List Rat, Ms.map FQ ++ [FQ 0, FQ (y * ((k : Int) : Rat))] = Mt.map FQ ∧ (∀ q ∈ Mt, 0 ≤ q ∧ SzQ 60 q) ∧ Mt.length = 5 := by
      refine ⟨Ms ++ [0, y * ((k : Int) : Rat)], by rw [List.map_append]; rfl, fun q hq => ?_, by rw [List.length_append, lM]; rfl⟩
      rcases List.mem_append.mp hq with hq | hq
      · exact gM q hq
      · simp only [List.mem_cons, List.not_mem_nil, or_false] at hq
        rcases hq with rfl | rfl
        · exact ⟨Rat.le_refl, SzQ.zero (k := 59)⟩
        · exact ⟨Rat.mul_nonneg DO.y0 nat_rat, (SzQ.mul DO.zy (nat_szq (j := k) (by omega))).mono (by decide)⟩
    rw [hMt]
    clear hMt gM lM
    walk_at "evj"
    subst hK
    generalize hK : sSeq (sExpr _) _ = K
    have p97 : [97] ∈ ([97] :: N.ps) := by simp
    have oP : ∀ p ∈ ([97] :: N.ps : List Pl), Tx p := fun p hp => by
      have : NmOk p := by
        rcases List.mem_cons.mp hp with rfl | hp
        · unfold NmOk; simp
        · exact oN.lp.2 p hp
      have i1 : Nm p := ⟨this⟩
      exact tx_nm (w := p)
    walk_at "evj"
    rw [kLc_all (xs := Mt) (emb := FQ) (f := fun _ => D.bl true) (by omega) (fun _ => Ls.q) (fun t ht acc => ⟨_, rfl, rfl, by
      obtain ⟨t0, zt⟩ := gT t ht
      subst hy
      have L1 := day_sn (k := k) (m := 101) (mo := t) oN z0 z1 (by omega) hm t0 (zt.mono (by decide)) (by decide) (by decide)
      have L2 := day_sn (k := k + 1) (m := 101) (mo := t + Rat.divInt z N.d) oN z0 z1 (by omega) hm (Rat.add_nonneg t0 DO.y0) (SzQ.add zt DO.zy) (by decide) (by decide)
      walk_at "evj"
      rw [later_ok L1 L2 (by decide) inferInstance inferInstance oN.tw oP (fun _ => inferInstance) (fun _ => inferInstance) DO.y0 DO.zy (fun b1 b2 p1 p2 q => day_sh oN hm L1 p1 p2 q)]⟩)]
    walk_at "evj"
    subst hK
    walk_at "evj"
    rw [p_days_ok (h := HP B1 0 c6 ++ [MO.dK [], MO.dK (tiesK (N.ties.map (dayT y (k + 1)))), MO.lst (Mt.map FQ)]) (n := B.length) (k := k) DO inferInstance (by omega) hf]
    walk_at "evj"
    rw [eM _ _ inferInstance (by omega)]
    walk_at "evj"
    rw [eq1 (HP B1 0 c6 ++ [MO.dK [], MO.dK (tiesK (N.ties.map (dayT y (k + 1)))), MO.lst (Mt.map FQ), MO.dK (tiesK (N.ties.map (dayT y k))), MO.dK (tiesK (N.ties.map (dayT y k)))]) (B1.length + 3) (B1.length + 4) k false _ inferInstance inferInstance]
    walk_at "evj"
    exact ⟨_, gc_0⟩
end DL
open PySem PySem.W PyProof.Rows
set_option maxHeartbeats 0 in
theorem PySem.Challenge.cw_hourstairs_k95_whole_days_holds : PySem.Challenge.rw_hourstairs_k95_whole_days.Holds := by
  refine DL_hd ?_
  k_fill
  refine DL.walkG (l := PySem.Challenge.rw_hourstairs_k95_whole_days) (n := 63) (k := 12) (x := "_law_script") (CX := fun _ => L2.CX0) (sp := fun w => DL.spD _ 1 DL.F_law) rfl (by decide) rfl ⟨rfl, by decide, by decide⟩ (fun w h Y => PySem.W.kIn_of Y) ?F (fun _ _ _ ns hl hb hO hS => DL.law_sp hO hS (DL.law_true ns hl hb)) (fun _ _ _ _ _ h => h)
  case F =>
    intro w mg fa h KX G hmg
    refine' DL.law_end (DL.topF_mk KX G ?a0 ?l0 ?c0 ?k0 ?a1 ?l1 ?c1 ?k1 ?a2 ?l2 ?c2 ?k2 ?a3 ?l3 ?c3 ?k3 ?a4 ?l4 ?c4 ?k4 ?a5 ?l5 ?c5 ?k5 ?a6 ?l6 ?c6 ?k6 ?a7 ?l7 ?c7 ?k7 ?a8 ?l8 ?c8 ?k8 ?a9 ?l9 ?c9 ?k9 ?a10 ?l10 ?c10 ?k10 ?a11 ?l11 ?c11 ?k11 ?a12 ?l12 ?c12 ?k12 ?a13 ?l13 ?c13 ?k13 ?a14 ?l14 ?c14 ?k14 ?a15 ?l15 ?c15 ?k15 ?a16 ?l16 ?c16 ?k16 ?a17 ?l17 ?c17 ?k17 ?a18 ?l18 ?c18 ?k18 ?a19 ?l19 ?c19 ?k19 ?a20 ?l20 ?c20 ?k20 ?a21 ?l21 ?c21 ?k21 ?a22 ?l22 ?c22 ?k22 ?a23 ?l23 ?c23 ?k23 ?a24 ?l24 ?c24 ?k24 ?a25 ?l25 ?c25 ?k25 ?a26 ?l26 ?c26 ?k26 ?a27 ?l27 ?c27 ?k27 ?a28 ?l28 ?c28 ?k28 ?a29 ?l29 ?c29 ?k29 ?a30 ?l30 ?c30 ?k30 ?a31 ?l31 ?c31 ?k31 ?a32 ?l32 ?c32 ?k32 ?a33 ?l33 ?c33 ?k33 ?a34 ?l34 ?c34 ?k34 ?a35 ?l35 ?c35 ?k35 ?a36 ?l36 ?c36 ?k36 ?z_ValueError ?z_all ?z_divmod ?z_isinstance ?z_len ?z_max ?z_range ?z_repr ?z_sorted ?z_tuple ?ca_NO_TIE ?xn_HourError ?xn_NoDay ?xn_NoText ?xn_NoTie ?xn_NotRight ?xn_Overtaken ?xd_HourError ?xt_HourError ?xd_NoDay ?xt_NoDay ?xd_NoText ?xt_NoText ?xd_NoTie ?xt_NoTie ?xd_NotRight ?xt_NotRight ?xd_Overtaken ?xt_Overtaken ?xb_HourError ?xb_NoDay ?xs ?xu ?xg_NoDay ?xh_NoDay ?xa_NoDay ?xm_NoDay ?bg_HourError ?br_HourError ?bf_HourError ?yl_NoDay ?ys_NoDay ?xk_NoDay ?yi_NoDay ?yt_NoDay ?yf_NoDay ?yc_NoDay ?yk_NoDay ?yn_NoDay_name ?xp_NoDay_HourError ?xp_NoDay_NoDay ?xp_NoDay_NoText ?xq_NoDay_NoText ?xp_NoDay_NoTie ?xq_NoDay_NoTie ?xp_NoDay_NotRight ?xq_NoDay_NotRight ?xp_NoDay_Overtaken ?xq_NoDay_Overtaken ?xp_NoDay_ValueError) hmg
    (case a0 => k_is); (case l0 => k_is); (case c0 => k_is); (case k0 => k_is); (case a1 => k_is); (case l1 => k_is); (case c1 => k_is); (case k1 => k_is); (case a2 => k_is); (case l2 => k_is); (case c2 => k_is); (case k2 => k_is); (case a3 => k_is); (case l3 => k_is); (case c3 => k_is); (case k3 => k_is); (case a4 => k_is); (case l4 => k_is); (case c4 => k_is); (case k4 => k_is); (case a5 => k_is); (case l5 => k_is); (case c5 => k_is); (case k5 => k_is); (case a6 => k_is); (case l6 => k_is); (case c6 => k_is); (case k6 => k_is); (case a7 => k_is); (case l7 => k_is); (case c7 => k_is); (case k7 => k_is); (case a8 => k_is); (case l8 => k_is); (case c8 => k_is); (case k8 => k_is); (case a9 => k_is); (case l9 => k_is); (case c9 => k_is); (case k9 => k_is); (case a10 => k_is); (case l10 => k_is); (case c10 => k_is); (case k10 => k_is); (case a11 => k_is); (case l11 => k_is); (case c11 => k_is); (case k11 => k_is); (case a12 => k_is); (case l12 => k_is); (case c12 => k_is); (case k12 => k_is); (case a13 => k_is); (case l13 => k_is); (case c13 => k_is); (case k13 => k_is); (case a14 => k_is); (case l14 => k_is); (case c14 => k_is); (case k14 => k_is); (case a15 => k_is); (case l15 => k_is); (case c15 => k_is); (case k15 => k_is); (case a16 => k_is); (case l16 => k_is); (case c16 => k_is); (case k16 => k_is); (case a17 => k_is); (case l17 => k_is); (case c17 => k_is); (case k17 => k_is); (case a18 => k_is); (case l18 => k_is); (case c18 => k_is); (case k18 => k_is); (case a19 => k_is); (case l19 => k_is); (case c19 => k_is); (case k19 => k_is); (case a20 => k_is); (case l20 => k_is); (case c20 => k_is); (case k20 => k_is); (case a21 => k_is); (case l21 => k_is); (case c21 => k_is); (case k21 => k_is); (case a22 => k_is); (case l22 => k_is); (case c22 => k_is); (case k22 => k_is); (case a23 => k_is); (case l23 => k_is); (case c23 => k_is); (case k23 => k_is); (case a24 => k_is); (case l24 => k_is); (case c24 => k_is); (case k24 => k_is); (case a25 => k_is); (case l25 => k_is); (case c25 => k_is); (case k25 => k_is); (case a26 => k_is); (case l26 => k_is); (case c26 => k_is); (case k26 => k_is); (case a27 => k_is); (case l27 => k_is); (case c27 => k_is); (case k27 => k_is); (case a28 => k_is); (case l28 => k_is); (case c28 => k_is); (case k28 => k_is); (case a29 => k_is); (case l29 => k_is); (case c29 => k_is); (case k29 => k_is); (case a30 => k_is); (case l30 => k_is); (case c30 => k_is); (case k30 => k_is); (case a31 => k_is); (case l31 => k_is); (case c31 => k_is); (case k31 => k_is); (case a32 => k_is); (case l32 => k_is); (case c32 => k_is); (case k32 => k_is); (case a33 => k_is); (case l33 => k_is); (case c33 => k_is); (case k33 => k_is); (case a34 => k_is); (case l34 => k_is); (case c34 => k_is); (case k34 => k_is); (case a35 => k_is); (case l35 => k_is); (case c35 => k_is); (case k35 => k_is); (case a36 => k_is); (case l36 => k_is); (case c36 => k_is); (case k36 => k_is); (case z_ValueError => k_is); (case z_all => k_is); (case z_divmod => k_is); (case z_isinstance => k_is); (case z_len => k_is); (case z_max => k_is); (case z_range => k_is); (case z_repr => k_is); (case z_sorted => k_is); (case z_tuple => k_is); (case ca_NO_TIE => k_is); (case xn_HourError => k_is); (case xn_NoDay => k_is); (case xn_NoText => k_is); (case xn_NoTie => k_is); (case xn_NotRight => k_is); (case xn_Overtaken => k_is); (case xd_HourError => k_is); (case xt_HourError => k_is); (case xd_NoDay => k_is); (case xt_NoDay => k_is); (case xd_NoText => k_is); (case xt_NoText => k_is); (case xd_NoTie => k_is); (case xt_NoTie => k_is); (case xd_NotRight => k_is); (case xt_NotRight => k_is); (case xd_Overtaken => k_is); (case xt_Overtaken => k_is); (case xb_HourError => k_is); (case xb_NoDay => k_is); (case xs => k_is); (case xu => k_is); (case xg_NoDay => k_is); (case xh_NoDay => k_is); (case xa_NoDay => k_is); (case xm_NoDay => k_is); (case bg_HourError => k_is); (case br_HourError => k_is); (case bf_HourError => k_is); (case yl_NoDay => k_is); (case ys_NoDay => k_is); (case xk_NoDay => k_is); (case yi_NoDay => k_is); (case yt_NoDay => k_is); (case yf_NoDay => k_is); (case yc_NoDay => k_is); (case yk_NoDay => k_is); (case yn_NoDay_name => k_is); (case xp_NoDay_HourError => k_is); (case xp_NoDay_NoDay => k_is); (case xp_NoDay_NoText => k_is); (case xq_NoDay_NoText => (intro h; exact absurd h (by decide))); (case xp_NoDay_NoTie => k_is); (case xq_NoDay_NoTie => (intro h; exact absurd h (by decide))); (case xp_NoDay_NotRight => k_is); (case xq_NoDay_NotRight => (intro h; exact absurd h (by decide))); (case xp_NoDay_Overtaken => k_is); (case xq_NoDay_Overtaken => (intro h; exact absurd h (by decide))); (case xp_NoDay_ValueError => k_is)

