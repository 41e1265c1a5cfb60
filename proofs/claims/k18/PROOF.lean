import PyProof.Rows.All
import Wide.All
import OpenK.AllK
import Wide.FinOn
import HandS.ForMost
import HandS.ForExc
import HandS.Deep
import HandS.IsInst
import HandS.Zip
import HandS.Flow
import HandS.Text
import HandS.Steps
import HandS.Iter
import PyProof.Rows.RuleDivmod
import HandS.Style
import KE.DataFind
import HandS.SortOrd
import HandS.SortRule
import HandS.Conv
import KE.KDictSum
import PyProof.ListStr
import HandS.Wide
import HandS.DictTup
import KE.KDictCopyH
import HandS.ExcIs
import HandS.More
import HandS.Defaults
import KE.DataCmp
import KE.KDictWalk
import PySem.Challenge.RW_sightstone_k18_barred_stays_barred
set_option Elab.async false
set_option linter.all false
set_option maxRecDepth 100000
/-! VL: the value layer. Data, results, how data stand in the abstract heap. -/
namespace VL
open PySem L2

inductive D where
  | non | bl (b : Bool) | int (i : Int) | str (x : Str)
  | tup (ds : List D) | kt (ds : List D) | lst (ds : List D) | fz (ds : List D)
  | dct (kvs : List (List Key × D)) | dk (kvs : List (Key × D))

/-- an exception's class: one's own, by its name; a built-in one -/
inductive Xc where
  | own (c : Str) | bi (n : String)
  deriving DecidableEq
inductive M (α : Type) where
  | ok (a : α) | ex (c : Xc) | er
def M.bind {α β : Type} : M α → (α → M β) → M β
  | .ok a, f => f a
  | .ex c, _ => .ex c
  | .er, _ => .er
@[simp] theorem bind_ok {α β : Type} (a : α) (f : α → M β) : M.bind (.ok a) f = f a := rfl
@[simp] theorem bind_ex {α β : Type} (c : Xc) (f : α → M β) : M.bind (.ex c) f = .ex c := rfl
@[simp] theorem bind_er {α β : Type} (f : α → M β) : M.bind .er f = .er := rfl

/-- a tuple of the written part -/
def KTup (K : PySem.W.Frag) (a : Addr) (xs : List V) : Prop :=
  ∃ (o : Obj) (its : Array Value) (n : Nat), K.lookup a = some o ∧ o.cls = .type "tuple" ∧ o.data = .seq its n ∧ its.size ≤ sizeLine ∧ Vals xs its.toList

/-- a list of the written part -/
def KLst (K : PySem.W.Frag) (a : Addr) (xs : List V) : Prop :=
  ∃ (o : Obj) (its : Array Value) (n : Nat), K.lookup a = some o ∧ o.cls = .type "list" ∧ o.dict = none ∧ o.data = .seq its n ∧ its.size ≤ sizeLine ∧ Vals xs its.toList
/-- the script -/
def FzL (K : PySem.W.Frag) (H : Hp) (a : Addr) (xs : List V) : Prop := (∃ o, H a = some (.frz o (.lst xs))) ∨ KLst K a xs
theorem FzL.sq {K : PySem.W.Frag} {H : Hp} {a : Addr} {xs : List V} (h : FzL K H a xs) : SqL K H a xs := by
  rcases h with ⟨o, h⟩ | h
  · exact .inl (.inr ⟨o, h⟩)
  · exact .inr h
mutual
inductive Rp (K : PySem.W.Frag) (S : Addr → Prop) (H : Hp) : V → D → Prop
  | non : Rp K S H .non .non
  | bl (b : Bool) : Rp K S H (.bl b) (.bl b)
  | int (i : Int) : Rp K S H (.int i) (.int i)
  | str (x : Str) : Rp K S H (.str x) (.str x)
  | tup {a : Addr} {xs : List V} {ds : List D} : H a = some (.tup xs) → RpA K S H xs ds → Rp K S H (.ref a) (.tup ds)
  | kt {a : Addr} {xs : List V} {ds : List D} : KTup K a xs → RpA K S H xs ds → Rp K S H (.ref a) (.kt ds)
  | lst {a : Addr} {xs : List V} {ds : List D} : S a → H a = some (.lst xs) → RpA K S H xs ds → Rp K S H (.ref a) (.lst ds)
  | fz {a : Addr} {xs : List V} {ds : List D} : FzL K H a xs → RpA K S H xs ds → Rp K S H (.ref a) (.fz ds)
  | dct {a : Addr} {kvs : List (List Key × V)} {ds : List (List Key × D)} : S a → H a = some (.dT kvs) → RpT K S H kvs ds → Rp K S H (.ref a) (.dct ds)
  | dk {a : Addr} {kvs : List (Key × V)} {ds : List (Key × D)} : S a → H a = some (.dK kvs) → RpK K S H kvs ds → Rp K S H (.ref a) (.dk ds)
inductive RpA (K : PySem.W.Frag) (S : Addr → Prop) (H : Hp) : List V → List D → Prop
  | nil : RpA K S H [] []
  | cons {v : V} {d : D} {vs : List V} {ds : List D} : Rp K S H v d → RpA K S H vs ds → RpA K S H (v :: vs) (d :: ds)
inductive RpT (K : PySem.W.Frag) (S : Addr → Prop) (H : Hp) : List (List Key × V) → List (List Key × D) → Prop
  | nil : RpT K S H [] []
  | cons {k : List Key} {v : V} {d : D} {vs : List (List Key × V)} {ds : List (List Key × D)} : Rp K S H v d → RpT K S H vs ds → RpT K S H ((k, v) :: vs) ((k, d) :: ds)
inductive RpK (K : PySem.W.Frag) (S : Addr → Prop) (H : Hp) : List (Key × V) → List (Key × D) → Prop
  | nil : RpK K S H [] []
  | cons {k : Key} {v : V} {d : D} {vs : List (Key × V)} {ds : List (Key × D)} : Rp K S H v d → RpK K S H vs ds → RpK K S H ((k, v) :: vs) ((k, d) :: ds)
end
section
variable {K : PySem.W.Frag} {S S' : Addr → Prop} {H H' : Hp}
/-- what a description leans on -/
structure Keep (S S' : Addr → Prop) (H H' : Hp) : Prop where
  l : ∀ a o, S a → H a = some o → S' a ∧ H' a = some o
  t : ∀ a xs, H a = some (.tup xs) → H' a = some (.tup xs)
  z : ∀ a o u, H a = some (.frz o u) → H' a = some (.frz o u)
mutual
theorem Rp.keep (k : Keep S S' H H') : ∀ {v : V} {d : D}, Rp K S H v d → Rp K S' H' v d
  | _, _, .non => .non
  | _, _, .bl b => .bl b
  | _, _, .int i => .int i
  | _, _, .str x => .str x
  | _, _, .tup h r => .tup (k.t _ _ h) (RpA.keep k r)
  | _, _, .kt h r => .kt h (RpA.keep k r)
  | _, _, .lst s h r => .lst (k.l _ _ s h).1 (k.l _ _ s h).2 (RpA.keep k r)
  | _, _, .fz h r => .fz (h.imp (fun ⟨o, h⟩ => ⟨o, k.z _ _ _ h⟩) id) (RpA.keep k r)
  | _, _, .dct s h r => .dct (k.l _ _ s h).1 (k.l _ _ s h).2 (RpT.keep k r)
  | _, _, .dk s h r => .dk (k.l _ _ s h).1 (k.l _ _ s h).2 (RpK.keep k r)
theorem RpA.keep (k : Keep S S' H H') : ∀ {v : List V} {d : List D}, RpA K S H v d → RpA K S' H' v d
  | _, _, .nil => .nil
  | _, _, .cons h r => .cons (Rp.keep k h) (RpA.keep k r)
theorem RpT.keep (k : Keep S S' H H') : ∀ {v : List (List Key × V)} {d : List (List Key × D)}, RpT K S H v d → RpT K S' H' v d
  | _, _, .nil => .nil
  | _, _, .cons h r => .cons (Rp.keep k h) (RpT.keep k r)
theorem RpK.keep (k : Keep S S' H H') : ∀ {v : List (Key × V)} {d : List (Key × D)}, RpK K S H v d → RpK K S' H' v d
  | _, _, .nil => .nil
  | _, _, .cons h r => .cons (Rp.keep k h) (RpK.keep k r)
end
theorem Keep.same (h : Same H H') : Keep S S H H' := ⟨fun a o s e => ⟨s, h a o e⟩, fun a xs e => h a _ e, fun a o u e => h a _ e⟩
theorem Keep.wide (h : ∀ a, S a → S' a) : Keep S S' H H := ⟨fun a o s e => ⟨h a s, e⟩, fun a xs e => e, fun a o u e => e⟩
theorem RpA.length : ∀ {v : List V} {d : List D}, RpA K S H v d → v.length = d.length
  | _, _, .nil => rfl
  | _, _, .cons _ r => congrArg (· + 1) (RpA.length r)
theorem RpA.get : ∀ {vs : List V} {ds : List D} {i : Nat} {d : D}, RpA K S H vs ds → ds[i]? = some d → ∃ v, vs[i]? = some v ∧ Rp K S H v d
  | _, _, _, _, .nil, e => by simp at e
  | _, _, 0, _, .cons r _, e => by simp at e; subst e; exact ⟨_, rfl, r⟩
  | _, _, i + 1, d, .cons _ t, e => by
    obtain ⟨u, h1, h2⟩ := RpA.get (i := i) (d := d) t (by simpa using e)
    exact ⟨u, by simpa using h1, h2⟩
theorem RpA.getV : ∀ {vs : List V} {ds : List D} {i : Nat} {v : V}, RpA K S H vs ds → vs[i]? = some v → ∃ d, ds[i]? = some d ∧ Rp K S H v d
  | _, _, _, _, .nil, e => by simp at e
  | _, _, 0, _, .cons r _, e => by simp at e; subst e; exact ⟨_, rfl, r⟩
  | _, _, i + 1, d, .cons _ t, e => by
    obtain ⟨u, h1, h2⟩ := RpA.getV (i := i) (v := d) t (by simpa using e)
    exact ⟨u, by simpa using h1, h2⟩
theorem RpA.append : ∀ {vs ws : List V} {ds es : List D}, RpA K S H vs ds → RpA K S H ws es → RpA K S H (vs ++ ws) (ds ++ es)
  | _, _, _, _, .nil, s => s
  | _, _, _, _, .cons r t, s => .cons r (RpA.append t s)
theorem RpA.set {v : V} {d : D} (r : Rp K S H v d) : ∀ {vs : List V} {ds : List D} (i : Nat), RpA K S H vs ds → RpA K S H (vs.set i v) (ds.set i d)
  | _, _, _, .nil => .nil
  | _, _, 0, .cons _ t => .cons r t
  | _, _, i + 1, .cons q t => .cons q (RpA.set r i t)
theorem RpA.take : ∀ {vs : List V} {ds : List D} (n : Nat), RpA K S H vs ds → RpA K S H (vs.take n) (ds.take n)
  | _, _, 0, _ => .nil
  | _, _, _ + 1, .nil => .nil
  | _, _, n + 1, .cons r t => .cons r (RpA.take n t)
theorem RpA.drop : ∀ {vs : List V} {ds : List D} (n : Nat), RpA K S H vs ds → RpA K S H (vs.drop n) (ds.drop n)
  | _, _, 0, r => r
  | _, _, _ + 1, .nil => .nil
  | _, _, n + 1, .cons _ t => RpA.drop n t
theorem RpA.ints : ∀ (ns : List Int), RpA K S H (ns.map V.int) (ns.map D.int)
  | [] => .nil
  | n :: ns => .cons (.int n) (RpA.ints ns)
theorem RpA.ofInts : ∀ {vs : List V} {ns : List Int}, RpA K S H vs (ns.map D.int) → vs = ns.map V.int
  | _, [], r => by cases r; rfl
  | _, n :: ns, r => by
    cases r with
    | cons h t =>
      cases h
      rw [RpA.ofInts t]
      rfl
end

/-! ### slots -/
inductive Sl where
  | no | sh (d : D) | fr (d : D) | ow (d : D)
abbrev Rho := List Sl
abbrev Sg := List (Option V)
/-- a list, a dict of one's own at a -/
def Own (K : PySem.W.Frag) (S : Addr → Prop) (H : Hp) (a : Addr) : D → Prop
  | .lst ds => ∃ xs, H a = some (.lst xs) ∧ RpA K S H xs ds
  | .dct ds => ∃ kvs, H a = some (.dT kvs) ∧ RpT K S H kvs ds
  | .dk ds => ∃ kvs, H a = some (.dK kvs) ∧ RpK K S H kvs ds
  | _ => False
/-- what may be one's own -/
def Mt : Option HO → Prop
  | some (.lst _) => True
  | some (.dT _) => True
  | some (.dK _) => True
  | _ => False
/-- data of the arguments and new ones; new ones alone -/
def SA (S0 : Addr → Prop) (H0 : Hp) (own : List Addr) : Addr → Prop := fun a => a ∉ own ∧ (S0 a ∨ H0 a = none)
def SF (H0 : Hp) (own : List Addr) : Addr → Prop := fun a => a ∉ own ∧ H0 a = none
theorem SF.sa {S0 : Addr → Prop} {H0 : Hp} {own : List Addr} (a : Addr) (h : SF H0 own a) : SA S0 H0 own a := ⟨h.1, .inr h.2⟩

structure Rel (K : PySem.W.Frag) (S0 : Addr → Prop) (H0 : Hp) (ρ : Rho) (σ : Sg) (own : List Addr) (H : Hp) : Prop where
  sh : ∀ (i : Nat) (d : D), ρ[i]? = some (.sh d) → ∃ v, σ[i]? = some (some v) ∧ Rp K (SA S0 H0 own) H v d
  fr : ∀ (i : Nat) (d : D), ρ[i]? = some (.fr d) → ∃ v, σ[i]? = some (some v) ∧ Rp K (SF H0 own) H v d
  ow : ∀ (i : Nat) (d : D), ρ[i]? = some (.ow d) → ∃ a, σ[i]? = some (some (.ref a)) ∧ a ∈ own ∧ Own K (SF H0 own) H a d
  dis : ∀ (i j : Nat) (d e : D), ρ[i]? = some (.ow d) → ρ[j]? = some (.ow e) → σ[i]? = σ[j]? → i = j
  own0 : ∀ a, a ∈ own → H0 a = none ∧ Mt (H a)
  same : Same H0 H
  len : σ.length = ρ.length
/-- the states behind: what was not one's own stands -/
structure Fra (own : List Addr) (H : Hp) (own' : List Addr) (H' : Hp) : Prop where
  k : ∀ a o, H a = some o → a ∉ own → H' a = some o
  n : ∀ a, a ∈ own' → a ∈ own ∨ H a = none
section
variable {K : PySem.W.Frag} {S0 : Addr → Prop} {H0 H H' H2 : Hp} {ρ : Rho} {σ : Sg} {own own' own2 : List Addr}
theorem Own.keep {S S' : Addr → Prop} {a : Addr} {d : D} (k : Keep S S' H H') (ha : ∀ o, H a = some o → H' a = some o) (h : Own K S H a d) : Own K S' H' a d := by
  cases d with
  | lst ds => obtain ⟨xs, e, r⟩ := h; exact ⟨xs, ha _ e, r.keep k⟩
  | dct ds => obtain ⟨xs, e, r⟩ := h; exact ⟨xs, ha _ e, r.keep k⟩
  | dk ds => obtain ⟨xs, e, r⟩ := h; exact ⟨xs, ha _ e, r.keep k⟩
  | non => exact h.elim
  | bl _ => exact h.elim
  | int _ => exact h.elim
  | str _ => exact h.elim
  | tup _ => exact h.elim
  | kt _ => exact h.elim
  | fz _ => exact h.elim
theorem Own.mt {S : Addr → Prop} {a : Addr} {d : D} (h : Own K S H a d) : Mt (H a) := by
  cases d with
  | lst ds => obtain ⟨xs, e, r⟩ := h; rw [e]; trivial
  | dct ds => obtain ⟨xs, e, r⟩ := h; rw [e]; trivial
  | dk ds => obtain ⟨xs, e, r⟩ := h; rw [e]; trivial
  | non => exact h.elim
  | bl _ => exact h.elim
  | int _ => exact h.elim
  | str _ => exact h.elim
  | tup _ => exact h.elim
  | kt _ => exact h.elim
  | fz _ => exact h.elim
theorem Fra.refl : Fra own H own H := ⟨fun _ _ h _ => h, fun _ h => .inl h⟩
theorem Fra.trans (a : Fra own H own' H') (b : Fra own' H' own2 H2) : Fra own H own2 H2 where
  k := fun x o h hn => b.k x o (a.k x o h hn) fun hm => by
    rcases a.n x hm with z | z
    · exact hn z
    · rw [h] at z; cases z
  n := fun x hm => by
    rcases b.n x hm with z | z
    · exact a.n x z
    · by_cases hx : x ∈ own
      · exact .inl hx
      · refine .inr ?_
        cases e : H x with
        | none => rfl
        | some o => rw [a.k x o e hx] at z; cases z
theorem Fra.same (h : Same H H') : Fra own H own H' := ⟨fun a o e _ => h a o e, fun _ h => .inl h⟩
/-- nothing of one's own at the start: all stands -/
theorem Fra.all (f : Fra [] H own' H') : Same H H' := fun a o e => f.k a o e (by simp)
theorem mt_some {o : Option HO} (h : Mt o) : ∃ u, o = some u := by
  cases o with
  | none => exact h.elim
  | some u => exact ⟨u, rfl⟩
/-- over a frame step -/
theorem Fra.keepA (f : Fra own H own' H') (own0 : ∀ a, a ∈ own → H0 a = none ∧ Mt (H a)) : Keep (SA S0 H0 own) (SA S0 H0 own') H H' where
  l := fun a o s e => ⟨⟨fun hm => (f.n a hm).elim s.1 (fun z => by rw [e] at z; exact nomatch z), s.2⟩, f.k a o e s.1⟩
  t := fun a xs e => f.k a _ e fun hm => by
    have := (own0 a hm).2
    rw [e] at this; exact this
  z := fun a o u e => f.k a _ e fun hm => by
    have := (own0 a hm).2
    rw [e] at this; exact this
theorem Fra.keepF (f : Fra own H own' H') (own0 : ∀ a, a ∈ own → H0 a = none ∧ Mt (H a)) : Keep (SF H0 own) (SF H0 own') H H' where
  l := fun a o s e => ⟨⟨fun hm => (f.n a hm).elim s.1 (fun z => by rw [e] at z; exact nomatch z), s.2⟩, f.k a o e s.1⟩
  t := fun a xs e => f.k a _ e fun hm => by
    have := (own0 a hm).2
    rw [e] at this; exact this
  z := fun a o u e => f.k a _ e fun hm => by
    have := (own0 a hm).2
    rw [e] at this; exact this
theorem Rel.grow (R : Rel K S0 H0 ρ σ own H) (h : Same H H') : Rel K S0 H0 ρ σ own H' where
  sh := fun i d e => let ⟨v, a, r⟩ := R.sh i d e; ⟨v, a, r.keep (.same h)⟩
  fr := fun i d e => let ⟨v, a, r⟩ := R.fr i d e; ⟨v, a, r.keep (.same h)⟩
  ow := fun i d e => let ⟨v, a, m, r⟩ := R.ow i d e; ⟨v, a, m, r.keep (.same h) fun o q => h _ o q⟩
  dis := R.dis
  own0 := fun a ha => ⟨(R.own0 a ha).1, by
    obtain ⟨u, e⟩ := mt_some (R.own0 a ha).2
    have m := (R.own0 a ha).2
    rw [h a u e, ← e]
    exact m⟩
  same := R.same.trans h
  len := R.len
/-- slots forgotten -/
theorem Rel.less {ρ' : Rho} (R : Rel K S0 H0 ρ σ own H) (hl : ρ'.length = ρ.length) (h : ∀ (i : Nat) (s : Sl), ρ'[i]? = some s → s = .no ∨ ρ[i]? = some s) : Rel K S0 H0 ρ' σ own H where
  sh := fun i d e => (h i _ e).elim (fun z => by cases z) fun z => R.sh i d z
  fr := fun i d e => (h i _ e).elim (fun z => by cases z) fun z => R.fr i d z
  ow := fun i d e => (h i _ e).elim (fun z => by cases z) fun z => R.ow i d z
  dis := fun i j d e a b q => (h i _ a).elim (fun z => by cases z) fun z => (h j _ b).elim (fun y => by cases y) fun y => R.dis i j d e z y q
  own0 := R.own0
  same := R.same
  len := by rw [R.len, hl]
theorem get_set {α : Type} {l : List α} {i j : Nat} {x y : α} (h : (l.set i x)[j]? = some y) : (j = i ∧ y = x ∧ i < l.length) ∨ (j ≠ i ∧ l[j]? = some y) := by
  by_cases e : i = j
  · subst e
    by_cases hl : i < l.length
    · rw [List.getElem?_set_self hl] at h
      exact .inl ⟨rfl, (Option.some.inj h).symm, hl⟩
    · rw [List.getElem?_eq_none (by simp; omega)] at h
      cases h
  · rw [List.getElem?_set_ne e] at h
    exact .inr ⟨fun z => e z.symm, h⟩
/-- a slot is stored: a shared value -/
theorem Rel.setSh {i : Nat} {v : V} {d : D} (R : Rel K S0 H0 ρ σ own H) (r : Rp K (SA S0 H0 own) H v d) : Rel K S0 H0 (ρ.set i (.sh d)) (σ.set i (some v)) own H where
  sh := fun j e q => by
    rcases get_set q with ⟨rfl, z, hl⟩ | ⟨hj, z⟩
    · cases z
      exact ⟨v, List.getElem?_set_self (by rw [R.len]; exact hl), r⟩
    · rw [List.getElem?_set_ne (Ne.symm hj)]
      exact R.sh j e z
  fr := fun j e q => by
    rcases get_set q with ⟨rfl, z, hl⟩ | ⟨hj, z⟩
    · cases z
    · rw [List.getElem?_set_ne (Ne.symm hj)]
      exact R.fr j e z
  ow := fun j e q => by
    rcases get_set q with ⟨rfl, z, hl⟩ | ⟨hj, z⟩
    · cases z
    · rw [List.getElem?_set_ne (Ne.symm hj)]
      exact R.ow j e z
  dis := fun j k d' e' a b q => by
    rcases get_set a with ⟨rfl, z, hl⟩ | ⟨hj, z⟩
    · cases z
    · rcases get_set b with ⟨rfl, y, hl⟩ | ⟨hk, y⟩
      · cases y
      · rw [List.getElem?_set_ne (Ne.symm hj), List.getElem?_set_ne (Ne.symm hk)] at q
        exact R.dis j k d' e' z y q
  own0 := R.own0
  same := R.same
  len := by simp [R.len]
theorem Rel.setFr {i : Nat} {v : V} {d : D} (R : Rel K S0 H0 ρ σ own H) (r : Rp K (SF H0 own) H v d) : Rel K S0 H0 (ρ.set i (.fr d)) (σ.set i (some v)) own H where
  fr := fun j e q => by
    rcases get_set q with ⟨rfl, z, hl⟩ | ⟨hj, z⟩
    · cases z
      exact ⟨v, List.getElem?_set_self (by rw [R.len]; exact hl), r⟩
    · rw [List.getElem?_set_ne (Ne.symm hj)]
      exact R.fr j e z
  sh := fun j e q => by
    rcases get_set q with ⟨rfl, z, hl⟩ | ⟨hj, z⟩
    · cases z
    · rw [List.getElem?_set_ne (Ne.symm hj)]
      exact R.sh j e z
  ow := fun j e q => by
    rcases get_set q with ⟨rfl, z, hl⟩ | ⟨hj, z⟩
    · cases z
    · rw [List.getElem?_set_ne (Ne.symm hj)]
      exact R.ow j e z
  dis := fun j k d' e' a b q => by
    rcases get_set a with ⟨rfl, z, hl⟩ | ⟨hj, z⟩
    · cases z
    · rcases get_set b with ⟨rfl, y, hl⟩ | ⟨hk, y⟩
      · cases y
      · rw [List.getElem?_set_ne (Ne.symm hj), List.getElem?_set_ne (Ne.symm hk)] at q
        exact R.dis j k d' e' z y q
  own0 := R.own0
  same := R.same
  len := by simp [R.len]
/-- a new list or dict becomes one's own: a stands in H, unknown to the data -/
theorem Rel.setOw {i : Nat} {a : Addr} {d : D} {Hb : Hp} (Rb : Rel K S0 H0 ρ σ own Hb) (hs : Same Hb H) (hb : Hb a = none) (r : Own K (SF H0 (a :: own)) H a d) : Rel K S0 H0 (ρ.set i (.ow d)) (σ.set i (some (.ref a))) (a :: own) H := by
  have f : Fra own Hb (a :: own) H := ⟨fun b o e _ => hs b o e, fun b hm => (List.mem_cons.mp hm).elim (fun z => .inr (by rw [z]; exact hb)) .inl⟩
  have h0 : H0 a = none := Rb.same.free hb
  refine ⟨fun j e q => ?_, fun j e q => ?_, fun j e q => ?_, fun j k d' e' x y q => ?_, fun b hm => ?_, Rb.same.trans hs, by simp [Rb.len]⟩
  · rcases get_set q with ⟨rfl, z, hl⟩ | ⟨hj, z⟩
    · cases z
    · rw [List.getElem?_set_ne (Ne.symm hj)]
      obtain ⟨v, h1, h2⟩ := Rb.sh j e z
      exact ⟨v, h1, h2.keep (f.keepA Rb.own0)⟩
  · rcases get_set q with ⟨rfl, z, hl⟩ | ⟨hj, z⟩
    · cases z
    · rw [List.getElem?_set_ne (Ne.symm hj)]
      obtain ⟨v, h1, h2⟩ := Rb.fr j e z
      exact ⟨v, h1, h2.keep (f.keepF Rb.own0)⟩
  · rcases get_set q with ⟨rfl, z, hl⟩ | ⟨hj, z⟩
    · cases z
      exact ⟨a, List.getElem?_set_self (by rw [Rb.len]; exact hl), List.mem_cons_self, r⟩
    · rw [List.getElem?_set_ne (Ne.symm hj)]
      obtain ⟨b, h1, h2, h3⟩ := Rb.ow j e z
      exact ⟨b, h1, List.mem_cons_of_mem _ h2, h3.keep (f.keepF Rb.own0) fun o q => hs _ o q⟩
  · have old : ∀ (j : Nat) (d : D), j ≠ i → ρ[j]? = some (.ow d) → (σ.set i (some (.ref a)))[j]? ≠ some (some (.ref a)) := fun j d hj z w => by
      rw [List.getElem?_set_ne (Ne.symm hj)] at w
      obtain ⟨b, h1, h2, h3⟩ := Rb.ow j d z
      rw [w] at h1
      cases h1
      obtain ⟨u, e⟩ := mt_some (Rb.own0 a h2).2
      rw [hb] at e; cases e
    rcases get_set x with ⟨rfl, z, hl⟩ | ⟨hj, z⟩
    · rcases get_set y with ⟨rfl, z2, hl2⟩ | ⟨hk, z2⟩
      · rfl
      · refine absurd ?_ (old k e' hk z2)
        rw [← q]
        exact List.getElem?_set_self (by rw [Rb.len]; exact hl)
    · rcases get_set y with ⟨rfl, z2, hl2⟩ | ⟨hk, z2⟩
      · refine absurd ?_ (old j d' hj z)
        rw [q]
        exact List.getElem?_set_self (by rw [Rb.len]; exact hl2)
      · rw [List.getElem?_set_ne (Ne.symm hj), List.getElem?_set_ne (Ne.symm hk)] at q
        exact Rb.dis j k d' e' z z2 q
  · rcases List.mem_cons.mp hm with rfl | hm
    · exact ⟨h0, r.mt⟩
    · refine ⟨(Rb.own0 b hm).1, ?_⟩
      obtain ⟨u, e⟩ := mt_some (Rb.own0 b hm).2
      have m := (Rb.own0 b hm).2
      rw [hs b u e, ← e]
      exact m
/-- what is one's own changes -/
theorem Rel.chg {i : Nat} {a : Addr} {d d' : D} {o : HO} (R : Rel K S0 H0 ρ σ own H) (hi : ρ[i]? = some (.ow d)) (ha : σ[i]? = some (some (.ref a))) (mo : Mt (some o))
    (r : Own K (SF H0 own) (upd H a o) a d') : Rel K S0 H0 (ρ.set i (.ow d')) σ own (upd H a o) ∧ Fra own H own (upd H a o) := by
  obtain ⟨a', h1, ham, _⟩ := R.ow i d hi
  rw [ha] at h1
  cases h1
  have f : Fra own H own (upd H a o) := ⟨fun b u e hn => by rw [upd_ne (fun z => hn (by rw [z]; exact ham))]; exact e, fun _ h => .inl h⟩
  have hil : i < ρ.length := (List.getElem?_eq_some_iff.mp hi).1
  refine ⟨⟨fun j e q => ?_, fun j e q => ?_, fun j e q => ?_, fun j k d1 e1 x y q => ?_, fun b hm => ⟨(R.own0 b hm).1, ?_⟩, fun b u e => ?_, by simp [R.len]⟩, f⟩
  · rcases get_set q with ⟨rfl, z, hl⟩ | ⟨hj, z⟩
    · cases z
    · obtain ⟨v, h1, h2⟩ := R.sh j e z
      exact ⟨v, h1, h2.keep (f.keepA R.own0)⟩
  · rcases get_set q with ⟨rfl, z, hl⟩ | ⟨hj, z⟩
    · cases z
    · obtain ⟨v, h1, h2⟩ := R.fr j e z
      exact ⟨v, h1, h2.keep (f.keepF R.own0)⟩
  · rcases get_set q with ⟨rfl, z, hl⟩ | ⟨hj, z⟩
    · cases z
      exact ⟨a, ha, ham, r⟩
    · obtain ⟨b, h1, h2, h3⟩ := R.ow j e z
      have hba : b ≠ a := fun z2 => hj (R.dis j i e d z hi (by rw [h1, ha, z2]))
      exact ⟨b, h1, h2, h3.keep (f.keepF R.own0) fun u e => by rw [upd_ne hba]; exact e⟩
  · have g : ∀ (j : Nat) (d1 : D), (ρ.set i (.ow d'))[j]? = some (.ow d1) → ∃ d2, ρ[j]? = some (.ow d2) := fun j d1 z => by
      rcases get_set z with ⟨rfl, _, _⟩ | ⟨_, z⟩
      · exact ⟨_, hi⟩
      · exact ⟨_, z⟩
    obtain ⟨d2, z2⟩ := g j d1 x
    obtain ⟨d3, z3⟩ := g k e1 y
    exact R.dis j k d2 d3 z2 z3 q
  · by_cases hb : b = a
    · subst hb; rw [upd_same]; exact mo
    · rw [upd_ne hb]; exact (R.own0 b hm).2
  · have hb : b ≠ a := fun z => by
      have := (R.own0 a ham).1
      rw [← z, e] at this; cases this
    rw [upd_ne hb]
    exact R.same b u e
/-- what is one's own is given to all -/
theorem Rel.share {i : Nat} {d : D} (R : Rel K S0 H0 ρ σ own H) (hi : ρ[i]? = some (.ow d)) : ∃ own', Rel K S0 H0 (ρ.set i (.fr d)) σ own' H ∧ Fra own H own' H := by
  obtain ⟨a, h1, h2, h3⟩ := R.ow i d hi
  refine ⟨own.filter fun b => decide (b ≠ a), ?_, ⟨fun _ _ e _ => e, fun b hm => .inl (List.mem_filter.mp hm).1⟩⟩
  have f : Fra own H (own.filter fun b => decide (b ≠ a)) H := ⟨fun _ _ e _ => e, fun b hm => .inl (List.mem_filter.mp hm).1⟩
  have na : a ∉ own.filter fun b => decide (b ≠ a) := fun hm => by simpa using (List.mem_filter.mp hm).2
  have h0 := (R.own0 a h2).1
  refine ⟨fun j e q => ?_, fun j e q => ?_, fun j e q => ?_, fun j k d1 e1 x y q => ?_, fun b hm => R.own0 b (List.mem_filter.mp hm).1, R.same, by simp [R.len]⟩
  · rcases get_set q with ⟨rfl, z, hl⟩ | ⟨hj, z⟩
    · cases z
    · obtain ⟨v, h1, h2⟩ := R.sh j e z
      exact ⟨v, h1, h2.keep (f.keepA R.own0)⟩
  · rcases get_set q with ⟨rfl, z, hl⟩ | ⟨hj, z⟩
    · cases z
      refine ⟨.ref a, h1, ?_⟩
      have h3' := h3.keep (f.keepF R.own0) (fun _ q => q)
      cases d with
      | lst ds => obtain ⟨xs, e, r⟩ := h3'; exact .lst ⟨na, h0⟩ e r
      | dct ds => obtain ⟨xs, e, r⟩ := h3'; exact .dct ⟨na, h0⟩ e r
      | dk ds => obtain ⟨xs, e, r⟩ := h3'; exact .dk ⟨na, h0⟩ e r
      | non => exact h3'.elim
      | bl _ => exact h3'.elim
      | int _ => exact h3'.elim
      | str _ => exact h3'.elim
      | tup _ => exact h3'.elim
      | kt _ => exact h3'.elim
      | fz _ => exact h3'.elim
    · obtain ⟨v, h1, h2⟩ := R.fr j e z
      exact ⟨v, h1, h2.keep (f.keepF R.own0)⟩
  · rcases get_set q with ⟨rfl, z, hl⟩ | ⟨hj, z⟩
    · cases z
    · obtain ⟨b, e1, e2, e3⟩ := R.ow j e z
      have hba : b ≠ a := fun z2 => hj (R.dis j i e d z hi (by rw [e1, h1, z2]))
      exact ⟨b, e1, List.mem_filter.mpr ⟨e2, by simpa using hba⟩, e3.keep (f.keepF R.own0) fun _ q => q⟩
  · rcases get_set x with ⟨rfl, z, hl⟩ | ⟨hj, z⟩
    · cases z
    · rcases get_set y with ⟨rfl, z2, hl⟩ | ⟨hk, z2⟩
      · cases z2
      · exact R.dis j k d1 e1 z z2 q
end
end VL
set_option Elab.async false
set_option linter.all false
set_option maxRecDepth 100000
/-! VL: expressions. -/
namespace VL
open PySem L2

/-- how an expression's value stands: borrowed (it may be one's own list), shared, made in this def, made by this expression -/
inductive Md where
  | O | E | F | N
def SN (Hb : Hp) (H0 : Hp) (own : List Addr) : Addr → Prop := fun a => Hb a = none ∧ SF H0 own a
def RM (K : PySem.W.Frag) (S0 : Addr → Prop) (H0 : Hp) (own : List Addr) : Md → Hp → Hp → V → D → Prop
  | .O, _, H, v, d => Rp K (SA S0 H0 own) H v d ∨ ∃ a, v = .ref a ∧ a ∈ own ∧ Own K (SF H0 own) H a d
  | .E, _, H, v, d => Rp K (SA S0 H0 own) H v d
  | .F, _, H, v, d => Rp K (SF H0 own) H v d
  | .N, Hb, H, v, d => Rp K (SN Hb H0 own) H v d
def IsCls (mg : Str → Option Value) : Xc → Value → Option Addr → Prop
  | .own c, v, d => mg c = some v ∧ d = none
  | .bi n, v, _ => v = .type n
section
variable (X : Cx) (W : WX) (S0 : Addr → Prop) (H0 : Hp) (own : List Addr) (m : Md) (H : Hp) (σ : Sg)
/-- what is wanted behind an expression -/
def PX (Q : VK) : M D → Prop
  | .ok d => ∀ v H', Same H H' → RM X.K S0 H0 own m H H' v d → Q v H'
  | .ex c => ∀ cv d H', IsCls X.mg c cv d → Same H H' → W cv d σ H'
  | .er => False
def PXT (Q : Bool → Hp → Prop) : M Bool → Prop
  | .ok b => ∀ H', Same H H' → Q b H'
  | .ex c => ∀ cv d H', IsCls X.mg c cv d → Same H H' → W cv d σ H'
  | .er => False
def PXA (Q : List V → Hp → Prop) : M (List D) → Prop
  | .ok ds => ∀ vs H', Same H H' → Paired (RM X.K S0 H0 own m H H') vs ds → Q vs H'
  | .ex c => ∀ cv d H', IsCls X.mg c cv d → Same H H' → W cv d σ H'
  | .er => False
end
structure VX (X : Cx) (W : WX) (S0 : Addr → Prop) (H0 : Hp) (m : Md) (e : Expr) (f : Rho → M D) : Prop where
  p : ∃ te, PE X e te ∧ ∀ ρ σ own H Q, Rel X.K S0 H0 ρ σ own H → PX X W S0 H0 own m H σ Q (f ρ) → te σ H Q
structure VT (X : Cx) (W : WX) (S0 : Addr → Prop) (H0 : Hp) (e : Expr) (f : Rho → M Bool) : Prop where
  p : ∃ te, PT X e te ∧ ∀ ρ σ own H Q, Rel X.K S0 H0 ρ σ own H → PXT X W H σ Q (f ρ) → te σ H Q
/-- a test whatever its whole is (and, or) -/
structure VW (X : Cx) (W : WX) (S0 : Addr → Prop) (H0 : Hp) (e : Expr) (f : Rho → M Bool) : Prop where
  p : ∃ te, PW X e te ∧ ∀ ρ σ own H Q, Rel X.K S0 H0 ρ σ own H → PXT X W H σ Q (f ρ) → te σ H Q
structure VA (X : Cx) (W : WX) (S0 : Addr → Prop) (H0 : Hp) (m : Md) (es : List Expr) (f : Rho → M (List D)) : Prop where
  p : ∃ te, PA X es te ∧ ∀ ρ σ own H Q, Rel X.K S0 H0 ρ σ own H → PXA X W S0 H0 own m H σ Q (f ρ) → te σ H Q

section
variable {X : Cx} {W : WX} {S0 : Addr → Prop} {H0 : Hp} {own : List Addr} {m : Md} {H H1 : Hp} {σ : Sg} {ρ : Rho} {K : PySem.W.Frag} {v : V} {d : D}
/-! ### modes -/
variable {Hb Hc : Hp}
theorem RM.grow (h : Same H H1) (r : RM K S0 H0 own m Hb H v d) : RM K S0 H0 own m Hb H1 v d := by
  cases m with
  | E => exact Rp.keep (.same h) r
  | F => exact Rp.keep (.same h) r
  | N => exact Rp.keep (.same h) r
  | O =>
    rcases r with r | ⟨a, e, hm, r⟩
    · exact .inl (r.keep (.same h))
    · exact .inr ⟨a, e, hm, r.keep (.same h) fun o q => h _ o q⟩
theorem RM.back (h : Same Hc Hb) (r : RM K S0 H0 own m Hb H v d) : RM K S0 H0 own m Hc H v d := by
  cases m with
  | O => exact r
  | E => exact r
  | F => exact r
  | N => exact Rp.keep (.wide fun a q => ⟨h.free q.1, q.2⟩) r
theorem RMA.grow (h : Same H H1) {vs : List V} {ds : List D} (r : Paired (RM K S0 H0 own m Hb H) vs ds) : Paired (RM K S0 H0 own m Hb H1) vs ds := by
  induction r with
  | nil => exact .nil
  | cons a _ ih => exact .cons (a.grow h) ih
theorem RMA.back (h : Same Hc Hb) {vs : List V} {ds : List D} (r : Paired (RM K S0 H0 own m Hb H) vs ds) : Paired (RM K S0 H0 own m Hc H) vs ds := by
  induction r with
  | nil => exact .nil
  | cons a _ ih => exact .cons (a.back h) ih
theorem RM.nf (r : RM K S0 H0 own .N Hb H v d) : RM K S0 H0 own .F Hc H v d := Rp.keep (.wide fun a q => q.2) r
theorem RM.fe (r : RM K S0 H0 own .F Hb H v d) : RM K S0 H0 own .E Hc H v d := Rp.keep (.wide SF.sa) r
theorem RM.toO (r : RM K S0 H0 own m Hb H v d) : RM K S0 H0 own .O Hc H v d := by
  cases m with
  | O => exact r
  | E => exact .inl r
  | F => exact .inl (Rp.keep (.wide SF.sa) r)
  | N => exact .inl (Rp.keep (.wide fun a q => SF.sa a q.2) r)
/-- data without lists: as well new -/
theorem RM.ofNon : RM K S0 H0 own m Hb H .non .non := by cases m <;> first | exact .non | exact .inl .non
theorem RM.ofInt (i : Int) : RM K S0 H0 own m Hb H (.int i) (.int i) := by cases m <;> first | exact .int i | exact .inl (.int i)
theorem RM.ofBl (i : Bool) : RM K S0 H0 own m Hb H (.bl i) (.bl i) := by cases m <;> first | exact .bl i | exact .inl (.bl i)
theorem RM.ofStr (i : Str) : RM K S0 H0 own m Hb H (.str i) (.str i) := by cases m <;> first | exact .str i | exact .inl (.str i)
theorem RM.isInt {i : Int} (r : RM K S0 H0 own m Hb H v (.int i)) : v = .int i := by
  rcases r.toO (Hc := Hb) with r | ⟨a, e, hm, r⟩
  · cases r; rfl
  · exact r.elim
theorem RM.isBl {i : Bool} (r : RM K S0 H0 own m Hb H v (.bl i)) : v = .bl i := by
  rcases r.toO (Hc := Hb) with r | ⟨a, e, hm, r⟩
  · cases r; rfl
  · exact r.elim
theorem RM.isStr {i : Str} (r : RM K S0 H0 own m Hb H v (.str i)) : v = .str i := by
  rcases r.toO (Hc := Hb) with r | ⟨a, e, hm, r⟩
  · cases r; rfl
  · exact r.elim
theorem RM.isNon (r : RM K S0 H0 own m Hb H v .non) : v = .non := by
  rcases r.toO (Hc := Hb) with r | ⟨a, e, hm, r⟩
  · cases r; rfl
  · exact r.elim
theorem SqL.rd {a : Addr} {xs : List V} (h : Rd H a (.lst xs)) : SqL K H a xs := .inl h
/-- a list read -/
theorem RM.isLst {ds : List D} (r : RM K S0 H0 own m Hb H v (.lst ds)) : ∃ a xs, v = .ref a ∧ Rd H a (.lst xs) ∧ RpA K (SA S0 H0 own) H xs ds := by
  rcases r.toO (Hc := Hb) with r | ⟨a, e, hm, xs, h, r⟩
  · cases r with
    | lst s h r => exact ⟨_, _, rfl, .inl h, r⟩
  · exact ⟨a, xs, e, .inl h, r.keep (.wide SF.sa)⟩
theorem RM.isFz {ds : List D} (r : RM K S0 H0 own m Hb H v (.fz ds)) : ∃ a xs, v = .ref a ∧ FzL K H a xs ∧ RpA K (SA S0 H0 own) H xs ds := by
  rcases r.toO (Hc := Hb) with r | ⟨a, e, hm, r⟩
  · cases r with
    | fz h r => exact ⟨_, _, rfl, h, r⟩
  · exact r.elim
theorem RM.isTup {ds : List D} (r : RM K S0 H0 own m Hb H v (.tup ds)) : ∃ a xs, v = .ref a ∧ H a = some (.tup xs) ∧ RpA K (SA S0 H0 own) H xs ds := by
  rcases r.toO (Hc := Hb) with r | ⟨a, e, hm, r⟩
  · cases r with
    | tup h r => exact ⟨_, _, rfl, h, r⟩
  · exact r.elim
theorem RM.isKt {ds : List D} (r : RM K S0 H0 own m Hb H v (.kt ds)) : ∃ a xs, v = .ref a ∧ SqT K H a xs ∧ RpA K (SA S0 H0 own) H xs ds := by
  rcases r.toO (Hc := Hb) with r | ⟨a, e, hm, r⟩
  · cases r with
    | kt h r => exact ⟨_, _, rfl, .inr h, r⟩
  · exact r.elim
theorem RM.isDct {ds : List (List Key × D)} (r : RM K S0 H0 own m Hb H v (.dct ds)) : ∃ a xs, v = .ref a ∧ Rd H a (.dT xs) ∧ RpT K (SA S0 H0 own) H xs ds := by
  rcases r.toO (Hc := Hb) with r | ⟨a, e, hm, xs, h, r⟩
  · cases r with
    | dct s h r => exact ⟨_, _, rfl, .inl h, r⟩
  · exact ⟨a, xs, e, .inl h, r.keep (.wide SF.sa)⟩
theorem RM.isDk {ds : List (Key × D)} (r : RM K S0 H0 own m Hb H v (.dk ds)) : ∃ a xs, v = .ref a ∧ Rd H a (.dK xs) ∧ RpK K (SA S0 H0 own) H xs ds := by
  rcases r.toO (Hc := Hb) with r | ⟨a, e, hm, xs, h, r⟩
  · cases r with
    | dk s h r => exact ⟨_, _, rfl, .inl h, r⟩
  · exact ⟨a, xs, e, .inl h, r.keep (.wide SF.sa)⟩
/-- an item, as shared -/
theorem RpA.E {vs : List V} {ds : List D} {i : Nat} (r : RpA K (SA S0 H0 own) H vs ds) (e : ds[i]? = some d) : ∃ v, vs[i]? = some v ∧ RM K S0 H0 own .E Hb H v d := r.get e
theorem PX.grow {Q : VK} {r : M D} (h : Same H H1) (p : PX X W S0 H0 own m H σ Q r) : PX X W S0 H0 own m H1 σ Q r := by
  cases r with
  | ok d => exact fun v H' s r => p v H' (h.trans s) (r.back h)
  | ex c => exact fun cv d H' i s => p cv d H' i (h.trans s)
  | er => exact p
theorem PXT.grow {Q : Bool → Hp → Prop} {r : M Bool} (h : Same H H1) (p : PXT X W H σ Q r) : PXT X W H1 σ Q r := by
  cases r with
  | ok d => exact fun H' s => p H' (h.trans s)
  | ex c => exact fun cv d H' i s => p cv d H' i (h.trans s)
  | er => exact p
theorem PXA.grow {Q : List V → Hp → Prop} {r : M (List D)} (h : Same H H1) (p : PXA X W S0 H0 own m H σ Q r) : PXA X W S0 H0 own m H1 σ Q r := by
  cases r with
  | ok d => exact fun v H' s r => p v H' (h.trans s) (RMA.back h r)
  | ex c => exact fun cv d H' i s => p cv d H' i (h.trans s)
  | er => exact p
theorem own_new {a : Addr} (R : Rel K S0 H0 ρ σ own H) (h : H a = none) : a ∉ own := fun hm => by
  have := (R.own0 a hm).2
  rw [h] at this; exact this
theorem sf_new {a : Addr} (R : Rel K S0 H0 ρ σ own H) (h : H a = none) : SF H0 own a := ⟨own_new R h, R.same.free h⟩
theorem same_upd {p : Addr} {o : HO} (h : H p = none) : Same H (upd H p o) := fun b x e => by
  rw [upd_ne (ne_of_none e h)]
  exact e
end

/-! ### names, constants -/
def eV (i : Nat) : Rho → M D := fun ρ => match ρ[i]? with
  | some (.sh d) => .ok d
  | some (.fr d) => .ok d
  | some (.ow d) => .ok d
  | _ => .er
def eVE (i : Nat) : Rho → M D := fun ρ => match ρ[i]? with
  | some (.sh d) => .ok d
  | some (.fr d) => .ok d
  | _ => .er
def eVF (i : Nat) : Rho → M D := fun ρ => match ρ[i]? with
  | some (.fr d) => .ok d
  | _ => .er
def eC (d : D) : Rho → M D := fun _ => .ok d
section
variable {X : Cx} {W : WX} {S0 : Addr → Prop} {H0 : Hp} {m : Md} {pos : Pos}
theorem VX.nf {e : Expr} {f : Rho → M D} (h : VX X W S0 H0 .N e f) : VX X W S0 H0 .F e f := by
  obtain ⟨te, p, q⟩ := h.p
  refine ⟨te, p, fun ρ σ own H Q R k => q ρ σ own H Q R ?_⟩
  revert k
  cases f ρ with
  | ok d => exact fun k v H' s r => k v H' s r.nf
  | ex c => exact id
  | er => exact id
theorem VX.fe {e : Expr} {f : Rho → M D} (h : VX X W S0 H0 .F e f) : VX X W S0 H0 .E e f := by
  obtain ⟨te, p, q⟩ := h.p
  refine ⟨te, p, fun ρ σ own H Q R k => q ρ σ own H Q R ?_⟩
  revert k
  cases f ρ with
  | ok d => exact fun k v H' s r => k v H' s r.fe
  | ex c => exact id
  | er => exact id
theorem VX.toO {e : Expr} {f : Rho → M D} (h : VX X W S0 H0 m e f) : VX X W S0 H0 .O e f := by
  obtain ⟨te, p, q⟩ := h.p
  refine ⟨te, p, fun ρ σ own H Q R k => q ρ σ own H Q R ?_⟩
  revert k
  cases f ρ with
  | ok d => exact fun k v H' s r => k v H' s r.toO
  | ex c => exact id
  | er => exact id
theorem vx_var (i : Nat) {x : Str} (hN : X.N[i]? = some x := by rfl) (hv : Vis X.env.scope x := by first | exact Or.inl rfl | exact Or.inr (Or.inl rfl) | exact Or.inr (Or.inr rfl)) (hd : (x == ("__debug__" : Str)) = false := by decide)
    (hcd : (x == ("__classdict__" : Str)) = false := by decide) : VX X W S0 H0 .O (.Name x pos) (eV i) := by
  refine ⟨_, pe_var hN hv hd hcd, fun ρ σ own H Q R k => ?_⟩
  unfold eV at k
  split at k
  · next d e => obtain ⟨v, h1, h2⟩ := R.sh i d e; exact ⟨v, h1, k v H (Same.refl H) (.inl h2)⟩
  · next d e => obtain ⟨v, h1, h2⟩ := R.fr i d e; exact ⟨v, h1, k v H (Same.refl H) (.inl (h2.keep (.wide SF.sa)))⟩
  · next d e => obtain ⟨a, h1, h2, h3⟩ := R.ow i d e; exact ⟨.ref a, h1, k _ H (Same.refl H) (.inr ⟨a, rfl, h2, h3⟩)⟩
  · exact k.elim
theorem vx_varE (i : Nat) {x : Str} (hN : X.N[i]? = some x := by rfl) (hv : Vis X.env.scope x := by first | exact Or.inl rfl | exact Or.inr (Or.inl rfl) | exact Or.inr (Or.inr rfl)) (hd : (x == ("__debug__" : Str)) = false := by decide)
    (hcd : (x == ("__classdict__" : Str)) = false := by decide) : VX X W S0 H0 .E (.Name x pos) (eVE i) := by
  refine ⟨_, pe_var hN hv hd hcd, fun ρ σ own H Q R k => ?_⟩
  unfold eVE at k
  split at k
  · next d e => obtain ⟨v, h1, h2⟩ := R.sh i d e; exact ⟨v, h1, k v H (Same.refl H) h2⟩
  · next d e => obtain ⟨v, h1, h2⟩ := R.fr i d e; exact ⟨v, h1, k v H (Same.refl H) (h2.keep (.wide SF.sa))⟩
  · exact k.elim
theorem vx_varF (i : Nat) {x : Str} (hN : X.N[i]? = some x := by rfl) (hv : Vis X.env.scope x := by first | exact Or.inl rfl | exact Or.inr (Or.inl rfl) | exact Or.inr (Or.inr rfl)) (hd : (x == ("__debug__" : Str)) = false := by decide)
    (hcd : (x == ("__classdict__" : Str)) = false := by decide) : VX X W S0 H0 .F (.Name x pos) (eVF i) := by
  refine ⟨_, pe_var hN hv hd hcd, fun ρ σ own H Q R k => ?_⟩
  unfold eVF at k
  split at k
  · next d e => obtain ⟨v, h1, h2⟩ := R.fr i d e; exact ⟨v, h1, k v H (Same.refl H) h2⟩
  · exact k.elim
theorem vx_int {i : Int} {j : Nat} : VX X W S0 H0 m (.Constant (.int i) j pos) (eC (.int i)) := ⟨_, pe_int, fun _ _ _ H _ _ k => k _ H (Same.refl H) (.ofInt i)⟩
theorem vx_bl {i : Bool} {j : Nat} : VX X W S0 H0 m (.Constant (.bool i) j pos) (eC (.bl i)) := ⟨_, pe_bl, fun _ _ _ H _ _ k => k _ H (Same.refl H) (.ofBl i)⟩
theorem vx_str {i : Str} {j : Nat} : VX X W S0 H0 m (.Constant (.str i) j pos) (eC (.str i)) := ⟨_, pe_str, fun _ _ _ H _ _ k => k _ H (Same.refl H) (.ofStr i)⟩
theorem vx_non {j : Nat} : VX X W S0 H0 m (.Constant .none j pos) (eC .non) := ⟨_, pe_non, fun _ _ _ H _ _ k => k _ H (Same.refl H) .ofNon⟩
/-- a module's constant: an int, a text -/
theorem vx_gint {x : Str} {i : Int} {u : Value} (hm : X.mg x = some u) (hu : ∃ t, u = .int i t) (hg : Gl X x := by rfl) (hd : (x == ("__debug__" : Str)) = false := by decide) : VX X W S0 H0 m (.Name x pos) (eC (.int i)) :=
  ⟨_, pe_glob (v := .int i) hg hm hu hd, fun _ _ _ H _ _ k => k _ H (Same.refl H) (.ofInt i)⟩
theorem vx_gstr {x : Str} {i : Str} {u : Value} (hm : X.mg x = some u) (hu : ∃ t, u = .str i t) (hg : Gl X x := by rfl) (hd : (x == ("__debug__" : Str)) = false := by decide) : VX X W S0 H0 m (.Name x pos) (eC (.str i)) :=
  ⟨_, pe_glob (v := .str i) hg hm hu hd, fun _ _ _ H _ _ k => k _ H (Same.refl H) (.ofStr i)⟩
end

/-! ### binary operations -/
section
variable (X : Cx) (W : WX) (S0 : Addr → Prop) (H0 : Hp) (m : Md)
def OpG (r : R2) (g : D → D → M D) : Prop :=
  ∀ (ρ : Rho) (σ : Sg) (own : List Addr) (H : Hp) (Q : VK) (vx vy : V) (x y : D), Rel X.K S0 H0 ρ σ own H → RM X.K S0 H0 own .O H H vx x → RM X.K S0 H0 own .O H H vy y → PX X W S0 H0 own m H σ Q (g x y) → r vx vy H Q
def UnG (r : V → Hp → VK → Prop) (g : D → M D) : Prop :=
  ∀ (ρ : Rho) (σ : Sg) (own : List Addr) (H : Hp) (Q : VK) (vx : V) (x : D), Rel X.K S0 H0 ρ σ own H → RM X.K S0 H0 own .O H H vx x → PX X W S0 H0 own m H σ Q (g x) → r vx H Q
def CallG (r : List V → Hp → VK → Prop) (g : List D → M D) : Prop :=
  ∀ (ρ : Rho) (σ : Sg) (own : List Addr) (H : Hp) (Q : VK) (vs : List V) (ds : List D), Rel X.K S0 H0 ρ σ own H → Paired (RM X.K S0 H0 own .O H H) vs ds → PX X W S0 H0 own m H σ Q (g ds) → r vs H Q
end
def eOp (g : D → D → M D) (a b : Rho → M D) : Rho → M D := fun ρ => M.bind (a ρ) fun x => M.bind (b ρ) fun y => g x y
def eUn (g : D → M D) (a : Rho → M D) : Rho → M D := fun ρ => M.bind (a ρ) g
section
variable {X : Cx} {W : WX} {S0 : Addr → Prop} {H0 : Hp} {m ma mb : Md} {pos : Pos} {a b : Expr} {fa fb : Rho → M D} {r : R2} {g : D → D → M D}
theorem bin_run {ta tb : TE} (qa : ∀ ρ σ own H Q, Rel X.K S0 H0 ρ σ own H → PX X W S0 H0 own ma H σ Q (fa ρ) → ta σ H Q) (qb : ∀ ρ σ own H Q, Rel X.K S0 H0 ρ σ own H → PX X W S0 H0 own mb H σ Q (fb ρ) → tb σ H Q)
    (hg : OpG X W S0 H0 m r g) : ∀ ρ σ own H Q, Rel X.K S0 H0 ρ σ own H → PX X W S0 H0 own m H σ Q (eOp g fa fb ρ) → tOp r ta tb σ H Q := by
  intro ρ σ own H Q R k
  refine qa ρ σ own H _ R ?_
  unfold eOp at k
  revert k
  cases fa ρ with
  | er => exact id
  | ex c => exact id
  | ok x =>
    intro k v H1 s1 r1
    refine qb ρ σ own H1 _ (R.grow s1) ?_
    rw [bind_ok] at k
    revert k
    cases fb ρ with
    | er => exact id
    | ex c => exact fun k => fun cv d H' i s => k cv d H' i (s1.trans s)
    | ok y =>
      intro k v2 H2 s2 r2
      exact hg ρ σ own H2 Q v v2 x y ((R.grow s1).grow s2) (r1.grow s2).toO r2.toO (PX.grow (s1.trans s2) k)
theorem vx_op {op : Operator} (ho : OpR X (binaryOp op) r) (hg : OpG X W S0 H0 m r g) (ha : VX X W S0 H0 ma a fa) (hb : VX X W S0 H0 mb b fb) : VX X W S0 H0 m (.BinOp a op b pos) (eOp g fa fb) := by
  obtain ⟨ta, pa, qa⟩ := ha.p
  obtain ⟨tb, pb, qb⟩ := hb.p
  exact ⟨_, pe_op ho pa pb, bin_run qa qb hg⟩
theorem vx_cmp {op : CmpOp} (ho : OpR X (compareOp op) r) (hg : OpG X W S0 H0 m r g) (ha : VX X W S0 H0 ma a fa) (hb : VX X W S0 H0 mb b fb) (hm : behindInMarks op b = false := by first | exact nomark _ | rfl) : VX X W S0 H0 m (.Compare a [op] [b] pos) (eOp g fa fb) := by
  obtain ⟨ta, pa, qa⟩ := ha.p
  obtain ⟨tb, pb, qb⟩ := hb.p
  exact ⟨_, pe_cmpR ho pa pb hm, bin_run qa qb hg⟩
def toB : D → M Bool
  | .bl b => .ok b
  | _ => .er
def eB (f : Rho → M D) : Rho → M Bool := fun ρ => M.bind (f ρ) toB
theorem vt_cmp {op : CmpOp} (ho : OpR X (compareOp op) r) (hg : OpG X W S0 H0 .N r g) (ha : VX X W S0 H0 ma a fa) (hb : VX X W S0 H0 mb b fb) (hm : behindInMarks op b = false := by first | exact nomark _ | rfl) : VT X W S0 H0 (.Compare a [op] [b] pos) (eB (eOp g fa fb)) := by
  obtain ⟨ta, pa, qa⟩ := ha.p
  obtain ⟨tb, pb, qb⟩ := hb.p
  refine ⟨_, pt_cmpR ho pa pb hm, fun ρ σ own H Q R k => bin_run qa qb hg ρ σ own H _ R ?_⟩
  unfold eB at k
  revert k
  cases eOp g fa fb ρ with
  | er => exact id
  | ex c => exact id
  | ok x =>
    intro k v H' s r
    cases x with
    | bl b => rw [r.isBl]; exact ⟨b, rfl, k H' s⟩
    | _ => exact k.elim
/-- an expression that gives a truth value, as a test -/
theorem vt_val {e : Expr} {f : Rho → M D} (h : VX X W S0 H0 m e f) (he : ∀ whole, isTrue e X.env whole = (do let v ← whole; standAt e.pos; holding [v] (truthy v)) := by intro _; rfl) : VT X W S0 H0 e (eB f) := by
  obtain ⟨ta, pa, qa⟩ := h.p
  refine ⟨_, pt_val pa he, fun ρ σ own H Q R k => qa ρ σ own H _ R ?_⟩
  unfold eB at k
  revert k
  cases f ρ with
  | er => exact id
  | ex c => exact id
  | ok x =>
    intro k v H' s r
    cases x with
    | bl b => rw [r.isBl]; exact ⟨b, rfl, k H' s⟩
    | _ => exact k.elim
/-- a op1 b op2 c -/
def eCh (g g' : D → D → M D) (a b c : Rho → M D) : Rho → M D := fun ρ => M.bind (a ρ) fun x => M.bind (b ρ) fun y => M.bind (M.bind (g x y) toB) fun k => if k = true then M.bind (c ρ) fun z => g' y z else .ok (.bl false)
theorem chain_run {ta tb tc : TE} {mc : Md} {c : Expr} {fc : Rho → M D} {r' : R2} {g' : D → D → M D} (qa : ∀ ρ σ own H Q, Rel X.K S0 H0 ρ σ own H → PX X W S0 H0 own ma H σ Q (fa ρ) → ta σ H Q)
    (qb : ∀ ρ σ own H Q, Rel X.K S0 H0 ρ σ own H → PX X W S0 H0 own mb H σ Q (fb ρ) → tb σ H Q) (qc : ∀ ρ σ own H Q, Rel X.K S0 H0 ρ σ own H → PX X W S0 H0 own mc H σ Q (fc ρ) → tc σ H Q)
    (hg : OpG X W S0 H0 .N r g) (hg' : OpG X W S0 H0 .N r' g') : ∀ ρ σ own H Q, Rel X.K S0 H0 ρ σ own H → PX X W S0 H0 own .N H σ Q (eCh g g' fa fb fc ρ) → tChain r r' ta tb tc σ H Q := by
  intro ρ σ own H Q R k
  refine qa ρ σ own H _ R ?_
  unfold eCh at k
  revert k
  cases fa ρ with
  | er => exact id
  | ex c => exact id
  | ok x =>
    intro k v H1 s1 r1
    refine qb ρ σ own H1 _ (R.grow s1) ?_
    rw [bind_ok] at k
    revert k
    cases fb ρ with
    | er => exact id
    | ex c => exact fun k => fun cv d H' i s => k cv d H' i (s1.trans s)
    | ok y =>
      intro k v2 H2 s2 r2
      refine hg ρ σ own H2 _ v v2 x y ((R.grow s1).grow s2) (r1.grow s2).toO r2.toO ?_
      rw [bind_ok] at k
      revert k
      cases g x y with
      | er => exact id
      | ex c => exact fun k => fun cv d H' i s => k cv d H' i ((s1.trans s2).trans s)
      | ok z =>
        intro k v3 H3 s3 r3
        cases z with
        | bl b =>
          rw [r3.isBl]
          refine ⟨b, rfl, ?_⟩
          cases b with
          | false =>
            rw [if_neg Bool.false_ne_true]
            exact k _ _ ((s1.trans s2).trans s3) (.ofBl false)
          | true =>
            rw [if_pos rfl]
            refine qc ρ σ own H3 _ (((R.grow s1).grow s2).grow s3) ?_
            have k' : PX X W S0 H0 own .N H σ Q (M.bind (fc ρ) fun z => g' y z) := k
            revert k'
            cases fc ρ with
            | er => exact id
            | ex c => exact fun k => fun cv d H' i s => k cv d H' i (((s1.trans s2).trans s3).trans s)
            | ok z =>
              intro k v4 H4 s4 r4
              exact hg' ρ σ own H4 Q v2 v4 y z ((((R.grow s1).grow s2).grow s3).grow s4) ((r2.grow s3).grow s4).toO r4.toO (PX.grow (((s1.trans s2).trans s3).trans s4) k)
        | _ => exact k.elim
theorem vx_chain {op op' : CmpOp} {r' : R2} {g' : D → D → M D} {c : Expr} {fc : Rho → M D} {mc : Md} (ho : OpR X (compareOp op) r) (ho' : OpR X (compareOp op') r') (hg : OpG X W S0 H0 .N r g) (hg' : OpG X W S0 H0 .N r' g')
    (ha : VX X W S0 H0 ma a fa) (hb : VX X W S0 H0 mb b fb) (hc : VX X W S0 H0 mc c fc) (hm : lastMarks [op, op'] [b, c] = false := by with_unfolding_all rfl) : VX X W S0 H0 .N (.Compare a [op, op'] [b, c] pos) (eCh g g' fa fb fc) := by
  obtain ⟨ta, pa, qa⟩ := ha.p
  obtain ⟨tb, pb, qb⟩ := hb.p
  obtain ⟨tc, pc, qc⟩ := hc.p
  exact ⟨_, pe_chain ho ho' pa pb pc hm, chain_run (c := c) qa qb qc hg hg'⟩
theorem vt_chain {op op' : CmpOp} {r' : R2} {g' : D → D → M D} {c : Expr} {fc : Rho → M D} {mc : Md} (ho : OpR X (compareOp op) r) (ho' : OpR X (compareOp op') r') (hg : OpG X W S0 H0 .N r g) (hg' : OpG X W S0 H0 .N r' g')
    (ha : VX X W S0 H0 ma a fa) (hb : VX X W S0 H0 mb b fb) (hc : VX X W S0 H0 mc c fc) (hm : lastMarks [op, op'] [b, c] = false := by with_unfolding_all rfl) : VT X W S0 H0 (.Compare a [op, op'] [b, c] pos) (eB (eCh g g' fa fb fc)) := by
  obtain ⟨ta, pa, qa⟩ := ha.p
  obtain ⟨tb, pb, qb⟩ := hb.p
  obtain ⟨tc, pc, qc⟩ := hc.p
  refine ⟨_, pt_chain ho ho' pa pb pc hm, fun ρ σ own H Q R k => chain_run (c := c) qa qb qc hg hg' ρ σ own H _ R ?_⟩
  unfold eB at k
  revert k
  cases eCh g g' fa fb fc ρ with
  | er => exact id
  | ex c => exact id
  | ok x =>
    intro k v H' s r
    cases x with
    | bl b => rw [r.isBl]; exact ⟨b, rfl, k H' s⟩
    | _ => exact k.elim
theorem vx_un {op : UnaryOp} {r : V → Hp → VK → Prop} {g : D → M D} (ho : UnR X (unaryOp op) r) (hg : UnG X W S0 H0 m r g) (ha : VX X W S0 H0 ma a fa) : VX X W S0 H0 m (.UnaryOp op a pos) (eUn g fa) := by
  obtain ⟨ta, pa, qa⟩ := ha.p
  refine ⟨_, pe_un ho pa, fun ρ σ own H Q R k => ?_⟩
  refine qa ρ σ own H _ R ?_
  unfold eUn at k
  revert k
  cases fa ρ with
  | er => exact id
  | ex c => exact id
  | ok x => exact fun k v H1 s1 r1 => hg ρ σ own H1 Q v x (R.grow s1) r1.toO (PX.grow s1 k)

/-! ### truth, and, or, not -/
def truG : D → M Bool
  | .non => .ok false
  | .bl b => .ok b
  | .int i => .ok (i != 0)
  | .str y => if y.length ≤ sizeLine then .ok ((y.length : Int) != 0) else .er
  | .lst ds => .ok (!ds.isEmpty)
  | .tup ds => .ok (!ds.isEmpty)
  | .kt ds => .ok (!ds.isEmpty)
  | .fz ds => .ok (!ds.isEmpty)
  | .dk ds => .er
  | .dct ds => .er
def eTr (f : Rho → M D) : Rho → M Bool := fun ρ => M.bind (f ρ) truG
theorem RpA.isEmpty {K : PySem.W.Frag} {S : Addr → Prop} {H : Hp} {xs : List V} {ds : List D} (r : RpA K S H xs ds) : xs.isEmpty = ds.isEmpty := by cases r <;> rfl
theorem tru_of {K : PySem.W.Frag} {own : List Addr} {H : Hp} {v : V} {d : D} {k : Bool} {Hb : Hp} (r : RM K S0 H0 own m Hb H v d) (h : truG d = .ok k) : TruV K v H k := by
  cases d with
  | non => rw [r.isNon]; cases h; rfl
  | bl b => rw [r.isBl]; cases h; rfl
  | int b => rw [r.isInt]; cases h; rfl
  | str y =>
    rw [r.isStr]
    have h' : (if y.length ≤ sizeLine then M.ok ((y.length : Int) != 0) else M.er) = M.ok k := h
    by_cases hl : y.length ≤ sizeLine
    · rw [if_pos hl] at h'
      cases h'
      exact ⟨hl, rfl⟩
    · rw [if_neg hl] at h'
      cases h'
  | lst ds =>
    obtain ⟨a, xs, rfl, h1, h2⟩ := r.isLst
    cases h
    exact .inl ⟨xs, .inl h1, by rw [h2.isEmpty]⟩
  | tup ds =>
    obtain ⟨a, xs, rfl, h1, h2⟩ := r.isTup
    cases h
    exact .inr (.inl ⟨xs, .inl (.inl h1), by rw [h2.isEmpty]⟩)
  | kt ds =>
    obtain ⟨a, xs, rfl, h1, h2⟩ := r.isKt
    cases h
    exact .inr (.inl ⟨xs, h1, by rw [h2.isEmpty]⟩)
  | fz ds =>
    obtain ⟨a, xs, rfl, h1, h2⟩ := r.isFz
    cases h
    exact .inl ⟨xs, h1.sq, by rw [h2.isEmpty]⟩
  | dct ds => cases h
  | dk ds => cases h
theorem vt_tru {e : Expr} {f : Rho → M D} (h : VX X W S0 H0 m e f) (he : ∀ whole, isTrue e X.env whole = (do let v ← whole; standAt e.pos; holding [v] (truthy v)) := by intro _; rfl) : VT X W S0 H0 e (eTr f) := by
  obtain ⟨ta, pa, qa⟩ := h.p
  refine ⟨_, pt_truth pa he, fun ρ σ own H Q R k => qa ρ σ own H _ R ?_⟩
  unfold eTr at k
  revert k
  cases f ρ with
  | er => exact id
  | ex c => exact id
  | ok x =>
    intro k v H' s r
    rw [bind_ok] at k
    cases e : truG x with
    | ok b =>
      rw [e] at k
      exact ⟨b, tru_of r e, k H' s⟩
    | ex c => cases x <;> simp [truG] at e; split at e <;> cases e
    | er => rw [e] at k; exact k.elim
def eNot (f : Rho → M Bool) : Rho → M Bool := fun ρ => M.bind (f ρ) fun b => .ok (!b)
def eAnd (f g : Rho → M Bool) : Rho → M Bool := fun ρ => M.bind (f ρ) fun b => if b = true then g ρ else .ok false
def eOr (f g : Rho → M Bool) : Rho → M Bool := fun ρ => M.bind (f ρ) fun b => if b = true then .ok true else g ρ
theorem vt_not {e : Expr} {f : Rho → M Bool} (h : VT X W S0 H0 e f) : VT X W S0 H0 (.UnaryOp .Not e pos) (eNot f) := by
  obtain ⟨ta, pa, qa⟩ := h.p
  refine ⟨_, pt_not pa, fun ρ σ own H Q R k => qa ρ σ own H _ R ?_⟩
  unfold eNot at k
  revert k
  cases f ρ with
  | er => exact id
  | ex c => exact id
  | ok x => exact fun k H' s => k H' s
theorem VW.t {e : Expr} {f : Rho → M Bool} (h : VW X W S0 H0 e f) : VT X W S0 H0 e f := by
  obtain ⟨ta, pa, qa⟩ := h.p
  exact ⟨ta, pa.pt, qa⟩
theorem vw_and1 {e : Expr} {f : Rho → M Bool} (h : VT X W S0 H0 e f) : VW X W S0 H0 (.BoolOp .And [e] pos) f := by
  obtain ⟨ta, pa, qa⟩ := h.p
  exact ⟨ta, pw_and1 pa, qa⟩
theorem vw_or1 {e : Expr} {f : Rho → M Bool} (h : VT X W S0 H0 e f) : VW X W S0 H0 (.BoolOp .Or [e] pos) f := by
  obtain ⟨ta, pa, qa⟩ := h.p
  exact ⟨ta, pw_or1 pa, qa⟩
theorem vw_and {e e2 : Expr} {es : List Expr} {f g : Rho → M Bool} (h : VT X W S0 H0 e f) (h2 : VW X W S0 H0 (.BoolOp .And (e2 :: es) pos) g) : VW X W S0 H0 (.BoolOp .And (e :: e2 :: es) pos) (eAnd f g) := by
  obtain ⟨ta, pa, qa⟩ := h.p
  obtain ⟨tb, pb, qb⟩ := h2.p
  refine ⟨_, pw_and pa pb, fun ρ σ own H Q R k => qa ρ σ own H _ R ?_⟩
  unfold eAnd at k
  revert k
  cases f ρ with
  | er => exact id
  | ex c => exact id
  | ok x =>
    intro k H' s
    cases x with
    | true => exact qb ρ σ own H' Q (R.grow s) (PXT.grow s k)
    | false => exact k H' s
theorem vw_or {e e2 : Expr} {es : List Expr} {f g : Rho → M Bool} (h : VT X W S0 H0 e f) (h2 : VW X W S0 H0 (.BoolOp .Or (e2 :: es) pos) g) : VW X W S0 H0 (.BoolOp .Or (e :: e2 :: es) pos) (eOr f g) := by
  obtain ⟨ta, pa, qa⟩ := h.p
  obtain ⟨tb, pb, qb⟩ := h2.p
  refine ⟨_, pw_or pa pb, fun ρ σ own H Q R k => qa ρ σ own H _ R ?_⟩
  unfold eOr at k
  revert k
  cases f ρ with
  | er => exact id
  | ex c => exact id
  | ok x =>
    intro k H' s
    cases x with
    | true => exact k H' s
    | false => exact qb ρ σ own H' Q (R.grow s) (PXT.grow s k)
/-- the same as values (truth values) -/
def eAndV (f g : Rho → M D) : Rho → M D := fun ρ => M.bind (M.bind (f ρ) toB) fun b => if b = true then g ρ else .ok (.bl false)
def eOrV (f g : Rho → M D) : Rho → M D := fun ρ => M.bind (M.bind (f ρ) toB) fun b => if b = true then .ok (.bl true) else g ρ
def eNotV (f : Rho → M D) : Rho → M D := fun ρ => M.bind (M.bind (f ρ) toB) fun b => .ok (.bl (!b))
theorem vx_one {op : BoolOp} {f : Rho → M D} (h : VX X W S0 H0 m a f) : VX X W S0 H0 m (.BoolOp op [a] pos) f := by
  obtain ⟨ta, pa, qa⟩ := h.p
  exact ⟨ta, pe_one pa, qa⟩
theorem vx_and {e2 : Expr} {es : List Expr} (h : VX X W S0 H0 ma a fa) (h2 : VX X W S0 H0 m (.BoolOp .And (e2 :: es) pos) fb) : VX X W S0 H0 m (.BoolOp .And (a :: e2 :: es) pos) (eAndV fa fb) := by
  obtain ⟨ta, pa, qa⟩ := h.p
  obtain ⟨tb, pb, qb⟩ := h2.p
  refine ⟨_, pe_and pa pb, fun ρ σ own H Q R k => qa ρ σ own H _ R ?_⟩
  unfold eAndV at k
  revert k
  cases fa ρ with
  | er => exact id
  | ex c => exact id
  | ok x =>
    intro k v H' s r
    cases x with
    | bl b =>
      rw [r.isBl]
      refine ⟨b, rfl, ?_⟩
      cases b with
      | true => exact qb ρ σ own H' Q (R.grow s) (PX.grow s k)
      | false => exact k _ H' s (.ofBl false)
    | _ => exact k.elim
theorem vx_or {e2 : Expr} {es : List Expr} (h : VX X W S0 H0 ma a fa) (h2 : VX X W S0 H0 m (.BoolOp .Or (e2 :: es) pos) fb) : VX X W S0 H0 m (.BoolOp .Or (a :: e2 :: es) pos) (eOrV fa fb) := by
  obtain ⟨ta, pa, qa⟩ := h.p
  obtain ⟨tb, pb, qb⟩ := h2.p
  refine ⟨_, pe_or pa pb, fun ρ σ own H Q R k => qa ρ σ own H _ R ?_⟩
  unfold eOrV at k
  revert k
  cases fa ρ with
  | er => exact id
  | ex c => exact id
  | ok x =>
    intro k v H' s r
    cases x with
    | bl b =>
      rw [r.isBl]
      refine ⟨b, rfl, ?_⟩
      cases b with
      | true => exact k _ H' s (.ofBl true)
      | false => exact qb ρ σ own H' Q (R.grow s) (PX.grow s k)
    | _ => exact k.elim
theorem vx_notV (h : VX X W S0 H0 ma a fa) : VX X W S0 H0 m (.UnaryOp .Not a pos) (eNotV fa) := by
  obtain ⟨ta, pa, qa⟩ := h.p
  refine ⟨_, pe_not pa, fun ρ σ own H Q R k => qa ρ σ own H _ R ?_⟩
  unfold eNotV at k
  revert k
  cases fa ρ with
  | er => exact id
  | ex c => exact id
  | ok x =>
    intro k v H' s r
    cases x with
    | bl b => rw [r.isBl]; exact ⟨b, rfl, k _ H' s (.ofBl _)⟩
    | _ => exact k.elim
def eIf (c : Rho → M Bool) (f g : Rho → M D) : Rho → M D := fun ρ => M.bind (c ρ) fun b => if b = true then f ρ else g ρ
theorem vx_if {c : Expr} {fc : Rho → M Bool} (hc : VT X W S0 H0 c fc) (ha : VX X W S0 H0 m a fa) (hb : VX X W S0 H0 m b fb) : VX X W S0 H0 m (.IfExp c a b pos) (eIf fc fa fb) := by
  obtain ⟨tc, pc, qc⟩ := hc.p
  obtain ⟨ta, pa, qa⟩ := ha.p
  obtain ⟨tb, pb, qb⟩ := hb.p
  refine ⟨_, pe_ifExp pc pa pb, fun ρ σ own H Q R k => qc ρ σ own H _ R ?_⟩
  unfold eIf at k
  revert k
  cases fc ρ with
  | er => exact id
  | ex c => exact id
  | ok x =>
    intro k H' s
    cases x with
    | true => exact qa ρ σ own H' Q (R.grow s) (PX.grow s k)
    | false => exact qb ρ σ own H' Q (R.grow s) (PX.grow s k)

/-! ### argument lists, displays -/
def aNil : Rho → M (List D) := fun _ => .ok []
def aCons (f : Rho → M D) (g : Rho → M (List D)) : Rho → M (List D) := fun ρ => M.bind (f ρ) fun x => M.bind (g ρ) fun xs => .ok (x :: xs)
theorem va_nil : VA X W S0 H0 m [] aNil := ⟨_, pa_nil, fun _ _ _ H _ _ k => k [] H (Same.refl H) .nil⟩
theorem va_cons {e : Expr} {es : List Expr} {f : Rho → M D} {g : Rho → M (List D)} (h : VX X W S0 H0 m e f) (h2 : VA X W S0 H0 m es g) (hs : starEach (e :: es) X.env = (false, eval e X.env) :: starEach es X.env := by rfl) : VA X W S0 H0 m (e :: es) (aCons f g) := by
  obtain ⟨ta, pa, qa⟩ := h.p
  obtain ⟨tb, pb, qb⟩ := h2.p
  refine ⟨_, pa_cons pa pb hs, fun ρ σ own H Q R k => qa ρ σ own H _ R ?_⟩
  unfold aCons at k
  revert k
  cases f ρ with
  | er => exact id
  | ex c => exact id
  | ok x =>
    intro k v H1 s1 r1
    refine qb ρ σ own H1 _ (R.grow s1) ?_
    rw [bind_ok] at k
    revert k
    cases g ρ with
    | er => exact id
    | ex c => exact fun k => fun cv d H' i s => k cv d H' i (s1.trans s)
    | ok ys => exact fun k vs H2 s2 r2 => k (v :: vs) H2 (s1.trans s2) (.cons (r1.grow s2) (RMA.back s1 r2))
theorem RpA.ofP {K : PySem.W.Frag} {S : Addr → Prop} {H : Hp} {vs : List V} {ds : List D} (h : Paired (Rp K S H) vs ds) : RpA K S H vs ds := by
  induction h with
  | nil => exact .nil
  | cons a _ ih => exact .cons a ih
def eTup (f : Rho → M (List D)) : Rho → M D := fun ρ => M.bind (f ρ) fun xs => if xs.length ≤ sizeLine then .ok (.tup xs) else .er
def eLst (f : Rho → M (List D)) : Rho → M D := fun ρ => M.bind (f ρ) fun xs => if xs.length ≤ sizeLine then .ok (.lst xs) else .er
theorem vx_tup {es : List Expr} {f : Rho → M (List D)} {j : Nat} (hm : m ≠ .O) (h : VA X W S0 H0 m es f) : VX X W S0 H0 m (.Tuple es j pos) (eTup f) := by
  obtain ⟨ta, pa, qa⟩ := h.p
  refine ⟨_, pe_tup pa, fun ρ σ own H Q R k => qa ρ σ own H _ R ?_⟩
  unfold eTup at k
  revert k
  cases f ρ with
  | er => exact id
  | ex c => exact id
  | ok xs =>
    intro k vs H1 s1 r1
    rw [bind_ok] at k
    split at k
    · next hl =>
      refine ⟨by rw [Paired.length r1]; exact hl, fun p hp => k _ _ (s1.trans (same_upd hp)) ?_⟩
      have r2 := RMA.grow (same_upd (o := .tup vs) hp) r1
      cases m with
      | O => exact absurd rfl hm
      | E => exact .tup upd_same (RpA.ofP r2)
      | F => exact .tup upd_same (RpA.ofP r2)
      | N => exact .tup upd_same (RpA.ofP r2)
    · exact k.elim
theorem vx_lst {es : List Expr} {f : Rho → M (List D)} (hm : m ≠ .O) (h : VA X W S0 H0 m es f) : VX X W S0 H0 m (.List es pos) (eLst f) := by
  obtain ⟨ta, pa, qa⟩ := h.p
  refine ⟨_, pe_lst pa, fun ρ σ own H Q R k => qa ρ σ own H _ R ?_⟩
  unfold eLst at k
  revert k
  cases f ρ with
  | er => exact id
  | ex c => exact id
  | ok xs =>
    intro k vs H1 s1 r1
    rw [bind_ok] at k
    split at k
    · next hl =>
      refine ⟨by rw [Paired.length r1]; exact hl, fun p hp => k _ _ (s1.trans (same_upd hp)) ?_⟩
      have r2 := RMA.grow (same_upd (o := .lst vs) hp) r1
      have hf := sf_new (R.grow s1) hp
      cases m with
      | O => exact absurd rfl hm
      | E => exact .lst (SF.sa _ hf) upd_same (RpA.ofP r2)
      | F => exact .lst hf upd_same (RpA.ofP r2)
      | N => exact .lst ⟨s1.free hp, hf⟩ upd_same (RpA.ofP r2)
    · exact k.elim

/-! ### data without lists may be taken as new -/
mutual
def lf : D → Bool
  | .non => true
  | .bl _ => true
  | .int _ => true
  | .str _ => true
  | .tup ds => lfA ds
  | .kt ds => lfA ds
  | .lst _ => false
  | .fz _ => false
  | .dct _ => false
  | .dk _ => false
def lfA : List D → Bool
  | [] => true
  | d :: ds => lf d && lfA ds
end
mutual
theorem Rp.lf {K : PySem.W.Frag} {S S' : Addr → Prop} {H : Hp} : ∀ {v : V} {d : D}, Rp K S H v d → VL.lf d = true → Rp K S' H v d
  | _, _, .non, _ => .non
  | _, _, .bl b, _ => .bl b
  | _, _, .int i, _ => .int i
  | _, _, .str x, _ => .str x
  | _, _, .tup h r, e => .tup h (RpA.lf r (by simpa [VL.lf] using e))
  | _, _, .kt h r, e => .kt h (RpA.lf r (by simpa [VL.lf] using e))
  | _, _, .lst _ _ _, e => by simp [VL.lf] at e
  | _, _, .fz _ _, e => by simp [VL.lf] at e
  | _, _, .dct _ _ _, e => by simp [VL.lf] at e
  | _, _, .dk _ _ _, e => by simp [VL.lf] at e
theorem RpA.lf {K : PySem.W.Frag} {S S' : Addr → Prop} {H : Hp} : ∀ {v : List V} {d : List D}, RpA K S H v d → VL.lfA d = true → RpA K S' H v d
  | _, _, .nil, _ => .nil
  | _, _, .cons h r, e => by
    simp [VL.lfA] at e
    exact .cons (Rp.lf h e.1) (RpA.lf r e.2)
end
def eLf (f : Rho → M D) : Rho → M D := fun ρ => M.bind (f ρ) fun x => if lf x = true then .ok x else .er
theorem RM.lf {K : PySem.W.Frag} {own : List Addr} {Hb Hc H : Hp} {v : V} {d : D} (r : RM K S0 H0 own m Hb H v d) (h : VL.lf d = true) : RM K S0 H0 own .N Hc H v d := by
  rcases r.toO (Hc := Hb) with r | ⟨a, e, hm, r⟩
  · exact r.lf h
  · cases d <;> first | exact r.elim | simp [VL.lf] at h
theorem vx_lf (h : VX X W S0 H0 ma a fa) : VX X W S0 H0 .N a (eLf fa) := by
  obtain ⟨ta, pa, qa⟩ := h.p
  refine ⟨_, pa, fun ρ σ own H Q R k => qa ρ σ own H _ R ?_⟩
  unfold eLf at k
  revert k
  cases fa ρ with
  | er => exact id
  | ex c => exact id
  | ok x =>
    intro k v H' s r
    rw [bind_ok] at k
    split at k
    · next hl => exact k v H' s (r.lf hl)
    · exact k.elim
end
end VL
set_option Elab.async false
set_option linter.all false
set_option maxRecDepth 100000
/-! VL: operators, subscripts, built-in calls. -/
namespace VL
open PySem L2 PySem.Spec PyProof.Rows

/-! ### int operations -/
section
variable {X : Cx} {W : WX} {S0 : Addr → Prop} {H0 : Hp} {m : Md}
/-- r asks two ints and C of them, gives z -/
theorem opG_I {C : Int → Int → Prop} [∀ i j, Decidable (C i j)] {h : Int → Int → V} {hd : Int → Int → D} (hh : ∀ (own : List Addr) (H : Hp) i j, RM X.K S0 H0 own m H H (h i j) (hd i j)) :
    OpG X W S0 H0 m (rI C h) (fun x y => match x, y with | .int i, .int j => if C i j then .ok (hd i j) else .er | _, _ => .er) := by
  intro ρ σ own H Q vx vy x y R rx ry k
  cases x <;> try exact k.elim
  cases y <;> try exact k.elim
  rename_i i j
  have k' : PX X W S0 H0 own m H σ Q (if C i j then .ok (hd i j) else .er) := k
  by_cases c : C i j
  · rw [if_pos c] at k'
    exact ⟨i, j, rx.isInt, ry.isInt, c, k' _ H (Same.refl H) (hh own H i j)⟩
  · rw [if_neg c] at k'
    exact k'.elim
theorem opG_I0 {h : Int → Int → V} {hd : Int → Int → D} (hh : ∀ (own : List Addr) (H : Hp) i j, RM X.K S0 H0 own m H H (h i j) (hd i j)) :
    OpG X W S0 H0 m (rI0 h) (fun x y => match x, y with | .int i, .int j => .ok (hd i j) | _, _ => .er) := by
  intro ρ σ own H Q vx vy x y R rx ry k
  cases x <;> try exact k.elim
  cases y <;> try exact k.elim
  rename_i i j
  have k' : PX X W S0 H0 own m H σ Q (.ok (hd i j)) := k
  exact ⟨i, j, rx.isInt, ry.isInt, k' _ H (Same.refl H) (hh own H i j)⟩
end
def gI (f : Int → Int → D) : D → D → M D := fun x y => match x, y with | .int i, .int j => .ok (f i j) | _, _ => .er
def gIC (C : Int → Int → Prop) [∀ i j, Decidable (C i j)] (f : Int → Int → D) : D → D → M D := fun x y => match x, y with | .int i, .int j => if C i j then .ok (f i j) else .er | _, _ => .er
instance : ∀ i j, Decidable (CDiv i j) := fun i j => inferInstanceAs (Decidable (0 < j ∧ j < 1073741824))
instance : ∀ i j, Decidable (CDivN i j) := fun i j => inferInstanceAs (Decidable (j ≠ 0 ∧ j.natAbs < 1073741824))
instance : ∀ i j, Decidable (CPow i j) := fun i j => inferInstanceAs (Decidable (0 ≤ j ∧ j ≤ 1000000 ∧ i.natAbs < 2 ^ 64))
instance : ∀ i j, Decidable (CMul i j) := fun i j => inferInstanceAs (Decidable ((-(2 ^ 64) < i ∧ i < 2 ^ 64) ∨ (-(2 ^ 64) < j ∧ j < 2 ^ 64)))
section
variable {X : Cx} {W : WX} {S0 : Addr → Prop} {H0 : Hp} {m : Md} {pos : Pos} {a b : Expr} {fa fb : Rho → M D} {ma mb : Md}
def subG : D → D → M D := gI fun i j => .int (i - j)
def mulG : D → D → M D := gIC CMul fun i j => .int (i * j)
def fdivG : D → D → M D := gIC CDiv fun i j => .int (i / j)
def fdivNG : D → D → M D := gIC CDivN fun i j => .int (i.fdiv j)
def modG : D → D → M D := gIC (fun _ j => 0 < j) fun i j => .int (i % j)
def powG : D → D → M D := gIC CPow fun i j => .int (i ^ j.toNat)
def intsD : List D → Option (List Int)
  | [] => some []
  | .int i :: ds => (intsD ds).map (i :: ·)
  | _ => none
theorem RpA.intsD {K : PySem.W.Frag} {S : Addr → Prop} {H : Hp} : ∀ {vs : List V} {ds : List D} {ns : List Int}, RpA K S H vs ds → VL.intsD ds = some ns → vs = ns.map V.int
  | _, _, _, .nil, e => by cases e; rfl
  | _, d :: ds, _, .cons h r, e => by
    cases d with
    | int b =>
      cases h
      have e' : (VL.intsD ds).map (b :: ·) = some _ := e
      cases e1 : VL.intsD ds with
      | none => rw [e1] at e'; cases e'
      | some cs =>
        rw [e1] at e'
        cases e'
        rw [RpA.intsD r e1]
        rfl
    | _ => cases e
def ltG : D → D → M D := fun x y => match x, y with
  | .int i, .int j => .ok (.bl (decide (i < j)))
  | .str i, .str j => .ok (.bl (decide (i.cps.toList < j.cps.toList)))
  | .tup xs, .tup ys => (match intsD xs, intsD ys with
    | some ns, some ms => .ok (.bl (HT.lexLt ns ms))
    | _, _ => .er)
  | _, _ => .er
def rLtA (K : PySem.W.Frag) : R2 := fun x y H Q => (rI0 fun i j => .bl (decide (i < j))) x y H Q ∨ (∃ i j, x = .str i ∧ y = .str j ∧ Q (.bl (decide (i.cps.toList < j.cps.toList))) H) ∨ rLtT K x y H Q
theorem op_ltA (hu : X.A.units + 1 < cLine) : OpR X (compareOp .Lt) (rLtA X.K) := op_lt.or (op_lt_str.or (op_ltT (by omega)))
def leG : D → D → M D := gI fun i j => .bl (decide (i ≤ j))
def gtG : D → D → M D := gI fun i j => .bl (decide (j < i))
def geG : D → D → M D := gI fun i j => .bl (decide (j ≤ i))
theorem vx_sub (ha : VX X W S0 H0 ma a fa) (hb : VX X W S0 H0 mb b fb) : VX X W S0 H0 m (.BinOp a .Sub b pos) (eOp subG fa fb) := vx_op op_sub (opG_I0 fun own H i j => .ofInt _) ha hb
theorem vx_mul (ha : VX X W S0 H0 ma a fa) (hb : VX X W S0 H0 mb b fb) : VX X W S0 H0 m (.BinOp a .Mult b pos) (eOp mulG fa fb) := vx_op op_mul (opG_I fun own H i j => .ofInt _) ha hb
theorem vx_fdiv (ha : VX X W S0 H0 ma a fa) (hb : VX X W S0 H0 mb b fb) : VX X W S0 H0 m (.BinOp a .FloorDiv b pos) (eOp fdivG fa fb) := vx_op op_fdiv (opG_I fun own H i j => .ofInt _) ha hb
theorem vx_fdivN (ha : VX X W S0 H0 ma a fa) (hb : VX X W S0 H0 mb b fb) : VX X W S0 H0 m (.BinOp a .FloorDiv b pos) (eOp fdivNG fa fb) := vx_op op_fdivN (opG_I fun own H i j => .ofInt _) ha hb
theorem vx_mod (ha : VX X W S0 H0 ma a fa) (hb : VX X W S0 H0 mb b fb) : VX X W S0 H0 m (.BinOp a .Mod b pos) (eOp modG fa fb) := vx_op op_mod (opG_I fun own H i j => .ofInt _) ha hb
theorem vx_pow (ha : VX X W S0 H0 ma a fa) (hb : VX X W S0 H0 mb b fb) : VX X W S0 H0 m (.BinOp a .Pow b pos) (eOp powG fa fb) := vx_op op_pow (opG_I fun own H i j => .ofInt _) ha hb
theorem og_lt : OpG X W S0 H0 m (rLtA X.K) ltG := by
  intro ρ σ own H Q vx vy x y R rx ry k
  unfold ltG at k
  split at k
  · exact .inl ⟨_, _, rx.isInt, ry.isInt, k _ H (Same.refl H) (.ofBl _)⟩
  · exact .inr (.inl ⟨_, _, rx.isStr, ry.isStr, k _ H (Same.refl H) (.ofBl _)⟩)
  · split at k
    · next ns ms e1 e2 =>
      obtain ⟨a, xs, rfl, h1, h2⟩ := rx.isTup
      obtain ⟨b, ys, rfl, h3, h4⟩ := ry.isTup
      have f1 := RpA.intsD h2 e1
      have f2 := RpA.intsD h4 e2
      subst f1 f2
      exact .inr (.inr ⟨a, b, ns, ms, rfl, rfl, SqT.of h1, SqT.of h3, k _ H (Same.refl H) (.ofBl _)⟩)
    · exact k.elim
  · exact k.elim
theorem og_le : OpG X W S0 H0 m (rI0 fun i j => .bl (decide (i ≤ j))) leG := opG_I0 fun own H i j => .ofBl _
theorem og_gt : OpG X W S0 H0 m (rI0 fun i j => .bl (decide (j < i))) gtG := opG_I0 fun own H i j => .ofBl _
theorem og_ge : OpG X W S0 H0 m (rI0 fun i j => .bl (decide (j ≤ i))) geG := opG_I0 fun own H i j => .ofBl _
def negG : D → M D := fun x => match x with | .int i => .ok (.int (-i)) | _ => .er
theorem vx_neg (ha : VX X W S0 H0 ma a fa) : VX X W S0 H0 m (.UnaryOp .USub a pos) (eUn negG fa) := vx_un un_neg (by
  intro ρ σ own H Q vx x R rx k
  cases x <;> try exact k.elim
  rename_i i
  have k' : PX X W S0 H0 own m H σ Q (.ok (.int (-i))) := k
  exact ⟨i, rx.isInt, k' _ H (Same.refl H) (.ofInt _)⟩) ha

/-! ### + of ints, texts, lists -/
theorem Inv.lstR {pins : List (Addr × Obj)} {σ : Sg} {H : Hp} {s : Shared} {l : Addr} {xs : List V} (I : Inv X pins σ H s) (hH : Rd H l (.lst xs)) : xs.length ≤ sizeLine ∧ ∃ (its : List Value) (n : Nat), Vals xs its ∧ xs.length = its.length ∧ s.heap.get? l = some { cls := .type "list", data := .seq its.toArray n } := by
  obtain ⟨z, its, n, r, e⟩ := (show ObjOk X.prog X.w H s.heap l (.lst xs) from hH.ok I.hok)
  exact ⟨z, its, n, r, r.length, e⟩
def rCatR : R2 := fun x y H Q => ∃ l b xs zs, x = .ref l ∧ y = .ref b ∧ Rd H l (.lst xs) ∧ Rd H b (.lst zs) ∧ xs.length + zs.length ≤ sizeLine ∧ ∀ p, H p = none → Q (.ref p) (upd H p (.lst (xs ++ zs)))
theorem op_catR : OpR X (binaryOp .Add) rCatR := by
  intro pins s σ H x y v u Q I rx ry h
  obtain ⟨l, b, xs, zs, rfl, rfl, hH, hB, hz, q⟩ := h
  cases rx
  cases ry
  obtain ⟨z, its, n, r, hl, e⟩ := VL.Inv.lstR I hH
  obtain ⟨z2, its2, n2, r2, hl2, e2⟩ := VL.Inv.lstR I hB
  refine PySem.P.add_list e e2 ?_ (by rw [List.size_toArray, List.size_toArray]; omega)
  have ea : its.toArray ++ its2.toArray = (its ++ its2).toArray := by simp
  rw [ea]
  exact ⟨.ref _, _, I.lnew (t' := s.toks) (r.append r2) (by rw [List.length_append]; omega), rfl, q _ I.fresh⟩
/-- xs + ys of lists: their items without lists -/
def addG : D → D → M D := fun x y => match x, y with
  | .int i, .int j => .ok (.int (i + j))
  | .str a, .str b => if a.length + b.length ≤ sizeLine then .ok (.str (a ++ b)) else .er
  | .lst xs, .lst ys => if xs.length + ys.length ≤ sizeLine ∧ lfA xs = true ∧ lfA ys = true then .ok (.lst (xs ++ ys)) else .er
  | _, _ => .er
def rAddA : R2 := fun x y H Q => (rI0 fun i j => .int (i + j)) x y H Q ∨ (∃ i j, x = .str i ∧ y = .str j ∧ i.length + j.length ≤ sizeLine ∧ Q (.str (i ++ j)) H) ∨ rCatR x y H Q
theorem op_addA : OpR X (binaryOp .Add) rAddA := op_add.or (op_add_str.or op_catR)
theorem RM.newL {ρ : Rho} {σ : Sg} {own : List Addr} {H : Hp} {p : Addr} {xs : List V} {ds : List D} (R : Rel X.K S0 H0 ρ σ own H) (hp : H p = none) (r : RpA X.K (SN H H0 own) (upd H p (.lst xs)) xs ds) : RM X.K S0 H0 own .N H (upd H p (.lst xs)) (.ref p) (.lst ds) := by
  exact .lst ⟨hp, sf_new R hp⟩ upd_same r
theorem og_add : OpG X W S0 H0 .N rAddA addG := by
  intro ρ σ own H Q vx vy x y R rx ry k
  cases x with
  | int i =>
    cases y <;> try exact k.elim
    rename_i j
    have k' : PX X W S0 H0 own .N H σ Q (.ok (.int (i + j))) := k
    exact .inl ⟨i, j, rx.isInt, ry.isInt, k' _ H (Same.refl H) (.ofInt _)⟩
  | str a =>
    cases y <;> try exact k.elim
    rename_i b
    have k' : PX X W S0 H0 own .N H σ Q (if a.length + b.length ≤ sizeLine then .ok (.str (a ++ b)) else .er) := k
    by_cases c : a.length + b.length ≤ sizeLine
    · rw [if_pos c] at k'
      exact .inr (.inl ⟨a, b, rx.isStr, ry.isStr, c, k' _ H (Same.refl H) (.ofStr _)⟩)
    · rw [if_neg c] at k'
      exact k'.elim
  | lst ds =>
    cases y <;> try exact k.elim
    rename_i es
    have k' : PX X W S0 H0 own .N H σ Q (if ds.length + es.length ≤ sizeLine ∧ lfA ds = true ∧ lfA es = true then .ok (.lst (ds ++ es)) else .er) := k
    by_cases c : ds.length + es.length ≤ sizeLine ∧ lfA ds = true ∧ lfA es = true
    · rw [if_pos c] at k'
      obtain ⟨a, xs, rfl, h1, r1⟩ := rx.isLst
      obtain ⟨b, ys, rfl, h2, r2⟩ := ry.isLst
      refine .inr (.inr ⟨a, b, xs, ys, rfl, rfl, h1, h2, by rw [r1.length, r2.length]; exact c.1, fun p hp => k' _ _ (same_upd hp) ?_⟩)
      exact RM.newL R hp (((r1.lf c.2.1).append (r2.lf c.2.2)).keep (.same (same_upd hp)))
    · rw [if_neg c] at k'
      exact k'.elim
  | _ => exact k.elim
theorem VX.any (h : VX X W S0 H0 .N a fa) : VX X W S0 H0 m a fa := by
  cases m with
  | O => exact h.toO
  | E => exact h.nf.fe
  | F => exact h.nf
  | N => exact h
theorem vx_add (ha : VX X W S0 H0 ma a fa) (hb : VX X W S0 H0 mb b fb) : VX X W S0 H0 m (.BinOp a .Add b pos) (eOp addG fa fb) := VX.any (vx_op op_addA og_add ha hb)

/-! ### == and != -/
mutual
def toP : D → PyData
  | .non => .none
  | .bl b => .bool b
  | .int i => .int i
  | .str x => .str x
  | .tup ds => .tuple (toPA ds)
  | .kt ds => .tuple (toPA ds)
  | .lst ds => .list (toPA ds)
  | .fz ds => .list (toPA ds)
  | .dct _ => .dict []
  | .dk _ => .dict []
def toPA : List D → List PyData
  | [] => []
  | d :: ds => toP d :: toPA ds
end
mutual
theorem Rp.dp {K : PySem.W.Frag} {S : Addr → Prop} {H : Hp} : ∀ {v : V} {d : D}, Rp K S H v d → (toP d).canLay0 = true → Dp K H v (toP d)
  | _, _, .non, _ => .non
  | _, _, .bl b, _ => .bl b
  | _, _, .int i, _ => .int i
  | _, _, .str x, _ => .str x
  | _, _, .tup h r, e => .tup (SqT.of h) (RpA.dp r (by simpa [toP, PyData.canLay0] using e))
  | _, _, .kt h r, e => .tup (.inr h) (RpA.dp r (by simpa [toP, PyData.canLay0] using e))
  | _, _, .lst _ h r, e => .lst (.inl (.inl h)) (RpA.dp r (by simpa [toP, PyData.canLay0] using e))
  | _, _, .fz h r, e => .lst h.sq (RpA.dp r (by simpa [toP, PyData.canLay0] using e))
  | _, _, .dct _ _ _, e => by simp [toP, PyData.canLay0] at e
  | _, _, .dk _ _ _, e => by simp [toP, PyData.canLay0] at e
theorem RpA.dp {K : PySem.W.Frag} {S : Addr → Prop} {H : Hp} : ∀ {v : List V} {d : List D}, RpA K S H v d → PyData.canLayAll0 (toPA d) = true → DpAll K H v (toPA d)
  | _, _, .nil, _ => .nil
  | _, _, .cons h r, e => by
    simp [toPA, PyData.canLayAll0] at e
    exact .cons (Rp.dp h e.1) (RpA.dp r e.2)
end
theorem RM.dp {own : List Addr} {Hb H : Hp} {v : V} {d : D} (r : RM X.K S0 H0 own m Hb H v d) (h : SeqAt.shaped (toP d) = true) : Dp X.K H v (toP d) := by
  have c : (toP d).canLay0 = true := SeqAt.canLay_of_shaped h
  rcases r.toO (Hc := Hb) with r | ⟨a, rfl, hm, r⟩
  · exact r.dp c
  · cases d with
    | lst ds => obtain ⟨xs, e, r⟩ := r; exact .lst (SqL.of e) (r.dp (by simpa [toP, PyData.canLay0] using c))
    | dct ds => simp [toP, PyData.canLay0] at c
    | dk ds => simp [toP, PyData.canLay0] at c
    | _ => exact r.elim
def eqG : D → D → M D := fun x y => match x, y with
  | .non, .non => .ok (.bl true)
  | .int i, .int j => .ok (.bl (decide (i = j)))
  | .bl i, .bl j => .ok (.bl (decide (i = j)))
  | .str i, .str j => .ok (.bl (decide (i = j)))
  | x, y => if SeqAt.shaped (toP x) = true ∧ SeqAt.shaped (toP y) = true then .ok (.bl (PyData.eqv (toP x) (toP y))) else .er
def rEqA (K : PySem.W.Frag) : R2 := fun x y H Q => rEq x y H Q ∨ rEqD K x y H Q
theorem dec_iff {p q : Prop} [Decidable p] [Decidable q] (h : p ↔ q) : decide p = decide q := by
  by_cases c : p
  · rw [decide_eq_true c, decide_eq_true (h.mp c)]
  · rw [decide_eq_false c, decide_eq_false (fun z => c (h.mpr z))]
theorem og_eq : OpG X W S0 H0 m (rEqA X.K) eqG := by
  intro ρ σ own H Q vx vy x y R rx ry k
  have deep : (∀ b, (if SeqAt.shaped (toP x) = true ∧ SeqAt.shaped (toP y) = true then M.ok (D.bl (PyData.eqv (toP x) (toP y))) else M.er) = b → PX X W S0 H0 own m H σ Q b) → rEqA X.K vx vy H Q := fun k => by
    have k := k _ rfl
    by_cases c : SeqAt.shaped (toP x) = true ∧ SeqAt.shaped (toP y) = true
    · rw [if_pos c] at k
      exact .inr ⟨_, _, rx.dp c.1, ry.dp c.2, c.1, c.2, k _ H (Same.refl H) (.ofBl _)⟩
    · rw [if_neg c] at k
      exact k.elim
  unfold eqG at k
  split at k
  · rw [rx.isNon, ry.isNon]
    exact .inl ⟨rfl, k _ H (Same.refl H) (.ofBl _)⟩
  · next i j =>
    rw [rx.isInt, ry.isInt]
    refine .inl ⟨rfl, k _ H (Same.refl H) ?_⟩
    rw [dec_iff (p := V.int i = V.int j) (q := i = j) ⟨fun e => V.int.inj e, fun e => by rw [e]⟩]
    exact .ofBl _
  · next i j =>
    rw [rx.isBl, ry.isBl]
    refine .inl ⟨rfl, k _ H (Same.refl H) ?_⟩
    rw [dec_iff (p := V.bl i = V.bl j) (q := i = j) ⟨fun e => V.bl.inj e, fun e => by rw [e]⟩]
    exact .ofBl _
  · next i j =>
    rw [rx.isStr, ry.isStr]
    refine .inl ⟨rfl, k _ H (Same.refl H) ?_⟩
    rw [dec_iff (p := V.str i = V.str j) (q := i = j) ⟨fun e => V.str.inj e, fun e => by rw [e]⟩]
    exact .ofBl _
  · exact deep fun b e => by rw [← e]; exact k
theorem op_eqA (hu : X.A.units + 64 < cLine) : OpR X (compareOp .Eq) (rEqA X.K) := op_eq.or (op_eqD hu)
def notM : M D → M D := fun r => M.bind r fun x => match x with | .bl b => .ok (.bl (!b)) | _ => .er
def neG : D → D → M D := fun x y => notM (eqG x y)
def rNeA (K : PySem.W.Frag) : R2 := fun x y H Q => rNe x y H Q ∨ rNeD K x y H Q
theorem op_neA (hu : X.A.units + 64 < cLine) : OpR X (compareOp .NotEq) (rNeA X.K) := op_ne.or (op_neD hu)
theorem og_ne : OpG X W S0 H0 m (rNeA X.K) neG := by
  intro ρ σ own H Q vx vy x y R rx ry k
  have e := og_eq (X := X) (W := W) (m := m) ρ σ own H (fun v H' => H' = H ∧ ∃ b, v = .bl b ∧ Q (.bl (!b)) H) vx vy x y R rx ry
  have h : rEqA X.K vx vy H (fun v H' => H' = H ∧ ∃ b, v = .bl b ∧ Q (.bl (!b)) H) → rNeA X.K vx vy H Q := by
    rintro (⟨h1, -, b, h2, h3⟩ | ⟨d, e, h1, h2, h3, h4, -, b, h5, h6⟩)
    · cases h2
      exact .inl ⟨h1, h3⟩
    · cases h5
      exact .inr ⟨d, e, h1, h2, h3, h4, h6⟩
  unfold neG notM at k
  unfold eqG at k
  split at k
  · rw [rx.isNon, ry.isNon]
    exact .inl ⟨rfl, k _ H (Same.refl H) (.ofBl _)⟩
  · next i j =>
    rw [rx.isInt, ry.isInt]
    refine .inl ⟨rfl, k _ H (Same.refl H) ?_⟩
    rw [dec_iff (p := V.int i = V.int j) (q := i = j) ⟨fun e => V.int.inj e, fun e => by rw [e]⟩]
    exact .ofBl _
  · next i j =>
    rw [rx.isBl, ry.isBl]
    refine .inl ⟨rfl, k _ H (Same.refl H) ?_⟩
    rw [dec_iff (p := V.bl i = V.bl j) (q := i = j) ⟨fun e => V.bl.inj e, fun e => by rw [e]⟩]
    exact .ofBl _
  · next i j =>
    rw [rx.isStr, ry.isStr]
    refine .inl ⟨rfl, k _ H (Same.refl H) ?_⟩
    rw [dec_iff (p := V.str i = V.str j) (q := i = j) ⟨fun e => V.str.inj e, fun e => by rw [e]⟩]
    exact .ofBl _
  · by_cases c : SeqAt.shaped (toP x) = true ∧ SeqAt.shaped (toP y) = true
    · rw [if_pos c] at k
      exact .inr ⟨_, _, rx.dp c.1, ry.dp c.2, c.1, c.2, k _ H (Same.refl H) (.ofBl _)⟩
    · rw [if_neg c] at k
      exact k.elim
/-- x is None -/
def isNonD : D → Bool
  | .non => true
  | _ => false
def isNG : D → D → M D := fun x y => match y with | .non => .ok (.bl (isNonD x)) | _ => .er
def notNG : D → D → M D := fun x y => match y with | .non => .ok (.bl (!isNonD x)) | _ => .er
theorem RM.decN {own : List Addr} {Hb H : Hp} {v : V} {d : D} (r : RM X.K S0 H0 own m Hb H v d) : decide (v = .non) = isNonD d := by
  rcases r.toO (Hc := Hb) with r | ⟨a, rfl, hm, r⟩
  · cases r <;> rfl
  · cases d <;> first | exact r.elim | rfl
theorem og_isN : OpG X W S0 H0 m (fun x y H Q => y = .non ∧ Q (.bl (decide (x = .non))) H) isNG := by
  intro ρ σ own H Q vx vy x y R rx ry k
  cases y <;> try exact k.elim
  refine ⟨ry.isNon, ?_⟩
  rw [rx.decN]
  exact PX.ok' k
where
  PX.ok' {own : List Addr} {H : Hp} {σ : Sg} {Q : VK} {b : Bool} (k : PX X W S0 H0 own m H σ Q (.ok (.bl b))) : Q (.bl b) H := k _ H (Same.refl H) (.ofBl b)
theorem og_notN : OpG X W S0 H0 m (fun x y H Q => y = .non ∧ Q (.bl (!decide (x = .non))) H) notNG := by
  intro ρ σ own H Q vx vy x y R rx ry k
  cases y <;> try exact k.elim
  refine ⟨ry.isNon, ?_⟩
  rw [rx.decN]
  exact (show PX X W S0 H0 own m H σ Q (.ok (.bl _)) from k) _ H (Same.refl H) (.ofBl _)

/-! ### subscripts -/
theorem RpA.atI {K : PySem.W.Frag} {S : Addr → Prop} {H : Hp} {vs : List V} {ds : List D} {i : Int} {d : D} (r : RpA K S H vs ds) (e : atI ds i = some d) : ∃ v, atI vs i = some v ∧ Rp K S H v d := by
  unfold L2.atI at e ⊢
  rw [r.length]
  cases h : ixN ds.length i with
  | none => rw [h] at e; cases e
  | some j =>
    rw [h] at e
    exact r.get (by simpa using e)
def keyOf1 : D → Option Key
  | .int i => some (.inl i)
  | .str x => some (.inr x)
  | _ => none
def keyOf : List D → Option (List Key)
  | [] => some []
  | d :: ds => match keyOf1 d, keyOf ds with
    | some k, some ks => some (k :: ks)
    | _, _ => none
def lookT (kvs : List (List Key × D)) (k : List Key) : Option D := (kvs.find? fun kv => decide (kv.1 = k)).map (·.2)
def lookK (kvs : List (Key × D)) (k : Key) : Option D := (kvs.find? fun kv => decide (kv.1 = k)).map (·.2)
theorem RpA.keys {K : PySem.W.Frag} {S : Addr → Prop} {H : Hp} : ∀ {vs : List V} {ds : List D} {ks : List Key}, RpA K S H vs ds → keyOf ds = some ks → vs = ks.map kV
  | _, _, _, .nil, e => by cases e; rfl
  | _, d :: ds, _, .cons h r, e => by
    unfold keyOf at e
    split at e
    · next k ks e1 e2 =>
      cases e
      rw [RpA.keys r e2]
      cases d <;> cases e1 <;> cases h <;> rfl
    · cases e
theorem RpT.look {K : PySem.W.Frag} {S : Addr → Prop} {H : Hp} (k : List Key) : ∀ {vs : List (List Key × V)} {ds : List (List Key × D)}, RpT K S H vs ds → (∀ d, lookT ds k = some d → ∃ v, valV vs k = some v ∧ Rp K S H v d) ∧ (lookT ds k = none → valV vs k = none)
  | _, _, .nil => ⟨fun d e => (nomatch e), fun _ => rfl⟩
  | (k1, v) :: vs, (_, d) :: ds, .cons h r => by
    by_cases e : k1 = k
    · rw [valV_pos (p := (k1, v)) e]
      unfold lookT
      rw [List.find?_cons, decide_eq_true e]
      exact ⟨fun d e => (by cases e; exact ⟨v, rfl, h⟩), fun e => (nomatch e)⟩
    · rw [valV_neg (p := (k1, v)) e]
      unfold lookT
      rw [List.find?_cons, decide_eq_false e]
      exact RpT.look k r
theorem RpK.look {K : PySem.W.Frag} {S : Addr → Prop} {H : Hp} (k : Key) : ∀ {vs : List (Key × V)} {ds : List (Key × D)}, RpK K S H vs ds → (∀ d, lookK ds k = some d → ∃ v, valV vs k = some v ∧ Rp K S H v d) ∧ (lookK ds k = none → valV vs k = none)
  | _, _, .nil => ⟨fun d e => (nomatch e), fun _ => rfl⟩
  | (k1, v) :: vs, (_, d) :: ds, .cons h r => by
    by_cases e : k1 = k
    · rw [valV_pos (p := (k1, v)) e]
      unfold lookK
      rw [List.find?_cons, decide_eq_true e]
      exact ⟨fun d e => (by cases e; exact ⟨v, rfl, h⟩), fun e => (nomatch e)⟩
    · rw [valV_neg (p := (k1, v)) e]
      unfold lookK
      rw [List.find?_cons, decide_eq_false e]
      exact RpK.look k r
def rIxA (K : PySem.W.Frag) : R2 := fun x y H Q => rIx K x y H Q ∨ ∃ a v, x = .ref a ∧ DGet H a y (some v) ∧ Q v H
theorem ix_dict (hu : X.A.units + 1 < cLine) : IxR X (fun x y H Q => ∃ a v, x = .ref a ∧ DGet H a y (some v) ∧ Q v H) := by
  intro value slice pins s σ H x y v u Q I rx ry h hs
  obtain ⟨a, z, rfl, g, q⟩ := h
  cases rx
  exact tail_any (dict_typeIs I g) PySem.F.slot_dict_getitem.lookup (d_getItem hu I g ry fun w' s3 I3 rw' => ⟨z, H, I3, rw', q⟩) hs
theorem ix_all (hu : X.A.units + 1 < cLine) : IxR X (rIxA X.K) := ix_seq.or (ix_dict hu)
def idxG : D → D → M D := fun x y => match x, y with
  | .lst ds, .int i => match atI ds i with | some d => .ok d | none => .er
  | .fz ds, .int i => match atI ds i with | some d => .ok d | none => .er
  | .tup ds, .int i => match atI ds i with | some d => .ok d | none => .er
  | .kt ds, .int i => match atI ds i with | some d => .ok d | none => .er
  | .str z, .int i => if z.length ≤ sizeLine then (match atI z.cps.toList i with | some c => .ok (.str ⟨#[c]⟩) | none => .er) else .er
  | .dct kvs, .tup ds => match keyOf ds with
    | some ks => (match lookT kvs ks with | some d => .ok d | none => .er)
    | none => .er
  | .dk kvs, d => match keyOf1 d with
    | some k => (match lookK kvs k with | some d => .ok d | none => .er)
    | none => .er
  | _, _ => .er
theorem key_v {own : List Addr} {Hb H : Hp} {v : V} {d : D} {k : Key} (r : RM X.K S0 H0 own m Hb H v d) (e : keyOf1 d = some k) : v = kV k := by
  cases d <;> cases e
  · exact r.isInt
  · exact r.isStr
theorem og_idx : OpG X W S0 H0 .E (rIxA X.K) idxG := by
  intro ρ σ own H Q vx vy x y R rx ry k
  unfold idxG at k
  split at k
  · next ds i =>
    split at k
    · next d e =>
      obtain ⟨a, xs, rfl, h1, h2⟩ := rx.isLst
      obtain ⟨v, e1, e2⟩ := h2.atI e
      exact .inl (.inl ⟨a, xs, i, v, rfl, ry.isInt, .inl h1, e1, k v H (Same.refl H) e2⟩)
    · exact k.elim
  · next ds i =>
    split at k
    · next d e =>
      obtain ⟨a, xs, rfl, h1, h2⟩ := rx.isFz
      obtain ⟨v, e1, e2⟩ := h2.atI e
      exact .inl (.inl ⟨a, xs, i, v, rfl, ry.isInt, h1.sq, e1, k v H (Same.refl H) e2⟩)
    · exact k.elim
  · next ds i =>
    split at k
    · next d e =>
      obtain ⟨a, xs, rfl, h1, h2⟩ := rx.isTup
      obtain ⟨v, e1, e2⟩ := h2.atI e
      exact .inl (.inr (.inl ⟨a, xs, i, v, rfl, ry.isInt, SqT.of h1, e1, k v H (Same.refl H) e2⟩))
    · exact k.elim
  · next ds i =>
    split at k
    · next d e =>
      obtain ⟨a, xs, rfl, h1, h2⟩ := rx.isKt
      obtain ⟨v, e1, e2⟩ := h2.atI e
      exact .inl (.inr (.inl ⟨a, xs, i, v, rfl, ry.isInt, h1, e1, k v H (Same.refl H) e2⟩))
    · exact k.elim
  · next z i =>
    split at k
    · next hl =>
      split at k
      · next c e => exact .inl (.inr (.inr ⟨z, i, c, rx.isStr, ry.isInt, hl, e, k _ H (Same.refl H) (.ofStr _)⟩))
      · exact k.elim
    · exact k.elim
  · next kvs ds =>
    split at k
    · next ks ek =>
      split at k
      · next d e =>
        obtain ⟨a, xs, rfl, h1, h2⟩ := rx.isDct
        obtain ⟨b, ys, rfl, h3, h4⟩ := ry.isTup
        obtain ⟨v, e1, e2⟩ := (h2.look ks).1 d e
        refine .inr ⟨a, v, rfl, .inr ⟨xs, ks, b, h1, rfl, ?_, e1.symm⟩, k v H (Same.refl H) e2⟩
        rw [← h4.keys ek]
        exact h3
      · exact k.elim
    · exact k.elim
  · next kvs d =>
    split at k
    · next ks ek =>
      split at k
      · next d e =>
        obtain ⟨a, xs, rfl, h1, h2⟩ := rx.isDk
        obtain ⟨v, e1, e2⟩ := (h2.look ks).1 d e
        exact .inr ⟨a, v, rfl, .inl ⟨xs, ks, h1, key_v ry ek, e1.symm⟩, k v H (Same.refl H) e2⟩
      · exact k.elim
    · exact k.elim
  · exact k.elim
theorem vx_ix (hu : X.A.units + 1 < cLine) (ha : VX X W S0 H0 ma a fa) (hb : VX X W S0 H0 mb b fb) (hs : PlainIx b := by intro _ _; rfl) : VX X W S0 H0 .E (.Subscript a b pos) (eOp idxG fa fb) := by
  obtain ⟨ta, pa, qa⟩ := ha.p
  obtain ⟨tb, pb, qb⟩ := hb.p
  exact ⟨_, pe_ix (ix_all hu) pa pb hs, bin_run qa qb og_idx⟩

/-! ### built-in calls by their name -/
def eBlt (g : List D → M D) (fa : Rho → M (List D)) : Rho → M D := fun ρ => M.bind (fa ρ) g
theorem vx_callB {r : List V → Hp → VK → Prop} {g : List D → M D} {idn : String} {x : Str} {p : Pos} {e : Expr} {es : List Expr} {f : Rho → M (List D)} (hc : CallR X (.builtin idn) r) (hg : CallG X W S0 H0 m r g) (hm : X.mg x = none) (hv : bootBuiltins x = some (.builtin idn))
    (ha : VA X W S0 H0 .O (e :: es) f) (hgl : Gl X x := by rfl) (hdb : (x == ("__debug__" : Str)) = false := by decide) (hn : x ≠ "__name__" := by decide) (he : starEach (e :: es) X.env = (false, eval e X.env) :: starEach es X.env := by rfl) (hpl : (backTo pos (starEach es X.env)).any (·.1) = false := by rfl) :
    VX X W S0 H0 m (.Call (.Name x p) (e :: es) [] pos) (eBlt g f) := by
  obtain ⟨ta, pa, qa⟩ := ha.p
  refine ⟨_, pe_callB hc hgl hm hv pa hn hdb he hpl, fun ρ σ own H Q R k => qa ρ σ own H _ R ?_⟩
  unfold eBlt at k
  revert k
  cases f ρ with
  | er => exact id
  | ex c => exact id
  | ok ds => exact fun k vs H' s r => hg ρ σ own H' Q vs ds (R.grow s) r (PX.grow s k)
theorem vx_callTy {r : List V → Hp → VK → Prop} {g : List D → M D} {T : String} {x : Str} {p : Pos} {e : Expr} {es : List Expr} {f : Rho → M (List D)} (hc : CallR X (.type T) r) (hg : CallG X W S0 H0 m r g) (hm : X.mg x = none) (hv : bootBuiltins x = some (.type T))
    (ha : VA X W S0 H0 .O (e :: es) f) (hgl : Gl X x := by rfl) (hdb : (x == ("__debug__" : Str)) = false := by decide) (hn : x ≠ "__name__" := by decide) (he : starEach (e :: es) X.env = (false, eval e X.env) :: starEach es X.env := by rfl) (hpl : (backTo pos (starEach es X.env)).any (·.1) = false := by rfl) :
    VX X W S0 H0 m (.Call (.Name x p) (e :: es) [] pos) (eBlt g f) := by
  obtain ⟨ta, pa, qa⟩ := ha.p
  refine ⟨_, pe_callTy hc hgl hm hv pa hn hdb he hpl, fun ρ σ own H Q R k => qa ρ σ own H _ R ?_⟩
  unfold eBlt at k
  revert k
  cases f ρ with
  | er => exact id
  | ex c => exact id
  | ok ds => exact fun k vs H' s r => hg ρ σ own H' Q vs ds (R.grow s) r (PX.grow s k)
theorem pair1 {F : V → D → Prop} {vs : List V} {d : D} (h : Paired F vs [d]) : ∃ v, vs = [v] ∧ F v d := by
  cases h with
  | cons a r => cases r; exact ⟨_, rfl, a⟩
theorem pair2 {F : V → D → Prop} {vs : List V} {d e : D} (h : Paired F vs [d, e]) : ∃ v w, vs = [v, w] ∧ F v d ∧ F w e := by
  cases h with
  | cons a r => cases r with
    | cons b r => cases r; exact ⟨_, _, rfl, a, b⟩
def lenG : List D → M D := fun xs => match xs with
  | [.lst ds] => .ok (.int ds.length)
  | [.fz ds] => .ok (.int ds.length)
  | [.tup ds] => .ok (.int ds.length)
  | [.kt ds] => .ok (.int ds.length)
  | [.str z] => if z.length ≤ sizeLine then .ok (.int z.length) else .er
  | _ => .er
theorem cg_len : CallG X W S0 H0 m (fun xs H Q => ∃ x n, xs = [x] ∧ LenV X.K x H n ∧ Q (.int n) H) lenG := by
  intro ρ σ own H Q vs ds R r k
  unfold lenG at k
  split at k
  · obtain ⟨v, rfl, r1⟩ := pair1 r
    obtain ⟨a, xs, rfl, h1, h2⟩ := r1.isLst
    exact ⟨_, _, rfl, .inl ⟨xs, .inl h1, rfl⟩, by rw [h2.length]; exact k _ H (Same.refl H) (.ofInt _)⟩
  · obtain ⟨v, rfl, r1⟩ := pair1 r
    obtain ⟨a, xs, rfl, h1, h2⟩ := r1.isFz
    exact ⟨_, _, rfl, .inl ⟨xs, h1.sq, rfl⟩, by rw [h2.length]; exact k _ H (Same.refl H) (.ofInt _)⟩
  · obtain ⟨v, rfl, r1⟩ := pair1 r
    obtain ⟨a, xs, rfl, h1, h2⟩ := r1.isTup
    exact ⟨_, _, rfl, .inr ⟨xs, SqT.of h1, rfl⟩, by rw [h2.length]; exact k _ H (Same.refl H) (.ofInt _)⟩
  · obtain ⟨v, rfl, r1⟩ := pair1 r
    obtain ⟨a, xs, rfl, h1, h2⟩ := r1.isKt
    exact ⟨_, _, rfl, .inr ⟨xs, h1, rfl⟩, by rw [h2.length]; exact k _ H (Same.refl H) (.ofInt _)⟩
  · next z =>
    split at k
    · next hl =>
      obtain ⟨v, rfl, r1⟩ := pair1 r
      rw [r1.isStr]
      exact ⟨_, _, rfl, ⟨hl, rfl⟩, k _ H (Same.refl H) (.ofInt _)⟩
    · exact k.elim
  · exact k.elim
def absG : List D → M D := fun xs => match xs with
  | [.int i] => .ok (.int (if i < 0 then -i else i))
  | _ => .er
theorem cg_abs : CallG X W S0 H0 m (fun xs H Q => ∃ i, xs = [.int i] ∧ Q (.int (if i < 0 then -i else i)) H) absG := by
  intro ρ σ own H Q vs ds R r k
  unfold absG at k
  split at k
  · obtain ⟨v, rfl, r1⟩ := pair1 r
    rw [r1.isInt]
    exact ⟨_, rfl, k _ H (Same.refl H) (.ofInt _)⟩
  · exact k.elim
def max2G : List D → M D := fun xs => match xs with
  | [.int i, .int j] => .ok (.int (if j > i then j else i))
  | _ => .er
def min2G : List D → M D := fun xs => match xs with
  | [.int i, .int j] => .ok (.int (if j < i then j else i))
  | _ => .er
theorem cg_max2 : CallG X W S0 H0 m (fun xs H Q => ∃ i j, xs = [.int i, .int j] ∧ Q (.int (if j > i then j else i)) H) max2G := by
  intro ρ σ own H Q vs ds R r k
  unfold max2G at k
  split at k
  · obtain ⟨v, w, rfl, r1, r2⟩ := pair2 r
    rw [r1.isInt, r2.isInt]
    exact ⟨_, _, rfl, k _ H (Same.refl H) (.ofInt _)⟩
  · exact k.elim
theorem cg_min2 : CallG X W S0 H0 m (fun xs H Q => ∃ i j, xs = [.int i, .int j] ∧ Q (.int (if j < i then j else i)) H) min2G := by
  intro ρ σ own H Q vs ds R r k
  unfold min2G at k
  split at k
  · obtain ⟨v, w, rfl, r1, r2⟩ := pair2 r
    rw [r1.isInt, r2.isInt]
    exact ⟨_, _, rfl, k _ H (Same.refl H) (.ofInt _)⟩
  · exact k.elim
/-- list(xs), tuple(xs): a new one, the items without lists -/
def listG : List D → M D := fun xs => match xs with
  | [.lst ds] => if lfA ds = true then .ok (.lst ds) else .er
  | [.tup ds] => if lfA ds = true then .ok (.lst ds) else .er
  | _ => .er
theorem cg_list : CallG X W S0 H0 .N (fun xs H Q => ∃ p ys, xs = [.ref p] ∧ (SqL X.K H p ys ∨ SqT X.K H p ys) ∧ ∀ l, H l = none → Q (.ref l) (upd H l (.lst ys))) listG := by
  intro ρ σ own H Q vs ds R r k
  unfold listG at k
  split at k
  · split at k
    · next hl =>
      obtain ⟨v, rfl, r1⟩ := pair1 r
      obtain ⟨a, xs, rfl, h1, h2⟩ := r1.isLst
      exact ⟨_, _, rfl, .inl (.inl h1), fun p hp => k _ _ (same_upd hp) (RM.newL R hp ((h2.lf hl).keep (.same (same_upd hp))))⟩
    · exact k.elim
  · split at k
    · next hl =>
      obtain ⟨v, rfl, r1⟩ := pair1 r
      obtain ⟨a, xs, rfl, h1, h2⟩ := r1.isTup
      exact ⟨_, _, rfl, .inr (SqT.of h1), fun p hp => k _ _ (same_upd hp) (RM.newL R hp ((h2.lf hl).keep (.same (same_upd hp))))⟩
    · exact k.elim
  · exact k.elim
def tupleG : List D → M D := fun xs => match xs with
  | [.lst ds] => if lfA ds = true then .ok (.tup ds) else .er
  | [.tup ds] => if lfA ds = true then .ok (.tup ds) else .er
  | _ => .er
theorem cg_tuple : CallG X W S0 H0 .N (fun xs H Q => ∃ p ys, xs = [.ref p] ∧ ((SqL X.K H p ys ∧ ∀ l, H l = none → Q (.ref l) (upd H l (.tup ys))) ∨ (SqT X.K H p ys ∧ Q (.ref p) H))) tupleG := by
  intro ρ σ own H Q vs ds R r k
  unfold tupleG at k
  split at k
  · split at k
    · next hl =>
      obtain ⟨v, rfl, r1⟩ := pair1 r
      obtain ⟨a, xs, rfl, h1, h2⟩ := r1.isLst
      refine ⟨_, _, rfl, .inl ⟨.inl h1, fun p hp => k _ _ (same_upd hp) ?_⟩⟩
      exact Rp.tup upd_same ((h2.lf hl).keep (.same (same_upd hp)))
    · exact k.elim
  · split at k
    · next hl =>
      obtain ⟨v, rfl, r1⟩ := pair1 r
      obtain ⟨a, xs, rfl, h1, h2⟩ := r1.isTup
      exact ⟨_, _, rfl, .inr ⟨SqT.of h1, k _ H (Same.refl H) (Rp.tup h1 (h2.lf hl))⟩⟩
    · exact k.elim
  · exact k.elim
end
end VL
set_option Elab.async false
set_option linter.all false
set_option maxRecDepth 100000
/-! VL: statements, loops, a def's contract. -/
namespace VL
open PySem L2 PySem.Spec PyProof.Rows

inductive Res where
  | nx (ρ : Rho) | rt (d : D) | bk (ρ : Rho) | ct (ρ : Rho) | ex (c : Xc) (ρ : Rho) | er
section
variable (X : Cx) (W : WX) (S0 : Addr → Prop) (H0 : Hp) (rm : Md) (own : List Addr) (H : Hp)
def PSt (D : Ends) : Res → Prop
  | .nx ρ' => ∀ σ' own' H', Rel X.K S0 H0 ρ' σ' own' H' → Fra own H own' H' → D.nx σ' H'
  | .rt d => ∀ v own' H', RM X.K S0 H0 own' rm H0 H' v d → Fra own H own' H' → D.rt v H'
  | .bk ρ' => ∀ σ' own' H', Rel X.K S0 H0 ρ' σ' own' H' → Fra own H own' H' → D.bk σ' H'
  | .ct ρ' => ∀ σ' own' H', Rel X.K S0 H0 ρ' σ' own' H' → Fra own H own' H' → D.ct σ' H'
  | .ex c ρ' => ∀ cv d σ' own' H', IsCls X.mg c cv d → Rel X.K S0 H0 ρ' σ' own' H' → Fra own H own' H' → W cv d σ' H'
  | .er => False
end
structure VS (X : Cx) (W : WX) (S0 : Addr → Prop) (H0 : Hp) (rm : Md) (st : Stmt) (f : Rho → Res) : Prop where
  p : ∃ ts, PS X st ts ∧ ∀ ρ σ own H D, Rel X.K S0 H0 ρ σ own H → PSt X W S0 H0 rm own H D (f ρ) → ts D σ H
structure VSs (X : Cx) (W : WX) (S0 : Addr → Prop) (H0 : Hp) (rm : Md) (st : List Stmt) (f : Rho → Res) : Prop where
  p : ∃ ts, PSs X st ts ∧ ∀ ρ σ own H D, Rel X.K S0 H0 ρ σ own H → PSt X W S0 H0 rm own H D (f ρ) → ts D σ H

def ofM (ρ : Rho) (k : D → Res) : M D → Res
  | .ok d => k d
  | .ex c => .ex c ρ
  | .er => .er
def ofMB (ρ : Rho) (k : Bool → Res) : M Bool → Res
  | .ok d => k d
  | .ex c => .ex c ρ
  | .er => .er
@[simp] theorem ofM_ok (ρ : Rho) (k : D → Res) (d : D) : ofM ρ k (.ok d) = k d := rfl
@[simp] theorem ofM_ex (ρ : Rho) (k : D → Res) (c : Xc) : ofM ρ k (.ex c) = .ex c ρ := rfl
@[simp] theorem ofM_er (ρ : Rho) (k : D → Res) : ofM ρ k .er = .er := rfl
@[simp] theorem ofMB_ok (ρ : Rho) (k : Bool → Res) (d : Bool) : ofMB ρ k (.ok d) = k d := rfl
@[simp] theorem ofMB_ex (ρ : Rho) (k : Bool → Res) (c : Xc) : ofMB ρ k (.ex c) = .ex c ρ := rfl
@[simp] theorem ofMB_er (ρ : Rho) (k : Bool → Res) : ofMB ρ k .er = .er := rfl
def sNil : Rho → Res := fun ρ => .nx ρ
def thenR (r : Res) (g : Rho → Res) : Res := match r with
  | .nx ρ' => g ρ'
  | .rt d => .rt d
  | .bk ρ' => .bk ρ'
  | .ct ρ' => .ct ρ'
  | .ex c ρ' => .ex c ρ'
  | .er => .er
@[simp] theorem then_nx (ρ : Rho) (g : Rho → Res) : thenR (.nx ρ) g = g ρ := rfl
@[simp] theorem then_rt (d : D) (g : Rho → Res) : thenR (.rt d) g = .rt d := rfl
@[simp] theorem then_bk (ρ : Rho) (g : Rho → Res) : thenR (.bk ρ) g = .bk ρ := rfl
@[simp] theorem then_ct (ρ : Rho) (g : Rho → Res) : thenR (.ct ρ) g = .ct ρ := rfl
@[simp] theorem then_ex (c : Xc) (ρ : Rho) (g : Rho → Res) : thenR (.ex c ρ) g = .ex c ρ := rfl
@[simp] theorem then_er (g : Rho → Res) : thenR .er g = .er := rfl
def sSeq (f g : Rho → Res) : Rho → Res := fun ρ => thenR (f ρ) g
def sIf (c : Rho → M Bool) (f g : Rho → Res) : Rho → Res := fun ρ => ofMB ρ (fun b => if b = true then f ρ else g ρ) (c ρ)
def sRet (f : Rho → M D) : Rho → Res := fun ρ => ofM ρ (fun d => .rt d) (f ρ)
def sRetN : Rho → Res := fun _ => .rt .non
def sDrop (f : Rho → M D) : Rho → Res := fun ρ => ofM ρ (fun _ => .nx ρ) (f ρ)
def sSh (i : Nat) (f : Rho → M D) : Rho → Res := fun ρ => ofM ρ (fun d => .nx (ρ.set i (.sh d))) (f ρ)
def sFr (i : Nat) (f : Rho → M D) : Rho → Res := fun ρ => ofM ρ (fun d => .nx (ρ.set i (.fr d))) (f ρ)
def lfT : List (List Key × D) → Bool
  | [] => true
  | d :: ds => lf d.2 && lfT ds
def lfK : List (Key × D) → Bool
  | [] => true
  | d :: ds => lf d.2 && lfK ds
theorem RpT.lf {K : PySem.W.Frag} {S S' : Addr → Prop} {H : Hp} : ∀ {v : List (List Key × V)} {d : List (List Key × D)}, RpT K S H v d → VL.lfT d = true → RpT K S' H v d
  | _, _, .nil, _ => .nil
  | _, _, .cons h r, e => by
    simp [VL.lfT] at e
    exact .cons (h.lf e.1) (RpT.lf r e.2)
theorem RpK.lf {K : PySem.W.Frag} {S S' : Addr → Prop} {H : Hp} : ∀ {v : List (Key × V)} {d : List (Key × D)}, RpK K S H v d → VL.lfK d = true → RpK K S' H v d
  | _, _, .nil, _ => .nil
  | _, _, .cons h r, e => by
    simp [VL.lfK] at e
    exact .cons (h.lf e.1) (RpK.lf r e.2)
/-- a list or dict whose items are without lists -/
def isMut : D → Bool
  | .lst ds => lfA ds
  | .dct ds => lfT ds
  | .dk ds => lfK ds
  | _ => false
def sOw (i : Nat) (f : Rho → M D) : Rho → Res := fun ρ => ofM ρ (fun d => if isMut d = true then .nx (ρ.set i (.ow d)) else .er) (f ρ)
/-- what is one's own is given to all, ahead of what follows -/
def shareR (i : Nat) (ρ : Rho) : Rho := match ρ[i]? with
  | some (.ow d) => ρ.set i (.fr d)
  | _ => ρ
def sShare (i : Nat) (f : Rho → Res) : Rho → Res := fun ρ => f (shareR i ρ)
/-- slots forgotten -/
def wipeR : List Nat → Rho → Rho
  | [], ρ => ρ
  | k :: ks, ρ => (wipeR ks ρ).set k .no
def wipeS (ks : List Nat) : Res → Res
  | .nx ρ => .nx (wipeR ks ρ)
  | .bk ρ => .bk (wipeR ks ρ)
  | .ct ρ => .ct (wipeR ks ρ)
  | r => r
def sWipe (ks : List Nat) (f : Rho → Res) : Rho → Res := fun ρ => wipeS ks (f ρ)

section
variable {X : Cx} {W : WX} {S0 : Addr → Prop} {H0 : Hp} {rm m : Md} {own own' : List Addr} {H H' : Hp} {pos : Pos} {st : Stmt} {sts : List Stmt} {f g : Rho → Res} {e : Expr} {fe : Rho → M D}
theorem PSt.weak {D : Ends} {r : Res} (p : PSt X W S0 H0 rm own H D r) (h : Fra own H own' H') : PSt X W S0 H0 rm own' H' D r := by
  cases r with
  | nx ρ => exact fun σ' o' H2 a b => p σ' o' H2 a (h.trans b)
  | rt d => exact fun v o' H2 a b => p v o' H2 a (h.trans b)
  | bk ρ => exact fun σ' o' H2 a b => p σ' o' H2 a (h.trans b)
  | ct ρ => exact fun σ' o' H2 a b => p σ' o' H2 a (h.trans b)
  | ex c ρ => exact fun cv d σ' o' H2 i a b => p cv d σ' o' H2 i a (h.trans b)
  | er => exact p
theorem vss_nil : VSs X W S0 H0 rm [] sNil := ⟨_, pss_nil, fun ρ σ own H D R k => k σ own H R .refl⟩
theorem vss_cons (h : VS X W S0 H0 rm st f) (h2 : VSs X W S0 H0 rm sts g) : VSs X W S0 H0 rm (st :: sts) (sSeq f g) := by
  obtain ⟨t, p, q⟩ := h.p
  obtain ⟨t2, p2, q2⟩ := h2.p
  refine ⟨_, pss_cons p p2, fun ρ σ own H D R k => q ρ σ own H _ R ?_⟩
  unfold sSeq at k
  revert k
  cases f ρ with
  | nx ρ' => exact fun k σ' o' H' a b => q2 ρ' σ' o' H' D a (k.weak b)
  | rt d => exact id
  | bk ρ => exact id
  | ct ρ => exact id
  | ex c ρ => exact id
  | er => exact id
theorem vss_one (h : VS X W S0 H0 rm st f) : VSs X W S0 H0 rm [st] f := by
  obtain ⟨t, p, q⟩ := h.p
  exact ⟨_, pss_one p, q⟩
/-- ghosts: giving away, forgetting -/
theorem vss_share {i : Nat} (h : VSs X W S0 H0 rm sts f) : VSs X W S0 H0 rm sts (sShare i f) := by
  obtain ⟨t, p, q⟩ := h.p
  refine ⟨t, p, fun ρ σ own H D R k => ?_⟩
  unfold sShare shareR at k
  split at k
  · next d e =>
    obtain ⟨o', R', F⟩ := R.share e
    exact q _ σ o' H D R' (k.weak F)
  · exact q ρ σ own H D R k
theorem vs_share {i : Nat} (h : VS X W S0 H0 rm st f) : VS X W S0 H0 rm st (sShare i f) := by
  obtain ⟨t, p, q⟩ := h.p
  refine ⟨t, p, fun ρ σ own H D R k => ?_⟩
  unfold sShare shareR at k
  split at k
  · next d e =>
    obtain ⟨o', R', F⟩ := R.share e
    exact q _ σ o' H D R' (k.weak F)
  · exact q ρ σ own H D R k
theorem wipeR_get : ∀ (ks : List Nat) (ρ : Rho), (wipeR ks ρ).length = ρ.length ∧ ∀ (i : Nat) (s : Sl), (wipeR ks ρ)[i]? = some s → s = .no ∨ ρ[i]? = some s
  | [], ρ => ⟨rfl, fun i s h => .inr h⟩
  | k :: ks, ρ => by
    obtain ⟨h1, h2⟩ := wipeR_get ks ρ
    refine ⟨by unfold wipeR; rw [List.length_set, h1], fun i s h => ?_⟩
    unfold wipeR at h
    rcases get_set h with ⟨_, z, _⟩ | ⟨_, z⟩
    · exact .inl z
    · exact h2 i s z
theorem Rel.wipe {K : PySem.W.Frag} {ρ : Rho} {σ : Sg} (ks : List Nat) (R : Rel K S0 H0 ρ σ own H) : Rel K S0 H0 (wipeR ks ρ) σ own H := R.less (wipeR_get ks ρ).1 (wipeR_get ks ρ).2
theorem PSt.unwipe {D : Ends} {r : Res} {ks : List Nat} (k : PSt X W S0 H0 rm own H D (wipeS ks r)) : PSt X W S0 H0 rm own H D r := by
  cases r with
  | nx ρ => exact fun σ' o' H' a b => k σ' o' H' (a.wipe ks) b
  | bk ρ => exact fun σ' o' H' a b => k σ' o' H' (a.wipe ks) b
  | ct ρ => exact fun σ' o' H' a b => k σ' o' H' (a.wipe ks) b
  | rt d => exact k
  | ex c ρ => exact k
  | er => exact k
theorem vss_wipe {ks : List Nat} (h : VSs X W S0 H0 rm sts f) : VSs X W S0 H0 rm sts (sWipe ks f) := by
  obtain ⟨t, p, q⟩ := h.p
  exact ⟨t, p, fun ρ σ own H D R k => q ρ σ own H D R (PSt.unwipe k)⟩
theorem vs_wipe {ks : List Nat} (h : VS X W S0 H0 rm st f) : VS X W S0 H0 rm st (sWipe ks f) := by
  obtain ⟨t, p, q⟩ := h.p
  exact ⟨t, p, fun ρ σ own H D R k => q ρ σ own H D R (PSt.unwipe k)⟩

/-! ### small statements -/
theorem vs_pass : VS X W S0 H0 rm (.Pass pos) sNil := ⟨_, ps_pass, fun ρ σ own H D R k => k σ own H R .refl⟩
def sBrk : Rho → Res := fun ρ => .bk ρ
def sCnt : Rho → Res := fun ρ => .ct ρ
theorem vs_brk : VS X W S0 H0 rm (.Break pos) sBrk := ⟨_, ps_break, fun ρ σ own H D R k => k σ own H R .refl⟩
theorem vs_cnt : VS X W S0 H0 rm (.Continue pos) sCnt := ⟨_, ps_continue, fun ρ σ own H D R k => k σ own H R .refl⟩
theorem vs_if {c : Expr} {a b : List Stmt} {fc : Rho → M Bool} (hc : VT X W S0 H0 c fc) (ha : VSs X W S0 H0 rm a f) (hb : VSs X W S0 H0 rm b g) : VS X W S0 H0 rm (.If c a b pos) (sIf fc f g) := by
  obtain ⟨tc, pc, qc⟩ := hc.p
  obtain ⟨ta, pa, qa⟩ := ha.p
  obtain ⟨tb, pb, qb⟩ := hb.p
  refine ⟨_, ps_if pc pa pb, fun ρ σ own H D R k => qc ρ σ own H _ R ?_⟩
  unfold sIf at k
  revert k
  cases fc ρ with
  | er => exact id
  | ex c => exact fun k cv d H' i s => k cv d σ own H' i (R.grow s) (.same s)
  | ok x =>
    intro k H' s
    cases x with
    | true => exact qa ρ σ own H' D (R.grow s) (PSt.weak k (.same s))
    | false => exact qb ρ σ own H' D (R.grow s) (PSt.weak k (.same s))
/-- return e: a value of the mode (made in this def; or any) -/
theorem vs_retF (h : VX X W S0 H0 .F e fe) : VS X W S0 H0 .F (.Return (some e) pos) (sRet fe) := by
  obtain ⟨tc, pc, qc⟩ := h.p
  refine ⟨_, ps_ret pc, fun ρ σ own H D R k => qc ρ σ own H _ R ?_⟩
  unfold sRet at k
  revert k
  cases fe ρ with
  | er => exact id
  | ex c => exact fun k cv d H' i s => k cv d σ own H' i (R.grow s) (.same s)
  | ok x => exact fun k v H' s r => k v own H' r (.same s)
theorem vs_retE (h : VX X W S0 H0 .E e fe) : VS X W S0 H0 .E (.Return (some e) pos) (sRet fe) := by
  obtain ⟨tc, pc, qc⟩ := h.p
  refine ⟨_, ps_ret pc, fun ρ σ own H D R k => qc ρ σ own H _ R ?_⟩
  unfold sRet at k
  revert k
  cases fe ρ with
  | er => exact id
  | ex c => exact fun k cv d H' i s => k cv d σ own H' i (R.grow s) (.same s)
  | ok x => exact fun k v H' s r => k v own H' r (.same s)
theorem vs_retN : VS X W S0 H0 rm (.Return none pos) sRetN := ⟨_, ps_retN, fun ρ σ own H D R k => k .non own H .ofNon .refl⟩
theorem vs_drop (h : VX X W S0 H0 m e fe) (hs : swapsWith e none pos.line X.env = pure false := by rfl) : VS X W S0 H0 rm (.Expr e pos) (sDrop fe) := by
  obtain ⟨tc, pc, qc⟩ := h.p
  refine ⟨_, ps_expr pc hs, fun ρ σ own H D R k => qc ρ σ own H _ R ?_⟩
  unfold sDrop at k
  revert k
  cases fe ρ with
  | er => exact id
  | ex c => exact fun k cv d H' i s => k cv d σ own H' i (R.grow s) (.same s)
  | ok x => exact fun k v H' s r => k σ own H' (R.grow s) (.same s)
section
variable {i : Nat} {x : Str} {pos' : Pos}
theorem vs_sh (hN : X.N.Nodup) (h : VX X W S0 H0 .E e fe) (hi : X.N[i]? = some x := by rfl) (hx : Loc X.env.scope x := by first | exact Or.inl rfl | exact Or.inr rfl) (hs : swapsWith e (some (.Name x pos')) pos.line X.env = pure false := by rfl)
    (hf : X.fn x = true ∨ X.env.scope.names.lookup x = some .local := by first | exact .inl rfl | exact .inr rfl) : VS X W S0 H0 rm (.Assign [.Name x pos'] e pos) (sSh i fe) := by
  obtain ⟨tc, pc, qc⟩ := h.p
  refine ⟨_, ps_set hN hi hx pc hs hf, fun ρ σ own H D R k => qc ρ σ own H _ R ?_⟩
  unfold sSh at k
  revert k
  cases fe ρ with
  | er => exact id
  | ex c => exact fun k cv d H' i s => k cv d σ own H' i (R.grow s) (.same s)
  | ok x => exact fun k v H' s r => k _ own H' ((R.grow s).setSh r) (.same s)
theorem vs_fr (hN : X.N.Nodup) (h : VX X W S0 H0 .F e fe) (hi : X.N[i]? = some x := by rfl) (hx : Loc X.env.scope x := by first | exact Or.inl rfl | exact Or.inr rfl) (hs : swapsWith e (some (.Name x pos')) pos.line X.env = pure false := by rfl)
    (hf : X.fn x = true ∨ X.env.scope.names.lookup x = some .local := by first | exact .inl rfl | exact .inr rfl) : VS X W S0 H0 rm (.Assign [.Name x pos'] e pos) (sFr i fe) := by
  obtain ⟨tc, pc, qc⟩ := h.p
  refine ⟨_, ps_set hN hi hx pc hs hf, fun ρ σ own H D R k => qc ρ σ own H _ R ?_⟩
  unfold sFr at k
  revert k
  cases fe ρ with
  | er => exact id
  | ex c => exact fun k cv d H' i s => k cv d σ own H' i (R.grow s) (.same s)
  | ok x => exact fun k v H' s r => k _ own H' ((R.grow s).setFr r) (.same s)
/-- x = e, a new list or dict that becomes one's own -/
theorem vs_ow (hN : X.N.Nodup) (h : VX X W S0 H0 .N e fe) (hi : X.N[i]? = some x := by rfl) (hx : Loc X.env.scope x := by first | exact Or.inl rfl | exact Or.inr rfl) (hs : swapsWith e (some (.Name x pos')) pos.line X.env = pure false := by rfl)
    (hf : X.fn x = true ∨ X.env.scope.names.lookup x = some .local := by first | exact .inl rfl | exact .inr rfl) : VS X W S0 H0 rm (.Assign [.Name x pos'] e pos) (sOw i fe) := by
  obtain ⟨tc, pc, qc⟩ := h.p
  refine ⟨_, ps_set hN hi hx pc hs hf, fun ρ σ own H D R k => qc ρ σ own H _ R ?_⟩
  unfold sOw at k
  revert k
  cases fe ρ with
  | er => exact id
  | ex c => exact fun k cv d H' i s => k cv d σ own H' i (R.grow s) (.same s)
  | ok x =>
    intro k v H' s r
    rw [ofM_ok] at k
    split at k
    · next ho =>
      have fin : ∀ a, v = .ref a → H a = none → Own X.K (SF H0 (a :: own)) H' a x → D.nx (σ.set i (some v)) H' := fun a e1 e2 e3 => by
        subst e1
        exact k _ (a :: own) H' (R.setOw s e2 e3) ⟨fun b o q _ => s b o q, fun b hm => (List.mem_cons.mp hm).elim (fun z => .inr (by rw [z]; exact e2)) .inl⟩
      cases x with
      | lst ds =>
        cases r with
        | lst s1 h1 r1 => exact fin _ rfl s1.1 ⟨_, h1, r1.lf ho⟩
      | dct ds =>
        cases r with
        | dct s1 h1 r1 => exact fin _ rfl s1.1 ⟨_, h1, r1.lf ho⟩
      | dk ds =>
        cases r with
        | dk s1 h1 r1 => exact fin _ rfl s1.1 ⟨_, h1, r1.lf ho⟩
      | _ => cases ho
    · exact k.elim
end
end
end VL
set_option Elab.async false
set_option linter.all false
set_option maxRecDepth 100000
/-! VL: loops, a def's contract and its call, what changes one's own lists and dicts. -/
namespace VL
open PySem L2 PySem.Spec PyProof.Rows

/-! ### what a loop walks -/
section
variable (X : Cx) (W : WX) (S0 : Addr → Prop) (H0 : Hp)
/-- an iterator that gives the data ds, whatever happens to one's own meanwhile -/
def Walks (own : List Addr) (H1 : Hp) (J : It) (ds : List D) : Prop :=
  ∀ (own' : List Addr) (H' : Hp), Fra own H1 own' H' → Same H0 H' → (∀ a, a ∈ own' → H0 a = none ∧ Mt (H' a)) → ∀ i : Nat, (i < ds.length → J.go i H') ∧ (ds.length ≤ i → J.stop i H') ∧
    ∀ x H2, i < ds.length → J.yld i H' x H2 → Same H' H2 ∧ ∃ d, ds[i]? = some d ∧ Rp X.K (SA S0 H0 own') H2 x d
def PXI (own : List Addr) (H : Hp) (σ : Sg) (R : It → Hp → Prop) : M (List D) → Prop
  | .ok ds => ∀ J H', Same H H' → Walks X S0 H0 own H' J ds → R J H'
  | .ex c => ∀ cv d H', IsCls X.mg c cv d → Same H H' → W cv d σ H'
  | .er => False
structure VI (tg iter : Expr) (f : Rho → M (List D)) : Prop where
  p : ∃ wi, PI X tg iter wi ∧ ∀ ρ σ own H R, Rel X.K S0 H0 ρ σ own H → PXI X W S0 H0 own H σ R (f ρ) → wi σ H R
  s : ∀ x, foldedSetIterable iter X.env x = pure x
/-- a target that stores at the slots ks alone -/
def OnlyS (ks : List Nat) (σ σ' : Sg) : Prop := σ'.length = σ.length ∧ ∀ j, j ∉ ks → σ'[j]? = σ[j]?
structure VG (ks : List Nat) (tg : Expr) (f : D → Rho → Option Rho) : Prop where
  p : ∃ g, PG X tg g ∧ ∀ v d ρ ρ' σ own H Q, Rel X.K S0 H0 ρ σ own H → Rp X.K (SA S0 H0 own) H v d → f d ρ = some ρ' → (∀ σ', Rel X.K S0 H0 ρ' σ' own H → OnlyS ks σ σ' → Q σ' H) → g v σ H Q
structure VGs (ks : List Nat) (tg : List Expr) (f : List D → Rho → Option Rho) : Prop where
  p : ∃ g, PGs X tg g ∧ ∀ vs ds ρ ρ' σ own H Q, Rel X.K S0 H0 ρ σ own H → RpA X.K (SA S0 H0 own) H vs ds → f ds ρ = some ρ' → (∀ σ', Rel X.K S0 H0 ρ' σ' own H → OnlyS ks σ σ' → Q σ' H) → g vs σ H Q
end
def tgN (i : Nat) : D → Rho → Option Rho := fun d ρ => some (ρ.set i (.sh d))
def tgNil : List D → Rho → Option Rho := fun ds ρ => match ds with | [] => some ρ | _ => none
def tgCons (f : D → Rho → Option Rho) (g : List D → Rho → Option Rho) : List D → Rho → Option Rho := fun ds ρ => match ds with
  | d :: r => (match f d ρ with | some ρ' => g r ρ' | none => none)
  | [] => none
def tgT (n : Nat) (f : List D → Rho → Option Rho) : D → Rho → Option Rho := fun d ρ => match d with
  | .tup ds => if ds.length = n then f ds ρ else none
  | .kt ds => if ds.length = n then f ds ρ else none
  | _ => none
/-- the turns -/
def forR (tg : D → Rho → Option Rho) (b : Rho → Res) : List D → Rho → Res
  | [], ρ => .nx ρ
  | d :: ds, ρ => match tg d ρ with
    | none => .er
    | some ρ1 => match b ρ1 with
      | .nx ρ2 => forR tg b ds ρ2
      | .ct ρ2 => forR tg b ds ρ2
      | .bk ρ2 => .nx ρ2
      | .rt d => .rt d
      | .ex c ρ2 => .ex c ρ2
      | .er => .er
def sFor (fi : Rho → M (List D)) (tg : D → Rho → Option Rho) (b : Rho → Res) : Rho → Res := fun ρ => match fi ρ with
  | .ok ds => forR tg b ds ρ
  | .ex c => .ex c ρ
  | .er => .er
def whileN (c : Rho → M Bool) (b : Rho → Res) : Nat → Rho → Res
  | 0, _ => .er
  | n + 1, ρ => match c ρ with
    | .ok true => (match b ρ with
      | .nx ρ2 => whileN c b n ρ2
      | .ct ρ2 => whileN c b n ρ2
      | .bk ρ2 => .nx ρ2
      | .rt d => .rt d
      | .ex c ρ2 => .ex c ρ2
      | .er => .er)
    | .ok false => .nx ρ
    | .ex c => .ex c ρ
    | .er => .er
def sWhile (n : Nat) (c : Rho → M Bool) (b : Rho → Res) : Rho → Res := whileN c b n
section
variable {X : Cx} {W : WX} {S0 : Addr → Prop} {H0 : Hp} {rm m : Md} {pos : Pos} {tg iter e : Expr} {body : List Stmt} {fi : Rho → M (List D)} {ft : D → Rho → Option Rho} {fb : Rho → Res} {fe : Rho → M D}
theorem vg_name {i : Nat} {x : Str} (hN : X.N.Nodup) (hi : X.N[i]? = some x := by rfl) (hx : Loc X.env.scope x := by first | exact Or.inl rfl | exact Or.inr rfl) (hf : X.fn x = true ∨ X.env.scope.names.lookup x = some .local := by first | exact .inl rfl | exact .inr rfl) : VG X S0 H0 [i] (.Name x pos) (tgN i) := by
  refine ⟨_, pg_name hN hi hx hf, fun v d ρ ρ' σ own H Q R r e k => ?_⟩
  cases e
  exact k _ (R.setSh r) ⟨List.length_set, fun j hj => List.getElem?_set_ne (fun z => hj (by rw [← z]; exact List.mem_cons_self))⟩
theorem vgs_nil : VGs X S0 H0 [] [] tgNil := by
  refine ⟨_, pgs_nil, fun vs ds ρ ρ' σ own H Q R r e k => ?_⟩
  cases r with
  | nil => cases e; exact ⟨rfl, k _ R ⟨rfl, fun _ _ => rfl⟩⟩
  | cons _ _ => cases e
theorem vgs_cons {k1 k2 : List Nat} {es : List Expr} {fs : List D → Rho → Option Rho} (h : VG X S0 H0 k1 e ft) (h2 : VGs X S0 H0 k2 es fs) (hs : (assignEach (e :: es) X.env).map (·.2) = assign e X.env :: (assignEach es X.env).map (·.2) := by rfl) : VGs X S0 H0 (k1 ++ k2) (e :: es) (tgCons ft fs) := by
  obtain ⟨g, p, q⟩ := h.p
  obtain ⟨g2, p2, q2⟩ := h2.p
  refine ⟨_, pgs_cons p p2 hs, fun vs ds ρ ρ' σ own H Q R r e k => ?_⟩
  cases r with
  | nil => cases e
  | cons r1 r2 =>
    rename_i v d vs ds
    unfold tgCons at e
    cases e1 : ft d ρ with
    | none => simp [e1] at e
    | some ρ1 =>
      simp [e1] at e
      exact ⟨_, _, rfl, q _ _ _ _ _ _ _ _ R r1 e1 fun σ' R' o1 => q2 _ _ _ _ _ _ _ _ R' r2 e fun σ2 R2 o2 => k σ2 R2 ⟨o2.1.trans o1.1, fun j hj => (o2.2 j fun z => hj (List.mem_append_right _ z)).trans (o1.2 j fun z => hj (List.mem_append_left _ z))⟩⟩
theorem vg_tup {ks : List Nat} {es : List Expr} {j n : Nat} {fs : List D → Rho → Option Rho} (hc : X.calm = true) (h : VGs X S0 H0 ks es fs) (hn : (assignEach es X.env).length = n := by rfl) (hst : (assignEach es X.env).findIdx? (·.1) = none := by rfl) : VG X S0 H0 ks (.Tuple es j pos) (tgT n fs) := by
  obtain ⟨g, p, q⟩ := h.p
  refine ⟨_, pg_tup hc p hn hst, fun v d ρ ρ' σ own H Q R r e k => ?_⟩
  unfold tgT at e
  split at e
  · next ds =>
    split at e
    · next hl =>
      cases r with
      | tup h1 r1 => exact ⟨_, _, rfl, SqT.of h1, by rw [r1.length]; exact hl, q _ _ _ _ _ _ _ _ R r1 e k⟩
    · cases e
  · next ds =>
    split at e
    · next hl =>
      cases r with
      | kt h1 r1 => exact ⟨_, _, rfl, .inr h1, by rw [r1.length]; exact hl, q _ _ _ _ _ _ _ _ R r1 e k⟩
    · cases e
  · cases e
/-! ### for, while -/
theorem vs_for {ks : List Nat} (hp : PassesOwn (model X.prog X.w) X.A X.env X.xe) (hc : X.calm = true) (hi : VI X W S0 H0 tg iter fi) (hg : VG X S0 H0 ks tg ft) (hb : VSs X W S0 H0 rm body fb) : VS X W S0 H0 rm (.For tg iter body [] pos) (sFor fi ft fb) := by
  obtain ⟨wi, pi, qi⟩ := hi.p
  obtain ⟨g, pg, qg⟩ := hg.p
  obtain ⟨tb, pb, qb⟩ := hb.p
  refine ⟨_, ps_for hp hc pi pg pb hi.s, fun ρ σ own H D R k => qi ρ σ own H _ R ?_⟩
  unfold sFor at k
  revert k
  cases fi ρ with
  | er => exact id
  | ex c => exact fun k cv d H' i s => k cv d σ own H' i (R.grow s) (.same s)
  | ok ds =>
    intro k J H1 s1 wk
    refine ⟨fun i m' σ' H' => ∃ ρ' own', Rel X.K S0 H0 ρ' σ' own' H' ∧ Fra own H1 own' H' ∧ PSt X W S0 H0 rm own' H' D (forR ft fb (ds.drop i) ρ') ∧ m' = ds.length - i ∧ i ≤ ds.length, ⟨ds.length, ρ, own, R.grow s1, .refl, by simpa using k.weak (.same s1), by simp, by simp⟩, ?_⟩
    rintro i m' σ' H' ⟨ρ', own', R', F', k', rfl, hi⟩
    obtain ⟨w1, w2, w3⟩ := wk own' H' F' R'.same R'.own0 i
    by_cases hlt : i < ds.length
    · refine .inr ⟨w1 hlt, fun σ2 H2 => ∃ ρ2 own2, Rel X.K S0 H0 ρ2 σ2 own2 H2 ∧ Fra own H1 own2 H2 ∧ PSt X W S0 H0 rm own2 H2 D (forR ft fb (ds.drop (i + 1)) ρ2), fun σ2 H2 ⟨ρ2, own2, a, b, c⟩ => ⟨ds.length - (i + 1), by omega, ρ2, own2, a, b, c, rfl, hlt⟩, fun x H2 hy => ?_⟩
      obtain ⟨s2, d, hd, rd⟩ := w3 x H2 hlt hy
      have ed : ds.drop i = d :: ds.drop (i + 1) := by
        rw [List.drop_eq_getElem_cons hlt]
        rw [List.getElem?_eq_getElem hlt] at hd
        rw [Option.some.inj hd]
      rw [ed] at k'
      unfold forR at k'
      cases et : ft d ρ' with
      | none => rw [et] at k'; exact k'.elim
      | some ρ1 =>
        rw [et] at k'
        refine qg x d ρ' ρ1 σ' own' H2 _ (R'.grow s2) rd et fun σ3 R3 _ => qb ρ1 σ3 own' H2 _ R3 ?_
        have F2 : Fra own H1 own' H2 := F'.trans (.same s2)
        have k2 := PSt.weak k' (.same s2)
        revert k2
        dsimp only
        generalize fb ρ1 = r
        intro k2
        cases r with
        | nx ρ2 => exact fun σ4 o4 H4 a b => ⟨ρ2, o4, a, F2.trans b, k2.weak b⟩
        | ct ρ2 => exact fun σ4 o4 H4 a b => ⟨ρ2, o4, a, F2.trans b, k2.weak b⟩
        | bk ρ2 => exact fun σ4 o4 H4 a b => k2 σ4 o4 H4 a b
        | rt d => exact k2
        | ex c ρ2 => exact k2
        | er => exact k2
    · refine .inl ⟨w2 (by omega), ?_⟩
      rw [List.drop_of_length_le (by omega)] at k'
      exact k' σ' own' H' R' .refl
theorem vs_while {c : Expr} {fc : Rho → M Bool} (n : Nat) (hp : PassesOwn (model X.prog X.w) X.A X.env X.xe) (hc : VT X W S0 H0 c fc) (hb : VSs X W S0 H0 rm body fb) : VS X W S0 H0 rm (.While c body [] pos) (sWhile n fc fb) := by
  obtain ⟨tc, pc, qc⟩ := hc.p
  obtain ⟨tb, pb, qb⟩ := hb.p
  refine ⟨_, ps_while hp pc pb, fun ρ σ own H D R k => ?_⟩
  refine ⟨fun m' σ' H' => ∃ ρ' own', Rel X.K S0 H0 ρ' σ' own' H' ∧ PSt X W S0 H0 rm own' H' D (whileN fc fb m' ρ'), ⟨n, ρ, own, R, k⟩, ?_⟩
  rintro m' σ' H' ⟨ρ', own', R', k'⟩
  cases m' with
  | zero => exact k'.elim
  | succ m' =>
    refine qc ρ' σ' own' H' _ R' ?_
    unfold whileN at k'
    cases ec : fc ρ' with
    | er => rw [ec] at k'; exact k'.elim
    | ex c => rw [ec] at k'; exact fun cv d H2 i s => k' cv d σ' own' H2 i (R'.grow s) (.same s)
    | ok b =>
      rw [ec] at k'
      intro H2 s2
      cases b with
      | false =>
        rw [if_neg Bool.false_ne_true]
        exact k' σ' own' H2 (R'.grow s2) (.same s2)
      | true =>
        rw [if_pos rfl]
        refine ⟨fun σ3 H3 => ∃ ρ3 own3, Rel X.K S0 H0 ρ3 σ3 own3 H3 ∧ PSt X W S0 H0 rm own3 H3 D (whileN fc fb m' ρ3), fun σ3 H3 h => ⟨m', Nat.lt_succ_self _, h⟩, qb ρ' σ' own' H2 _ (R'.grow s2) ?_⟩
        have k2 := PSt.weak k' (.same s2)
        revert k2
        dsimp only
        generalize fb ρ' = r
        intro k2
        cases r with
        | nx ρ2 => exact fun σ4 o4 H4 a b => ⟨ρ2, o4, a, k2.weak b⟩
        | ct ρ2 => exact fun σ4 o4 H4 a b => ⟨ρ2, o4, a, k2.weak b⟩
        | bk ρ2 => exact fun σ4 o4 H4 a b => k2 σ4 o4 H4 a b
        | rt d => exact k2
        | ex c ρ2 => exact k2
        | er => exact k2
/-! ### lists, tuples, ranges, texts as what is walked -/
def itemsG : D → M (List D)
  | .lst ds => .ok ds
  | .fz ds => .ok ds
  | .tup ds => .ok ds
  | .kt ds => .ok ds
  | _ => .er
theorem fra_rd {own own' : List Addr} {H H' : Hp} {a : Addr} {u : HO} (F : Fra own H own' H') (own0 : ∀ a, a ∈ own → H0 a = none ∧ Mt (H a)) (hn : a ∉ own) (h : Rd H a u) : Rd H' a u := by
  rcases h with h | ⟨o, h⟩
  · exact .inl (F.k _ _ h hn)
  · exact .inr ⟨o, F.k _ _ h hn⟩
/-- a list that is no one's own at a -/
theorem walks_list {ρ : Rho} {σ : Sg} {own : List Addr} {H : Hp} {a : Addr} {xs : List V} {ds : List D} (R : Rel X.K S0 H0 ρ σ own H) (hn : a ∉ own) (h : SqL X.K H a xs) (r : RpA X.K (SA S0 H0 own) H xs ds) : Walks X S0 H0 own H (Itl X.K a) ds := by
  intro own' H' F _ _ i
  have h' : SqL X.K H' a xs := h.imp (fra_rd F R.own0 hn) id
  have r' := r.keep (F.keepA (S0 := S0) (H0 := H0) R.own0)
  refine ⟨fun hi => ?_, fun hi => ⟨xs, h', by rw [r.length]; exact hi⟩, fun x H2 hi ⟨e, y⟩ => ?_⟩
  · obtain ⟨v, e, _⟩ := r.get (List.getElem?_eq_getElem hi)
    exact ⟨xs, v, h', e⟩
  · subst e
    obtain ⟨d, e1, e2⟩ := r'.getV (y xs h')
    exact ⟨Same.refl _, d, e1, e2⟩
theorem walks_tup {ρ : Rho} {σ : Sg} {own : List Addr} {H : Hp} {a : Addr} {xs : List V} {ds : List D} (R : Rel X.K S0 H0 ρ σ own H) (h : SqT X.K H a xs) (hm : (∃ o u, H a = some (.frz o u)) → False) (r : RpA X.K (SA S0 H0 own) H xs ds) : Walks X S0 H0 own H (Itt X.K a) ds := by
  intro own' H' F _ _ i
  have h' : SqT X.K H' a xs := by
    rcases h with (h | ⟨o, h⟩) | h
    · refine .inl (.inl (F.k _ _ h fun hm => ?_))
      have := (R.own0 a hm).2
      rw [h] at this; exact this
    · exact (hm ⟨o, _, h⟩).elim
    · exact .inr h
  have r' := r.keep (F.keepA (S0 := S0) (H0 := H0) R.own0)
  refine ⟨fun hi => ?_, fun hi => ⟨xs, h', by rw [r.length]; exact hi⟩, fun x H2 hi ⟨e, y⟩ => ?_⟩
  · obtain ⟨v, e, _⟩ := r.get (List.getElem?_eq_getElem hi)
    exact ⟨xs, v, h', e⟩
  · subst e
    obtain ⟨d, e1, e2⟩ := r'.getV (y xs h')
    exact ⟨Same.refl _, d, e1, e2⟩
theorem walks_listA {ρ : Rho} {σ : Sg} {own : List Addr} {H : Hp} {a : Addr} {xs : List V} {ds : List D} (R : Rel X.K S0 H0 ρ σ own H) (hk : ∀ own' H', Fra own H own' H' → SqL X.K H' a xs) (h : SqL X.K H a xs) (r : RpA X.K (SA S0 H0 own) H xs ds) : Walks X S0 H0 own H (Itl X.K a) ds := by
  intro own' H' F _ _ i
  have h' := hk own' H' F
  have r' := r.keep (F.keepA (S0 := S0) (H0 := H0) R.own0)
  refine ⟨fun hi => ?_, fun hi => ⟨xs, h', by rw [r.length]; exact hi⟩, fun x H2 hi ⟨e, y⟩ => ?_⟩
  · obtain ⟨v, e, _⟩ := r.get (List.getElem?_eq_getElem hi)
    exact ⟨xs, v, h', e⟩
  · subst e
    obtain ⟨d, e1, e2⟩ := r'.getV (y xs h')
    exact ⟨Same.refl _, d, e1, e2⟩
theorem walks_tupA {ρ : Rho} {σ : Sg} {own : List Addr} {H : Hp} {a : Addr} {xs : List V} {ds : List D} (R : Rel X.K S0 H0 ρ σ own H) (hk : ∀ own' H', Fra own H own' H' → SqT X.K H' a xs) (r : RpA X.K (SA S0 H0 own) H xs ds) : Walks X S0 H0 own H (Itt X.K a) ds := by
  intro own' H' F _ _ i
  have h' := hk own' H' F
  have r' := r.keep (F.keepA (S0 := S0) (H0 := H0) R.own0)
  refine ⟨fun hi => ?_, fun hi => ⟨xs, h', by rw [r.length]; exact hi⟩, fun x H2 hi ⟨e, y⟩ => ?_⟩
  · obtain ⟨v, e, _⟩ := r.get (List.getElem?_eq_getElem hi)
    exact ⟨xs, v, h', e⟩
  · subst e
    obtain ⟨d, e1, e2⟩ := r'.getV (y xs h')
    exact ⟨Same.refl _, d, e1, e2⟩
/-- over a list or a tuple -/
def iSeq (K : PySem.W.Frag) (tl : TE) : TI := fun σ H R => tl σ H fun x H1 => ∃ a, x = .ref a ∧ (((∃ xs, SqL K H1 a xs) ∧ R (Itl K a) H1) ∨ ((∃ xs, SqT K H1 a xs) ∧ R (Itt K a) H1))
theorem pi_seq {tg l : Expr} {tl : TE} (hl : PE X l tl) : PI X tg l (iSeq X.K tl) := by
  constructor
  intro pins s σ H R I h
  refine thn (hl.run pins s σ H _ I h) fun v s1 ⟨x, H1, I1, r1, a, e, q⟩ => ?_
  cases e
  cases r1
  have new : ∀ b, b ∈ [s1.heap.objs.size] → FpOk X pins H1 b := fun b hb => by
    rw [List.mem_singleton.mp hb]
    exact I1.fpOk (Nat.le_refl _) (I1.hok.fresh (Nat.le_refl _))
  have kept := fun o : Obj => I1.kept (h' := s1.heap.push o) (t' := s1.toks) fun b o e => Heap.get?_push_of_some _ e
  rcases q with ⟨⟨xs, hq⟩, q⟩ | ⟨⟨xs, hq⟩, q⟩
  · obtain ⟨its, rv, p, -⟩ := I1.list hq
    exact wpAny_pyIter_list p.isList ⟨_, [s1.heap.objs.size], _, _, H1, rfl, kept _, turn_list a _, ⟨_, Heap.get?_push_size _ rfl, rfl, rfl⟩, new, q⟩
  · obtain ⟨its, rv, p, -⟩ := I1.tuple hq
    exact wpAny_pyIter_tuple (show s1.heap.IsTuple a its.toArray from p) ⟨_, [s1.heap.objs.size], _, _, H1, rfl, kept _, turn_tuple a _, ⟨_, Heap.get?_push_size _ rfl, rfl, rfl⟩, new, q⟩
def eLL (f : Rho → M D) : Rho → M (List D) := fun ρ => M.bind (f ρ) itemsG
def eTT (f : Rho → M D) : Rho → M (List D) := eLL f
theorem vi_list (h : VX X W S0 H0 .E e fe) (hs : ∀ x, foldedSetIterable e X.env x = pure x := by intro _; rfl) : VI X W S0 H0 tg e (eLL fe) := by
  obtain ⟨te, p, q⟩ := h.p
  refine ⟨⟨_, pi_seq p, fun ρ σ own H Rk R k => q ρ σ own H _ R ?_⟩, hs⟩
  unfold eLL at k
  revert k
  cases fe ρ with
  | er => exact id
  | ex c => exact id
  | ok d =>
    intro k v H1 s1 r1
    have own0 := (R.grow s1).own0
    cases d with
    | lst ds =>
      cases r1 with
      | lst s h r => exact ⟨_, rfl, .inl ⟨⟨_, .inl (.inl h)⟩, k _ H1 s1 (walks_list (R.grow s1) s.1 (SqL.of h) r)⟩⟩
    | fz ds =>
      cases r1 with
      | fz h r =>
        refine ⟨_, rfl, .inl ⟨⟨_, h.sq⟩, k _ H1 s1 (walks_listA (R.grow s1) (fun own' H' F => ?_) h.sq r)⟩⟩
        rcases h with ⟨o, h⟩ | h
        · exact .inl (.inr ⟨o, F.k _ _ h fun hm => by
            have := (own0 _ hm).2
            rw [h] at this; exact this⟩)
        · exact .inr h
    | tup ds =>
      cases r1 with
      | tup h r =>
        exact ⟨_, rfl, .inr ⟨⟨_, SqT.of h⟩, k _ H1 s1 (walks_tupA (R.grow s1) (fun own' H' F => SqT.of (F.k _ _ h fun hm => by
          have := (own0 _ hm).2
          rw [h] at this; exact this)) r)⟩⟩
    | kt ds =>
      cases r1 with
      | kt h r => exact ⟨_, rfl, .inr ⟨⟨_, .inr h⟩, k _ H1 s1 (walks_tupA (R.grow s1) (fun own' H' F => .inr h) r)⟩⟩
    | _ => exact k.elim
theorem vi_tup (h : VX X W S0 H0 .E e fe) (hs : ∀ x, foldedSetIterable e X.env x = pure x := by intro _; rfl) : VI X W S0 H0 tg e (eTT fe) := vi_list h hs
/-- range(n), range(a, b) -/
def rngD (lo : Int) (n : Nat) : List D := (List.range n).map fun i => .int (lo + (i : Nat))
def eR1 (f : Rho → M (List D)) : Rho → M (List D) := fun ρ => M.bind (f ρ) fun d => match d with
  | [.int j] => if -(2 ^ 62) ≤ j ∧ j < 2 ^ 62 then .ok (rngD 0 j.toNat) else .er
  | _ => .er
def eR2 (f : Rho → M (List D)) : Rho → M (List D) := fun ρ => M.bind (f ρ) fun d => match d with
  | [.int i, .int j] => if -(2 ^ 62) ≤ i ∧ i < 2 ^ 62 ∧ -(2 ^ 62) ≤ j ∧ j < 2 ^ 62 then .ok (rngD i (j - i).toNat) else .er
  | _ => .er
theorem walks_rng {own : List Addr} {H : Hp} {lo : Int} {n : Nat} : Walks X S0 H0 own H (Itr lo n) (rngD lo n) := by
  intro own' H' F _ _ i
  have hl : (rngD lo n).length = n := by simp [rngD]
  rw [hl]
  refine ⟨id, id, fun x H2 hi ⟨e, y⟩ => ?_⟩
  subst e
  subst y
  exact ⟨Same.refl _, .int (lo + (i : Nat)), by simp [rngD, hi], .int _⟩
theorem vi_range1 {a : Expr} {fa : Rho → M (List D)} {p : Pos} (hm : X.mg "range" = none) (ha : VA X W S0 H0 .O [a] fa) (hg : Gl X "range" := by rfl) (hs : starEach [a] X.env = [(false, eval a X.env)] := by rfl) (hf : ∀ x, foldedSetIterable (.Call (.Name "range" p) [a] [] pos) X.env x = pure x := by intro _; rfl) :
    VI X W S0 H0 tg (.Call (.Name "range" p) [a] [] pos) (eR1 fa) := by
  obtain ⟨te, pa, q⟩ := ha.p
  refine ⟨⟨_, pi_range1 hg hm pa hs, fun ρ σ own H Rk R k => q ρ σ own H _ R ?_⟩, hf⟩
  unfold eR1 at k
  revert k
  cases fa ρ with
  | er => exact id
  | ex c => exact id
  | ok ds =>
    intro k vs H1 s1 r1
    rw [bind_ok] at k
    split at k
    · next j =>
      split at k
      · next hj =>
        obtain ⟨v, rfl, r2⟩ := pair1 r1
        rw [r2.isInt]
        exact ⟨j, rfl, hj.1, hj.2, k _ H1 s1 walks_rng⟩
      · exact k.elim
    · exact k.elim
theorem vi_range2 {a b : Expr} {fa : Rho → M (List D)} {p : Pos} (hm : X.mg "range" = none) (ha : VA X W S0 H0 .O [a, b] fa) (hg : Gl X "range" := by rfl) (hs : starEach [a, b] X.env = [(false, eval a X.env), (false, eval b X.env)] := by rfl) (hs2 : starEach [b] X.env = [(false, eval b X.env)] := by rfl)
    (hf : ∀ x, foldedSetIterable (.Call (.Name "range" p) [a, b] [] pos) X.env x = pure x := by intro _; rfl) : VI X W S0 H0 tg (.Call (.Name "range" p) [a, b] [] pos) (eR2 fa) := by
  obtain ⟨te, pa, q⟩ := ha.p
  refine ⟨⟨_, pi_range2 hg hm pa hs hs2, fun ρ σ own H Rk R k => q ρ σ own H _ R ?_⟩, hf⟩
  unfold eR2 at k
  revert k
  cases fa ρ with
  | er => exact id
  | ex c => exact id
  | ok ds =>
    intro k vs H1 s1 r1
    rw [bind_ok] at k
    split at k
    · next i j =>
      split at k
      · next hj =>
        obtain ⟨v, w, rfl, r2, r3⟩ := pair2 r1
        rw [r2.isInt, r3.isInt]
        exact ⟨i, j, rfl, hj, k _ H1 s1 walks_rng⟩
      · exact k.elim
    · exact k.elim
/-- the signs of a text -/
def eSS (f : Rho → M D) : Rho → M (List D) := fun ρ => M.bind (f ρ) fun d => match d with | .str x => .ok (x.cps.toList.map fun c => .str ⟨#[c]⟩) | _ => .er
theorem vi_str (h : VX X W S0 H0 m e fe) (hs : ∀ x, foldedSetIterable e X.env x = pure x := by intro _; rfl) : VI X W S0 H0 tg e (eSS fe) := by
  obtain ⟨te, p, q⟩ := h.p
  refine ⟨⟨_, pi_str p, fun ρ σ own H Rk R k => q ρ σ own H _ R ?_⟩, hs⟩
  unfold eSS at k
  revert k
  cases fe ρ with
  | er => exact id
  | ex c => exact id
  | ok d =>
    intro k v H1 s1 r1
    cases d with
    | str x =>
      refine ⟨x, r1.isStr, k _ H1 s1 ?_⟩
      intro own' H' F _ _ i
      have hl : (x.cps.toList.map fun c => D.str ⟨#[c]⟩).length = x.cps.size := by simp
      rw [hl]
      refine ⟨id, id, fun v H2 hi ⟨e, c, ec, y⟩ => ?_⟩
      subst e
      subst y
      refine ⟨Same.refl _, .str ⟨#[c]⟩, ?_, .str _⟩
      rw [List.getElem?_map, Array.getElem?_toList, ec]
      rfl
    | _ => exact k.elim
end

/-! ### a def's contract, its call -/
section
variable {P : Program} {w : World} {K : PySem.W.Frag} {mg : Str → Option Value} {base : Heap}
def PF (mg : Str → Option Value) (K : PySem.W.Frag) (H : Hp) (Q : VK) (E : XK) : M D → Prop
  | .ok d => ∀ v H', Same H H' → Rp K (fun a => H a = none) H' v d → Q v H'
  | .ex c => ∀ cv dd H', IsCls mg c cv dd → Same H H' → E cv dd H'
  | .er => False
/-- the def gives g of its arguments' data, made by it -/
def spN (mg : Str → Option Value) (K : PySem.W.Frag) (g : List D → M D) : Sp := fun vs H Q E => ∃ ds, RpA K (fun _ => True) H vs ds ∧ PF mg K H Q E (g ds)
def resM : Res → M D
  | .rt d => .ok d
  | .nx _ => .ok .non
  | .ex c _ => .ex c
  | _ => .er
def runF (n N : Nat) (F : Rho → Res) (ds : List D) : M D := if ds.length = n then resM (F (ds.map .sh ++ List.replicate (N - n) .no)) else .er
theorem rel_start {S0 : Addr → Prop} {H : Hp} {vs : List V} {ds : List D} (r : RpA K S0 H vs ds) (k : Nat) : Rel K S0 H (ds.map .sh ++ List.replicate k .no) (vs.map some ++ List.replicate k none) [] H := by
  have hl : vs.length = ds.length := r.length
  have no : ∀ (i : Nat) (s : Sl), (ds.map Sl.sh ++ List.replicate k Sl.no)[i]? = some s → (∃ d, ds[i]? = some d ∧ s = .sh d) ∨ s = .no := fun i s e => by
    by_cases hi : i < (ds.map Sl.sh).length
    · rw [List.getElem?_append_left hi, List.getElem?_map] at e
      cases h : ds[i]? with
      | none => rw [h] at e; cases e
      | some d => rw [h] at e; cases e; exact .inl ⟨d, rfl, rfl⟩
    · rw [List.getElem?_append_right (by omega)] at e
      have := List.mem_of_getElem? e
      exact .inr (List.eq_of_mem_replicate this)
  refine ⟨fun i d e => ?_, fun i d e => ?_, fun i d e => ?_, fun i j d e a b q => ?_, fun a h => by simp at h, Same.refl H, by simp [hl]⟩
  · rcases no i _ e with ⟨d', h, z⟩ | z
    · cases z
      obtain ⟨v, h1, h2⟩ := r.get h
      have hi : i < vs.length := (List.getElem?_eq_some_iff.mp h1).1
      exact ⟨v, by rw [List.getElem?_append_left (by simpa using hi), List.getElem?_map, h1]; rfl, h2.keep (.wide fun a s => ⟨by simp, .inl s⟩)⟩
    · cases z
  · rcases no i _ e with ⟨d', h, z⟩ | z <;> cases z
  · rcases no i _ e with ⟨d', h, z⟩ | z <;> cases z
  · rcases no i _ a with ⟨d', h, z⟩ | z <;> cases z
theorem fn_ok {x qual : Str} {st : Stmt} {f : Addr} {fd : FuncData} {N ps : List Str} {k : Nat} {F : Rho → Res} (Fn : Fun K x qual st f fd) (S : FnScope N ps (defScope st))
    (hb : ∀ (cdv : Value) (A : Around) (outer : List Env) (s : Shared) (H : Hp) (E : XK) (S0 : Addr → Prop), Room k (A.deeper (envOfC qual (defScope st) s.heap.objs.size f cdv)) →
      VSs (cxOf (L2.CX P w) P w K mg base N qual (defScope st) f cdv A outer s H E) (fun cls d _ H => E cls d H) S0 H .F (defBody st) F) :
    FnOk P w K mg base (L2.CX P w) (k + 1) f fd ps (spN mg K (runF ps.length N.length F)) := by
  refine Fn.okX S (fun vs H Q E h => ?_) (fun cdv A outer s H vs Q E hr h => ?_)
  · obtain ⟨ds, r, p⟩ := h
    unfold runF at p
    split at p
    · next hl => rw [r.length, hl]
    · exact p.elim
  · obtain ⟨ds, r, p⟩ := h
    obtain ⟨t, pt, q⟩ := (hb cdv A outer s H E (fun _ => True) hr).p
    refine ⟨t, pt, ?_⟩
    unfold runF at p
    split at p
    · next hl =>
      have hv : vs.length = ps.length := by rw [r.length, hl]
      have R := rel_start r (N.length - ps.length)
      have e : L2.start N vs = vs.map some ++ List.replicate (N.length - ps.length) none := by unfold L2.start; rw [hv]
      rw [e]
      refine q _ _ [] H _ R ?_
      have fin : ∀ (v : V) (own' : List Addr) (H' : Hp) (d : D), (∀ v H', Same H H' → Rp K (fun a => H a = none) H' v d → Q v H') → Rp K (SF H own') H' v d → Fra [] H own' H' → Q v H' := fun v own' H' d p a b => p v H' b.all (a.keep (.wide fun _ z => z.2))
      revert p
      generalize F (ds.map Sl.sh ++ List.replicate (N.length - ps.length) Sl.no) = r
      intro p
      cases r with
      | rt d => exact fun v own' H' a b => fin v own' H' d p a b
      | nx ρ' => exact fun σ' own' H' a b => p .non H' b.all .non
      | ex c ρ' => exact fun cv d σ' own' H' i a b => p cv d H' i b.all
      | bk ρ' => exact p.elim
      | ct ρ' => exact p.elim
      | er => exact p.elim
    · exact p.elim
/-- a def that may be called by its name: it gives g -/
structure Cal (P : Program) (w : World) (K : PySem.W.Frag) (mg : Str → Option Value) (base : Heap) (k : Nat) (x : Str) (g : List D → M D) : Prop where
  p : ∃ (f : Addr) (fd : FuncData) (ps : List Str), FnOk P w K mg base (L2.CX P w) k f fd ps (spN mg K g) ∧ mg x = some (.ref f) ∧ PySem.W.keepIn K (.ref f) = true ∧ Binds K fd ps []
theorem Cal.mk' {k : Nat} {x qual : Str} {st : Stmt} {f : Addr} {fd : FuncData} {ps : List Str} {g : List D → M D} (F : FnOk P w K mg base (L2.CX P w) k f fd ps (spN mg K g)) (Fn : Fun K x qual st f fd) (hm : mg x = some (.ref f)) (hb : Binds K fd ps []) : Cal P w K mg base k x g := ⟨f, fd, ps, F, hm, Fn.kp, hb⟩
theorem Cal.to {k : Nat} {x : Str} {g g' : List D → M D} (c : Cal P w K mg base k x g) (h : ∀ ds, g ds = g' ds) : Cal P w K mg base k x g' := by
  rw [← funext h]
  exact c
/-- what a def gives, known where it is known -/
theorem Cal.imp {k : Nat} {x : Str} {g g' : List D → M D} (c : Cal P w K mg base k x g) (h : ∀ ds, g' ds = .er ∨ g ds = g' ds) : Cal P w K mg base k x g' := by
  obtain ⟨f, fd, ps, F, h1, h2, h3⟩ := c.p
  refine ⟨f, fd, ps, F.imp fun vs H Q E ⟨ds, r, p⟩ => ⟨ds, r, ?_⟩, h1, h2, h3⟩
  rcases h ds with e | e
  · rw [e] at p; exact p.elim
  · rw [e]; exact p
end
section
variable {X : Cx} {W : WX} {S0 : Addr → Prop} {H0 : Hp} {rm m : Md} {pos p : Pos} {e : Expr} {es : List Expr} {fa : Rho → M (List D)} {x : Str} {j k : Nat} {g : List D → M D}
theorem Rp.ofO {K : PySem.W.Frag} {own : List Addr} {Hb H : Hp} {v : V} {d : D} (r : RM K S0 H0 own m Hb H v d) : Rp K (fun _ => True) H v d := by
  rcases r.toO (Hc := Hb) with r | ⟨a, rfl, hm, r⟩
  · exact r.keep (.wide fun _ _ => trivial)
  · cases d with
    | lst ds => obtain ⟨xs, e, r⟩ := r; exact .lst trivial e (r.keep (.wide fun _ _ => trivial))
    | dct ds => obtain ⟨xs, e, r⟩ := r; exact .dct trivial e (r.keep (.wide fun _ _ => trivial))
    | dk ds => obtain ⟨xs, e, r⟩ := r; exact .dk trivial e (r.keep (.wide fun _ _ => trivial))
    | _ => exact r.elim
theorem RpA.ofO {K : PySem.W.Frag} {own : List Addr} {Hb H : Hp} {vs : List V} {ds : List D} (r : Paired (RM K S0 H0 own m Hb H) vs ds) : RpA K (fun _ => True) H vs ds := by
  induction r with
  | nil => exact .nil
  | cons a _ ih => exact .cons (Rp.ofO a) ih
def eCall (g : List D → M D) (fa : Rho → M (List D)) : Rho → M D := fun ρ => M.bind (fa ρ) g
theorem vx_call (c : Cal X.prog X.w X.K X.mg X.base k x g) (tk : Takes X W) (hr : Room j X.A) (hk : k ≤ j) (ha : VA X W S0 H0 .O (e :: es) fa) (hg : Gl X x := by rfl) (hdb : (x == ("__debug__" : Str)) = false := by decide)
    (he : starEach (e :: es) X.env = (false, eval e X.env) :: starEach es X.env := by rfl) (hpl : (backTo pos (starEach es X.env)).any (·.1) = false := by rfl) : VX X W S0 H0 .N (.Call (.Name x p) (e :: es) [] pos) (eCall g fa) := by
  obtain ⟨f, fd, ps, F, h1, h2, h3⟩ := c.p
  obtain ⟨ta, pa, qa⟩ := ha.p
  refine ⟨_, pe_callS F (hr.mono hk) hg h1 h2 h3 (fun σ => passAt tk σ) pa hdb he hpl, fun ρ σ own H Q R k => qa ρ σ own H _ R ?_⟩
  unfold eCall at k
  revert k
  cases fa ρ with
  | er => exact id
  | ex c => exact id
  | ok ds =>
    intro k vs H1 s1 r1
    rw [bind_ok] at k
    refine ⟨ds, RpA.ofO r1, ?_⟩
    revert k
    cases g ds with
    | er => exact id
    | ex c => exact fun k cv dd H' i s => k cv dd H' i (s1.trans s)
    | ok d => exact fun k v H' s r => k v H' (s1.trans s) (r.keep (.wide fun a ha => ⟨s1.free ha, sf_new (R.grow s1) ha⟩))
theorem vx_call0 (c : Cal X.prog X.w X.K X.mg X.base k x g) (hr : Room j X.A) (hk : k ≤ j) (tk : Takes X W) (hg : Gl X x := by rfl) (hdb : (x == ("__debug__" : Str)) = false := by decide) : VX X W S0 H0 .N (.Call (.Name x p) [] [] pos) (fun _ => g []) := by
  obtain ⟨f, fd, ps, F, h1, h2, h3⟩ := c.p
  refine ⟨fun σ H Q => spN X.mg X.K g [] H Q (WE W σ), ⟨fun pins s σ H Q I h => ?_⟩, fun ρ σ own H Q R k => ⟨[], .nil, ?_⟩⟩
  · refine wpAny_Call_Name_kw (ld_glob I hg h1 ?_ hdb)
    exact PySem.W.callWith_K0 I.kIn h2 (run_fnS (us := []) (vs := []) (E := WE W) F (hr.mono hk) h3 (passAt tk σ) I .nil h)
  · revert k
    cases g [] with
    | er => exact id
    | ex c => exact fun k cv dd H' i s => k cv dd H' i s
    | ok d => exact fun k v H' s r => k v H' s (r.keep (.wide fun a ha => ⟨ha, sf_new R ha⟩))
end
end VL
set_option Elab.async false
set_option linter.all false
set_option maxRecDepth 100000
/-! VL: what changes one's own lists and dicts; comprehensions. -/
namespace VL
open PySem L2 PySem.Spec PyProof.Rows

/-! ### one's own, changed -/
section
variable {X : Cx} {W : WX} {S0 : Addr → Prop} {H0 : Hp} {rm m mi : Md} {pos apos cpos pos' : Pos} {e ei : Expr} {es : List Expr} {fe fi : Rho → M D} {fa : Rho → M (List D)}
theorem own_lst {K : PySem.W.Frag} {ρ : Rho} {σ : Sg} {own : List Addr} {H : Hp} {i : Nat} {ds : List D} (R : Rel K S0 H0 ρ σ own H) (e : ρ[i]? = some (.ow (.lst ds))) : ∃ a xs, σ[i]? = some (some (.ref a)) ∧ a ∈ own ∧ H a = some (.lst xs) ∧ RpA K (SF H0 own) H xs ds := by
  obtain ⟨a, h1, h2, xs, h3, h4⟩ := R.ow i _ e
  exact ⟨a, xs, h1, h2, h3, h4⟩
theorem own_dct {K : PySem.W.Frag} {ρ : Rho} {σ : Sg} {own : List Addr} {H : Hp} {i : Nat} {ds : List (List Key × D)} (R : Rel K S0 H0 ρ σ own H) (e : ρ[i]? = some (.ow (.dct ds))) : ∃ a xs, σ[i]? = some (some (.ref a)) ∧ a ∈ own ∧ H a = some (.dT xs) ∧ RpT K (SF H0 own) H xs ds := by
  obtain ⟨a, h1, h2, xs, h3, h4⟩ := R.ow i _ e
  exact ⟨a, xs, h1, h2, h3, h4⟩
/-- over a change of one's own at a -/
theorem keep_upd {K : PySem.W.Frag} {ρ : Rho} {σ : Sg} {own : List Addr} {H : Hp} {a : Addr} {o : HO} (R : Rel K S0 H0 ρ σ own H) (ha : a ∈ own) : Keep (SF H0 own) (SF H0 own) H (upd H a o) where
  l := fun b u s e => ⟨s, by rw [upd_ne (fun z => s.1 (by rw [z]; exact ha))]; exact e⟩
  t := fun b u e => by
    have h : b ≠ a := fun z => by
      have := (R.own0 a ha).2
      rw [← z, e] at this; exact this
    rw [upd_ne h]; exact e
  z := fun b o u e => by
    have h : b ≠ a := fun z => by
      have := (R.own0 a ha).2
      rw [← z, e] at this; exact this
    rw [upd_ne h]; exact e
/-- a method of a list that changes it: what it makes of the list and the arguments -/
def MutG (X : Cx) (r : V → List V → Hp → VK → Prop) (eff : List D → List D → M (List D)) : Prop :=
  ∀ (S : Addr → Prop) (H : Hp) (a : Addr) (xs vs : List V) (ds as ds' : List D) (Q : VK), H a = some (.lst xs) → RpA X.K S H xs ds → RpA X.K S H vs as → eff ds as = .ok ds' → (∀ v xs', RpA X.K S H xs' ds' → Q v (upd H a (.lst xs'))) → r (.ref a) vs H Q
def sBm (i : Nat) (eff : List D → List D → M (List D)) (fa : Rho → M (List D)) : Rho → Res := fun ρ => match ρ[i]? with
  | some (.ow (.lst ds)) => (match fa ρ with
    | .ok as => (match eff ds as with | .ok ds' => .nx (ρ.set i (.ow (.lst ds'))) | _ => .er)
    | .ex c => .ex c ρ
    | .er => .er)
  | _ => .er
theorem vs_bm {r : V → List V → Hp → VK → Prop} {eff : List D → List D → M (List D)} {name : Str} {idn : String} (i : Nat) {x : Str} {px : Pos} (slot : Slot "list" name idn) (hty : typeOf (.builtin idn) = pure (.type "method_descriptor")) (hm : MtR X idn r) (hg : MutG X r eff) (h : VA X W S0 H0 .F (e :: es) fa) (hN : X.N[i]? = some x := by rfl)
    (hv : Vis X.env.scope x := by first | exact Or.inl rfl | exact Or.inr (Or.inl rfl) | exact Or.inr (Or.inr rfl)) (hd : (x == ("__debug__" : Str)) = false := by decide) (hcd : (x == ("__classdict__" : Str)) = false := by decide)
    (hbase : attributeBase (.Name x px) name X.env (eval (.Name x px) X.env) = eval (.Name x px) X.env := by rfl)
    (hfew : ((backTo cpos (starEach (e :: es) X.env)).all (fun x => !x.1) && (backToKw cpos (keywordEach [] X.env)).all (fun x => x.1.isSome)
      && decide ((e :: es).length + ([] : List Keyword).length + (if ([] : List Keyword).isEmpty then 0 else 1) < 30)) = true := by rfl)
    (hline : (apos.endLine == cpos.line) = true := by rfl) (hs : starEach (e :: es) X.env = (false, eval e X.env) :: starEach es X.env := by rfl) (hplain : (backTo cpos (starEach es X.env)).any (·.1) = false := by rfl)
    (hsw : swapsWith (.Call (.Attribute (.Name x px) name apos) (e :: es) [] cpos) none pos.line X.env = pure false := by rfl) :
    VS X W S0 H0 rm (.Expr (.Call (.Attribute (.Name x px) name apos) (e :: es) [] cpos) pos) (sBm i eff fa) := by
  obtain ⟨te, p, q⟩ := h.p
  refine ⟨_, ps_expr (pe_bm PySem.F.plainAttrs_list slot hty hm (pe_var hN hv hd hcd) p hbase hfew hline hs hplain) hsw, fun ρ σ own H D R k => ?_⟩
  unfold sBm at k
  split at k
  · next ds es =>
    obtain ⟨a, xs, h1, h2, h3, h4⟩ := own_lst R es
    refine ⟨.ref a, h1, .inl ⟨rfl, xs, SqL.of h3⟩, q ρ σ own H _ R ?_⟩
    revert k
    cases fa ρ with
    | er => exact id
    | ex c => exact fun k cv d H' i s => k cv d σ own H' i (R.grow s) (.same s)
    | ok as =>
      intro k vs H' s r
      dsimp only at k
      split at k
      · next ds' ee =>
        have R' := R.grow s
        refine hg (SF H0 own) H' a xs vs ds as ds' _ (s a _ h3) (h4.keep (.same s)) (RpA.ofP r) ee fun v xs' r' => ?_
        obtain ⟨R2, F2⟩ := R'.chg (d' := .lst ds') (o := .lst xs') es h1 trivial ⟨_, upd_same, r'.keep (keep_upd R' h2)⟩
        exact k σ own _ R2 ((Fra.same s).trans F2)
      · exact k.elim
  · exact k.elim
theorem vs_bm0 {r : V → List V → Hp → VK → Prop} {eff : List D → List D → M (List D)} {name : Str} {idn : String} (i : Nat) {x : Str} {px : Pos} (slot : Slot "list" name idn) (hty : typeOf (.builtin idn) = pure (.type "method_descriptor")) (hm : MtR X idn r) (hg : MutG X r eff) (hN : X.N[i]? = some x := by rfl)
    (hv : Vis X.env.scope x := by first | exact Or.inl rfl | exact Or.inr (Or.inl rfl) | exact Or.inr (Or.inr rfl)) (hd : (x == ("__debug__" : Str)) = false := by decide) (hcd : (x == ("__classdict__" : Str)) = false := by decide)
    (hbase : attributeBase (.Name x px) name X.env (eval (.Name x px) X.env) = eval (.Name x px) X.env := by rfl)
    (hline : (apos.endLine == cpos.line) = true := by rfl)
    (hsw : swapsWith (.Call (.Attribute (.Name x px) name apos) [] [] cpos) none pos.line X.env = pure false := by rfl) :
    VS X W S0 H0 rm (.Expr (.Call (.Attribute (.Name x px) name apos) [] [] cpos) pos) (sBm i eff aNil) := by
  refine ⟨_, ps_expr (pe_bm0 PySem.F.plainAttrs_list slot hty hm (pe_var hN hv hd hcd) hbase hline) hsw, fun ρ σ own H D R k => ?_⟩
  unfold sBm at k
  split at k
  · next ds es =>
    obtain ⟨a, xs, h1, h2, h3, h4⟩ := own_lst R es
    refine ⟨.ref a, h1, .inl ⟨rfl, xs, SqL.of h3⟩, ?_⟩
    unfold aNil at k
    dsimp only at k
    split at k
    · next ds' ee =>
      refine hg (SF H0 own) H a xs [] ds [] ds' _ h3 h4 .nil ee fun v xs' r' => ?_
      obtain ⟨R2, F2⟩ := R.chg (d' := .lst ds') (o := .lst xs') es h1 trivial ⟨_, upd_same, r'.keep (keep_upd R h2)⟩
      exact k σ own _ R2 F2
    · exact k.elim
  · exact k.elim
def appE : List D → List D → M (List D) := fun ds as => match as with
  | [d] => if ds.length < sizeLine then .ok (ds ++ [d]) else .er
  | _ => .er
theorem mg_app : MutG X rAppend appE := by
  intro S H a xs vs ds as ds' Q h r r2 e k
  unfold appE at e
  split at e
  · split at e
    · next hl =>
      cases e
      cases r2 with
      | cons r3 r4 =>
        cases r4
        exact ⟨a, xs, _, rfl, rfl, h, by rw [r.length]; exact hl, k _ _ (r.append (.cons r3 .nil))⟩
    · cases e
  · cases e
def clrE : List D → List D → M (List D) := fun ds as => match as with | [] => .ok [] | _ => .er
def revE : List D → List D → M (List D) := fun ds as => .ok ds.reverse
theorem RpA.reverse {K : PySem.W.Frag} {S : Addr → Prop} {H : Hp} : ∀ {vs : List V} {ds : List D}, RpA K S H vs ds → RpA K S H vs.reverse ds.reverse
  | _, _, .nil => .nil
  | _, _, .cons r t => by
    rw [List.reverse_cons, List.reverse_cons]
    exact t.reverse.append (.cons r .nil)

/-- d[k] = v, d one's own dict with tuple keys -/
def putT (kvs : List (List Key × D)) (k : List Key) (v : D) : List (List Key × D) :=
  if (kvs.any fun kv => decide (kv.1 = k)) = true then kvs.map (fun kv => if kv.1 = k then (kv.1, v) else kv) else kvs ++ [(k, v)]
theorem RpT.any {K : PySem.W.Frag} {S : Addr → Prop} {H : Hp} (k : List Key) : ∀ {vs : List (List Key × V)} {ds : List (List Key × D)}, RpT K S H vs ds → (vs.any fun kv => decide (kv.1 = k)) = ds.any fun kv => decide (kv.1 = k)
  | _, _, .nil => rfl
  | _, _, .cons _ r => by simp only [List.any_cons]; rw [RpT.any k r]
theorem RpT.repl {K : PySem.W.Frag} {S : Addr → Prop} {H : Hp} {v : V} {d : D} (k : List Key) (rv : Rp K S H v d) : ∀ {vs : List (List Key × V)} {ds : List (List Key × D)}, RpT K S H vs ds → RpT K S H (vs.map fun kv => if kv.1 = k then (kv.1, v) else kv) (ds.map fun kv => if kv.1 = k then (kv.1, d) else kv)
  | _, _, .nil => .nil
  | (k1, v1) :: _, (_, d1) :: _, .cons h r => by
    simp only [List.map_cons]
    by_cases e : k1 = k
    · rw [if_pos e, if_pos e]
      exact .cons rv (RpT.repl k rv r)
    · rw [if_neg e, if_neg e]
      exact .cons h (RpT.repl k rv r)
theorem RpT.snoc {K : PySem.W.Frag} {S : Addr → Prop} {H : Hp} {v : V} {d : D} (k : List Key) (rv : Rp K S H v d) : ∀ {vs : List (List Key × V)} {ds : List (List Key × D)}, RpT K S H vs ds → RpT K S H (vs ++ [(k, v)]) (ds ++ [(k, d)])
  | _, _, .nil => .cons rv .nil
  | _, _, .cons h r => .cons h (RpT.snoc k rv r)
theorem RpT.put {K : PySem.W.Frag} {S : Addr → Prop} {H : Hp} {v : V} {d : D} {vs : List (List Key × V)} {ds : List (List Key × D)} (k : List Key) (rv : Rp K S H v d) (r : RpT K S H vs ds) : RpT K S H (putK vs k v) (putT ds k d) := by
  unfold putK putT
  rw [r.any k]
  split
  · exact r.repl k rv
  · exact r.snoc k rv
theorem RpT.length {K : PySem.W.Frag} {S : Addr → Prop} {H : Hp} : ∀ {vs : List (List Key × V)} {ds : List (List Key × D)}, RpT K S H vs ds → vs.length = ds.length
  | _, _, .nil => rfl
  | _, _, .cons _ r => congrArg (· + 1) (RpT.length r)
def sPut (i : Nat) (fk fv : Rho → M D) : Rho → Res := fun ρ => match ρ[i]? with
  | some (.ow (.dct kvs)) => ofM ρ (fun v => ofM ρ (fun k => match k with
    | .tup ks => (match keyOf ks with
      | some ks => if kvs.length < sizeLine then .nx (ρ.set i (.ow (.dct (putT kvs ks v)))) else .er
      | none => .er)
    | _ => .er) (fk ρ)) (fv ρ)
  | _ => .er
theorem vs_put (i : Nat) {x : Str} {px : Pos} (hu : X.A.units + 1 < cLine) (hk : VX X W S0 H0 mi ei fi) (hv : VX X W S0 H0 .F e fe) (hN : X.N[i]? = some x := by rfl)
    (hvis : Vis X.env.scope x := by first | exact Or.inl rfl | exact Or.inr (Or.inl rfl) | exact Or.inr (Or.inr rfl)) (hd : (x == ("__debug__" : Str)) = false := by decide) (hcd : (x == ("__classdict__" : Str)) = false := by decide)
    (hs : swapsWith e (some (.Subscript (.Name x px) ei pos')) pos.line X.env = pure false := by rfl) : VS X W S0 H0 rm (.Assign [.Subscript (.Name x px) ei pos'] e pos) (sPut i fi fe) := by
  obtain ⟨tv, pv, qv⟩ := hv.p
  obtain ⟨tk, pk, qk⟩ := hk.p
  refine ⟨_, ps_dput hu (pe_var hN hvis hd hcd) pk pv hs, fun ρ σ own H D R k => ?_⟩
  unfold sPut at k
  split at k
  · next kvs es =>
    obtain ⟨a, xs, h1, h2, h3, h4⟩ := own_dct R es
    refine qv ρ σ own H _ R ?_
    revert k
    cases fe ρ with
    | er => exact id
    | ex c => exact fun k cv d H' i s => k cv d σ own H' i (R.grow s) (.same s)
    | ok d =>
      intro k v H1 s1 r1
      refine ⟨.ref a, h1, qk ρ σ own H1 _ (R.grow s1) ?_⟩
      rw [ofM_ok] at k
      revert k
      cases fi ρ with
      | er => exact id
      | ex c => exact fun k cv d H' i s => k cv d σ own H' i ((R.grow s1).grow s) (.same (s1.trans s))
      | ok kd =>
        intro k y H2 s2 r2
        cases kd with
        | tup ks0 =>
          rw [ofM_ok] at k
          dsimp only at k
          split at k
          · next ks ek =>
            split at k
            · next hl =>
              obtain ⟨b, ys, rfl, h5, h6⟩ := r2.isTup
              have s12 := s1.trans s2
              have R2 := R.grow s12
              have h4' : RpT X.K (SF H0 own) H2 xs kvs := h4.keep (.same s12)
              have r1' : Rp X.K (SF H0 own) H2 v d := Rp.keep (.same s2) r1
              refine ⟨a, _, rfl, .inr ⟨xs, ks, b, s12 a _ h3, rfl, by rw [← h6.keys ek]; exact h5, by rw [h4'.length]; exact hl, rfl⟩, ?_⟩
              obtain ⟨R3, F3⟩ := R2.chg (d' := .dct (putT kvs ks d)) (o := .dT (putK xs ks v)) es h1 trivial ⟨_, upd_same, (h4'.put ks r1').keep (keep_upd R2 h2)⟩
              exact k σ own _ R3 ((Fra.same s12).trans F3)
            · exact k.elim
          · exact k.elim
        | _ => exact k.elim
  · exact k.elim
/-- xs[j] = v, xs one's own list -/
def sSetI (i : Nat) (fj fv : Rho → M D) : Rho → Res := fun ρ => match ρ[i]? with
  | some (.ow (.lst ds)) => ofM ρ (fun v => ofM ρ (fun j => match j with
    | .int j => (match ixN ds.length j with
      | some n => .nx (ρ.set i (.ow (.lst (ds.set n v))))
      | none => .er)
    | _ => .er) (fj ρ)) (fv ρ)
  | _ => .er
theorem vs_setI (i : Nat) {x : Str} {px : Pos} (hk : VX X W S0 H0 mi ei fi) (hv : VX X W S0 H0 .F e fe) (hN : X.N[i]? = some x := by rfl)
    (hvis : Vis X.env.scope x := by first | exact Or.inl rfl | exact Or.inr (Or.inl rfl) | exact Or.inr (Or.inr rfl)) (hd : (x == ("__debug__" : Str)) = false := by decide) (hcd : (x == ("__classdict__" : Str)) = false := by decide)
    (ha : ∀ v, assign (.Subscript (.Name x px) ei pos') X.env v = (do
      let ov ← holding [v] (eval (.Name x px) X.env)
      let iv ← holding [v, ov] (eval ei X.env)
      standAt pos'
      holding [v, ov, iv] (setItem ov iv v)
      release [v, ov, iv] []) := by intro _; rfl)
    (hs : swapsWithSole [.Subscript (.Name x px) ei pos'] e pos.line X.env = pure false := by rfl) (hw : swappedStores [.Subscript (.Name x px) ei pos'] e X.env = pure none := by rfl)
    (h1 : (assignEach [.Subscript (.Name x px) ei pos'] X.env).map (·.2) = [assign (.Subscript (.Name x px) ei pos') X.env] := by rfl) : VS X W S0 H0 rm (.Assign [.Subscript (.Name x px) ei pos'] e pos) (sSetI i fi fe) := by
  obtain ⟨tv, pv, qv⟩ := hv.p
  obtain ⟨tk, pk, qk⟩ := hk.p
  refine ⟨_, ps_asg pv (pg_sub (pe_var hN hvis hd hcd) pk set_list ha) hs hw h1, fun ρ σ own H D R k => ?_⟩
  unfold sSetI at k
  split at k
  · next ds es =>
    obtain ⟨a, xs, h1, h2, h3, h4⟩ := own_lst R es
    refine qv ρ σ own H _ R ?_
    revert k
    cases fe ρ with
    | er => exact id
    | ex c => exact fun k cv d H' i s => k cv d σ own H' i (R.grow s) (.same s)
    | ok d =>
      intro k v H1 s1 r1
      refine ⟨.ref a, h1, qk ρ σ own H1 _ (R.grow s1) ?_⟩
      rw [ofM_ok] at k
      revert k
      cases fi ρ with
      | er => exact id
      | ex c => exact fun k cv d H' i s => k cv d σ own H' i ((R.grow s1).grow s) (.same (s1.trans s))
      | ok kd =>
        intro k y H2 s2 r2
        cases kd with
        | int j =>
          rw [ofM_ok] at k
          dsimp only at k
          split at k
          · next n en =>
            have s12 := s1.trans s2
            have R2 := R.grow s12
            have h4' : RpA X.K (SF H0 own) H2 xs ds := h4.keep (.same s12)
            have r1' : Rp X.K (SF H0 own) H2 v d := Rp.keep (.same s2) r1
            refine ⟨a, xs, j, n, rfl, r2.isInt, s12 a _ h3, by rw [h4'.length]; exact en, ?_⟩
            obtain ⟨R3, F3⟩ := R2.chg (d' := .lst (ds.set n d)) (o := .lst (xs.set n v)) es h1 trivial ⟨_, upd_same, (RpA.set r1' n h4').keep (keep_upd R2 h2)⟩
            exact k σ own _ R3 ((Fra.same s12).trans F3)
          · exact k.elim
        | _ => exact k.elim
  · exact k.elim
/-- {} -/
theorem vx_dnewT : VX X W S0 H0 .N (.Dict [] [] pos) (eC (.dct [])) := ⟨_, pe_dnewT, fun ρ σ own H Q R k p hp => k _ _ (same_upd hp) (Rp.dct ⟨hp, sf_new R hp⟩ upd_same .nil)⟩
theorem vx_dnewK : VX X W S0 H0 .N (.Dict [] [] pos) (eC (.dk [])) := ⟨_, pe_dnewK, fun ρ σ own H Q R k p hp => k _ _ (same_upd hp) (Rp.dk ⟨hp, sf_new R hp⟩ upd_same .nil)⟩
end

/-! ### comprehensions -/
section
variable {X : Cx} {W : WX} {S0 : Addr → Prop} {H0 : Hp} {m : Md} {pos : Pos} {elt tg iter : Expr} {ifs : List Expr} {scope : Scope} {own : List (Str × Nat)} {fi : Rho → M (List D)} {ft : D → Rho → Option Rho} {fc : Rho → M Bool} {fe : Rho → M D}
structure VTs (X : Cx) (W : WX) (S0 : Addr → Prop) (H0 : Hp) (es : List Expr) (f : Rho → M Bool) : Prop where
  p : ∃ te, PTs X es te ∧ ∀ ρ σ own H Q, Rel X.K S0 H0 ρ σ own H → PXT X W H σ Q (f ρ) → te σ H Q
def cYes : Rho → M Bool := fun _ => .ok true
theorem vts_nil : VTs X W S0 H0 [] cYes := ⟨_, pts_nil, fun ρ σ own H Q R k => k H (Same.refl H)⟩
theorem vts_one {c : Expr} (h : VT X W S0 H0 c fc) : VTs X W S0 H0 [c] fc := by
  obtain ⟨te, p, q⟩ := h.p
  exact ⟨_, pts_one p, q⟩
def compL (tg : D → Rho → Option Rho) (c : Rho → M Bool) (f : Rho → M D) (ρ : Rho) : List D → M (List D)
  | [] => .ok []
  | d :: ds => match tg d ρ with
    | none => .er
    | some ρ1 => match c ρ1 with
      | .ok true => (match f ρ1 with
        | .ok y => M.bind (compL tg c f ρ ds) fun ys => .ok (y :: ys)
        | _ => .er)
      | .ok false => compL tg c f ρ ds
      | _ => .er
def eComp (ks : List Nat) (fi : Rho → M (List D)) (tg : D → Rho → Option Rho) (c : Rho → M Bool) (f : Rho → M D) : Rho → M D := fun ρ => M.bind (fi ρ) fun ds =>
  if ds.length ≤ sizeLine then M.bind (compL tg c f (wipeR ks ρ) ds) fun ys => .ok (.lst ys) else .er
theorem compL_len {ρ : Rho} : ∀ {ds ys : List D}, compL ft fc fe ρ ds = .ok ys → ys.length ≤ ds.length
  | [], ys, h => by cases h; exact Nat.le_refl _
  | d :: ds, ys, h => by
    unfold compL at h
    split at h
    · cases h
    · split at h
      · split at h
        · cases e : compL ft fc fe ρ ds with
          | ok zs => rw [e] at h; cases h; exact Nat.succ_le_succ (compL_len e)
          | ex c => rw [e] at h; cases h
          | er => rw [e] at h; cases h
        · cases h
      · exact Nat.le_succ_of_le (compL_len h)
      · cases h
theorem Rel.blk {K : PySem.W.Frag} {ρ : Rho} {σ : Sg} {ow : List Addr} {H : Hp} (R : Rel K S0 H0 ρ σ ow H) : ∀ ks : List Nat, Rel K S0 H0 (wipeR ks ρ) (L2.wipe σ ks) ow H
  | [] => R
  | k :: ks => by
    have R' := Rel.blk R ks
    show Rel K S0 H0 ((wipeR ks ρ).set k .no) ((L2.wipe σ ks).set k none) ow H
    have g : ∀ (i : Nat) (s : Sl), ((wipeR ks ρ).set k .no)[i]? = some s → s = .no ∨ (i ≠ k ∧ (wipeR ks ρ)[i]? = some s) := fun i s h => by
      rcases get_set h with ⟨_, z, _⟩ | ⟨z, h⟩
      · exact .inl z
      · exact .inr ⟨z, h⟩
    refine ⟨fun i d e => ?_, fun i d e => ?_, fun i d e => ?_, fun i j d e a b q => ?_, R'.own0, R'.same, by simp [R'.len]⟩
    · rcases g i _ e with z | ⟨z, e⟩
      · cases z
      · rw [List.getElem?_set_ne (Ne.symm z)]; exact R'.sh i d e
    · rcases g i _ e with z | ⟨z, e⟩
      · cases z
      · rw [List.getElem?_set_ne (Ne.symm z)]; exact R'.fr i d e
    · rcases g i _ e with z | ⟨z, e⟩
      · cases z
      · rw [List.getElem?_set_ne (Ne.symm z)]; exact R'.ow i d e
    · rcases g i _ a with z | ⟨z, a⟩
      · cases z
      · rcases g j _ b with y | ⟨y, b⟩
        · cases y
        · rw [List.getElem?_set_ne (Ne.symm z), List.getElem?_set_ne (Ne.symm y)] at q
          exact R'.dis i j d e a b q
theorem wipe_get : ∀ (ks : List Nat) (σ : Sg) (j : Nat), (L2.wipe σ ks)[j]? = if j ∈ ks ∧ j < σ.length then some none else σ[j]?
  | [], σ, j => by simp [L2.wipe]
  | k :: ks, σ, j => by
    show ((L2.wipe σ ks).set k none)[j]? = _
    by_cases e : k = j
    · subst e
      by_cases hl : k < σ.length
      · rw [List.getElem?_set_self (by rw [wipe_length]; exact hl), if_pos ⟨List.mem_cons_self, hl⟩]
      · rw [List.getElem?_eq_none (by rw [List.length_set, wipe_length]; omega), if_neg (fun z => hl z.2), List.getElem?_eq_none (by omega)]
    · rw [List.getElem?_set_ne e, wipe_get ks σ j]
      have : (j ∈ k :: ks) ↔ j ∈ ks := by simp [Ne.symm e]
      simp only [this]
theorem wipe_only {k1 ks : List Nat} {σ σ2 : Sg} (o : OnlyS k1 (L2.wipe σ ks) σ2) (h : ∀ k ∈ k1, k ∈ ks) : L2.wipe σ2 ks = L2.wipe σ ks := by
  apply List.ext_getElem?
  intro j
  have hl : σ2.length = σ.length := by rw [o.1, wipe_length]
  rw [wipe_get, wipe_get, hl]
  by_cases hj : j ∈ ks ∧ j < σ.length
  · rw [if_pos hj, if_pos hj]
  · rw [if_neg hj, if_neg hj]
    by_cases hm : j ∈ ks
    · have : ¬ j < σ.length := fun z => hj ⟨hm, z⟩
      rw [List.getElem?_eq_none (by omega), List.getElem?_eq_none (by omega)]
    · rw [o.2 j (fun z => hm (h j z)), wipe_get, if_neg hj]
end
/-! ### one reading for all blocks -/
abbrev Bi := Shared × Hp × Addr × List (Str × Addr) × List Addr
abbrev blkOf (X : Cx) (scope : Scope) (i : Bi) : Cx := X.blk i.1 i.2.1 scope (compEnvC scope i.2.2.2.1 i.2.2.1 X.env) i.2.2.2.2
abbrev W0 : WX := fun _ _ _ _ => False
section
variable {X : Cx} {W : WX} {S0 : Addr → Prop} {H0 : Hp} {m : Md} {pos : Pos} {elt tg iter : Expr} {ifs : List Expr} {scope : Scope} {own : List (Str × Nat)} {fi : Rho → M (List D)} {ft : D → Rho → Option Rho} {fc : Rho → M Bool} {fe : Rho → M D} {k1 : List Nat}
theorem vx_all (h : ∀ i : Bi, VX (blkOf X scope i) W0 S0 H0 m elt fe) : ∃ te, (∀ i : Bi, PE (blkOf X scope i) elt te) ∧ ∀ ρ σ own H Q, Rel X.K S0 H0 ρ σ own H → PX X W0 S0 H0 own m H σ Q (fe ρ) → te σ H Q := by
  refine ⟨fun σ H Q => ∀ i : Bi, (Classical.choose (h i).p) σ H Q, fun i => ⟨fun pins s σ H Q I q => (Classical.choose_spec (h i).p).1.run pins s σ H Q I (q i)⟩, fun ρ σ own H Q R k i => (Classical.choose_spec (h i).p).2 ρ σ own H Q R ?_⟩
  revert k
  cases fe ρ with
  | er => exact id
  | ex c => exact id
  | ok d => exact id
theorem vts_all (h : ∀ i : Bi, VTs (blkOf X scope i) W0 S0 H0 ifs fc) : ∃ te, (∀ i : Bi, PTs (blkOf X scope i) ifs te) ∧ ∀ ρ σ own H Q, Rel X.K S0 H0 ρ σ own H → PXT X W0 H σ Q (fc ρ) → te σ H Q := by
  refine ⟨fun σ H Q => ∀ i : Bi, (Classical.choose (h i).p) σ H Q, fun i => ⟨fun pins s σ H Q I q => (Classical.choose_spec (h i).p).1.run pins s σ H Q I (q i)⟩, fun ρ σ own H Q R k i => (Classical.choose_spec (h i).p).2 ρ σ own H Q R ?_⟩
  revert k
  cases fc ρ with
  | er => exact id
  | ex c => exact id
  | ok d => exact id
theorem vg_all (h : ∀ i : Bi, VG (blkOf X scope i) S0 H0 k1 tg ft) : ∃ g, (∀ i : Bi, PG (blkOf X scope i) tg g) ∧ ∀ v d ρ ρ' σ own H Q, Rel X.K S0 H0 ρ σ own H → Rp X.K (SA S0 H0 own) H v d → ft d ρ = some ρ' → (∀ σ', Rel X.K S0 H0 ρ' σ' own H → OnlyS k1 σ σ' → Q σ' H) → g v σ H Q :=
  ⟨fun v σ H Q => ∀ i : Bi, (Classical.choose (h i).p) v σ H Q, fun i => ⟨fun pins s σ H v u Q I r q => (Classical.choose_spec (h i).p).1.run pins s σ H v u Q I r (q i)⟩, fun v d ρ ρ' σ own H Q R r e k i => (Classical.choose_spec (h i).p).2 v d ρ ρ' σ own H Q R r e k⟩
/-- a further address of one's own, in no slot -/
theorem Rel.plus {K : PySem.W.Frag} {ρ : Rho} {σ : Sg} {ow : List Addr} {Hb H : Hp} {a : Addr} (R : Rel K S0 H0 ρ σ ow Hb) (hs : Same Hb H) (hb : Hb a = none) (hm : Mt (H a)) : Rel K S0 H0 ρ σ (a :: ow) H := by
  have f : Fra ow Hb (a :: ow) H := ⟨fun b o e _ => hs b o e, fun b hm => (List.mem_cons.mp hm).elim (fun z => .inr (by rw [z]; exact hb)) .inl⟩
  refine ⟨fun j e q => ?_, fun j e q => ?_, fun j e q => ?_, R.dis, fun b hm' => ?_, R.same.trans hs, R.len⟩
  · obtain ⟨v, h1, h2⟩ := R.sh j e q
    exact ⟨v, h1, h2.keep (f.keepA R.own0)⟩
  · obtain ⟨v, h1, h2⟩ := R.fr j e q
    exact ⟨v, h1, h2.keep (f.keepF R.own0)⟩
  · obtain ⟨b, h1, h2, h3⟩ := R.ow j e q
    exact ⟨b, h1, List.mem_cons_of_mem _ h2, h3.keep (f.keepF R.own0) fun o q => hs _ o q⟩
  · rcases List.mem_cons.mp hm' with rfl | hm'
    · exact ⟨R.same.free hb, hm⟩
    · refine ⟨(R.own0 b hm').1, ?_⟩
      obtain ⟨u, e⟩ := mt_some (R.own0 b hm').2
      have m := (R.own0 b hm').2
      rw [hs b u e, ← e]
      exact m
def SM (S0 : Addr → Prop) (H0 : Hp) (Hb : Hp) (own : List Addr) : Md → Addr → Prop
  | .O => fun _ => False
  | .E => SA S0 H0 own
  | .F => SF H0 own
  | .N => SN Hb H0 own
theorem RM.sm {K : PySem.W.Frag} {ow : List Addr} {Hb H : Hp} {v : V} {d : D} (hm : m ≠ .O) : RM K S0 H0 ow m Hb H v d ↔ Rp K (SM S0 H0 Hb ow m) H v d := by
  cases m with
  | O => exact absurd rfl hm
  | _ => exact Iff.rfl
theorem SM.less {Hb Hc : Hp} {ow : List Addr} {a b : Addr} (hm : m ≠ .O) (h : SM S0 H0 Hb (b :: ow) m a) (hs : Same Hc Hb) : SM S0 H0 Hc ow m a := by
  cases m with
  | O => exact absurd rfl hm
  | E => exact ⟨fun z => h.1 (List.mem_cons_of_mem _ z), h.2⟩
  | F => exact ⟨fun z => h.1 (List.mem_cons_of_mem _ z), h.2⟩
  | N => exact ⟨hs.free h.1, fun z => h.2.1 (List.mem_cons_of_mem _ z), h.2.2⟩
theorem SM.ne {Hb : Hp} {ow : List Addr} {a b : Addr} (hm : m ≠ .O) (h : SM S0 H0 Hb (b :: ow) m a) : a ≠ b := fun z => by
  have hb : a ∈ b :: ow := by rw [z]; exact List.mem_cons_self
  cases m with
  | O => exact hm rfl
  | E => exact h.1 hb
  | F => exact h.1 hb
  | N => exact h.2.1 hb
theorem lc_run {te : TE} {tt : TT} {g : TG} {wi : TI} {ks : List Nat} (hm : m ≠ .O) (hk : ∀ k ∈ k1, k ∈ ks)
    (qi : ∀ ρ σ own H R, Rel X.K S0 H0 ρ σ own H → PXI X W S0 H0 own H σ R (fi ρ) → wi σ H R)
    (qg : ∀ v d ρ ρ' σ own H Q, Rel X.K S0 H0 ρ σ own H → Rp X.K (SA S0 H0 own) H v d → ft d ρ = some ρ' → (∀ σ', Rel X.K S0 H0 ρ' σ' own H → OnlyS k1 σ σ' → Q σ' H) → g v σ H Q)
    (qt : ∀ ρ σ own H Q, Rel X.K S0 H0 ρ σ own H → PXT X W0 H σ Q (fc ρ) → tt σ H Q)
    (qe : ∀ ρ σ own H Q, Rel X.K S0 H0 ρ σ own H → PX X W0 S0 H0 own m H σ Q (fe ρ) → te σ H Q) :
    ∀ ρ σ own H Q, Rel X.K S0 H0 ρ σ own H → PX X W S0 H0 own m H σ Q (eComp ks fi ft fc fe ρ) → tLc wi g tt te ks σ H Q := by
  intro ρ σ ow H Q R k
  refine qi ρ σ ow H _ R ?_
  unfold eComp at k
  revert k
  cases fi ρ with
  | er => exact id
  | ex c => exact id
  | ok ds =>
    intro k J H1 s1 wk L hL
    rw [bind_ok] at k
    split at k
    · next hlen =>
      cases ec : compL ft fc fe (wipeR ks ρ) ds with
      | er => rw [ec] at k; exact k.elim
      | ex c =>
        exact absurd ec (fun z => by
          have nx : ∀ (ds : List D) (c : Xc), compL ft fc fe (wipeR ks ρ) ds ≠ .ex c := by
            intro ds
            induction ds with
            | nil => intro c h; cases h
            | cons d ds ih =>
              intro c h
              unfold compL at h
              split at h
              · cases h
              · split at h
                · split at h
                  · cases e : compL ft fc fe (wipeR ks ρ) ds with
                    | ok zs => rw [e] at h; cases h
                    | ex c' => exact ih c' e
                    | er => rw [e] at h; cases h
                  · cases h
                · exact ih c h
                · cases h
          exact nx ds c z)
      | ok ys =>
        rw [ec, bind_ok] at k
        have R1 := R.grow s1
        have B1 : Rel X.K S0 H0 (wipeR ks ρ) (L2.wipe σ ks) ow H1 := R1.blk ks
        have nL : L ∉ ow := own_new R1 hL
        refine ⟨fun i m' H' => ∃ (vs : List V) (acc rest : List D), H' L = some (.lst vs) ∧ (∀ a o, H1 a = some o → H' a = some o) ∧ RpA X.K (SM S0 H0 H1 (L :: ow) m) H' vs acc ∧ compL ft fc fe (wipeR ks ρ) (ds.drop i) = .ok rest ∧ ys = acc ++ rest ∧ acc.length ≤ i ∧ m' = ds.length - i ∧ i ≤ ds.length,
          ⟨ds.length, [], [], ys, upd_same, same_upd hL, .nil, by simpa using ec, rfl, Nat.le_refl _, by simp, by simp⟩, ?_⟩
        rintro i m' H' ⟨vs, acc, rest, hv, hs, ra, er, ey, hacc, rfl, hi⟩
        have RL : Rel X.K S0 H0 (wipeR ks ρ) (L2.wipe σ ks) (L :: ow) H' := B1.plus hs hL (by rw [hv]; trivial)
        have FL : Fra ow H1 (L :: ow) H' := ⟨fun a o e _ => hs a o e, fun a ha => (List.mem_cons.mp ha).elim (fun z => .inr (by rw [z]; exact hL)) .inl⟩
        obtain ⟨w1, w2, w3⟩ := wk (L :: ow) H' FL RL.same RL.own0 i
        by_cases hlt : i < ds.length
        · refine .inr ⟨w1 hlt, fun H2 => ∃ (vs : List V) (acc rest : List D), H2 L = some (.lst vs) ∧ (∀ a o, H1 a = some o → H2 a = some o) ∧ RpA X.K (SM S0 H0 H1 (L :: ow) m) H2 vs acc ∧ compL ft fc fe (wipeR ks ρ) (ds.drop (i + 1)) = .ok rest ∧ ys = acc ++ rest ∧ acc.length ≤ i + 1,
            fun H2 ⟨vs, acc, rest, a1, a2, a3, a4, a5, a6⟩ => ⟨ds.length - (i + 1), by omega, vs, acc, rest, a1, a2, a3, a4, a5, a6, rfl, hlt⟩, fun x H2 hy => ?_⟩
          obtain ⟨s2, d, hd, rd⟩ := w3 x H2 hlt hy
          have ed : ds.drop i = d :: ds.drop (i + 1) := by
            rw [List.drop_eq_getElem_cons hlt]
            rw [List.getElem?_eq_getElem hlt] at hd
            rw [Option.some.inj hd]
          rw [ed] at er
          unfold compL at er
          cases et : ft d (wipeR ks ρ) with
          | none => rw [et] at er; cases er
          | some ρ1 =>
            rw [et] at er
            dsimp only at er
            refine qg x d _ ρ1 _ (L :: ow) H2 _ (RL.grow s2) rd et fun σ3 R3 o3 => ⟨wipe_only o3 hk, qt ρ1 σ3 (L :: ow) H2 _ R3 ?_⟩
            cases ecc : fc ρ1 with
            | er => rw [ecc] at er; cases er
            | ex c => rw [ecc] at er; cases er
            | ok b =>
              rw [ecc] at er
              intro H3 s3
              have s23 := s2.trans s3
              have ra3 : RpA X.K (SM S0 H0 H1 (L :: ow) m) H3 vs acc := ra.keep (.same s23)
              cases b with
              | false =>
                rw [if_neg Bool.false_ne_true]
                exact ⟨vs, acc, rest, s23 L _ hv, fun a o e => s23 a o (hs a o e), ra3, er, ey, by omega⟩
              | true =>
                rw [if_pos rfl]
                refine qe ρ1 σ3 (L :: ow) H3 _ (R3.grow s3) ?_
                cases eff : fe ρ1 with
                | er => rw [eff] at er; cases er
                | ex c => rw [eff] at er; cases er
                | ok y =>
                  rw [eff] at er
                  intro vy H4 s4 r4
                  have s24 := s23.trans s4
                  have h4 := s24 L _ hv
                  cases ecl : compL ft fc fe (wipeR ks ρ) (ds.drop (i + 1)) with
                  | er => rw [ecl] at er; cases er
                  | ex c => rw [ecl] at er; cases er
                  | ok zs =>
                    rw [ecl] at er
                    have er' : M.ok (y :: zs) = M.ok rest := er
                    have er2 : y :: zs = rest := M.ok.inj er'
                    have hv' : vs.length = acc.length := ra.length
                    have hsz : acc.length < ds.length := by omega
                    refine ⟨vs, h4, by omega, vs ++ [vy], acc ++ [y], zs, upd_same, fun a o e => ?_, ?_, (by first | exact ecl | rfl), by rw [ey, ← er2]; simp, by simp; omega⟩
                    · have na : a ≠ L := fun z => by rw [z, hL] at e; cases e
                      rw [upd_ne na]
                      exact s24 a o (hs a o e)
                    · have kp : Keep (SM S0 H0 H1 (L :: ow) m) (SM S0 H0 H1 (L :: ow) m) H4 (upd H4 L (.lst (vs ++ [vy]))) :=
                        ⟨fun a o s e => ⟨s, by rw [upd_ne (SM.ne hm s)]; exact e⟩, fun a u e => by rw [upd_ne (fun z => by rw [z, h4] at e; cases e)]; exact e, fun a o u e => by rw [upd_ne (fun z => by rw [z, h4] at e; cases e)]; exact e⟩
                      have r5 : Rp X.K (SM S0 H0 H1 (L :: ow) m) H4 vy y := Rp.keep (.wide fun a s => by
                        cases m with
                        | O => exact absurd rfl hm
                        | E => exact s
                        | F => exact s
                        | N => exact ⟨Same.free (fun a o e => s23 a o (hs a o e)) s.1, s.2⟩) ((RM.sm hm).mp r4)
                      exact ((ra3.keep (.same s4)).append (.cons r5 .nil)).keep kp
        · refine .inl ⟨w2 (by omega), ?_⟩
          rw [List.drop_of_length_le (by omega)] at er
          have er2 : ([] : List D) = rest := M.ok.inj er
          have ey' : ys = acc := by rw [ey, ← er2, List.append_nil]
          refine k (.ref L) H' (s1.trans hs) ?_
          rw [ey']
          refine (RM.sm hm).mpr ?_
          refine .lst ?_ hv (ra.keep (.wide fun a s => SM.less hm s s1))
          have h0 := R1.same.free hL
          cases m with
          | O => exact absurd rfl hm
          | E => exact ⟨nL, .inr h0⟩
          | F => exact ⟨nL, h0⟩
          | N => exact ⟨s1.free hL, nL, h0⟩
    · exact k.elim
theorem vx_lc (hm : m ≠ .O) (hc : X.calm = true) (hN : X.N.Nodup) (hi : VI X W S0 H0 tg iter fi) (ok : BlkOk X.N X.env.scope scope own) (hg : ∀ i : Bi, VG (blkOf X scope i) S0 H0 k1 tg ft) (ht : ∀ i : Bi, VTs (blkOf X scope i) W0 S0 H0 ifs fc)
    (he : ∀ i : Bi, VX (blkOf X scope i) W0 S0 H0 m elt fe) (hk : ∀ k ∈ k1, k ∈ own.map (·.2) := by decide) : VX X W S0 H0 m (.ListComp elt [⟨tg, iter, ifs, 0⟩] scope pos) (eComp (own.map (·.2)) fi ft fc fe) := by
  obtain ⟨wi, pi, qi⟩ := hi.p
  obtain ⟨g, pg, qg⟩ := vg_all hg
  obtain ⟨tt, pt, qt⟩ := vts_all ht
  obtain ⟨te, pe, qe⟩ := vx_all he
  exact ⟨_, pe_lc hc hN pi ok (fun s H C cl fp => pg (s, H, C, cl, fp)) (fun s H C cl fp => pt (s, H, C, cl, fp)) (fun s H C cl fp => pe (s, H, C, cl, fp)) hi.s, lc_run hm hk qi qg qt qe⟩
section
variable {rm : Md} {i : Nat} {y : Str} {py spos : Pos}
/-- y = [..] on one line -/
theorem lcs (hm : m ≠ .O) (hc : X.calm = true) (hN : X.N.Nodup) (hy : X.N[i]? = some y) (hyl : X.env.scope.names.lookup y = some .local) (hsw : swapsWith (.ListComp elt [⟨tg, iter, ifs, 0⟩] scope pos) (some (.Name y py)) spos.line X.env = pure true)
    (hi : VI X W S0 H0 tg iter fi) (ok : BlkOk X.N X.env.scope scope own) (hg : ∀ i : Bi, VG (blkOf X scope i) S0 H0 k1 tg ft) (ht : ∀ i : Bi, VTs (blkOf X scope i) W0 S0 H0 ifs fc)
    (he : ∀ i : Bi, VX (blkOf X scope i) W0 S0 H0 m elt fe) (hk : ∀ k ∈ k1, k ∈ own.map (·.2)) : ∃ te : TE, PS X (.Assign [.Name y py] (.ListComp elt [⟨tg, iter, ifs, 0⟩] scope pos) spos) (tAsg te (gName i)) ∧
      ∀ ρ σ ow H Q, Rel X.K S0 H0 ρ σ ow H → PX X W S0 H0 ow m H σ Q (eComp (own.map (·.2)) fi ft fc fe ρ) → te σ H Q := by
  obtain ⟨wi, pi, qi⟩ := hi.p
  obtain ⟨g, pg, qg⟩ := vg_all hg
  obtain ⟨tt, pt, qt⟩ := vts_all ht
  obtain ⟨te, pe, qe⟩ := vx_all he
  exact ⟨_, ps_setLc hc hN hy hyl hsw pi ok (fun s H C cl fp => pg (s, H, C, cl, fp)) (fun s H C cl fp => pt (s, H, C, cl, fp)) (fun s H C cl fp => pe (s, H, C, cl, fp)) hi.s, lc_run hm hk qi qg qt qe⟩
theorem sh_run {te : TE} {f : Rho → M D} (q : ∀ ρ σ ow H Q, Rel X.K S0 H0 ρ σ ow H → PX X W S0 H0 ow .E H σ Q (f ρ) → te σ H Q) : ∀ ρ σ own H D, Rel X.K S0 H0 ρ σ own H → PSt X W S0 H0 rm own H D (sSh i f ρ) → tAsg te (gName i) D σ H := by
  intro ρ σ own H D R k
  refine q ρ σ own H _ R ?_
  unfold sSh at k
  revert k
  cases f ρ with
  | er => exact id
  | ex c => exact fun k cv d H' i s => k cv d σ own H' i (R.grow s) (.same s)
  | ok x => exact fun k v H' s r => k _ own H' ((R.grow s).setSh r) (.same s)
theorem fr_run {te : TE} {f : Rho → M D} (q : ∀ ρ σ ow H Q, Rel X.K S0 H0 ρ σ ow H → PX X W S0 H0 ow .F H σ Q (f ρ) → te σ H Q) : ∀ ρ σ own H D, Rel X.K S0 H0 ρ σ own H → PSt X W S0 H0 rm own H D (sFr i f ρ) → tAsg te (gName i) D σ H := by
  intro ρ σ own H D R k
  refine q ρ σ own H _ R ?_
  unfold sFr at k
  revert k
  cases f ρ with
  | er => exact id
  | ex c => exact fun k cv d H' i s => k cv d σ own H' i (R.grow s) (.same s)
  | ok x => exact fun k v H' s r => k _ own H' ((R.grow s).setFr r) (.same s)
theorem ow_run {te : TE} {f : Rho → M D} (q : ∀ ρ σ ow H Q, Rel X.K S0 H0 ρ σ ow H → PX X W S0 H0 ow .N H σ Q (f ρ) → te σ H Q) : ∀ ρ σ own H D, Rel X.K S0 H0 ρ σ own H → PSt X W S0 H0 rm own H D (sOw i f ρ) → tAsg te (gName i) D σ H := by
  intro ρ σ own H D R k
  refine q ρ σ own H _ R ?_
  unfold sOw at k
  revert k
  cases f ρ with
  | er => exact id
  | ex c => exact fun k cv d H' i s => k cv d σ own H' i (R.grow s) (.same s)
  | ok x =>
    intro k v H' s r
    rw [ofM_ok] at k
    split at k
    · next ho =>
      have fin : ∀ a, v = .ref a → H a = none → Own X.K (SF H0 (a :: own)) H' a x → D.nx (σ.set i (some v)) H' := fun a e1 e2 e3 => by
        subst e1
        exact k _ (a :: own) H' (R.setOw s e2 e3) ⟨fun b o q _ => s b o q, fun b hm => (List.mem_cons.mp hm).elim (fun z => .inr (by rw [z]; exact e2)) .inl⟩
      cases x with
      | lst ds =>
        cases r with
        | lst s1 h1 r1 => exact fin _ rfl s1.1 ⟨_, h1, r1.lf ho⟩
      | dct ds =>
        cases r with
        | dct s1 h1 r1 => exact fin _ rfl s1.1 ⟨_, h1, r1.lf ho⟩
      | dk ds =>
        cases r with
        | dk s1 h1 r1 => exact fin _ rfl s1.1 ⟨_, h1, r1.lf ho⟩
      | _ => cases ho
    · exact k.elim
theorem vs_lcSh (hc : X.calm = true) (hN : X.N.Nodup) (hsw : swapsWith (.ListComp elt [⟨tg, iter, ifs, 0⟩] scope pos) (some (.Name y py)) spos.line X.env = pure true) (hi : VI X W S0 H0 tg iter fi) (ok : BlkOk X.N X.env.scope scope own) (hg : ∀ i : Bi, VG (blkOf X scope i) S0 H0 k1 tg ft) (ht : ∀ i : Bi, VTs (blkOf X scope i) W0 S0 H0 ifs fc)
    (he : ∀ i : Bi, VX (blkOf X scope i) W0 S0 H0 .E elt fe) (hk : ∀ k ∈ k1, k ∈ own.map (·.2) := by decide) (hy : X.N[i]? = some y := by rfl) (hyl : X.env.scope.names.lookup y = some .local := by rfl) :
    VS X W S0 H0 rm (.Assign [.Name y py] (.ListComp elt [⟨tg, iter, ifs, 0⟩] scope pos) spos) (sSh i (eComp (own.map (·.2)) fi ft fc fe)) := by
  obtain ⟨te, p, q⟩ := lcs (W := W) (by intro z; cases z) hc hN hy hyl hsw hi ok hg ht he hk
  exact ⟨_, p, sh_run q⟩
theorem vs_lcFr (hc : X.calm = true) (hN : X.N.Nodup) (hsw : swapsWith (.ListComp elt [⟨tg, iter, ifs, 0⟩] scope pos) (some (.Name y py)) spos.line X.env = pure true) (hi : VI X W S0 H0 tg iter fi) (ok : BlkOk X.N X.env.scope scope own) (hg : ∀ i : Bi, VG (blkOf X scope i) S0 H0 k1 tg ft) (ht : ∀ i : Bi, VTs (blkOf X scope i) W0 S0 H0 ifs fc)
    (he : ∀ i : Bi, VX (blkOf X scope i) W0 S0 H0 .F elt fe) (hk : ∀ k ∈ k1, k ∈ own.map (·.2) := by decide) (hy : X.N[i]? = some y := by rfl) (hyl : X.env.scope.names.lookup y = some .local := by rfl) :
    VS X W S0 H0 rm (.Assign [.Name y py] (.ListComp elt [⟨tg, iter, ifs, 0⟩] scope pos) spos) (sFr i (eComp (own.map (·.2)) fi ft fc fe)) := by
  obtain ⟨te, p, q⟩ := lcs (W := W) (by intro z; cases z) hc hN hy hyl hsw hi ok hg ht he hk
  exact ⟨_, p, fr_run q⟩
theorem vs_lcOw (hc : X.calm = true) (hN : X.N.Nodup) (hsw : swapsWith (.ListComp elt [⟨tg, iter, ifs, 0⟩] scope pos) (some (.Name y py)) spos.line X.env = pure true) (hi : VI X W S0 H0 tg iter fi) (ok : BlkOk X.N X.env.scope scope own) (hg : ∀ i : Bi, VG (blkOf X scope i) S0 H0 k1 tg ft) (ht : ∀ i : Bi, VTs (blkOf X scope i) W0 S0 H0 ifs fc)
    (he : ∀ i : Bi, VX (blkOf X scope i) W0 S0 H0 .N elt fe) (hk : ∀ k ∈ k1, k ∈ own.map (·.2) := by decide) (hy : X.N[i]? = some y := by rfl) (hyl : X.env.scope.names.lookup y = some .local := by rfl) :
    VS X W S0 H0 rm (.Assign [.Name y py] (.ListComp elt [⟨tg, iter, ifs, 0⟩] scope pos) spos) (sOw i (eComp (own.map (·.2)) fi ft fc fe)) := by
  obtain ⟨te, p, q⟩ := lcs (W := W) (by intro z; cases z) hc hN hy hyl hsw hi ok hg ht he hk
  exact ⟨_, p, ow_run q⟩
end
end
end VL
set_option Elab.async false
set_option linter.all false
set_option maxRecDepth 100000
/-! VL: isinstance, all, any, zip, enumerate, reversed, slices, tuples taken apart. -/
namespace VL
open PySem L2 PySem.Spec PyProof.Rows
section
variable {X : Cx} {W : WX} {S0 : Addr → Prop} {H0 : Hp} {rm m ma : Md} {pos p p2 : Pos} {e e2 : Expr} {es : List Expr} {fe f2 : Rho → M D} {fa : Rho → M (List D)} {x T T2 : Str}
/-! ### isinstance -/
inductive Tg where
  | non | bl | int | str | tup | lst | dct
def Tg.n : Tg → String
  | .non => "NoneType" | .bl => "bool" | .int => "int" | .str => "str" | .tup => "tuple" | .lst => "list" | .dct => "dict"
def tagD : D → Tg
  | .non => .non
  | .bl _ => .bl
  | .int _ => .int
  | .str _ => .str
  | .tup _ => .tup
  | .kt _ => .tup
  | .lst _ => .lst
  | .fz _ => .lst
  | .dct _ => .dct
  | .dk _ => .dct
def tyD (d : D) : String := (tagD d).n
theorem tyX_of {K : PySem.W.Frag} {own : List Addr} {Hb H : Hp} {v : V} {d : D} (r : RM K S0 H0 own m Hb H v d) : TyX K H v (.type (tyD d)) := by
  cases d with
  | non => rw [r.isNon]; exact .base .non
  | bl b => rw [r.isBl]; exact .base (.bl b)
  | int b => rw [r.isInt]; exact .base (.int b)
  | str b => rw [r.isStr]; exact .base (.str b)
  | tup ds => obtain ⟨a, xs, rfl, h, _⟩ := r.isTup; exact .base (.tup h)
  | kt ds =>
    rcases r.toO (Hc := Hb) with r | ⟨a, e, hm, r⟩
    · cases r with
      | kt h r => obtain ⟨o, its, n, h1, h2, _⟩ := h; exact .kTuple h1 h2
    · exact r.elim
  | lst ds => obtain ⟨a, xs, rfl, h | ⟨o, h⟩, _⟩ := r.isLst; exact .base (.lst h); exact .base (.frz h)
  | fz ds =>
    obtain ⟨a, xs, rfl, ⟨o, h⟩ | ⟨o, its, n, h1, h2, _⟩, _⟩ := r.isFz
    · exact .base (.frz h)
    · exact .kList h1 h2
  | dct ds =>
    rcases r.toO (Hc := Hb) with r | ⟨a, rfl, hm, xs, h, r⟩
    · cases r with
      | dct s h r => exact .base (.dT h)
    · exact .base (.dT h)
  | dk ds =>
    rcases r.toO (Hc := Hb) with r | ⟨a, rfl, hm, xs, h, r⟩
    · cases r with
      | dk s h r => exact .base (.dK h)
    · exact .base (.dK h)
/-- the classes that are asked: bool, int, str, list, tuple -/
inductive Cn where
  | bool | int | str | list | tuple
def Cn.n : Cn → String
  | .bool => "bool" | .int => "int" | .str => "str" | .list => "list" | .tuple => "tuple"
def instT : Cn → Tg → Bool
  | .bool, .bl => true
  | .int, .bl => true
  | .int, .int => true
  | .str, .str => true
  | .list, .lst => true
  | .tuple, .tup => true
  | _, _ => false
def instD (c : Cn) (d : D) : Bool := instT c (tagD d)
theorem inst_okT (c : Cn) (t : Tg) : kitB t.n c.n = some (instT c t) := by
  cases c <;> cases t <;> decide +kernel
theorem inst_ok (c : Cn) (d : D) : kitB (tyD d) c.n = some (instD c d) := inst_okT c (tagD d)
theorem kit_inst (K : PySem.W.Frag) (c : Cn) (d : D) : PySem.W.kitOne K (.type (tyD d)) (.type c.n) = some (instD c d) := kit_ty (inst_ok c d)
/-- isinstance(e, T) -/
def eIsi (c : Cn) (f : Rho → M D) : Rho → M D := fun ρ => M.bind (f ρ) fun d => .ok (.bl (instD c d))
theorem vx_isi (c : Cn) (hm : X.mg "isinstance" = none) (hT : X.mg T = none) (h : VX X W S0 H0 ma e fe) (hv : bootBuiltins T = some (.type c.n) := by decide +kernel) (hgT : Gl X T := by rfl) (hnT : T ≠ "__name__" := by decide) (hdT : (T == ("__debug__" : Str)) = false := by decide) (hg : Gl X "isinstance" := by rfl)
    (he : starEach (e :: [.Name T p2]) X.env = (false, eval e X.env) :: starEach [.Name T p2] X.env := by rfl) (he2 : starEach (.Name T p2 :: []) X.env = (false, eval (.Name T p2) X.env) :: starEach [] X.env := by rfl) (hpl : (backTo pos (starEach [.Name T p2] X.env)).any (·.1) = false := by rfl) :
    VX X W S0 H0 m (.Call (.Name "isinstance" p) (e :: [.Name T p2]) [] pos) (eIsi c fe) := by
  obtain ⟨te, pe, qe⟩ := h.p
  refine ⟨_, pe_callB call_isi hg hm (by decide +kernel) (pa_cons pe (pa_cons (pe_bltn (v := .ty c.n) hgT hT hv rfl hnT hdT) pa_nil he2) he) (by decide) (by decide) he hpl, fun ρ σ own H Q R k => qe ρ σ own H _ R ?_⟩
  unfold eIsi at k
  revert k
  cases fe ρ with
  | er => exact id
  | ex c => exact id
  | ok d => exact fun k v H' s r => ⟨v, .ty c.n, _, _, instD c d, rfl, .ty _, tyX_of r, kit_inst _ c d, k _ H' s (.ofBl _)⟩
/-- isinstance(e, (T, T2)) -/
def eIsi2 (c c2 : Cn) (f : Rho → M D) : Rho → M D := fun ρ => M.bind (f ρ) fun d => .ok (.bl (instD c d || instD c2 d))
theorem vx_isi2 {pt p3 : Pos} {j : Nat} (c c2 : Cn) (hm : X.mg "isinstance" = none) (hT : X.mg T = none) (hT2 : X.mg T2 = none) (h : VX X W S0 H0 ma e fe) (hv : bootBuiltins T = some (.type c.n) := by decide +kernel) (hgT : Gl X T := by rfl) (hnT : T ≠ "__name__" := by decide) (hdT : (T == ("__debug__" : Str)) = false := by decide)
    (hv2 : bootBuiltins T2 = some (.type c2.n) := by decide +kernel) (hgT2 : Gl X T2 := by rfl) (hnT2 : T2 ≠ "__name__" := by decide) (hdT2 : (T2 == ("__debug__" : Str)) = false := by decide) (hg : Gl X "isinstance" := by rfl)
    (he : starEach (e :: [.Tuple [.Name T p2, .Name T2 p3] j pt]) X.env = (false, eval e X.env) :: starEach [.Tuple [.Name T p2, .Name T2 p3] j pt] X.env := by rfl) (he2 : starEach (.Tuple [.Name T p2, .Name T2 p3] j pt :: []) X.env = (false, eval (.Tuple [.Name T p2, .Name T2 p3] j pt) X.env) :: starEach [] X.env := by rfl)
    (he3 : starEach (.Name T p2 :: [.Name T2 p3]) X.env = (false, eval (.Name T p2) X.env) :: starEach [.Name T2 p3] X.env := by rfl) (he4 : starEach (.Name T2 p3 :: []) X.env = (false, eval (.Name T2 p3) X.env) :: starEach [] X.env := by rfl)
    (hpl : (backTo pos (starEach [.Tuple [.Name T p2, .Name T2 p3] j pt] X.env)).any (·.1) = false := by rfl) :
    VX X W S0 H0 m (.Call (.Name "isinstance" p) (e :: [.Tuple [.Name T p2, .Name T2 p3] j pt]) [] pos) (eIsi2 c c2 fe) := by
  obtain ⟨te, pe, qe⟩ := h.p
  refine ⟨_, pe_callB call_isiT hg hm (by decide +kernel) (pa_cons pe (pa_cons (pe_tup (pa_cons (pe_bltn (v := .ty c.n) hgT hT hv rfl hnT hdT) (pa_cons (pe_bltn (v := .ty c2.n) hgT2 hT2 hv2 rfl hnT2 hdT2) pa_nil he4) he3)) pa_nil he2) he) (by decide) (by decide) he hpl, fun ρ σ own H Q R k => qe ρ σ own H _ R ?_⟩
  unfold eIsi2 at k
  revert k
  cases fe ρ with
  | er => exact id
  | ex c => exact id
  | ok d =>
    intro k v H' s r
    refine ⟨by show 2 ≤ sizeLine; decide, fun q hq => ?_⟩
    have r' := RM.grow (same_upd (o := .tup [.ty c.n, .ty c2.n]) hq) r
    refine ⟨v, q, [.ty c.n, .ty c2.n], _, [.type c.n, .type c2.n], instD c d || instD c2 d, rfl, upd_same, .cons (.ty _) (.cons (.ty _) .nil), tyX_of r', ?_, k _ _ (s.trans (same_upd hq)) (.ofBl _)⟩
    refine kitAny_cons (kit_inst _ c d) (fun hb => ?_) fun hb => by rw [hb]; rfl
    rw [hb]
    refine kitAny_cons (kit_inst _ c2 d) (fun hb => by rw [hb]; rfl) fun hb => by rw [hb]; rfl
/-! ### all, any of a list of truth values -/
def bools : List D → Option (List Bool)
  | [] => some []
  | .bl b :: ds => (bools ds).map (b :: ·)
  | _ => none
theorem RpA.bools {K : PySem.W.Frag} {S : Addr → Prop} {H : Hp} : ∀ {vs : List V} {ds : List D} {bs : List Bool}, RpA K S H vs ds → VL.bools ds = some bs → vs = bs.map V.bl
  | _, _, _, .nil, e => by cases e; rfl
  | _, d :: ds, _, .cons h r, e => by
    cases d with
    | bl b =>
      cases h
      have e' : (VL.bools ds).map (b :: ·) = some _ := e
      cases e1 : VL.bools ds with
      | none => rw [e1] at e'; cases e'
      | some cs =>
        rw [e1] at e'
        cases e'
        rw [RpA.bools r e1]
        rfl
    | _ => cases e
def allG : List D → M D := fun xs => match xs with
  | [.lst ds] => (match bools ds with | some bs => .ok (.bl (bs.all id)) | none => .er)
  | _ => .er
def anyG : List D → M D := fun xs => match xs with
  | [.lst ds] => (match bools ds with | some bs => .ok (.bl (bs.any id)) | none => .er)
  | _ => .er
theorem cg_all : CallG X W S0 H0 m (rAll X.K) allG := by
  intro ρ σ own H Q vs ds R r k
  unfold allG at k
  split at k
  · split at k
    · next bs e =>
      obtain ⟨v, rfl, r1⟩ := pair1 r
      obtain ⟨a, xs, rfl, h1, h2⟩ := r1.isLst
      exact ⟨a, bs, rfl, by rw [← h2.bools e]; exact .inl h1, k _ H (Same.refl H) (.ofBl _)⟩
    · exact k.elim
  · exact k.elim
theorem cg_any : CallG X W S0 H0 m (rAny X.K) anyG := by
  intro ρ σ own H Q vs ds R r k
  unfold anyG at k
  split at k
  · split at k
    · next bs e =>
      obtain ⟨v, rfl, r1⟩ := pair1 r
      obtain ⟨a, xs, rfl, h1, h2⟩ := r1.isLst
      exact ⟨a, bs, rfl, by rw [← h2.bools e]; exact .inl h1, k _ H (Same.refl H) (.ofBl _)⟩
    · exact k.elim
  · exact k.elim
/-! ### zip, enumerate of lists -/
def zipD : List D → List D → List D
  | x :: xs, y :: ys => .tup [x, y] :: zipD xs ys
  | _, _ => []
theorem zipD_len : ∀ xs ys : List D, (zipD xs ys).length = min xs.length ys.length
  | [], ys => by simp [zipD]
  | x :: xs, [] => by simp [zipD]
  | x :: xs, y :: ys => by simp [zipD, zipD_len xs ys]
theorem zipD_get : ∀ (xs ys : List D) (i : Nat) (a b : D), xs[i]? = some a → ys[i]? = some b → (zipD xs ys)[i]? = some (.tup [a, b])
  | [], _, _, _, _, h, _ => by simp at h
  | _ :: _, [], _, _, _, _, h => by simp at h
  | x :: xs, y :: ys, 0, a, b, h1, h2 => by
    simp at h1 h2
    subst h1 h2
    rfl
  | x :: xs, y :: ys, i + 1, a, b, h1, h2 => by
    simp at h1 h2
    exact zipD_get xs ys i a b h1 h2
def tupD : D → Option (List D)
  | .tup ds => some ds
  | .kt ds => some ds
  | _ => none
def zipG : List D → M (List D) := fun ds => match ds with
  | [.lst xs, .lst ys] => .ok (zipD xs ys)
  | [x, y] => (match tupD x, tupD y with
    | some xs, some ys => .ok (zipD xs ys)
    | _, _ => .er)
  | _ => .er
def eZip (f : Rho → M (List D)) : Rho → M (List D) := fun ρ => M.bind (f ρ) zipG
theorem tup_items {K : PySem.W.Frag} {own : List Addr} {H1 Hb : Hp} {v : V} {d : D} {ds : List D} (own0 : ∀ a, a ∈ own → H0 a = none ∧ Mt (H1 a)) (r : RM K S0 H0 own .E Hb H1 v d) (h : tupD d = some ds) :
    ∃ a xs, v = .ref a ∧ SqT K H1 a xs ∧ (∀ own' H', Fra own H1 own' H' → SqT K H' a xs) ∧ RpA K (SA S0 H0 own) H1 xs ds := by
  cases d <;> try (cases h; done)
  · cases h
    cases r with
    | tup h r => exact ⟨_, _, rfl, SqT.of h, fun own' H' F => SqT.of (F.k _ _ h fun hm => by
        have := (own0 _ hm).2
        rw [h] at this; exact this), r⟩
  · cases h
    cases r with
    | kt h r => exact ⟨_, _, rfl, .inr h, fun own' H' F => .inr h, r⟩
theorem up2 {K : PySem.W.Frag} {S : Addr → Prop} {H : Hp} {T : Addr} {x y : V} {a b : D} (hT : H T = none) (h1 : Rp K S H x a) (h2 : Rp K S H y b) : Rp K S (upd H T (.tup [x, y])) (.ref T) (.tup [a, b]) :=
  .tup upd_same (.cons (h1.keep (.same (same_upd hT))) (.cons (h2.keep (.same (same_upd hT))) .nil))
theorem vi_zip {elts : List Expr} {kk : Nat} {tpos : Pos} (hm : X.mg "zip" = none) (ha : VA X W S0 H0 .E [e, e2] fa) (hg : Gl X "zip" := by rfl) (hs1 : starEach (e :: [e2]) X.env = (false, eval e X.env) :: starEach [e2] X.env := by rfl) (hpl : (backTo pos (starEach [e2] X.env)).any (·.1) = false := by rfl)
    (hf : ∀ x, foldedSetIterable (.Call (.Name "zip" p) [e, e2] [] pos) X.env x = pure x := by intro _; rfl) : VI X W S0 H0 (.Tuple elts kk tpos) (.Call (.Name "zip" p) [e, e2] [] pos) (eZip fa) := by
  obtain ⟨te, pa, q⟩ := ha.p
  refine ⟨⟨_, RZ.pi_zipA hg hm pa hs1 hpl, fun ρ σ own H Rk R k => q ρ σ own H _ R ?_⟩, hf⟩
  unfold eZip at k
  revert k
  cases fa ρ with
  | er => exact id
  | ex c => exact id
  | ok ds =>
    intro k vs H1 s1 r1
    rw [bind_ok] at k
    unfold zipG at k
    split at k
    · next xs ys =>
      obtain ⟨v, w, rfl, r2, r3⟩ := pair2 r1
      have R1 := R.grow s1
      cases r2 with
      | lst sa ha ra =>
        cases r3 with
        | lst sb hb rb =>
          rename_i a vs b ws
          refine ⟨a, b, _, _, rfl, .inl ⟨SqL.of ha, SqL.of hb, k _ H1 s1 ?_⟩⟩
          intro own' H' F hsm ho i
          have ha' : SqL X.K H' a vs := .inl (fra_rd F R1.own0 sa.1 (.inl ha))
          have hb' : SqL X.K H' b ws := .inl (fra_rd F R1.own0 sb.1 (.inl hb))
          have ra' := ra.keep (F.keepA (S0 := S0) (H0 := H0) R1.own0)
          have rb' := rb.keep (F.keepA (S0 := S0) (H0 := H0) R1.own0)
          rw [zipD_len]
          refine ⟨fun hi => ?_, fun hi => ⟨vs, ws, ha', hb', ?_⟩, fun y H2 hi ⟨T, x1, x2, ey, nT, eH, f1, f2⟩ => ?_⟩
          · obtain ⟨v1, e1, _⟩ := ra.get (List.getElem?_eq_getElem (show i < xs.length by omega))
            obtain ⟨v2, e2, _⟩ := rb.get (List.getElem?_eq_getElem (show i < ys.length by omega))
            exact ⟨vs, ws, v1, v2, ha', hb', e1, e2⟩
          · rw [ra.length, rb.length]; omega
          · obtain ⟨d1, g1, h1⟩ := ra'.getV (f1 vs ha')
            obtain ⟨d2, g2, h2⟩ := rb'.getV (f2 ws hb')
            subst ey eH
            exact ⟨same_upd nT, .tup [d1, d2], zipD_get xs ys i d1 d2 g1 g2, up2 nT h1 h2⟩
    · split at k
      · next xs ys ex ey =>
        obtain ⟨v, w, rfl, r2, r3⟩ := pair2 r1
        have R1 := R.grow s1
        obtain ⟨a, vs, rfl, ha, hka, ra⟩ := tup_items R1.own0 r2 ex
        obtain ⟨b, ws, rfl, hb, hkb, rb⟩ := tup_items R1.own0 r3 ey
        refine ⟨a, b, _, _, rfl, .inr ⟨ha, hb, k _ H1 s1 ?_⟩⟩
        intro own' H' F hsm ho i
        have ha' := hka own' H' F
        have hb' := hkb own' H' F
        have ra' := ra.keep (F.keepA (S0 := S0) (H0 := H0) R1.own0)
        have rb' := rb.keep (F.keepA (S0 := S0) (H0 := H0) R1.own0)
        rw [zipD_len]
        refine ⟨fun hi => ?_, fun hi => ⟨vs, ws, ha', hb', ?_⟩, fun y H2 hi ⟨T, x1, x2, ey, nT, eH, f1, f2⟩ => ?_⟩
        · obtain ⟨v1, e1, _⟩ := ra.get (List.getElem?_eq_getElem (show i < xs.length by omega))
          obtain ⟨v2, e2, _⟩ := rb.get (List.getElem?_eq_getElem (show i < ys.length by omega))
          exact ⟨vs, ws, v1, v2, ha', hb', e1, e2⟩
        · rw [ra.length, rb.length]; omega
        · obtain ⟨d1, g1, h1⟩ := ra'.getV (f1 vs ha')
          obtain ⟨d2, g2, h2⟩ := rb'.getV (f2 ws hb')
          subst ey eH
          exact ⟨same_upd nT, .tup [d1, d2], zipD_get xs ys i d1 d2 g1 g2, up2 nT h1 h2⟩
      · exact k.elim
    · exact k.elim
def enumD : Nat → List D → List D
  | _, [] => []
  | i, x :: xs => .tup [.int (i : Nat), x] :: enumD (i + 1) xs
theorem enumD_len : ∀ (i : Nat) (xs : List D), (enumD i xs).length = xs.length
  | _, [] => rfl
  | i, x :: xs => congrArg (· + 1) (enumD_len (i + 1) xs)
theorem enumD_get : ∀ (xs : List D) (j i : Nat) (a : D), xs[i]? = some a → (enumD j xs)[i]? = some (.tup [.int ((j + i : Nat) : Int), a])
  | [], _, _, _, h => by simp at h
  | x :: xs, j, 0, a, h => by
    simp at h
    subst h
    rfl
  | x :: xs, j, i + 1, a, h => by
    simp at h
    have := enumD_get xs (j + 1) i a h
    rw [show j + (i + 1) = j + 1 + i by omega]
    exact this
def eEnum (f : Rho → M (List D)) : Rho → M (List D) := fun ρ => M.bind (f ρ) fun ds => match ds with
  | [.lst xs] => .ok (enumD 0 xs)
  | _ => .er
theorem vi_enum {elts : List Expr} {kk : Nat} {tpos : Pos} (hm : X.mg "enumerate" = none) (ha : VA X W S0 H0 .E [e] fa) (hg : Gl X "enumerate" := by rfl) (hs1 : starEach (e :: []) X.env = (false, eval e X.env) :: starEach [] X.env := by rfl)
    (hf : ∀ x, foldedSetIterable (.Call (.Name "enumerate" p) [e] [] pos) X.env x = pure x := by intro _; rfl) : VI X W S0 H0 (.Tuple elts kk tpos) (.Call (.Name "enumerate" p) [e] [] pos) (eEnum fa) := by
  obtain ⟨te, pa, q⟩ := ha.p
  refine ⟨⟨_, pi_enum hg hm pa hs1, fun ρ σ own H Rk R k => q ρ σ own H _ R ?_⟩, hf⟩
  unfold eEnum at k
  revert k
  cases fa ρ with
  | er => exact id
  | ex c => exact id
  | ok ds =>
    intro k vs H1 s1 r1
    rw [bind_ok] at k
    split at k
    · next xs =>
      obtain ⟨v, rfl, r2⟩ := pair1 r1
      have R1 := R.grow s1
      cases r2 with
      | lst sa ha ra =>
        rename_i a vs
        refine ⟨a, _, rfl, SqL.of ha, k _ H1 s1 ?_⟩
        intro own' H' F hsm ho i
        have ha' : SqL X.K H' a vs := .inl (fra_rd F R1.own0 sa.1 (.inl ha))
        have ra' := ra.keep (F.keepA (S0 := S0) (H0 := H0) R1.own0)
        rw [enumD_len]
        refine ⟨fun hi => ?_, fun hi => ⟨vs, ha', by rw [ra.length]; exact hi⟩, fun y H2 hi ⟨T, x1, ey, nT, eH, f1⟩ => ?_⟩
        · obtain ⟨v1, e1, _⟩ := ra.get (List.getElem?_eq_getElem hi)
          exact ⟨vs, v1, ha', e1⟩
        · obtain ⟨d1, g1, h1⟩ := ra'.getV (f1 vs ha')
          subst ey eH
          refine ⟨same_upd nT, .tup [.int (i : Nat), d1], ?_, up2 nT (.int _) h1⟩
          have := enumD_get xs 0 i d1 g1
          rw [Nat.zero_add] at this
          exact this
    · exact k.elim
/-! ### slices -/
def cutD (xs : List D) (lo hi : Option Int) : List D := (xs.drop (HT.sIx xs.length 0 lo)).take (HT.sIx xs.length xs.length hi - HT.sIx xs.length 0 lo)
section
variable (X : Cx) (W : WX) (H : Hp) (σ : Sg)
def PXO (Q : Option Int → Hp → Prop) : M (Option Int) → Prop
  | .ok o => ∀ H', Same H H' → Q o H'
  | .ex c => ∀ cv d H', IsCls X.mg c cv d → Same H H' → W cv d σ H'
  | .er => False
end
structure VO (X : Cx) (W : WX) (S0 : Addr → Prop) (H0 : Hp) (e : Option Expr) (f : Rho → M (Option Int)) : Prop where
  p : ∃ te, PO X e te ∧ ∀ ρ σ own H Q, Rel X.K S0 H0 ρ σ own H → PXO X W H σ Q (f ρ) → te σ H Q
def oNone : Rho → M (Option Int) := fun _ => .ok none
def oSome (f : Rho → M D) : Rho → M (Option Int) := fun ρ => M.bind (f ρ) fun d => match d with | .int i => .ok (some i) | _ => .er
theorem vo_none : VO X W S0 H0 none oNone := ⟨_, po_none, fun ρ σ own H Q R k => k H (Same.refl H)⟩
theorem vo_some (h : VX X W S0 H0 m e fe) : VO X W S0 H0 (some e) (oSome fe) := by
  obtain ⟨te, pe, qe⟩ := h.p
  refine ⟨_, po_some pe, fun ρ σ own H Q R k => qe ρ σ own H _ R ?_⟩
  unfold oSome at k
  revert k
  cases fe ρ with
  | er => exact id
  | ex c => exact id
  | ok d =>
    intro k v H' s r
    cases d with
    | int i => exact ⟨i, r.isInt, k H' s⟩
    | _ => exact k.elim
/-- xs[a:b] of a list whose items are without lists; s[a:b] of a text -/
def slG (x : D) (lo hi : Option Int) : M D := match x with
  | .lst ds => if lfA ds = true then .ok (.lst (cutD ds lo hi)) else .er
  | .fz ds => if lfA ds = true then .ok (.lst (cutD ds lo hi)) else .er
  | .str z => if z.length ≤ sizeLine then .ok (.str (cutS z lo hi)) else .er
  | _ => .er
def eSl (f : Rho → M D) (lo hi : Rho → M (Option Int)) : Rho → M D := fun ρ => M.bind (f ρ) fun x => M.bind (lo ρ) fun a => M.bind (hi ρ) fun b => slG x a b
theorem lfA_take : ∀ (n : Nat) (ds : List D), lfA ds = true → lfA (ds.take n) = true
  | 0, _, _ => rfl
  | n + 1, [], _ => rfl
  | n + 1, d :: ds, h => by
    simp [lfA] at h ⊢
    exact ⟨h.1, lfA_take n ds h.2⟩
theorem lfA_drop : ∀ (n : Nat) (ds : List D), lfA ds = true → lfA (ds.drop n) = true
  | 0, _, h => h
  | n + 1, [], _ => rfl
  | n + 1, d :: ds, h => by
    simp [lfA] at h ⊢
    exact lfA_drop n ds h.2
theorem RpA.cut {K : PySem.W.Frag} {S : Addr → Prop} {H : Hp} {vs : List V} {ds : List D} (r : RpA K S H vs ds) (lo hi : Option Int) : RpA K S H (cutV vs lo hi) (cutD ds lo hi) := by
  unfold cutV cutD
  rw [r.length]
  exact (r.drop _).take _
theorem vx_sl {lo hi : Option Expr} {fl fh : Rho → M (Option Int)} (h : VX X W S0 H0 ma e fe) (hl : VO X W S0 H0 lo fl) (hh : VO X W S0 H0 hi fh) : VX X W S0 H0 .N (.Subscript e (.Slice lo hi none p2) pos) (eSl fe fl fh) := by
  obtain ⟨te, pe, qe⟩ := h.p
  obtain ⟨tl, pl, ql⟩ := hl.p
  obtain ⟨th, ph, qh⟩ := hh.p
  refine ⟨_, pe_slice (sl_list.or sl_str) pe pl ph, fun ρ σ own H Q R k => qe ρ σ own H _ R ?_⟩
  unfold eSl at k
  revert k
  cases fe ρ with
  | er => exact id
  | ex c => exact id
  | ok x =>
    intro k v H1 s1 r1
    refine ql ρ σ own H1 _ (R.grow s1) ?_
    rw [bind_ok] at k
    revert k
    cases fl ρ with
    | er => exact id
    | ex c => exact fun k cv d H' i s => k cv d H' i (s1.trans s)
    | ok a =>
      intro k H2 s2
      refine qh ρ σ own H2 _ ((R.grow s1).grow s2) ?_
      rw [bind_ok] at k
      revert k
      cases fh ρ with
      | er => exact id
      | ex c => exact fun k cv d H' i s => k cv d H' i ((s1.trans s2).trans s)
      | ok b =>
        intro k H3 s3
        have s13 := (s1.trans s2).trans s3
        have R3 := R.grow s13
        have r3 := (r1.grow s2).grow s3
        rw [bind_ok] at k
        unfold slG at k
        split at k
        · next ds =>
          split at k
          · next hlf =>
            obtain ⟨aa, xs, rfl, h1, h2⟩ := r3.isLst
            refine .inl ⟨aa, xs, rfl, .inl h1, fun q hq => k _ _ (s13.trans (same_upd hq)) (RM.back s13 (RM.newL R3 hq ?_))⟩
            exact ((h2.cut a b).lf (lfA_take _ _ (lfA_drop _ _ hlf))).keep (.same (same_upd hq))
          · exact k.elim
        · next ds =>
          split at k
          · next hlf =>
            obtain ⟨aa, xs, rfl, h1, h2⟩ := r3.isFz
            refine .inl ⟨aa, xs, rfl, h1.sq, fun q hq => k _ _ (s13.trans (same_upd hq)) (RM.back s13 (RM.newL R3 hq ?_))⟩
            exact ((h2.cut a b).lf (lfA_take _ _ (lfA_drop _ _ hlf))).keep (.same (same_upd hq))
          · exact k.elim
        · next z =>
          split at k
          · next hlf => exact .inr ⟨z, r3.isStr, hlf, k _ _ s13 (.ofStr _)⟩
          · exact k.elim
        · exact k.elim
/-- a, b = e: a tuple taken apart -/
def sUnp (f : Rho → M D) (tg : D → Rho → Option Rho) : Rho → Res := fun ρ => ofM ρ (fun d => match tg d ρ with | some ρ' => .nx ρ' | none => .er) (f ρ)
theorem vs_unp {ks : List Nat} {tg : Expr} {ft : D → Rho → Option Rho} (h : VX X W S0 H0 .E e fe) (hg : VG X S0 H0 ks tg ft) (hs : swapsWithSole [tg] e pos.line X.env = pure false := by rfl) (hw : swappedStores [tg] e X.env = pure none := by rfl)
    (h1 : (assignEach [tg] X.env).map (·.2) = [assign tg X.env] := by rfl) : VS X W S0 H0 rm (.Assign [tg] e pos) (sUnp fe ft) := by
  obtain ⟨te, pe, qe⟩ := h.p
  obtain ⟨g, pg, qg⟩ := hg.p
  refine ⟨_, ps_asg pe pg hs hw h1, fun ρ σ own H D R k => qe ρ σ own H _ R ?_⟩
  unfold sUnp at k
  revert k
  cases fe ρ with
  | er => exact id
  | ex c => exact fun k cv d H' i s => k cv d σ own H' i (R.grow s) (.same s)
  | ok d =>
    intro k v H1 s1 r1
    rw [ofM_ok] at k
    split at k
    · next ρ' e1 => exact qg v d ρ ρ' σ own H1 _ (R.grow s1) r1 e1 fun σ' R' _ => k σ' own H1 R' (.same s1)
    · exact k.elim
end
end VL
set_option Elab.async false
set_option linter.all false
set_option maxRecDepth 100000
/-! VL: the law's end. -/
namespace VL
open PySem L2 PySem.Spec PyProof.Rows
/-- a module's constant -/
structure GI (mg : Str → Option Value) (x : Str) (i : Int) : Prop where
  p : ∃ t, mg x = some (.int i t)
structure GS (mg : Str → Option Value) (x : Str) (i : Str) : Prop where
  p : ∃ t, mg x = some (.str i t)
section
variable {X : Cx} {W : WX} {S0 : Addr → Prop} {H0 : Hp} {rm m : Md} {pos : Pos} {e : Expr} {fe : Rho → M D}
theorem vx_gi {x : Str} {i : Int} (h : GI X.mg x i) (hg : Gl X x := by rfl) (hd : (x == ("__debug__" : Str)) = false := by decide) : VX X W S0 H0 m (.Name x pos) (eC (.int i)) := by
  obtain ⟨t, h⟩ := h.p
  exact vx_gint h ⟨t, rfl⟩ hg hd
theorem vx_gs {x : Str} {i : Str} (h : GS X.mg x i) (hg : Gl X x := by rfl) (hd : (x == ("__debug__" : Str)) = false := by decide) : VX X W S0 H0 m (.Name x pos) (eC (.str i)) := by
  obtain ⟨t, h⟩ := h.p
  exact vx_gstr h ⟨t, rfl⟩ hg hd
theorem hu65 {A : Around} {k : Nat} (hr : Room k A) : A.units + 65 < cLine := by have := hr.un; omega
end
/-- the law gives True of every script -/
def spLaw (K : PySem.W.Frag) : Sp := fun vs H Q _ => ∃ (a : Addr) (ns : List Int), vs = [.ref a] ∧ FzL K H a (ns.map V.int) ∧ ns.length ≤ 63 ∧ ∀ H', Q (.bl true) H'
theorem law_imp {P : Program} {w : World} {K : PySem.W.Frag} {mg : Str → Option Value} {base : Heap} {CX : CXT} {k : Nat} {f : Addr} {fd : FuncData} {ps : List Str} {g : List D → M D} (F : FnOk P w K mg base CX k f fd ps (spN mg K g))
    (h : ∀ ns : List Int, ns.length ≤ 63 → g [.fz (ns.map .int)] = .ok (.bl true)) : FnOk P w K mg base CX k f fd ps (spLaw K) := F.imp fun vs H Q E ⟨a, ns, ev, hs, hl, q⟩ => by
  subst ev
  refine ⟨[.fz (ns.map .int)], .cons (.fz hs (RpA.ints ns)) .nil, ?_⟩
  rw [h ns hl]
  intro v H' s r
  cases r
  exact q H'
theorem fz_of {K : PySem.W.Frag} {H : Hp} {a : Addr} {xs : List V} (hO : Only H) (h : SqL K H a xs) : FzL K H a xs := by
  rcases h with (h | h) | h
  · rcases hO a with z | ⟨o, ys, z⟩
    · rw [z] at h; cases h
    · rw [z] at h; cases h
  · exact .inl h
  · exact .inr h
theorem law_walk {l : PySem.W.OpenLaw} {k : Nat} {q : Program} {loose : List Str} {XP : (Str → Option Value) → Heap → Prop} {YP : World → Heap → Prop} {d : DefRec} {K : Params → PySem.W.Frag} {x : Str} (hn : l.most = some 63) (hdf : d.params.defaults = []) (hr : Room k callerA)
    (hY : ∀ (w : World) (h : Heap), YP w h → (K w.params).In h)
    (F : ∀ (w : World) (mg : Str → Option Value) (fa : Addr) (h : Heap), (K w.params).In h → h.Ns mainGlobals mg → mg d.name = some (.ref fa) →
      ∃ fd : FuncData, (∀ (s : Shared) (u : Value), BindsTo s fd ⟨[u], []⟩ [(x, u)]) ∧ ∀ base : Heap, (K w.params).In base → base.Ns mainGlobals mg → FnOk l.prog w (K w.params) mg base (L2.CX l.prog w) k fa fd [x] (spLaw (K w.params))) :
    PySem.W.WalkO q loose XP YP l.row.toRowW d [] (fun f vs => PySem.call f vs) :=
  walk_of (K := K) (CX := fun w => L2.CX l.prog w) (sp := fun w => spLaw (K w.params)) hn (by decide) hdf hr hY F (fun w H a ns h1 hO h3 => ⟨a, ns, rfl, fz_of hO h3, h1, fun _ => rfl⟩) fun w H s e s' h => by
    obtain ⟨_, _, _, _, _, _, _, _, _, _, _, _, z⟩ := h
    exact z.elim
end VL
set_option Elab.async false
set_option linter.all false
set_option maxRecDepth 100000
/-! VL9: x in d, d.get, not by truth, += , join, list.clear and the like. -/
namespace VL
open PySem L2 PySem.Spec PyProof.Rows
section
variable {X : Cx} {W : WX} {S0 : Addr → Prop} {H0 : Hp} {rm m ma mb mc : Md} {pos apos cpos px : Pos} {e e2 a b c o : Expr} {es : List Expr} {fe f2 fa fb fc : Rho → M D} {fas : Rho → M (List D)} {x : Str}
/-! ### what a dict holds at a key -/
def lookD (x y : D) : Option (Option D) := match y with
  | .dct kvs => (match x with | .tup ds => (keyOf ds).map (lookT kvs) | _ => none)
  | .dk kvs => (keyOf1 x).map (lookK kvs)
  | _ => none
def isDctD : D → Bool
  | .dct _ => true
  | .dk _ => true
  | _ => false
theorem isD_of {own : List Addr} {H Hb : Hp} {v : V} {d : D} (r : RM X.K S0 H0 own m Hb H v d) (h : isDctD d = true) : ∃ a, v = .ref a ∧ IsD H a := by
  cases d <;> try (cases h; done)
  · obtain ⟨a, xs, rfl, h1, h2⟩ := r.isDct
    exact ⟨a, rfl, .inr ⟨xs, h1⟩⟩
  · obtain ⟨a, xs, rfl, h1, h2⟩ := r.isDk
    exact ⟨a, rfl, .inl ⟨xs, h1⟩⟩
theorem dget_of {own : List Addr} {H : Hp} {vx vy : V} {x y : D} {o : Option D} (rx : RM X.K S0 H0 own .O H H vx x) (ry : RM X.K S0 H0 own .O H H vy y) (h : lookD x y = some o) :
    ∃ a ov, vy = .ref a ∧ DGet H a vx ov ∧ ov.isSome = o.isSome ∧ (∀ d, o = some d → ∃ v, ov = some v ∧ Rp X.K (SA S0 H0 own) H v d) := by
  have fin (ov : Option V) (h1 : ∀ d, o = some d → ∃ v, ov = some v ∧ Rp X.K (SA S0 H0 own) H v d) (h2 : o = none → ov = none) : ov.isSome = o.isSome ∧ (∀ d, o = some d → ∃ v, ov = some v ∧ Rp X.K (SA S0 H0 own) H v d) := by
    refine ⟨?_, h1⟩
    cases o with
    | none => rw [h2 rfl]; rfl
    | some d => obtain ⟨v, e, _⟩ := h1 d rfl; rw [e]; rfl
  unfold lookD at h
  split at h
  · next kvs =>
    split at h
    · next ds =>
      obtain ⟨a, xs, rfl, h1, h2⟩ := ry.isDct
      obtain ⟨b, ys, rfl, h3, h4⟩ := rx.isTup
      cases hk : keyOf ds with
      | none => rw [hk] at h; cases h
      | some ks =>
        rw [hk] at h
        cases h
        obtain ⟨p, q⟩ := h2.look ks
        obtain ⟨f1, f2⟩ := fin (valV xs ks) p q
        refine ⟨a, valV xs ks, rfl, .inr ⟨xs, ks, b, h1, rfl, ?_, rfl⟩, f1, f2⟩
        rw [← h4.keys hk]
        exact h3
    · cases h
  · next kvs =>
    obtain ⟨a, xs, rfl, h1, h2⟩ := ry.isDk
    cases hk : keyOf1 x with
    | none => rw [hk] at h; cases h
    | some k =>
      rw [hk] at h
      cases h
      obtain ⟨p, q⟩ := h2.look k
      obtain ⟨f1, f2⟩ := fin (valV xs k) p q
      exact ⟨a, valV xs k, rfl, .inl ⟨xs, k, h1, key_v rx hk, rfl⟩, f1, f2⟩
  · cases h
/-! ### x in y -/
def itsD : D → Option (List D)
  | .lst ds => some ds
  | .fz ds => some ds
  | _ => none
def itsT : D → Option (List D)
  | .tup ds => some ds
  | .kt ds => some ds
  | _ => none
def inB_ (x y : D) : M Bool := match lookD x y with
  | some o => .ok o.isSome
  | none => match itsD y with
    | some ds => if SeqAt.shaped (toP x) = true ∧ SeqAt.shaped (toP y) = true then .ok (ds.any fun z => PyData.eqv (toP z) (toP x)) else .er
    | none => match itsT y with
      | some ds => if SeqAt.shaped (toP x) = true ∧ SeqAt.shaped (toP y) = true then .ok (ds.any fun z => PyData.eqv (toP z) (toP x)) else .er
      | none => match x, y with
      | .str s, .str z => (match s.cps.toList with | [c] => .ok (decide (c ∈ z.cps.toList)) | _ => .er)
      | _, _ => .er
def inG (x y : D) : M D := M.bind (inB_ x y) fun b => .ok (.bl b)
def ninG (x y : D) : M D := M.bind (inB_ x y) fun b => .ok (.bl (!b))
def rInD1 : R2 := fun x y H Q => ∃ a o, y = .ref a ∧ DGet H a x o ∧ Q (.bl o.isSome) H
def rNinD1 : R2 := fun x y H Q => ∃ a o, y = .ref a ∧ DGet H a x o ∧ Q (.bl (!o.isSome)) H
theorem op_inD1 (hu : X.A.units + 65 < cLine) : OpR X (compareOp .In) rInD1 := by
  intro pins s σ H x y v u Q I rx ry h
  obtain ⟨a, o, rfl, g, q⟩ := h
  cases ry
  exact d_in (by omega) I g rx fun s' I' => ⟨.bl _, H, I', rfl, q⟩
theorem op_ninD1 (hu : X.A.units + 65 < cLine) : OpR X (compareOp .NotIn) rNinD1 := by
  intro pins s σ H x y v u Q I rx ry h
  obtain ⟨a, o, rfl, g, q⟩ := h
  cases ry
  exact d_notIn (by omega) I g rx fun s' I' => ⟨.bl _, H, I', rfl, q⟩
def rInT (K : PySem.W.Frag) : R2 := fun x y H Q => ∃ d ds, Dp K H x d ∧ Dp K H y (.tuple ds) ∧ SeqAt.shaped d = true ∧ SeqAt.shaped (.tuple ds) = true ∧ Q (.bl (ds.any fun z => PyData.eqv z d)) H
def rNotInT (K : PySem.W.Frag) : R2 := fun x y H Q => ∃ d ds, Dp K H x d ∧ Dp K H y (.tuple ds) ∧ SeqAt.shaped d = true ∧ SeqAt.shaped (.tuple ds) = true ∧ Q (.bl (!ds.any fun z => PyData.eqv z d)) H
theorem room_inT {ds : List PyData} {d : PyData} (sd : SeqAt.shaped d = true) (hu : X.A.units + 65 < cLine) : X.A.units + 1 + min (PyData.depthAll ds) d.depth < cLine := room_in_shaped sd hu
theorem op_inT (hu : X.A.units + 65 < cLine) : OpR X (compareOp .In) (rInT X.K) := by
  intro pins s σ H x y v u Q I rx ry h
  obtain ⟨d, ds, hd, he, sd, se, q⟩ := h
  obtain ⟨as, r1⟩ := Dp.reads I d x v hd rx
  obtain ⟨bs, r2⟩ := Dp.reads I (.tuple ds) y u he ry
  exact SeqAt.in_tuple_reads r2 r1 (SeqAt.canLay_of_shaped se) (SeqAt.canLay_of_shaped sd) (room_inT sd hu) ⟨.bl _, H, I, rfl, q⟩
theorem op_notInT (hu : X.A.units + 65 < cLine) : OpR X (compareOp .NotIn) (rNotInT X.K) := by
  intro pins s σ H x y v u Q I rx ry h
  obtain ⟨d, ds, hd, he, sd, se, q⟩ := h
  obtain ⟨as, r1⟩ := Dp.reads I d x v hd rx
  obtain ⟨bs, r2⟩ := Dp.reads I (.tuple ds) y u he ry
  exact SeqAt.notIn_tuple_reads r2 r1 (SeqAt.canLay_of_shaped se) (SeqAt.canLay_of_shaped sd) (room_inT sd hu) ⟨.bl _, H, I, rfl, q⟩
def rInA (K : PySem.W.Frag) : R2 := fun x y H Q => rInD K x y H Q ∨ rInD1 x y H Q ∨ rInS x y H Q ∨ rInT K x y H Q
def rNinA (K : PySem.W.Frag) : R2 := fun x y H Q => rNotInD K x y H Q ∨ rNinD1 x y H Q ∨ rNotInS x y H Q ∨ rNotInT K x y H Q
theorem op_inA (hu : X.A.units + 65 < cLine) : OpR X (compareOp .In) (rInA X.K) := (op_inD hu).or ((op_inD1 hu).or (op_inS.or (op_inT hu)))
theorem op_ninA (hu : X.A.units + 65 < cLine) : OpR X (compareOp .NotIn) (rNinA X.K) := (op_notInD hu).or ((op_ninD1 hu).or (op_notInS.or (op_notInT hu)))
theorem toPA_any (ds : List D) (p : PyData → Bool) : ((toPA ds).any p) = ds.any fun z => p (toP z) := by
  induction ds with
  | nil => rfl
  | cons d ds ih => simp [toPA, ih]
theorem toP_its {y : D} {ds : List D} (h : itsD y = some ds) : toP y = .list (toPA ds) := by
  cases y <;> cases h <;> simp [toP]
theorem toP_itsT {y : D} {ds : List D} (h : itsT y = some ds) : toP y = .tuple (toPA ds) := by
  cases y <;> cases h <;> simp [toP]
theorem in_cases {ρ : Rho} {σ : Sg} {own : List Addr} {H : Hp} {vx vy : V} {x y : D} {b : Bool} (R : Rel X.K S0 H0 ρ σ own H) (rx : RM X.K S0 H0 own .O H H vx x) (ry : RM X.K S0 H0 own .O H H vy y) (h : inB_ x y = .ok b) :
    (∃ a ov, vy = .ref a ∧ DGet H a vx ov ∧ ov.isSome = b) ∨ (∃ d ds, Dp X.K H vx d ∧ Dp X.K H vy (.list ds) ∧ SeqAt.shaped d = true ∧ SeqAt.shaped (.list ds) = true ∧ (ds.any fun z => PyData.eqv z d) = b) ∨ (∃ c z, vx = .str ⟨#[c]⟩ ∧ vy = .str z ∧ decide (c ∈ z.cps.toList) = b) ∨
      (∃ d ds, Dp X.K H vx d ∧ Dp X.K H vy (.tuple ds) ∧ SeqAt.shaped d = true ∧ SeqAt.shaped (.tuple ds) = true ∧ (ds.any fun z => PyData.eqv z d) = b) := by
  unfold inB_ at h
  split at h
  · next o ho =>
    obtain ⟨a, ov, e1, e2, e3, _⟩ := dget_of rx ry ho
    cases h
    exact .inl ⟨a, ov, e1, e2, e3⟩
  · split at h
    · next ds hd =>
      split at h
      · next hs =>
        cases h
        have e := toP_its hd
        have r2 := ry.dp hs.2
        rw [e] at r2
        refine .inr (.inl ⟨_, _, rx.dp hs.1, r2, hs.1, by rw [← e]; exact hs.2, ?_⟩)
        rw [toPA_any]
      · cases h
    · split at h
      · next ds hd =>
        split at h
        · next hs =>
          cases h
          have e := toP_itsT hd
          have r2 := ry.dp hs.2
          rw [e] at r2
          refine .inr (.inr (.inr ⟨_, _, rx.dp hs.1, r2, hs.1, by rw [← e]; exact hs.2, ?_⟩))
          rw [toPA_any]
        · cases h
      · split at h
        · next s z _ _ _ =>
          split at h
          · next c hc =>
            cases h
            refine .inr (.inr (.inl ⟨c, z, ?_, ry.isStr, rfl⟩))
            rw [rx.isStr]
            obtain ⟨⟨l⟩⟩ := s
            simp only at hc
            subst hc
            rfl
          · cases h
        · cases h
theorem og_in : OpG X W S0 H0 m (rInA X.K) inG := by
  intro ρ σ own H Q vx vy x y R rx ry k
  unfold inG at k
  cases h : inB_ x y with
  | er => rw [h] at k; exact k.elim
  | ex c =>
    exfalso
    revert h
    unfold inB_
    split <;> (try split) <;> (try split) <;> (try split) <;> (try split) <;> intro h <;> cases h
  | ok b =>
    rw [h] at k
    have k' : PX X W S0 H0 own m H σ Q (.ok (.bl b)) := k
    have q := k' _ H (Same.refl H) (.ofBl _)
    rcases in_cases R rx ry h with ⟨a, ov, e1, e2, e3⟩ | ⟨d, ds, e1, e2, e3, e4, e5⟩ | ⟨c, z, e1, e2, e3⟩ | ⟨d, ds, e1, e2, e3, e4, e5⟩
    · exact .inr (.inl ⟨a, ov, e1, e2, by rw [e3]; exact q⟩)
    · exact .inl ⟨d, ds, e1, e2, e3, e4, by rw [e5]; exact q⟩
    · exact .inr (.inr (.inl ⟨c, z, e1, e2, by rw [e3]; exact q⟩))
    · exact .inr (.inr (.inr ⟨d, ds, e1, e2, e3, e4, by rw [e5]; exact q⟩))
theorem og_nin : OpG X W S0 H0 m (rNinA X.K) ninG := by
  intro ρ σ own H Q vx vy x y R rx ry k
  unfold ninG at k
  cases h : inB_ x y with
  | er => rw [h] at k; exact k.elim
  | ex c =>
    exfalso
    revert h
    unfold inB_
    split <;> (try split) <;> (try split) <;> (try split) <;> (try split) <;> intro h <;> cases h
  | ok b =>
    rw [h] at k
    have k' : PX X W S0 H0 own m H σ Q (.ok (.bl (!b))) := k
    have q := k' _ H (Same.refl H) (.ofBl _)
    rcases in_cases R rx ry h with ⟨a, ov, e1, e2, e3⟩ | ⟨d, ds, e1, e2, e3, e4, e5⟩ | ⟨c, z, e1, e2, e3⟩ | ⟨d, ds, e1, e2, e3, e4, e5⟩
    · exact .inr (.inl ⟨a, ov, e1, e2, by rw [e3]; exact q⟩)
    · exact .inl ⟨d, ds, e1, e2, e3, e4, by rw [e5]; exact q⟩
    · exact .inr (.inr (.inl ⟨c, z, e1, e2, by rw [e3]; exact q⟩))
    · exact .inr (.inr (.inr ⟨d, ds, e1, e2, e3, e4, by rw [e5]; exact q⟩))
/-! ### d.get -/
def getG (y x d : D) : M D := match lookD x y with
  | some (some r) => .ok r
  | some none => .ok d
  | none => .er
def eGet2 (fa fb fc : Rho → M D) : Rho → M D := fun ρ => M.bind (fa ρ) fun y => if isDctD y = true then M.bind (fb ρ) fun x => M.bind (fc ρ) fun d => getG y x d else .er
theorem vx_get2 (hu : X.A.units + 1 < cLine) (ha : VX X W S0 H0 ma a fa) (hb : VX X W S0 H0 mb b fb) (hc : VX X W S0 H0 .E c fc)
    (h1 : attributeBase a "get" X.env (eval a X.env) = eval a X.env := by rfl) (h2 : ((backTo cpos (starEach [b, c] X.env)).all (fun x => !x.1) && (backToKw cpos (keywordEach [] X.env)).all (fun x => x.1.isSome)
    && decide (([b, c] : List Expr).length + ([] : List Keyword).length + (if ([] : List Keyword).isEmpty then 0 else 1) < 30)) = true := by rfl) (h3 : (apos.endLine == cpos.line) = true := by rfl)
    (h4 : backTo cpos (starEach [b, c] X.env) = [(false, eval b X.env), (false, eval c X.env)] := by rfl) : VX X W S0 H0 .E (.Call (.Attribute a "get" apos) [b, c] [] cpos) (eGet2 fa fb fc) := by
  obtain ⟨ta, pa, qa⟩ := ha.p
  obtain ⟨tb, pb, qb⟩ := hb.p
  obtain ⟨tc, pc, qc⟩ := hc.p
  refine ⟨_, pe_dget2 hu pa pb pc ⟨h1, h2, h3, h4⟩, fun ρ σ own H Q R k => qa ρ σ own H _ R ?_⟩
  unfold eGet2 at k
  revert k
  cases fa ρ with
  | er => exact id
  | ex c => exact id
  | ok y =>
    intro k v H1 s1 r1
    rw [bind_ok] at k
    by_cases hd : isDctD y = true
    · rw [if_pos hd] at k
      obtain ⟨ad, rfl, hD⟩ := isD_of r1 hd
      refine ⟨ad, rfl, hD, qb ρ σ own H1 _ (R.grow s1) ?_⟩
      revert k
      cases fb ρ with
      | er => exact id
      | ex c => exact fun k cv d H' i s => k cv d H' i (s1.trans s)
      | ok x =>
        intro k w H2 s2 r2
        refine qc ρ σ own H2 _ ((R.grow s1).grow s2) ?_
        revert k
        cases fc ρ with
        | er => exact id
        | ex c => exact fun k cv d H' i s => k cv d H' i ((s1.trans s2).trans s)
        | ok d =>
          intro k u H3 s3 r3
          have k' : PX X W S0 H0 own .E H σ Q (getG y x d) := k
          unfold getG at k'
          have rx : RM X.K S0 H0 own .O H3 H3 w x := (r2.grow s3).toO
          have ry : RM X.K S0 H0 own .O H3 H3 (.ref ad) y := (r1.grow (s2.trans s3)).toO
          cases hl : lookD x y with
          | none => rw [hl] at k'; exact k'.elim
          | some od =>
            rw [hl] at k'
            obtain ⟨a', ov, e1, e2, e3, e4⟩ := dget_of rx ry hl
            cases e1
            refine ⟨ov, e2, ?_⟩
            cases od with
            | none =>
              have e5 : ov = none := by cases ov with | none => rfl | some _ => cases e3
              rw [e5]
              exact k' u H3 ((s1.trans s2).trans s3) r3
            | some r =>
              obtain ⟨vv, e5, e6⟩ := e4 r rfl
              rw [e5]
              exact k' vv H3 ((s1.trans s2).trans s3) e6
    · rw [if_neg hd] at k
      exact k.elim
/-! ### not e, by truth -/
def eNotT (f : Rho → M D) : Rho → M D := fun ρ => M.bind (M.bind (f ρ) truG) fun b => .ok (.bl (!b))
theorem vx_notT (h : VX X W S0 H0 ma e fe) : VX X W S0 H0 m (.UnaryOp .Not e pos) (eNotT fe) := by
  obtain ⟨te, p, q⟩ := h.p
  refine ⟨_, pe_notT p, fun ρ σ own H Q R k => q ρ σ own H _ R ?_⟩
  unfold eNotT at k
  revert k
  cases fe ρ with
  | er => exact id
  | ex c => exact id
  | ok d =>
    intro k v H1 s1 r1
    rw [bind_ok] at k
    cases ht : truG d with
    | er => rw [ht] at k; exact k.elim
    | ex c => exfalso; revert ht; cases d <;> simp [truG] <;> split <;> simp
    | ok b =>
      rw [ht] at k
      exact ⟨b, tru_of r1 ht, k _ H1 s1 (.ofBl _)⟩
/-! ### name += e, of ints -/
def sAug (i : Nat) (fe : Rho → M D) : Rho → Res := fun ρ => match ρ[i]? with
  | some (.sh (.int a)) => ofM ρ (fun d => match d with | .int b => .nx (ρ.set i (.fr (.int (a + b)))) | _ => .er) (fe ρ)
  | some (.fr (.int a)) => ofM ρ (fun d => match d with | .int b => .nx (ρ.set i (.fr (.int (a + b)))) | _ => .er) (fe ρ)
  | _ => .er
theorem vs_aug {i : Nat} {pos' : Pos} (hN : X.N.Nodup) (h : VX X W S0 H0 ma e fe) (hi : X.N[i]? = some x := by rfl) (hx : Loc X.env.scope x := by first | exact Or.inl rfl | exact Or.inr rfl)
    (hf : X.fn x = true ∨ X.env.scope.names.lookup x = some .local := by first | exact .inl rfl | exact .inr rfl) : VS X W S0 H0 rm (.AugAssign (.Name x pos') .Add e pos) (sAug i fe) := by
  obtain ⟨te, p, q⟩ := h.p
  refine ⟨_, ps_aug hN hi hx p ip_add hf, fun ρ σ own H D R k => ?_⟩
  have main (a : Int) (hv : σ[i]? = some (some (.int a))) (k : PSt X W S0 H0 rm own H D (ofM ρ (fun d => match d with | .int b => .nx (ρ.set i (.fr (.int (a + b)))) | _ => .er) (fe ρ))) : tAug i te (ipI fun i j => i + j) D σ H := by
    refine ⟨_, hv, q ρ σ own H _ R ?_⟩
    revert k
    cases fe ρ with
    | er => exact id
    | ex c => exact fun k cv d H' ic s => k cv d σ own H' ic (R.grow s) (Fra.same s)
    | ok d =>
      intro k v H1 s1 r1
      cases d with
      | int b =>
        rw [r1.isInt]
        refine ⟨a, b, rfl, rfl, ?_⟩
        exact k _ own H1 ((R.grow s1).setFr (.int _)) (Fra.same s1)
      | _ => exact k.elim
  unfold sAug at k
  split at k
  · next a ha =>
    obtain ⟨v, e1, r⟩ := R.sh i _ ha
    cases r
    exact main a e1 k
  · next a ha =>
    obtain ⟨v, e1, r⟩ := R.fr i _ ha
    cases r
    exact main a e1 k
  · exact k.elim
/-! ### list.clear, reverse, insert, extend -/
theorem mg_clr : MutG X rClear clrE := by
  intro S H a xs vs ds as ds' Q h r r2 e k
  unfold clrE at e
  cases as with
  | nil =>
    cases r2
    cases e
    exact ⟨a, xs, rfl, rfl, h, k _ _ .nil⟩
  | cons _ _ => cases e
end
end VL
set_option Elab.async false
set_option linter.all false
set_option maxRecDepth 100000
/-! VL10: divmod. -/
namespace VL
open PySem L2 PySem.Spec PyProof.Rows
section
variable {X : Cx} {W : WX} {S0 : Addr → Prop} {H0 : Hp} {rm m ma mb mc : Md} {pos apos cpos px : Pos} {e e2 a b c o : Expr} {es : List Expr} {fe f2 fa fb fc : Rho → M D} {fas : Rho → M (List D)} {x : Str}
def rDm : List V → Hp → VK → Prop := fun xs H Q => ∃ i j, xs = [V.int i, V.int j] ∧ CDivN i j ∧ ∀ p, H p = none → Q (.ref p) (upd H p (.tup [.int (i.fdiv j), .int (i.fmod j)]))
theorem call_dm : CallR X (.builtin "divmod") rDm := by
  intro pins s σ H xs us Q I r h
  obtain ⟨i, j, rfl, c, q⟩ := h
  obtain ⟨u, w', rfl, ⟨t, rfl⟩, ⟨t', rfl⟩⟩ := vals2 r
  have hn : H s.heap.objs.size = none := I.hok.fresh (Nat.le_refl _)
  exact divmod_int c.1 ⟨.ref s.heap.objs.size, _, I.laid (o := .tup [.int (i.fdiv j), .int (i.fmod j)]) (fun b o e => Heap.get?_push_of_some _ e) (Nat.le_refl _) ⟨show 2 ≤ sizeLine by rw [sizeLine_eq]; decide, _, .cons ⟨s.toks, rfl⟩ (.cons ⟨s.toks + 1, rfl⟩ .nil), ⟨_, Heap.get?_push_size s.heap rfl, rfl, 0, rfl⟩⟩, rfl, q _ hn⟩ (.inl (PyProof.noPylong_small c.2))
def dmG : List D → M D := fun xs => match xs with
  | [.int i, .int j] => if CDivN i j then .ok (.tup [.int (i.fdiv j), .int (i.fmod j)]) else .er
  | _ => .er
theorem cg_dm : CallG X W S0 H0 .N rDm dmG := by
  intro ρ σ own H Q vs ds R r k
  unfold dmG at k
  split at k
  · next i j =>
    obtain ⟨v, w, rfl, r1, r2⟩ := pair2 r
    rw [r1.isInt, r2.isInt]
    by_cases c : CDivN i j
    · rw [if_pos c] at k
      exact ⟨i, j, rfl, c, fun p hp => k _ _ (same_upd hp) (.tup upd_same (.cons (.int _) (.cons (.int _) .nil)))⟩
    · rw [if_neg c] at k
      exact k.elim
  · exact k.elim
/-! ### a, b = x, y -/
def sPar2 (i j : Nat) (fa : Rho → M (List D)) : Rho → Res := fun ρ => match fa ρ with
  | .ok [x, y] => .nx ((ρ.set i (.sh x)).set j (.sh y))
  | .ex c => .ex c ρ
  | _ => .er
def sPar3 (i j l : Nat) (fa : Rho → M (List D)) : Rho → Res := fun ρ => match fa ρ with
  | .ok [x, y, z] => .nx (((ρ.set i (.sh x)).set j (.sh y)).set l (.sh z))
  | .ex c => .ex c ρ
  | _ => .er
theorem par_p2 {Q : V → D → Prop} {vs : List V} {x y : D} (r : Paired Q vs [x, y]) : ∃ v w, vs = [v, w] ∧ Q v x ∧ Q w y := by
  cases r with
  | cons r1 t =>
    cases t with
    | cons r2 t =>
      cases t
      exact ⟨_, _, rfl, r1, r2⟩
theorem par_p3 {Q : V → D → Prop} {vs : List V} {x y z : D} (r : Paired Q vs [x, y, z]) : ∃ u v w, vs = [u, v, w] ∧ Q u x ∧ Q v y ∧ Q w z := by
  cases r with
  | cons r1 t =>
    obtain ⟨v, w, rfl, r2, r3⟩ := par_p2 t
    exact ⟨_, _, _, rfl, r1, r2, r3⟩
theorem vs_par2 {i j : Nat} {x y : Str} {p1 p2 pt : Pos} {kt k2 : Nat} {pt2 : Pos} (hc : X.calm = true) (hN : X.N.Nodup) (h : VA X W S0 H0 .E [a, b] fas) (hi : X.N[i]? = some x := by rfl) (hj : X.N[j]? = some y := by rfl) (hij : i ≠ j := by decide)
    (hx : X.env.scope.names.lookup x = some .local := by rfl) (hy : X.env.scope.names.lookup y = some .local := by rfl)
    (hw : swappedStores [.Tuple [.Name x p1, .Name y p2] kt pt] (.Tuple [a, b] k2 pt2) X.env = pure (some [x, y]) := by rfl)
    (hs : swapsWithSole [.Tuple [.Name x p1, .Name y p2] kt pt] (.Tuple [a, b] k2 pt2) pos.line X.env = pure false := by rfl) : VS X W S0 H0 rm (.Assign [.Tuple [.Name x p1, .Name y p2] kt pt] (.Tuple [a, b] k2 pt2) pos) (sPar2 i j fas) := by
  obtain ⟨ta, pa, qa⟩ := h.p
  refine ⟨_, ps_par hc hN hi hj hij hx hy pa hw hs, fun ρ σ own H D R k => qa ρ σ own H _ R ?_⟩
  unfold sPar2 at k
  revert k
  cases fas ρ with
  | er => exact id
  | ex c => exact fun k cv d H' i s => k cv d σ own H' i (R.grow s) (.same s)
  | ok ds =>
    intro k vs H1 s1 r1
    split at k
    · next u w e =>
      cases e
      obtain ⟨v1, v2, rfl, r2, r3⟩ := par_p2 r1
      exact ⟨_, _, rfl, k _ own H1 (((R.grow s1).setSh r2).setSh r3) (.same s1)⟩
    · next e => cases e
    · exact k.elim
theorem vs_par3 {i j l : Nat} {x y z : Str} {p1 p2 p3 pt : Pos} {kt k2 : Nat} {pt2 : Pos} (hc : X.calm = true) (hN : X.N.Nodup) (h : VA X W S0 H0 .E [a, b, c] fas) (hi : X.N[i]? = some x := by rfl) (hj : X.N[j]? = some y := by rfl) (hl : X.N[l]? = some z := by rfl) (hij : i ≠ j := by decide) (hil : i ≠ l := by decide) (hjl : j ≠ l := by decide)
    (hx : X.env.scope.names.lookup x = some .local := by rfl) (hy : X.env.scope.names.lookup y = some .local := by rfl) (hz : X.env.scope.names.lookup z = some .local := by rfl)
    (hw : swappedStores [.Tuple [.Name x p1, .Name y p2, .Name z p3] kt pt] (.Tuple [a, b, c] k2 pt2) X.env = pure (some [x, y, z]) := by rfl)
    (hs : swapsWithSole [.Tuple [.Name x p1, .Name y p2, .Name z p3] kt pt] (.Tuple [a, b, c] k2 pt2) pos.line X.env = pure false := by rfl) : VS X W S0 H0 rm (.Assign [.Tuple [.Name x p1, .Name y p2, .Name z p3] kt pt] (.Tuple [a, b, c] k2 pt2) pos) (sPar3 i j l fas) := by
  obtain ⟨ta, pa, qa⟩ := h.p
  refine ⟨_, ps_par3 hc hN hi hj hl hij hil hjl hx hy hz pa hw hs, fun ρ σ own H D R k => qa ρ σ own H _ R ?_⟩
  unfold sPar3 at k
  revert k
  cases fas ρ with
  | er => exact id
  | ex c => exact fun k cv d H' i s => k cv d σ own H' i (R.grow s) (.same s)
  | ok ds =>
    intro k vs H1 s1 r1
    split at k
    · next u w t e =>
      cases e
      obtain ⟨v1, v2, v3, rfl, r2, r3, r4⟩ := par_p3 r1
      exact ⟨_, _, _, rfl, k _ own H1 ((((R.grow s1).setSh r2).setSh r3).setSh r4) (.same s1)⟩
    · next e => cases e
    · exact k.elim
/-! ### s.join(l) -/
def strsD : List D → Option (List Str)
  | [] => some []
  | .str i :: ds => (strsD ds).map (i :: ·)
  | _ => none
theorem RpA.strsD {K : PySem.W.Frag} {S : Addr → Prop} {H : Hp} : ∀ {vs : List V} {ds : List D} {ns : List Str}, RpA K S H vs ds → VL.strsD ds = some ns → vs = ns.map V.str
  | _, _, _, .nil, e => by cases e; rfl
  | _, d :: ds, _, .cons h r, e => by
    cases d with
    | str b =>
      cases h
      have e' : (VL.strsD ds).map (b :: ·) = some _ := e
      cases e1 : VL.strsD ds with
      | none => rw [e1] at e'; cases e'
      | some cs =>
        rw [e1] at e'
        cases e'
        rw [RpA.strsD r e1]
        rfl
    | _ => cases e
def joinG (a : Str) (l : D) : M D := match l with
  | .lst ds => (match strsD ds with
    | some ys => if (ys.map (·.length)).sum + ys.length * a.length ≤ 16777216 then .ok (.str (Txt.join a ys)) else .er
    | none => .er)
  | .tup ds => (match strsD ds with
    | some ys => if (ys.map (·.length)).sum + ys.length * a.length ≤ 16777216 then .ok (.str (Txt.join a ys)) else .er
    | none => .er)
  | _ => .er
def eJoin (fa fb : Rho → M D) : Rho → M D := fun ρ => M.bind (fa ρ) fun x => match x with
  | .str a => M.bind (fb ρ) (joinG a)
  | _ => .er
theorem vx_join (ha : VX X W S0 H0 ma a fa) (hb : VX X W S0 H0 mb b fb) (hs : starEach [b] X.env = [(false, eval b X.env)] := by rfl) (hbase : attributeBase a "join" X.env (eval a X.env) = eval a X.env := by rfl) (hline : (apos.endLine == cpos.line) = true := by rfl) :
    VX X W S0 H0 m (.Call (.Attribute a "join" apos) [b] [] cpos) (eJoin fa fb) := by
  obtain ⟨ta, pa, qa⟩ := ha.p
  obtain ⟨tb, pb, qb⟩ := hb.p
  refine ⟨_, pe_join pa pb hs hbase hline, fun ρ σ own H Q R k => qa ρ σ own H _ R ?_⟩
  unfold eJoin at k
  revert k
  cases fa ρ with
  | er => exact id
  | ex c => exact id
  | ok x =>
    intro k v H1 s1 r1
    rw [bind_ok] at k
    cases x with
    | str z =>
      refine ⟨⟨z, r1.isStr⟩, qb ρ σ own H1 _ (R.grow s1) ?_⟩
      revert k
      simp only
      cases fb ρ with
      | er => exact id
      | ex c => exact fun k cv d H' i s => k cv d H' i (s1.trans s)
      | ok l =>
        intro k w H2 s2 r2
        rw [bind_ok] at k
        unfold joinG at k
        split at k
        · split at k
          · next ds ys e =>
            split at k
            · next hl =>
              obtain ⟨ad, xs, rfl, h1, h2⟩ := r2.isLst
              have f := RpA.strsD h2 e
              subst f
              exact ⟨z, ad, ys, r1.isStr, rfl, .inl (.inl h1), hl, k _ H2 (s1.trans s2) (.ofStr _)⟩
            · exact k.elim
          · exact k.elim
        · split at k
          · next ds ys e =>
            split at k
            · next hl =>
              obtain ⟨ad, xs, rfl, h1, h2⟩ := r2.isTup
              have f := RpA.strsD h2 e
              subst f
              exact ⟨z, ad, ys, r1.isStr, rfl, .inr (SqT.of h1), hl, k _ H2 (s1.trans s2) (.ofStr _)⟩
            · exact k.elim
          · exact k.elim
        · exact k.elim
    | _ => exact k.elim
end
end VL
set_option Elab.async false
set_option linter.all false
set_option maxRecDepth 100000
set_option maxHeartbeats 1000000
/-! VL11: zip and enumerate whose source is a text. -/
namespace VL
open PySem L2 PySem.Spec PyProof.Rows
open PySem.Sem (wp)
section
variable {prog : Program} {w : World} {A : Around} {E : Value → Shared → Prop} {s : Shared}
/-- which address is which: the zip, its two tuples, its two sources, what the sources lean on -/
structure ZA (z TI TO i1 i2 : Addr) (f1 f2 : List Addr) : Prop where
  a : TI ≠ z ∧ TO ≠ z ∧ i1 ≠ z ∧ i2 ≠ z ∧ TI ≠ TO ∧ TI ≠ i1 ∧ TI ≠ i2 ∧ TO ≠ i1 ∧ TO ≠ i2 ∧ i1 ≠ i2
  b : z ∉ f1 ∧ TO ∉ f1 ∧ i2 ∉ f1
  c : z ∉ f2 ∧ TO ∉ f2 ∧ i1 ∉ f2
theorem dr_up {it : Addr} {fp : List Addr} {n i : Nat} {P : Nat → Value → Prop} {St : Nat → Heap → Prop} (D : Draws prog w A it fp n P St) {h h' : Heap} {b : Addr} (st : St i h) (hb : b ∉ fp) (k : Heap.SameBut b h h') : St i h' :=
  D.frame i h h' st fun c hc o e => k.extBut c o (fun q => hb (q ▸ hc)) e
variable {z TI TO i1 i2 : Addr} {f1 f2 : List Addr} {n1 n2 i : Nat} {P1 P2 : Nat → Value → Prop} {S1 S2 : Nat → Heap → Prop} {a b : Value}
theorem zx_item {Q : Value → Shared → Prop} (D1 : Draws prog w A i1 f1 n1 P1 S1) (D2 : Draws prog w A i2 f2 n2 P2 S2) (D : ZA z TI TO i1 i2 f1 f2)
    (gz : IsZip s.heap z TI TO .none) (gI : IsPair s.heap TI (.ref i1) (.ref i2)) (gO : IsPair s.heap TO a b) (m1 : S1 i s.heap) (m2 : S2 i s.heap) (l1 : i < n1) (l2 : i < n2)
    (kQ : ∀ x y h' tk, P1 i x → P2 i y → IsZip h' z TI TO (rawInt s.heap.objs.size) → IsPair h' TO x y → S1 (i + 1) h' → S2 (i + 1) h' → IsPair h' s.heap.objs.size x y →
      (∀ c o, c ≠ z → c ≠ TO → c ≠ i1 → c ≠ i2 → s.heap.get? c = some o → h'.get? c = some o) → Q (.ref s.heap.objs.size) { s with heap := h', toks := tk }) :
    wpAny (model prog w) A (Builtin.«zip.__next__» ⟨[.ref z], []⟩) (fun fin s' => ∃ v, fin = .done (.ret v) ∧ Q v s') E s := by
  obtain ⟨hp, gg, dd, tk0, os⟩ := s
  obtain ⟨q1, q2, q3, q4, q5, q6, q7, q8, q9, q10⟩ := D.a
  obtain ⟨p1, p2, p3⟩ := D.b
  obtain ⟨r1, r2, r3⟩ := D.c
  show wpAny (model prog w) A (field (.ref z) 2 >>= _) _ E _
  refine wpAny_bind (wpAny_field gz rfl (x := .bool false) rfl ?_); show wpAny (model prog w) A (field (.ref z) 3 >>= _) _ E _
  refine wpAny_bind (wpAny_field gz rfl (x := .ref TI) rfl (wpAny_bind (wpAny_seqItems gI rfl ?_)))
  show wpAny (model prog w) A (Builtin.SmallTypes.ownedTupleIsFree (.ref z) >>= _) _ E _
  refine wpAny_bind ?_; unfold Builtin.SmallTypes.ownedTupleIsFree
  refine wpAny_bind (wpAny_field gz rfl (x := .none) rfl (wpAny_pure ?_)); simp only [if_true]
  refine wpAny_bind (wpAny_rule (wpAny_bind (wpAny_field gz rfl (x := .ref TO) rfl (wpAny_bind (wpAny_setField_rec gz (by simp) fun j1 y1 k1 => ?_)))))
  replace y1 : IsZip j1 z TI TO .ellipsis := y1
  replace k1 : Heap.SameBut z hp j1 := k1
  refine wpAny_bind ?_; simp only [List.zipIdx_cons, List.zipIdx_nil, List.forIn_cons, List.forIn_nil]
  -- the first source
  refine wpAny_bind (wpAny_bind (wpAny_onRaise ?_)); show wpAny (model prog w) A (Builtin.SmallTypes.nextOf (.ref i1) >>= _) _ _ _
  refine wpAny_bind (D1.item i _ _ _ l1 (dr_up D1 m1 p1 k1) fun x j2 t2 px x1 k2 => wpAny_pure ?_)
  replace k2 : Heap.SameBut i1 j1 j2 := k2
  have o2 : IsPair j2 TO a b := k2.extBut _ _ q8 (k1.extBut _ _ q2 gO)
  refine wpAny_bind (wpAny_seqItems o2 rfl (wpAny_bind (wpAny_updateSeq_pair o2 fun j3 o3 k3 => ?_)))
  replace o3 : IsPair j3 TO x b := o3
  replace k3 : Heap.SameBut TO j2 j3 := k3
  refine wpAny_bind (wpAny_letGo (wpAny_pure ?_))
  -- the second
  refine wpAny_bind (wpAny_bind (wpAny_onRaise ?_)); show wpAny (model prog w) A (Builtin.SmallTypes.nextOf (.ref i2) >>= _) _ _ _
  refine wpAny_bind (D2.item i _ _ _ l2 (dr_up D2 (dr_up D2 (dr_up D2 m2 r1 k1) r3 k2) r2 k3) fun y j4 t4 py x2 k4 => wpAny_pure ?_)
  replace k4 : Heap.SameBut i2 j3 j4 := k4
  have o4 : IsPair j4 TO x b := k4.extBut _ _ q9 o3
  refine wpAny_bind (wpAny_seqItems o4 rfl (wpAny_bind (wpAny_updateSeq_pair o4 fun j5 o5 k5 => ?_)))
  replace o5 : IsPair j5 TO x y := o5
  replace k5 : Heap.SameBut TO j4 j5 := k5
  refine wpAny_bind (wpAny_letGo (wpAny_pure (wpAny_pure ?_)))
  refine wpAny_bind (wpAny_seqItems o5 rfl (wpAny_bind (wpAny_newTuple ?_)))
  have zs : j5.objs.size = hp.objs.size := by rw [k5.1, k4.1, k3.1, k2.1, k1.1]
  have y5 : IsZip j5 z TI TO .ellipsis := k5.extBut _ _ q2.symm (k4.extBut _ _ q4.symm (k3.extBut _ _ q2.symm (k2.extBut _ _ q3.symm y1)))
  have keep : ∀ c o, c ≠ z → c ≠ TO → c ≠ i1 → c ≠ i2 → hp.get? c = some o → j5.get? c = some o := fun c o c1 c2 c3 c4 e =>
    k5.extBut _ _ c2 (k4.extBut _ _ c4 (k3.extBut _ _ c2 (k2.extBut _ _ c3 (k1.extBut _ _ c1 e))))
  have w1 : S1 (i + 1) j5 := dr_up D1 (dr_up D1 (dr_up D1 x1 p2 k3) p3 k4) p2 k5
  have w2 : S2 (i + 1) j5 := dr_up D2 x2 r2 k5
  have zl : z < j5.objs.size := Heap.lt_size y5
  show wpAny (model prog w) A (Builtin.SmallTypes.ownedTupleHandOut (.ref z) (.ref j5.objs.size) >>= _) _ E _
  refine wpAny_bind ?_; unfold Builtin.SmallTypes.ownedTupleHandOut
  have y6 : IsZip (j5.push { cls := .type "tuple", data := .seq #[x, y] }) z TI TO .ellipsis := Heap.get?_push_of_some _ y5
  refine wpAny_bind (wpAny_setField_rec y6 (by simp) fun j7 y7 k7 => ?_)
  replace y7 : IsZip j7 z TI TO (rawInt j5.objs.size) := y7
  refine wpAny_setField_rec y7 (by simp) fun j8 y8 k8 => ?_
  replace y8 : IsZip j8 z TI TO (rawInt j5.objs.size) := y8
  have up : ∀ c o, c ≠ z → j5.get? c = some o → j8.get? c = some o := fun c o c1 e => k8.extBut _ _ c1 (k7.extBut _ _ c1 (Heap.get?_push_of_some _ e))
  have t8 : IsPair j8 j5.objs.size x y := k8.extBut _ _ (Nat.ne_of_gt zl) (k7.extBut _ _ (Nat.ne_of_gt zl) (Heap.get?_push_size _ rfl))
  rw [zs] at y8 t8
  refine wpAny_pure ⟨_, rfl, ?_⟩
  show Q (.ref j5.objs.size) _
  rw [zs]
  exact kQ x y j8 t4 px py y8 (up _ _ q2 o5) (D1.frame _ _ _ w1 fun c hc o e => up c o (fun q => p1 (q ▸ hc)) e) (D2.frame _ _ _ w2 fun c hc o e => up c o (fun q => r1 (q ▸ hc)) e) t8 fun c o c1 c2 c3 c4 e => up c o c1 (keep c o c1 c2 c3 c4 e)
/-- nothing more comes -/
def Stops (prog : Program) (w : World) (A : Around) (it : Addr) (S : Heap → Prop) : Prop := ∀ (s : Shared) (Q : Value → Shared → Prop) (E : Value → Shared → Prop), S s.heap →
  (∀ h' e, Heap.ExtBut it s.heap h' → (∃ o, h'.get? e = some o ∧ o.cls = .type "StopIteration") → E (.ref e) { s with heap := h' }) → wpAny (model prog w) A (Builtin.SmallTypes.nextOf (.ref it)) Q E s
theorem zx_end {Q : Fin → Shared → Prop} (D1 : Draws prog w A i1 f1 n1 P1 S1) (D2 : Draws prog w A i2 f2 n2 P2 S2) (D : ZA z TI TO i1 i2 f1 f2)
    (gz : IsZip s.heap z TI TO .none) (gI : IsPair s.heap TI (.ref i1) (.ref i2)) (gO : IsPair s.heap TO a b) (m1 : S1 i s.heap) (m2 : S2 i s.heap) (hn : Stops prog w A i1 (S1 i) ∨ (i < n1 ∧ Stops prog w A i2 (S2 i)))
    (kE : ∀ h' e tk, (∀ c o, c ≠ z → c ≠ TO → c ≠ i1 → c ≠ i2 → s.heap.get? c = some o → h'.get? c = some o) → (∃ o, h'.get? e = some o ∧ o.cls = .type "StopIteration") → E (.ref e) { s with heap := h', toks := tk }) :
    wpAny (model prog w) A (Builtin.«zip.__next__» ⟨[.ref z], []⟩) Q E s := by
  obtain ⟨hp, gg, dd, tk0, os⟩ := s
  obtain ⟨q1, q2, q3, q4, q5, q6, q7, q8, q9, q10⟩ := D.a
  obtain ⟨p1, p2, p3⟩ := D.b
  obtain ⟨r1, r2, r3⟩ := D.c
  show wpAny (model prog w) A (field (.ref z) 2 >>= _) _ E _
  refine wpAny_bind (wpAny_field gz rfl (x := .bool false) rfl ?_); show wpAny (model prog w) A (field (.ref z) 3 >>= _) _ E _
  refine wpAny_bind (wpAny_field gz rfl (x := .ref TI) rfl (wpAny_bind (wpAny_seqItems gI rfl ?_)))
  show wpAny (model prog w) A (Builtin.SmallTypes.ownedTupleIsFree (.ref z) >>= _) _ E _
  refine wpAny_bind ?_; unfold Builtin.SmallTypes.ownedTupleIsFree
  refine wpAny_bind (wpAny_field gz rfl (x := .none) rfl (wpAny_pure ?_)); simp only [if_true]
  refine wpAny_bind (wpAny_rule (wpAny_bind (wpAny_field gz rfl (x := .ref TO) rfl (wpAny_bind (wpAny_setField_rec gz (by simp) fun j1 y1 k1 => ?_)))))
  replace y1 : IsZip j1 z TI TO .ellipsis := y1
  replace k1 : Heap.SameBut z hp j1 := k1
  refine wpAny_bind ?_; simp only [List.zipIdx_cons, List.zipIdx_nil, List.forIn_cons, List.forIn_nil]
  refine wpAny_bind (wpAny_bind (wpAny_onRaise ?_)); show wpAny (model prog w) A (Builtin.SmallTypes.nextOf (.ref i1) >>= _) _ _ _
  rcases hn with hn | ⟨l1, hn⟩
  · refine wpAny_bind (hn _ _ _ (dr_up D1 m1 p1 k1) fun j2 e k2 he => ?_)
    replace k2 : Heap.ExtBut i1 j1 j2 := k2
    obtain ⟨oe, o1, o2⟩ := he
    have y2 : IsZip j2 z TI TO .ellipsis := k2 _ _ q3.symm y1
    have ne : e ≠ z := fun q => by subst q; rw [y2] at o1; cases o1; simp at o2
    exact wpAny_setField_rec y2 (by simp) fun j3 _ k3 => kE j3 e _ (fun c o c1 _ c3 _ g => k3.extBut _ _ c1 (k2 _ _ c3 (k1.extBut _ _ c1 g))) ⟨oe, k3.extBut _ _ ne o1, o2⟩
  · refine wpAny_bind (D1.item i _ _ _ l1 (dr_up D1 m1 p1 k1) fun x j2 t2 px x1 k2 => wpAny_pure ?_)
    replace k2 : Heap.SameBut i1 j1 j2 := k2
    have o2 : IsPair j2 TO a b := k2.extBut _ _ q8 (k1.extBut _ _ q2 gO)
    refine wpAny_bind (wpAny_seqItems o2 rfl (wpAny_bind (wpAny_updateSeq_pair o2 fun j3 o3 k3 => ?_)))
    replace k3 : Heap.SameBut TO j2 j3 := k3
    refine wpAny_bind (wpAny_letGo (wpAny_pure ?_))
    refine wpAny_bind (wpAny_bind (wpAny_onRaise ?_)); show wpAny (model prog w) A (Builtin.SmallTypes.nextOf (.ref i2) >>= _) _ _ _
    refine wpAny_bind (hn _ _ _ (dr_up D2 (dr_up D2 (dr_up D2 m2 r1 k1) r3 k2) r2 k3) fun j4 e k4 he => ?_)
    replace k4 : Heap.ExtBut i2 j3 j4 := k4
    obtain ⟨oe, o5, o6⟩ := he
    have y4 : IsZip j4 z TI TO .ellipsis := k4 _ _ q4.symm (k3.extBut _ _ q2.symm (k2.extBut _ _ q3.symm y1))
    have ne : e ≠ z := fun q => by subst q; rw [y4] at o5; cases o5; simp at o6
    exact wpAny_setField_rec y4 (by simp) fun j5 _ k5 => kE j5 e _ (fun c o c1 c2 c3 c4 g => k5.extBut _ _ c1 (k4 _ _ c4 (k3.extBut _ _ c2 (k2.extBut _ _ c3 (k1.extBut _ _ c1 g))))) ⟨oe, k5.extBut _ _ ne o5, o6⟩
theorem zx_next {Q : Option Value → Shared → Prop} (D1 : Draws prog w A.in1 i1 f1 n1 P1 S1) (D2 : Draws prog w A.in1 i2 f2 n2 P2 S2) (D : ZA z TI TO i1 i2 f1 f2)
    (gz : IsZip s.heap z TI TO .none) (gI : IsPair s.heap TI (.ref i1) (.ref i2)) (gO : IsPair s.heap TO a b) (m1 : S1 i s.heap) (m2 : S2 i s.heap) (l1 : i < n1) (l2 : i < n2)
    (kQ : ∀ x y h' tk, P1 i x → P2 i y → IsZip h' z TI TO (rawInt s.heap.objs.size) → IsPair h' TO x y → S1 (i + 1) h' → S2 (i + 1) h' → IsPair h' s.heap.objs.size x y →
      (∀ c o, c ≠ z → c ≠ TO → c ≠ i1 → c ≠ i2 → s.heap.get? c = some o → h'.get? c = some o) → Q (some (.ref s.heap.objs.size)) { s with heap := h', toks := tk }) :
    wpAny (model prog w) A (pyNext (.ref z)) Q E s := by
  have T : s.TypeIs (.ref z) "zip" := ⟨_, gz, rfl⟩
  unfold pyNext
  refine wpAny_bind (wpAny_attempt (wpAny_callSpecial?_slot (name := Str.ofString "__next__") T F.slot_zip_next (wpAny_call_entry F.slot_zip_next T F.entry_zip_next ?_ (F.args_zip_next_1 _))))
  exact zx_item D1 D2 D gz gI gO m1 m2 l1 l2 fun x y h' tk g1 g2 g3 g4 g5 g6 g7 g8 => wpAny_pure (kQ x y h' tk g1 g2 g3 g4 g5 g6 g7 g8)
theorem zx_stop {Q : Option Value → Shared → Prop} (D1 : Draws prog w A.in1 i1 f1 n1 P1 S1) (D2 : Draws prog w A.in1 i2 f2 n2 P2 S2) (D : ZA z TI TO i1 i2 f1 f2)
    (gz : IsZip s.heap z TI TO .none) (gI : IsPair s.heap TI (.ref i1) (.ref i2)) (gO : IsPair s.heap TO a b) (m1 : S1 i s.heap) (m2 : S2 i s.heap) (hn : Stops prog w A.in1 i1 (S1 i) ∨ (i < n1 ∧ Stops prog w A.in1 i2 (S2 i)))
    (kQ : ∀ h' tk, (∀ c o, c ≠ z → c ≠ TO → c ≠ i1 → c ≠ i2 → s.heap.get? c = some o → h'.get? c = some o) → Q none { s with heap := h', toks := tk }) :
    wpAny (model prog w) A (pyNext (.ref z)) Q E s := by
  have T : s.TypeIs (.ref z) "zip" := ⟨_, gz, rfl⟩
  unfold pyNext
  refine wpAny_bind (wpAny_attempt (wpAny_callSpecial?_slot (name := Str.ofString "__next__") T F.slot_zip_next (wpAny_call_entry F.slot_zip_next T F.entry_zip_next ?_ (F.args_zip_next_1 _))))
  refine zx_end D1 D2 D gz gI gO m1 m2 hn fun h' e tk g ⟨o, o1, o2⟩ => ?_
  exact wpAny_bind (wpAny_isInstance (T := "StopIteration") (b := true) ⟨o, o1, o2⟩ isSubtype_stop (wpAny_pure (kQ h' tk g)))
/-! ### zip(list, text) -/
def sigD (x : Str) : Nat → Value → Prop := fun i v => ∃ c u, x.cps[i]? = some c ∧ v = .str ⟨#[c]⟩ u
theorem dr_str {prog : Program} {w : World} {A : Around} (hh : A.handled = none) (it : Addr) (x : Str) (t : Tok) : Draws prog w A it [it] x.cps.size (sigD x) (fun i h => h.IsStrIter it (strIterType x) x t i) := by
  unfold strIterType
  split
  · exact Draws.strAscii hh it x t
  · exact Draws.strWide hh it x t
theorem pyIter_sig {x : Str} {t : Tok} {Q : Value → Shared → Prop} (h : Q (.ref s.heap.objs.size) { s with heap := s.heap.push { cls := .type (strIterType x), data := .fields #[.str x t, .int 0 0] } }) : wpAny (model prog w) A (pyIter (.str x t)) Q E s := by
  unfold strIterType at h
  split at h
  · next c => exact wpAny_pyIter_ascii (by simpa using c) h
  · next c => exact wpAny_pyIter_wide (by simpa using c) h
abbrev zx1 (h : Heap) (l : Addr) : Heap := h.push { cls := .type "list_iterator", data := .fields #[.ref l, .int 0 0] }
abbrev zx2 (h : Heap) (l : Addr) (x : Str) (t : Tok) : Heap := (zx1 h l).push { cls := .type (strIterType x), data := .fields #[.str x t, .int 0 0] }
abbrev zx3 (h : Heap) (l : Addr) (x : Str) (t : Tok) : Heap := (zx2 h l x t).push { cls := .type "tuple", data := .seq #[.ref h.objs.size, .ref (zx1 h l).objs.size] }
abbrev zx4 (h : Heap) (l : Addr) (x : Str) (t : Tok) : Heap := (zx3 h l x t).push { cls := .type "tuple", data := .seq #[.none, .none] }
abbrev zx5 (h : Heap) (l : Addr) (x : Str) (t : Tok) : Heap := (zx4 h l x t).push { cls := .type "zip", data := .fields #[.none, .bool false, .bool false, .ref (zx2 h l x t).objs.size, .ref (zx3 h l x t).objs.size] }
theorem zx_new (l : Addr) (xs : Array Value) (x : Str) (t : Tok) :
    Meets (Builtin.«zip.__new__» ⟨[.type "zip", .ref l, .str x t], []⟩) (fun _ R s => s.heap.IsList l xs ∧ R (.ok (.ret (.ref (zx4 s.heap l x t).objs.size))) { s with heap := zx5 s.heap l x t }) :=
  .of_wp fun prog w A R s ⟨hl, h⟩ => by
    obtain ⟨hp, g, d, tk, os⟩ := s
    have sb := sub_zip
    have L : Heap.IsList (Shared.heap ⟨hp, g, d, tk, os⟩) l xs := hl
    wp_walk using wpAny_pyIter_list L, pyIter_sig
    exact ⟨_, rfl, h⟩
theorem call_zx {l : Addr} {xs : Array Value} {x : Str} {t : Tok} {Q : Value → Shared → Prop} (hl : s.heap.IsList l xs)
    (h : ∀ h' n, n = s.heap.objs.size → IsZip h' (n + 4) (n + 2) (n + 3) .none → IsPair h' (n + 2) (.ref n) (.ref (n + 1)) → IsPair h' (n + 3) .none .none → h'.IsListIter n l 0 → h'.IsStrIter (n + 1) (strIterType x) x t 0 →
      (∀ c o, s.heap.get? c = some o → h'.get? c = some o) → Q (.ref (n + 4)) { s with heap := h' }) :
    wpAny (model prog w) A (call (.type "zip") [.ref l, .str x t]) Q E s := by
  refine callType_new F.called_zip (by decide) (F.typeCall_zip_2 _ _) (F.newCall_zip_2 _ _) (fun obj => F.args_object_init_3 obj _ _) F.entry_zip_new (zx_new l xs x t) ⟨hl, ?_⟩
  have e1 : (zx1 s.heap l).objs.size = s.heap.objs.size + 1 := Heap.size_push ..
  have e2 : (zx2 s.heap l x t).objs.size = s.heap.objs.size + 2 := by rw [Heap.size_push, e1]
  have e3 : (zx3 s.heap l x t).objs.size = s.heap.objs.size + 3 := by rw [Heap.size_push, e2]
  have e4 : (zx4 s.heap l x t).objs.size = s.heap.objs.size + 4 := by rw [Heap.size_push, e3]
  have g5 : (zx5 s.heap l x t).get? (zx4 s.heap l x t).objs.size = some _ := Heap.get?_push_size _ rfl
  have g4 : (zx5 s.heap l x t).get? (zx3 s.heap l x t).objs.size = some _ := Heap.get?_push_of_some _ (Heap.get?_push_size _ rfl)
  have g3 : (zx5 s.heap l x t).get? (zx2 s.heap l x t).objs.size = some _ := Heap.get?_push_of_some _ (Heap.get?_push_of_some _ (Heap.get?_push_size _ rfl))
  have g2 : (zx5 s.heap l x t).get? (zx1 s.heap l).objs.size = some _ := Heap.get?_push_of_some _ (Heap.get?_push_of_some _ (Heap.get?_push_of_some _ (Heap.get?_push_size _ rfl)))
  have g1 : (zx5 s.heap l x t).get? s.heap.objs.size = some _ := Heap.get?_push_of_some _ (Heap.get?_push_of_some _ (Heap.get?_push_of_some _ (Heap.get?_push_of_some _ (Heap.get?_push_size _ rfl))))
  show (∃ o, (zx5 s.heap l x t).get? (zx4 s.heap l x t).objs.size = some o ∧ _) ∧ _
  rw [e2, e3, e4] at g5
  rw [e1, e2] at g3
  rw [e3] at g4
  rw [e1] at g2
  rw [e4]
  exact ⟨⟨_, g5, rfl⟩, h _ _ rfl g5 g3 g4 ⟨_, g1, rfl, rfl⟩ ⟨_, g2, rfl, rfl⟩ fun c o e => Heap.get?_push_of_some _ (Heap.get?_push_of_some _ (Heap.get?_push_of_some _ (Heap.get?_push_of_some _ (Heap.get?_push_of_some _ e))))⟩
end
/-- the list at a and the text x, in new pairs -/
def ItzX (K : PySem.W.Frag) (a : Addr) (x : Str) : It :=
  ⟨fun i H => ∃ (xs : List V) (v : V), SqL K H a xs ∧ xs[i]? = some v ∧ i < x.cps.size,
    fun i H v H' => ∃ T y c, v = .ref T ∧ H T = none ∧ H' = upd H T (.tup [y, .str ⟨#[c]⟩]) ∧ (∀ xs, SqL K H a xs → xs[i]? = some y) ∧ x.cps[i]? = some c,
    fun i H => ∃ xs : List V, SqL K H a xs ∧ (xs.length ≤ i ∨ x.cps.size ≤ i)⟩
theorem turn_zx {P : Program} {w : World} {K : PySem.W.Frag} {elts : List Expr} {kk : Nat} {tpos : Pos} {a z TI TO i1 i2 : Addr} {x : Str} {t : Tok} (D : ZA z TI TO i1 i2 [i1, a] [i2]) :
    Turn P w K (.Tuple elts kk tpos) (ItzX K a x) [z, TI, TO, i1, i2] z (fun i h => IsZip h z TI TO .none ∧ IsPair h TI (.ref i1) (.ref i2) ∧ (∃ p q, IsPair h TO p q) ∧ h.IsListIter i1 a i ∧ h.IsStrIter i2 (strIterType x) x t i) where
  mem := by simp
  obj := fun i h st c hc => by
    obtain ⟨gz, gI, ⟨p, q, gO⟩, ⟨o1, e1, _, d1⟩, ⟨o2, e2, _, d2⟩⟩ := st
    simp only [List.mem_cons, List.not_mem_nil, or_false] at hc
    rcases hc with q | q | q | q | q <;> rw [q]
    · exact ⟨_, gz, fun v q => nomatch q⟩
    · exact ⟨_, gI, fun v q => nomatch q⟩
    · exact ⟨_, gO, fun v q => nomatch q⟩
    · exact ⟨o1, e1, fun v q => by rw [d1] at q; cases q⟩
    · exact ⟨o2, e2, fun v q => by rw [d2] at q; cases q⟩
  keep := fun i h h' st k => by
    obtain ⟨gz, gI, ⟨p, q, gO⟩, m1, ⟨o2, e2, d2⟩⟩ := st
    exact ⟨k z (by simp) _ gz, k TI (by simp) _ gI, ⟨p, q, k TO (by simp) _ gO⟩, m1.at fun o q => k i1 (by simp) o q, ⟨o2, k i2 (by simp) _ e2, d2⟩⟩
  item := by
    intro X hP hw hK hc i pins s σ H E I hf st hg
    subst hP hw hK
    obtain ⟨gz, gI, ⟨p0, q0, gO⟩, m1, m2⟩ := st
    obtain ⟨xs, y, hq, hy, hl⟩ := hg
    obtain ⟨its, rv, p, _⟩ := I.list hq
    obtain ⟨u, hu, ru⟩ := rv.get hy
    have zl : z < s.heap.objs.size := Heap.lt_size gz
    have hd1 : i < its.toArray.size := by rw [List.size_toArray]; exact (List.getElem?_eq_some_iff.mp hu).1
    obtain ⟨q1, q2, q3, q4, q5, q6, q7, q8, q9, q10⟩ := D.a
    have ha1 : a ≠ i1 := fun e => by
      obtain ⟨o, e1, c1, _⟩ := m1
      obtain ⟨o', e2, c2, _⟩ := p.isList
      rw [← e, e2] at e1
      cases e1
      rw [c2] at c1
      exact absurd (Value.type.inj c1) (by decide)
    have D1 : Draws X.prog X.w X.A.in1 i1 [i1, a] its.toArray.size (fun i v => its.toArray[i]? = some v) (fun i h => h.IsListIter i1 a i ∧ h.IsList a its.toArray) := Draws.list (A := X.A.in1) (show X.A.in1.handled = none from I.ok.hd hc) i1 a ha1 its.toArray
    have D2 : Draws X.prog X.w X.A.in1 i2 [i2] x.cps.size (sigD x) (fun i h => h.IsStrIter i2 (strIterType x) x t i) := dr_str (A := X.A.in1) (show X.A.in1.handled = none from I.ok.hd hc) i2 x t
    refine zx_next (i := i) D1 D2 D gz gI gO ⟨m1, p.isList⟩ m2 hd1 hl fun v1 v2 h' tk w1 w2 g1 g2 g3 g4 g5 g6 => ?_
    obtain ⟨c, tc, hcx, rfl⟩ := w2
    have e1 : v1 = u := by
      rw [List.getElem?_toArray, hu] at w1
      exact (Option.some.inj w1).symm
    subst e1
    refine ⟨_, rfl, wpAny_letOwnedTupleGo_zip (s := { s with heap := h', toks := tk }) g1 fun h2 g1' sb => ?_⟩
    have hT2 : h2.get? s.heap.objs.size = some { cls := .type "tuple", data := .seq #[v1, .str ⟨#[c]⟩ tc] } := (sb.2 _ (Nat.ne_of_gt zl)).trans g5
    have new : ObjOk X.prog X.w (upd H s.heap.objs.size (.tup [y, .str ⟨#[c]⟩])) h2 s.heap.objs.size (.tup [y, .str ⟨#[c]⟩]) :=
      ⟨show 2 ≤ sizeLine by rw [sizeLine_eq]; decide, [v1, .str ⟨#[c]⟩ tc], .cons ru (.cons ⟨tc, rfl⟩ .nil), ⟨_, hT2, rfl, _, rfl⟩⟩
    have nin {c : Addr} (hb : c ∉ [z, TI, TO, i1, i2]) : c ≠ z ∧ c ≠ TI ∧ c ≠ TO ∧ c ≠ i1 ∧ c ≠ i2 := by
      simp only [List.mem_cons, List.not_mem_nil, or_false, not_or] at hb
      exact hb
    have I1 : Inv X pins σ (upd H s.heap.objs.size (.tup [y, .str ⟨#[c]⟩])) { s with heap := h2, toks := tk } :=
      I.turnedNew (t' := tk) (ch := [z, TI, TO, i1, i2]) (fun c o hb q => by
        obtain ⟨b1, b2, b3, b4, b5⟩ := nin hb
        exact (sb.2 c b1).trans (g6 c o b1 b3 b4 b5 q)) hf (Nat.le_refl _) new
    refine ⟨.ref s.heap.objs.size, _, I1, rfl, ⟨_, y, c, rfl, I.hok.fresh (Nat.le_refl _), rfl, fun l hl => by rw [I.list_inj hl hq]; exact hy, hcx⟩, ⟨g1', ?_, ⟨v1, .str ⟨#[c]⟩ tc, ?_⟩, ?_, ?_⟩, fun c hcm => ?_⟩
    · exact (sb.2 _ q1).trans (g6 _ _ q1 q5 q6 q7 gI)
    · exact (sb.2 _ q2).trans g2
    · exact g3.1.at fun o q => (sb.2 _ q3).trans q
    · obtain ⟨o, e, r⟩ := g4
      exact ⟨o, (sb.2 _ q4).trans e, r⟩
    · have hlt : c < s.heap.objs.size := by
        simp only [List.mem_cons, List.not_mem_nil, or_false] at hcm
        rcases hcm with q | q | q | q | q <;> rw [q]
        · exact zl
        · exact Heap.lt_size gI
        · exact Heap.lt_size gO
        · obtain ⟨_, e1, _⟩ := m1; exact Heap.lt_size e1
        · obtain ⟨_, e2, _⟩ := m2; exact Heap.lt_size e2
      rw [upd_ne (Nat.ne_of_lt hlt)]
      exact (hf c hcm).1
  done := by
    intro X hP hw hK hc i pins s σ H E I hf st hg
    subst hP hw hK
    obtain ⟨gz, gI, ⟨p0, q0, gO⟩, m1, m2⟩ := st
    obtain ⟨xs, hq, h3⟩ := hg
    obtain ⟨its, rv, p, _⟩ := I.list hq
    have hlen := rv.length
    have ha1 : a ≠ i1 := fun e => by
      obtain ⟨o, e1, c1, _⟩ := m1
      obtain ⟨o', e2, c2, _⟩ := p.isList
      rw [← e, e2] at e1
      cases e1
      rw [c2] at c1
      exact absurd (Value.type.inj c1) (by decide)
    have D1 : Draws X.prog X.w X.A.in1 i1 [i1, a] its.toArray.size (fun i v => its.toArray[i]? = some v) (fun i h => h.IsListIter i1 a i ∧ h.IsList a its.toArray) := Draws.list (A := X.A.in1) (show X.A.in1.handled = none from I.ok.hd hc) i1 a ha1 its.toArray
    have D2 : Draws X.prog X.w X.A.in1 i2 [i2] x.cps.size (sigD x) (fun i h => h.IsStrIter i2 (strIterType x) x t i) := dr_str (A := X.A.in1) (show X.A.in1.handled = none from I.ok.hd hc) i2 x t
    have stops : Stops X.prog X.w X.A.in1 i1 (fun h => h.IsListIter i1 a i ∧ h.IsList a its.toArray) ∨ (i < its.toArray.size ∧ Stops X.prog X.w X.A.in1 i2 fun h => h.IsStrIter i2 (strIterType x) x t i) := by
      by_cases hl : its.toArray.size ≤ i
      · exact .inl fun s Q E st k => wpAny_nextOf_list_end (A := X.A.in1) (show X.A.in1.handled = none from I.ok.hd hc) st.1 st.2 (Array.getElem?_eq_none hl) k
      · refine .inr ⟨by omega, fun s Q E st k => ?_⟩
        have hx : x.cps[i]? = none := Array.getElem?_eq_none (by rw [List.size_toArray] at hl; omega)
        unfold strIterType at st
        split at st
        · exact wpAny_nextOf_ascii_end (A := X.A.in1) (show X.A.in1.handled = none from I.ok.hd hc) st hx k
        · exact wpAny_nextOf_wide_end (A := X.A.in1) (show X.A.in1.handled = none from I.ok.hd hc) st hx k
    refine zx_stop (i := i) D1 D2 D gz gI gO ⟨m1, p.isList⟩ m2 stops fun h' tk g => ⟨rfl, ?_⟩
    refine I.turnedL (t' := tk) (ch := [z, TI, TO, i1, i2]) (fun c o hb q => ?_) hf
    simp only [List.mem_cons, List.not_mem_nil, or_false, not_or] at hb
    exact g c o hb.1 hb.2.2.1 hb.2.2.2.1 hb.2.2.2.2 q
  self := fun A i s Q E st h => wpAny_pyIter_zip st.1 h
def iZx (K : PySem.W.Frag) (ta : TA) : TI := fun σ H R => ta σ H fun vs H1 => ∃ a xs x, vs = [V.ref a, .str x] ∧ SqL K H1 a xs ∧ R (ItzX K a x) H1
theorem pi_zx {X : Cx} {e e2 : Expr} {ta : TA} {p pos tpos : Pos} {elts : List Expr} {kk : Nat} (hg : Gl X "zip") (hm : X.mg "zip" = none) (ha : PA X [e, e2] ta)
    (hs : starEach [e, e2] X.env = (false, eval e X.env) :: starEach [e2] X.env := by rfl) (hpl : (backTo pos (starEach [e2] X.env)).any (·.1) = false := by rfl) :
    PI X (.Tuple elts kk tpos) (.Call (.Name "zip" p) [e, e2] [] pos) (iZx X.K ta) := by
  constructor
  intro pins s σ H R I h
  refine Call_ (ld_blt I hg hm PyProof.Rows.boot_zip (PyProof.Rows.callWith_type1 (thn (ha.run pos pins s σ H _ I h) fun us s1 ⟨vs, H1, I1, r1, a, xs, x, ev, hq, q⟩ => ?_) hs hpl))
  subst ev
  obtain ⟨v1, v2, rfl, rv1, rv2⟩ := vals2 r1
  cases rv1
  obtain ⟨t, rfl⟩ := rv2
  obtain ⟨its, rv, p1, _⟩ := I1.list hq
  have la : a < s1.heap.objs.size := p1.lt
  refine call_zx p1.isList fun h' n en gz gI gO m1 m2 kp => wpAny_pyIter_zip gz ?_
  have D : ZA (n + 4) (n + 2) (n + 3) n (n + 1) [n, a] [n + 1] := by
    rw [← en] at la
    have ne : ∀ k : Nat, (n + k : Nat) ≠ a := fun k => Nat.ne_of_gt (Nat.lt_of_lt_of_le la (Nat.le_add_right n k))
    have ap : ∀ j k : Nat, j ≠ k → (n + j : Nat) ≠ (n + k : Nat) := fun j k h e => h (Nat.add_left_cancel e)
    have a0 : ∀ k : Nat, k ≠ 0 → (n + k : Nat) ≠ n := fun k h e => h (by omega)
    refine ⟨⟨ap 2 4 (by decide), ap 3 4 (by decide), (a0 4 (by decide)).symm, ap 1 4 (by decide), ap 2 3 (by decide), a0 2 (by decide), ap 2 1 (by decide), a0 3 (by decide), ap 3 1 (by decide), (a0 1 (by decide)).symm⟩, ⟨?_, ?_, ?_⟩, ⟨?_, ?_, ?_⟩⟩
    · exact fun h => (List.mem_cons.mp h).elim (a0 4 (by decide)) fun h => ne 4 (List.mem_singleton.mp h)
    · exact fun h => (List.mem_cons.mp h).elim (a0 3 (by decide)) fun h => ne 3 (List.mem_singleton.mp h)
    · exact fun h => (List.mem_cons.mp h).elim (a0 1 (by decide)) fun h => ne 1 (List.mem_singleton.mp h)
    · exact fun h => ap 4 1 (by decide) (List.mem_singleton.mp h)
    · exact fun h => ap 3 1 (by decide) (List.mem_singleton.mp h)
    · exact fun h => (a0 1 (by decide)).symm (List.mem_singleton.mp h)
  refine ⟨n + 4, [n + 4, n + 2, n + 3, n, n + 1], _, _, H1, rfl, I1.kept (t' := s1.toks) kp, turn_zx (t := t) D, ⟨gz, gI, ⟨_, _, gO⟩, m1, m2⟩, fun b hb => ?_, q⟩
  have hle : s1.heap.objs.size ≤ b := by
    simp only [List.mem_cons, List.not_mem_nil, or_false] at hb
    rw [← en]
    rcases hb with e | e | e | e | e <;> rw [e]
    · exact Nat.le_add_right _ _
    · exact Nat.le_add_right _ _
    · exact Nat.le_add_right _ _
    · exact Nat.le_refl _
    · exact Nat.le_add_right _ _
  exact I1.fpOk hle (I1.hok.fresh hle)
/-! ### as a thing walked -/
def zipS : List D → List Nat → List D
  | x :: xs, c :: cs => .tup [x, .str ⟨#[c]⟩] :: zipS xs cs
  | _, _ => []
theorem zipS_len : ∀ (xs : List D) (cs : List Nat), (zipS xs cs).length = min xs.length cs.length
  | [], cs => by simp [zipS]
  | x :: xs, [] => by simp [zipS]
  | x :: xs, c :: cs => by simp [zipS, zipS_len xs cs]
theorem zipS_get : ∀ (xs : List D) (cs : List Nat) (i : Nat) (a : D) (c : Nat), xs[i]? = some a → cs[i]? = some c → (zipS xs cs)[i]? = some (.tup [a, .str ⟨#[c]⟩])
  | [], _, _, _, _, h, _ => by simp at h
  | _ :: _, [], _, _, _, _, h => by simp at h
  | x :: xs, y :: ys, 0, a, b, h1, h2 => by
    simp at h1 h2
    subst h1 h2
    rfl
  | x :: xs, y :: ys, i + 1, a, b, h1, h2 => by
    simp at h1 h2
    exact zipS_get xs ys i a b h1 h2
def zipLSG : List D → M (List D) := fun ds => match ds with
  | [.lst xs, .str z] => .ok (zipS xs z.cps.toList)
  | _ => .er
def eZipLS (f : Rho → M (List D)) : Rho → M (List D) := fun ρ => M.bind (f ρ) zipLSG
theorem vi_zipLS {X : Cx} {W : WX} {S0 : Addr → Prop} {H0 : Hp} {pos p tpos : Pos} {e e2 : Expr} {fa : Rho → M (List D)} {elts : List Expr} {kk : Nat} (hm : X.mg "zip" = none) (ha : VA X W S0 H0 .E [e, e2] fa) (hg : Gl X "zip" := by rfl) (hs1 : starEach (e :: [e2]) X.env = (false, eval e X.env) :: starEach [e2] X.env := by rfl) (hpl : (backTo pos (starEach [e2] X.env)).any (·.1) = false := by rfl)
    (hf : ∀ x, foldedSetIterable (.Call (.Name "zip" p) [e, e2] [] pos) X.env x = pure x := by intro _; rfl) : VI X W S0 H0 (.Tuple elts kk tpos) (.Call (.Name "zip" p) [e, e2] [] pos) (eZipLS fa) := by
  obtain ⟨te, pa, q⟩ := ha.p
  refine ⟨⟨_, pi_zx hg hm pa hs1 hpl, fun ρ σ own H Rk R k => q ρ σ own H _ R ?_⟩, hf⟩
  unfold eZipLS at k
  revert k
  cases fa ρ with
  | er => exact id
  | ex c => exact id
  | ok ds =>
    intro k vs H1 s1 r1
    rw [bind_ok] at k
    unfold zipLSG at k
    split at k
    · next xs z =>
      obtain ⟨v, w, rfl, r2, r3⟩ := pair2 r1
      have R1 := R.grow s1
      cases r3
      cases r2 with
      | lst sa ha ra =>
        rename_i a vs
        refine ⟨a, _, z, rfl, SqL.of ha, k _ H1 s1 ?_⟩
        intro own' H' F hsm ho i
        have ha' : SqL X.K H' a vs := .inl (fra_rd F R1.own0 sa.1 (.inl ha))
        have ra' := ra.keep (F.keepA (S0 := S0) (H0 := H0) R1.own0)
        rw [zipS_len]
        have hzz : z.cps.toList.length = z.cps.size := Array.length_toList
        refine ⟨fun hi => ?_, fun hi => ⟨vs, ha', ?_⟩, fun y H2 hi ⟨T, x1, c, ey, nT, eH, f1, f2⟩ => ?_⟩
        · obtain ⟨v1, e1, _⟩ := ra.get (List.getElem?_eq_getElem (show i < xs.length by omega))
          exact ⟨vs, v1, ha', e1, by omega⟩
        · rw [ra.length]; omega
        · obtain ⟨d1, g1, h1⟩ := ra'.getV (f1 vs ha')
          subst ey eH
          exact ⟨same_upd nT, .tup [d1, .str ⟨#[c]⟩], zipS_get xs _ i d1 c g1 (by rw [Array.getElem?_toList]; exact f2), up2 nT h1 (.str _)⟩
    · exact k.elim
/-! ### enumerate(text) -/
def IteX (x : Str) : It :=
  ⟨fun i _ => i < x.cps.size, fun i H v H' => ∃ T c, v = .ref T ∧ H T = none ∧ H' = upd H T (.tup [.int (i : Nat), .str ⟨#[c]⟩]) ∧ x.cps[i]? = some c, fun i _ => x.cps.size ≤ i⟩
theorem turn_ex {P : Program} {w : World} {K : PySem.W.Frag} {elts : List Expr} {kk : Nat} {tpos : Pos} (x : Str) (t : Tok) (e it : Addr) :
    Turn P w K (.Tuple elts kk tpos) (IteX x) [e, it] e (fun i h => (∃ old, IsEnum h e it ((i : Nat) : Int) old) ∧ h.IsStrIter it (strIterType x) x t i ∧ e ≠ it ∧ i ≤ x.cps.size) where
  mem := by simp
  obj := fun i h st b hb => by
    obtain ⟨⟨old, g⟩, ⟨o, o1, o2, o3⟩, _⟩ := st
    simp only [List.mem_cons, List.not_mem_nil, or_false] at hb
    rcases hb with q | q <;> rw [q]
    · exact ⟨_, g, fun v q => nomatch q⟩
    · exact ⟨o, o1, fun v q => by rw [o3] at q; cases q⟩
  keep := fun i h h' st k => by
    obtain ⟨⟨old, g⟩, ⟨o, o1, o2⟩, ne, l⟩ := st
    exact ⟨⟨old, k e (by simp) _ g⟩, ⟨o, k it (by simp) _ o1, o2⟩, ne, l⟩
  item := by
    intro X hP hw hK hc i pins s σ H E I hf st hg
    subst hP hw hK
    obtain ⟨⟨old, g⟩, m, ne, l⟩ := st
    have el : e < s.heap.objs.size := Heap.lt_size g
    have il : it < s.heap.objs.size := by obtain ⟨_, q, _⟩ := m; exact Heap.lt_size q
    have D2 : Draws X.prog X.w X.A.in1 it [it] x.cps.size (sigD x) (fun i h => h.IsStrIter it (strIterType x) x t i) := dr_str (A := X.A.in1) (show X.A.in1.handled = none from I.ok.hd hc) it x t
    refine wpAny_pyNext_enum_itemD D2 g m hg ne (fun h => ne (List.mem_singleton.mp h)) fun v h' tk w1 go m' hT _ hk => ?_
    obtain ⟨c, tc, hcx, rfl⟩ := w1
    refine ⟨_, rfl, wpAny_letOwnedTupleGo_enum (s := { s with heap := h', toks := tk + 1 }) go fun h2 g' sb => ?_⟩
    have hT2 : h2.get? s.heap.objs.size = some { cls := .type "tuple", data := .seq #[.int i tk, .str ⟨#[c]⟩ tc] } := (sb.2 _ (Nat.ne_of_gt el)).trans hT
    have new : ObjOk X.prog X.w (upd H s.heap.objs.size (.tup [.int (i : Nat), .str ⟨#[c]⟩])) h2 s.heap.objs.size (.tup [.int (i : Nat), .str ⟨#[c]⟩]) :=
      ⟨show 2 ≤ sizeLine by rw [sizeLine_eq]; decide, [.int i tk, .str ⟨#[c]⟩ tc], .cons ⟨_, rfl⟩ (.cons ⟨tc, rfl⟩ .nil), ⟨_, hT2, rfl, _, rfl⟩⟩
    have I1 : Inv X pins σ (upd H s.heap.objs.size (.tup [.int (i : Nat), .str ⟨#[c]⟩])) { s with heap := h2, toks := tk + 1 } :=
      I.turnedNew (t' := tk + 1) (ch := [e, it]) (fun b ob hb q => by
        simp only [List.mem_cons, List.not_mem_nil, or_false, not_or] at hb
        exact (sb.2 b hb.1).trans (hk b ob hb.1 hb.2 q)) hf (Nat.le_refl _) new
    refine ⟨.ref s.heap.objs.size, _, I1, rfl, ⟨_, c, rfl, I.hok.fresh (Nat.le_refl _), rfl, hcx⟩, ⟨⟨.str ⟨#[c]⟩ tc, ?_⟩, ?_, ne, hg⟩, fun b hb => ?_⟩
    · rw [show ((i + 1 : Nat) : Int) = (i : Int) + 1 by omega]
      exact g'
    · obtain ⟨o, o1, r⟩ := m'
      exact ⟨o, (sb.2 it ne.symm).trans o1, r⟩
    · have lt : b < s.heap.objs.size := by
        simp only [List.mem_cons, List.not_mem_nil, or_false] at hb
        rcases hb with q | q <;> rw [q]
        · exact el
        · exact il
      rw [upd_ne (Nat.ne_of_lt lt)]
      exact (hf b hb).1
  done := by
    intro X hP hw hK hc i pins s σ H E I hf st hg
    subst hP hw hK
    obtain ⟨⟨old, g⟩, m, ne, l⟩ := st
    have ei : i = x.cps.size := Nat.le_antisymm l hg
    obtain ⟨f0, f1, f2, f3, f4, f5⟩ := hf it (by simp)
    have D2 : Draws X.prog X.w X.A.in1 it [it] x.cps.size (sigD x) (fun i h => h.IsStrIter it (strIterType x) x t i) := dr_str (A := X.A.in1) (show X.A.in1.handled = none from I.ok.hd hc) it x t
    exact wpAny_pyNext_enum_endD D2 g (by rw [← ei]; exact m) fun h' eb => ⟨rfl, I.turned (t' := s.toks) (fun b o hb q => eb b o hb q) f0 f1 f3 f4 f5⟩
  self := fun A i s Q E st h => let ⟨⟨_, g⟩, _⟩ := st; wpAny_pyIter_enum g h
def iEnx (ta : TA) : TI := fun σ H R => ta σ H fun vs H1 => ∃ x, vs = [V.str x] ∧ R (IteX x) H1
theorem pi_enx {X : Cx} {e : Expr} {ta : TA} {p pos tpos : Pos} {elts : List Expr} {kk : Nat} (hg : Gl X "enumerate") (hm : X.mg "enumerate" = none) (ha : PA X [e] ta) (hs : starEach [e] X.env = [(false, eval e X.env)] := by rfl) :
    PI X (.Tuple elts kk tpos) (.Call (.Name "enumerate" p) [e] [] pos) (iEnx ta) := by
  constructor
  intro pins s σ H R I h
  refine Call_ (ld_blt I hg hm boot_enumerate (PyProof.Rows.callWith_type1 (thn (ha.run pos pins s σ H _ I h) fun us s1 ⟨vs, H1, I1, r1, x, ev, q⟩ => ?_) hs rfl))
  subst ev
  obtain ⟨u, rfl, t, rfl⟩ := vals1 r1
  refine call_enumerate_str fun h' g m _ kp => wpAny_pyIter_enum g ?_
  refine ⟨_, [s1.heap.objs.size + 1, s1.heap.objs.size], _, _, H1, rfl, I1.kept (t' := s1.toks) kp, turn_ex x t _ s1.heap.objs.size, ⟨⟨_, g⟩, m, Nat.succ_ne_self _, Nat.zero_le _⟩, fun b hb => ?_, q⟩
  have hle : s1.heap.objs.size ≤ b := by
    simp only [List.mem_cons, List.not_mem_nil, or_false] at hb
    rcases hb with q | q <;> rw [q]
    · exact Nat.le_add_right _ _
    · exact Nat.le_refl _
  exact I1.fpOk hle (I1.hok.fresh hle)
def enumS : Nat → List Nat → List D
  | _, [] => []
  | i, c :: cs => .tup [.int (i : Nat), .str ⟨#[c]⟩] :: enumS (i + 1) cs
theorem enumS_len : ∀ (i : Nat) (cs : List Nat), (enumS i cs).length = cs.length
  | _, [] => rfl
  | i, c :: cs => congrArg (· + 1) (enumS_len (i + 1) cs)
theorem enumS_get : ∀ (cs : List Nat) (j i : Nat) (c : Nat), cs[i]? = some c → (enumS j cs)[i]? = some (.tup [.int ((j + i : Nat) : Int), .str ⟨#[c]⟩])
  | [], _, _, _, h => by simp at h
  | x :: xs, j, 0, c, h => by
    simp at h
    subst h
    rfl
  | x :: xs, j, i + 1, c, h => by
    simp at h
    have := enumS_get xs (j + 1) i c h
    rw [show j + (i + 1) = j + 1 + i by omega]
    exact this
def eEnumS (f : Rho → M (List D)) : Rho → M (List D) := fun ρ => M.bind (f ρ) fun ds => match ds with
  | [.str z] => .ok (enumS 0 z.cps.toList)
  | _ => .er
theorem vi_enumS {X : Cx} {W : WX} {S0 : Addr → Prop} {H0 : Hp} {pos p tpos : Pos} {e : Expr} {fa : Rho → M (List D)} {elts : List Expr} {kk : Nat} (hm : X.mg "enumerate" = none) (ha : VA X W S0 H0 .E [e] fa) (hg : Gl X "enumerate" := by rfl) (hs1 : starEach (e :: []) X.env = (false, eval e X.env) :: starEach [] X.env := by rfl)
    (hf : ∀ x, foldedSetIterable (.Call (.Name "enumerate" p) [e] [] pos) X.env x = pure x := by intro _; rfl) : VI X W S0 H0 (.Tuple elts kk tpos) (.Call (.Name "enumerate" p) [e] [] pos) (eEnumS fa) := by
  obtain ⟨te, pa, q⟩ := ha.p
  refine ⟨⟨_, pi_enx hg hm pa hs1, fun ρ σ own H Rk R k => q ρ σ own H _ R ?_⟩, hf⟩
  unfold eEnumS at k
  revert k
  cases fa ρ with
  | er => exact id
  | ex c => exact id
  | ok ds =>
    intro k vs H1 s1 r1
    rw [bind_ok] at k
    split at k
    · next z =>
      obtain ⟨v, rfl, r2⟩ := pair1 r1
      cases r2
      refine ⟨z, rfl, k _ H1 s1 ?_⟩
      intro own' H' F hsm ho i
      rw [enumS_len]
      have hzz : z.cps.toList.length = z.cps.size := Array.length_toList
      refine ⟨fun hi => (show i < z.cps.size by omega), fun hi => (show z.cps.size ≤ i by omega), fun y H2 hi ⟨T, c, ey, nT, eH, f2⟩ => ?_⟩
      subst ey eH
      refine ⟨same_upd nT, .tup [.int (i : Nat), .str ⟨#[c]⟩], ?_, up2 nT (.int _) (.str _)⟩
      have := enumS_get z.cps.toList 0 i c (by rw [Array.getElem?_toList]; exact f2)
      rw [Nat.zero_add] at this
      exact this
    · exact k.elim
end VL
set_option Elab.async false
set_option linter.all false
set_option maxRecDepth 100000
/-! VL12: defs that may give back what they were handed; list.remove of data. -/
namespace VL
open PySem L2 PySem.Spec PyProof.Rows
section
variable {P : Program} {w : World} {K : PySem.W.Frag} {mg : Str → Option Value} {base : Heap}
def PFE (mg : Str → Option Value) (K : PySem.W.Frag) (S : Addr → Prop) (H : Hp) (Q : VK) (E : XK) : M D → Prop
  | .ok d => ∀ v H', Same H H' → Rp K (fun a => S a ∨ H a = none) H' v d → Q v H'
  | .ex c => ∀ cv dd H', IsCls mg c cv dd → Same H H' → E cv dd H'
  | .er => False
/-- the def gives g of its arguments' data, made by it or handed to it -/
def spE (mg : Str → Option Value) (K : PySem.W.Frag) (g : List D → M D) : Sp := fun vs H Q E => ∃ (ds : List D) (S : Addr → Prop), RpA K S H vs ds ∧ PFE mg K S H Q E (g ds)
theorem fn_okE {x qual : Str} {st : Stmt} {f : Addr} {fd : FuncData} {N ps : List Str} {k : Nat} {F : Rho → Res} (Fn : Fun K x qual st f fd) (S : FnScope N ps (defScope st))
    (hb : ∀ (cdv : Value) (A : Around) (outer : List Env) (s : Shared) (H : Hp) (E : XK) (S0 : Addr → Prop), Room k (A.deeper (envOfC qual (defScope st) s.heap.objs.size f cdv)) →
      VSs (cxOf (L2.CX P w) P w K mg base N qual (defScope st) f cdv A outer s H E) (fun cls d _ H => E cls d H) S0 H .E (defBody st) F) :
    FnOk P w K mg base (L2.CX P w) (k + 1) f fd ps (spE mg K (runF ps.length N.length F)) := by
  refine Fn.okX S (fun vs H Q E h => ?_) (fun cdv A outer s H vs Q E hr h => ?_)
  · obtain ⟨ds, _, r, p⟩ := h
    unfold runF at p
    split at p
    · next hl => rw [r.length, hl]
    · exact p.elim
  · obtain ⟨ds, S0, r, p⟩ := h
    obtain ⟨t, pt, q⟩ := (hb cdv A outer s H E S0 hr).p
    refine ⟨t, pt, ?_⟩
    unfold runF at p
    split at p
    · next hl =>
      have hv : vs.length = ps.length := by rw [r.length, hl]
      have R := rel_start r (N.length - ps.length)
      have e : L2.start N vs = vs.map some ++ List.replicate (N.length - ps.length) none := by unfold L2.start; rw [hv]
      rw [e]
      refine q _ _ [] H _ R ?_
      have fin : ∀ (v : V) (own' : List Addr) (H' : Hp) (d : D), (∀ v H', Same H H' → Rp K (fun a => S0 a ∨ H a = none) H' v d → Q v H') → Rp K (SA S0 H own') H' v d → Fra [] H own' H' → Q v H' := fun v own' H' d p a b => p v H' b.all (a.keep (.wide fun _ z => z.2))
      revert p
      generalize F (ds.map Sl.sh ++ List.replicate (N.length - ps.length) Sl.no) = r
      intro p
      cases r with
      | rt d => exact fun v own' H' a b => fin v own' H' d p a b
      | nx ρ' => exact fun σ' own' H' a b => p .non H' b.all .non
      | ex c ρ' => exact fun cv d σ' own' H' i a b => p cv d H' i b.all
      | bk ρ' => exact p.elim
      | ct ρ' => exact p.elim
      | er => exact p.elim
    · exact p.elim
structure CalE (P : Program) (w : World) (K : PySem.W.Frag) (mg : Str → Option Value) (base : Heap) (k : Nat) (x : Str) (g : List D → M D) : Prop where
  p : ∃ (f : Addr) (fd : FuncData) (ps : List Str), FnOk P w K mg base (L2.CX P w) k f fd ps (spE mg K g) ∧ mg x = some (.ref f) ∧ PySem.W.keepIn K (.ref f) = true ∧ Binds K fd ps []
theorem CalE.mk' {k : Nat} {x qual : Str} {st : Stmt} {f : Addr} {fd : FuncData} {ps : List Str} {g : List D → M D} (F : FnOk P w K mg base (L2.CX P w) k f fd ps (spE mg K g)) (Fn : Fun K x qual st f fd) (hm : mg x = some (.ref f)) (hb : Binds K fd ps []) : CalE P w K mg base k x g := ⟨f, fd, ps, F, hm, Fn.kp, hb⟩
end
section
variable {X : Cx} {W : WX} {S0 : Addr → Prop} {H0 : Hp} {rm m : Md} {pos p : Pos} {e : Expr} {es : List Expr} {fa : Rho → M (List D)} {x : Str} {j k : Nat} {g : List D → M D}
theorem RpA.ofE {K : PySem.W.Frag} {own : List Addr} {Hb H : Hp} {vs : List V} {ds : List D} (r : Paired (RM K S0 H0 own .E Hb H) vs ds) : RpA K (SA S0 H0 own) H vs ds := by
  induction r with
  | nil => exact .nil
  | cons a _ ih => exact .cons a ih
theorem vx_callE (c : CalE X.prog X.w X.K X.mg X.base k x g) (tk : Takes X W) (hr : Room j X.A) (hk : k ≤ j) (ha : VA X W S0 H0 .E (e :: es) fa) (hg : Gl X x := by rfl) (hdb : (x == ("__debug__" : Str)) = false := by decide)
    (he : starEach (e :: es) X.env = (false, eval e X.env) :: starEach es X.env := by rfl) (hpl : (backTo pos (starEach es X.env)).any (·.1) = false := by rfl) : VX X W S0 H0 .E (.Call (.Name x p) (e :: es) [] pos) (eCall g fa) := by
  obtain ⟨f, fd, ps, F, h1, h2, h3⟩ := c.p
  obtain ⟨ta, pa, qa⟩ := ha.p
  refine ⟨_, pe_callS F (hr.mono hk) hg h1 h2 h3 (fun σ => passAt tk σ) pa hdb he hpl, fun ρ σ own H Q R k => qa ρ σ own H _ R ?_⟩
  unfold eCall at k
  revert k
  cases fa ρ with
  | er => exact id
  | ex c => exact id
  | ok ds =>
    intro k vs H1 s1 r1
    rw [bind_ok] at k
    refine ⟨ds, SA S0 H0 own, RpA.ofE r1, ?_⟩
    revert k
    cases g ds with
    | er => exact id
    | ex c => exact fun k cv dd H' i s => k cv dd H' i (s1.trans s)
    | ok d => exact fun k v H' s r => k v H' (s1.trans s) (r.keep (.wide fun a ha => ha.elim id fun hn => SF.sa _ (sf_new (R.grow s1) hn)))
end
/-! ### list.remove of data -/
section
variable {X : Cx} {W : WX} {S0 : Addr → Prop} {H0 : Hp}
/-- l.remove(x): the first equal one goes -/
def rRemoveD (K : PySem.W.Frag) : V → List V → Hp → VK → Prop := fun x xs H Q => ∃ (a : Addr) (us : List V) (y : V) (d : PyData) (ds : List PyData) (j : Nat) (z : PyData), x = V.ref a ∧ xs = [y] ∧ H a = some (.lst us) ∧ DpAll K H us ds ∧ Dp K H y d ∧
  SeqAt.shaped (.list ds) = true ∧ SeqAt.shaped d = true ∧ ds[j]? = some z ∧ PyData.eqv z d = true ∧ (∀ (m : Nat) (z' : PyData), m < j → ds[m]? = some z' → PyData.eqv z' d = false) ∧ Q .non (upd H a (.lst (us.eraseIdx j)))
theorem mt_removeD (hu : X.A.units + 65 < cLine) : MtR X "list.remove" (rRemoveD X.K) := by
  intro pins s σ H x xs v us' Q I rx rxs h
  obtain ⟨a, us, y, d, ds, j, z, rfl, rfl, hH, ha, hy, sl, sd, hz, hzj, hno, q⟩ := h
  cases rx
  cases rxs with
  | cons ry rt =>
    rename_i uy ut
    cases rt
    obtain ⟨bs, r1⟩ := Dp.reads I d y uy hy ry
    have hxs : PyData.canLayAll0 ds = true := SeqAt.canLay_of_shaped sl
    have hroom : X.A.units + 1 + min (PyData.depthAll ds) d.depth < cLine := room_in_shaped sd hu
    obtain ⟨z0, its, n, rv, hl, e0⟩ := I.lstM hH
    obtain ⟨as, h4⟩ := Dp.readsAll I ds _ its ha rv
    have hn : its.length = ds.length := SeqAt.ReadsAll.length ds its as h4
    have hmap : its.map (SeqAt.readOf s.heap) = ds := SeqAt.readsAll_map ds its as hxs h4
    obtain ⟨hjd, _⟩ := List.getElem?_eq_some_iff.mp hz
    have hjl : j < its.length := by omega
    have hj : j < its.toArray.size := by simpa using hjl
    have at_ : ∀ (m : Nat) (hm : m < its.toArray.size) (z' : PyData), ds[m]? = some z' → SeqAt.readOf s.heap its.toArray[m] = z' := by
      intro m hm z' hz'
      have hml : m < its.length := by simpa using hm
      rw [← hmap, List.getElem?_map, List.getElem?_eq_getElem hml] at hz'
      have e1 : SeqAt.readOf s.heap its[m] = z' := Option.some.inj (show some (SeqAt.readOf s.heap its[m]) = some z' from hz')
      simpa using e1
    refine call_meets PySem.F.slot_list_remove ⟨_, e0, rfl⟩ PySem.F.entry_list_remove (PySem.F.args_list_remove_2 _ _)
      (SeqAt.list_removeAt a its.toArray n _ _ uy (fun u => PyData.eqv (SeqAt.readOf s.heap u) d) j hj ?_ ?_ (by rw [List.size_toArray]; omega)) ⟨e0, SeqAt.items_eqAt (vs := its.toArray) (show ReadsAll s.heap its.toArray.toList ds as from h4) r1 hxs (SeqAt.canLay_of_shaped sd) hroom, ?_⟩
    · show PyData.eqv (SeqAt.readOf s.heap its.toArray[j]) d = true
      rw [at_ j hj z hz]
      exact hzj
    · intro m hm hmj
      have hmd : m < ds.length := by omega
      have hz' : ds[m]? = some ds[m] := List.getElem?_eq_getElem hmd
      show PyData.eqv (SeqAt.readOf s.heap its.toArray[m]) d = false
      rw [at_ m hm _ hz']
      exact hno m _ hmj hz'
    · have rr := rv.eraseIdx j
      refine ⟨.non, _, I.lset (its' := its.eraseIdx j) hH e0 ?_ rr ?_, rfl, q⟩
      · show its.toArray.eraseIdxIfInBounds j = (its.eraseIdx j).toArray
        rw [List.eraseIdxIfInBounds_toArray]
      · have := List.length_eraseIdx_le us j
        omega
/-- which item goes -/
def findP (d : PyData) : List D → Option Nat
  | [] => none
  | x :: xs => if PyData.eqv (toP x) d = true then some 0 else (findP d xs).map (· + 1)
theorem findP_spec {d : PyData} : ∀ {xs : List D} {j : Nat}, findP d xs = some j → ∃ z, (toPA xs)[j]? = some z ∧ PyData.eqv z d = true ∧ ∀ (m : Nat) (z' : PyData), m < j → (toPA xs)[m]? = some z' → PyData.eqv z' d = false
  | [], _, h => nomatch h
  | x :: xs, j, h => by
    rw [findP] at h
    split at h
    · next c =>
      cases h
      exact ⟨toP x, rfl, c, fun m z' hm => absurd hm (Nat.not_lt_zero m)⟩
    · next c =>
      cases hf : findP d xs with
      | none => rw [hf] at h; cases h
      | some i =>
        rw [hf] at h
        cases h
        obtain ⟨z, h1, h2, h3⟩ := findP_spec hf
        refine ⟨z, by simpa [toPA] using h1, h2, fun m z' hm hz' => ?_⟩
        have hm : m < i + 1 := hm
        cases m with
        | zero =>
          simp [toPA] at hz'
          subst hz'
          simpa using c
        | succ m => exact h3 m z' (Nat.lt_of_succ_lt_succ hm) (by simpa [toPA] using hz')
def remE : List D → List D → M (List D) := fun ds as => match as with
  | [d] => if SeqAt.shaped (.list (toPA ds)) = true ∧ SeqAt.shaped (toP d) = true then (match findP (toP d) ds with | some j => .ok (ds.eraseIdx j) | none => .er) else .er
  | _ => .er
theorem RpA.eraseIdx {K : PySem.W.Frag} {S : Addr → Prop} {H : Hp} : ∀ {vs : List V} {ds : List D} (j : Nat), RpA K S H vs ds → RpA K S H (vs.eraseIdx j) (ds.eraseIdx j)
  | _, _, _, .nil => .nil
  | _, _, 0, .cons _ t => t
  | _, _, j + 1, .cons r t => .cons r (RpA.eraseIdx j t)
theorem mg_rem : MutG X (rRemoveD X.K) remE := by
  intro S H a xs vs ds as ds' Q h r r2 e k
  unfold remE at e
  split at e
  · next d =>
    split at e
    · next hl =>
      split at e
      · next j hj =>
        cases e
        cases r2 with
        | cons r3 r4 =>
          cases r4
          obtain ⟨z, h1, h2, h3⟩ := findP_spec hj
          exact ⟨a, xs, _, toP d, toPA ds, j, z, rfl, rfl, h, r.dp (SeqAt.canLay_of_shaped hl.1), r3.dp (SeqAt.canLay_of_shaped hl.2), hl.1, hl.2, h1, h2, h3, k _ _ (r.eraseIdx j)⟩
      · cases e
    · cases e
  · cases e
end
end VL
set_option Elab.async false
set_option linter.all false
set_option maxRecDepth 100000
set_option maxHeartbeats 1000000
/-! VL13: sorted of lists of triples of ints and of dicts whose keys are such. -/
namespace VL
open PySem L2 PySem.Spec PyProof.Rows
open SrtO (Srtd Stb Swo)
section
variable {prog : Program} {w : World} {A : Around} {E : Value → Shared → Prop} {s : Shared}
/-- sorted(r): what is collected of r is vs -/
theorem sorted_by {r : Addr} {vs : List Value} {ltv : Value → Value → Bool} {Q : Value → Shared → Prop} (O : Swo ltv) (hz : vs.length ≤ sizeLine)
    (hcol : ∀ R : List Value → Shared → Prop, (∀ (h' : Heap) (tk : Nat), s.heap.objs.size ≤ h'.objs.size → (∀ b o, s.heap.get? b = some o → h'.get? b = some o) → R vs { s with heap := h', toks := tk }) → wpAny (model prog w) A.in1 (collect (.ref r)) R E s)
    (hS : 2 ≤ vs.length → ∀ (h₁ : Heap) (tk : Nat) (a : Addr), (∀ b o, s.heap.get? b = some o → b ≠ a ∧ h₁.get? b = some o) → h₁.get? a = some (seqObj "list" vs.toArray 0) → SrtO.SortableO prog w A.in1.in1 { s with heap := h₁, toks := tk } a vs ltv)
    (h : ∀ (h' : Heap) (tk : Nat) (d : Addr) (out : List Value), Srtd ltv out → Stb ltv out vs → (∀ b o, s.heap.get? b = some o → h'.get? b = some o) → s.heap.objs.size ≤ d → (∃ n, h'.get? d = some (seqObj "list" out.toArray n)) → Q (.ref d) { s with heap := h', toks := tk }) :
    wpAny (model prog w) A (call (.builtin "sorted") [.ref r]) Q E s := by
  refine Calls.call_function_entry kind_sorted plain_sorted entry_sorted (args_sorted1 _) ?_
  unfold Builtin.«sorted»
  refine wpAny_bind (m := checkCount "sorted" 1 1 _) (wpAny_pure ?_)
  refine wpAny_bind (hcol _ fun h' tk hsz hk => ?_)
  refine wpAny_bind (wpAny_newList ?_ hz)
  have hoL : (h'.push (seqObj "list" vs.toArray 0)).get? h'.objs.size = some (seqObj "list" vs.toArray 0) := Heap.get?_push_size _ rfl
  have keep : ∀ b o, s.heap.get? b = some o → b ≠ h'.objs.size ∧ (h'.push (seqObj "list" vs.toArray 0)).get? b = some o := fun b o q => by
    have q' := hk b o q
    exact ⟨Nat.ne_of_lt (Heap.lt_size q'), Heap.get?_push_of_some _ q'⟩
  refine wpAny_bind (wpAny_holding (wpAny_call_entry slot_list_sort ⟨_, hoL, rfl⟩ entry_list_sort (SrtO.list_sort_ord O hoL hz (fun h2 => hS h2 _ _ _ keep hoL) fun out hs hb => ⟨_, rfl, ?_⟩) (args_list_sort _)))
  refine wpAny_pure ⟨_, rfl, h _ _ _ out hs hb (fun b o q => ?_) hsz (sortedHeap_at hoL)⟩
  obtain ⟨q1, q2⟩ := keep b o q
  rw [sortedHeap_old q1 (Heap.lt_size q2)]
  exact q2
/-- what is collected of a source, and that the heap has grown -/
theorem collect_src {T : String} {r d : Addr} {n : Nat} {P : Nat → Value → Prop} {OK : Heap → Prop} {R : List Value → Shared → Prop} (S : PySem.W.KdlSrc prog w T r d n P OK) (calm : A.handled = none) (ok : OK s.heap) (small : n ≤ sizeLine)
    (back : ∀ (g : Heap) (tk : Nat) (got : Array Value), s.heap.objs.size ≤ g.objs.size → (∀ b o, s.heap.get? b = some o → g.get? b = some o) → ItemsOf P got n → R got.toList { s with heap := g, toks := tk }) :
    wpAny (model prog w) A (collect (.ref r)) R E s := by
  obtain ⟨l1, l2⟩ := S.there _ ok
  unfold collect
  refine wpAny_bind (wpAny_runValue (codeAny_builtin PyProof.Rows.entry_proto_collect' ?_)); rw [Around.under_plainId PySem.F.plain_proto_collect _]
  show wpAny _ A.in1 (newList [] >>= fun new => again (.builtin "list.__iadd__" ⟨[new, .ref r], []⟩)) _ _ s
  refine wpAny_bind (wpAny_newObj_type (wpAny_pure ⟨plainId_quiet PySem.F.plain_list_iadd _, codeAny_builtin entry_list_iadd' ?_⟩)); rw [Around.under_plainId PySem.F.plain_list_iadd _]
  have top : (s.heap.push { cls := .type "list", data := .seq ([] : List Value).toArray }).get? s.heap.objs.size = some { cls := .type "list", data := .seq #[] } := Heap.get?_push_size _ rfl
  let Out (q : Result) (z : Shared) : Prop := ∃ (g : Heap) (tk : Nat) (got : Array Value) (ep : Nat), q = .ok (.ret (.ref s.heap.objs.size)) ∧ z = { s with heap := g, toks := tk } ∧ (∀ b o, s.heap.get? b = some o → g.get? b = some o) ∧
    g.get? s.heap.objs.size = some { cls := .type "list", dict := none, data := .seq got ep, slots := #[] } ∧ ItemsOf P got n
  have fin (q : Result) (z : Shared) (o : Out q z) : ∀ {f : Value}, q = .ok (.ret f) → wpAny (model prog w) A (load s.heap.objs.size >>= fun ob => match ob.data with | .seq xs _ => pure xs.toList | _ => unsupported "internal:collect") R E z := by
    obtain ⟨g, tk, got, ep, _, rfl, kp, at_, items⟩ := o
    intro f _
    exact wpAny_bind (wpAny_load at_ (wpAny_pure (back g tk got (Nat.le_of_lt (Heap.lt_size at_)) kp items)))
  have run := PySem.W.kdl_extend (A := A) (s := { s with heap := s.heap.push { cls := .type "list", data := .seq ([] : List Value).toArray } }) (R := Out) S calm
    (S.keep _ _ ok fun b _ o e => Heap.get?_push_of_some _ e) s.heap.objs.size (Nat.ne_of_gt l1) (Nat.ne_of_gt l2) (.ref s.heap.objs.size) 0 top
    (fun g tk got ep kp at_ items => ⟨g, tk, got, ep, rfl, rfl, fun b o e => kp b o (Nat.ne_of_lt (Heap.lt_size e)) (Heap.get?_push_of_some _ e), at_, items⟩) small
  refine wpAny_mono run (fun e z o => ?_) fun e z o => by obtain ⟨_, _, _, _, no, _⟩ := o; cases no
  cases e with
  | done f =>
    obtain ⟨_, _, _, _, e1, _⟩ := id o
    cases e1
    exact fin _ _ o rfl
  | again c1 =>
    refine ⟨o.1, codeAny_mono o.2 fun q z2 o2 => ?_⟩
    obtain ⟨_, _, _, _, e1, _⟩ := id o2
    subst e1
    exact fin _ _ o2 rfl
/-! ### triples of ints -/
abbrev T3 := Int × Int × Int
def IsTri (h : Heap) (v : Value) (k : T3) : Prop := ∃ a o t1 t2 t3 n, v = .ref a ∧ h.get? a = some o ∧ o.cls = .type "tuple" ∧ o.data = .seq #[.int k.1 t1, .int k.2.1 t2, .int k.2.2 t3] n
theorem IsTri.keeps {h h' : Heap} {v : Value} {k : T3} (p : IsTri h v k) (kp : ∀ b o, h.get? b = some o → o.cls = .type "tuple" → h'.get? b = some o) : IsTri h' v k := by
  obtain ⟨a, o, t1, t2, t3, n, e, ho, hc, hd⟩ := p
  exact ⟨a, o, t1, t2, t3, n, e, kp _ _ ho hc, hc, hd⟩
def lex3 (p q : T3) : Bool := if p.1 = q.1 then (if p.2.1 = q.2.1 then decide (p.2.2 < q.2.2) else decide (p.2.1 < q.2.1)) else decide (p.1 < q.1)
theorem lex3_iff {p q : T3} : lex3 p q = true ↔ p.1 < q.1 ∨ (p.1 = q.1 ∧ (p.2.1 < q.2.1 ∨ (p.2.1 = q.2.1 ∧ p.2.2 < q.2.2))) := by
  unfold lex3
  by_cases e : p.1 = q.1
  · rw [if_pos e]
    by_cases e2 : p.2.1 = q.2.1
    · rw [if_pos e2, decide_eq_true_eq]; omega
    · rw [if_neg e2, decide_eq_true_eq]; omega
  · rw [if_neg e, decide_eq_true_eq]; omega
theorem lex3_no {p q : T3} : lex3 p q = false ↔ ¬ (p.1 < q.1 ∨ (p.1 = q.1 ∧ (p.2.1 < q.2.1 ∨ (p.2.1 = q.2.1 ∧ p.2.2 < q.2.2)))) := by
  rw [← lex3_iff]
  cases lex3 p q <;> simp
theorem swo_lex3 {α : Type} (k : α → T3) : Swo fun v u => lex3 (k v) (k u) := by
  refine ⟨fun x y h => ?_, fun x y z h1 h2 => ?_⟩
  · have a := lex3_iff.mp h
    exact lex3_no.mpr (by omega)
  · have a := lex3_no.mp h1
    have b := lex3_no.mp h2
    exact lex3_no.mpr (by omega)
theorem tri_cmp {vs : List Value} {k : Value → T3} (hp : ∀ v ∈ vs, IsTri s.heap v (k v)) : SrtO.Cmp prog w A s (tuples' true) (fun p => p.1 ∈ vs) (SrtO.lt2 fun v u => lex3 (k v) (k u)) := by
  intro p q hm hm'
  have h1 := hp _ hm
  have h2 := hp _ hm'
  show wpAny (model prog w) A (keyLt' (tuples' true) p.1 q.1) (fun r s' => s' = s ∧ r = lex3 (k p.1) (k q.1)) (fun _ _ => False) s
  unfold lex3
  generalize k p.1 = x at h1 ⊢
  generalize k q.1 = y at h2 ⊢
  obtain ⟨a, o, t1, t2, t3, n, e, ho, hc, hd⟩ := h1
  obtain ⟨a', o', t1', t2', t3', n', e', ho', hc', hd'⟩ := h2
  rw [e, e']
  refine PySem.W.kat_lt ho hd ho' hd' ?_
  show PySem.W.KatLex prog w A true (decide (3 < 3)) _ [(.int x.1 t1, .int y.1 t1'), (.int x.2.1 t2, .int y.2.1 t2'), (.int x.2.2 t3, .int y.2.2 t3')] 0 s
  refine PySem.W.kat_cons (SeqAt.EqAt.int_int x.1 t1 y.1 t1' prog w _ _ ?_)
  refine PySem.W.kat_go (fun e1 => ?_) (fun e1 => ?_)
  · have ex : x.1 = y.1 := by simpa using e1
    refine PySem.W.kat_yes (PySem.W.kat_cons (SeqAt.EqAt.int_int x.2.1 t2 y.2.1 t2' prog w _ _ ?_))
    refine PySem.W.kat_go (fun e2 => ?_) (fun e2 => ?_)
    · have ey : x.2.1 = y.2.1 := by simpa using e2
      refine PySem.W.kat_yes (PySem.W.kat_cons (SeqAt.EqAt.int_int x.2.2 t3 y.2.2 t3' prog w _ _ ?_))
      refine PySem.W.kat_go (fun e3 => ?_) (fun e3 => ?_)
      · have ez : x.2.2 = y.2.2 := by simpa using e3
        refine PySem.W.kat_yes (PySem.W.kat_nil ⟨rfl, ?_⟩)
        rw [if_pos ex, if_pos ey, ez]
        simp
      · refine PySem.W.kat_no (PySem.W.kat_one _ _ (PyProof.Rows.lt_int ?_))
        refine (show s = s ∧ decide (x.2.2 < y.2.2) = _ from ⟨rfl, ?_⟩)
        rw [if_pos ex, if_pos ey]
    · have ey : ¬ x.2.1 = y.2.1 := by simpa using e2
      refine PySem.W.kat_no (PySem.W.kat_one _ _ (PyProof.Rows.lt_int ?_))
      refine (show s = s ∧ decide (x.2.1 < y.2.1) = _ from ⟨rfl, ?_⟩)
      rw [if_pos ex, if_neg ey]
  · have ex : ¬ x.1 = y.1 := by simpa using e1
    refine PySem.W.kat_no (oneLt_int ⟨rfl, ?_⟩)
    rw [if_neg ex]
theorem firsts3 {h : Heap} : ∀ {vs : List Value}, (∀ v ∈ vs, ∃ k, IsTri h v k) → ∃ fs : List Value, PySem.W.KatTups h vs fs ∧ fs.length = vs.length ∧ ∀ f ∈ fs, ∃ x t, f = Value.int x t
  | [], _ => ⟨[], PySem.W.KatTups.nil, rfl, fun _ hm => by simp at hm⟩
  | v :: vs, hp => by
    obtain ⟨fs, h1, h2, h3⟩ := firsts3 (vs := vs) fun v' hm => hp v' (List.mem_cons_of_mem _ hm)
    obtain ⟨k, a, o, t1, t2, t3, n, e, ho, hc, hd⟩ := hp v (List.mem_cons_self ..)
    subst e
    refine ⟨.int k.1 t1 :: fs, PySem.W.KatTups.cons ho hc hd rfl h1, by rw [List.length_cons, List.length_cons, h2], fun f hm => ?_⟩
    rcases List.mem_cons.mp hm with rfl | hm
    · exact ⟨k.1, t1, rfl⟩
    · exact h3 f hm
theorem tri_sortable {a : Addr} {vs : List Value} {k : Value → T3} (h0 : 0 < vs.length) (hp : ∀ v ∈ vs, IsTri s.heap v (k v)) (ha : ∀ o, s.heap.get? a = some o → o.cls ≠ .type "tuple") : SrtO.SortableO prog w A s a vs fun v u => lex3 (k v) (k u) := by
  intro h' keep
  have hp' : ∀ v ∈ vs, IsTri h' v (k v) := fun v hm => (hp v hm).keeps fun b o e c => keep b o (fun z => by subst z; exact ha o e c) e
  obtain ⟨fs, h1, h2, h3⟩ := firsts3 fun v hm => ⟨_, hp' v hm⟩
  refine ⟨tuples' true, fun Q E hq => ?_, tri_cmp hp'⟩
  refine PySem.W.kat_kind (T := .type "int") h1 (by omega) (fun f hm => ?_) (by rfl) ?_
  · obtain ⟨x, t, rfl⟩ := h3 f hm
    exact PySem.W.Looks.now
  · have e : (Value.type "int" != Value.type "tuple") = true := by first | decide +kernel | rfl | decide
    rw [e]
    exact hq
/-- sorted of what is collected to triples -/
theorem sorted_tris {r : Addr} {vs : List Value} {k : Value → T3} {Q : Value → Shared → Prop} (hz : vs.length ≤ sizeLine) (hp : ∀ v ∈ vs, IsTri s.heap v (k v))
    (hcol : ∀ R : List Value → Shared → Prop, (∀ (h' : Heap) (tk : Nat), s.heap.objs.size ≤ h'.objs.size → (∀ b o, s.heap.get? b = some o → h'.get? b = some o) → R vs { s with heap := h', toks := tk }) → wpAny (model prog w) A.in1 (collect (.ref r)) R E s)
    (h : ∀ (h' : Heap) (tk : Nat) (d : Addr) (out : List Value), Srtd (fun v u => lex3 (k v) (k u)) out → Stb (fun v u => lex3 (k v) (k u)) out vs → (∀ b o, s.heap.get? b = some o → h'.get? b = some o) → s.heap.objs.size ≤ d → (∃ n, h'.get? d = some (seqObj "list" out.toArray n)) → Q (.ref d) { s with heap := h', toks := tk }) :
    wpAny (model prog w) A (call (.builtin "sorted") [.ref r]) Q E s := by
  refine sorted_by (swo_lex3 k) hz hcol (fun h2 h₁ tk a kk ha => ?_) h
  refine tri_sortable (s := { s with heap := h₁, toks := tk }) (by omega) (fun v hm => (hp v hm).keeps fun b o e _ => (kk b o e).2) fun o e => ?_
  have e' : some o = some (seqObj "list" vs.toArray 0) := e.symm.trans ha
  cases e'
  intro c
  exact absurd (Value.type.inj c) (by decide)
end
/-! ### as a rule -/
def kOf (H : Hp) : V → T3
  | .ref t => (match H t with
    | some (.tup [.int a, .int b, .int c]) => (a, b, c)
    | _ => (0, 0, 0))
  | _ => (0, 0, 0)
def TriV (H : Hp) (x : V) : Prop := ∃ t k, x = .ref t ∧ H t = some (.tup [.int k.1, .int k.2.1, .int k.2.2]) ∧ kOf H x = k
theorem kOf_eq {H : Hp} {t : Addr} {k : T3} (h : H t = some (.tup [.int k.1, .int k.2.1, .int k.2.2])) : kOf H (.ref t) = k := by
  show (match H t with | some (.tup [.int a, .int b, .int c]) => (a, b, c) | _ => (0, 0, 0)) = k
  rw [h]
theorem triV_mk {H : Hp} {t : Addr} {k : T3} (h : H t = some (.tup [.int k.1, .int k.2.1, .int k.2.2])) : TriV H (.ref t) := ⟨t, k, rfl, h, kOf_eq h⟩
def triK : List Key → Option T3
  | [.inl a, .inl b, .inl c] => some (a, b, c)
  | _ => none
def keysT {α : Type} : List (List Key × α) → Option (List T3)
  | [] => some []
  | kv :: r => match triK kv.1, keysT r with
    | some k, some ts => some (k :: ts)
    | _, _ => none
theorem triK_eq {ks : List Key} {k : T3} (h : triK ks = some k) : ks.map kV = [.int k.1, .int k.2.1, .int k.2.2] := by
  unfold triK at h
  split at h
  · cases h; rfl
  · cases h
def rSorted3 (K : PySem.W.Frag) : List V → Hp → VK → Prop := fun vs H Q => ∃ (a : Addr) (ts : List T3), vs = [V.ref a] ∧ ((∃ xs, SqL K H a xs ∧ (∀ x ∈ xs, TriV H x) ∧ xs.map (kOf H) = ts) ∨ (∃ kvs, Rd H a (.dT kvs) ∧ keysT kvs = some ts)) ∧
  ∀ out p, (∀ x ∈ out, TriV H x) → Srtd lex3 (out.map (kOf H)) → (out.map (kOf H)).Perm ts → H p = none → Q (.ref p) (upd H p (.lst out))
theorem keys_refs {H : Hp} : ∀ {kvs : List (List Key × V)} {bs : List Addr} {ts : List T3}, IsKeys H kvs bs → keysT kvs = some ts → (∀ x ∈ bs.map V.ref, TriV H x) ∧ (bs.map V.ref).map (kOf H) = ts
  | [], _, ts, h, e => by
    cases h
    cases e
    exact ⟨fun x hx => by simp at hx, rfl⟩
  | kv :: kvs, _, ts, h, e => by
    cases h with
    | cons h1 h2 =>
      rename_i b bs
      unfold keysT at e
      split at e
      · next k ts' e1 e2 =>
        cases e
        obtain ⟨g1, g2⟩ := keys_refs h2 e2
        rw [triK_eq e1] at h1
        refine ⟨fun x hx => ?_, ?_⟩
        · rcases List.mem_cons.mp hx with rfl | hx
          · exact triV_mk h1
          · exact g1 x hx
        · rw [List.map_cons, List.map_cons, kOf_eq h1, g2]
      · cases e
section
variable {X : Cx}
theorem cr_sorted3 (hc : X.calm = true) : CallR X (.builtin "sorted") (rSorted3 X.K) := by
  intro pins s σ H vs us Q I r h
  obtain ⟨a, ts, rfl, src, q⟩ := h
  obtain ⟨u, rfl, ru⟩ := vals1 r
  obtain rfl : u = Value.ref a := ru
  -- what is collected
  obtain ⟨xs, its, rv, hz, hx, hk, hcol⟩ : ∃ (xs : List V) (its : List Value), Vals xs its ∧ its.length ≤ sizeLine ∧ (∀ x ∈ xs, TriV H x) ∧ xs.map (kOf H) = ts ∧
      ∀ R : List Value → Shared → Prop, (∀ (h' : Heap) (tk : Nat), s.heap.objs.size ≤ h'.objs.size → (∀ b o, s.heap.get? b = some o → h'.get? b = some o) → R its { s with heap := h', toks := tk }) → wpAny (model X.prog X.w) X.A.in1 (collect (.ref a)) R X.xe s := by
    rcases src with ⟨xs, hs, hx, hk⟩ | ⟨kvs, hd, hk⟩
    · obtain ⟨its, rv, hl, hz⟩ := I.list hs
      have hz' : its.length ≤ sizeLine := by rw [← rv.length]; exact hz
      refine ⟨xs, its, rv, hz', hx, hk, fun R hR => ?_⟩
      refine collect_list hl.isList ?_ hz'
      have e : s = { s with heap := s.heap, toks := s.toks } := rfl
      exact hR _ s.toks (by rw [Heap.size_update, size_push']; exact Nat.le_succ _) fun b o e => by
        rw [Heap.get?_update_ne _ _ _ _ (Nat.ne_of_lt (Heap.lt_size e))]
        exact Heap.get?_push_of_some _ e
    · obtain ⟨z, hs, ks, pr, o, es, ep, ho, hx, hdt, he, hn⟩ := (show ObjOk X.prog X.w H s.heap a (.dT kvs) from hd.ok I.hok)
      have l1 : es.size = ks.length := size_of_entries he
      have l2 : kvs.length = ks.length := Paired.length pr
      obtain ⟨g1, g2⟩ := keys_refs (isKeys_of pr) hk
      refine ⟨_, (ks.map fun x => x.2.1).map Value.ref, vals_refs _, by rw [List.length_map, List.length_map]; omega, g1, g2, fun R hR => ?_⟩
      refine collect_src (A := X.A.in1) (kdl_raw hs hx hdt) (show X.A.in1.handled = none from I.ok.hd hc) ho (by omega) fun g tk got grown kp it => ?_
      have ea : got.toList = (ks.map fun x => x.2.1).map Value.ref := by
        have hl : got.toList.length = ks.length := by rw [Array.length_toList, it.1]; exact l1
        rw [List.map_map]
        refine List.ext_getElem? fun j => ?_
        rw [List.getElem?_map]
        cases hj : got.toList[j]? with
        | none => rw [List.getElem?_eq_none (by have := List.getElem?_eq_none_iff.mp hj; omega)]; rfl
        | some v =>
          obtain ⟨en, hen, hv⟩ := it.2 j v (by rw [← Array.getElem?_toList]; exact hj)
          have qe := entry_at he j
          rw [hen] at qe
          cases hb : ks[j]? with
          | none => rw [hb] at qe; exact nomatch (show some en = none from qe)
          | some b =>
            rw [hb] at qe
            have e2 : en = entryOfKey (tupleKind (mixKind X.prog X.w)) b := Option.some.inj qe
            rw [hv, e2]
            rfl
      rw [ea]
      exact hR g tk grown kp
  have href : ∀ x ∈ xs, ∃ a, x = V.ref a := fun x m => by
    obtain ⟨t, k, e, _⟩ := hx x m
    exact ⟨t, e⟩
  obtain ⟨e1, e2⟩ := refs_back rv href
  refine sorted_tris (k := fun u => kOf H (backV u)) hz (fun v hv => ?_) hcol fun h' tk d out h1 h2 kp hd hn => ?_
  · obtain ⟨t, rfl⟩ := e2 v hv
    have hm : V.ref t ∈ xs := by rw [e1]; exact List.mem_map.mpr ⟨_, hv, rfl⟩
    obtain ⟨t', k, e, ht, hkk⟩ := hx _ hm
    cases e
    obtain ⟨_, its2, r2, o, ho, hc, n, hd⟩ := I.hok _ _ ht
    show IsTri s.heap (.ref t) (kOf H (.ref t))
    rw [hkk]
    cases r2 with
    | cons r1 r2 => cases r2 with
      | cons r2 r3 => cases r3 with
        | cons r3 r4 =>
          cases r4
          obtain ⟨t1, rfl⟩ := r1
          obtain ⟨t2, rfl⟩ := r2
          obtain ⟨t3, rfl⟩ := r3
          exact ⟨t, o, t1, t2, t3, n, rfl, ho, hc, hd⟩
  · have h3 : ∀ u ∈ out, ∃ a, u = Value.ref a := fun u hu => e2 u (h2.perm.mem_iff.mp hu)
    have hperm : (out.map backV).Perm xs := by rw [e1]; exact h2.perm.map backV
    obtain ⟨n, hn⟩ := hn
    refine ⟨.ref d, upd H d (.lst (out.map backV)), I.laid (t' := tk) kp hd ⟨?_, out, n, vals_back h3, hn⟩, rfl, q _ d (fun x hx' => hx x (hperm.mem_iff.mp hx')) ?_ ?_ (I.hok.fresh hd)⟩
    · rw [List.length_map, h2.perm.length_eq]; exact hz
    · rw [List.map_map]
      exact List.pairwise_map.mpr h1
    · rw [← hk]
      exact hperm.map _
end
/-! ### sorted, of data -/
def le3 (p q : T3) : Bool := !lex3 q p
def sort3 (ts : List T3) : List T3 := ts.mergeSort le3
theorem le3_tr (a b c : T3) (h1 : le3 a b = true) (h2 : le3 b c = true) : le3 a c = true := by
  unfold le3 at *
  simp only [Bool.not_eq_true'] at *
  rw [lex3_no] at *
  omega
theorem le3_tot (a b : T3) : (le3 a b || le3 b a) = true := by
  unfold le3
  cases h : lex3 b a with
  | false => rfl
  | true =>
    have := lex3_iff.mp h
    have h2 : lex3 a b = false := lex3_no.mpr (by omega)
    rw [h2]; rfl
theorem sort3_perm (ts : List T3) : (sort3 ts).Perm ts := List.mergeSort_perm ts le3
theorem sort3_srtd (ts : List T3) : Srtd lex3 (sort3 ts) := by
  have := List.pairwise_mergeSort (le := le3) le3_tr le3_tot ts
  exact this.imp fun {a b} h => by unfold le3 at h; simpa using h
theorem srtd_uniq {xs ys : List T3} (h1 : Srtd lex3 xs) (h2 : Srtd lex3 ys) (hp : xs.Perm ys) : xs = ys := by
  refine List.Perm.eq_of_pairwise (le := fun x y => lex3 y x = false) (fun a b _ _ q1 q2 => ?_) h1 h2 hp
  have a1 := lex3_no.mp q1
  have a2 := lex3_no.mp q2
  exact Prod.ext (by omega) (Prod.ext (by omega) (by omega))
def triD : D → Option T3
  | .tup [.int a, .int b, .int c] => some (a, b, c)
  | _ => none
def trisD : List D → Option (List T3)
  | [] => some []
  | d :: r => match triD d, trisD r with
    | some k, some ts => some (k :: ts)
    | _, _ => none
def eT (k : T3) : D := .tup [.int k.1, .int k.2.1, .int k.2.2]
def sortedG : List D → M D := fun ds => match ds with
  | [.lst xs] => (match trisD xs with | some ts => .ok (.lst ((sort3 ts).map eT)) | none => .er)
  | [.dct kvs] => (match keysT kvs with | some ts => .ok (.lst ((sort3 ts).map eT)) | none => .er)
  | _ => .er
theorem triD_eq {d : D} {k : T3} (h : triD d = some k) : d = eT k := by
  unfold triD at h
  split at h
  · cases h; rfl
  · cases h
theorem rp_tri {K : PySem.W.Frag} {S : Addr → Prop} {H : Hp} {v : V} {k : T3} (r : Rp K S H v (eT k)) : TriV H v ∧ kOf H v = k := by
  unfold eT at r
  cases r with
  | tup h r =>
    have e := RpA.ofInts (ns := [k.1, k.2.1, k.2.2]) r
    subst e
    exact ⟨triV_mk h, kOf_eq h⟩
theorem tri_rp {K : PySem.W.Frag} {S : Addr → Prop} {H : Hp} {v : V} (h : TriV H v) : Rp K S H v (eT (kOf H v)) := by
  obtain ⟨t, k, rfl, h1, h2⟩ := h
  rw [h2]
  exact .tup h1 (RpA.ints [k.1, k.2.1, k.2.2])
theorem rpA_tris {K : PySem.W.Frag} {S : Addr → Prop} {H : Hp} : ∀ {vs : List V} {ds : List D} {ts : List T3}, RpA K S H vs ds → trisD ds = some ts → (∀ x ∈ vs, TriV H x) ∧ vs.map (kOf H) = ts
  | _, _, _, .nil, e => by cases e; exact ⟨fun x hx => by simp at hx, rfl⟩
  | _, d :: ds, ts, .cons r t, e => by
    unfold trisD at e
    split at e
    · next k ts' e1 e2 =>
      cases e
      obtain ⟨g1, g2⟩ := rpA_tris t e2
      have e3 := triD_eq e1
      subst e3
      obtain ⟨h1, h2⟩ := rp_tri r
      refine ⟨fun x hx => ?_, by rw [List.map_cons, h2, g2]⟩
      rcases List.mem_cons.mp hx with rfl | hx
      · exact h1
      · exact g1 x hx
    · cases e
theorem tris_rpA {K : PySem.W.Frag} {S : Addr → Prop} {H : Hp} : ∀ {vs : List V}, (∀ x ∈ vs, TriV H x) → RpA K S H vs ((vs.map (kOf H)).map eT)
  | [], _ => .nil
  | v :: vs, h => .cons (tri_rp (h v List.mem_cons_self)) (tris_rpA fun x hx => h x (List.mem_cons_of_mem _ hx))
theorem rpT_keys {K : PySem.W.Frag} {S : Addr → Prop} {H : Hp} : ∀ {vs : List (List Key × V)} {ds : List (List Key × D)}, RpT K S H vs ds → keysT vs = keysT ds
  | _, _, .nil => rfl
  | (k, v) :: vs, (_, d) :: ds, .cons _ r => by
    unfold keysT
    rw [rpT_keys r]
section
variable {X : Cx} {W : WX} {S0 : Addr → Prop} {H0 : Hp}
theorem cg_sorted : CallG X W S0 H0 .N (rSorted3 X.K) sortedG := by
  intro ρ σ own H Q vs ds R r k
  have fin (ts : List T3) (k : PX X W S0 H0 own .N H σ Q (.ok (.lst ((sort3 ts).map eT)))) : ∀ out p, (∀ x ∈ out, TriV H x) → Srtd lex3 (out.map (kOf H)) → (out.map (kOf H)).Perm ts → H p = none → Q (.ref p) (upd H p (.lst out)) := by
    intro out p h1 h2 h3 hp
    have e : out.map (kOf H) = sort3 ts := srtd_uniq h2 (sort3_srtd ts) (h3.trans (sort3_perm ts).symm)
    refine k _ _ (same_upd hp) ?_
    refine RM.newL R hp ?_
    have := (tris_rpA (K := X.K) (S := SN H H0 own) h1).keep (.same (same_upd (o := .lst out) hp))
    rw [e] at this
    exact this
  unfold sortedG at k
  split at k
  · next xs =>
    obtain ⟨v, rfl, rv⟩ := pair1 r
    obtain ⟨a, us, rfl, h1, h2⟩ := rv.isLst
    split at k
    · next ts e =>
      obtain ⟨g1, g2⟩ := rpA_tris h2 e
      exact ⟨a, ts, rfl, .inl ⟨us, SqL.rd h1, g1, g2⟩, fin ts k⟩
    · exact k.elim
  · next kvs =>
    obtain ⟨v, rfl, rv⟩ := pair1 r
    obtain ⟨a, us, rfl, h1, h2⟩ := rv.isDct
    split at k
    · next ts e =>
      exact ⟨a, ts, rfl, .inr ⟨us, h1, by rw [rpT_keys h2]; exact e⟩, fin ts k⟩
    · exact k.elim
  · exact k.elim
end
end VL
set_option Elab.async false
set_option linter.all false
set_option maxRecDepth 100000
set_option maxHeartbeats 1000000
/-! VL14: zip of two texts; list(text); text * int; ranges with a step, as lists. -/
namespace VL
open PySem L2 PySem.Spec PyProof.Rows
open PySem.Sem (wp)
section
variable {prog : Program} {w : World} {A : Around} {E : Value → Shared → Prop} {s : Shared}
abbrev zy1 (h : Heap) (y : Str) (u : Tok) : Heap := h.push { cls := .type (strIterType y), data := .fields #[.str y u, .int 0 0] }
abbrev zy2 (h : Heap) (y : Str) (u : Tok) (x : Str) (t : Tok) : Heap := (zy1 h y u).push { cls := .type (strIterType x), data := .fields #[.str x t, .int 0 0] }
abbrev zy3 (h : Heap) (y : Str) (u : Tok) (x : Str) (t : Tok) : Heap := (zy2 h y u x t).push { cls := .type "tuple", data := .seq #[.ref h.objs.size, .ref (zy1 h y u).objs.size] }
abbrev zy4 (h : Heap) (y : Str) (u : Tok) (x : Str) (t : Tok) : Heap := (zy3 h y u x t).push { cls := .type "tuple", data := .seq #[.none, .none] }
abbrev zy5 (h : Heap) (y : Str) (u : Tok) (x : Str) (t : Tok) : Heap := (zy4 h y u x t).push { cls := .type "zip", data := .fields #[.none, .bool false, .bool false, .ref (zy2 h y u x t).objs.size, .ref (zy3 h y u x t).objs.size] }
theorem zy_new (y : Str) (u : Tok) (x : Str) (t : Tok) :
    Meets (Builtin.«zip.__new__» ⟨[.type "zip", .str y u, .str x t], []⟩) (fun _ R s => R (.ok (.ret (.ref (zy4 s.heap y u x t).objs.size))) { s with heap := zy5 s.heap y u x t }) :=
  .of_wp fun prog w A R s h => by
    obtain ⟨hp, g, d, tk, os⟩ := s
    have sb := sub_zip
    wp_walk using pyIter_sig
    exact ⟨_, rfl, h⟩
theorem call_zy {y x : Str} {u t : Tok} {Q : Value → Shared → Prop}
    (h : ∀ h' n, n = s.heap.objs.size → IsZip h' (n + 4) (n + 2) (n + 3) .none → IsPair h' (n + 2) (.ref n) (.ref (n + 1)) → IsPair h' (n + 3) .none .none → h'.IsStrIter n (strIterType y) y u 0 → h'.IsStrIter (n + 1) (strIterType x) x t 0 →
      (∀ c o, s.heap.get? c = some o → h'.get? c = some o) → Q (.ref (n + 4)) { s with heap := h' }) :
    wpAny (model prog w) A (call (.type "zip") [.str y u, .str x t]) Q E s := by
  refine callType_new F.called_zip (by decide) (F.typeCall_zip_2 _ _) (F.newCall_zip_2 _ _) (fun obj => F.args_object_init_3 obj _ _) F.entry_zip_new (zy_new y u x t) ?_
  have e1 : (zy1 s.heap y u).objs.size = s.heap.objs.size + 1 := Heap.size_push ..
  have e2 : (zy2 s.heap y u x t).objs.size = s.heap.objs.size + 2 := by rw [Heap.size_push, e1]
  have e3 : (zy3 s.heap y u x t).objs.size = s.heap.objs.size + 3 := by rw [Heap.size_push, e2]
  have e4 : (zy4 s.heap y u x t).objs.size = s.heap.objs.size + 4 := by rw [Heap.size_push, e3]
  have g5 : (zy5 s.heap y u x t).get? (zy4 s.heap y u x t).objs.size = some _ := Heap.get?_push_size _ rfl
  have g4 : (zy5 s.heap y u x t).get? (zy3 s.heap y u x t).objs.size = some _ := Heap.get?_push_of_some _ (Heap.get?_push_size _ rfl)
  have g3 : (zy5 s.heap y u x t).get? (zy2 s.heap y u x t).objs.size = some _ := Heap.get?_push_of_some _ (Heap.get?_push_of_some _ (Heap.get?_push_size _ rfl))
  have g2 : (zy5 s.heap y u x t).get? (zy1 s.heap y u).objs.size = some _ := Heap.get?_push_of_some _ (Heap.get?_push_of_some _ (Heap.get?_push_of_some _ (Heap.get?_push_size _ rfl)))
  have g1 : (zy5 s.heap y u x t).get? s.heap.objs.size = some _ := Heap.get?_push_of_some _ (Heap.get?_push_of_some _ (Heap.get?_push_of_some _ (Heap.get?_push_of_some _ (Heap.get?_push_size _ rfl))))
  show (∃ o, (zy5 s.heap y u x t).get? (zy4 s.heap y u x t).objs.size = some o ∧ _) ∧ _
  rw [e2, e3, e4] at g5
  rw [e1, e2] at g3
  rw [e3] at g4
  rw [e1] at g2
  rw [e4]
  exact ⟨⟨_, g5, rfl⟩, h _ _ rfl g5 g3 g4 ⟨_, g1, rfl, rfl⟩ ⟨_, g2, rfl, rfl⟩ fun c o e => Heap.get?_push_of_some _ (Heap.get?_push_of_some _ (Heap.get?_push_of_some _ (Heap.get?_push_of_some _ (Heap.get?_push_of_some _ e))))⟩
end
/-- the texts y and x, in new pairs -/
def ItzY (y x : Str) : It :=
  ⟨fun i H => i < y.cps.size ∧ i < x.cps.size,
    fun i H v H' => ∃ T b c, v = .ref T ∧ H T = none ∧ H' = upd H T (.tup [.str ⟨#[b]⟩, .str ⟨#[c]⟩]) ∧ y.cps[i]? = some b ∧ x.cps[i]? = some c,
    fun i H => y.cps.size ≤ i ∨ x.cps.size ≤ i⟩
theorem stops_str {X : Cx} (hh : X.A.handled = none) (i1 : Addr) (x : Str) (t : Tok) (i : Nat) (hl : x.cps.size ≤ i) : Stops X.prog X.w X.A.in1 i1 fun h => h.IsStrIter i1 (strIterType x) x t i := by
  intro s Q E st k
  have hx : x.cps[i]? = none := Array.getElem?_eq_none hl
  unfold strIterType at st
  split at st
  · exact wpAny_nextOf_ascii_end (A := X.A.in1) hh st hx k
  · exact wpAny_nextOf_wide_end (A := X.A.in1) hh st hx k
theorem turn_zy {P : Program} {w : World} {K : PySem.W.Frag} {elts : List Expr} {kk : Nat} {tpos : Pos} {z TI TO i1 i2 : Addr} {y x : Str} {u t : Tok} (D : ZA z TI TO i1 i2 [i1] [i2]) :
    Turn P w K (.Tuple elts kk tpos) (ItzY y x) [z, TI, TO, i1, i2] z (fun i h => IsZip h z TI TO .none ∧ IsPair h TI (.ref i1) (.ref i2) ∧ (∃ p q, IsPair h TO p q) ∧ h.IsStrIter i1 (strIterType y) y u i ∧ h.IsStrIter i2 (strIterType x) x t i) where
  mem := by simp
  obj := fun i h st c hc => by
    obtain ⟨gz, gI, ⟨p, q, gO⟩, ⟨o1, e1, _, d1⟩, ⟨o2, e2, _, d2⟩⟩ := st
    simp only [List.mem_cons, List.not_mem_nil, or_false] at hc
    rcases hc with q | q | q | q | q <;> rw [q]
    · exact ⟨_, gz, fun v q => nomatch q⟩
    · exact ⟨_, gI, fun v q => nomatch q⟩
    · exact ⟨_, gO, fun v q => nomatch q⟩
    · exact ⟨o1, e1, fun v q => by rw [d1] at q; cases q⟩
    · exact ⟨o2, e2, fun v q => by rw [d2] at q; cases q⟩
  keep := fun i h h' st k => by
    obtain ⟨gz, gI, ⟨p, q, gO⟩, ⟨o1, e1, d1⟩, ⟨o2, e2, d2⟩⟩ := st
    exact ⟨k z (by simp) _ gz, k TI (by simp) _ gI, ⟨p, q, k TO (by simp) _ gO⟩, ⟨o1, k i1 (by simp) _ e1, d1⟩, ⟨o2, k i2 (by simp) _ e2, d2⟩⟩
  item := by
    intro X hP hw hK hc i pins s σ H E I hf st hg
    subst hP hw hK
    obtain ⟨gz, gI, ⟨p0, q0, gO⟩, m1, m2⟩ := st
    obtain ⟨hl1, hl⟩ := hg
    have zl : z < s.heap.objs.size := Heap.lt_size gz
    obtain ⟨q1, q2, q3, q4, q5, q6, q7, q8, q9, q10⟩ := D.a
    have D1 : Draws X.prog X.w X.A.in1 i1 [i1] y.cps.size (sigD y) (fun i h => h.IsStrIter i1 (strIterType y) y u i) := dr_str (A := X.A.in1) (show X.A.in1.handled = none from I.ok.hd hc) i1 y u
    have D2 : Draws X.prog X.w X.A.in1 i2 [i2] x.cps.size (sigD x) (fun i h => h.IsStrIter i2 (strIterType x) x t i) := dr_str (A := X.A.in1) (show X.A.in1.handled = none from I.ok.hd hc) i2 x t
    refine zx_next (i := i) D1 D2 D gz gI gO m1 m2 hl1 hl fun v1 v2 h' tk w1 w2 g1 g2 g3 g4 g5 g6 => ?_
    obtain ⟨b, tb, hbx, rfl⟩ := w1
    obtain ⟨c, tc, hcx, rfl⟩ := w2
    refine ⟨_, rfl, wpAny_letOwnedTupleGo_zip (s := { s with heap := h', toks := tk }) g1 fun h2 g1' sb => ?_⟩
    have hT2 : h2.get? s.heap.objs.size = some { cls := .type "tuple", data := .seq #[.str ⟨#[b]⟩ tb, .str ⟨#[c]⟩ tc] } := (sb.2 _ (Nat.ne_of_gt zl)).trans g5
    have new : ObjOk X.prog X.w (upd H s.heap.objs.size (.tup [.str ⟨#[b]⟩, .str ⟨#[c]⟩])) h2 s.heap.objs.size (.tup [.str ⟨#[b]⟩, .str ⟨#[c]⟩]) :=
      ⟨show 2 ≤ sizeLine by rw [sizeLine_eq]; decide, [.str ⟨#[b]⟩ tb, .str ⟨#[c]⟩ tc], .cons ⟨tb, rfl⟩ (.cons ⟨tc, rfl⟩ .nil), ⟨_, hT2, rfl, _, rfl⟩⟩
    have nin {c : Addr} (hb : c ∉ [z, TI, TO, i1, i2]) : c ≠ z ∧ c ≠ TI ∧ c ≠ TO ∧ c ≠ i1 ∧ c ≠ i2 := by
      simp only [List.mem_cons, List.not_mem_nil, or_false, not_or] at hb
      exact hb
    have I1 : Inv X pins σ (upd H s.heap.objs.size (.tup [.str ⟨#[b]⟩, .str ⟨#[c]⟩])) { s with heap := h2, toks := tk } :=
      I.turnedNew (t' := tk) (ch := [z, TI, TO, i1, i2]) (fun c o hb q => by
        obtain ⟨b1, b2, b3, b4, b5⟩ := nin hb
        exact (sb.2 c b1).trans (g6 c o b1 b3 b4 b5 q)) hf (Nat.le_refl _) new
    refine ⟨.ref s.heap.objs.size, _, I1, rfl, ⟨_, b, c, rfl, I.hok.fresh (Nat.le_refl _), rfl, hbx, hcx⟩, ⟨g1', ?_, ⟨.str ⟨#[b]⟩ tb, .str ⟨#[c]⟩ tc, ?_⟩, ?_, ?_⟩, fun c hcm => ?_⟩
    · exact (sb.2 _ q1).trans (g6 _ _ q1 q5 q6 q7 gI)
    · exact (sb.2 _ q2).trans g2
    · obtain ⟨o, e, r⟩ := g3
      exact ⟨o, (sb.2 _ q3).trans e, r⟩
    · obtain ⟨o, e, r⟩ := g4
      exact ⟨o, (sb.2 _ q4).trans e, r⟩
    · have hlt : c < s.heap.objs.size := by
        simp only [List.mem_cons, List.not_mem_nil, or_false] at hcm
        rcases hcm with q | q | q | q | q <;> rw [q]
        · exact zl
        · exact Heap.lt_size gI
        · exact Heap.lt_size gO
        · obtain ⟨_, e1, _⟩ := m1; exact Heap.lt_size e1
        · obtain ⟨_, e2, _⟩ := m2; exact Heap.lt_size e2
      rw [upd_ne (Nat.ne_of_lt hlt)]
      exact (hf c hcm).1
  done := by
    intro X hP hw hK hc i pins s σ H E I hf st hg
    subst hP hw hK
    obtain ⟨gz, gI, ⟨p0, q0, gO⟩, m1, m2⟩ := st
    have D1 : Draws X.prog X.w X.A.in1 i1 [i1] y.cps.size (sigD y) (fun i h => h.IsStrIter i1 (strIterType y) y u i) := dr_str (A := X.A.in1) (show X.A.in1.handled = none from I.ok.hd hc) i1 y u
    have D2 : Draws X.prog X.w X.A.in1 i2 [i2] x.cps.size (sigD x) (fun i h => h.IsStrIter i2 (strIterType x) x t i) := dr_str (A := X.A.in1) (show X.A.in1.handled = none from I.ok.hd hc) i2 x t
    have hh : X.A.handled = none := I.ok.hd hc
    have hg' : y.cps.size ≤ i ∨ x.cps.size ≤ i := hg
    have stops : Stops X.prog X.w X.A.in1 i1 (fun h => h.IsStrIter i1 (strIterType y) y u i) ∨ (i < y.cps.size ∧ Stops X.prog X.w X.A.in1 i2 fun h => h.IsStrIter i2 (strIterType x) x t i) := by
      by_cases hl : y.cps.size ≤ i
      · exact .inl (stops_str hh i1 y u i hl)
      · exact .inr ⟨by omega, stops_str hh i2 x t i (by omega)⟩
    refine zx_stop (i := i) D1 D2 D gz gI gO m1 m2 stops fun h' tk g => ⟨rfl, ?_⟩
    refine I.turnedL (t' := tk) (ch := [z, TI, TO, i1, i2]) (fun c o hb q => ?_) hf
    simp only [List.mem_cons, List.not_mem_nil, or_false, not_or] at hb
    exact g c o hb.1 hb.2.2.1 hb.2.2.2.1 hb.2.2.2.2 q
  self := fun A i s Q E st h => wpAny_pyIter_zip st.1 h
def iZy (ta : TA) : TI := fun σ H R => ta σ H fun vs H1 => ∃ y x, vs = [V.str y, .str x] ∧ R (ItzY y x) H1
theorem pi_zy {X : Cx} {e e2 : Expr} {ta : TA} {p pos tpos : Pos} {elts : List Expr} {kk : Nat} (hg : Gl X "zip") (hm : X.mg "zip" = none) (ha : PA X [e, e2] ta)
    (hs : starEach [e, e2] X.env = (false, eval e X.env) :: starEach [e2] X.env := by rfl) (hpl : (backTo pos (starEach [e2] X.env)).any (·.1) = false := by rfl) :
    PI X (.Tuple elts kk tpos) (.Call (.Name "zip" p) [e, e2] [] pos) (iZy ta) := by
  constructor
  intro pins s σ H R I h
  refine Call_ (ld_blt I hg hm PyProof.Rows.boot_zip (PyProof.Rows.callWith_type1 (thn (ha.run pos pins s σ H _ I h) fun us s1 ⟨vs, H1, I1, r1, y, x, ev, q⟩ => ?_) hs hpl))
  subst ev
  obtain ⟨v1, v2, rfl, rv1, rv2⟩ := vals2 r1
  obtain ⟨u, rfl⟩ := rv1
  obtain ⟨t, rfl⟩ := rv2
  refine call_zy fun h' n en gz gI gO m1 m2 kp => wpAny_pyIter_zip gz ?_
  have D : ZA (n + 4) (n + 2) (n + 3) n (n + 1) [n] [n + 1] := by
    have ap : ∀ j k : Nat, j ≠ k → (n + j : Nat) ≠ (n + k : Nat) := fun j k h e => h (Nat.add_left_cancel e)
    have a0 : ∀ k : Nat, k ≠ 0 → (n + k : Nat) ≠ n := fun k h e => h (by omega)
    refine ⟨⟨ap 2 4 (by decide), ap 3 4 (by decide), (a0 4 (by decide)).symm, ap 1 4 (by decide), ap 2 3 (by decide), a0 2 (by decide), ap 2 1 (by decide), a0 3 (by decide), ap 3 1 (by decide), (a0 1 (by decide)).symm⟩, ⟨?_, ?_, ?_⟩, ⟨?_, ?_, ?_⟩⟩
    · exact fun h => a0 4 (by decide) (List.mem_singleton.mp h)
    · exact fun h => a0 3 (by decide) (List.mem_singleton.mp h)
    · exact fun h => a0 1 (by decide) (List.mem_singleton.mp h)
    · exact fun h => ap 4 1 (by decide) (List.mem_singleton.mp h)
    · exact fun h => ap 3 1 (by decide) (List.mem_singleton.mp h)
    · exact fun h => (a0 1 (by decide)).symm (List.mem_singleton.mp h)
  refine ⟨n + 4, [n + 4, n + 2, n + 3, n, n + 1], _, _, H1, rfl, I1.kept (t' := s1.toks) kp, turn_zy (u := u) (t := t) D, ⟨gz, gI, ⟨_, _, gO⟩, m1, m2⟩, fun b hb => ?_, q⟩
  have hle : s1.heap.objs.size ≤ b := by
    simp only [List.mem_cons, List.not_mem_nil, or_false] at hb
    rw [← en]
    rcases hb with e | e | e | e | e <;> rw [e]
    · exact Nat.le_add_right _ _
    · exact Nat.le_add_right _ _
    · exact Nat.le_add_right _ _
    · exact Nat.le_refl _
    · exact Nat.le_add_right _ _
  exact I1.fpOk hle (I1.hok.fresh hle)
def zipC : List Nat → List Nat → List D
  | b :: bs, c :: cs => .tup [.str ⟨#[b]⟩, .str ⟨#[c]⟩] :: zipC bs cs
  | _, _ => []
theorem zipC_len : ∀ (xs cs : List Nat), (zipC xs cs).length = min xs.length cs.length
  | [], cs => by simp [zipC]
  | x :: xs, [] => by simp [zipC]
  | x :: xs, c :: cs => by simp [zipC, zipC_len xs cs]
theorem zipC_get : ∀ (xs cs : List Nat) (i a c : Nat), xs[i]? = some a → cs[i]? = some c → (zipC xs cs)[i]? = some (.tup [.str ⟨#[a]⟩, .str ⟨#[c]⟩])
  | [], _, _, _, _, h, _ => by simp at h
  | _ :: _, [], _, _, _, _, h => by simp at h
  | x :: xs, y :: ys, 0, a, b, h1, h2 => by
    simp at h1 h2
    subst h1 h2
    rfl
  | x :: xs, y :: ys, i + 1, a, b, h1, h2 => by
    simp at h1 h2
    exact zipC_get xs ys i a b h1 h2
def zipSSG : List D → M (List D) := fun ds => match ds with
  | [.str y, .str z] => .ok (zipC y.cps.toList z.cps.toList)
  | _ => .er
def eZipSS (f : Rho → M (List D)) : Rho → M (List D) := fun ρ => M.bind (f ρ) zipSSG
theorem vi_zipSS {X : Cx} {W : WX} {S0 : Addr → Prop} {H0 : Hp} {pos p tpos : Pos} {e e2 : Expr} {fa : Rho → M (List D)} {elts : List Expr} {kk : Nat} (hm : X.mg "zip" = none) (ha : VA X W S0 H0 .E [e, e2] fa) (hg : Gl X "zip" := by rfl) (hs1 : starEach (e :: [e2]) X.env = (false, eval e X.env) :: starEach [e2] X.env := by rfl) (hpl : (backTo pos (starEach [e2] X.env)).any (·.1) = false := by rfl)
    (hf : ∀ x, foldedSetIterable (.Call (.Name "zip" p) [e, e2] [] pos) X.env x = pure x := by intro _; rfl) : VI X W S0 H0 (.Tuple elts kk tpos) (.Call (.Name "zip" p) [e, e2] [] pos) (eZipSS fa) := by
  obtain ⟨te, pa, q⟩ := ha.p
  refine ⟨⟨_, pi_zy hg hm pa hs1 hpl, fun ρ σ own H Rk R k => q ρ σ own H _ R ?_⟩, hf⟩
  unfold eZipSS at k
  revert k
  cases fa ρ with
  | er => exact id
  | ex c => exact id
  | ok ds =>
    intro k vs H1 s1 r1
    rw [bind_ok] at k
    unfold zipSSG at k
    split at k
    · next yy z =>
      obtain ⟨v, w, rfl, r2, r3⟩ := pair2 r1
      have R1 := R.grow s1
      cases r3
      cases r2
      refine ⟨yy, z, rfl, k _ H1 s1 ?_⟩
      intro own' H' F hsm ho i
      rw [zipC_len]
      have hzz : z.cps.toList.length = z.cps.size := Array.length_toList
      have hyy : yy.cps.toList.length = yy.cps.size := Array.length_toList
      refine ⟨fun hi => ?_, fun hi => ?_, fun y H2 hi ⟨T, b, c, ey, nT, eH, f1, f2⟩ => ?_⟩
      · exact ⟨show i < yy.cps.size by omega, show i < z.cps.size by omega⟩
      · show yy.cps.size ≤ i ∨ z.cps.size ≤ i
        omega
      · subst ey eH
        exact ⟨same_upd nT, .tup [.str ⟨#[b]⟩, .str ⟨#[c]⟩], zipC_get _ _ i b c (by rw [Array.getElem?_toList]; exact f1) (by rw [Array.getElem?_toList]; exact f2), up2 nT (.str _) (.str _)⟩
    · exact k.elim
end VL
set_option Elab.async false
set_option linter.all false
set_option maxRecDepth 100000
set_option maxHeartbeats 1000000
/-! VL15: list(text); a sign * int; ranges downwards, as lists; dict.update, dict.pop; list.pop, list.insert, list.index. -/
namespace VL
open PySem L2 PySem.Spec PyProof.Rows
section
variable {X : Cx} {W : WX} {S0 : Addr → Prop} {H0 : Hp} {rm m ma mb : Md} {pos p apos cpos : Pos} {a b e : Expr} {fa fb : Rho → M D} {fas : Rho → M (List D)} {tg : Expr}
/-! ### list(text) -/
def strV (x : Str) : List V := x.cps.toList.map fun c => V.str ⟨#[c]⟩
def rListS : List V → Hp → VK → Prop := fun vs H Q => ∃ x, vs = [V.str x] ∧ x.cps.size ≤ 16777216 ∧ ∀ l, H l = none → Q (.ref l) (upd H l (.lst (strV x)))
theorem call_list_sign (hc : X.calm = true) : CallR X (.type "list") rListS := by
  intro pins s σ H xs us Q I r h
  obtain ⟨x, rfl, hz, q⟩ := h
  obtain ⟨u, rfl, rx⟩ := vals1 r
  obtain ⟨t, rfl⟩ := rx
  refine call_list_str (I.ok.hd hc) x t (fun h' tk acc c' kp hS items => ?_) (by rw [sizeLine_eq]; exact hz)
  have hl : (strV x).length = acc.toList.length := by
    unfold strV
    rw [List.length_map, Array.length_toList, Array.length_toList, items.1]
  refine ⟨.ref s.heap.objs.size, upd H s.heap.objs.size (.lst (strV x)), I.laid (t' := tk) kp (Nat.le_refl _) (show ObjOk X.prog X.w _ _ _ (.lst (strV x)) from ⟨?_, acc.toList, c', vals_of_at hl fun j y w h1 h2 => ?_, ?_⟩), rfl, q _ (I.hok.fresh (Nat.le_refl _))⟩
  · rw [hl, Array.length_toList, items.1, sizeLine_eq]; exact hz
  · obtain ⟨c, u, hcx, rfl⟩ := items.2 j w (by rw [← Array.getElem?_toList]; exact h2)
    unfold strV at h1
    rw [List.getElem?_map, Array.getElem?_toList, hcx] at h1
    cases h1
    exact ⟨u, rfl⟩
  · rw [Array.toArray_toList]; exact hS
def listSG : List D → M D := fun xs => match xs with
  | [.str z] => if z.cps.size ≤ 16777216 then .ok (.lst (z.cps.toList.map fun c => .str ⟨#[c]⟩)) else .er
  | _ => listG xs
theorem rpA_sign {K : PySem.W.Frag} {S : Addr → Prop} {H : Hp} : ∀ cs : List Nat, RpA K S H (cs.map fun c => V.str ⟨#[c]⟩) (cs.map fun c => D.str ⟨#[c]⟩)
  | [] => .nil
  | c :: cs => .cons (.str _) (rpA_sign cs)
theorem cg_listS : CallG X W S0 H0 .N (fun xs H Q => (∃ p ys, xs = [.ref p] ∧ (SqL X.K H p ys ∨ SqT X.K H p ys) ∧ ∀ l, H l = none → Q (.ref l) (upd H l (.lst ys))) ∨ rListS xs H Q) listSG := by
  intro ρ σ own H Q vs ds R r k
  unfold listSG at k
  split at k
  · next z =>
    split at k
    · next hz =>
      obtain ⟨v, rfl, r1⟩ := pair1 r
      rw [r1.isStr]
      exact .inr ⟨z, rfl, hz, fun p hp => k _ _ (same_upd hp) (RM.newL R hp (rpA_sign _))⟩
    · exact k.elim
  · exact .inl (cg_list ρ σ own H Q vs _ R r k)
/-! ### a text * int -/
def repS (z : Str) (n : Int) : Str := if n < 1 then Str.empty else if (n == 1 || z.length == 0) = true then z else ⟨(List.replicate n.toNat z.cps).foldl (· ++ ·) #[]⟩
def rMulS : R2 := fun x y H Q => ∃ z n, x = .str z ∧ y = .int n ∧ z.length = 1 ∧ 0 ≤ n ∧ n ≤ 1000000 ∧ Q (.str (repS z n)) H
theorem fold_size : ∀ (n : Nat) (c : Array Nat) (acc : Array Nat), ((List.replicate n c).foldl (· ++ ·) acc).size = acc.size + n * c.size
  | 0, c, acc => by simp
  | n + 1, c, acc => by
    rw [List.replicate_succ, List.foldl_cons, fold_size n c, Array.size_append, Nat.add_mul]
    omega
theorem op_mulS : OpR X (binaryOp .Mult) rMulS := by
  intro pins s σ H x y v u Q I rx ry h
  obtain ⟨z, n, rfl, rfl, h1, h2, h3, q⟩ := h
  obtain ⟨t, rfl⟩ := rx
  obtain ⟨t', rfl⟩ := ry
  refine PySem.P.mul_str ?_ (fun g1 g2 => ?_) (fun g1 g2 => ?_) ?_
  · rw [decide_eq_false (by omega), decide_eq_false (by omega)]; rfl
  · rw [h1]
    have : (1 : Int) ≤ (2 ^ 63 - 1) / n := by
      refine Int.le_ediv_of_mul_le (by omega) (by omega)
    omega
  · rw [h1, Nat.one_mul]
    unfold Builtin.Str.tooLong
    rw [sizeLine_eq]
    simp only [decide_eq_false_iff_not]
    omega
  · have q' : Q (.str (repS z n)) H := q
    unfold repS at q'
    split
    · next g => rw [if_pos g] at q'; exact ⟨Nat.zero_le _, .str Str.empty, H, I.tok _, ⟨_, rfl⟩, q'⟩
    · next g =>
      rw [if_neg g] at q'
      split
      · next g2 => rw [if_pos g2] at q'; exact ⟨.str z, H, I, ⟨t, rfl⟩, q'⟩
      · next g2 =>
        rw [if_neg g2] at q'
        refine ⟨?_, .str _, H, I.tok _, ⟨_, rfl⟩, q'⟩
        show ((List.replicate n.toNat z.cps).foldl (· ++ ·) #[]).size ≤ sizeLine
        have h1' : z.cps.size = 1 := h1
        rw [fold_size, h1', sizeLine_eq]
        simp only [List.size_toArray, List.length_nil]
        omega
def mulSG : D → D → M D := fun x y => match x, y with
  | .str z, .int n => if z.length = 1 ∧ 0 ≤ n ∧ n ≤ 1000000 then .ok (.str (repS z n)) else .er
  | _, _ => .er
theorem og_mulS : OpG X W S0 H0 m rMulS mulSG := by
  intro ρ σ own H Q vx vy x y R rx ry k
  unfold mulSG at k
  split at k
  · next z n =>
    split at k
    · next hz => exact ⟨z, n, rx.isStr, ry.isInt, hz.1, hz.2.1, hz.2.2, k _ H (Same.refl H) (.ofStr _)⟩
    · exact k.elim
  · exact k.elim
theorem vx_mulS (ha : VX X W S0 H0 ma a fa) (hb : VX X W S0 H0 mb b fb) : VX X W S0 H0 m (.BinOp a .Mult b pos) (eOp mulSG fa fb) := vx_op op_mulS og_mulS ha hb
/-! ### ranges downwards -/
def rngDn (hi : Int) (n : Nat) : List D := (List.range n).map fun i => .int (hi - (i : Nat))
def eR3 (f : Rho → M (List D)) : Rho → M (List D) := fun ρ => M.bind (f ρ) fun d => match d with
  | [.int i, .int j, .int c] => if c = -1 ∧ -(2 ^ 62) ≤ i ∧ i < 2 ^ 62 ∧ -(2 ^ 62) ≤ j ∧ j < 2 ^ 62 then .ok (rngDn i (i - j).toNat) else .er
  | _ => .er
theorem pair3 {F : V → D → Prop} {vs : List V} {d e f : D} (h : Paired F vs [d, e, f]) : ∃ v w u, vs = [v, w, u] ∧ F v d ∧ F w e ∧ F u f := by
  cases h with
  | cons a r => cases r with
    | cons b r => cases r with
      | cons c r => cases r; exact ⟨_, _, _, rfl, a, b, c⟩
theorem vi_range3 {a b c : Expr} {p : Pos} (hm : X.mg "range" = none) (ha : VA X W S0 H0 .O [a, b, c] fas) (hg : Gl X "range" := by rfl) (hs : starEach [a, b, c] X.env = (false, eval a X.env) :: starEach [b, c] X.env := by rfl) (hpl : (backTo pos (starEach [b, c] X.env)).any (·.1) = false := by rfl)
    (hf : ∀ x, foldedSetIterable (.Call (.Name "range" p) [a, b, c] [] pos) X.env x = pure x := by intro _; rfl) : VI X W S0 H0 tg (.Call (.Name "range" p) [a, b, c] [] pos) (eR3 fas) := by
  obtain ⟨te, pa, q⟩ := ha.p
  refine ⟨⟨_, pi_range3 hg hm pa hs hpl, fun ρ σ own H Rk R k => q ρ σ own H _ R ?_⟩, hf⟩
  unfold eR3 at k
  revert k
  cases fas ρ with
  | er => exact id
  | ex c => exact id
  | ok ds =>
    intro k vs H1 s1 r1
    rw [bind_ok] at k
    split at k
    · next i j c =>
      split at k
      · next hj =>
        obtain ⟨v, w, u, rfl, r2, r3, r4⟩ := pair3 r1
        rw [r2.isInt, r3.isInt, r4.isInt]
        obtain ⟨rfl, hj⟩ := hj
        refine ⟨i, j, -1, (i - j).toNat, rfl, RgC.neg hj.1 hj.2.1 hj.2.2.1 hj.2.2.2, k _ H1 s1 ?_⟩
        intro own' H' F _ _ n
        have hl : (rngDn i (i - j).toNat).length = (i - j).toNat := by simp [rngDn]
        rw [hl]
        refine ⟨id, id, fun x H2 hi ⟨e, y⟩ => ?_⟩
        subst e
        subst y
        exact ⟨Same.refl _, .int (i - (n : Nat)), by simp [rngDn, hi], by rw [show i + (n : Nat) * -1 = i - (n : Nat) by omega]; exact .int _⟩
      · exact k.elim
    · exact k.elim
/-! ### list(range(n)) -/
def eLR (f : Rho → M D) : Rho → M D := fun ρ => M.bind (f ρ) fun d => match d with
  | .int n => if 0 ≤ n ∧ n ≤ 1000000 then .ok (.lst (rngD 0 n.toNat)) else .er
  | _ => .er
theorem rpA_rg {K : PySem.W.Frag} {S : Addr → Prop} {H : Hp} (n : Int) : RpA K S H (rgV 0 n) (rngD 0 n.toNat) := by
  have key : ∀ l : List Nat, RpA K S H (l.map fun (i : Nat) => V.int (0 + (i : Nat))) (l.map fun (i : Nat) => D.int (0 + (i : Nat))) := by
    intro l
    induction l with
    | nil => exact .nil
    | cons i l ih => exact .cons (.int _) ih
  unfold rgV rngD
  rw [Int.sub_zero]
  exact key _
theorem vx_listRg {p p2 pos2 : Pos} (hc : X.calm = true) (hm : X.mg "list" = none) (hm2 : X.mg "range" = none) (ha : VX X W S0 H0 ma a fa) (hg : Gl X "list" := by rfl) (hg2 : Gl X "range" := by rfl)
    (na2 : starEach [a] X.env = (false, eval a X.env) :: starEach [] X.env := by rfl)
    (na : starEach [.Call (.Name "range" p2) [a] [] pos2] X.env = (false, eval (.Call (.Name "range" p2) [a] [] pos2) X.env) :: starEach [] X.env := by rfl) : VX X W S0 H0 .N (.Call (.Name "list" p) [.Call (.Name "range" p2) [a] [] pos2] [] pos) (eLR fa) := by
  obtain ⟨te, pa, q⟩ := ha.p
  refine ⟨_, pe_listRg hc hg hm (prg_1 hg2 hm2 pa na2) na, fun ρ σ own H Q R k => q ρ σ own H _ R ?_⟩
  unfold eLR at k
  revert k
  cases fa ρ with
  | er => exact id
  | ex c => exact id
  | ok d =>
    intro k v H1 s1 r1
    rw [bind_ok] at k
    split at k
    · next n =>
      split at k
      · next hn =>
        refine ⟨n, r1.isInt, RgOk.of_le (by omega) (by omega) (by omega) hn.1, fun l hl => k _ _ (s1.trans (same_upd hl)) ?_⟩
        exact (RM.newL (R.grow s1) hl (rpA_rg n)).back s1
      · exact k.elim
    · exact k.elim
end
/-! ### a new tuple taken apart: its items are new -/
section
variable (X : Cx) (S0 : Addr → Prop) (H0 : Hp)
structure VGF (ks : List Nat) (tg : Expr) (f : D → Rho → Option Rho) : Prop where
  p : ∃ g, PG X tg g ∧ ∀ v d ρ ρ' σ own H Q, Rel X.K S0 H0 ρ σ own H → Rp X.K (SF H0 own) H v d → f d ρ = some ρ' → (∀ σ', Rel X.K S0 H0 ρ' σ' own H → OnlyS ks σ σ' → Q σ' H) → g v σ H Q
structure VGFs (ks : List Nat) (tg : List Expr) (f : List D → Rho → Option Rho) : Prop where
  p : ∃ g, PGs X tg g ∧ ∀ vs ds ρ ρ' σ own H Q, Rel X.K S0 H0 ρ σ own H → RpA X.K (SF H0 own) H vs ds → f ds ρ = some ρ' → (∀ σ', Rel X.K S0 H0 ρ' σ' own H → OnlyS ks σ σ' → Q σ' H) → g vs σ H Q
end
def tgF (i : Nat) : D → Rho → Option Rho := fun d ρ => some (ρ.set i (.fr d))
section
variable {X : Cx} {W : WX} {S0 : Addr → Prop} {H0 : Hp} {rm m : Md} {pos : Pos} {tg e : Expr} {ft : D → Rho → Option Rho} {fe : Rho → M D}
theorem vgf_name {i : Nat} {x : Str} (hN : X.N.Nodup) (hi : X.N[i]? = some x := by rfl) (hx : Loc X.env.scope x := by first | exact Or.inl rfl | exact Or.inr rfl) (hf : X.fn x = true ∨ X.env.scope.names.lookup x = some .local := by first | exact .inl rfl | exact .inr rfl) : VGF X S0 H0 [i] (.Name x pos) (tgF i) := by
  refine ⟨_, pg_name hN hi hx hf, fun v d ρ ρ' σ own H Q R r e k => ?_⟩
  cases e
  exact k _ (R.setFr r) ⟨List.length_set, fun j hj => List.getElem?_set_ne (fun z => hj (by rw [← z]; exact List.mem_cons_self))⟩
theorem vgfs_nil : VGFs X S0 H0 [] [] tgNil := by
  refine ⟨_, pgs_nil, fun vs ds ρ ρ' σ own H Q R r e k => ?_⟩
  cases r with
  | nil => cases e; exact ⟨rfl, k _ R ⟨rfl, fun _ _ => rfl⟩⟩
  | cons _ _ => cases e
theorem vgfs_cons {k1 k2 : List Nat} {es : List Expr} {fs : List D → Rho → Option Rho} (h : VGF X S0 H0 k1 e ft) (h2 : VGFs X S0 H0 k2 es fs) (hs : (assignEach (e :: es) X.env).map (·.2) = assign e X.env :: (assignEach es X.env).map (·.2) := by rfl) : VGFs X S0 H0 (k1 ++ k2) (e :: es) (tgCons ft fs) := by
  obtain ⟨g, p, q⟩ := h.p
  obtain ⟨g2, p2, q2⟩ := h2.p
  refine ⟨_, pgs_cons p p2 hs, fun vs ds ρ ρ' σ own H Q R r e k => ?_⟩
  cases r with
  | nil => cases e
  | cons r1 r2 =>
    rename_i v d vs ds
    unfold tgCons at e
    cases e1 : ft d ρ with
    | none => simp [e1] at e
    | some ρ1 =>
      simp [e1] at e
      exact ⟨_, _, rfl, q _ _ _ _ _ _ _ _ R r1 e1 fun σ' R' o1 => q2 _ _ _ _ _ _ _ _ R' r2 e fun σ2 R2 o2 => k σ2 R2 ⟨o2.1.trans o1.1, fun j hj => (o2.2 j fun z => hj (List.mem_append_right _ z)).trans (o1.2 j fun z => hj (List.mem_append_left _ z))⟩⟩
theorem vgf_tup {ks : List Nat} {es : List Expr} {j n : Nat} {fs : List D → Rho → Option Rho} (hc : X.calm = true) (h : VGFs X S0 H0 ks es fs) (hn : (assignEach es X.env).length = n := by rfl) (hst : (assignEach es X.env).findIdx? (·.1) = none := by rfl) : VGF X S0 H0 ks (.Tuple es j pos) (tgT n fs) := by
  obtain ⟨g, p, q⟩ := h.p
  refine ⟨_, pg_tup hc p hn hst, fun v d ρ ρ' σ own H Q R r e k => ?_⟩
  unfold tgT at e
  split at e
  · next ds =>
    split at e
    · next hl =>
      cases r with
      | tup h1 r1 => exact ⟨_, _, rfl, SqT.of h1, by rw [r1.length]; exact hl, q _ _ _ _ _ _ _ _ R r1 e k⟩
    · cases e
  · next ds =>
    split at e
    · next hl =>
      cases r with
      | kt h1 r1 => exact ⟨_, _, rfl, .inr h1, by rw [r1.length]; exact hl, q _ _ _ _ _ _ _ _ R r1 e k⟩
    · cases e
  · cases e
theorem vs_unpF {ks : List Nat} {tg : Expr} {ft : D → Rho → Option Rho} (h : VX X W S0 H0 .F e fe) (hg : VGF X S0 H0 ks tg ft) (hs : swapsWithSole [tg] e pos.line X.env = pure false := by rfl) (hw : swappedStores [tg] e X.env = pure none := by rfl)
    (h1 : (assignEach [tg] X.env).map (·.2) = [assign tg X.env] := by rfl) : VS X W S0 H0 rm (.Assign [tg] e pos) (sUnp fe ft) := by
  obtain ⟨te, pe, qe⟩ := h.p
  obtain ⟨g, pg, qg⟩ := hg.p
  refine ⟨_, ps_asg pe pg hs hw h1, fun ρ σ own H D R k => qe ρ σ own H _ R ?_⟩
  unfold sUnp at k
  revert k
  cases fe ρ with
  | er => exact id
  | ex c => exact fun k cv d H' i s => k cv d σ own H' i (R.grow s) (.same s)
  | ok d =>
    intro k v H1 s1 r1
    rw [ofM_ok] at k
    split at k
    · next ρ' e1 => exact qg v d ρ ρ' σ own H1 _ (R.grow s1) r1 e1 fun σ' R' _ => k σ' own H1 R' (.same s1)
    · exact k.elim
end
end VL
set_option Elab.async false
set_option linter.all false
set_option maxRecDepth 100000
set_option maxHeartbeats 1000000
/-! VL16: d.update(d2), d.pop(k) of dicts whose keys are tuples. -/
namespace VL
open PySem L2 PySem.Spec PyProof.Rows
/-! ### hashes of small triples -/
def smallK : List Key → Bool
  | [.inl a, .inl b, .inl c] => decide (0 ≤ a) && decide (a < 6) && (decide (0 ≤ b) && decide (b < 6)) && (decide (0 ≤ c) && decide (c < 6))
  | _ => false
def sixI : List Int := [0, 1, 2, 3, 4, 5]
def smalls : List (List Key) := sixI.flatMap fun a => sixI.flatMap fun b => sixI.map fun c => [.inl a, .inl b, .inl c]
theorem mem_sixI {a : Int} (h : 0 ≤ a ∧ a < 6) : a ∈ sixI := by
  have : a = 0 ∨ a = 1 ∨ a = 2 ∨ a = 3 ∨ a = 4 ∨ a = 5 := by omega
  rcases this with h | h | h | h | h | h <;> subst h <;> decide
theorem smallK_mem {k : List Key} (h : smallK k = true) : k ∈ smalls := by
  unfold smallK at h
  split at h
  · next a b c =>
    simp only [Bool.and_eq_true, decide_eq_true_eq] at h
    obtain ⟨⟨⟨a1, a2⟩, b1, b2⟩, c1, c2⟩ := h
    exact List.mem_flatMap.mpr ⟨a, mem_sixI ⟨a1, a2⟩, List.mem_flatMap.mpr ⟨b, mem_sixI ⟨b1, b2⟩, List.mem_map.mpr ⟨c, mem_sixI ⟨c1, c2⟩, rfl⟩⟩⟩
  · cases h
def keyC : Key → Int
  | .inl i => hashInt i
  | .inr _ => 0
def hash3 (k : List Key) : Int := reduceHash (Builtin.Tuple.tupleHashOf (k.map keyC))
theorem small_keyC (w : World) {k : List Key} (h : smallK k = true) : k.map (keyH w) = k.map keyC := by
  unfold smallK at h
  split at h
  · rfl
  · cases h
theorem mix_hash (P : Program) (w : World) {k : List Key} (h : smallK k = true) : (tupleKind (mixKind P w)).hash k = hash3 k := by
  show reduceHash (Builtin.Tuple.tupleHashOf (k.map (keyH w))) = _
  rw [small_keyC w h]
  rfl
theorem smalls_nodup : (smalls.map hash3).Nodup := by decide +kernel
theorem nodup_map_inj {α β : Type} {f : α → β} : ∀ {l : List α}, (l.map f).Nodup → ∀ {a b : α}, a ∈ l → b ∈ l → f a = f b → a = b
  | [], _, _, _, h, _, _ => nomatch h
  | x :: l, hn, a, b, ha, hb, e => by
    rw [List.map_cons, List.nodup_cons] at hn
    rcases List.mem_cons.mp ha with h1 | h1
    · rcases List.mem_cons.mp hb with h2 | h2
      · rw [h1, h2]
      · exact absurd (List.mem_map.mpr ⟨b, h2, by rw [← e, h1]⟩) hn.1
    · rcases List.mem_cons.mp hb with h2 | h2
      · exact absurd (List.mem_map.mpr ⟨a, h1, by rw [e, h2]⟩) hn.1
      · exact nodup_map_inj hn.2 h1 h2 e
theorem hash3_inj {a b : List Key} (ha : smallK a = true) (hb : smallK b = true) (h : hash3 a = hash3 b) : a = b := nodup_map_inj smalls_nodup (smallK_mem ha) (smallK_mem hb) h
theorem small_hashes (P : Program) (w : World) : ∀ {xs : List (List Key × Addr × Value)}, (∀ x ∈ xs, smallK x.1 = true) → (xs.map (·.1)).Nodup → (xs.map fun x => (tupleKind (mixKind P w)).hash x.1).Nodup
  | [], _, _ => List.nodup_nil
  | x :: xs, h, hn => by
    rw [List.map_cons, List.nodup_cons] at hn ⊢
    refine ⟨fun hm => hn.1 ?_, small_hashes P w (fun y hy => h y (List.mem_cons_of_mem _ hy)) hn.2⟩
    obtain ⟨y, hy, e⟩ := List.mem_map.mp hm
    rw [mix_hash P w (h x List.mem_cons_self), mix_hash P w (h y (List.mem_cons_of_mem _ hy))] at e
    exact List.mem_map.mpr ⟨y, hy, hash3_inj (h y (List.mem_cons_of_mem _ hy)) (h x List.mem_cons_self) e⟩
/-! ### d.update(d2) -/
def putsK (kvs more : List (List Key × V)) : List (List Key × V) := more.foldl (fun acc kv => putK acc kv.1 kv.2) kvs
theorem KT_puts {H : Hp} : ∀ {more : List (List Key × V)} {ys : List (List Key × Addr × Value)} {kvs : List (List Key × V)} {xs : List (List Key × Addr × Value)}, KT H more ys → KT H kvs xs → KT H (putsK kvs more) (storedAllH xs ys)
  | _, _, _, _, .nil, r => r
  | _, _, _, _, .cons h t, r => by
    obtain ⟨h1, h2, h3⟩ := h
    have r' := KT.put r _ h2 h3
    rw [h1] at r'
    have := KT_puts t r'
    unfold putsK storedAllH at this ⊢
    rw [List.foldl_cons, List.foldl_cons, h1]
    exact this
theorem putsK_len : ∀ (more kvs : List (List Key × V)), (putsK kvs more).length ≤ kvs.length + more.length
  | [], kvs => Nat.le_refl _
  | kv :: more, kvs => by
    have h1 := putsK_len more (putK kvs kv.1 kv.2)
    have h2 := length_putK kvs kv.1 kv.2
    unfold putsK at h1 ⊢
    rw [List.foldl_cons, List.length_cons]
    omega
def rUpdT : V → List V → Hp → VK → Prop := fun x xs H Q => ∃ (a b : Addr) (kvs more : List (List Key × V)), x = .ref a ∧ xs = [.ref b] ∧ H a = some (.dT kvs) ∧ H b = some (.dT more) ∧ a ≠ b ∧ kvs.length + more.length ≤ sizeLine ∧
  (kvs ≠ [] ∨ ∀ kv ∈ more, smallK kv.1 = true) ∧ Q .non (upd H a (.dT (putsK kvs more)))
section
variable {X : Cx}
theorem mt_updT (hu : X.A.units + 1 < cLine) : MtR X "dict.update" rUpdT := by
  intro pins s σ H x xs v us Q I rx rxs h
  obtain ⟨a, b, kvs, more, rfl, rfl, ha, hb, hne, hz, hap, q⟩ := h
  cases rx
  obtain ⟨u, rfl, ru⟩ := vals1 rxs
  cases ru
  obtain ⟨z, hd, xs', rel, dd⟩ := dt_of I.hok ha
  obtain ⟨z2, hd2, ys, rel2, dd2⟩ := dt_of I.hok hb
  have l1 : kvs.length = xs'.length := Paired.length rel
  have l2 : more.length = ys.length := Paired.length rel2
  have key : ∀ {more : List (List Key × V)} {ys : List (List Key × Addr × Value)}, KT H more ys → (∀ kv ∈ more, smallK kv.1 = true) → ∀ y ∈ ys, smallK y.1 = true := by
    intro more ys r
    induction r with
    | nil => exact fun _ y hy => by simp at hy
    | cons h t ih =>
      intro hs y hy
      rcases List.mem_cons.mp hy with rfl | hy
      · rw [← h.1]; exact hs _ List.mem_cons_self
      · exact ih (fun kv hk => hs kv (List.mem_cons_of_mem _ hk)) y hy
  refine call_update_dictH (knd := tupleKind (mixKind X.prog X.w)) (tupleKind_room_in1 hu) hne hd2 dd dd2 ?_ (by omega) fun h' dd' ddo hs => ?_
  · rcases hap with hap | hap
    · refine .inl fun e => hap ?_
      rw [e] at l1
      exact List.length_eq_zero_iff.mp l1
    · refine .inr ⟨fun y hy => ?_, small_hashes X.prog X.w (key rel2 hap) dd2.nodup⟩
      obtain ⟨_, _, _, _, _, _, _, his, _⟩ := dd2
      exact PySem.IsTupleKey.typeIs (his y hy)
  · obtain ⟨o, es, ep, hq, h2, h3, h4, h5, h6⟩ := dd'
    have I2 : Inv X pins σ (upd H a (.dT (putsK kvs more))) { s with heap := h', toks := s.toks } :=
      d_write I (by rw [ha]; exact True.intro) hs ⟨o, hq⟩ ⟨Nat.le_trans (putsK_len more kvs) hz, hd, _, (KT_puts rel2 rel).keeps (fun c ys ec => (by rw [upd_ne (ne_of ec ha (fun z => nomatch z))]; exact ec)), o, es, ep, hq, h2, h3, h4, h6⟩
    exact ⟨.non, _, I2, rfl, q⟩
end
/-! ### d.pop(k), k in d -/
section
variable {prog : Program} {w : World} {K : Type} [DecidableEq K] {knd : HeapKind prog w K}
theorem meetsPop1 {d b : Addr} {k : K} (hd : (d == sysModules) = false) :
    MeetsIn prog w (Builtin.«dict.pop» ⟨[.ref d, .ref b], []⟩) (fun A R s => ∃ xs p, knd.room A.in1 ∧ knd.is s.heap k b ∧ s.heap.DictOfH knd d xs ∧ xs.length ≤ sizeLine ∧ atKey xs k = some p ∧
      ∀ h' tk, h'.DictOfH knd d (DT.dropH xs k) → Heap.SameBut d s.heap h' → R (.ok (.ret p.2)) { s with heap := h', toks := tk }) :=
  .of_wp fun A R s ⟨xs, p, hu, hkey, hm, hsz, hp, hsome⟩ => by
    obtain ⟨o, es, ep, ho, hc, hdat, he, his, hn⟩ := id hm
    have hes : es.size = xs.length := size_of_entries he
    have hpart : (keyPart (Value.ref b)).isSome = false := rfl
    unfold Builtin.«dict.pop»
    refine wpAny_bind ?_
    unfold Builtin.Dict.keyAndDefault
    refine wpAny_bind (wpAny_notOrdered_dict hm.typeIs ?_)
    show wpAny _ _ (pure (d, Value.ref b, none)) _ _ s
    refine wpAny_pure ?_
    simp only [hpart, Bool.false_eq_true, if_false]
    refine wpAny_bind (wpAny_dictEntries ho hdat (wpAny_bind (wpAny_pure ?_)))
    cases hem : es.isEmpty with
    | true =>
      have z : es.size = 0 := by simpa using hem
      have h0 : xs = [] := List.length_eq_zero_iff.mp (by omega)
      rw [h0] at hp
      cases hp
    | false =>
      simp only [Bool.false_eq_true, if_false]
      refine wpAny_bind (DT.takeH hu hkey hm hsz (fun hno => ?_) fun p' e hp' hev h' hm' hs' => ?_)
      · rw [hno] at hp; cases hp
      · rw [hp] at hp'
        cases hp'
        simp only [Option.isNone_some, Bool.false_eq_true, if_false]
        exact wpAny_bind (wpAny_letGo (wpAny_pure ⟨e.val, rfl, by rw [hev]; exact hsome h' _ hm' hs'⟩))
end
def rPop1T : V → List V → Hp → VK → Prop := fun x xs H Q => ∃ (a : Addr) (kvs : List (List Key × V)) (k : List Key) (b : Addr) (v : V), x = .ref a ∧ xs = [.ref b] ∧ H a = some (.dT kvs) ∧ H b = some (.tup (k.map kV)) ∧ valV kvs k = some v ∧ Q v (upd H a (.dT (dropK kvs k)))
section
variable {X : Cx}
theorem mt_pop1T (hu : X.A.units + 1 < cLine) : MtR X "dict.pop" rPop1T := by
  intro pins s σ H x xs v us Q I rx rxs h
  obtain ⟨a, kvs, k, b, d, rfl, rfl, ha, hb, hv, q⟩ := h
  cases rx
  obtain ⟨u1, rfl, r1⟩ := vals1 rxs
  cases r1
  obtain ⟨z, hd, xs', rel, dd⟩ := dt_of I.hok ha
  have hz : xs'.length ≤ sizeLine := by rw [← Paired.length rel]; exact z
  have r := rel.val k
  rw [hv] at r
  obtain ⟨p, hp, rv⟩ : ∃ p, atKey xs' k = some p ∧ RelV d p.2 := by
    cases ep : atKey xs' k with
    | none => rw [ep] at r; exact (show False from r).elim
    | some p => rw [ep] at r; exact ⟨p, rfl, r⟩
  refine call_meetsIn PySem.F.slot_dict_pop dd.typeIs PySem.F.entry_dict_pop (PySem.F.args_dict_pop_2 _ _) (meetsPop1 (knd := tupleKind (mixKind X.prog X.w)) (k := k) hd)
    ⟨xs', p, tupleKind_room_in1 hu, key_of I.hok hb, dd, hz, hp, fun h' tk dd' hs => ?_⟩
  obtain ⟨o, es, ep, hq, h2, h3, h4, _, h5⟩ := dd'
  have I2 : Inv X pins σ (upd H a (.dT (dropK kvs k))) { s with heap := h', toks := tk } :=
    d_write I (by rw [ha]; exact True.intro) hs ⟨o, hq⟩ ⟨Nat.le_trans (dropK_le kvs k) z, hd, _, (L2.DX.KT_drop k rel).keeps (fun c ys ec => (by rw [upd_ne (ne_of ec ha (fun z => nomatch z))]; exact ec)), o, es, ep, hq, h2, h3, h4, h5⟩
  exact ⟨d, _, I2, rv, q⟩
end
/-! ### as statements -/
def putsT (kvs more : List (List Key × D)) : List (List Key × D) := more.foldl (fun acc kv => putT acc kv.1 kv.2) kvs
theorem RpT.puts {K : PySem.W.Frag} {S : Addr → Prop} {H : Hp} : ∀ {ms : List (List Key × V)} {ds : List (List Key × D)} {vs : List (List Key × V)} {es : List (List Key × D)}, RpT K S H ms ds → RpT K S H vs es → RpT K S H (putsK vs ms) (putsT es ds)
  | _, _, _, _, .nil, r => r
  | (k, v) :: ms, (_, d) :: ds, vs, es, .cons h t, r => by
    have := RpT.puts t (r.put k h)
    unfold putsK putsT at this ⊢
    rw [List.foldl_cons, List.foldl_cons]
    exact this
def smallAll (kvs : List (List Key × D)) : Bool := kvs.all fun kv => smallK kv.1
theorem RpT.small {K : PySem.W.Frag} {S : Addr → Prop} {H : Hp} : ∀ {ms : List (List Key × V)} {ds : List (List Key × D)}, RpT K S H ms ds → smallAll ds = true → ∀ kv ∈ ms, smallK kv.1 = true
  | _, _, .nil, _ => fun kv h => by simp at h
  | (k, v) :: ms, (_, d) :: ds, .cons h t, e => by
    unfold smallAll at e
    rw [List.all_cons, Bool.and_eq_true] at e
    intro kv hk
    rcases List.mem_cons.mp hk with rfl | hk
    · exact e.1
    · exact RpT.small t e.2 kv hk
def dropT (kvs : List (List Key × D)) (k : List Key) : List (List Key × D) := kvs.filter fun kv => decide (kv.1 ≠ k)
def sUpd (i : Nat) (fa : Rho → M (List D)) : Rho → Res := fun ρ => match ρ[i]? with
  | some (.ow (.dct kvs)) => (match fa ρ with
    | .ok [.dct more] => if kvs.length + more.length ≤ sizeLine ∧ (kvs ≠ [] ∨ smallAll more = true) then .nx (ρ.set i (.ow (.dct (putsT kvs more)))) else .er
    | .ok _ => .er
    | .ex c => .ex c ρ
    | .er => .er)
  | _ => .er
def sPopT (i : Nat) (fa : Rho → M (List D)) : Rho → Res := fun ρ => match ρ[i]? with
  | some (.ow (.dct kvs)) => (match fa ρ with
    | .ok [.tup ks] => (match keyOf ks with
      | some k => if (lookT kvs k).isSome = true then .nx (ρ.set i (.ow (.dct (dropT kvs k)))) else .er
      | none => .er)
    | .ok _ => .er
    | .ex c => .ex c ρ
    | .er => .er)
  | _ => .er
theorem RpT.drop {K : PySem.W.Frag} {S : Addr → Prop} {H : Hp} (k : List Key) : ∀ {vs : List (List Key × V)} {es : List (List Key × D)}, RpT K S H vs es → RpT K S H (dropK vs k) (dropT es k)
  | _, _, .nil => .nil
  | (k1, v) :: vs, (_, d) :: es, .cons h t => by
    have ih := RpT.drop k t
    unfold dropK dropT at ih ⊢
    by_cases e : k1 = k
    · rw [List.filter_cons_of_neg (by simp [e]), List.filter_cons_of_neg (by simp [e])]
      exact ih
    · rw [List.filter_cons_of_pos (by simp [e]), List.filter_cons_of_pos (by simp [e])]
      exact .cons h ih
section
variable {X : Cx} {W : WX} {S0 : Addr → Prop} {H0 : Hp} {rm : Md} {pos apos cpos : Pos} {e : Expr} {fa : Rho → M (List D)}
theorem vs_updT (i : Nat) {x : Str} {px : Pos} (hu : X.A.units + 1 < cLine) (h : VA X W S0 H0 .N [e] fa) (hN : X.N[i]? = some x := by rfl)
    (hv : Vis X.env.scope x := by first | exact Or.inl rfl | exact Or.inr (Or.inl rfl) | exact Or.inr (Or.inr rfl)) (hd : (x == ("__debug__" : Str)) = false := by decide) (hcd : (x == ("__classdict__" : Str)) = false := by decide)
    (hbase : attributeBase (.Name x px) "update" X.env (eval (.Name x px) X.env) = eval (.Name x px) X.env := by rfl)
    (hfew : ((backTo cpos (starEach [e] X.env)).all (fun x => !x.1) && (backToKw cpos (keywordEach [] X.env)).all (fun x => x.1.isSome)
      && decide (([e] : List Expr).length + ([] : List Keyword).length + (if ([] : List Keyword).isEmpty then 0 else 1) < 30)) = true := by rfl)
    (hline : (apos.endLine == cpos.line) = true := by rfl) (hs : starEach [e] X.env = (false, eval e X.env) :: starEach [] X.env := by rfl) (hplain : (backTo cpos (starEach [] X.env)).any (·.1) = false := by rfl)
    (hsw : swapsWith (.Call (.Attribute (.Name x px) "update" apos) [e] [] cpos) none pos.line X.env = pure false := by rfl) :
    VS X W S0 H0 rm (.Expr (.Call (.Attribute (.Name x px) "update" apos) [e] [] cpos) pos) (sUpd i fa) := by
  obtain ⟨te, p, q⟩ := h.p
  refine ⟨_, ps_expr (pe_bm PySem.F.plainAttrs_dict PySem.F.slot_dict_update PySem.F.type_dict_update (mt_updT hu) (pe_var hN hv hd hcd) p hbase hfew hline hs hplain) hsw, fun ρ σ own H D R k => ?_⟩
  unfold sUpd at k
  split at k
  · next kvs es =>
    obtain ⟨a, xs, h1, h2, h3, h4⟩ := own_dct R es
    refine ⟨.ref a, h1, .inr (.inr (.inl ⟨rfl, .inr ⟨xs, h3⟩⟩)), q ρ σ own H _ R ?_⟩
    revert k
    cases fa ρ with
    | er => exact id
    | ex c => exact fun k cv d H' i s => k cv d σ own H' i (R.grow s) (.same s)
    | ok as =>
      intro k vs H' s r
      try dsimp only at k
      split at k
      · next more e1 =>
        cases e1
        split at k
        · next hc =>
          obtain ⟨v, rfl, rv⟩ := pair1 r
          have rv' : Rp X.K (SN H H0 own) H' v (.dct more) := rv
          have R' := R.grow s
          cases rv' with
          | dct sb hb rb =>
            rename_i b ms
            have hne : a ≠ b := fun z => by
              have := sb.1
              rw [← z, h3] at this
              cases this
            have h4' : RpT X.K (SF H0 own) H' xs kvs := h4.keep (.same s)
            have rb' : RpT X.K (SF H0 own) H' ms more := rb.keep (.wide fun a q => q.2)
            refine ⟨a, b, xs, ms, rfl, rfl, s a _ h3, hb, hne, by rw [h4'.length, rb'.length]; exact hc.1, ?_, ?_⟩
            · rcases hc.2 with hc2 | hc2
              · refine .inl fun z => hc2 ?_
                rw [z] at h4'
                cases h4'
                rfl
              · exact .inr (rb'.small hc2)
            · obtain ⟨R2, F2⟩ := R'.chg (d' := .dct (putsT kvs more)) (o := .dT (putsK xs ms)) es h1 trivial ⟨_, upd_same, (RpT.puts rb' h4').keep (keep_upd R' h2)⟩
              exact k σ own _ R2 ((Fra.same s).trans F2)
        · exact k.elim
      · exact k.elim
      · next e1 => cases e1
      · next e1 => cases e1
  · exact k.elim
theorem vs_popT (i : Nat) {x : Str} {px : Pos} (hu : X.A.units + 1 < cLine) (h : VA X W S0 H0 .E [e] fa) (hN : X.N[i]? = some x := by rfl)
    (hv : Vis X.env.scope x := by first | exact Or.inl rfl | exact Or.inr (Or.inl rfl) | exact Or.inr (Or.inr rfl)) (hd : (x == ("__debug__" : Str)) = false := by decide) (hcd : (x == ("__classdict__" : Str)) = false := by decide)
    (hbase : attributeBase (.Name x px) "pop" X.env (eval (.Name x px) X.env) = eval (.Name x px) X.env := by rfl)
    (hfew : ((backTo cpos (starEach [e] X.env)).all (fun x => !x.1) && (backToKw cpos (keywordEach [] X.env)).all (fun x => x.1.isSome)
      && decide (([e] : List Expr).length + ([] : List Keyword).length + (if ([] : List Keyword).isEmpty then 0 else 1) < 30)) = true := by rfl)
    (hline : (apos.endLine == cpos.line) = true := by rfl) (hs : starEach [e] X.env = (false, eval e X.env) :: starEach [] X.env := by rfl) (hplain : (backTo cpos (starEach [] X.env)).any (·.1) = false := by rfl)
    (hsw : swapsWith (.Call (.Attribute (.Name x px) "pop" apos) [e] [] cpos) none pos.line X.env = pure false := by rfl) :
    VS X W S0 H0 rm (.Expr (.Call (.Attribute (.Name x px) "pop" apos) [e] [] cpos) pos) (sPopT i fa) := by
  obtain ⟨te, p, q⟩ := h.p
  refine ⟨_, ps_expr (pe_bm PySem.F.plainAttrs_dict PySem.F.slot_dict_pop PySem.F.type_dict_pop (mt_pop1T hu) (pe_var hN hv hd hcd) p hbase hfew hline hs hplain) hsw, fun ρ σ own H D R k => ?_⟩
  unfold sPopT at k
  split at k
  · next kvs es =>
    obtain ⟨a, xs, h1, h2, h3, h4⟩ := own_dct R es
    refine ⟨.ref a, h1, .inr (.inr (.inl ⟨rfl, .inr ⟨xs, h3⟩⟩)), q ρ σ own H _ R ?_⟩
    revert k
    cases fa ρ with
    | er => exact id
    | ex c => exact fun k cv d H' i s => k cv d σ own H' i (R.grow s) (.same s)
    | ok as =>
      intro k vs H' s r
      try dsimp only at k
      split at k
      · next ks e1 =>
        cases e1
        split at k
        · next key ek =>
          split at k
          · next hc =>
            obtain ⟨v, rfl, rv⟩ := pair1 r
            obtain ⟨b, ys, rfl, h5, h6⟩ := rv.isTup
            have R' := R.grow s
            have h4' : RpT X.K (SF H0 own) H' xs kvs := h4.keep (.same s)
            obtain ⟨dv, hdv⟩ := Option.isSome_iff_exists.mp hc
            obtain ⟨v0, e0, _⟩ := (h4'.look key).1 dv hdv
            refine ⟨a, xs, key, b, v0, rfl, rfl, s a _ h3, by rw [← h6.keys ek]; exact h5, e0, ?_⟩
            obtain ⟨R2, F2⟩ := R'.chg (d' := .dct (dropT kvs key)) (o := .dT (dropK xs key)) es h1 trivial ⟨_, upd_same, (RpT.drop key h4').keep (keep_upd R' h2)⟩
            exact k σ own _ R2 ((Fra.same s).trans F2)
          · exact k.elim
        · exact k.elim
      · exact k.elim
      · next e1 => cases e1
      · next e1 => cases e1
  · exact k.elim
end
end VL
set_option Elab.async false
set_option linter.all false
set_option maxRecDepth 100000
/-! VL: own exceptions: raise C(); try .. except C as e. -/
namespace VL
open PySem L2 PySem.Spec PyProof.Rows

theorem pmk_own0 {X : Cx} {C : Addr} {bmB : List Value} {B newId initId : String} {x : Str} {p pos : Pos} (F : ExcBaseFacts B newId initId bmB) (q : PySem.W.excIn X.K C bmB newId = true) (gC : X.mg x = some (.ref C)) (kC : PySem.W.keepIn X.K (.ref C) = true)
    (r : Raises X (.ref C)) (hg : Gl X x) (hd : (x == ("__debug__" : Str)) = false := by decide) : PMk X (.Call (.Name x p) [] [] pos) fun _ H Q => Q (.ref C) none H := by
  intro pins s σ H Q I k
  refine wpAny_Call_Name_kw (ld_glob I hg gC ?_ hd)
  refine PySem.W.callWith_K0 I.kIn kC ?_
  obtain ⟨bm, N, nm, qn, bs, hdct, sn, sub, ab, col, dd, k0, k1, k2, k3, k5, mN, hC, hN, hi, ot⟩ := exc_obj I.kIn q
  obtain ⟨h, g, d, t, os⟩ := s
  exact wpAny_call_exc_subT F ot hC hN hi (fun h' e M => mk_of I M r k (I.hok.gone M.new)) (by simp)

/-- an own class of errors under ValueError, without __init__ -/
structure OwnX (K : PySem.W.Frag) (mg : Str → Option Value) (c : Str) : Prop where
  p : ∃ C, mg c = some (.ref C) ∧ PySem.W.excIn K C [.type "ValueError", .type "Exception", .type "BaseException", .type "object"] "ValueError.__new__" = true ∧ PySem.W.keepIn K (.ref C) = true ∧
    PySem.W.subIn K (.ref C) (.type "BaseException") = some true ∧ PySem.W.typeIn K (.ref C) = some (.type "type")
section
variable {X : Cx} {W : WX} {S0 : Addr → Prop} {H0 : Hp} {rm m : Md} {own own' : List Addr} {H H' : Hp} {pos p : Pos} {st : Stmt} {sts body : List Stmt} {f g fb : Rho → Res}
def sRaise (c : Str) : Rho → Res := fun ρ => .ex (.own c) ρ
theorem vs_raise {x : Str} {pos' : Pos} (o : OwnX X.K X.mg x) (tk : Takes X W) (hc : X.calm = true := by rfl) (hg : Gl X x := by rfl) (hd : (x == ("__debug__" : Str)) = false := by decide) :
    VS X W S0 H0 rm (.Raise (some (.Call (.Name x p) [] [] pos)) none pos') (sRaise x) := by
  obtain ⟨C, g, q, k, b, t⟩ := o.p
  exact ⟨_, ps_raise hc tk (pmk_own0 PySem.F.excBase_ValueError q g k (raises_own b t) hg hd), fun ρ σ own H D R z => z (.ref C) none σ own H ⟨g, rfl⟩ R .refl⟩

/-! ### slots that leave -/
theorem Rel.setNo {K : PySem.W.Frag} {ρ : Rho} {σ : Sg} {i : Nat} {x : Option V} (R : Rel K S0 H0 ρ σ own H) : Rel K S0 H0 (ρ.set i .no) (σ.set i x) own H where
  sh := fun j e q => by
    rcases get_set q with ⟨rfl, z, hl⟩ | ⟨hj, z⟩
    · cases z
    · rw [List.getElem?_set_ne (Ne.symm hj)]
      exact R.sh j e z
  fr := fun j e q => by
    rcases get_set q with ⟨rfl, z, hl⟩ | ⟨hj, z⟩
    · cases z
    · rw [List.getElem?_set_ne (Ne.symm hj)]
      exact R.fr j e z
  ow := fun j e q => by
    rcases get_set q with ⟨rfl, z, hl⟩ | ⟨hj, z⟩
    · cases z
    · rw [List.getElem?_set_ne (Ne.symm hj)]
      exact R.ow j e z
  dis := fun j k d' e' a b q => by
    rcases get_set a with ⟨rfl, z, hl⟩ | ⟨hj, z⟩
    · cases z
    · rcases get_set b with ⟨rfl, y, hl⟩ | ⟨hk, y⟩
      · cases y
      · rw [List.getElem?_set_ne (Ne.symm hj), List.getElem?_set_ne (Ne.symm hk)] at q
        exact R.dis j k d' e' z y q
  own0 := R.own0
  same := R.same
  len := by simp [R.len]

/-! ### try -/
/-- a name of a class: the program's own, or a built-in one -/
inductive NmCls (mg : Str → Option Value) (x : Str) : Value → Prop
  | own {D : Addr} : mg x = some (.ref D) → NmCls mg x (.ref D)
  | bi {T : String} : mg x = none → bootBuiltins x = some (.type T) → x ≠ "__name__" → NmCls mg x (.type T)
theorem NmCls.pe {mg : Str → Option Value} {x : Str} {cv : Value} (h : NmCls mg x cv) : ∃ c, RelV c cv ∧ (∀ u, RelV c u → u = cv) ∧ ∀ {X : Cx} {p : Pos}, X.mg = mg → Gl X x → (x == ("__debug__" : Str)) = false → PE X (.Name x p) (tC c) := by
  cases h with
  | @own D h => exact ⟨.ref D, rfl, fun u e => e, fun e g d => pe_glob g (by rw [e]; exact h) rfl d⟩
  | @bi T h b n => exact ⟨.ty T, rfl, fun u e => e, fun e g d => pe_bltn g (by rw [e]; exact h) b rfl n d⟩
/-- what is known of a raised class c: what the clause's class says of it, and what isinstance answers of three classes -/
structure Kn3 (K : PySem.W.Frag) (mg : Str → Option Value) (top : Value) (c : Str) (v1 v2 v3 : Value) (b1 b2 b3 : Bool) : Prop where
  p : ∃ D, mg c = some (.ref D) ∧ ExcC K D ∧ PySem.W.exmOne K (.ref D) top = some true ∧ PySem.W.kitOne K (.ref D) v1 = some b1 ∧ PySem.W.kitOne K (.ref D) v2 = some b2 ∧ PySem.W.kitOne K (.ref D) v3 = some b3
/-- try: .. except TOP as e: k = [isinstance(e, A), isinstance(e, B), isinstance(e, C)] where the body may raise c alone -/
def sTry3 (i k : Nat) (c : Str) (b1 b2 b3 : Bool) (fb : Rho → Res) : Rho → Res := fun ρ => match fb ρ with
  | .ex (.own c') ρ' => if c' = c then .nx (((ρ'.set i .no).set k (.fr (.lst [.bl b1, .bl b2, .bl b3]))).set i .no) else .er
  | .ex (.bi _) _ => .er
  | r => r
theorem vs_try3 {i k : Nat} {n kn x x1 x2 x3 c : Str} {top v1 v2 v3 : Value} {b1 b2 b3 : Bool} {np kp q1 q2 q3 p1 p2 p3 e1 e2 e3 t1 t2 t3 hp lp ap : Pos}
    (hc : Names X x top) (n1 : NmCls X.mg x1 v1) (n2 : NmCls X.mg x2 v2) (n3 : NmCls X.mg x3 v3) (hm : X.mg "isinstance" = none) (kw : Kn3 X.K X.mg top c v1 v2 v3 b1 b2 b3) (hN : X.N.Nodup) (tk : Takes X W)
    (hb : ∀ (W' : WX) (pn : List (Addr × Obj)) (xe : Value → Shared → Prop), Takes (X.tr pn xe) W' → PassesOwn (model X.prog X.w) X.A X.env xe → VSs (X.tr pn xe) W' S0 H0 rm body fb)
    (hi : X.N[i]? = some n := by rfl) (hk : X.N[k]? = some kn := by rfl) (hln : X.env.kindOf n = some .local := by rfl) (hs : X.stack = X.env :: X.outer := by rfl) (hf : X.env.frame = some X.env.locals := by rfl)
    (hv : Vis X.env.scope n := by first | exact Or.inl rfl | exact Or.inr (Or.inl rfl) | exact Or.inr (Or.inr rfl)) (hvd : (n == ("__debug__" : Str)) = false := by decide) (hvc : (n == ("__classdict__" : Str)) = false := by decide)
    (hgi : Gl X "isinstance" := by rfl) (g1 : Gl X x1 := by rfl) (g2 : Gl X x2 := by rfl) (g3 : Gl X x3 := by rfl) (d1 : (x1 == ("__debug__" : Str)) = false := by decide) (d2 : (x2 == ("__debug__" : Str)) = false := by decide) (d3 : (x3 == ("__debug__" : Str)) = false := by decide)
    (hx : Loc X.env.scope kn := by first | exact Or.inl rfl | exact Or.inr rfl) (hkl : X.env.scope.names.lookup kn = some .local := by rfl) :
    VS X W S0 H0 rm (.Try body [.ExceptHandler (some (.Name x np)) (some n) [.Assign [.Name kn kp] (.List [.Call (.Name "isinstance" q1) [.Name n e1, .Name x1 t1] [] p1, .Call (.Name "isinstance" q2) [.Name n e2, .Name x2 t2] [] p2, .Call (.Name "isinstance" q3) [.Name n e3, .Name x3 t3] [] p3] lp) ap] hp] [] [] pos)
      (sTry3 i k c b1 b2 b3 fb) := by
  obtain ⟨Dc, hD, xc, hex, k1, k2, k3⟩ := kw.p
  obtain ⟨c1, r1, u1, pe1⟩ := n1.pe
  obtain ⟨c2, r2, u2, pe2⟩ := n2.pe
  obtain ⟨c3, r3, u3, pe3⟩ := n3.pe
  refine ⟨_, ps_try_as (tb := fun W' D σ H => ∃ ρ own, Rel X.K S0 H0 ρ σ own H ∧ PSt X W' S0 H0 rm own H D (fb ρ))
    (ts := fun a cls d D σ H => cls = .ref Dc ∧ d = none ∧ (∃ σ0 : Sg, σ = σ0.set i (some (.ref a))) ∧ ∀ q, H q = none → D.nx (σ.set k (some (.ref q))) (upd H q (.lst [.bl b1, .bl b2, .bl b3]))) hs hf hN hi hln hc tk ?_ ?_, fun ρ σ own H D R z => ⟨ρ, own, R, ?_⟩⟩
  · intro W' pn xe t po
    obtain ⟨ts, ps, qs⟩ := (hb W' pn xe t po).p
    exact ⟨fun pins s σ H D I ⟨ρ, own, R, z⟩ => ps.run pins s σ H D I (qs ρ σ own H D R z)⟩
  · intro a oe cls d pn hz hfs
    refine ⟨fun pins s σ H D I ⟨e1, e2, ⟨σ0, e3⟩, h4⟩ => ?_⟩
    subst e1 e2
    have h3 : σ[i]? = some (some (.ref a)) := by
      have hl : i < σ.length := by rw [I.len]; exact (List.getElem?_eq_some_iff.mp hi).1
      subst e3
      exact List.getElem?_set_self (by simpa using hl)
    have pi : ∀ {y : Str} {cy : V} {eP tP qP pP : Pos}, (∀ {X : Cx} {p : Pos}, X.mg = _ → Gl X y → (y == ("__debug__" : Str)) = false → PE X (.Name y p) (tC cy)) → Gl X y → (y == ("__debug__" : Str)) = false → PE (X.suite a ((a, oe) :: pn)) (.Call (.Name "isinstance" qP) [.Name n eP, .Name y tP] [] pP) _ := fun {y cy eP tP qP pP} py gy dy =>
      pe_callB (call_isE xc hz hfs) hgi hm (by decide +kernel) (pa_cons (pe_var hi hv hvd hvc) (pa_cons (py rfl gy dy) pa_nil))
    refine (pss_one (ps_set (X := X.suite a ((a, oe) :: pn)) hN hk hx (pe_lst (pa_cons (pi pe1 g1 d1) (pa_cons (pi pe2 g2 d2) (pa_cons (pi pe3 g3 d3) pa_nil)))) (by rfl) (.inr hkl))).run pins s σ H D I ?_
    refine ⟨_, h3, _, _, _, rfl, u1, k1, _, h3, _, _, _, rfl, u2, k2, _, h3, _, _, _, rfl, u3, k3, ?_⟩
    exact ⟨by show 3 ≤ sizeLine; decide, fun q hq => h4 q hq⟩
  · unfold sTry3 at z
    revert z
    cases e : fb ρ with
    | nx ρ' => exact id
    | rt d => exact id
    | bk ρ' => exact id
    | ct ρ' => exact id
    | er => exact id
    | ex c' ρ' =>
      cases c' with
      | bi nn => intro z; exact z.elim
      | own c' =>
        intro z
        simp only at z
        split at z
        · next hcc =>
          subst hcc
          intro cv d σ' own' H' ⟨i1, i2⟩ R' F'
          subst i2
          have ecv : cv = .ref Dc := by rw [hD] at i1; exact (Option.some.inj i1).symm
          subst ecv
          refine ⟨true, hex, fun _ a ha => ⟨rfl, rfl, ⟨σ', rfl⟩, fun q hq => ?_⟩, fun q => nomatch q⟩
          · have Ra := R'.setNo (i := i) (x := some (.ref a))
            have Rb := (Ra.grow (same_upd (o := .lst [.bl b1, .bl b2, .bl b3]) hq)).setFr (i := k) (v := .ref q) (d := .lst [.bl b1, .bl b2, .bl b3]) (.lst (sf_new Ra hq) upd_same (.cons (.bl _) (.cons (.bl _) (.cons (.bl _) .nil))))
            exact z _ own' _ (Rb.setNo (i := i) (x := none)) (F'.trans (.same (same_upd hq)))
        · exact z.elim
/-- what is known of a try: the clause's class, the three classes that are asked, the class that may be raised -/
structure TryF (K : PySem.W.Frag) (mg : Str → Option Value) (x x1 x2 x3 c : Str) (b1 b2 b3 : Bool) : Prop where
  p : ∃ top v1 v2 v3, mg x = some top ∧ NmCls mg x1 v1 ∧ NmCls mg x2 v2 ∧ NmCls mg x3 v3 ∧ Kn3 K mg top c v1 v2 v3 b1 b2 b3
theorem vs_tryT {i k : Nat} {n kn x x1 x2 x3 c : Str} {b1 b2 b3 : Bool} {np kp q1 q2 q3 p1 p2 p3 e1 e2 e3 t1 t2 t3 hp lp ap : Pos}
    (T : TryF X.K X.mg x x1 x2 x3 c b1 b2 b3) (hm : X.mg "isinstance" = none) (hN : X.N.Nodup) (tk : Takes X W)
    (hb : ∀ (W' : WX) (pn : List (Addr × Obj)) (xe : Value → Shared → Prop), Takes (X.tr pn xe) W' → PassesOwn (model X.prog X.w) X.A X.env xe → VSs (X.tr pn xe) W' S0 H0 rm body fb)
    (hi : X.N[i]? = some n := by rfl) (hk : X.N[k]? = some kn := by rfl) (hln : X.env.kindOf n = some .local := by rfl) (hs : X.stack = X.env :: X.outer := by rfl) (hf : X.env.frame = some X.env.locals := by rfl)
    (hv : Vis X.env.scope n := by first | exact Or.inl rfl | exact Or.inr (Or.inl rfl) | exact Or.inr (Or.inr rfl)) (hvd : (n == ("__debug__" : Str)) = false := by decide) (hvc : (n == ("__classdict__" : Str)) = false := by decide)
    (hgi : Gl X "isinstance" := by rfl) (g0 : Gl X x := by rfl) (g1 : Gl X x1 := by rfl) (g2 : Gl X x2 := by rfl) (g3 : Gl X x3 := by rfl) (d0 : (x == ("__debug__" : Str)) = false := by decide) (d1 : (x1 == ("__debug__" : Str)) = false := by decide) (d2 : (x2 == ("__debug__" : Str)) = false := by decide) (d3 : (x3 == ("__debug__" : Str)) = false := by decide)
    (hx : Loc X.env.scope kn := by first | exact Or.inl rfl | exact Or.inr rfl) (hkl : X.env.scope.names.lookup kn = some .local := by rfl) :
    VS X W S0 H0 rm (.Try body [.ExceptHandler (some (.Name x np)) (some n) [.Assign [.Name kn kp] (.List [.Call (.Name "isinstance" q1) [.Name n e1, .Name x1 t1] [] p1, .Call (.Name "isinstance" q2) [.Name n e2, .Name x2 t2] [] p2, .Call (.Name "isinstance" q3) [.Name n e3, .Name x3 t3] [] p3] lp) ap] hp] [] [] pos)
      (sTry3 i k c b1 b2 b3 fb) := by
  obtain ⟨top, v1, v2, v3, h0, h1, h2, h3, kn⟩ := T.p
  exact vs_try3 ⟨g0, d0, .inl h0⟩ h1 h2 h3 hm kn hN tk hb hi hk hln hs hf hv hvd hvc hgi g1 g2 g3 d1 d2 d3 hx hkl
/-! ### the facts of an error's class, by the names of the kit -/
theorem excC_mk {K : PySem.W.Frag} {D : Addr} (hg : PySem.W.findIn K (.ref D) "__getattribute__" = some (some (.builtin "BaseException.__getattribute__"))) (hk : PySem.W.findIn K (.ref D) "__getattr__" = some none) (hs : PySem.W.subIn K (.ref D) (.type "BaseException") = some true)
    (hd : PySem.W.hasDictIn K D = true) (ha : PySem.W.findIn K (.ref D) "__class__" = some (some (.builtin "object.__class__"))) (hn : PySem.W.specialIn K (.builtin "object.__class__") "__get__" = some (some (.builtin "getset_descriptor.__get__"))) (ht : PySem.W.takesIn K (.builtin "object.__class__") = some true)
    (hm : PySem.W.mroIn K D (.type "object") = some true) : ExcC K D := ⟨hg, hk, hs, hd, ha, hn, ht, hm⟩
theorem exm_mk {K : PySem.W.Frag} {D T : Addr} (b : PySem.W.subIn K (.ref T) (.type "BaseException") = some true) (i : PySem.W.isClsIn K T = true) (t : PySem.W.typeIn K (.ref T) = some (.type "type")) (s : PySem.W.subIn K (.ref D) (.ref T) = some true) : PySem.W.exmOne K (.ref D) (.ref T) = some true := by
  have i' : (PySem.W.clsIn K T).isSome = true := i
  simp [PySem.W.exmOne, PySem.W.kitCls, b, i', t, s]
theorem kit_own {K : PySem.W.Frag} {D T : Addr} {b : Bool} (i : PySem.W.isClsIn K T = true) (t : PySem.W.typeIn K (.ref T) = some (.type "type")) (s : PySem.W.subIn K (.ref D) (.ref T) = some b) (h : b = true ∨ (Value.ref D == Value.ref T) = false) : PySem.W.kitOne K (.ref D) (.ref T) = some b := by
  have i' : (PySem.W.clsIn K T).isSome = true := i
  unfold PySem.W.kitOne
  rcases h with h | h
  · subst h
    split
    · rfl
    · simp [PySem.W.kitCls, i', t, s]
  · rw [h, if_neg (by decide)]
    simp [PySem.W.kitCls, i', t, s]
theorem kit_bi {K : PySem.W.Frag} {D : Addr} {T : String} (m : PySem.W.kitMeta T = true) (s : PySem.W.subIn K (.ref D) (.type T) = some true) : PySem.W.kitOne K (.ref D) (.type T) = some true := by
  unfold PySem.W.kitOne
  split
  · rfl
  · simp [PySem.W.kitCls, m, s]
end
end VL
set_option Elab.async false
set_option linter.all false
set_option maxRecDepth 100000
/-! VL: xs.index(e); a.append(b.pop(e)). -/
namespace VL
open PySem L2 PySem.Spec PyProof.Rows
section
variable {X : Cx} {W : WX} {S0 : Addr → Prop} {H0 : Hp} {rm m ma mb : Md} {own own' : List Addr} {H H' : Hp} {pos p : Pos} {o e : Expr} {fo fe : Rho → M D}
def findE (ds : List D) (d : D) : Option Nat := (toPA ds).findIdx? fun z => PyData.eqv z (toP d)
def indexG : D → D → M D := fun x y => match x with
  | .lst ds => if SeqAt.shaped (toP (.lst ds)) = true ∧ SeqAt.shaped (toP y) = true then (match findE ds y with | some j => .ok (.int (j : Nat)) | none => .er) else .er
  | _ => .er
def eIndex (fo fe : Rho → M D) : Rho → M D := fun ρ => M.bind (fo ρ) fun x => match x with
  | .lst ds => M.bind (fe ρ) fun y => indexG (.lst ds) y
  | _ => .er
theorem vx_index {apos cpos : Pos} (hu : X.A.units + 65 < cLine) (ho : VX X W S0 H0 ma o fo) (he : VX X W S0 H0 mb e fe) (hbase : attributeBase o "index" X.env (eval o X.env) = eval o X.env := by rfl)
    (hfew : ((backTo cpos (starEach [e] X.env)).all (fun x => !x.1) && (backToKw cpos (keywordEach [] X.env)).all (fun x => x.1.isSome)
      && decide (([e] : List Expr).length + ([] : List Keyword).length + (if ([] : List Keyword).isEmpty then 0 else 1) < 30)) = true := by rfl)
    (hline : (apos.endLine == cpos.line) = true := by rfl) (hs : starEach (e :: []) X.env = (false, eval e X.env) :: starEach [] X.env := by rfl) (hplain : (backTo cpos (starEach [] X.env)).any (·.1) = false := by rfl) :
    VX X W S0 H0 m (.Call (.Attribute o "index" apos) [e] [] cpos) (eIndex fo fe) := by
  obtain ⟨to, po, qo⟩ := ho.p
  obtain ⟨te, pe, qe⟩ := he.p
  refine ⟨_, pe_bm PySem.F.plainAttrs_list PySem.F.slot_list_index PySem.F.type_list_index (mt_indexD hu) po (pa_cons pe pa_nil hs) hbase hfew hline hs hplain, fun ρ σ own H Q R k => qo ρ σ own H _ R ?_⟩
  unfold eIndex at k
  revert k
  cases fo ρ with
  | er => exact id
  | ex c => exact id
  | ok x =>
    intro k v H1 s1 r1
    rw [bind_ok] at k
    have R1 := R.grow s1
    cases x with
    | lst ds =>
      obtain ⟨a, xs, rfl, h1, h2⟩ := r1.isLst
      dsimp only at k
      refine ⟨.inl ⟨rfl, xs, SqL.rd h1⟩, qe ρ σ own H1 _ R1 ?_⟩
      revert k
      cases fe ρ with
      | er => exact id
      | ex c => exact fun k cv d H2 i s2 => k cv d H2 i (s1.trans s2)
      | ok y =>
        intro k w H2 s2 r2
        rw [bind_ok] at k
        have r1' := RM.grow s2 r1
        unfold indexG at k
        dsimp only at k
        split at k
        · next hsh =>
          obtain ⟨c1, c2⟩ := hsh
          have d1 := r1'.dp c1
          have d2 := r2.dp c2
          unfold findE at k
          split at k
          · next j hj =>
            obtain ⟨z, hz, hzj, hno⟩ : ∃ z, (toPA ds)[j]? = some z ∧ PyData.eqv z (toP y) = true ∧ ∀ (m : Nat) (z' : PyData), m < j → (toPA ds)[m]? = some z' → PyData.eqv z' (toP y) = false := by
              obtain ⟨hjl, hp, hn⟩ := List.findIdx?_eq_some_iff_getElem.mp hj
              refine ⟨_, List.getElem?_eq_getElem hjl, hp, fun m z' hm hz' => ?_⟩
              have hml : m < (toPA ds).length := by omega
              rw [List.getElem?_eq_getElem hml] at hz'
              cases hz'
              simpa using hn m hm
            exact ⟨a, w, toP y, toPA ds, j, z, rfl, rfl, d1, d2, c1, c2, hz, hzj, hno, k _ H2 (s1.trans s2) (.ofInt _)⟩
          · exact k.elim
        · exact k.elim
    | _ => exact k.elim
/-- a.append(b.pop(e)): two lists of one's own -/
def sAppPop (i j : Nat) (fe : Rho → M D) : Rho → Res := fun ρ => match ρ[i]?, ρ[j]? with
  | some (.ow (.lst as)), some (.ow (.lst bs)) => ofM ρ (fun d => match d with
    | .int n => if 0 ≤ n ∧ n < bs.length ∧ n < 2 ^ 62 ∧ as.length < sizeLine ∧ i ≠ j then (match bs[n.toNat]? with
      | some d => .nx ((ρ.set j (.ow (.lst (bs.eraseIdx n.toNat)))).set i (.ow (.lst (as ++ [d]))))
      | none => .er) else .er
    | _ => .er) (fe ρ)
  | _, _ => .er
theorem vs_appPop (i j : Nat) {x y : Str} {px py apos apos2 cpos cpos2 : Pos} (h : VX X W S0 H0 mb e fe) (hN : X.N[i]? = some x := by rfl) (hM : X.N[j]? = some y := by rfl)
    (hv : Vis X.env.scope x := by first | exact Or.inl rfl | exact Or.inr (Or.inl rfl) | exact Or.inr (Or.inr rfl)) (hd : (x == ("__debug__" : Str)) = false := by decide) (hcd : (x == ("__classdict__" : Str)) = false := by decide)
    (hv2 : Vis X.env.scope y := by first | exact Or.inl rfl | exact Or.inr (Or.inl rfl) | exact Or.inr (Or.inr rfl)) (hd2 : (y == ("__debug__" : Str)) = false := by decide) (hcd2 : (y == ("__classdict__" : Str)) = false := by decide)
    (hbase : attributeBase (.Name x px) "append" X.env (eval (.Name x px) X.env) = eval (.Name x px) X.env := by rfl) (hbase2 : attributeBase (.Name y py) "pop" X.env (eval (.Name y py) X.env) = eval (.Name y py) X.env := by rfl)
    (hfew : ((backTo cpos (starEach [.Call (.Attribute (.Name y py) "pop" apos2) [e] [] cpos2] X.env)).all (fun x => !x.1) && (backToKw cpos (keywordEach [] X.env)).all (fun x => x.1.isSome)
      && decide (([.Call (.Attribute (.Name y py) "pop" apos2) [e] [] cpos2] : List Expr).length + ([] : List Keyword).length + (if ([] : List Keyword).isEmpty then 0 else 1) < 30)) = true := by rfl)
    (hfew2 : ((backTo cpos2 (starEach [e] X.env)).all (fun x => !x.1) && (backToKw cpos2 (keywordEach [] X.env)).all (fun x => x.1.isSome)
      && decide (([e] : List Expr).length + ([] : List Keyword).length + (if ([] : List Keyword).isEmpty then 0 else 1) < 30)) = true := by rfl)
    (hline : (apos.endLine == cpos.line) = true := by rfl) (hline2 : (apos2.endLine == cpos2.line) = true := by rfl)
    (hs : starEach (.Call (.Attribute (.Name y py) "pop" apos2) [e] [] cpos2 :: []) X.env = (false, eval (.Call (.Attribute (.Name y py) "pop" apos2) [e] [] cpos2) X.env) :: starEach [] X.env := by rfl) (hs2 : starEach (e :: []) X.env = (false, eval e X.env) :: starEach [] X.env := by rfl)
    (hplain : (backTo cpos (starEach [] X.env)).any (·.1) = false := by rfl) (hplain2 : (backTo cpos2 (starEach [] X.env)).any (·.1) = false := by rfl)
    (hsw : swapsWith (.Call (.Attribute (.Name x px) "append" apos) [.Call (.Attribute (.Name y py) "pop" apos2) [e] [] cpos2] [] cpos) none pos.line X.env = pure false := by rfl) :
    VS X W S0 H0 rm (.Expr (.Call (.Attribute (.Name x px) "append" apos) [.Call (.Attribute (.Name y py) "pop" apos2) [e] [] cpos2] [] cpos) pos) (sAppPop i j fe) := by
  obtain ⟨te, p, q⟩ := h.p
  refine ⟨_, ps_expr (pe_bm PySem.F.plainAttrs_list PySem.F.slot_list_append PySem.F.type_list_append mt_append (pe_var hN hv hd hcd) (pa_cons (pe_bm PySem.F.plainAttrs_list PySem.F.slot_list_pop PySem.F.type_list_pop mt_popAt (pe_var hM hv2 hd2 hcd2) (pa_cons p pa_nil hs2) hbase2 hfew2 hline2 hs2 hplain2) pa_nil hs) hbase hfew hline hs hplain) hsw, fun ρ σ own H D R k => ?_⟩
  unfold sAppPop at k
  split at k
  · next as bs ea eb =>
    obtain ⟨a, xs, h1, h2, h3, h4⟩ := own_lst R ea
    obtain ⟨b, ys, g1, g2, g3, g4⟩ := own_lst R eb
    refine ⟨.ref a, h1, .inl ⟨rfl, xs, SqL.of h3⟩, .ref b, g1, .inl ⟨rfl, ys, SqL.of g3⟩, q ρ σ own H _ R ?_⟩
    revert k
    cases fe ρ with
    | er => exact id
    | ex c => exact fun k cv d H' i s => k cv d σ own H' i (R.grow s) (.same s)
    | ok d =>
      intro k v H' s r
      rw [ofM_ok] at k
      cases d with
      | int n =>
        dsimp only at k
        split at k
        · next hc =>
          obtain ⟨c0, c1, c2, c3, c4⟩ := hc
          split at k
          · next d hd' =>
            have hvn := r.isInt
            subst hvn
            obtain ⟨w, hw, rw'⟩ := g4.get hd'
            have hyl : ys.length = bs.length := g4.length
            have R' := R.grow s
            have hba : a ≠ b := fun z => c4 (R.dis i j _ _ ea eb (by rw [h1, g1, z]))
            refine ⟨b, ys, n, n.toNat, w, rfl, rfl, s b _ g3, by omega, by omega, ?_, hw, ?_⟩
            · unfold seqIndex?
              rw [if_neg (by omega : ¬ n < 0)]
              simp only
              rw [if_pos (by simp; omega)]
            · obtain ⟨R2, F2⟩ := R'.chg (d' := .lst (bs.eraseIdx n.toNat)) (o := .lst (ys.eraseIdx n.toNat)) eb g1 trivial ⟨_, upd_same, (g4.eraseIdx n.toNat |>.keep (.same s)).keep (keep_upd R' g2)⟩
              have h3' : (upd H' b (.lst (ys.eraseIdx n.toNat))) a = some (.lst xs) := by rw [upd_ne hba]; exact s a _ h3
              have ea2 : (ρ.set j (.ow (.lst (bs.eraseIdx n.toNat))))[i]? = some (.ow (.lst as)) := by rw [List.getElem?_set_ne (Ne.symm c4)]; exact ea
              show rAppend (V.ref a) [w] (upd H' b (.lst (ys.eraseIdx n.toNat))) fun _ H1 => D.nx σ H1
              refine mg_app (SF H0 own) _ a xs [w] as [d] (as ++ [d]) _ h3' ((h4.keep (.same s)).keep (keep_upd R' g2)) (.cons ((rw'.keep (.same s)).keep (keep_upd R' g2)) .nil) (if_pos c3) fun v xs' r' => ?_
              obtain ⟨R3, F3⟩ := R2.chg (d' := .lst (as ++ [d])) (o := .lst xs') ea2 h1 trivial ⟨_, upd_same, r'.keep (keep_upd R2 h2)⟩
              exact k σ own _ R3 (((Fra.same s).trans F2).trans F3)
          · exact k.elim
        · exact k.elim
      | _ => exact k.elim
  · exact k.elim
/-- xs.insert(i, e) -/
def insE : List D → List D → M (List D) := fun ds as => match as with
  | [.int i, d] => if ds.length < sizeLine ∧ 0 ≤ i ∧ i < 2 ^ 63 then .ok (ds.take i.toNat ++ [d] ++ ds.drop i.toNat) else .er
  | _ => .er
theorem mg_ins : MutG X (fun x vs H Q => ∃ (l : Addr) (xs : List V) (i : Int) (y : V), x = .ref l ∧ vs = [.int i, y] ∧ H l = some (.lst xs) ∧ xs.length < sizeLine ∧ 0 ≤ i ∧ i < 2 ^ 63 ∧ Q .non (upd H l (.lst (xs.take i.toNat ++ [y] ++ xs.drop i.toNat)))) insE := by
  intro S H a xs vs ds as ds' Q h r r2 e k
  unfold insE at e
  split at e
  · split at e
    · next i d hl =>
      cases e
      cases r2 with
      | cons r3 r4 =>
        cases r3
        cases r4 with
        | cons r5 r6 =>
          cases r6
          exact ⟨a, xs, i, _, rfl, rfl, h, by rw [r.length]; exact hl.1, hl.2.1, hl.2.2, k _ _ ((((r.take i.toNat).append (.cons r5 .nil))).append (r.drop i.toNat))⟩
    · cases e
  · cases e
end
end VL
set_option Elab.async false
set_option linter.all false
set_option maxRecDepth 100000
/-! VL: zip(text, list). -/
namespace VL
open PySem L2 PySem.Spec PyProof.Rows
open PySem.Sem (wp)
section
variable {prog : Program} {w : World} {A : Around} {E : Value → Shared → Prop} {s : Shared}
abbrev zw1 (h : Heap) (y : Str) (u : Tok) : Heap := h.push { cls := .type (strIterType y), data := .fields #[.str y u, .int 0 0] }
abbrev zw2 (h : Heap) (y : Str) (u : Tok) (l : Addr) : Heap := (zw1 h y u).push { cls := .type "list_iterator", data := .fields #[.ref l, .int 0 0] }
abbrev zw3 (h : Heap) (y : Str) (u : Tok) (l : Addr) : Heap := (zw2 h y u l).push { cls := .type "tuple", data := .seq #[.ref h.objs.size, .ref (zw1 h y u).objs.size] }
abbrev zw4 (h : Heap) (y : Str) (u : Tok) (l : Addr) : Heap := (zw3 h y u l).push { cls := .type "tuple", data := .seq #[.none, .none] }
abbrev zw5 (h : Heap) (y : Str) (u : Tok) (l : Addr) : Heap := (zw4 h y u l).push { cls := .type "zip", data := .fields #[.none, .bool false, .bool false, .ref (zw2 h y u l).objs.size, .ref (zw3 h y u l).objs.size] }
set_option maxHeartbeats 2000000 in
theorem zw_new (y : Str) (u : Tok) (l : Addr) (xs : Array Value) :
    Meets (Builtin.«zip.__new__» ⟨[.type "zip", .str y u, .ref l], []⟩) (fun _ R s => s.heap.IsList l xs ∧ R (.ok (.ret (.ref (zw4 s.heap y u l).objs.size))) { s with heap := zw5 s.heap y u l }) :=
  .of_wp fun prog w A R s ⟨hl, h⟩ => by
    obtain ⟨hp, g, d, tk, os⟩ := s
    have sb := sub_zip
    have L : Heap.IsList (Shared.heap ⟨hp.push { cls := .type (strIterType y), data := .fields #[.str y u, .int 0 0] }, g, d, tk, os⟩) l xs := by
      obtain ⟨o, e, r⟩ := hl
      exact ⟨o, Heap.get?_push_of_some _ e, r⟩
    wp_walk using pyIter_sig, wpAny_pyIter_list L
    exact ⟨_, rfl, h⟩
theorem call_zw {l : Addr} {xs : Array Value} {y : Str} {u : Tok} {Q : Value → Shared → Prop} (hl : s.heap.IsList l xs)
    (h : ∀ h' n, n = s.heap.objs.size → IsZip h' (n + 4) (n + 2) (n + 3) .none → IsPair h' (n + 2) (.ref n) (.ref (n + 1)) → IsPair h' (n + 3) .none .none → h'.IsStrIter n (strIterType y) y u 0 → h'.IsListIter (n + 1) l 0 →
      (∀ c o, s.heap.get? c = some o → h'.get? c = some o) → Q (.ref (n + 4)) { s with heap := h' }) :
    wpAny (model prog w) A (call (.type "zip") [.str y u, .ref l]) Q E s := by
  refine callType_new F.called_zip (by decide) (F.typeCall_zip_2 _ _) (F.newCall_zip_2 _ _) (fun obj => F.args_object_init_3 obj _ _) F.entry_zip_new (zw_new y u l xs) ⟨hl, ?_⟩
  have e1 : (zw1 s.heap y u).objs.size = s.heap.objs.size + 1 := Heap.size_push ..
  have e2 : (zw2 s.heap y u l).objs.size = s.heap.objs.size + 2 := by rw [Heap.size_push, e1]
  have e3 : (zw3 s.heap y u l).objs.size = s.heap.objs.size + 3 := by rw [Heap.size_push, e2]
  have e4 : (zw4 s.heap y u l).objs.size = s.heap.objs.size + 4 := by rw [Heap.size_push, e3]
  have g5 : (zw5 s.heap y u l).get? (zw4 s.heap y u l).objs.size = some _ := Heap.get?_push_size _ rfl
  have g4 : (zw5 s.heap y u l).get? (zw3 s.heap y u l).objs.size = some _ := Heap.get?_push_of_some _ (Heap.get?_push_size _ rfl)
  have g3 : (zw5 s.heap y u l).get? (zw2 s.heap y u l).objs.size = some _ := Heap.get?_push_of_some _ (Heap.get?_push_of_some _ (Heap.get?_push_size _ rfl))
  have g2 : (zw5 s.heap y u l).get? (zw1 s.heap y u).objs.size = some _ := Heap.get?_push_of_some _ (Heap.get?_push_of_some _ (Heap.get?_push_of_some _ (Heap.get?_push_size _ rfl)))
  have g1 : (zw5 s.heap y u l).get? s.heap.objs.size = some _ := Heap.get?_push_of_some _ (Heap.get?_push_of_some _ (Heap.get?_push_of_some _ (Heap.get?_push_of_some _ (Heap.get?_push_size _ rfl))))
  show (∃ o, (zw5 s.heap y u l).get? (zw4 s.heap y u l).objs.size = some o ∧ _) ∧ _
  rw [e2, e3, e4] at g5
  rw [e1, e2] at g3
  rw [e3] at g4
  rw [e1] at g2
  rw [e4]
  exact ⟨⟨_, g5, rfl⟩, h _ _ rfl g5 g3 g4 ⟨_, g1, rfl, rfl⟩ ⟨_, g2, rfl, rfl⟩ fun c o e => Heap.get?_push_of_some _ (Heap.get?_push_of_some _ (Heap.get?_push_of_some _ (Heap.get?_push_of_some _ (Heap.get?_push_of_some _ e))))⟩
end
/-- the text y and the list at a, in new pairs -/
def ItzW (K : PySem.W.Frag) (y : Str) (a : Addr) : It :=
  ⟨fun i H => ∃ (xs : List V) (v : V), SqL K H a xs ∧ xs[i]? = some v ∧ i < y.cps.size,
    fun i H v H' => ∃ T b z, v = .ref T ∧ H T = none ∧ H' = upd H T (.tup [.str ⟨#[b]⟩, z]) ∧ (∀ xs, SqL K H a xs → xs[i]? = some z) ∧ y.cps[i]? = some b,
    fun i H => ∃ xs : List V, SqL K H a xs ∧ (xs.length ≤ i ∨ y.cps.size ≤ i)⟩
theorem turn_zw {P : Program} {w : World} {K : PySem.W.Frag} {elts : List Expr} {kk : Nat} {tpos : Pos} {a z TI TO i1 i2 : Addr} {x : Str} {t : Tok} (D : ZA z TI TO i1 i2 [i1] [i2, a]) :
    Turn P w K (.Tuple elts kk tpos) (ItzW K x a) [z, TI, TO, i1, i2] z (fun i h => IsZip h z TI TO .none ∧ IsPair h TI (.ref i1) (.ref i2) ∧ (∃ p q, IsPair h TO p q) ∧ h.IsStrIter i1 (strIterType x) x t i ∧ h.IsListIter i2 a i) where
  mem := by simp
  obj := fun i h st c hc => by
    obtain ⟨gz, gI, ⟨p, q, gO⟩, ⟨o1, e1, _, d1⟩, ⟨o2, e2, _, d2⟩⟩ := st
    simp only [List.mem_cons, List.not_mem_nil, or_false] at hc
    rcases hc with q | q | q | q | q <;> rw [q]
    · exact ⟨_, gz, fun v q => nomatch q⟩
    · exact ⟨_, gI, fun v q => nomatch q⟩
    · exact ⟨_, gO, fun v q => nomatch q⟩
    · exact ⟨o1, e1, fun v q => by rw [d1] at q; cases q⟩
    · exact ⟨o2, e2, fun v q => by rw [d2] at q; cases q⟩
  keep := fun i h h' st k => by
    obtain ⟨gz, gI, ⟨p, q, gO⟩, ⟨o1, e1, d1⟩, m2⟩ := st
    exact ⟨k z (by simp) _ gz, k TI (by simp) _ gI, ⟨p, q, k TO (by simp) _ gO⟩, ⟨o1, k i1 (by simp) _ e1, d1⟩, m2.at fun o q => k i2 (by simp) o q⟩
  item := by
    intro X hP hw hK hc i pins s σ H E I hf st hg
    subst hP hw hK
    obtain ⟨gz, gI, ⟨p0, q0, gO⟩, m1, m2⟩ := st
    obtain ⟨xs, y, hq, hy, hl⟩ := hg
    obtain ⟨its, rv, p, _⟩ := I.list hq
    obtain ⟨u, hu, ru⟩ := rv.get hy
    have zl : z < s.heap.objs.size := Heap.lt_size gz
    have hd1 : i < its.toArray.size := by rw [List.size_toArray]; exact (List.getElem?_eq_some_iff.mp hu).1
    obtain ⟨q1, q2, q3, q4, q5, q6, q7, q8, q9, q10⟩ := D.a
    have ha1 : a ≠ i2 := fun e => by
      obtain ⟨o, e1, c1, _⟩ := m2
      obtain ⟨o', e2, c2, _⟩ := p.isList
      rw [← e, e2] at e1
      cases e1
      rw [c2] at c1
      exact absurd (Value.type.inj c1) (by decide)
    have D2 : Draws X.prog X.w X.A.in1 i2 [i2, a] its.toArray.size (fun i v => its.toArray[i]? = some v) (fun i h => h.IsListIter i2 a i ∧ h.IsList a its.toArray) := Draws.list (A := X.A.in1) (show X.A.in1.handled = none from I.ok.hd hc) i2 a ha1 its.toArray
    have D1 : Draws X.prog X.w X.A.in1 i1 [i1] x.cps.size (sigD x) (fun i h => h.IsStrIter i1 (strIterType x) x t i) := dr_str (A := X.A.in1) (show X.A.in1.handled = none from I.ok.hd hc) i1 x t
    refine zx_next (i := i) D1 D2 D gz gI gO m1 ⟨m2, p.isList⟩ hl hd1 fun v1 v2 h' tk w1 w2 g1 g2 g3 g4 g5 g6 => ?_
    obtain ⟨c, tc, hcx, rfl⟩ := w1
    have e1 : v2 = u := by
      rw [List.getElem?_toArray, hu] at w2
      exact (Option.some.inj w2).symm
    subst e1
    refine ⟨_, rfl, wpAny_letOwnedTupleGo_zip (s := { s with heap := h', toks := tk }) g1 fun h2 g1' sb => ?_⟩
    have hT2 : h2.get? s.heap.objs.size = some { cls := .type "tuple", data := .seq #[.str ⟨#[c]⟩ tc, v2] } := (sb.2 _ (Nat.ne_of_gt zl)).trans g5
    have new : ObjOk X.prog X.w (upd H s.heap.objs.size (.tup [.str ⟨#[c]⟩, y])) h2 s.heap.objs.size (.tup [.str ⟨#[c]⟩, y]) :=
      ⟨show 2 ≤ sizeLine by rw [sizeLine_eq]; decide, [.str ⟨#[c]⟩ tc, v2], .cons ⟨tc, rfl⟩ (.cons ru .nil), ⟨_, hT2, rfl, _, rfl⟩⟩
    have nin {c : Addr} (hb : c ∉ [z, TI, TO, i1, i2]) : c ≠ z ∧ c ≠ TI ∧ c ≠ TO ∧ c ≠ i1 ∧ c ≠ i2 := by
      simp only [List.mem_cons, List.not_mem_nil, or_false, not_or] at hb
      exact hb
    have I1 : Inv X pins σ (upd H s.heap.objs.size (.tup [.str ⟨#[c]⟩, y])) { s with heap := h2, toks := tk } :=
      I.turnedNew (t' := tk) (ch := [z, TI, TO, i1, i2]) (fun c o hb q => by
        obtain ⟨b1, b2, b3, b4, b5⟩ := nin hb
        exact (sb.2 c b1).trans (g6 c o b1 b3 b4 b5 q)) hf (Nat.le_refl _) new
    refine ⟨.ref s.heap.objs.size, _, I1, rfl, ⟨_, c, y, rfl, I.hok.fresh (Nat.le_refl _), rfl, fun l hl => by rw [I.list_inj hl hq]; exact hy, hcx⟩, ⟨g1', ?_, ⟨.str ⟨#[c]⟩ tc, v2, ?_⟩, ?_, ?_⟩, fun c hcm => ?_⟩
    · exact (sb.2 _ q1).trans (g6 _ _ q1 q5 q6 q7 gI)
    · exact (sb.2 _ q2).trans g2
    · obtain ⟨o, e, r⟩ := g3
      exact ⟨o, (sb.2 _ q3).trans e, r⟩
    · exact g4.1.at fun o q => (sb.2 _ q4).trans q
    · have hlt : c < s.heap.objs.size := by
        simp only [List.mem_cons, List.not_mem_nil, or_false] at hcm
        rcases hcm with q | q | q | q | q <;> rw [q]
        · exact zl
        · exact Heap.lt_size gI
        · exact Heap.lt_size gO
        · obtain ⟨_, e1, _⟩ := m1; exact Heap.lt_size e1
        · obtain ⟨_, e2, _⟩ := m2; exact Heap.lt_size e2
      rw [upd_ne (Nat.ne_of_lt hlt)]
      exact (hf c hcm).1
  done := by
    intro X hP hw hK hc i pins s σ H E I hf st hg
    subst hP hw hK
    obtain ⟨gz, gI, ⟨p0, q0, gO⟩, m1, m2⟩ := st
    obtain ⟨xs, hq, h3⟩ := hg
    obtain ⟨its, rv, p, _⟩ := I.list hq
    have hlen := rv.length
    have ha1 : a ≠ i2 := fun e => by
      obtain ⟨o, e1, c1, _⟩ := m2
      obtain ⟨o', e2, c2, _⟩ := p.isList
      rw [← e, e2] at e1
      cases e1
      rw [c2] at c1
      exact absurd (Value.type.inj c1) (by decide)
    have D2 : Draws X.prog X.w X.A.in1 i2 [i2, a] its.toArray.size (fun i v => its.toArray[i]? = some v) (fun i h => h.IsListIter i2 a i ∧ h.IsList a its.toArray) := Draws.list (A := X.A.in1) (show X.A.in1.handled = none from I.ok.hd hc) i2 a ha1 its.toArray
    have D1 : Draws X.prog X.w X.A.in1 i1 [i1] x.cps.size (sigD x) (fun i h => h.IsStrIter i1 (strIterType x) x t i) := dr_str (A := X.A.in1) (show X.A.in1.handled = none from I.ok.hd hc) i1 x t
    have hh : X.A.handled = none := I.ok.hd hc
    have stops : Stops X.prog X.w X.A.in1 i1 (fun h => h.IsStrIter i1 (strIterType x) x t i) ∨ (i < x.cps.size ∧ Stops X.prog X.w X.A.in1 i2 fun h => h.IsListIter i2 a i ∧ h.IsList a its.toArray) := by
      by_cases hl : x.cps.size ≤ i
      · exact .inl (stops_str hh i1 x t i hl)
      · exact .inr ⟨by omega, fun s Q E st k => wpAny_nextOf_list_end (A := X.A.in1) (show X.A.in1.handled = none from I.ok.hd hc) st.1 st.2 (Array.getElem?_eq_none (by rw [List.size_toArray]; omega)) k⟩
    refine zx_stop (i := i) D1 D2 D gz gI gO m1 ⟨m2, p.isList⟩ stops fun h' tk g => ⟨rfl, ?_⟩
    refine I.turnedL (t' := tk) (ch := [z, TI, TO, i1, i2]) (fun c o hb q => ?_) hf
    simp only [List.mem_cons, List.not_mem_nil, or_false, not_or] at hb
    exact g c o hb.1 hb.2.2.1 hb.2.2.2.1 hb.2.2.2.2 q
  self := fun A i s Q E st h => wpAny_pyIter_zip st.1 h
def iZw (K : PySem.W.Frag) (ta : TA) : TI := fun σ H R => ta σ H fun vs H1 => ∃ x a xs, vs = [V.str x, .ref a] ∧ SqL K H1 a xs ∧ R (ItzW K x a) H1
theorem pi_zw {X : Cx} {e e2 : Expr} {ta : TA} {p pos tpos : Pos} {elts : List Expr} {kk : Nat} (hg : Gl X "zip") (hm : X.mg "zip" = none) (ha : PA X [e, e2] ta)
    (hs : starEach [e, e2] X.env = (false, eval e X.env) :: starEach [e2] X.env := by rfl) (hpl : (backTo pos (starEach [e2] X.env)).any (·.1) = false := by rfl) :
    PI X (.Tuple elts kk tpos) (.Call (.Name "zip" p) [e, e2] [] pos) (iZw X.K ta) := by
  constructor
  intro pins s σ H R I h
  refine Call_ (ld_blt I hg hm PyProof.Rows.boot_zip (PyProof.Rows.callWith_type1 (thn (ha.run pos pins s σ H _ I h) fun us s1 ⟨vs, H1, I1, r1, x, a, xs, ev, hq, q⟩ => ?_) hs hpl))
  subst ev
  obtain ⟨v1, v2, rfl, rv1, rv2⟩ := vals2 r1
  obtain ⟨t, rfl⟩ := rv1
  cases rv2
  obtain ⟨its, rv, p1, _⟩ := I1.list hq
  have la : a < s1.heap.objs.size := p1.lt
  refine call_zw p1.isList fun h' n en gz gI gO m1 m2 kp => wpAny_pyIter_zip gz ?_
  have D : ZA (n + 4) (n + 2) (n + 3) n (n + 1) [n] [n + 1, a] := by
    rw [← en] at la
    have ne : ∀ k : Nat, (n + k : Nat) ≠ a := fun k => Nat.ne_of_gt (Nat.lt_of_lt_of_le la (Nat.le_add_right n k))
    have ap : ∀ j k : Nat, j ≠ k → (n + j : Nat) ≠ (n + k : Nat) := fun j k h e => h (Nat.add_left_cancel e)
    have a0 : ∀ k : Nat, k ≠ 0 → (n + k : Nat) ≠ n := fun k h e => h (by omega)
    refine ⟨⟨ap 2 4 (by decide), ap 3 4 (by decide), (a0 4 (by decide)).symm, ap 1 4 (by decide), ap 2 3 (by decide), a0 2 (by decide), ap 2 1 (by decide), a0 3 (by decide), ap 3 1 (by decide), (a0 1 (by decide)).symm⟩, ⟨?_, ?_, ?_⟩, ⟨?_, ?_, ?_⟩⟩
    · exact fun h => a0 4 (by decide) (List.mem_singleton.mp h)
    · exact fun h => a0 3 (by decide) (List.mem_singleton.mp h)
    · exact fun h => a0 1 (by decide) (List.mem_singleton.mp h)
    · exact fun h => (List.mem_cons.mp h).elim (ap 4 1 (by decide)) fun h => ne 4 (List.mem_singleton.mp h)
    · exact fun h => (List.mem_cons.mp h).elim (ap 3 1 (by decide)) fun h => ne 3 (List.mem_singleton.mp h)
    · exact fun h => (List.mem_cons.mp h).elim (fun e => (a0 1 (by decide)) e.symm) fun h => ne 0 (List.mem_singleton.mp h)
  refine ⟨n + 4, [n + 4, n + 2, n + 3, n, n + 1], _, _, H1, rfl, I1.kept (t' := s1.toks) kp, turn_zw (t := t) D, ⟨gz, gI, ⟨_, _, gO⟩, m1, m2⟩, fun b hb => ?_, q⟩
  have hle : s1.heap.objs.size ≤ b := by
    simp only [List.mem_cons, List.not_mem_nil, or_false] at hb
    rw [← en]
    rcases hb with e | e | e | e | e <;> rw [e]
    · exact Nat.le_add_right _ _
    · exact Nat.le_add_right _ _
    · exact Nat.le_add_right _ _
    · exact Nat.le_refl _
    · exact Nat.le_add_right _ _
  exact I1.fpOk hle (I1.hok.fresh hle)
def zipW : List Nat → List D → List D
  | c :: cs, x :: xs => .tup [.str ⟨#[c]⟩, x] :: zipW cs xs
  | _, _ => []
theorem zipW_len : ∀ (cs : List Nat) (xs : List D), (zipW cs xs).length = min cs.length xs.length
  | [], xs => by simp [zipW]
  | x :: xs, [] => by simp [zipW]
  | x :: xs, c :: cs => by simp [zipW, zipW_len xs cs]
theorem zipW_get : ∀ (cs : List Nat) (xs : List D) (i : Nat) (c : Nat) (a : D), cs[i]? = some c → xs[i]? = some a → (zipW cs xs)[i]? = some (.tup [.str ⟨#[c]⟩, a])
  | [], _, _, _, _, h, _ => by simp at h
  | _ :: _, [], _, _, _, _, h => by simp at h
  | x :: xs, y :: ys, 0, a, b, h1, h2 => by
    simp at h1 h2
    subst h1 h2
    rfl
  | x :: xs, y :: ys, i + 1, a, b, h1, h2 => by
    simp at h1 h2
    exact zipW_get xs ys i a b h1 h2
def zipSLG : List D → M (List D) := fun ds => match ds with
  | [.str z, .lst xs] => .ok (zipW z.cps.toList xs)
  | _ => .er
def eZipSL (f : Rho → M (List D)) : Rho → M (List D) := fun ρ => M.bind (f ρ) zipSLG
theorem vi_zipSL {X : Cx} {W : WX} {S0 : Addr → Prop} {H0 : Hp} {pos p tpos : Pos} {e e2 : Expr} {fa : Rho → M (List D)} {elts : List Expr} {kk : Nat} (hm : X.mg "zip" = none) (ha : VA X W S0 H0 .E [e, e2] fa) (hg : Gl X "zip" := by rfl) (hs1 : starEach (e :: [e2]) X.env = (false, eval e X.env) :: starEach [e2] X.env := by rfl) (hpl : (backTo pos (starEach [e2] X.env)).any (·.1) = false := by rfl)
    (hf : ∀ x, foldedSetIterable (.Call (.Name "zip" p) [e, e2] [] pos) X.env x = pure x := by intro _; rfl) : VI X W S0 H0 (.Tuple elts kk tpos) (.Call (.Name "zip" p) [e, e2] [] pos) (eZipSL fa) := by
  obtain ⟨te, pa, q⟩ := ha.p
  refine ⟨⟨_, pi_zw hg hm pa hs1 hpl, fun ρ σ own H Rk R k => q ρ σ own H _ R ?_⟩, hf⟩
  unfold eZipSL at k
  revert k
  cases fa ρ with
  | er => exact id
  | ex c => exact id
  | ok ds =>
    intro k vs H1 s1 r1
    rw [bind_ok] at k
    unfold zipSLG at k
    split at k
    · next z xs =>
      obtain ⟨v, w, rfl, r2, r3⟩ := pair2 r1
      have R1 := R.grow s1
      cases r2
      cases r3 with
      | lst sa ha ra =>
        rename_i a vs
        refine ⟨z, a, _, rfl, SqL.of ha, k _ H1 s1 ?_⟩
        intro own' H' F hsm ho i
        have ha' : SqL X.K H' a vs := .inl (fra_rd F R1.own0 sa.1 (.inl ha))
        have ra' := ra.keep (F.keepA (S0 := S0) (H0 := H0) R1.own0)
        rw [zipW_len]
        have hzz : z.cps.toList.length = z.cps.size := Array.length_toList
        refine ⟨fun hi => ?_, fun hi => ⟨vs, ha', ?_⟩, fun y H2 hi ⟨T, c, x1, ey, nT, eH, f1, f2⟩ => ?_⟩
        · obtain ⟨v1, e1, _⟩ := ra.get (List.getElem?_eq_getElem (show i < xs.length by omega))
          exact ⟨vs, v1, ha', e1, by omega⟩
        · rw [ra.length]; omega
        · obtain ⟨d1, g1, h1⟩ := ra'.getV (f1 vs ha')
          subst ey eH
          exact ⟨same_upd nT, .tup [.str ⟨#[c]⟩, d1], zipW_get _ xs i c d1 (by rw [Array.getElem?_toList]; exact f2) g1, up2 nT (.str _) h1⟩
    · exact k.elim
end VL
set_option Elab.async false
set_option linter.all false
set_option maxRecDepth 100000
/-! VL: a chain of three comparisons. -/
namespace VL
open PySem L2 PySem.Spec PyProof.Rows
section
variable {X : Cx} {W : WX} {S0 : Addr → Prop} {H0 : Hp} {m ma mb mc md : Md} {own : List Addr} {H H1 : Hp} {σ : Sg} {a b c d : Expr} {fa fb fc fd : Rho → M D} {pos : Pos} {op1 op2 op3 : CmpOp} {r1 r2 r3 : R2} {g1 g2 g3 : D → D → M D}
def tCh3 (r1 r2 r3 : R2) (ta tb tc td : TE) : TE := fun σ H Q => ta σ H fun x H1 => tb σ H1 fun y H2 => r1 x y H2 fun z H3 => ∃ k, z = .bl k ∧ if k = true then
  (tc σ H3 fun w H4 => r2 y w H4 fun z2 H5 => ∃ k2, z2 = .bl k2 ∧ if k2 = true then (td σ H5 fun u H6 => r3 w u H6 Q) else Q (.bl false) H5) else Q (.bl false) H3
theorem pe_chain3 {ta tb tc td : TE} (ho1 : OpR X (compareOp op1) r1) (ho2 : OpR X (compareOp op2) r2) (ho3 : OpR X (compareOp op3) r3) (pa : PE X a ta) (pb : PE X b tb) (pc : PE X c tc) (pd : PE X d td)
    (hm : lastMarks [op1, op2, op3] [b, c, d] = false := by with_unfolding_all rfl) : PE X (.Compare a [op1, op2, op3] [b, c, d] pos) (tCh3 r1 r2 r3 ta tb tc td) := by
  constructor
  intro pins s σ H Q I h
  refine Compare_chain (thn (pa.run pins s σ H _ I h) fun v s1 ⟨x, H1, I1, rv, q1⟩ => ?_) hm
  refine chain_link (thn (pb.run pins s1 σ H1 _ I1 q1) fun u s2 ⟨y, H2, I2, ru, q2⟩ => ?_)
  refine thn (ho1 pins s2 σ H2 x y v u _ I2 rv ru q2) fun z s3 ⟨zz, H3, I3, rz, k, ez, q3⟩ => ?_
  subst ez
  cases rz
  refine wpAny_truthy_bool ?_
  cases k with
  | false => exact ite_ff ⟨.bl false, H3, I3, rfl, by simpa using q3⟩
  | true =>
    refine ite_tt ?_
    rw [if_pos rfl] at q3
    refine chain_link (thn (pc.run pins s3 σ H3 _ I3 q3) fun w s4 ⟨ww, H4, I4, rw', q4⟩ => ?_)
    refine thn (ho2 pins s4 σ H4 y ww u w _ I4 ru rw' q4) fun z2 s5 ⟨zz2, H5, I5, rz2, k2, ez2, q5⟩ => ?_
    subst ez2
    cases rz2
    refine wpAny_truthy_bool ?_
    cases k2 with
    | false => exact ite_ff ⟨.bl false, H5, I5, rfl, by simpa using q5⟩
    | true =>
      refine ite_tt ?_
      rw [if_pos rfl] at q5
      refine chain_last (thn (pd.run pins s5 σ H5 _ I5 q5) fun t s6 ⟨tt, H6, I6, rt, q6⟩ => ?_)
      exact ho3 pins s6 σ H6 ww tt w t _ I6 rw' rt q6
theorem pt_chain3 {ta tb tc td : TE} (ho1 : OpR X (compareOp op1) r1) (ho2 : OpR X (compareOp op2) r2) (ho3 : OpR X (compareOp op3) r3) (pa : PE X a ta) (pb : PE X b tb) (pc : PE X c tc) (pd : PE X d td)
    (hm : lastMarks [op1, op2, op3] [b, c, d] = false := by with_unfolding_all rfl) : PT X (.Compare a [op1, op2, op3] [b, c, d] pos) (fun σ H Q => tCh3 r1 r2 r3 ta tb tc td σ H fun x H' => ∃ k, x = .bl k ∧ Q k H') := by
  constructor
  intro pins s σ H Q I h
  refine isTrue_chain (thn (pa.run pins s σ H _ I h) fun v s1 ⟨x, H1, I1, rv, q1⟩ => ?_) hm
  refine test_link (thn (pb.run pins s1 σ H1 _ I1 q1) fun u s2 ⟨y, H2, I2, ru, q2⟩ => ?_)
  refine thn (ho1 pins s2 σ H2 x y v u _ I2 rv ru q2) fun z s3 ⟨zz, H3, I3, rz, k, ez, q3⟩ => ?_
  subst ez
  cases rz
  refine wpAny_truthy_bool ?_
  cases k with
  | false =>
    rw [if_neg Bool.false_ne_true] at q3
    obtain ⟨k, ek, q3⟩ := q3
    cases ek
    exact ite_ff ⟨H3, I3, q3⟩
  | true =>
    refine ite_tt ?_
    rw [if_pos rfl] at q3
    refine test_link (thn (pc.run pins s3 σ H3 _ I3 q3) fun w s4 ⟨ww, H4, I4, rw', q4⟩ => ?_)
    refine thn (ho2 pins s4 σ H4 y ww u w _ I4 ru rw' q4) fun z2 s5 ⟨zz2, H5, I5, rz2, k2, ez2, q5⟩ => ?_
    subst ez2
    cases rz2
    refine wpAny_truthy_bool ?_
    cases k2 with
    | false =>
      rw [if_neg Bool.false_ne_true] at q5
      obtain ⟨k, ek, q5⟩ := q5
      cases ek
      exact ite_ff ⟨H5, I5, q5⟩
    | true =>
      refine ite_tt ?_
      rw [if_pos rfl] at q5
      refine test_last (thn (pd.run pins s5 σ H5 _ I5 q5) fun t s6 ⟨tt, H6, I6, rt, q6⟩ => ?_)
      refine thn (ho3 pins s6 σ H6 ww tt w t _ I6 rw' rt q6) fun z3 s7 ⟨zz3, H7, I7, rz3, k3, ez3, q7⟩ => ?_
      subst ez3
      cases rz3
      exact wpAny_truthy_bool ⟨H7, I7, q7⟩
/-- a op1 b op2 c op3 d of whole numbers -/
def eCh3 (p1 p2 p3 : Int → Int → Bool) (fa fb fc fd : Rho → M D) : Rho → M D := fun ρ => match fa ρ, fb ρ, fc ρ, fd ρ with
  | .ok (.int i), .ok (.int j), .ok (.int l), .ok (.int n) => .ok (.bl (p1 i j && (p2 j l && p3 l n)))
  | _, _, _, _ => .er
/-- the comparison of two whole numbers -/
def CmpI (r : R2) (p : Int → Int → Bool) : Prop := ∀ (i j : Int) (H : Hp) (Q : VK), Q (.bl (p i j)) H → r (.int i) (.int j) H Q
theorem chain3_run {ta tb tc td : TE} {p1 p2 p3 : Int → Int → Bool} (h1 : CmpI r1 p1) (h2 : CmpI r2 p2) (h3 : CmpI r3 p3)
    (qa : ∀ ρ σ own H Q, Rel X.K S0 H0 ρ σ own H → PX X W S0 H0 own ma H σ Q (fa ρ) → ta σ H Q) (qb : ∀ ρ σ own H Q, Rel X.K S0 H0 ρ σ own H → PX X W S0 H0 own mb H σ Q (fb ρ) → tb σ H Q)
    (qc : ∀ ρ σ own H Q, Rel X.K S0 H0 ρ σ own H → PX X W S0 H0 own mc H σ Q (fc ρ) → tc σ H Q) (qd : ∀ ρ σ own H Q, Rel X.K S0 H0 ρ σ own H → PX X W S0 H0 own md H σ Q (fd ρ) → td σ H Q) :
    ∀ ρ σ own H Q, Rel X.K S0 H0 ρ σ own H → PX X W S0 H0 own m H σ Q (eCh3 p1 p2 p3 fa fb fc fd ρ) → tCh3 r1 r2 r3 ta tb tc td σ H Q := by
  intro ρ σ own H Q R k
  unfold eCh3 at k
  split at k
  · next i j l n ea eb ec ed =>
    refine qa ρ σ own H _ R ?_
    rw [ea]
    intro v H1 s1 r1'
    rw [r1'.isInt]
    refine qb ρ σ own H1 _ (R.grow s1) ?_
    rw [eb]
    intro v2 H2 s2 r2'
    rw [r2'.isInt]
    refine h1 i j H2 _ ⟨_, rfl, ?_⟩
    cases e1 : p1 i j with
    | false =>
      rw [if_neg Bool.false_ne_true]
      rw [e1] at k
      exact k _ H2 (s1.trans s2) (.ofBl _)
    | true =>
      rw [if_pos rfl]
      rw [e1] at k
      refine qc ρ σ own H2 _ ((R.grow s1).grow s2) ?_
      rw [ec]
      intro v3 H3 s3 r3'
      rw [r3'.isInt]
      refine h2 j l H3 _ ⟨_, rfl, ?_⟩
      cases e2 : p2 j l with
      | false =>
        rw [if_neg Bool.false_ne_true]
        rw [e2] at k
        exact k _ H3 ((s1.trans s2).trans s3) (.ofBl _)
      | true =>
        rw [if_pos rfl]
        rw [e2] at k
        refine qd ρ σ own H3 _ (((R.grow s1).grow s2).grow s3) ?_
        rw [ed]
        intro v4 H4 s4 r4'
        rw [r4'.isInt]
        exact h3 l n H4 _ (k _ H4 (((s1.trans s2).trans s3).trans s4) (.ofBl _))
  · exact k.elim
theorem vx_chain3 {p1 p2 p3 : Int → Int → Bool} (ho1 : OpR X (compareOp op1) r1) (ho2 : OpR X (compareOp op2) r2) (ho3 : OpR X (compareOp op3) r3) (h1 : CmpI r1 p1) (h2 : CmpI r2 p2) (h3 : CmpI r3 p3)
    (ha : VX X W S0 H0 ma a fa) (hb : VX X W S0 H0 mb b fb) (hc : VX X W S0 H0 mc c fc) (hd : VX X W S0 H0 md d fd) (hm : lastMarks [op1, op2, op3] [b, c, d] = false := by with_unfolding_all rfl) :
    VX X W S0 H0 m (.Compare a [op1, op2, op3] [b, c, d] pos) (eCh3 p1 p2 p3 fa fb fc fd) := by
  obtain ⟨ta, pa, qa⟩ := ha.p
  obtain ⟨tb, pb, qb⟩ := hb.p
  obtain ⟨tc, pc, qc⟩ := hc.p
  obtain ⟨td, pd, qd⟩ := hd.p
  exact ⟨_, pe_chain3 ho1 ho2 ho3 pa pb pc pd hm, chain3_run h1 h2 h3 qa qb qc qd⟩
theorem vt_chain3 {p1 p2 p3 : Int → Int → Bool} (ho1 : OpR X (compareOp op1) r1) (ho2 : OpR X (compareOp op2) r2) (ho3 : OpR X (compareOp op3) r3) (h1 : CmpI r1 p1) (h2 : CmpI r2 p2) (h3 : CmpI r3 p3)
    (ha : VX X W S0 H0 ma a fa) (hb : VX X W S0 H0 mb b fb) (hc : VX X W S0 H0 mc c fc) (hd : VX X W S0 H0 md d fd) (hm : lastMarks [op1, op2, op3] [b, c, d] = false := by with_unfolding_all rfl) :
    VT X W S0 H0 (.Compare a [op1, op2, op3] [b, c, d] pos) (eB (eCh3 p1 p2 p3 fa fb fc fd)) := by
  obtain ⟨ta, pa, qa⟩ := ha.p
  obtain ⟨tb, pb, qb⟩ := hb.p
  obtain ⟨tc, pc, qc⟩ := hc.p
  obtain ⟨td, pd, qd⟩ := hd.p
  refine ⟨_, pt_chain3 ho1 ho2 ho3 pa pb pc pd hm, fun ρ σ own H Q R k => chain3_run (m := .N) h1 h2 h3 qa qb qc qd ρ σ own H _ R ?_⟩
  unfold eB at k
  revert k
  cases eCh3 p1 p2 p3 fa fb fc fd ρ with
  | er => exact id
  | ex c => exact id
  | ok x =>
    intro k v H' s r
    cases x with
    | bl b => rw [r.isBl]; exact ⟨b, rfl, k H' s⟩
    | _ => exact k.elim
theorem ci_le : CmpI (rI0 fun i j => .bl (decide (i ≤ j))) fun i j => decide (i ≤ j) := fun i j H Q q => ⟨i, j, rfl, rfl, q⟩
theorem ci_lt {K : PySem.W.Frag} : CmpI (rLtA K) fun i j => decide (i < j) := fun i j H Q q => .inl ⟨i, j, rfl, rfl, q⟩
end
end VL
set_option Elab.async false
set_option linter.all false
set_option maxRecDepth 100000
/-! VL: defs with default values. -/
namespace VL
open PySem L2 PySem.Spec PyProof.Rows
section
variable {P : Program} {w : World} {K : PySem.W.Frag} {mg : Str → Option Value} {base : Heap}
theorem fn_okD {x qual : Str} {st : Stmt} {f : Addr} {fd : FuncData} {dvs : List V} {kws : List (Str × V)} {N ps : List Str} {k : Nat} {F : Rho → Res} (Fn : FunD K x qual (defArgs st) (defBody st) (defScope st) dvs kws f fd) (S : FnScope N ps (defScope st))
    (hb : ∀ (cdv : Value) (A : Around) (outer : List Env) (s : Shared) (H : Hp) (E : XK) (S0 : Addr → Prop), Room k (A.deeper (envOfC qual (defScope st) s.heap.objs.size f cdv)) →
      VSs (cxOf (L2.CX P w) P w K mg base N qual (defScope st) f cdv A outer s H E) (fun cls d _ H => E cls d H) S0 H .F (defBody st) F) :
    FnOk P w K mg base (L2.CX P w) (k + 1) f fd ps (spN mg K (runF ps.length N.length F)) := by
  refine FunD.ok Fn S (fun vs H Q E h => ?_) (fun cdv A outer s H vs Q E hr h => ?_)
  · obtain ⟨ds, r, p⟩ := h
    unfold runF at p
    split at p
    · next hl => rw [r.length, hl]
    · exact p.elim
  · obtain ⟨ds, r, p⟩ := h
    obtain ⟨t, pt, q⟩ := (hb cdv A outer s H E (fun _ => True) hr).p
    refine ⟨t, pt, ?_⟩
    unfold runF at p
    split at p
    · next hl =>
      have hv : vs.length = ps.length := by rw [r.length, hl]
      have R := rel_start r (N.length - ps.length)
      have e : L2.start N vs = vs.map some ++ List.replicate (N.length - ps.length) none := by unfold L2.start; rw [hv]
      rw [e]
      refine q _ _ [] H _ R ?_
      have fin : ∀ (v : V) (own' : List Addr) (H' : Hp) (d : D), (∀ v H', Same H H' → Rp K (fun a => H a = none) H' v d → Q v H') → Rp K (SF H own') H' v d → Fra [] H own' H' → Q v H' := fun v own' H' d p a b => p v H' b.all (a.keep (.wide fun _ z => z.2))
      revert p
      generalize F (ds.map Sl.sh ++ List.replicate (N.length - ps.length) Sl.no) = r
      intro p
      cases r with
      | rt d => exact fun v own' H' a b => fin v own' H' d p a b
      | nx ρ' => exact fun σ' own' H' a b => p .non H' b.all .non
      | ex c ρ' => exact fun cv d σ' own' H' i a b => p cv d H' i b.all
      | bk ρ' => exact p.elim
      | ct ρ' => exact p.elim
      | er => exact p.elim
    · exact p.elim
/-- a def that may be called without its last arguments: their data is extra -/
structure CalD (P : Program) (w : World) (K : PySem.W.Frag) (mg : Str → Option Value) (base : Heap) (k : Nat) (x : Str) (g : List D → M D) (extra : List D) : Prop where
  p : ∃ (f : Addr) (fd : FuncData) (ps : List Str) (dvs : List V) (ds : List Value), FnOk P w K mg base (L2.CX P w) k f fd ps (spN mg K g) ∧ mg x = some (.ref f) ∧ PySem.W.keepIn K (.ref f) = true ∧ Binds K fd ps ds ∧ Vals dvs ds ∧ ∀ H : Hp, RpA K (fun _ => True) H dvs extra
theorem CalD.mk' {k : Nat} {x qual z : Str} {st : Stmt} {f : Addr} {fd : FuncData} {ps : List Str} {g : List D → M D} (F : FnOk P w K mg base (L2.CX P w) k f fd ps (spN mg K g)) (Fn : FunD K x qual (defArgs st) (defBody st) (defScope st) [V.str z] [] f fd) (hm : mg x = some (.ref f)) (hb : ∃ ds, Vals [V.str z] ds ∧ Binds K fd ps ds) : CalD P w K mg base k x g [.str z] := by
  obtain ⟨ds, h1, h2⟩ := hb
  exact ⟨f, fd, ps, _, ds, F, hm, Fn.kp, h2, h1, fun H => .cons (.str z) .nil⟩
/-- the facts of a def with one default text -/
theorem funD_mk {x qual z : Str} {st : Stmt} {f T : Addr} {oc oc2 : Value} {od an od2 : Option Addr} {osl osl2 : Array (Option Value)} {kV doc pm cdv ct : Value} {tk : Tok} {n : Nat}
    (h : K.lookup f = some ⟨oc, od, .func (PySem.W.fnOf x qual (defArgs st) (defBody st) (defScope st) (.ref T) kV doc pm an cdv ct), osl⟩) (hT : K.lookup T = some ⟨oc2, od2, .seq #[.str z tk] n, osl2⟩) (hc : PySem.W.codeIn K cdv qual = true) (hk : PySem.W.keepIn K (.ref f) = true) :
    FunD K x qual (defArgs st) (defBody st) (defScope st) [V.str z] [] f (PySem.W.fnOf x qual (defArgs st) (defBody st) (defScope st) (.ref T) kV doc pm an cdv ct) :=
  ⟨⟨oc, od, .ref T, kV, doc, pm, an, cdv, ct, osl, rfl, h, hc, .inr ⟨by simp, T, _, [.str z tk], n, rfl, hT, rfl, .cons ⟨tk, rfl⟩ .nil⟩, .inl rfl⟩, hk⟩
end
section
variable {X : Cx} {W : WX} {S0 : Addr → Prop} {H0 : Hp} {pos p : Pos} {e : Expr} {es : List Expr} {fa : Rho → M (List D)} {x : Str} {j k : Nat} {g : List D → M D} {extra : List D}
def noEx : M D → M D
  | .ex _ => .er
  | r => r
def eCallD (g : List D → M D) (extra : List D) (fa : Rho → M (List D)) : Rho → M D := fun ρ => M.bind (fa ρ) fun ds => noEx (g (ds ++ extra))
theorem vx_callD (c : CalD X.prog X.w X.K X.mg X.base k x g extra) (hr : Room j X.A) (hk : k ≤ j) (ha : VA X W S0 H0 .O (e :: es) fa) (hg : Gl X x := by rfl) (hdb : (x == ("__debug__" : Str)) = false := by decide)
    (he : starEach (e :: es) X.env = (false, eval e X.env) :: starEach es X.env := by rfl) (hpl : (backTo pos (starEach es X.env)).any (·.1) = false := by rfl) : VX X W S0 H0 .N (.Call (.Name x p) (e :: es) [] pos) (eCallD g extra fa) := by
  obtain ⟨f, fd, ps, dvs, ds0, F, h1, h2, h3, h4, h5⟩ := c.p
  obtain ⟨ta, pa, qa⟩ := ha.p
  refine ⟨_, pe_call F (hr.mono hk) hg h1 h2 h3 h4 passL pa hdb he hpl, fun ρ σ own H Q R k => qa ρ σ own H _ R ?_⟩
  unfold eCallD at k
  revert k
  cases fa ρ with
  | er => exact id
  | ex c => exact id
  | ok ds =>
    intro k vs H1 s1 r1
    rw [bind_ok] at k
    refine ⟨ds ++ extra, (RpA.ofO r1).append (h5 H1), ?_⟩
    revert k
    cases g (ds ++ extra) with
    | er => exact id
    | ex c => exact fun k => k.elim
    | ok d => exact fun k v H' s r => k v H' (s1.trans s) (r.keep (.wide fun a ha => ⟨s1.free ha, sf_new (R.grow s1) ha⟩))
end
end VL
set_option Elab.async false
set_option linter.all false
set_option maxRecDepth 100000
/-! VL: x or y, x and y by truth. -/
namespace VL
open PySem L2 PySem.Spec PyProof.Rows
def eOrT (f g : Rho → M D) : Rho → M D := fun ρ => M.bind (f ρ) fun x => M.bind (truG x) fun b => if b = true then .ok x else g ρ
section
variable {X : Cx} {W : WX} {S0 : Addr → Prop} {H0 : Hp} {m : Md} {pos : Pos} {a : Expr} {fa fb : Rho → M D}
theorem tru_no {x : D} {c : Xc} : truG x ≠ .ex c := by
  cases x <;> simp [truG]
  split <;> simp
theorem vx_orT {e2 : Expr} {es : List Expr} (h : VX X W S0 H0 m a fa) (h2 : VX X W S0 H0 m (.BoolOp .Or (e2 :: es) pos) fb) : VX X W S0 H0 m (.BoolOp .Or (a :: e2 :: es) pos) (eOrT fa fb) := by
  obtain ⟨ta, pa, qa⟩ := h.p
  obtain ⟨tb, pb, qb⟩ := h2.p
  refine ⟨_, pe_orT pa pb, fun ρ σ own H Q R k => qa ρ σ own H _ R ?_⟩
  unfold eOrT at k
  revert k
  cases fa ρ with
  | er => exact id
  | ex c => exact id
  | ok x =>
    intro k v H' s r
    rw [bind_ok] at k
    cases e : truG x with
    | ok b =>
      rw [e, bind_ok] at k
      refine ⟨b, tru_of r e, ?_⟩
      cases b with
      | true => exact k v H' s r
      | false => exact qb ρ σ own H' Q (R.grow s) (PX.grow s k)
    | ex c => exact absurd e tru_no
    | er => rw [e] at k; exact k.elim
end
end VL
set_option Elab.async false
set_option linter.all false
set_option maxRecDepth 100000
/-! VL: a module's constant tuple of tuples of ints. -/
namespace VL
open PySem L2 PySem.Spec PyProof.Rows
structure GK (K : PySem.W.Frag) (mg : Str → Option Value) (x : Str) (d : D) : Prop where
  p : ∃ a, mg x = some (.ref a) ∧ ∀ (S : Addr → Prop) (H : Hp), Rp K S H (.ref a) d
section
variable {K : PySem.W.Frag} {mg : Str → Option Value}
theorem ktI3 {a : Addr} {od : Option Addr} {i j k : Int} {t1 t2 t3 : Tok} {n : Nat} {sl : Array (Option Value)} (h : K.lookup a = some ⟨.type "tuple", od, .seq #[.int i t1, .int j t2, .int k t3] n, sl⟩) (S : Addr → Prop) (H : Hp) : Rp K S H (.ref a) (.kt [.int i, .int j, .int k]) :=
  .kt ⟨_, _, _, h, rfl, rfl, by show 3 ≤ sizeLine; decide, .cons (a := V.int i) ⟨_, rfl⟩ (.cons (a := V.int j) ⟨_, rfl⟩ (.cons (a := V.int k) ⟨_, rfl⟩ .nil))⟩ (.cons (.int i) (.cons (.int j) (.cons (.int k) .nil)))
theorem kt6 {a a0 a1 a2 a3 a4 a5 : Addr} {od : Option Addr} {d0 d1 d2 d3 d4 d5 : D} {n : Nat} {sl : Array (Option Value)} (h : K.lookup a = some ⟨.type "tuple", od, .seq #[.ref a0, .ref a1, .ref a2, .ref a3, .ref a4, .ref a5] n, sl⟩)
    (h0 : ∀ S H, Rp K S H (.ref a0) d0) (h1 : ∀ S H, Rp K S H (.ref a1) d1) (h2 : ∀ S H, Rp K S H (.ref a2) d2) (h3 : ∀ S H, Rp K S H (.ref a3) d3) (h4 : ∀ S H, Rp K S H (.ref a4) d4) (h5 : ∀ S H, Rp K S H (.ref a5) d5) (S : Addr → Prop) (H : Hp) : Rp K S H (.ref a) (.kt [d0, d1, d2, d3, d4, d5]) :=
  .kt ⟨_, _, _, h, rfl, rfl, by show 6 ≤ sizeLine; decide, .cons (a := V.ref a0) rfl (.cons (a := V.ref a1) rfl (.cons (a := V.ref a2) rfl (.cons (a := V.ref a3) rfl (.cons (a := V.ref a4) rfl (.cons (a := V.ref a5) rfl .nil)))))⟩
    (.cons (h0 S H) (.cons (h1 S H) (.cons (h2 S H) (.cons (h3 S H) (.cons (h4 S H) (.cons (h5 S H) .nil))))))
end
section
variable {X : Cx} {W : WX} {S0 : Addr → Prop} {H0 : Hp} {m : Md} {pos : Pos}
theorem vx_gk {x : Str} {d : D} (h : GK X.K X.mg x d) (hg : Gl X x := by rfl) (hd : (x == ("__debug__" : Str)) = false := by decide) : VX X W S0 H0 m (.Name x pos) (eC d) := by
  obtain ⟨a, h1, h2⟩ := h.p
  refine ⟨_, pe_glob (v := .ref a) hg h1 rfl hd, fun _ _ _ H _ _ k => k _ H (Same.refl H) ?_⟩
  cases m with
  | O => exact .inl (h2 _ _)
  | E => exact h2 _ _
  | F => exact h2 _ _
  | N => exact h2 _ _
end
end VL
set_option Elab.async false
set_option linter.all false
set_option maxRecDepth 100000
/-! VL: x < y of nested data. -/
namespace VL
open PySem L2 PySem.Spec PyProof.Rows
section
variable {X : Cx} {W : WX} {S0 : Addr → Prop} {H0 : Hp} {m : Md}
def rLtD (K : PySem.W.Frag) : R2 := fun x y H Q => ∃ d e, Dp K H x d ∧ Dp K H y e ∧ SeqAt.shaped d = true ∧ PySem.W.alike d e = true ∧ d ≠ .none ∧ Q (.bl (PySem.W.dataLt d e)) H
theorem op_ltD (hu : X.A.units + 64 < cLine) : OpR X (compareOp .Lt) (rLtD X.K) := by
  intro pins s σ H x y v u Q I rx ry h
  obtain ⟨d, e, hd, he, sd, al, hn, q⟩ := h
  obtain ⟨as, r1⟩ := Dp.reads I d x v hd rx
  obtain ⟨bs, r2⟩ := Dp.reads I e y u he ry
  have hdep : d.depth ≤ 64 := by
    unfold SeqAt.shaped at sd
    simp only [Bool.and_eq_true, decide_eq_true_eq] at sd
    exact sd.2
  exact PySem.W.lt_data r1 r2 al hn (by omega) ⟨.bl _, H, I, rfl, q⟩
def seqD : D → Bool
  | .tup _ => true
  | .kt _ => true
  | .lst _ => true
  | .fz _ => true
  | _ => false
def ltDG (x y : D) : M D := if SeqAt.shaped (toP x) = true ∧ SeqAt.shaped (toP y) = true ∧ PySem.W.alike (toP x) (toP y) = true ∧ seqD x = true then .ok (.bl (PySem.W.dataLt (toP x) (toP y))) else .er
theorem og_ltD : OpG X W S0 H0 m (rLtD X.K) ltDG := by
  intro ρ σ own H Q vx vy x y R rx ry k
  unfold ltDG at k
  split at k
  · next c =>
    refine ⟨_, _, rx.dp c.1, ry.dp c.2.1, c.1, c.2.2.1, fun e => ?_, k _ H (Same.refl H) (.ofBl _)⟩
    have := c.2.2.2
    cases x <;> simp [seqD] at this <;> simp [toP] at e
  · exact k.elim
end
end VL
set_option Elab.async false
set_option linter.all false
set_option maxRecDepth 100000
/-! VL: x = e, a test that may return, then lists within the new tuple x are changed; x is forgotten. -/
namespace VL
open PySem L2 PySem.Spec PyProof.Rows
/-- a list within a tuple, both new since Hs -/
def Wk (Hs H : Hp) (v : V) (n k : Nat) : Prop := ∃ a xs b ys, v = .ref a ∧ H a = some (.tup xs) ∧ xs[k]? = some (.ref b) ∧ Hs b = none ∧ H b = some (.lst ys) ∧ ys.length ≤ n
theorem Wk.step {Hs H : Hp} {v : V} {n n' k : Nat} {b : Addr} {ys : List V} (h : Wk Hs H v n k) (hb : ∃ zs, H b = some (.lst zs)) (hl : ys.length ≤ n') (hn : n ≤ n') : Wk Hs (upd H b (.lst ys)) v n' k := by
  obtain ⟨a, xs, c, zs, h1, h2, h3, h4, h5, h6⟩ := h
  obtain ⟨ws, hb⟩ := hb
  have hab : a ≠ b := fun e => by rw [e, hb] at h2; cases h2
  by_cases e : c = b
  · subst e
    exact ⟨a, xs, c, ys, h1, by rw [upd_ne hab]; exact h2, h3, h4, upd_same, hl⟩
  · exact ⟨a, xs, c, zs, h1, by rw [upd_ne hab]; exact h2, h3, h4, by rw [upd_ne e]; exact h5, Nat.le_trans h6 hn⟩
/-- a statement that changes a list within the tuple in slot i -/
structure VU (X : Cx) (i : Nat) (Ks : List Nat) (st : Stmt) (m : Nat) : Prop where
  p : ∃ ts, PS X st ts ∧ ∀ (σ : Sg) (H Hs : Hp) (v : V) (n : Nat) (D : Ends), σ[i]? = some (some v) → Same Hs H → (∀ k, k ∈ Ks → Wk Hs H v n k) → n + m ≤ sizeLine → (∀ H', Same Hs H' → (∀ k, k ∈ Ks → Wk Hs H' v (n + m) k) → D.nx σ H') → ts D σ H
/-- such statements, then what follows -/
structure VQ (X : Cx) (W : WX) (S0 : Addr → Prop) (H0 : Hp) (rm : Md) (i : Nat) (Ks : List Nat) (st : List Stmt) (m : Nat) (g : Rho → Res) : Prop where
  p : ∃ ts, PSs X st ts ∧ ∀ ρ σ own Hs H v n D, Rel X.K S0 H0 ρ σ own Hs → σ[i]? = some (some v) → Same Hs H → (∀ k, k ∈ Ks → Wk Hs H v n k) → n + m ≤ sizeLine → PSt X W S0 H0 rm own Hs D (g ρ) → ts D σ H
theorem atI_nat' {α : Type} {xs : List α} {k : Nat} {x : α} (h : xs[k]? = some x) : atI xs (k : Int) = some x := by
  have hl : k < xs.length := (List.getElem?_eq_some_iff.mp h).1
  unfold atI ixN
  rw [if_pos (by omega), if_pos (by omega)]
  simpa using h
theorem same_out {Hs H : Hp} {b : Addr} {o : HO} (s : Same Hs H) (hb : Hs b = none) : Same Hs (upd H b o) := fun a u e => by
  have : a ≠ b := fun z => by rw [z, hb] at e; cases e
  rw [upd_ne this]
  exact s a u e
section
variable {X : Cx} {W : WX} {S0 : Addr → Prop} {H0 : Hp} {rm : Md} {i : Nat} {Ks : List Nat} {px pc apos cpos pos ps pos' : Pos} {x name : Str} {z : Str} {jc jk : Nat} {g : Rho → Res}
theorem vq_end {sts : List Stmt} (h : VSs X W S0 H0 rm sts g) : VQ X W S0 H0 rm i Ks sts 0 g := by
  obtain ⟨t, p, q⟩ := h.p
  exact ⟨t, p, fun ρ σ own Hs H v n D R hv s w hn k => q ρ σ own H D (R.grow s) (PSt.weak k (.same s))⟩
theorem vq_cons {st : Stmt} {sts : List Stmt} {m m' : Nat} (h : VU X i Ks st m) (h2 : VQ X W S0 H0 rm i Ks sts m' g) : VQ X W S0 H0 rm i Ks (st :: sts) (m + m') g := by
  obtain ⟨t, p, q⟩ := h.p
  obtain ⟨t2, p2, q2⟩ := h2.p
  exact ⟨_, pss_cons p p2, fun ρ σ own Hs H v n D R hv s w hn k => q σ H Hs v n _ hv s w (by omega) fun H' s' w' => q2 ρ σ own Hs H' v (n + m) D R hv s' w' (by omega) k⟩
theorem vu_app (k : Nat) (hk : k ∈ Ks) (hN : X.N[i]? = some x := by rfl) (hv : Vis X.env.scope x := by first | exact Or.inl rfl | exact Or.inr (Or.inl rfl) | exact Or.inr (Or.inr rfl)) (hd : (x == ("__debug__" : Str)) = false := by decide)
    (hcd : (x == ("__classdict__" : Str)) = false := by decide) (hs : PlainIx (.Constant (.int (k : Int)) jk pc) := by intro _ _; rfl)
    (hbase : attributeBase (.Subscript (.Name x px) (.Constant (.int (k : Int)) jk pc) ps) "append" X.env (eval (.Subscript (.Name x px) (.Constant (.int (k : Int)) jk pc) ps) X.env) = eval (.Subscript (.Name x px) (.Constant (.int (k : Int)) jk pc) ps) X.env := by rfl)
    (hfew : ((backTo cpos (starEach [.Constant (.str z) jc pos'] X.env)).all (fun x => !x.1) && (backToKw cpos (keywordEach [] X.env)).all (fun x => x.1.isSome) && decide (([.Constant (.str z) jc pos'] : List Expr).length + ([] : List Keyword).length + (if ([] : List Keyword).isEmpty then 0 else 1) < 30)) = true := by rfl)
    (hline : (apos.endLine == cpos.line) = true := by rfl) (hst : starEach [.Constant (.str z) jc pos'] X.env = (false, eval (.Constant (.str z) jc pos') X.env) :: starEach [] X.env := by rfl) (hplain : (backTo cpos (starEach [] X.env)).any (·.1) = false := by rfl)
    (hsw : swapsWith (.Call (.Attribute (.Subscript (.Name x px) (.Constant (.int (k : Int)) jk pc) ps) "append" apos) [.Constant (.str z) jc pos'] [] cpos) none pos.line X.env = pure false := by rfl) :
    VU X i Ks (.Expr (.Call (.Attribute (.Subscript (.Name x px) (.Constant (.int (k : Int)) jk pc) ps) "append" apos) [.Constant (.str z) jc pos'] [] cpos) pos) 1 := by
  refine ⟨_, ps_expr (pe_bm PySem.F.plainAttrs_list PySem.F.slot_list_append PySem.F.type_list_append mt_append (pe_ix ix_tup (pe_var hN hv hd hcd) pe_int hs) (pa_cons pe_str pa_nil hst) hbase hfew hline hst hplain) hsw, fun σ H Hs v n D hvv s w hn fin => ?_⟩
  obtain ⟨a, xs, b, ys, e1, e2, e3, e4, e5, e6⟩ := w k hk
  refine ⟨v, hvv, a, xs, k, .ref b, e1, rfl, SqT.of e2, atI_nat' e3, .inl ⟨rfl, ys, SqL.of e5⟩, b, ys, .str z, rfl, rfl, e5, by omega, ?_⟩
  exact fin _ (same_out s e4) fun k' hk' => (w k' hk').step ⟨ys, e5⟩ (by rw [List.length_append, List.length_singleton]; omega) (by omega)
theorem vu_clr (k : Nat) (hk : k ∈ Ks) (hN : X.N[i]? = some x := by rfl) (hv : Vis X.env.scope x := by first | exact Or.inl rfl | exact Or.inr (Or.inl rfl) | exact Or.inr (Or.inr rfl)) (hd : (x == ("__debug__" : Str)) = false := by decide)
    (hcd : (x == ("__classdict__" : Str)) = false := by decide) (hs : PlainIx (.Constant (.int (k : Int)) jk pc) := by intro _ _; rfl)
    (hbase : attributeBase (.Subscript (.Name x px) (.Constant (.int (k : Int)) jk pc) ps) "clear" X.env (eval (.Subscript (.Name x px) (.Constant (.int (k : Int)) jk pc) ps) X.env) = eval (.Subscript (.Name x px) (.Constant (.int (k : Int)) jk pc) ps) X.env := by rfl)
    (hline : (apos.endLine == cpos.line) = true := by rfl)
    (hsw : swapsWith (.Call (.Attribute (.Subscript (.Name x px) (.Constant (.int (k : Int)) jk pc) ps) "clear" apos) [] [] cpos) none pos.line X.env = pure false := by rfl) :
    VU X i Ks (.Expr (.Call (.Attribute (.Subscript (.Name x px) (.Constant (.int (k : Int)) jk pc) ps) "clear" apos) [] [] cpos) pos) 0 := by
  refine ⟨_, ps_expr (pe_bm0 PySem.F.plainAttrs_list PySem.F.slot_list_clear PySem.F.type_list_clear mt_clear (pe_ix ix_tup (pe_var hN hv hd hcd) pe_int hs) hbase hline) hsw, fun σ H Hs v n D hvv s w hn fin => ?_⟩
  obtain ⟨a, xs, b, ys, e1, e2, e3, e4, e5, e6⟩ := w k hk
  refine ⟨v, hvv, a, xs, k, .ref b, e1, rfl, SqT.of e2, atI_nat' e3, .inl ⟨rfl, ys, SqL.of e5⟩, b, ys, rfl, rfl, e5, ?_⟩
  exact fin _ (same_out s e4) fun k' hk' => (w k' hk').step ⟨ys, e5⟩ (Nat.zero_le _) (Nat.le_refl _)
def tmpOk (Ks : List Nat) : D → Bool
  | .tup ds => Ks.all fun k => match ds[k]? with
    | some (.lst ys) => decide (ys.length ≤ 1000000)
    | _ => false
  | _ => false
def onlyR : Res → Res
  | .rt d => .rt d
  | .ex c ρ => .ex c ρ
  | _ => .er
def sTmp (i : Nat) (Ks : List Nat) (fe : Rho → M D) (ft : Rho → M Bool) (fr g : Rho → Res) : Rho → Res := fun ρ =>
  ofM ρ (fun d => ofMB (ρ.set i (.fr d)) (fun b => if b = true then onlyR (fr (ρ.set i (.fr d))) else if (tmpOk Ks d && decide (i < ρ.length)) = true then g (ρ.set i .no) else .er) (ft (ρ.set i (.fr d)))) (fe ρ)
theorem vss_tmp {e t : Expr} {rs sts : List Stmt} {fe : Rho → M D} {ft : Rho → M Bool} {fr : Rho → Res} {m : Nat} {post : Pos} (hN : X.N.Nodup) (h : VX X W S0 H0 .N e fe) (ht : VT X W S0 H0 t ft) (hr : VSs X W S0 H0 rm rs fr) (hq : VQ X W S0 H0 rm i Ks sts m g)
    (hm : m ≤ 1000 := by decide) (hi : X.N[i]? = some x := by rfl) (hx : Loc X.env.scope x := by first | exact Or.inl rfl | exact Or.inr rfl) (hs : swapsWith e (some (.Name x pos')) pos.line X.env = pure false := by rfl)
    (hf : X.fn x = true ∨ X.env.scope.names.lookup x = some .local := by first | exact .inl rfl | exact .inr rfl) : VSs X W S0 H0 rm (.Assign [.Name x pos'] e pos :: .If t rs [] post :: sts) (sTmp i Ks fe ft fr g) := by
  obtain ⟨te, pe, qe⟩ := h.p
  obtain ⟨tt, pt, qt⟩ := ht.p
  obtain ⟨tr, pr, qr⟩ := hr.p
  obtain ⟨tq, pq, qq⟩ := hq.p
  refine ⟨_, pss_cons (ps_set hN hi hx pe hs hf) (pss_cons (ps_if pt pr pss_nil) pq), fun ρ σ own H D R k => qe ρ σ own H _ R ?_⟩
  unfold sTmp at k
  revert k
  cases fe ρ with
  | er => exact id
  | ex c => exact fun k cv d H' i s => k cv d σ own H' i (R.grow s) (.same s)
  | ok d =>
    intro k v H1 s1 r
    rw [ofM_ok] at k
    have R1 : Rel X.K S0 H0 (ρ.set i (.fr d)) (σ.set i (some v)) own H1 := (R.grow s1).setFr (r.nf (Hc := H1))
    refine qt _ _ own H1 _ R1 ?_
    revert k
    cases ft (ρ.set i (.fr d)) with
    | er => exact id
    | ex c => exact fun k cv d' H' ic s => k cv d' _ own H' ic (R1.grow s) (.same (s1.trans s))
    | ok b =>
      intro k H2 s2
      rw [ofMB_ok] at k
      cases b with
      | true =>
        refine qr _ _ own H2 _ (R1.grow s2) ?_
        rw [if_pos rfl] at k
        have f := Fra.same (own := own) (s1.trans s2)
        revert k
        cases fr (ρ.set i (.fr d)) with
        | rt d' => exact fun k v' o' H' a b => k v' o' H' a (f.trans b)
        | ex c ρ' => exact fun k cv d' σ' o' H' ic a b => k cv d' σ' o' H' ic a (f.trans b)
        | nx ρ' => exact fun k => k.elim
        | bk ρ' => exact fun k => k.elim
        | ct ρ' => exact fun k => k.elim
        | er => exact fun k => k.elim
      | false =>
        rw [if_neg Bool.false_ne_true] at k
        split at k
        · next ho =>
          rw [Bool.and_eq_true] at ho
          have hil : i < σ.length := by
            rw [R.len]
            exact of_decide_eq_true ho.2
          replace ho := ho.1
          refine qq _ _ own H H2 v 1000000 D (R.setNo (x := some v)) (List.getElem?_set_self hil) (s1.trans s2) (fun kk hk => ?_) (by rw [show sizeLine = 16777216 from rfl]; omega) k
          cases d with
          | tup ds =>
            cases r with
            | tup ha hr' =>
              have hk2 := List.all_eq_true.mp ho kk hk
              split at hk2
              · next ys hys =>
                obtain ⟨u, hu1, hu2⟩ := hr'.get hys
                cases hu2 with
                | lst sb hb rb => exact ⟨_, _, _, _, rfl, s2 _ _ ha, hu1, sb.1, s2 _ _ hb, by rw [rb.length]; exact of_decide_eq_true hk2⟩
              · cases hk2
          | _ => cases ho
        · exact k.elim
end
end VL
set_option Elab.async false
set_option linter.all false
set_option maxRecDepth 100000
/-! VL: walks over dicts whose keys are tuples: items of a new one in a for, keys of one's own in a comprehension. -/
namespace VL
open PySem L2 PySem.Spec PyProof.Rows
/-! ### the items, turn by turn -/
def ItiT (d : Addr) (o : Obj) (kvs : List (List Key × V)) : It :=
  ⟨fun i H => H d = some (.frz o (.dT kvs)) ∧ i < kvs.length, fun i H x H' => ∃ T q k v, kvs[i]? = some (k, v) ∧ H q = some (.tup (k.map kV)) ∧ x = .ref T ∧ H T = none ∧ H' = upd H T (.tup [.ref q, v]), fun i H => H d = some (.frz o (.dT kvs)) ∧ kvs.length ≤ i⟩
section
variable {P : Program} {w : World} {K : PySem.W.Frag} {d : Addr} {o : Obj} {es : Array DictEntry} {ep : Nat} {X : Cx} {pins : List (Addr × Obj)} {σ : L2.St} {H : Hp} {s : Shared}
theorem frzT' {kvs : List (List Key × V)} (I : Inv X pins σ H s) (h : H d = some (.frz o (.dT kvs))) :
    (d == sysModules) = false ∧ DT.Raw s.heap d (match o.data with | .dict es _ => es | _ => #[]) (match o.data with | .dict _ ep => ep | _ => 0) ∧ (match o.data with | .dict es _ => es | _ => #[]).size = kvs.length ∧
      ∀ (i : Nat) (k : List Key) (v : V), kvs[i]? = some (k, v) → ∃ (en : DictEntry) (q : Addr), (match o.data with | .dict es _ => es | _ => #[])[i]? = some en ∧ en.key = .ref q ∧ H q = some (.tup (k.map kV)) ∧ RelV v en.val := by
  obtain ⟨hd, z, hs, xs, pr, o', es, ep, ho, hx, hdt, he, _⟩ := I.hok d _ h
  rw [hd] at ho
  cases ho
  simp only [hdt]
  refine ⟨hs, ⟨_, hd, hx, hdt⟩, ?_, fun i k v e => ?_⟩
  · have l1 : es.size = xs.length := size_of_entries he
    have l2 : kvs.length = xs.length := Paired.length pr
    omega
  · obtain ⟨b, hb, e1, e2, e3⟩ := paired_get pr e
    have q := entry_at he i
    rw [hb] at q
    exact ⟨_, b.2.1, q, rfl, e2, e3⟩
theorem turn_itemsT {kvs : List (List Key × V)} {elts : List Expr} {kk : Nat} {tpos : Pos} (it : Addr) :
    Turn P w K (.Tuple elts kk tpos) (ItiT d o kvs) [it] it (fun i h => ∃ ok ov, IsItemIter h it d i kvs.length (match o.data with | .dict _ ep => ep | _ => 0) ok ov) where
  mem := by simp
  obj := fun i h st b hb => by
    have e : b = it := by simpa using hb
    subst e
    obtain ⟨ok, ov, e⟩ := st
    exact ⟨_, e, fun v z => nomatch z⟩
  keep := fun i h h' st k => let ⟨ok, ov, e⟩ := st; ⟨ok, ov, k it (by simp) _ e⟩
  item := by
    intro X hP hw hK hc i pins s σ H E I hf st hg
    subst hP hw hK
    obtain ⟨hd, hi⟩ := hg
    obtain ⟨hs, raw, hsz, ent⟩ := frzT' I hd
    obtain ⟨⟨k, v⟩, hkv⟩ : ∃ p, kvs[i]? = some p := ⟨kvs[i], List.getElem?_eq_getElem hi⟩
    obtain ⟨en, q, hen, hkey, hq, rv⟩ := ent i k v hkv
    obtain ⟨ok, ov, he⟩ := st
    generalize (match o.data with | .dict es _ => es | _ => (#[] : Array DictEntry)) = es at *
    generalize (match o.data with | .dict _ ep => ep | _ => 0) = ep at *
    rw [← hsz] at he
    have hlt : it < s.heap.objs.size := Heap.lt_size he
    have hies : i < es.size := by omega
    have hge : es[i] = en := by
      have := Array.getElem?_eq_getElem hies
      rw [hen] at this
      exact (Option.some.inj this).symm
    refine DT.nextI he raw hies fun h' ho hT hz hk => ?_
    refine ⟨_, rfl, wpAny_letOwnedTupleGo_items (s := { s with heap := h' }) ho fun h'' he' sb => ?_⟩
    rw [hge, hkey] at hT
    have hT2 : h''.get? s.heap.objs.size = some { cls := .type "tuple", data := .seq #[.ref q, en.val] } := (sb.2 _ (Nat.ne_of_gt hlt)).trans hT
    have new : ObjOk X.prog X.w (upd H s.heap.objs.size (.tup [.ref q, v])) h'' s.heap.objs.size (.tup [.ref q, v]) :=
      ⟨by show 2 ≤ sizeLine; decide, [.ref q, en.val], .cons rfl (.cons rv .nil), ⟨_, hT2, rfl, _, rfl⟩⟩
    have I1 : Inv X pins σ (upd H s.heap.objs.size (.tup [.ref q, v])) { s with heap := h'' } :=
      I.turnedNew (t' := s.toks) (ch := [it]) (fun b ob hb e => (sb.2 b (by simpa using hb)).trans (hk b ob (by simpa using hb) e)) hf (Nat.le_refl _) new
    refine ⟨.ref s.heap.objs.size, _, I1, rfl, ⟨_, q, k, v, hkv, hq, rfl, I.hok.fresh (Nat.le_refl _), rfl⟩, ⟨es[i].key, es[i].val, ?_⟩, fun b hb => ?_⟩
    · rw [← hsz]; exact he'
    · have e : b = it := by simpa using hb
      rw [e, upd_ne (Nat.ne_of_lt hlt)]
      exact (hf it (by simp)).1
  done := by
    intro X hP hw hK hc i pins s σ H E I hf st hg
    subst hP hw hK
    obtain ⟨hd, hi⟩ := hg
    obtain ⟨f0, f1, f2, f3, f4, f5⟩ := hf it (by simp)
    obtain ⟨hs, raw, hsz, ent⟩ := frzT' I hd
    obtain ⟨ok, ov, he⟩ := st
    rw [← hsz] at he
    exact DT.endI (I.ok.hd hc) he raw (by omega) fun h' eb => ⟨rfl, I.turned (t' := s.toks) (fun b ob hb e => eb b ob hb e) f0 f1 f3 f4 f5⟩
  self := fun A i s Q E st h => let ⟨_, _, e⟩ := st; PySem.W.kcp_self e h
end
/-- a view of items that nobody else walks: its dict stands still from then on -/
def iItemsT (td : TE) : TI := fun σ H R => td σ H fun x H1 => ∃ p d kvs, x = .ref p ∧ H1 p = some (L2.DX.itemsO p d) ∧ H1 d = some (.dT kvs) ∧ ∀ od, R (ItiT d od kvs) (upd H1 d (.frz od (.dT kvs)))
theorem pi_itemsT {X : Cx} {e : Expr} {td : TE} {elts : List Expr} {kk : Nat} {tpos : Pos} (he : PE X e td) : PI X (.Tuple elts kk tpos) e (iItemsT td) := by
  refine ⟨fun pins s σ H R I h => ?_⟩
  refine thn (he.run pins s σ H _ I h) fun u s1 ⟨x, H1, I1, rx, p, d, kvs, ex, hp, hd, q⟩ => ?_
  subst ex
  obtain rfl : u = Value.ref p := rx
  have hv : s1.heap.IsItemsView p d := (I1.hok p _ hp).1
  obtain ⟨od, I2⟩ := I1.lock hd (show Mut (some (.dT kvs)) from trivial)
  obtain ⟨hs, raw, hsz, ent⟩ := frzT' I2 upd_same
  refine DT.iterI hv raw (pi_one (tk := s1.toks) I2 _ (turn_itemsT (o := od) (kvs := kvs) _) ⟨.none, .none, ?_⟩ (q od))
  rw [← hsz]
  exact Heap.get?_push_size _ rfl
/-! ### keys as data -/
def keyD : Key → D
  | .inl i => .int i
  | .inr z => .str z
def keysD (ks : List Key) : D := .tup (ks.map keyD)
theorem keys_rp {K : PySem.W.Frag} {S : Addr → Prop} {H : Hp} : ∀ ks : List Key, RpA K S H (ks.map kV) (ks.map keyD)
  | [] => .nil
  | .inl i :: ks => .cons (.int i) (keys_rp ks)
  | .inr z :: ks => .cons (.str z) (keys_rp ks)
theorem RpT.getV {K : PySem.W.Frag} {S : Addr → Prop} {H : Hp} : ∀ {vs : List (List Key × V)} {ds : List (List Key × D)} {i : Nat} {k : List Key} {v : V}, RpT K S H vs ds → vs[i]? = some (k, v) → ∃ d, ds[i]? = some (k, d) ∧ Rp K S H v d
  | _, _, _, _, _, .nil, e => by simp at e
  | _, _, 0, _, _, .cons r _, e => by simp at e; obtain ⟨rfl, rfl⟩ := e; exact ⟨_, rfl, r⟩
  | _, _, i + 1, k, v, .cons _ t, e => by
    obtain ⟨u, h1, h2⟩ := RpT.getV (i := i) (k := k) (v := v) t (by simpa using e)
    exact ⟨u, by simpa using h1, h2⟩
theorem lfT_get : ∀ {ds : List (List Key × D)} {i : Nat} {k : List Key} {d : D}, lfT ds = true → ds[i]? = some (k, d) → lf d = true
  | [], _, _, _, _, e => by simp at e
  | x :: xs, 0, k, d, h, e => by simp at e; subst e; simp [lfT] at h; exact h.1
  | x :: xs, i + 1, k, d, h, e => by simp [lfT] at h; exact lfT_get h.2 (by simpa using e)
def eItemsT (f : Rho → M D) : Rho → M (List D) := fun ρ => M.bind (f ρ) fun d => match d with
  | .dct kvs => if lfT kvs = true then .ok (kvs.map fun kv => .tup [keysD kv.1, kv.2]) else .er
  | _ => .er
section
variable {X : Cx} {W : WX} {S0 : Addr → Prop} {H0 : Hp} {apos cpos tpos : Pos} {e : Expr} {fe : Rho → M D} {elts : List Expr} {kk : Nat}
theorem vi_itemsT (h : VX X W S0 H0 .N e fe) (hbase : attributeBase e "items" X.env (eval e X.env) = eval e X.env := by rfl) (hline : (apos.endLine == cpos.line) = true := by rfl)
    (hf : ∀ x, foldedSetIterable (.Call (.Attribute e "items" apos) [] [] cpos) X.env x = pure x := by intro _; rfl) : VI X W S0 H0 (.Tuple elts kk tpos) (.Call (.Attribute e "items" apos) [] [] cpos) (eItemsT fe) := by
  obtain ⟨te, p, q⟩ := h.p
  refine ⟨⟨_, pi_itemsT (pe_bm0 PySem.F.plainAttrs_dict PySem.F.slot_dict_items PySem.F.type_dict_items L2.DX.mt_itemsT p hbase hline), fun ρ σ own H R RR k => q ρ σ own H _ RR ?_⟩, hf⟩
  unfold eItemsT at k
  revert k
  cases fe ρ with
  | er => exact id
  | ex c => exact id
  | ok d =>
    intro k v H1 s1 r
    rw [bind_ok] at k
    split at k
    · next kvs =>
      split at k
      · next hl =>
        cases r with
        | @dct a vs _ sa ha rt =>
          refine ⟨.inr (.inr (.inl ⟨rfl, .inr ⟨_, ha⟩⟩)), a, vs, rfl, rfl, ha, fun p hp => ⟨p, a, vs, rfl, upd_same, ?_, fun od => ?_⟩⟩
          · rw [upd_ne (ne_of_none ha hp)]; exact ha
          have hpa : a ≠ p := ne_of_none ha hp
          have sameL : Same H (upd (upd H1 p (L2.DX.itemsO p a)) a (.frz od (.dT vs))) := fun b o e => by
            have h1 := s1 b o e
            have hba : b ≠ a := fun z => by rw [z, sa.1] at e; cases e
            have hbp : b ≠ p := ne_of_none h1 hp
            rw [upd_ne hba, upd_ne hbp]
            exact h1
          refine k _ _ sameL fun own' H' F sm o0 i => ?_
          have hna : a ∉ own := fun z => by
            have := (RR.own0 a z).2
            rw [sa.1] at this
            exact this
          have hH' : H' a = some (.frz od (.dT vs)) := F.k a _ upd_same hna
          have hlen := rt.length
          refine ⟨fun hi => ⟨hH', by rw [List.length_map] at hi; omega⟩, fun hi => ⟨hH', by rw [List.length_map] at hi; omega⟩, ?_⟩
          rintro x H2 hi ⟨T, q', k', v', e1, e2, rfl, e4, rfl⟩
          refine ⟨same_upd e4, ?_⟩
          obtain ⟨d', hd', rd'⟩ := rt.getV e1
          refine ⟨.tup [keysD k', d'], by rw [List.getElem?_map, hd']; rfl, ?_⟩
          have hlf := lfT_get hl hd'
          refine .tup upd_same (.cons (.tup (by rw [upd_ne (ne_of_none e2 e4)]; exact e2) (keys_rp k')) (.cons ?_ .nil))
          -- a leaf stands whatever becomes of the dict
          have r1 : Rp X.K (fun _ => False) H1 v' d' := rd'.lf hlf
          have kp : Keep (fun _ : Addr => False) (SA S0 H0 own') H1 (upd H' T (.tup [.ref q', v'])) := by
            have step : ∀ b o, H1 b = some o → b ≠ a → b ∉ own → upd H' T (.tup [.ref q', v']) b = some o := fun b o e hba hbo => by
              have hbp : b ≠ p := ne_of_none e hp
              have h1 : H' b = some o := F.k b o (by rw [upd_ne hba, upd_ne hbp]; exact e) hbo
              rw [upd_ne (ne_of_none h1 e4)]
              exact h1
            have nown : ∀ b o, H1 b = some o → ¬ Mt (some o) → b ∉ own := fun b o e hm hbo => by
              obtain ⟨u, eu⟩ := mt_some (RR.own0 b hbo).2
              have m := (RR.own0 b hbo).2
              have e2 := s1 b u eu
              rw [e] at e2
              cases e2
              rw [eu] at m
              exact hm m
            exact ⟨fun b o s _ => s.elim, fun b xs e => step b _ e (fun z => by rw [z, ha] at e; cases e) (nown b _ e id), fun b o u e => step b _ e (fun z => by rw [z, ha] at e; cases e) (nown b _ e id)⟩
          exact r1.keep kp
      · exact k.elim
    · exact k.elim
end
end VL
set_option Elab.async false
set_option linter.all false
set_option maxRecDepth 100000
/-! VL: a call with one keyword, behind the positional values. -/
namespace VL
open PySem L2 PySem.Spec PyProof.Rows
section
variable {P : Program} {w : World} {K : PySem.W.Frag} {mg : Str → Option Value} {base : Heap}
theorem kbn_one {x qual : Str} {params : Arguments} {body : List Stmt} {scope : Scope} {dvs : List V} {f : Addr} {fd : FuncData} {ps ks : List Str} (F : FunD K x qual params body scope dvs [] f fd) (n : Nat) (hd : dvs ≠ [])
    (h : ∀ (T : Addr) (kV doc pm : Value) (an : Option Addr) (cdv ct : Value) (us its ws : List Value), us.length = n → its.length = dvs.length → ws.length = ks.length →
      ∃ k, bindArgs (PySem.W.fnOf x qual params body scope (.ref T) kV doc pm an cdv ct) ⟨us, ks.zip ws⟩ = seqItems? (.ref T) >>= k ∧ k (some its.toArray) = pure (ps.zip (us ++ ws))) : KBn K fd ps n ks (fun us ws => us ++ ws) (fun vs zs => vs ++ zs) := by
  obtain ⟨oc, od, dV, kV, doc, pm, an, cdv, ct, osl, rfl, lk, hcd, hD, hK⟩ := F.ex
  rcases hD with ⟨e, _⟩ | ⟨_, T, o, its, m, rfl, lT, oT, rT⟩
  · exact absurd e hd
  · refine ⟨fun s us ws X l1 l2 => ?_, fun r1 r2 => r1.append r2⟩
    obtain ⟨k, e1, e2⟩ := h T kV doc pm an cdv ct us its ws l1 rT.length.symm l2
    refine BindsTo.of_looks fun M => ?_
    rw [e1]
    exact looks_items X lT oT (.of_pure e2)
/-- a def that may be called with keywords ks behind n values -/
structure CalK (P : Program) (w : World) (K : PySem.W.Frag) (mg : Str → Option Value) (base : Heap) (k : Nat) (x : Str) (n : Nat) (y : Str) (g : List D → M D) : Prop where
  p : ∃ (f : Addr) (fd : FuncData) (ps : List Str), FnOk P w K mg base (L2.CX P w) k f fd ps (spN mg K g) ∧ mg x = some (.ref f) ∧ PySem.W.keepIn K (.ref f) = true ∧ KBn K fd ps n [y] (fun us ws => us ++ ws) (fun vs zs => vs ++ zs)
end
section
variable {X : Cx} {W : WX} {S0 : Addr → Prop} {H0 : Hp} {pos p kpos : Pos} {e e2 : Expr} {es : List Expr} {fa : Rho → M (List D)} {fb : Rho → M D} {x y : Str} {j k n : Nat} {g : List D → M D}
def eCallK (g : List D → M D) (n : Nat) (fa : Rho → M (List D)) (fb : Rho → M D) : Rho → M D := fun ρ => M.bind (fa ρ) fun ds => M.bind (fb ρ) fun d => if ds.length = n then noEx (g (ds ++ [d])) else .er
theorem vx_callK (c : CalK X.prog X.w X.K X.mg X.base k x n y g) (hr : Room j X.A) (hk : k ≤ j) (ha : VA X W S0 H0 .O (e :: es) fa) (h2 : VX X W S0 H0 .O e2 fb) (hg : Gl X x := by rfl) (hdb : (x == ("__debug__" : Str)) = false := by decide)
    (hall : (backToKw pos (keywordEach [⟨some y, e2, kpos⟩] X.env)).all (·.1.isSome) = true := by rfl) (hks : (backToKw pos (keywordEach [⟨some y, e2, kpos⟩] X.env)).filterMap (·.1) = [y] := by rfl)
    (he : starEach (e :: es) X.env = (false, eval e X.env) :: starEach es X.env := by rfl)
    (hpl : ((backTo pos (starEach (e :: es) X.env)).any (·.1) || (backToKw pos (keywordEach [⟨some y, e2, kpos⟩] X.env)).any (·.1.isNone)) = false := by rfl) : VX X W S0 H0 .N (.Call (.Name x p) (e :: es) [⟨some y, e2, kpos⟩] pos) (eCallK g n fa fb) := by
  obtain ⟨f, fd, ps, F, h1, h3, h4⟩ := c.p
  obtain ⟨ta, pa, qa⟩ := ha.p
  obtain ⟨tb, pb, qb⟩ := h2.p
  refine ⟨_, pe_callN F (hr.mono hk) hg h1 h3 h4 passL pa (pk_cons pb pk_nil) hall hks hdb he hpl, fun ρ σ own H Q R k => qa ρ σ own H _ R ?_⟩
  unfold eCallK at k
  revert k
  cases fa ρ with
  | er => exact id
  | ex c => exact id
  | ok ds =>
    intro k vs H1 s1 r1
    rw [bind_ok] at k
    refine qb ρ σ own H1 _ (R.grow s1) ?_
    revert k
    cases fb ρ with
    | er => exact id
    | ex c => exact fun k => fun cv d H' i s => k cv d H' i (s1.trans s)
    | ok d =>
      intro k v H2 s2 r2
      rw [bind_ok] at k
      split at k
      · next hl =>
        have r1' : RpA X.K (fun _ => True) H1 vs ds := RpA.ofO r1
        have r2' : RpA X.K (fun _ => True) H2 [v] [d] := RpA.ofO (.cons r2 .nil)
        refine ⟨by rw [r1'.length, hl], rfl, ds ++ [d], (r1'.keep (.same s2)).append r2', ?_⟩
        revert k
        cases g (ds ++ [d]) with
        | er => exact id
        | ex c => exact fun k => k.elim
        | ok d' => exact fun k v H' s r => k v H' (s1.trans (s2.trans s)) (r.keep (.wide fun a ha => ⟨(s1.trans s2).free ha, sf_new (R.grow (s1.trans s2)) ha⟩))
      · exact k.elim
end
end VL
set_option Elab.async false
set_option linter.all false
set_option maxRecDepth 100000
/-! VL: comprehensions over a dict of one's own (its keys, its values): it is locked meanwhile, and its slot forgotten. -/
namespace VL
open PySem L2 PySem.Spec PyProof.Rows
section
variable {K : PySem.W.Frag} {S0 : Addr → Prop} {H0 H : Hp} {ρ : Rho} {σ : Sg} {own : List Addr}
def lessA (own : List Addr) (a : Addr) : List Addr := own.filter fun b => decide (b ≠ a)
theorem mem_lessA {a b : Addr} : b ∈ lessA own a ↔ b ∈ own ∧ b ≠ a := by unfold lessA; rw [List.mem_filter, decide_eq_true_eq]
theorem Rel.lock {i : Nat} {d : D} {a : Addr} {kvs : List (List Key × V)} (R : Rel K S0 H0 ρ σ own H) (hi : ρ[i]? = some (.ow d)) (hs : σ[i]? = some (some (.ref a))) (ha : a ∈ own) (hm : H a = some (.dT kvs)) (od : Obj) :
    Rel K S0 H0 (ρ.set i .no) σ (lessA own a) (upd H a (.frz od (.dT kvs))) := by
  have out : ∀ b, b ∉ own → b ≠ a := fun b h e => h (e ▸ ha)
  have kA : Keep (SA S0 H0 own) (SA S0 H0 (lessA own a)) H (upd H a (.frz od (.dT kvs))) :=
    ⟨fun b o s e => ⟨⟨fun h => s.1 (mem_lessA.mp h).1, s.2⟩, by rw [upd_ne (out b s.1)]; exact e⟩, fun b xs e => by rw [upd_ne (fun z => by rw [z, hm] at e; cases e)]; exact e, fun b o u e => by rw [upd_ne (fun z => by rw [z, hm] at e; cases e)]; exact e⟩
  have kF : Keep (SF H0 own) (SF H0 (lessA own a)) H (upd H a (.frz od (.dT kvs))) :=
    ⟨fun b o s e => ⟨⟨fun h => s.1 (mem_lessA.mp h).1, s.2⟩, by rw [upd_ne (out b s.1)]; exact e⟩, fun b xs e => by rw [upd_ne (fun z => by rw [z, hm] at e; cases e)]; exact e, fun b o u e => by rw [upd_ne (fun z => by rw [z, hm] at e; cases e)]; exact e⟩
  have get : ∀ (j : Nat) (s : Sl), (ρ.set i .no)[j]? = some s → s = .no ∨ (j ≠ i ∧ ρ[j]? = some s) := fun j s e => by
    rcases get_set e with ⟨_, z, _⟩ | ⟨hj, z⟩
    · exact .inl z
    · exact .inr ⟨hj, z⟩
  exact {
    sh := fun j d e => by
      rcases get j _ e with z | ⟨_, z⟩
      · cases z
      · obtain ⟨v, h1, h2⟩ := R.sh j d z
        exact ⟨v, h1, h2.keep kA⟩
    fr := fun j d e => by
      rcases get j _ e with z | ⟨_, z⟩
      · cases z
      · obtain ⟨v, h1, h2⟩ := R.fr j d z
        exact ⟨v, h1, h2.keep kF⟩
    ow := fun j d e => by
      rcases get j _ e with z | ⟨hj, z⟩
      · cases z
      · obtain ⟨b, h1, h2, h3⟩ := R.ow j d z
        have hb : b ≠ a := fun e => hj (R.dis j i _ _ z hi (by rw [h1, hs, e]))
        exact ⟨b, h1, mem_lessA.mpr ⟨h2, hb⟩, h3.keep kF fun o q => by rw [upd_ne hb]; exact q⟩
    dis := fun j k d e a' b' q => by
      rcases get j _ a' with z | ⟨_, z⟩
      · cases z
      · rcases get k _ b' with y | ⟨_, y⟩
        · cases y
        · exact R.dis j k d e z y q
    own0 := fun b hb => by
      obtain ⟨h1, h2⟩ := mem_lessA.mp hb
      refine ⟨(R.own0 b h1).1, ?_⟩
      rw [upd_ne h2]
      exact (R.own0 b h1).2
    same := fun b o e => by
      have hb : b ≠ a := fun z => by rw [z, (R.own0 a ha).1] at e; cases e
      rw [upd_ne hb]
      exact R.same b o e
    len := by rw [List.length_set]; exact R.len }
end
theorem bools_rp {K : PySem.W.Frag} {S : Addr → Prop} {H : Hp} : ∀ {ds : List D} {bs : List Bool}, bools ds = some bs → RpA K S H (bs.map V.bl) ds
  | [], bs, h => by
    have : bs = [] := by simpa [bools] using h.symm
    subst this
    exact .nil
  | d :: ds, bs, h => by
    cases d with
    | bl b =>
      simp only [bools] at h
      cases e : bools ds with
      | none => rw [e] at h; simp at h
      | some cs =>
        rw [e] at h
        have : bs = b :: cs := by simpa using h.symm
        subst this
        exact .cons (.bl b) (bools_rp e)
    | _ => simp [bools] at h
section
variable {X : Cx} {W : WX} {S0 : Addr → Prop} {H0 : Hp} {m : Md} {pos : Pos} {elt tg iter : Expr} {ifs : List Expr} {scope : Scope} {own : List (Str × Nat)} {fi : Rho → M (List D)} {ft : D → Rho → Option Rho} {fc : Rho → M Bool} {fe : Rho → M D} {k1 : List Nat}
theorem lc_run1 {te : TE} {tt : TT} {g : TG} {wi : TI} {ks : List Nat} (hm : m ≠ .O) (hk : ∀ k ∈ k1, k ∈ ks)
    (qg : ∀ v d ρ ρ' σ own H Q, Rel X.K S0 H0 ρ σ own H → Rp X.K (SA S0 H0 own) H v d → ft d ρ = some ρ' → (∀ σ', Rel X.K S0 H0 ρ' σ' own H → OnlyS k1 σ σ' → Q σ' H) → g v σ H Q)
    (qt : ∀ ρ σ own H Q, Rel X.K S0 H0 ρ σ own H → PXT X W0 H σ Q (fc ρ) → tt σ H Q)
    (qe : ∀ ρ σ own H Q, Rel X.K S0 H0 ρ σ own H → PX X W0 S0 H0 own m H σ Q (fe ρ) → te σ H Q) :
    ∀ ρ σ ow H Q, Rel X.K S0 H0 ρ σ ow H → (∀ R, PXI X W S0 H0 ow H σ R (fi ρ) → wi σ H R) → PX X W S0 H0 ow m H σ Q (eComp ks fi ft fc fe ρ) → tLc wi g tt te ks σ H Q := by
  intro ρ σ ow H Q R qi k
  refine qi _ ?_
  unfold eComp at k
  revert k
  cases fi ρ with
  | er => exact id
  | ex c => exact id
  | ok ds =>
    intro k J H1 s1 wk L hL
    rw [bind_ok] at k
    split at k
    · next hlen =>
      cases ec : compL ft fc fe (wipeR ks ρ) ds with
      | er => rw [ec] at k; exact k.elim
      | ex c =>
        exact absurd ec (fun z => by
          have nx : ∀ (ds : List D) (c : Xc), compL ft fc fe (wipeR ks ρ) ds ≠ .ex c := by
            intro ds
            induction ds with
            | nil => intro c h; cases h
            | cons d ds ih =>
              intro c h
              unfold compL at h
              split at h
              · cases h
              · split at h
                · split at h
                  · cases e : compL ft fc fe (wipeR ks ρ) ds with
                    | ok zs => rw [e] at h; cases h
                    | ex c' => exact ih c' e
                    | er => rw [e] at h; cases h
                  · cases h
                · exact ih c h
                · cases h
          exact nx ds c z)
      | ok ys =>
        rw [ec, bind_ok] at k
        have R1 := R.grow s1
        have B1 : Rel X.K S0 H0 (wipeR ks ρ) (L2.wipe σ ks) ow H1 := R1.blk ks
        have nL : L ∉ ow := own_new R1 hL
        refine ⟨fun i m' H' => ∃ (vs : List V) (acc rest : List D), H' L = some (.lst vs) ∧ (∀ a o, H1 a = some o → H' a = some o) ∧ RpA X.K (SM S0 H0 H1 (L :: ow) m) H' vs acc ∧ compL ft fc fe (wipeR ks ρ) (ds.drop i) = .ok rest ∧ ys = acc ++ rest ∧ acc.length ≤ i ∧ m' = ds.length - i ∧ i ≤ ds.length,
          ⟨ds.length, [], [], ys, upd_same, same_upd hL, .nil, by simpa using ec, rfl, Nat.le_refl _, by simp, by simp⟩, ?_⟩
        rintro i m' H' ⟨vs, acc, rest, hv, hs, ra, er, ey, hacc, rfl, hi⟩
        have RL : Rel X.K S0 H0 (wipeR ks ρ) (L2.wipe σ ks) (L :: ow) H' := B1.plus hs hL (by rw [hv]; trivial)
        have FL : Fra ow H1 (L :: ow) H' := ⟨fun a o e _ => hs a o e, fun a ha => (List.mem_cons.mp ha).elim (fun z => .inr (by rw [z]; exact hL)) .inl⟩
        obtain ⟨w1, w2, w3⟩ := wk (L :: ow) H' FL RL.same RL.own0 i
        by_cases hlt : i < ds.length
        · refine .inr ⟨w1 hlt, fun H2 => ∃ (vs : List V) (acc rest : List D), H2 L = some (.lst vs) ∧ (∀ a o, H1 a = some o → H2 a = some o) ∧ RpA X.K (SM S0 H0 H1 (L :: ow) m) H2 vs acc ∧ compL ft fc fe (wipeR ks ρ) (ds.drop (i + 1)) = .ok rest ∧ ys = acc ++ rest ∧ acc.length ≤ i + 1,
            fun H2 ⟨vs, acc, rest, a1, a2, a3, a4, a5, a6⟩ => ⟨ds.length - (i + 1), by omega, vs, acc, rest, a1, a2, a3, a4, a5, a6, rfl, hlt⟩, fun x H2 hy => ?_⟩
          obtain ⟨s2, d, hd, rd⟩ := w3 x H2 hlt hy
          have ed : ds.drop i = d :: ds.drop (i + 1) := by
            rw [List.drop_eq_getElem_cons hlt]
            rw [List.getElem?_eq_getElem hlt] at hd
            rw [Option.some.inj hd]
          rw [ed] at er
          unfold compL at er
          cases et : ft d (wipeR ks ρ) with
          | none => rw [et] at er; cases er
          | some ρ1 =>
            rw [et] at er
            dsimp only at er
            refine qg x d _ ρ1 _ (L :: ow) H2 _ (RL.grow s2) rd et fun σ3 R3 o3 => ⟨wipe_only o3 hk, qt ρ1 σ3 (L :: ow) H2 _ R3 ?_⟩
            cases ecc : fc ρ1 with
            | er => rw [ecc] at er; cases er
            | ex c => rw [ecc] at er; cases er
            | ok b =>
              rw [ecc] at er
              intro H3 s3
              have s23 := s2.trans s3
              have ra3 : RpA X.K (SM S0 H0 H1 (L :: ow) m) H3 vs acc := ra.keep (.same s23)
              cases b with
              | false =>
                rw [if_neg Bool.false_ne_true]
                exact ⟨vs, acc, rest, s23 L _ hv, fun a o e => s23 a o (hs a o e), ra3, er, ey, by omega⟩
              | true =>
                rw [if_pos rfl]
                refine qe ρ1 σ3 (L :: ow) H3 _ (R3.grow s3) ?_
                cases eff : fe ρ1 with
                | er => rw [eff] at er; cases er
                | ex c => rw [eff] at er; cases er
                | ok y =>
                  rw [eff] at er
                  intro vy H4 s4 r4
                  have s24 := s23.trans s4
                  have h4 := s24 L _ hv
                  cases ecl : compL ft fc fe (wipeR ks ρ) (ds.drop (i + 1)) with
                  | er => rw [ecl] at er; cases er
                  | ex c => rw [ecl] at er; cases er
                  | ok zs =>
                    rw [ecl] at er
                    have er' : M.ok (y :: zs) = M.ok rest := er
                    have er2 : y :: zs = rest := M.ok.inj er'
                    have hv' : vs.length = acc.length := ra.length
                    have hsz : acc.length < ds.length := by omega
                    refine ⟨vs, h4, by omega, vs ++ [vy], acc ++ [y], zs, upd_same, fun a o e => ?_, ?_, (by first | exact ecl | rfl), by rw [ey, ← er2]; simp, by simp; omega⟩
                    · have na : a ≠ L := fun z => by rw [z, hL] at e; cases e
                      rw [upd_ne na]
                      exact s24 a o (hs a o e)
                    · have kp : Keep (SM S0 H0 H1 (L :: ow) m) (SM S0 H0 H1 (L :: ow) m) H4 (upd H4 L (.lst (vs ++ [vy]))) :=
                        ⟨fun a o s e => ⟨s, by rw [upd_ne (SM.ne hm s)]; exact e⟩, fun a u e => by rw [upd_ne (fun z => by rw [z, h4] at e; cases e)]; exact e, fun a o u e => by rw [upd_ne (fun z => by rw [z, h4] at e; cases e)]; exact e⟩
                      have r5 : Rp X.K (SM S0 H0 H1 (L :: ow) m) H4 vy y := Rp.keep (.wide fun a s => by
                        cases m with
                        | O => exact absurd rfl hm
                        | E => exact s
                        | F => exact s
                        | N => exact ⟨Same.free (fun a o e => s23 a o (hs a o e)) s.1, s.2⟩) ((RM.sm hm).mp r4)
                      exact ((ra3.keep (.same s4)).append (.cons r5 .nil)).keep kp
        · refine .inl ⟨w2 (by omega), ?_⟩
          rw [List.drop_of_length_le (by omega)] at er
          have er2 : ([] : List D) = rest := M.ok.inj er
          have ey' : ys = acc := by rw [ey, ← er2, List.append_nil]
          refine k (.ref L) H' (s1.trans hs) ?_
          rw [ey']
          refine (RM.sm hm).mpr ?_
          refine .lst ?_ hv (ra.keep (.wide fun a s => SM.less hm s s1))
          have h0 := R1.same.free hL
          cases m with
          | O => exact absurd rfl hm
          | E => exact ⟨nL, .inr h0⟩
          | F => exact ⟨nL, h0⟩
          | N => exact ⟨s1.free hL, nL, h0⟩
    · exact k.elim

theorem compL_nex {ρ : Rho} : ∀ (ds : List D) (c : Xc), compL ft fc fe ρ ds ≠ .ex c := by
  intro ds
  induction ds with
  | nil => intro c h; cases h
  | cons d ds ih =>
    intro c h
    unfold compL at h
    split at h
    · cases h
    · split at h
      · split at h
        · cases e : compL ft fc fe ρ ds with
          | ok zs => rw [e] at h; cases h
          | ex c' => exact ih c' e
          | er => rw [e] at h; cases h
        · cases h
      · exact ih c h
      · cases h
/-- what is gathered are truth values -/
def boolsOk : M D → M D
  | .ok (.lst ys) => if (bools ys).isSome = true then .ok (.lst ys) else .er
  | _ => .er
/-- a comprehension over the keys of the dict of one's own in slot a -/
def eCompK (a : Nat) (ks : List Nat) (ft : D → Rho → Option Rho) (fc : Rho → M Bool) (fe : Rho → M D) : Rho → M D := fun ρ => match ρ[a]? with
  | some (.ow (.dct kvs)) => boolsOk (eComp ks (fun _ => .ok (kvs.map fun kv => keysD kv.1)) ft fc fe (ρ.set a .no))
  | _ => .er
theorem RpT.getK {K : PySem.W.Frag} {S : Addr → Prop} {H : Hp} {vs : List (List Key × V)} {ds : List (List Key × D)} {i : Nat} {k : List Key} {v : V} (r : RpT K S H vs ds) (e : vs[i]? = some (k, v)) : ∃ d, ds[i]? = some (k, d) := let ⟨d, h, _⟩ := r.getV e; ⟨d, h⟩
/-- under lock: the walk wi over the dict at A gives ds, whatever becomes of the rest -/
theorem lock_run {te : TE} {tt : TT} {g : TG} {wi : TI} {ks : List Nat} {a : Nat} {f : List (List Key × D) → List D} (hk : ∀ k ∈ k1, k ∈ ks)
    (qg : ∀ v d ρ ρ' σ own H Q, Rel X.K S0 H0 ρ σ own H → Rp X.K (SA S0 H0 own) H v d → ft d ρ = some ρ' → (∀ σ', Rel X.K S0 H0 ρ' σ' own H → OnlyS k1 σ σ' → Q σ' H) → g v σ H Q)
    (qt : ∀ ρ σ own H Q, Rel X.K S0 H0 ρ σ own H → PXT X W0 H σ Q (fc ρ) → tt σ H Q)
    (qe : ∀ ρ σ own H Q, Rel X.K S0 H0 ρ σ own H → PX X W0 S0 H0 own .N H σ Q (fe ρ) → te σ H Q) {ρ : Rho} {σ : Sg} {ow : List Addr} {H : Hp} {Q : VK} {kvs : List (List Key × D)}
    (R : Rel X.K S0 H0 ρ σ ow H) (e : ρ[a]? = some (.ow (.dct kvs)))
    (hw : ∀ (A : Addr) (kvsV : List (List Key × V)) (od : Obj) (own' : List Addr) (H1 : Hp) (R' : It → Hp → Prop), σ[a]? = some (some (.ref A)) → A ∉ own' → H1 A = some (.frz od (.dT kvsV)) → RpT X.K (SF H0 own') H1 kvsV kvs → (∀ b, b ∈ own' → Mt (H1 b)) → PXI X W S0 H0 own' H1 σ R' (.ok (f kvs)) → wi σ H1 R')
    (k : PX X W S0 H0 ow .N H σ Q (boolsOk (eComp ks (fun _ => .ok (f kvs)) ft fc fe (ρ.set a .no)))) : tLockE (tLc wi g tt te ks) σ H Q := by
  obtain ⟨A, hA, mA, kvsV, hHA, rt⟩ := R.ow a _ e
  refine ⟨A, .dT kvsV, hHA, trivial, fun od => ?_⟩
  have R1 := R.lock e hA mA hHA od
  have nA : A ∉ lessA ow A := fun h => (mem_lessA.mp h).2 rfl
  have kF : Keep (SF H0 ow) (SF H0 (lessA ow A)) H (upd H A (.frz od (.dT kvsV))) :=
    ⟨fun b o s e => ⟨⟨fun h => s.1 (mem_lessA.mp h).1, s.2⟩, by rw [upd_ne (fun z => s.1 (by rw [z]; exact mA))]; exact e⟩, fun b xs e => by rw [upd_ne (fun z => by rw [z, hHA] at e; cases e)]; exact e, fun b o u e => by rw [upd_ne (fun z => by rw [z, hHA] at e; cases e)]; exact e⟩
  refine lc_run1 (X := X) (W := W) (m := .N) (fi := fun _ => .ok (f kvs)) (by intro h; cases h) hk qg qt qe (ρ.set a .no) σ (lessA ow A) _ _ R1 (fun R' kk => hw A kvsV od _ _ R' hA nA upd_same (rt.keep kF) (fun b hb => (R1.own0 b hb).2) kk) ?_
  revert k
  cases hc : eComp ks (fun _ => .ok (f kvs)) ft fc fe (ρ.set a .no) with
  | er => exact id
  | ex c =>
    exfalso
    unfold eComp at hc
    rw [bind_ok] at hc
    split at hc
    · cases h2 : compL ft fc fe (wipeR ks (ρ.set a .no)) (f kvs) with
      | ok ys => rw [h2] at hc; cases hc
      | ex c => exact compL_nex _ _ h2
      | er => rw [h2] at hc; cases hc
    · cases hc
  | ok d =>
    intro k v H' s r
    have hH' : H' A = some (.frz od (.dT kvsV)) := s A _ upd_same
    refine ⟨hH', ?_⟩
    unfold boolsOk at k
    split at k
    · next d' ys hd =>
      cases hd
      split at k
      · next hb =>
        obtain ⟨bs, hbs⟩ := Option.isSome_iff_exists.mp hb
        refine k v _ (fun b o e => ?_) ?_
        · by_cases hb : b = A
          · subst hb
            rw [upd_same, ← e, hHA]
          · rw [upd_ne hb]
            exact s b o (by rw [upd_ne hb]; exact e)
        · cases r with
          | @lst L xs _ sL hL rL =>
            have hLA : L ≠ A := fun z => by rw [z, hH'] at hL; cases hL
            have h1 : (upd H A (.frz od (.dT kvsV))) L = none := sL.1
            rw [upd_ne hLA] at h1
            have hx := rL.bools hbs
            subst hx
            refine .lst ⟨h1, fun z => sL.2.1 (mem_lessA.mpr ⟨z, hLA⟩), sL.2.2⟩ (by rw [upd_ne hLA]; exact hL) (bools_rp hbs)
      · exact k.elim
    · exact k.elim
theorem vx_lcK {a : Nat} {x : Str} {px : Pos} (hc : X.calm = true) (hN : X.N.Nodup) (ok : BlkOk X.N X.env.scope scope own) (hg : ∀ i : Bi, VG (blkOf X scope i) S0 H0 k1 tg ft) (ht : ∀ i : Bi, VTs (blkOf X scope i) W0 S0 H0 ifs fc)
    (he : ∀ i : Bi, VX (blkOf X scope i) W0 S0 H0 .N elt fe) (hk : ∀ k ∈ k1, k ∈ own.map (·.2) := by decide) (hi : X.N[a]? = some x := by rfl) (hv : Vis X.env.scope x := by first | exact Or.inl rfl | exact Or.inr (Or.inl rfl) | exact Or.inr (Or.inr rfl)) (hd : (x == ("__debug__" : Str)) = false := by decide)
    (hcd : (x == ("__classdict__" : Str)) = false := by decide) (hs : ∀ v, foldedSetIterable (.Name x px) X.env v = pure v := by intro _; rfl) : VX X W S0 H0 .N (.ListComp elt [⟨tg, .Name x px, ifs, 0⟩] scope pos) (eCompK a (own.map (·.2)) ft fc fe) := by
  obtain ⟨g, pg, qg⟩ := vg_all hg
  obtain ⟨tt, pt, qt⟩ := vts_all ht
  obtain ⟨te, pe, qe⟩ := vx_all he
  refine ⟨_, pe_lock (pe_lc hc hN (pi_keys (pe_var hi hv hd hcd)) ok (fun s H C cl fp => pg (s, H, C, cl, fp)) (fun s H C cl fp => pt (s, H, C, cl, fp)) (fun s H C cl fp => pe (s, H, C, cl, fp)) hs), fun ρ σ ow H Q R k => ?_⟩
  unfold eCompK at k
  split at k
  · next kvs e =>
    refine lock_run (f := fun kvs => kvs.map fun kv => keysD kv.1) hk qg qt qe R e (fun A kvsV od own' H1 R' hA nA hH rt ho kk => ?_) k
    refine ⟨.ref A, hA, A, od, rfl, .inr ⟨kvsV, hH, kk _ _ (fun _ _ h => h) fun own'' H'' F sm o0 i => ?_⟩⟩
    have hn : A ∉ own'' := fun z => by
      rcases F.n A z with h | h
      · exact nA h
      · rw [hH] at h; cases h
    have hH' : H'' A = some (.frz od (.dT kvsV)) := F.k A _ hH nA
    have hlen := rt.length
    refine ⟨fun hi => ⟨hH', by rw [List.length_map] at hi; omega⟩, fun hi => ⟨hH', by rw [List.length_map] at hi; omega⟩, ?_⟩
    rintro x H2 hi ⟨rfl, k', v', q', e1, rfl, e2⟩
    refine ⟨fun _ _ h => h, ?_⟩
    obtain ⟨d', hd'⟩ := rt.getK e1
    exact ⟨keysD k', by rw [List.getElem?_map, hd']; rfl, .tup e2 (keys_rp k')⟩
  · exact k.elim
end
end VL
set_option Elab.async false
set_option linter.all false
set_option maxRecDepth 100000
/-! VL: the values of a dict of one's own whose keys are tuples, in a comprehension. -/
namespace VL
open PySem L2 PySem.Spec PyProof.Rows
def oes (o : Obj) : Array DictEntry := match o.data with | .dict es _ => es | _ => #[]
def oep (o : Obj) : Nat := match o.data with | .dict _ ep => ep | _ => 0
def ItdT (d : Addr) (o : Obj) (kvs : List (List Key × V)) : It :=
  ⟨fun i H => H d = some (.frz o (.dT kvs)) ∧ i < kvs.length, fun i H x H' => H' = H ∧ ∃ k, kvs[i]? = some (k, x), fun i H => H d = some (.frz o (.dT kvs)) ∧ kvs.length ≤ i⟩
section
variable {P : Program} {w : World} {K : PySem.W.Frag} {tg : Expr} {d : Addr} {o : Obj} {X : Cx} {pins : List (Addr × Obj)} {σ : L2.St} {H : Hp} {s : Shared}
theorem frzU {kvs : List (List Key × V)} (I : Inv X pins σ H s) (h : H d = some (.frz o (.dT kvs))) :
    (d == sysModules) = false ∧ DT.Raw s.heap d (oes o) (oep o) ∧ (oes o).size = kvs.length ∧
      ∀ (i : Nat) (k : List Key) (v : V), kvs[i]? = some (k, v) → ∃ (en : DictEntry) (q : Addr), (oes o)[i]? = some en ∧ en.key = .ref q ∧ H q = some (.tup (k.map kV)) ∧ RelV v en.val := frzT' I h
theorem turn_valsT {kvs : List (List Key × V)} (it : Addr) :
    Turn P w K tg (ItdT d o kvs) [it] it (fun i h => h.IsValIter it d i kvs.length (oep o)) where
  mem := by simp
  obj := fun i h st b hb => by
    have e : b = it := by simpa using hb
    subst e
    obtain ⟨oi, e, c, dd⟩ := st
    exact ⟨oi, e, fun v z => by rw [dd] at z; cases z⟩
  keep := fun i h h' st k => st.at fun oi e => k it (by simp) oi e
  item := by
    intro X hP hw hK hc i pins s σ H E I hf st hg
    subst hP hw hK
    obtain ⟨hd, hi⟩ := hg
    obtain ⟨f0, f1, f2, f3, f4, f5⟩ := hf it (by simp)
    obtain ⟨hs, raw, hsz, ent⟩ := frzU I hd
    obtain ⟨⟨k, v⟩, hkv⟩ : ∃ p, kvs[i]? = some p := ⟨kvs[i], List.getElem?_eq_getElem hi⟩
    obtain ⟨en, q, hen, hkey, hq, rv⟩ := ent i k v hkv
    generalize (oes o) = es at *
    generalize (oep o) = ep at *
    rw [← hsz] at st
    have hies : i < es.size := by omega
    have hge : es[i] = en := by
      have := Array.getElem?_eq_getElem hies
      rw [hen] at this
      exact (Option.some.inj this).symm
    refine wpAny_pyNext_values_item_raw st raw hies fun h' st' sb => ?_
    have I1 : Inv X pins σ H { s with heap := h' } := I.turned (t' := s.toks) (fun b ob hb e => (sb.2 b hb).trans e) f0 f1 f3 f4 f5
    obtain ⟨oi, e, c, dd⟩ := id st'
    refine ⟨es[i].val, rfl, go_of (s := { s with heap := h' }) e c dd (by decide) ⟨v, H, I1, by rw [hge]; exact rv, ⟨rfl, k, hkv⟩, ?_, fun b hb => (hf b hb).1⟩⟩
    show h'.IsValIter it d (i + 1) kvs.length _
    rw [← hsz]
    exact st'
  done := by
    intro X hP hw hK hc i pins s σ H E I hf st hg
    subst hP hw hK
    obtain ⟨hd, hi⟩ := hg
    obtain ⟨f0, f1, f2, f3, f4, f5⟩ := hf it (by simp)
    obtain ⟨hs, raw, hsz, ent⟩ := frzU I hd
    rw [← hsz] at st
    exact wpAny_pyNext_values_end_raw (I.ok.hd hc) st raw (by omega) fun h' eb => ⟨rfl, I.turned (t' := s.toks) (fun b ob hb e => eb b ob hb e) f0 f1 f3 f4 f5⟩
  self := fun A i s Q E st h => wpAny_pyIter_valiter st h
end
def iValsT (td : TE) : TI := fun σ H R => td σ H fun x H1 => ∃ d o kvs, x = .ref d ∧ H1 d = some (.frz o (.dT kvs)) ∧ R (ItdT d o kvs) H1
theorem pi_valuesT {X : Cx} {tg e : Expr} {td : TE} {apos cpos : Pos} (he : PE X e td) (hbase : attributeBase e "values" X.env (eval e X.env) = eval e X.env := by rfl) (hline : (apos.endLine == cpos.line) = true := by rfl) : PI X tg (.Call (.Attribute e "values" apos) [] [] cpos) (iValsT td) := by
  refine ⟨fun pins s σ H R I h => ?_⟩
  refine wpAny_Call_method (T := "dict") (id := "dict.values") hbase rfl hline F.plainAttrs_dict F.slot_dict_values F.type_dict_values (thn (he.run pins s σ H _ I h) fun u s1 ⟨x, H1, I1, rx, d, o, kvs, ex, hd, q⟩ => ?_)
  subst ex
  obtain rfl : u = Value.ref d := rx
  obtain ⟨hs, raw, hsz, ent⟩ := frzU I1 hd
  have raw' : s1.heap.DictRaw d (oes o) (oep o) := raw
  obtain ⟨od, hod, hcd, hdd⟩ := id raw
  have ht : s1.TypeIs (.ref d) "dict" := ⟨od, hod, hcd.1⟩
  refine ⟨ht, fun a e => ⟨od, by cases e; exact hod, hcd.2.1⟩, ?_⟩
  have I2 : Inv X pins σ H1 { s1 with heap := s1.heap.push { cls := .type "dict_values", data := .fields #[.ref d] } } := I1.kept (t' := s1.toks) fun b ob q => Heap.get?_push_of_some _ q
  have fin : wpAny (model X.prog X.w) X.A (pyIter (.ref s1.heap.objs.size)) (PIE X pins σ tg R) X.xe { s1 with heap := s1.heap.push { cls := .type "dict_values", data := .fields #[.ref d] } } := by
    refine wpAny_pyIter_values_raw (d := d) ⟨_, Heap.get?_push_size _ rfl, rfl, rfl⟩ (raw'.at fun _ e => Heap.get?_push_of_some _ e) (pi_one (tk := s1.toks) I2 _ (turn_valsT (o := o) (kvs := kvs) _) ⟨_, Heap.get?_push_size _ rfl, rfl, ?_⟩ q)
    rw [hsz] <;> rfl
  show wpAny _ _ (callWith cpos (.builtin "dict.values") [.ref d] [] []) _ X.xe s1
  exact method_meetsIn F.slot_dict_values F.entry_dict_values rfl (PySem.evalArgs_none ⟨rfl, ht, F.args_dict_values_1 _, _, meets_dict_values_raw d hs, ⟨_, _, raw'⟩, fin⟩)
section
variable {X : Cx} {W : WX} {S0 : Addr → Prop} {H0 : Hp} {m : Md} {pos : Pos} {elt tg iter : Expr} {ifs : List Expr} {scope : Scope} {own : List (Str × Nat)} {ft : D → Rho → Option Rho} {fc : Rho → M Bool} {fe : Rho → M D} {k1 : List Nat}
/-- a comprehension over the values of the dict of one's own in slot a: leaves -/
def eCompV (a : Nat) (ks : List Nat) (ft : D → Rho → Option Rho) (fc : Rho → M Bool) (fe : Rho → M D) : Rho → M D := fun ρ => match ρ[a]? with
  | some (.ow (.dct kvs)) => if lfT kvs = true then boolsOk (eComp ks (fun _ => .ok (kvs.map (·.2))) ft fc fe (ρ.set a .no)) else .er
  | _ => .er
theorem vx_lcV {a : Nat} {x : Str} {px apos cpos : Pos} (hc : X.calm = true) (hN : X.N.Nodup) (ok : BlkOk X.N X.env.scope scope own) (hg : ∀ i : Bi, VG (blkOf X scope i) S0 H0 k1 tg ft) (ht : ∀ i : Bi, VTs (blkOf X scope i) VL.W0 S0 H0 ifs fc)
    (he : ∀ i : Bi, VX (blkOf X scope i) VL.W0 S0 H0 .N elt fe) (hk : ∀ k ∈ k1, k ∈ own.map (·.2) := by decide) (hi : X.N[a]? = some x := by rfl) (hv : Vis X.env.scope x := by first | exact Or.inl rfl | exact Or.inr (Or.inl rfl) | exact Or.inr (Or.inr rfl)) (hd : (x == ("__debug__" : Str)) = false := by decide)
    (hcd : (x == ("__classdict__" : Str)) = false := by decide) (hbase : attributeBase (.Name x px) "values" X.env (eval (.Name x px) X.env) = eval (.Name x px) X.env := by rfl) (hline : (apos.endLine == cpos.line) = true := by rfl)
    (hs : ∀ v, foldedSetIterable (.Call (.Attribute (.Name x px) "values" apos) [] [] cpos) X.env v = pure v := by intro _; rfl) : VX X W S0 H0 .N (.ListComp elt [⟨tg, .Call (.Attribute (.Name x px) "values" apos) [] [] cpos, ifs, 0⟩] scope pos) (eCompV a (own.map (·.2)) ft fc fe) := by
  obtain ⟨g, pg, qg⟩ := vg_all hg
  obtain ⟨tt, pt, qt⟩ := vts_all ht
  obtain ⟨te, pe, qe⟩ := vx_all he
  refine ⟨_, pe_lock (pe_lc hc hN (pi_valuesT (pe_var hi hv hd hcd) hbase hline) ok (fun s H C cl fp => pg (s, H, C, cl, fp)) (fun s H C cl fp => pt (s, H, C, cl, fp)) (fun s H C cl fp => pe (s, H, C, cl, fp)) hs), fun ρ σ ow H Q R k => ?_⟩
  unfold eCompV at k
  split at k
  · next kvs e =>
    split at k
    · next hlf =>
      refine lock_run (f := fun kvs => kvs.map (·.2)) hk qg qt qe R e (fun A kvsV od own' H1 R' hA nA hH rt ho kk => ?_) k
      refine ⟨.ref A, hA, A, od, kvsV, rfl, hH, kk _ _ (fun _ _ h => h) fun own'' H'' F sm o0 i => ?_⟩
      have hH' : H'' A = some (.frz od (.dT kvsV)) := F.k A _ hH nA
      have hlen := rt.length
      refine ⟨fun hi => ⟨hH', by rw [List.length_map] at hi; omega⟩, fun hi => ⟨hH', by rw [List.length_map] at hi; omega⟩, ?_⟩
      rintro x H2 hi ⟨rfl, k', e1⟩
      refine ⟨fun _ _ h => h, ?_⟩
      obtain ⟨d', hd', r'⟩ := rt.getV e1
      refine ⟨d', by rw [List.getElem?_map, hd']; rfl, ?_⟩
      have r2 : Rp X.K (fun _ => False) H1 x d' := r'.lf (lfT_get hlf hd')
      refine r2.keep ⟨fun _ _ s => s.elim, fun b xs e => F.k b _ e ?_, fun b o u e => F.k b _ e ?_⟩
      · intro hb
        have := ho b hb
        rw [e] at this
        exact this
      · intro hb
        have := ho b hb
        rw [e] at this
        exact this
    · exact k.elim
  · exact k.elim
end
end VL
set_option Elab.async false
set_option linter.all false
set_option maxRecDepth 100000
/-! VM: the plain law's tools: the combinators applied, loops as folds, the shared helpers of the laws. -/
namespace VL
open PySem L2 PySem.Spec PyProof.Rows
/-! ### the combinators applied -/
section
variable (ρ : Rho) (i j : Nat) (a b c : Rho → M D) (fb gb : Rho → M Bool) (fa : Rho → M (List D)) (f g : Rho → Res)
@[simp] theorem eV_ap : eV i ρ = match ρ[i]? with | some (.sh d) => .ok d | some (.fr d) => .ok d | some (.ow d) => .ok d | _ => .er := rfl
@[simp] theorem eVE_ap : eVE i ρ = match ρ[i]? with | some (.sh d) => .ok d | some (.fr d) => .ok d | _ => .er := rfl
@[simp] theorem eVF_ap : eVF i ρ = match ρ[i]? with | some (.fr d) => .ok d | _ => .er := rfl
@[simp] theorem eC_ap (d : D) : eC d ρ = .ok d := rfl
@[simp] theorem eOp_ap (h : D → D → M D) : eOp h a b ρ = M.bind (a ρ) fun x => M.bind (b ρ) fun y => h x y := rfl
@[simp] theorem eUn_ap (h : D → M D) : eUn h a ρ = M.bind (a ρ) h := rfl
@[simp] theorem eB_ap : eB a ρ = M.bind (a ρ) toB := rfl
@[simp] theorem eCh_ap (h h' : D → D → M D) : eCh h h' a b c ρ = M.bind (a ρ) fun x => M.bind (b ρ) fun y => M.bind (M.bind (h x y) toB) fun k => if k = true then M.bind (c ρ) fun z => h' y z else .ok (.bl false) := rfl
@[simp] theorem eTr_ap : eTr a ρ = M.bind (a ρ) truG := rfl
@[simp] theorem eNot_ap : eNot fb ρ = M.bind (fb ρ) fun b => .ok (!b) := rfl
@[simp] theorem eAnd_ap : eAnd fb gb ρ = M.bind (fb ρ) fun b => if b = true then gb ρ else .ok false := rfl
@[simp] theorem eOr_ap : eOr fb gb ρ = M.bind (fb ρ) fun b => if b = true then .ok true else gb ρ := rfl
@[simp] theorem eAndV_ap : eAndV a b ρ = M.bind (M.bind (a ρ) toB) fun k => if k = true then b ρ else .ok (.bl false) := rfl
@[simp] theorem eOrV_ap : eOrV a b ρ = M.bind (M.bind (a ρ) toB) fun k => if k = true then .ok (.bl true) else b ρ := rfl
@[simp] theorem eNotV_ap : eNotV a ρ = M.bind (M.bind (a ρ) toB) fun k => .ok (.bl (!k)) := rfl
@[simp] theorem eIf_ap : eIf fb a b ρ = M.bind (fb ρ) fun k => if k = true then a ρ else b ρ := rfl
@[simp] theorem aNil_ap : aNil ρ = .ok [] := rfl
@[simp] theorem aCons_ap : aCons a fa ρ = M.bind (a ρ) fun x => M.bind (fa ρ) fun xs => .ok (x :: xs) := rfl
@[simp] theorem eTup_ap : eTup fa ρ = M.bind (fa ρ) fun xs => if xs.length ≤ sizeLine then .ok (.tup xs) else .er := rfl
@[simp] theorem eLst_ap : eLst fa ρ = M.bind (fa ρ) fun xs => if xs.length ≤ sizeLine then .ok (.lst xs) else .er := rfl
@[simp] theorem eLf_ap : eLf a ρ = M.bind (a ρ) fun x => if lf x = true then .ok x else .er := rfl
@[simp] theorem eBlt_ap (h : List D → M D) : eBlt h fa ρ = M.bind (fa ρ) h := rfl
@[simp] theorem eCall_ap (h : List D → M D) : eCall h fa ρ = M.bind (fa ρ) h := rfl
@[simp] theorem eIsi_ap (n : Cn) : eIsi n a ρ = M.bind (a ρ) fun d => .ok (.bl (instD n d)) := rfl
@[simp] theorem eIsi2_ap (n n2 : Cn) : eIsi2 n n2 a ρ = M.bind (a ρ) fun d => .ok (.bl (instD n d || instD n2 d)) := rfl
@[simp] theorem eZip_ap : eZip fa ρ = M.bind (fa ρ) zipG := rfl
@[simp] theorem oNone_ap : oNone ρ = .ok none := rfl
@[simp] theorem oSome_ap : oSome a ρ = M.bind (a ρ) fun d => match d with | .int i => .ok (some i) | _ => .er := rfl
@[simp] theorem eSl_ap (l h : Rho → M (Option Int)) : eSl a l h ρ = M.bind (a ρ) fun x => M.bind (l ρ) fun p => M.bind (h ρ) fun q => slG x p q := rfl
@[simp] theorem eLL_ap : eLL a ρ = M.bind (a ρ) itemsG := rfl
@[simp] theorem eTT_ap : eTT a ρ = M.bind (a ρ) itemsG := rfl
@[simp] theorem items_lst (ds : List D) : itemsG (.lst ds) = .ok ds := rfl
@[simp] theorem items_tup (ds : List D) : itemsG (.tup ds) = .ok ds := rfl
@[simp] theorem items_fz (ds : List D) : itemsG (.fz ds) = .ok ds := rfl
@[simp] theorem items_kt (ds : List D) : itemsG (.kt ds) = .ok ds := rfl
@[simp] theorem eR1_ap : eR1 fa ρ = M.bind (fa ρ) fun d => match d with
  | [.int j] => if -(2 ^ 62) ≤ j ∧ j < 2 ^ 62 then .ok (rngD 0 j.toNat) else .er
  | _ => .er := rfl
@[simp] theorem eR2_ap : eR2 fa ρ = M.bind (fa ρ) fun d => match d with
  | [.int i, .int j] => if -(2 ^ 62) ≤ i ∧ i < 2 ^ 62 ∧ -(2 ^ 62) ≤ j ∧ j < 2 ^ 62 then .ok (rngD i (j - i).toNat) else .er
  | _ => .er := rfl
@[simp] theorem cYes_ap : cYes ρ = .ok true := rfl
@[simp] theorem eComp_ap (ks : List Nat) (fi : Rho → M (List D)) (tg : D → Rho → Option Rho) : eComp ks fi tg fb a ρ = M.bind (fi ρ) fun ds =>
  if ds.length ≤ sizeLine then M.bind (compL tg fb a (wipeR ks ρ) ds) fun ys => .ok (.lst ys) else .er := rfl
@[simp] theorem sNil_ap : sNil ρ = .nx ρ := rfl
@[simp] theorem sBrk_ap : sBrk ρ = .bk ρ := rfl
@[simp] theorem sCnt_ap : sCnt ρ = .ct ρ := rfl
@[simp] theorem sSeq_ap : sSeq f g ρ = thenR (f ρ) g := rfl
@[simp] theorem sIf_ap : sIf fb f g ρ = ofMB ρ (fun b => if b = true then f ρ else g ρ) (fb ρ) := rfl
@[simp] theorem sRet_ap : sRet a ρ = ofM ρ (fun d => .rt d) (a ρ) := rfl
@[simp] theorem sRetN_ap : sRetN ρ = .rt .non := rfl
@[simp] theorem sDrop_ap : sDrop a ρ = ofM ρ (fun _ => .nx ρ) (a ρ) := rfl
@[simp] theorem sSh_ap : sSh i a ρ = ofM ρ (fun d => .nx (ρ.set i (.sh d))) (a ρ) := rfl
@[simp] theorem sFr_ap : sFr i a ρ = ofM ρ (fun d => .nx (ρ.set i (.fr d))) (a ρ) := rfl
@[simp] theorem sOw_ap : sOw i a ρ = ofM ρ (fun d => if isMut d = true then .nx (ρ.set i (.ow d)) else .er) (a ρ) := rfl
@[simp] theorem sShare_ap : sShare i f ρ = f (shareR i ρ) := rfl
@[simp] theorem shareR_ap : shareR i ρ = match ρ[i]? with | some (.ow d) => ρ.set i (.fr d) | _ => ρ := rfl
@[simp] theorem wipeR_nil : wipeR [] ρ = ρ := rfl
@[simp] theorem wipeR_cons (ks : List Nat) : wipeR (i :: ks) ρ = (wipeR ks ρ).set i .no := rfl
@[simp] theorem wipeS_nx (ks : List Nat) : wipeS ks (.nx ρ) = .nx (wipeR ks ρ) := rfl
@[simp] theorem wipeS_bk (ks : List Nat) : wipeS ks (.bk ρ) = .bk (wipeR ks ρ) := rfl
@[simp] theorem wipeS_ct (ks : List Nat) : wipeS ks (.ct ρ) = .ct (wipeR ks ρ) := rfl
@[simp] theorem wipeS_rt (ks : List Nat) (d : D) : wipeS ks (.rt d) = .rt d := rfl
@[simp] theorem wipeS_ex (ks : List Nat) (d : Xc) : wipeS ks (.ex d ρ) = .ex d ρ := rfl
@[simp] theorem sWipe_ap (ks : List Nat) : sWipe ks f ρ = wipeS ks (f ρ) := rfl
@[simp] theorem sFor_ap (fi : Rho → M (List D)) (tg : D → Rho → Option Rho) : sFor fi tg f ρ = match fi ρ with | .ok ds => forR tg f ds ρ | .ex c => .ex c ρ | .er => .er := rfl
@[simp] theorem sWhile_ap (n : Nat) : sWhile n fb f ρ = whileN fb f n ρ := rfl
@[simp] theorem tgN_ap (d : D) : tgN i d ρ = some (ρ.set i (.sh d)) := rfl
@[simp] theorem tgF_ap (d : D) : tgF i d ρ = some (ρ.set i (.fr d)) := rfl
@[simp] theorem tgNil_ap (ds : List D) : tgNil ds ρ = match ds with | [] => some ρ | _ => none := rfl
@[simp] theorem tgCons_ap (t : D → Rho → Option Rho) (u : List D → Rho → Option Rho) (ds : List D) : tgCons t u ds ρ = match ds with
  | d :: r => (match t d ρ with | some ρ' => u r ρ' | none => none)
  | [] => none := rfl
@[simp] theorem tgT_ap (n : Nat) (u : List D → Rho → Option Rho) (d : D) : tgT n u d ρ = match d with
  | .tup ds => if ds.length = n then u ds ρ else none
  | .kt ds => if ds.length = n then u ds ρ else none
  | _ => none := rfl
@[simp] theorem sUnp_ap (t : D → Rho → Option Rho) : sUnp a t ρ = ofM ρ (fun d => match t d ρ with | some ρ' => .nx ρ' | none => .er) (a ρ) := rfl
@[simp] theorem sBm_ap (eff : List D → List D → M (List D)) : sBm i eff fa ρ = match ρ[i]? with
  | some (.ow (.lst ds)) => (match fa ρ with
    | .ok as => (match eff ds as with | .ok ds' => .nx (ρ.set i (.ow (.lst ds'))) | _ => .er)
    | .ex c => .ex c ρ
    | .er => .er)
  | _ => .er := rfl
@[simp] theorem sPut_ap : sPut i a b ρ = match ρ[i]? with
  | some (.ow (.dct kvs)) => ofM ρ (fun v => ofM ρ (fun k => match k with
    | .tup ks => (match keyOf ks with
      | some ks => if kvs.length < sizeLine then .nx (ρ.set i (.ow (.dct (putT kvs ks v)))) else .er
      | none => .er)
    | _ => .er) (a ρ)) (b ρ)
  | _ => .er := rfl
@[simp] theorem sUpd_ap : sUpd i fa ρ = match ρ[i]? with
  | some (.ow (.dct kvs)) => (match fa ρ with
    | .ok [.dct more] => if kvs.length + more.length ≤ sizeLine ∧ (kvs ≠ [] ∨ smallAll more = true) then .nx (ρ.set i (.ow (.dct (putsT kvs more)))) else .er
    | .ok _ => .er
    | .ex c => .ex c ρ
    | .er => .er)
  | _ => .er := rfl
@[simp] theorem sPopT_ap : sPopT i fa ρ = match ρ[i]? with
  | some (.ow (.dct kvs)) => (match fa ρ with
    | .ok [.tup ks] => (match keyOf ks with
      | some k => if (lookT kvs k).isSome = true then .nx (ρ.set i (.ow (.dct (dropT kvs k)))) else .er
      | none => .er)
    | .ok _ => .er
    | .ex c => .ex c ρ
    | .er => .er)
  | _ => .er := rfl
@[simp] theorem sSetI_ap : sSetI i a b ρ = match ρ[i]? with
  | some (.ow (.lst ds)) => ofM ρ (fun v => ofM ρ (fun j => match j with
    | .int j => (match ixN ds.length j with
      | some n => .nx (ρ.set i (.ow (.lst (ds.set n v))))
      | none => .er)
    | _ => .er) (a ρ)) (b ρ)
  | _ => .er := rfl
@[simp] theorem eGet2_ap : eGet2 a b c ρ = M.bind (a ρ) fun y => if isDctD y = true then M.bind (b ρ) fun x => M.bind (c ρ) fun d => getG y x d else .er := rfl
@[simp] theorem eNotT_ap : eNotT a ρ = M.bind (M.bind (a ρ) truG) fun b => .ok (.bl (!b)) := rfl
@[simp] theorem sAug_ap : sAug i a ρ = match ρ[i]? with
  | some (.sh (.int n)) => ofM ρ (fun d => match d with | .int b => .nx (ρ.set i (.fr (.int (n + b)))) | _ => .er) (a ρ)
  | some (.fr (.int n)) => ofM ρ (fun d => match d with | .int b => .nx (ρ.set i (.fr (.int (n + b)))) | _ => .er) (a ρ)
  | _ => .er := rfl
@[simp] theorem sPar2_ap : sPar2 i j fa ρ = match fa ρ with | .ok [x, y] => .nx ((ρ.set i (.sh x)).set j (.sh y)) | .ex c => .ex c ρ | _ => .er := rfl
@[simp] theorem sPar3_ap (l : Nat) : sPar3 i j l fa ρ = match fa ρ with | .ok [x, y, z] => .nx (((ρ.set i (.sh x)).set j (.sh y)).set l (.sh z)) | .ex c => .ex c ρ | _ => .er := rfl
@[simp] theorem eJoin_ap : eJoin a b ρ = M.bind (a ρ) fun x => match x with | .str z => M.bind (b ρ) (joinG z) | _ => .er := rfl
@[simp] theorem eZipLS_ap : eZipLS fa ρ = M.bind (fa ρ) zipLSG := rfl
@[simp] theorem zipLS_ap (xs : List D) (z : Str) : zipLSG [.lst xs, .str z] = .ok (zipS xs z.cps.toList) := rfl
@[simp] theorem eEnumS_ap : eEnumS fa ρ = M.bind (fa ρ) fun ds => match ds with | [.str z] => .ok (enumS 0 z.cps.toList) | _ => .er := rfl
@[simp] theorem eEnum_ap : eEnum fa ρ = M.bind (fa ρ) fun ds => match ds with | [.lst xs] => .ok (enumD 0 xs) | _ => .er := rfl
end
/-! ### operators at work -/
@[simp] theorem in_ap (x y : D) : inG x y = M.bind (inB_ x y) fun b => .ok (.bl b) := rfl
@[simp] theorem nin_ap (x y : D) : ninG x y = M.bind (inB_ x y) fun b => .ok (.bl (!b)) := rfl
@[simp] theorem isD_dct (kvs : List (List Key × D)) : isDctD (.dct kvs) = true := rfl
@[simp] theorem isD_dk (kvs : List (Key × D)) : isDctD (.dk kvs) = true := rfl
@[simp] theorem isN_non (x : D) : isNG x .non = .ok (.bl (isNonD x)) := by cases x <;> rfl
@[simp] theorem notN_non (x : D) : notNG x .non = .ok (.bl (!isNonD x)) := by cases x <;> rfl
@[simp] theorem isNonD_non : isNonD .non = true := rfl
@[simp] theorem isNonD_int (i : Int) : isNonD (.int i) = false := rfl
@[simp] theorem isNonD_bl (i : Bool) : isNonD (.bl i) = false := rfl
@[simp] theorem isNonD_str (i : Str) : isNonD (.str i) = false := rfl
@[simp] theorem isNonD_tup (ds : List D) : isNonD (.tup ds) = false := rfl
@[simp] theorem isNonD_lst (ds : List D) : isNonD (.lst ds) = false := rfl
@[simp] theorem inst_int_int (i : Int) : instD .int (.int i) = true := rfl
@[simp] theorem inst_bool_int (i : Int) : instD .bool (.int i) = false := rfl
@[simp] theorem inst_list_int (i : Int) : instD .list (.int i) = false := rfl
@[simp] theorem inst_tuple_int (i : Int) : instD .tuple (.int i) = false := rfl
@[simp] theorem inst_str_int (i : Int) : instD .str (.int i) = false := rfl
@[simp] theorem inst_list_lst (ds : List D) : instD .list (.lst ds) = true := rfl
@[simp] theorem inst_tuple_lst (ds : List D) : instD .tuple (.lst ds) = false := rfl
@[simp] theorem inst_bool_lst (ds : List D) : instD .bool (.lst ds) = false := rfl
@[simp] theorem inst_int_lst (ds : List D) : instD .int (.lst ds) = false := rfl
@[simp] theorem inst_str_lst (ds : List D) : instD .str (.lst ds) = false := rfl
@[simp] theorem inst_list_tup (ds : List D) : instD .list (.tup ds) = false := rfl
@[simp] theorem inst_tuple_tup (ds : List D) : instD .tuple (.tup ds) = true := rfl
@[simp] theorem inst_bool_tup (ds : List D) : instD .bool (.tup ds) = false := rfl
@[simp] theorem inst_int_tup (ds : List D) : instD .int (.tup ds) = false := rfl
@[simp] theorem inst_str_tup (ds : List D) : instD .str (.tup ds) = false := rfl
@[simp] theorem inst_str_str (z : Str) : instD .str (.str z) = true := rfl
@[simp] theorem inst_list_str (z : Str) : instD .list (.str z) = false := rfl
@[simp] theorem inst_tuple_str (z : Str) : instD .tuple (.str z) = false := rfl
@[simp] theorem inst_bool_str (z : Str) : instD .bool (.str z) = false := rfl
@[simp] theorem inst_int_str (z : Str) : instD .int (.str z) = false := rfl
@[simp] theorem inst_bool_bl (z : Bool) : instD .bool (.bl z) = true := rfl
@[simp] theorem inst_int_bl (z : Bool) : instD .int (.bl z) = true := rfl
@[simp] theorem inst_list_bl (z : Bool) : instD .list (.bl z) = false := rfl
@[simp] theorem inst_tuple_bl (z : Bool) : instD .tuple (.bl z) = false := rfl
@[simp] theorem inst_str_bl (z : Bool) : instD .str (.bl z) = false := rfl
@[simp] theorem inst_bool_non : instD .bool .non = false := rfl
@[simp] theorem inst_int_non : instD .int .non = false := rfl
@[simp] theorem inst_list_non : instD .list .non = false := rfl
@[simp] theorem inst_tuple_non : instD .tuple .non = false := rfl
@[simp] theorem inst_str_non : instD .str .non = false := rfl
@[simp] theorem all_lst (ds : List D) : allG [.lst ds] = match bools ds with | some bs => .ok (.bl (bs.all id)) | none => .er := rfl
@[simp] theorem any_lst (ds : List D) : anyG [.lst ds] = match bools ds with | some bs => .ok (.bl (bs.any id)) | none => .er := rfl
@[simp] theorem zip_ll (xs ys : List D) : zipG [.lst xs, .lst ys] = .ok (zipD xs ys) := rfl
theorem bools_map {α : Type} (f : α → Bool) : ∀ xs : List α, bools (xs.map fun x => D.bl (f x)) = some (xs.map f)
  | [] => rfl
  | x :: xs => by simp [bools, bools_map f xs]
@[simp] theorem sub_ii (i j : Int) : subG (.int i) (.int j) = .ok (.int (i - j)) := rfl
@[simp] theorem add_ii (i j : Int) : addG (.int i) (.int j) = .ok (.int (i + j)) := rfl
@[simp] theorem lt_ii (i j : Int) : ltG (.int i) (.int j) = .ok (.bl (decide (i < j))) := rfl
@[simp] theorem lt_ss (i j : Str) : ltG (.str i) (.str j) = .ok (.bl (decide (i.cps.toList < j.cps.toList))) := rfl
@[simp] theorem le_ii (i j : Int) : leG (.int i) (.int j) = .ok (.bl (decide (i ≤ j))) := rfl
@[simp] theorem gt_ii (i j : Int) : gtG (.int i) (.int j) = .ok (.bl (decide (j < i))) := rfl
@[simp] theorem ge_ii (i j : Int) : geG (.int i) (.int j) = .ok (.bl (decide (j ≤ i))) := rfl
@[simp] theorem eq_ii (i j : Int) : eqG (.int i) (.int j) = .ok (.bl (decide (i = j))) := rfl
@[simp] theorem eq_bb (i j : Bool) : eqG (.bl i) (.bl j) = .ok (.bl (decide (i = j))) := rfl
@[simp] theorem eq_ss (i j : Str) : eqG (.str i) (.str j) = .ok (.bl (decide (i = j))) := rfl
@[simp] theorem eq_nn : eqG .non .non = .ok (.bl true) := rfl
@[simp] theorem ne_ii (i j : Int) : neG (.int i) (.int j) = .ok (.bl (!decide (i = j))) := rfl
@[simp] theorem ne_bb (i j : Bool) : neG (.bl i) (.bl j) = .ok (.bl (!decide (i = j))) := rfl
@[simp] theorem ne_ss (i j : Str) : neG (.str i) (.str j) = .ok (.bl (!decide (i = j))) := rfl
@[simp] theorem toB_bl (b : Bool) : toB (.bl b) = .ok b := rfl
@[simp] theorem tru_bl (b : Bool) : truG (.bl b) = .ok b := rfl
@[simp] theorem tru_lst (ds : List D) : truG (.lst ds) = .ok (!ds.isEmpty) := rfl
@[simp] theorem tru_tup (ds : List D) : truG (.tup ds) = .ok (!ds.isEmpty) := rfl
@[simp] theorem tru_int (i : Int) : truG (.int i) = .ok (i != 0) := rfl
@[simp] theorem tru_non : truG .non = .ok false := rfl
@[simp] theorem neg_i (i : Int) : negG (.int i) = .ok (.int (-i)) := rfl
@[simp] theorem abs_i (i : Int) : absG [.int i] = .ok (.int (if i < 0 then -i else i)) := rfl
@[simp] theorem len_lst (ds : List D) : lenG [.lst ds] = .ok (.int ds.length) := rfl
@[simp] theorem len_fz (ds : List D) : lenG [.fz ds] = .ok (.int ds.length) := rfl
@[simp] theorem len_tup (ds : List D) : lenG [.tup ds] = .ok (.int ds.length) := rfl
@[simp] theorem len_kt (ds : List D) : lenG [.kt ds] = .ok (.int ds.length) := rfl
@[simp] theorem lf_int (i : Int) : lf (.int i) = true := by simp [lf]
@[simp] theorem lf_bl (i : Bool) : lf (.bl i) = true := by simp [lf]
@[simp] theorem lf_str (i : Str) : lf (.str i) = true := by simp [lf]
@[simp] theorem lf_non : lf .non = true := by simp [lf]
@[simp] theorem lf_tup (ds : List D) : lf (.tup ds) = lfA ds := by simp [lf]
@[simp] theorem lf_kt (ds : List D) : lf (.kt ds) = lfA ds := by simp [lf]
@[simp] theorem lfA_nil : lfA [] = true := by simp [lfA]
@[simp] theorem lfA_cons (d : D) (ds : List D) : lfA (d :: ds) = (lf d && lfA ds) := by simp [lfA]
@[simp] theorem lfA_ap (xs ys : List D) : lfA (xs ++ ys) = (lfA xs && lfA ys) := by
  induction xs with
  | nil => simp
  | cons x xs ih => simp [ih, Bool.and_assoc]
theorem lfA_map {α : Type} {e : α → D} (h : ∀ x, lf (e x) = true) : ∀ xs : List α, lfA (xs.map e) = true
  | [] => rfl
  | x :: xs => by simp [h, lfA_map h xs]
@[simp] theorem lfA_ints (xs : List Int) : lfA (xs.map D.int) = true := lfA_map lf_int xs
@[simp] theorem isMut_lst (ds : List D) : isMut (.lst ds) = lfA ds := rfl
@[simp] theorem isMut_dct (ds : List (List Key × D)) : isMut (.dct ds) = lfT ds := rfl
@[simp] theorem appE_1 (ds : List D) (d : D) : appE ds [d] = if ds.length < sizeLine then .ok (ds ++ [d]) else .er := rfl
@[simp] theorem idx_lst (ds : List D) (i : Int) : idxG (.lst ds) (.int i) = match atI ds i with | some d => .ok d | none => .er := rfl
@[simp] theorem idx_tup (ds : List D) (i : Int) : idxG (.tup ds) (.int i) = match atI ds i with | some d => .ok d | none => .er := rfl
@[simp] theorem idx_kt (ds : List D) (i : Int) : idxG (.kt ds) (.int i) = match atI ds i with | some d => .ok d | none => .er := rfl
@[simp] theorem idx_fz (ds : List D) (i : Int) : idxG (.fz ds) (.int i) = match atI ds i with | some d => .ok d | none => .er := rfl
@[simp] theorem tuple_lst (ds : List D) : tupleG [.lst ds] = if lfA ds = true then .ok (.tup ds) else .er := rfl
@[simp] theorem tuple_tup (ds : List D) : tupleG [.tup ds] = if lfA ds = true then .ok (.tup ds) else .er := rfl
@[simp] theorem list_lst (ds : List D) : listG [.lst ds] = if lfA ds = true then .ok (.lst ds) else .er := rfl
@[simp] theorem list_tup (ds : List D) : listG [.tup ds] = if lfA ds = true then .ok (.lst ds) else .er := rfl
@[simp] theorem max_ii (i j : Int) : max2G [.int i, .int j] = .ok (.int (if j > i then j else i)) := rfl
@[simp] theorem min_ii (i j : Int) : min2G [.int i, .int j] = .ok (.int (if j < i then j else i)) := rfl
theorem mul_ok {i j : Int} (h : (-(2 ^ 64) < i ∧ i < 2 ^ 64) ∨ (-(2 ^ 64) < j ∧ j < 2 ^ 64)) : mulG (.int i) (.int j) = .ok (.int (i * j)) := if_pos h
theorem fdiv_ok {i j : Int} (h : 0 < j ∧ j < 1073741824) : fdivG (.int i) (.int j) = .ok (.int (i / j)) := if_pos h
theorem fdivN_ok {i j : Int} (h : 0 < j ∧ j < 1073741824) : fdivNG (.int i) (.int j) = .ok (.int (i / j)) := by
  have e : fdivNG (.int i) (.int j) = .ok (.int (i.fdiv j)) := if_pos (show j ≠ 0 ∧ j.natAbs < 1073741824 by omega)
  rw [e, Int.fdiv_eq_ediv_of_nonneg i (by omega)]
theorem mod_ok {i j : Int} (h : 0 < j) : modG (.int i) (.int j) = .ok (.int (i % j)) := if_pos h
theorem pow_ok {i j : Int} (h : 0 ≤ j ∧ j ≤ 1000000 ∧ i.natAbs < 2 ^ 64) : powG (.int i) (.int j) = .ok (.int (i ^ j.toNat)) := if_pos h
theorem dm_ok {i j : Int} (h : j ≠ 0 ∧ j.natAbs < 1073741824) : dmG [.int i, .int j] = .ok (.tup [.int (i.fdiv j), .int (i.fmod j)]) := if_pos h
@[simp] theorem pow_10_18 : powG (.int 10) (.int 18) = .ok (.int (10 ^ 18)) := pow_ok (by decide)
@[simp] theorem pow_10_30 : powG (.int 10) (.int 30) = .ok (.int (10 ^ 30)) := pow_ok (by decide)
/-! ### what stands at a place -/
theorem atI_ok {α : Type} {xs : List α} {i : Int} {x : α} (h0 : 0 ≤ i) (h : xs[i.toNat]? = some x) : atI xs i = some x := by
  have hl : i.toNat < xs.length := (List.getElem?_eq_some_iff.mp h).1
  unfold atI ixN
  rw [if_pos h0, if_pos (by omega)]
  exact h
theorem ixN_ok {n : Nat} {i : Int} (h0 : 0 ≤ i) (h : i < n) : ixN n i = some i.toNat := by
  unfold ixN
  rw [if_pos h0, if_pos h]
@[simp] theorem atI_0 {α : Type} (x : α) (xs : List α) : atI (x :: xs) 0 = some x := atI_ok (by decide) rfl
@[simp] theorem atI_1 {α : Type} (x y : α) (xs : List α) : atI (x :: y :: xs) 1 = some y := atI_ok (by decide) rfl
@[simp] theorem atI_2 {α : Type} (x y z : α) (xs : List α) : atI (x :: y :: z :: xs) 2 = some z := atI_ok (by decide) rfl
@[simp] theorem atI_3 {α : Type} (x y z w : α) (xs : List α) : atI (x :: y :: z :: w :: xs) 3 = some w := atI_ok (by decide) rfl
@[simp] theorem atI_4 {α : Type} (x y z w u : α) (xs : List α) : atI (x :: y :: z :: w :: u :: xs) 4 = some u := atI_ok (by decide) rfl
@[simp] theorem atI_5 {α : Type} (x y z w u v : α) (xs : List α) : atI (x :: y :: z :: w :: u :: v :: xs) 5 = some v := atI_ok (by decide) rfl
/-! ### loops -/
/-- one turn -/
def turn (tg : D → Rho → Option Rho) (b : Rho → Res) (d : D) (ρ : Rho) : Res := match tg d ρ with
  | none => .er
  | some ρ1 => b ρ1
def nextR (r : Res) (g : Rho → Res) : Res := match r with
  | .nx ρ => g ρ
  | .ct ρ => g ρ
  | .bk ρ => .nx ρ
  | .rt d => .rt d
  | .ex c ρ => .ex c ρ
  | .er => .er
@[simp] theorem next_nx (ρ : Rho) (g : Rho → Res) : nextR (.nx ρ) g = g ρ := rfl
@[simp] theorem next_ct (ρ : Rho) (g : Rho → Res) : nextR (.ct ρ) g = g ρ := rfl
@[simp] theorem next_bk (ρ : Rho) (g : Rho → Res) : nextR (.bk ρ) g = .nx ρ := rfl
@[simp] theorem next_rt (d : D) (g : Rho → Res) : nextR (.rt d) g = .rt d := rfl
@[simp] theorem next_ex (c : Xc) (ρ : Rho) (g : Rho → Res) : nextR (.ex c ρ) g = .ex c ρ := rfl
@[simp] theorem turn_N (i : Nat) (b : Rho → Res) (d : D) (ρ : Rho) : turn (tgN i) b d ρ = b (ρ.set i (.sh d)) := rfl
theorem forR_cons (tg : D → Rho → Option Rho) (b : Rho → Res) (d : D) (ds : List D) (ρ : Rho) : forR tg b (d :: ds) ρ = nextR (turn tg b d ρ) (forR tg b ds) := by
  unfold turn
  rw [forR]
  cases tg d ρ with
  | none => rfl
  | some ρ1 =>
    show (match b ρ1 with | .nx ρ2 => _ | .ct ρ2 => _ | .bk ρ2 => _ | .rt d => _ | .ex c ρ2 => _ | .er => _) = nextR (b ρ1) _
    cases b ρ1 <;> rfl
@[simp] theorem forR_nil (tg : D → Rho → Option Rho) (b : Rho → Res) (ρ : Rho) : forR tg b [] ρ = .nx ρ := rfl
section
variable {α β : Type} {tg : D → Rho → Option Rho} {b : Rho → Res}
theorem forR_fold (e : β → D) (st : α → Rho) (I : α → Prop) (g : α → β → α) : ∀ (xs : List β) (s : α), I s → (∀ s x, x ∈ xs → I s → I (g s x) ∧ turn tg b (e x) (st s) = .nx (st (g s x))) →
    forR tg b (xs.map e) (st s) = .nx (st (xs.foldl g s)) ∧ I (xs.foldl g s)
  | [], s, hs, _ => ⟨rfl, hs⟩
  | x :: xs, s, hs, h => by
    obtain ⟨h1, h2⟩ := h s x List.mem_cons_self hs
    rw [List.map_cons, forR_cons, h2]
    exact forR_fold e st I g xs _ h1 fun s y hy => h s y (List.mem_cons_of_mem _ hy)
/-- an accumulator that grows -/
theorem forR_acc (e : β → D) (st : List D → Rho) (g : β → List D) : ∀ (xs : List β) (acc : List D) (n : Nat), acc.length + (xs.flatMap g).length ≤ n → (∀ acc x, x ∈ xs → acc.length + (g x).length ≤ n → turn tg b (e x) (st acc) = .nx (st (acc ++ g x))) →
    forR tg b (xs.map e) (st acc) = .nx (st (acc ++ xs.flatMap g))
  | [], acc, n, _, _ => by simp
  | x :: xs, acc, n, hn, h => by
    simp only [List.flatMap_cons, List.length_append] at hn
    rw [List.map_cons, forR_cons, h acc x List.mem_cons_self (by omega), next_nx, List.flatMap_cons, ← List.append_assoc]
    refine forR_acc e st g xs (acc ++ g x) n (by simp only [List.length_append]; omega) fun acc y hy => h acc y (List.mem_cons_of_mem _ hy)
/-- a loop that keeps the state and may give its answer at a turn -/
theorem forR_any (e : β → D) (p : β → Bool) (r : D) (ρ : Rho) : ∀ (xs : List β), (∀ x, x ∈ xs → turn tg b (e x) ρ = if p x = true then .rt r else .nx ρ) →
    forR tg b (xs.map e) ρ = if xs.any p = true then .rt r else .nx ρ
  | [], _ => by simp
  | x :: xs, h => by
    rw [List.map_cons, forR_cons, h x List.mem_cons_self, List.any_cons]
    cases p x with
    | true => simp
    | false => simpa using forR_any e p r ρ xs fun y hy => h y (List.mem_cons_of_mem _ hy)
theorem forR_find (e : β → D) (p : β → Bool) (r : β → D) (ρ : Rho) : ∀ (xs : List β), (∀ x, x ∈ xs → turn tg b (e x) ρ = if p x = true then .rt (r x) else .nx ρ) →
    forR tg b (xs.map e) ρ = match xs.find? p with | some x => .rt (r x) | none => .nx ρ
  | [], _ => rfl
  | x :: xs, h => by
    rw [List.map_cons, forR_cons, h x List.mem_cons_self, List.find?_cons]
    cases p x with
    | true => rfl
    | false => simpa using forR_find e p r ρ xs fun y hy => h y (List.mem_cons_of_mem _ hy)
/-- a for loop by its turns -/
theorem forR_idx (st : Nat → Rho) : ∀ (ds : List D), (∀ (i : Nat) (d : D), ds[i]? = some d → turn tg b d (st i) = .nx (st (i + 1))) → forR tg b ds (st 0) = .nx (st ds.length)
  | [], _ => rfl
  | d :: ds, h => by
    rw [forR_cons, h 0 d rfl, next_nx]
    exact forR_idx (fun i => st (i + 1)) ds fun i e hi => h (i + 1) e hi
/-- a while loop by its turns -/
theorem while_n {c : Rho → M Bool} (st : Nat → Rho) : ∀ (k n : Nat), k < n → (∀ i, i < k → c (st i) = .ok true ∧ b (st i) = .nx (st (i + 1))) → c (st k) = .ok false → whileN c b n (st 0) = .nx (st k)
  | 0, n + 1, _, _, he => by rw [whileN, he]
  | k + 1, n + 1, hk, hc, he => by
    rw [whileN, (hc 0 (Nat.succ_pos k)).1]
    simp only
    rw [(hc 0 (Nat.succ_pos k)).2]
    simp only
    exact while_n (fun i => st (i + 1)) k n (by omega) (fun i hi => hc (i + 1) (by omega)) he
  | _, 0, hk, _, _ => by omega
/-- a while loop that gives its answer at a turn -/
theorem while_ret {c : Rho → M Bool} (st : Nat → Rho) (d : D) : ∀ (k n : Nat), k < n → (∀ i, i < k → c (st i) = .ok true ∧ b (st i) = .nx (st (i + 1))) → c (st k) = .ok true → b (st k) = .rt d → whileN c b n (st 0) = .rt d
  | 0, n + 1, _, _, h1, h2 => by
    rw [whileN, h1]
    simp only
    rw [h2]
  | k + 1, n + 1, hk, hc, h1, h2 => by
    rw [whileN, (hc 0 (Nat.succ_pos k)).1]
    simp only
    rw [(hc 0 (Nat.succ_pos k)).2]
    simp only
    exact while_ret (fun i => st (i + 1)) d k n (by omega) (fun i hi => hc (i + 1) (by omega)) h1 h2
  | _, 0, hk, _, _, _ => by omega
/-- a turn of a comprehension -/
def pickC (tg : D → Rho → Option Rho) (c : Rho → M Bool) (f : Rho → M D) (d : D) (ρ : Rho) : M (Option D) := match tg d ρ with
  | none => .er
  | some ρ1 => match c ρ1 with
    | .ok true => (match f ρ1 with | .ok y => .ok (some y) | _ => .er)
    | .ok false => .ok none
    | _ => .er
variable {c : Rho → M Bool} {f : Rho → M D}
@[simp] theorem pick_all (d : D) (ρ : Rho) : pickC tg cYes f d ρ = match tg d ρ with
  | none => .er
  | some ρ1 => (match f ρ1 with | .ok y => .ok (some y) | _ => .er) := by
  unfold pickC
  cases tg d ρ <;> rfl
theorem compL_cons (ρ : Rho) (d : D) (ds : List D) : compL tg c f ρ (d :: ds) = M.bind (pickC tg c f d ρ) fun o => match o with
    | some y => M.bind (compL tg c f ρ ds) fun ys => .ok (y :: ys)
    | none => compL tg c f ρ ds := by
  unfold pickC
  rw [compL]
  cases tg d ρ with
  | none => rfl
  | some ρ1 =>
    simp only
    cases hc : c ρ1 with
    | ok k =>
      cases k with
      | true =>
        simp only
        cases f ρ1 <;> rfl
      | false => rfl
    | ex _ => rfl
    | er => rfl
theorem compL_pick (e : β → D) (ρ : Rho) (g : β → Option D) : ∀ (xs : List β), (∀ x, x ∈ xs → pickC tg c f (e x) ρ = .ok (g x)) → compL tg c f ρ (xs.map e) = .ok (xs.filterMap g)
  | [], _ => rfl
  | x :: xs, h => by
    rw [List.map_cons, compL_cons, h x List.mem_cons_self, compL_pick e ρ g xs fun y hy => h y (List.mem_cons_of_mem _ hy), bind_ok]
    cases hg : g x with
    | none => rw [List.filterMap_cons_none hg]
    | some y => rw [List.filterMap_cons_some hg]; rfl
theorem compL_map (e : β → D) (ρ : Rho) (g : β → D) (xs : List β) (h : ∀ x, x ∈ xs → pickC tg c f (e x) ρ = .ok (some (g x))) : compL tg c f ρ (xs.map e) = .ok (xs.map g) := by
  rw [compL_pick e ρ (fun x => some (g x)) xs h]
  congr 1
  induction xs with
  | nil => rfl
  | cons x xs ih => simp only [List.filterMap_cons, ih fun y hy => h y (List.mem_cons_of_mem _ hy), List.map_cons]
theorem compL_filt (e : β → D) (ρ : Rho) (p : β → Bool) (g : β → D) (xs : List β) (h : ∀ x, x ∈ xs → pickC tg c f (e x) ρ = .ok (if p x = true then some (g x) else none)) : compL tg c f ρ (xs.map e) = .ok ((xs.filter p).map g) := by
  rw [compL_pick e ρ (fun x => if p x = true then some (g x) else none) xs h]
  congr 1
  induction xs with
  | nil => rfl
  | cons x xs ih =>
    have ih := ih fun y hy => h y (List.mem_cons_of_mem _ hy)
    cases hp : p x with
    | true => rw [List.filterMap_cons_some (by rw [hp]; rfl), List.filter_cons_of_pos hp, ih]; rfl
    | false => rw [List.filterMap_cons_none (by rw [hp]; rfl), List.filter_cons_of_neg (by rw [hp]; decide), ih]
end
@[simp] theorem rngD_len (lo : Int) (n : Nat) : (rngD lo n).length = n := by simp [rngD]
theorem rngD_map (lo : Int) (n : Nat) : rngD lo n = (List.range n).map fun i => D.int (lo + (i : Nat)) := rfl
end VL
set_option Elab.async false
set_option linter.all false
set_option maxRecDepth 100000
/-! VM2: places, ranges. -/
namespace VL
open PySem L2 PySem.Spec PyProof.Rows
abbrev P3 := Int × Int × Int
def e3 (p : P3) : D := .tup [.int p.1, .int p.2.1, .int p.2.2]
@[simp] theorem lf_e3 (p : P3) : lf (e3 p) = true := by simp [e3]
@[simp] theorem lfA_e3 (xs : List P3) : lfA (xs.map e3) = true := lfA_map lf_e3 xs
@[simp] theorem inst_tuple_e3 (p : P3) : instD .tuple (e3 p) = true := rfl
@[simp] theorem inst_list_e3 (p : P3) : instD .list (e3 p) = false := rfl
@[simp] theorem inst_bool_e3 (p : P3) : instD .bool (e3 p) = false := rfl
@[simp] theorem inst_int_e3 (p : P3) : instD .int (e3 p) = false := rfl
@[simp] theorem inst_str_e3 (p : P3) : instD .str (e3 p) = false := rfl
@[simp] theorem isNonD_e3 (p : P3) : isNonD (e3 p) = false := rfl
@[simp] theorem len_e3 (p : P3) : lenG [e3 p] = .ok (.int 3) := rfl
@[simp] theorem idx_e3_0 (p : P3) : idxG (e3 p) (.int 0) = .ok (.int p.1) := by simp [e3]
@[simp] theorem idx_e3_1 (p : P3) : idxG (e3 p) (.int 1) = .ok (.int p.2.1) := by simp [e3]
@[simp] theorem idx_e3_2 (p : P3) : idxG (e3 p) (.int 2) = .ok (.int p.2.2) := by simp [e3]
theorem e3_eta (p : P3) : D.tup [.int p.1, .int p.2.1, .int p.2.2] = e3 p := rfl
@[simp] theorem list_e3 (p : P3) : listG [e3 p] = .ok (.lst [.int p.1, .int p.2.1, .int p.2.2]) := by simp [e3]
@[simp] theorem tuple_e3 (p : P3) : tupleG [e3 p] = .ok (e3 p) := by simp [e3]
@[simp] theorem shaped_e3 (p : P3) : SeqAt.shaped (toP (e3 p)) = true := by simp [e3, toP, toPA, SeqAt.shaped, PyData.canLay0, PyData.canLayAll0, PyData.depth, PyData.depthAll]
theorem eqv_e3 (p q : P3) : PyData.eqv (toP (e3 p)) (toP (e3 q)) = decide (p = q) := by
  obtain ⟨a, b, c⟩ := p
  obtain ⟨x, y, z⟩ := q
  rw [Bool.eq_iff_iff]
  simp [e3, toP, toPA, PyData.eqv, PyData.eqvAll, Prod.ext_iff]
@[simp] theorem eq_e3 (p q : P3) : eqG (e3 p) (e3 q) = .ok (.bl (decide (p = q))) := by
  have h : eqG (e3 p) (e3 q) = if SeqAt.shaped (toP (e3 p)) = true ∧ SeqAt.shaped (toP (e3 q)) = true then M.ok (D.bl (PyData.eqv (toP (e3 p)) (toP (e3 q)))) else M.er := by rfl
  rw [h, if_pos ⟨shaped_e3 p, shaped_e3 q⟩, eqv_e3]
@[simp] theorem items_e3 (p : P3) : itemsG (e3 p) = .ok [.int p.1, .int p.2.1, .int p.2.2] := rfl
def rng (n : Int) : List Int := (List.range n.toNat).map fun (i : Nat) => (i : Int)
theorem rngD_0 (n : Int) : rngD 0 n.toNat = (rng n).map D.int := by
  rw [rngD_map, rng, List.map_map]
  exact List.map_congr_left fun i _ => by simp
theorem mem_rng {n x : Int} : x ∈ rng n ↔ 0 ≤ x ∧ x < n := by
  unfold rng
  rw [List.mem_map]
  constructor
  · rintro ⟨i, hi, rfl⟩
    have := List.mem_range.mp hi
    omega
  · intro h
    exact ⟨x.toNat, List.mem_range.mpr (by omega), by omega⟩
@[simp] theorem rng_len (n : Int) : (rng n).length = n.toNat := by simp [rng]
theorem rng_nodup (n : Int) : (rng n).Nodup := by
  unfold rng
  exact List.Pairwise.map (fun (i : Nat) => (i : Int)) (fun a b h h' => h (Int.ofNat.inj h')) List.nodup_range
theorem rng_3 : rng 3 = [0, 1, 2] := by decide
theorem rng_2 : rng 2 = [0, 1] := by decide
theorem rng_1 : rng 1 = [0] := by decide
def places (s : P3) : List P3 := (rng s.1).flatMap fun x => (rng s.2.1).flatMap fun y => (rng s.2.2).map fun z => (x, y, z)
theorem mem_places {s p : P3} : p ∈ places s ↔ (0 ≤ p.1 ∧ p.1 < s.1) ∧ (0 ≤ p.2.1 ∧ p.2.1 < s.2.1) ∧ (0 ≤ p.2.2 ∧ p.2.2 < s.2.2) := by
  unfold places
  simp only [List.mem_flatMap, List.mem_map, mem_rng]
  constructor
  · rintro ⟨x, hx, y, hy, z, hz, rfl⟩
    exact ⟨hx, hy, hz⟩
  · rintro ⟨hx, hy, hz⟩
    exact ⟨p.1, hx, p.2.1, hy, p.2.2, hz, rfl⟩
theorem flatMap_len {α β : Type} (f : α → List β) (n : Nat) : ∀ xs : List α, (∀ x, x ∈ xs → (f x).length = n) → (xs.flatMap f).length = xs.length * n
  | [], _ => by simp
  | x :: xs, h => by
    rw [List.flatMap_cons, List.length_append, h x List.mem_cons_self, flatMap_len f n xs fun y hy => h y (List.mem_cons_of_mem _ hy), List.length_cons, Nat.add_mul, Nat.one_mul, Nat.add_comm]
theorem places_len (s : P3) : (places s).length = s.1.toNat * (s.2.1.toNat * s.2.2.toNat) := by
  unfold places
  rw [flatMap_len _ (s.2.1.toNat * s.2.2.toNat), rng_len]
  intro x _
  rw [flatMap_len _ s.2.2.toNat, rng_len]
  intro y _
  simp
theorem prod3_le {a b c n : Nat} (ha : a ≤ n) (hb : b ≤ n) (hc : c ≤ n) : a * (b * c) ≤ n * (n * n) := Nat.mul_le_mul ha (Nat.mul_le_mul hb hc)
/-- sizes of a block -/
def Sz (n : Int) (s : P3) : Prop := (1 ≤ s.1 ∧ s.1 ≤ n) ∧ (1 ≤ s.2.1 ∧ s.2.1 ≤ n) ∧ (1 ≤ s.2.2 ∧ s.2.2 ≤ n)
theorem Sz.len {n : Nat} {s : P3} (h : Sz n s) : (places s).length ≤ n * (n * n) := by
  rw [places_len]
  obtain ⟨h1, h2, h3⟩ := h
  exact prod3_le (by omega) (by omega) (by omega)
@[simp] theorem zipD_nil (ys : List D) : zipD [] ys = [] := by cases ys <;> rfl
@[simp] theorem rngD_01 : rngD 0 1 = [.int 0] := rfl
@[simp] theorem rngD_02 : rngD 0 2 = [.int 0, .int 1] := rfl
@[simp] theorem rngD_03 : rngD 0 3 = [.int 0, .int 1, .int 2] := rfl
@[simp] theorem rngD_06 : rngD 0 6 = [.int 0, .int 1, .int 2, .int 3, .int 4, .int 5] := rfl
def inB (s p : P3) : Bool := (decide (0 ≤ p.1) && decide (p.1 < s.1)) && ((decide (0 ≤ p.2.1) && decide (p.2.1 < s.2.1)) && (decide (0 ≤ p.2.2) && decide (p.2.2 < s.2.2)))
theorem inB_iff {s p : P3} : inB s p = true ↔ (0 ≤ p.1 ∧ p.1 < s.1) ∧ (0 ≤ p.2.1 ∧ p.2.1 < s.2.1) ∧ (0 ≤ p.2.2 ∧ p.2.2 < s.2.2) := by simp [inB]
/-! ### steps -/
def stp (p w : P3) (m : Int) : P3 := (p.1 + m * w.1, p.2.1 + m * w.2.1, p.2.2 + m * w.2.2)
def Bw (w : P3) : Prop := (-1000 < w.1 ∧ w.1 < 1000) ∧ (-1000 < w.2.1 ∧ w.2.1 < 1000) ∧ (-1000 < w.2.2 ∧ w.2.2 < 1000)
def Nz (w : P3) : Prop := w.1 ≠ 0 ∨ w.2.1 ≠ 0 ∨ w.2.2 ≠ 0
theorem stp_stp (p w : P3) (a b : Int) : stp (stp p w a) w b = stp p w (a + b) := by
  simp only [stp, Int.add_mul]
  refine Prod.ext ?_ (Prod.ext ?_ ?_) <;> simp only <;> omega
@[simp] theorem stp_0 (p w : P3) : stp p w 0 = p := by simp [stp]
/-- how far it is from the edge, against the way -/
def mu (s w p : P3) : Nat := if 0 < w.1 then p.1.toNat else if w.1 < 0 then (s.1 - p.1).toNat else if 0 < w.2.1 then p.2.1.toNat else if w.2.1 < 0 then (s.2.1 - p.2.1).toNat else if 0 < w.2.2 then p.2.2.toNat else (s.2.2 - p.2.2).toNat
theorem mu_lt {s w p : P3} (hw : Nz w) (h1 : inB s p = true) (h2 : inB s (stp p w (-1)) = true) : mu s w (stp p w (-1)) < mu s w p := by
  rw [inB_iff] at h1 h2
  unfold Nz at hw
  simp only [stp] at h2 ⊢
  unfold mu
  simp only
  repeat' split
  all_goals omega
theorem mu_le {n : Nat} {s w p : P3} (hs : Sz n s) (h1 : inB s p = true) : mu s w p ≤ n := by
  rw [inB_iff] at h1
  unfold Sz at hs
  unfold mu
  repeat' split
  all_goals omega
def back (s w : P3) : Nat → P3 → Nat
  | 0, _ => 0
  | n + 1, p => if inB s (stp p w (-1)) = true then back s w n (stp p w (-1)) + 1 else 0
theorem back_spec {s w : P3} (hw : Nz w) : ∀ (n : Nat) (p : P3), inB s p = true → mu s w p < n → (∀ i : Nat, i ≤ back s w n p → inB s (stp p w (-(i : Int))) = true) ∧ inB s (stp p w (-(back s w n p : Int) - 1)) = false ∧ back s w n p ≤ mu s w p
  | 0, _, _, h => by omega
  | n + 1, p, hp, h => by
    unfold back
    by_cases c : inB s (stp p w (-1)) = true
    · rw [if_pos c]
      have hl := mu_lt hw hp c
      obtain ⟨h1, h2, h3⟩ := back_spec hw n (stp p w (-1)) c (by omega)
      refine ⟨fun i hi => ?_, ?_, by omega⟩
      · cases i with
        | zero => simpa using hp
        | succ i =>
          have := h1 i (by omega)
          rw [stp_stp] at this
          rw [show (-((i + 1 : Nat) : Int)) = -1 + -(i : Int) by omega]
          exact this
      · rw [stp_stp] at h2
        rw [show (-((back s w n (stp p w (-1)) + 1 : Nat) : Int) - 1) = -1 + (-(back s w n (stp p w (-1)) : Int) - 1) by omega]
        exact h2
    · rw [if_neg c]
      refine ⟨fun i hi => ?_, ?_, Nat.zero_le _⟩
      · have : i = 0 := by omega
        subst this
        simpa using hp
      · simpa using c
def depth (s w p : P3) : Nat := back s w 1000 p
def door (s w p : P3) : P3 := stp p w (-(depth s w p : Int))
theorem depth_spec {s w p : P3} (hs : Sz 100 s) (hw : Nz w) (hp : inB s p = true) : (∀ i : Nat, i ≤ depth s w p → inB s (stp p w (-(i : Int))) = true) ∧ inB s (stp p w (-(depth s w p : Int) - 1)) = false ∧ depth s w p ≤ 100 := by
  have hm : mu s w p ≤ 100 := mu_le (n := 100) hs hp
  obtain ⟨h1, h2, h3⟩ := back_spec hw 1000 p hp (by omega)
  exact ⟨h1, h2, Nat.le_trans h3 hm⟩
def neg3 (w : P3) : P3 := (-w.1, -w.2.1, -w.2.2)
theorem stp_neg (p w : P3) (m : Int) : stp p (neg3 w) m = stp p w (-m) := by
  simp [stp, neg3, Int.mul_neg, Int.neg_mul]
theorem Nz.neg {w : P3} (h : Nz w) : Nz (neg3 w) := by
  unfold Nz neg3 at *
  simp only
  omega
/-- the line from a door on -/
def fore (s w d : P3) : Nat := depth s (neg3 w) d + 1
def line (s w d : P3) : List P3 := (List.range (fore s w d)).map fun i => stp d w (i : Nat)
theorem fore_spec {s w d : P3} (hs : Sz 100 s) (hw : Nz w) (hp : inB s d = true) : (∀ i : Nat, i < fore s w d → inB s (stp d w (i : Nat)) = true) ∧ inB s (stp d w (fore s w d : Nat)) = false ∧ fore s w d ≤ 101 := by
  obtain ⟨h1, h2, h3⟩ := depth_spec hs hw.neg hp
  unfold fore
  refine ⟨fun i hi => ?_, ?_, by omega⟩
  · have := h1 i (by omega)
    rw [stp_neg, Int.neg_neg] at this
    exact this
  · rw [stp_neg, show -(-(depth s (neg3 w) d : Int) - 1) = ((depth s (neg3 w) d + 1 : Nat) : Int) by omega] at h2
    exact h2
theorem depth_lt_fore {s w p : P3} (hs : Sz 100 s) (hw : Nz w) (hp : inB s p = true) : depth s w p < fore s w (door s w p) := by
  obtain ⟨h1, h2, h3⟩ := depth_spec hs hw hp
  have hd : inB s (door s w p) = true := h1 _ (Nat.le_refl _)
  obtain ⟨f1, f2, f3⟩ := fore_spec hs hw hd
  refine Nat.lt_of_not_le fun hle => ?_
  have := h1 (depth s w p - fore s w (door s w p)) (by omega)
  rw [door, stp_stp, show -(depth s w p : Int) + (fore s w (stp p w (-(depth s w p : Int))) : Nat) = -((depth s w p - fore s w (door s w p) : Nat) : Int) by unfold door; unfold door at hle; omega, this] at f2
  cases f2
theorem door_step {s w p : P3} : stp (door s w p) w (depth s w p : Nat) = p := by
  rw [door, stp_stp, show -(depth s w p : Int) + (depth s w p : Nat) = 0 by omega, stp_0]
theorem canLay_e3s : ∀ xs : List P3, PyData.canLayAll0 (toPA (xs.map e3)) = true
  | [] => by simp [toPA, PyData.canLayAll0]
  | x :: xs => by simp [toPA, PyData.canLayAll0, canLay_e3s xs, e3, toP, PyData.canLay0]
theorem depth_e3s : ∀ xs : List P3, PyData.depthAll (toPA (xs.map e3)) ≤ 2
  | [] => by simp [toPA, PyData.depthAll]
  | x :: xs => by
    have := depth_e3s xs
    simp [toPA, PyData.depthAll, e3, toP, PyData.depth]
    omega
theorem shaped_e3s (xs : List P3) : SeqAt.shaped (toP (.lst (xs.map e3))) = true := by
  have h := depth_e3s xs
  simp only [toP, SeqAt.shaped, PyData.canLay0, PyData.depth, canLay_e3s, Bool.true_and, decide_eq_true_eq]
  omega
theorem any_mem {α : Type} [DecidableEq α] (xs : List α) (p : α) : (xs.any fun z => decide (z = p)) = decide (p ∈ xs) := by
  rw [Bool.eq_iff_iff]
  simp
theorem in_e3s (p : P3) (xs : List P3) : inB_ (e3 p) (.lst (xs.map e3)) = .ok (decide (p ∈ xs)) := by
  have h : inB_ (e3 p) (.lst (xs.map e3)) = if SeqAt.shaped (toP (e3 p)) = true ∧ SeqAt.shaped (toP (.lst (xs.map e3))) = true then M.ok ((xs.map e3).any fun z => PyData.eqv (toP z) (toP (e3 p))) else M.er := by rfl
  rw [h, if_pos ⟨shaped_e3 p, shaped_e3s xs⟩, List.any_map]
  congr 1
  rw [Bool.eq_iff_iff, List.any_eq_true, decide_eq_true_eq]
  simp only [Function.comp, eqv_e3, decide_eq_true_eq]
  exact ⟨fun ⟨x, h1, h2⟩ => h2 ▸ h1, fun h => ⟨p, h, rfl⟩⟩
/-! ### ways -/
def Way (w : P3) : Prop := ((-3 ≤ w.1 ∧ w.1 ≤ 3) ∧ (-3 ≤ w.2.1 ∧ w.2.1 ≤ 3) ∧ (-3 ≤ w.2.2 ∧ w.2.2 ≤ 3)) ∧ Int.gcd (Int.gcd w.1 w.2.1) w.2.2 = 1
def wayB (w : P3) : Bool := decide (-3 ≤ w.1) && decide (w.1 ≤ 3) && decide (-3 ≤ w.2.1) && decide (w.2.1 ≤ 3) && decide (-3 ≤ w.2.2) && decide (w.2.2 ≤ 3) && decide (Int.gcd (Int.gcd w.1 w.2.1) w.2.2 = 1)
theorem wayB_iff {w : P3} : wayB w = true ↔ Way w := by
  unfold wayB Way
  simp only [Bool.and_eq_true, decide_eq_true_eq]
  constructor
  · rintro ⟨⟨⟨⟨⟨⟨h1, h2⟩, h3⟩, h4⟩, h5⟩, h6⟩, h7⟩
    exact ⟨⟨⟨h1, h2⟩, ⟨h3, h4⟩, ⟨h5, h6⟩⟩, h7⟩
  · rintro ⟨⟨⟨h1, h2⟩, ⟨h3, h4⟩, ⟨h5, h6⟩⟩, h7⟩
    exact ⟨⟨⟨⟨⟨⟨h1, h2⟩, h3⟩, h4⟩, h5⟩, h6⟩, h7⟩
def sevens : List Int := [-3, -2, -1, 0, 1, 2, 3]
theorem mem_sevens {a : Int} (h : -3 ≤ a ∧ a ≤ 3) : a ∈ sevens := by
  have : a = -3 ∨ a = -2 ∨ a = -1 ∨ a = 0 ∨ a = 1 ∨ a = 2 ∨ a = 3 := by omega
  rcases this with h | h | h | h | h | h | h <;> subst h <;> decide
theorem way_divs : (sevens.all fun a => sevens.all fun b => sevens.all fun c => (Int.gcd (Int.gcd a b) c == 0) || wayB (a / (Int.gcd (Int.gcd a b) c : Nat), b / (Int.gcd (Int.gcd a b) c : Nat), c / (Int.gcd (Int.gcd a b) c : Nat))) = true := by decide +kernel
theorem way_div {a b c : Int} (ha : -3 ≤ a ∧ a ≤ 3) (hb : -3 ≤ b ∧ b ≤ 3) (hc : -3 ≤ c ∧ c ≤ 3) (hg : Int.gcd (Int.gcd a b) c ≠ 0) : Way (a / (Int.gcd (Int.gcd a b) c : Nat), b / (Int.gcd (Int.gcd a b) c : Nat), c / (Int.gcd (Int.gcd a b) c : Nat)) := by
  have h := List.all_eq_true.mp (List.all_eq_true.mp (List.all_eq_true.mp way_divs a (mem_sevens ha)) b (mem_sevens hb)) c (mem_sevens hc)
  rw [Bool.or_eq_true] at h
  rcases h with h | h
  · exact absurd (eq_of_beq h) hg
  · exact wayB_iff.mp h
theorem gcd_small {a b c : Int} (ha : -3 ≤ a ∧ a ≤ 3) (hb : -3 ≤ b ∧ b ≤ 3) (hc : -3 ≤ c ∧ c ≤ 3) : Int.gcd (Int.gcd a b) c ≤ 3 := by
  have h : (sevens.all fun a => sevens.all fun b => sevens.all fun c => decide (Int.gcd (Int.gcd a b) c ≤ 3)) = true := by decide +kernel
  exact of_decide_eq_true (List.all_eq_true.mp (List.all_eq_true.mp (List.all_eq_true.mp h a (mem_sevens ha)) b (mem_sevens hb)) c (mem_sevens hc))
theorem Way.nz {w : P3} (h : Way w) : Nz w := by
  unfold Nz
  by_cases h1 : w.1 = 0
  · by_cases h2 : w.2.1 = 0
    · by_cases h3 : w.2.2 = 0
      · have := h.2
        rw [h1, h2, h3] at this
        exact absurd this (by decide)
      · exact .inr (.inr h3)
    · exact .inr (.inl h2)
  · exact .inl h1
theorem Way.bw {w : P3} (h : Way w) : Bw w := by
  obtain ⟨⟨h1, h2, h3⟩, _⟩ := h
  unfold Bw
  omega
theorem Sz.le {m n : Int} {s : P3} (h : Sz m s) (hm : m ≤ n) : Sz n s := by
  unfold Sz at h ⊢
  omega
end VL
set_option Elab.async false
set_option linter.all false
set_option maxRecDepth 100000
/-! VM3: what hides what. -/
namespace VL
open PySem L2 PySem.Spec PyProof.Rows
def ones : List Int := [-1, 0, 1]
theorem bez_all : (sevens.all fun a => sevens.all fun b => sevens.all fun c => !(Int.gcd (Int.gcd a b) c == 1) || (ones.any fun x => ones.any fun y => ones.any fun z => decide (x * a + y * b + z * c = 1))) = true := by decide +kernel
theorem Way.bez {w : P3} (h : Way w) : ∃ x y z : Int, x * w.1 + y * w.2.1 + z * w.2.2 = 1 := by
  obtain ⟨⟨h1, h2, h3⟩, hg⟩ := h
  have e := List.all_eq_true.mp (List.all_eq_true.mp (List.all_eq_true.mp bez_all w.1 (mem_sevens h1)) w.2.1 (mem_sevens h2)) w.2.2 (mem_sevens h3)
  rw [hg] at e
  simp only [beq_self_eq_true, Bool.not_true, Bool.false_or, List.any_eq_true, decide_eq_true_eq] at e
  obtain ⟨x, _, y, _, z, _, e⟩ := e
  exact ⟨x, y, z, e⟩
def dif (f n : P3) : P3 := (f.1 - n.1, f.2.1 - n.2.1, f.2.2 - n.2.2)
def leadsB (w d : P3) : Bool := decide (d.1 * w.2.1 = d.2.1 * w.1) && (decide (d.2.1 * w.2.2 = d.2.2 * w.2.1) && (decide (d.1 * w.2.2 = d.2.2 * w.1) && decide (0 < d.1 * w.1 + d.2.1 * w.2.1 + d.2.2 * w.2.2)))
theorem sq_pos {a : Int} (h : a ≠ 0) : 0 < a * a := by
  rcases Int.lt_or_gt_of_ne h with h | h
  · exact Int.mul_pos_of_neg_of_neg h h
  · exact Int.mul_pos h h
theorem sq_nn (a : Int) : 0 ≤ a * a := by
  by_cases h : a = 0
  · rw [h]; decide
  · exact Int.le_of_lt (sq_pos h)
theorem nz_sq {w : P3} (h : Nz w) : 0 < w.1 * w.1 + w.2.1 * w.2.1 + w.2.2 * w.2.2 := by
  have h1 := sq_nn w.1
  have h2 := sq_nn w.2.1
  have h3 := sq_nn w.2.2
  rcases h with h | h | h
  · have := sq_pos h; omega
  · have := sq_pos h; omega
  · have := sq_pos h; omega
theorem leads_iff {w d : P3} (hw : Way w) : leadsB w d = true ↔ ∃ m : Int, 1 ≤ m ∧ d = (m * w.1, m * w.2.1, m * w.2.2) := by
  have hs := nz_sq hw.nz
  simp only [leadsB, Bool.and_eq_true, decide_eq_true_eq]
  constructor
  · rintro ⟨h1, h2, h3, h4⟩
    obtain ⟨x, y, z, e⟩ := hw.bez
    have k1 : d.1 = (x * d.1 + y * d.2.1 + z * d.2.2) * w.1 := by
      have : d.1 * (x * w.1 + y * w.2.1 + z * w.2.2) = (x * d.1 + y * d.2.1 + z * d.2.2) * w.1 := by
        have a1 : d.1 * (y * w.2.1) = y * (d.2.1 * w.1) := by rw [← h1]; simp only [Int.mul_comm, Int.mul_left_comm]
        have a2 : d.1 * (z * w.2.2) = z * (d.2.2 * w.1) := by rw [← h3]; simp only [Int.mul_comm, Int.mul_left_comm]
        rw [Int.mul_add, Int.mul_add, a1, a2, Int.add_mul, Int.add_mul]
        simp only [Int.mul_comm, Int.mul_left_comm]
      rw [e, Int.mul_one] at this
      exact this
    have k2 : d.2.1 = (x * d.1 + y * d.2.1 + z * d.2.2) * w.2.1 := by
      have : d.2.1 * (x * w.1 + y * w.2.1 + z * w.2.2) = (x * d.1 + y * d.2.1 + z * d.2.2) * w.2.1 := by
        have a1 : d.2.1 * (x * w.1) = x * (d.1 * w.2.1) := by rw [h1]; simp only [Int.mul_comm, Int.mul_left_comm]
        have a2 : d.2.1 * (z * w.2.2) = z * (d.2.2 * w.2.1) := by rw [← h2]; simp only [Int.mul_comm, Int.mul_left_comm]
        rw [Int.mul_add, Int.mul_add, a1, a2, Int.add_mul, Int.add_mul]
        simp only [Int.mul_comm, Int.mul_left_comm]
      rw [e, Int.mul_one] at this
      exact this
    have k3 : d.2.2 = (x * d.1 + y * d.2.1 + z * d.2.2) * w.2.2 := by
      have : d.2.2 * (x * w.1 + y * w.2.1 + z * w.2.2) = (x * d.1 + y * d.2.1 + z * d.2.2) * w.2.2 := by
        have a1 : d.2.2 * (x * w.1) = x * (d.1 * w.2.2) := by rw [h3]; simp only [Int.mul_comm, Int.mul_left_comm]
        have a2 : d.2.2 * (y * w.2.1) = y * (d.2.1 * w.2.2) := by rw [h2]; simp only [Int.mul_comm, Int.mul_left_comm]
        rw [Int.mul_add, Int.mul_add, a1, a2, Int.add_mul, Int.add_mul]
        simp only [Int.mul_comm, Int.mul_left_comm]
      rw [e, Int.mul_one] at this
      exact this
    generalize x * d.1 + y * d.2.1 + z * d.2.2 = m at k1 k2 k3
    refine ⟨m, ?_, Prod.ext k1 (Prod.ext k2 k3)⟩
    rw [k1, k2, k3, Int.mul_assoc, Int.mul_assoc, Int.mul_assoc, ← Int.mul_add, ← Int.mul_add] at h4
    have := Int.pos_of_mul_pos_left h4 hs
    omega
  · rintro ⟨m, hm, rfl⟩
    simp only
    refine ⟨by simp only [Int.mul_comm, Int.mul_left_comm], by simp only [Int.mul_comm, Int.mul_left_comm], by simp only [Int.mul_comm, Int.mul_left_comm], ?_⟩
    rw [Int.mul_assoc, Int.mul_assoc, Int.mul_assoc, ← Int.mul_add, ← Int.mul_add]
    exact Int.mul_pos (by omega) hs
/-- the part that counts the steps: of the other, of the way -/
def pvw (w d : P3) : Int × Int := if w.1 ≠ 0 then (d.1, w.1) else if w.2.1 ≠ 0 then (d.2.1, w.2.1) else (d.2.2, w.2.2)
def hidesB (w n f : P3) : Bool := decide ((pvw w (dif f n)).1.fmod (pvw w (dif f n)).2 = 0) && (decide (1 ≤ (pvw w (dif f n)).1.fdiv (pvw w (dif f n)).2) && decide (stp n w ((pvw w (dif f n)).1.fdiv (pvw w (dif f n)).2) = f))
theorem hides_iff {w n f : P3} (hw : Nz w) : hidesB w n f = true ↔ ∃ m : Int, 1 ≤ m ∧ stp n w m = f := by
  simp only [hidesB, Bool.and_eq_true, decide_eq_true_eq]
  constructor
  · rintro ⟨h1, h2, h3⟩
    exact ⟨_, h2, h3⟩
  · rintro ⟨m, hm, rfl⟩
    have hv : (pvw w (dif (stp n w m) n)).2 ≠ 0 ∧ (pvw w (dif (stp n w m) n)).1 = m * (pvw w (dif (stp n w m) n)).2 := by
      unfold pvw
      unfold Nz at hw
      simp only [dif, stp]
      by_cases c1 : w.1 ≠ 0
      · rw [if_pos c1]
        exact ⟨c1, by simp only; omega⟩
      · rw [if_neg c1]
        by_cases c2 : w.2.1 ≠ 0
        · rw [if_pos c2]
          exact ⟨c2, by simp only; omega⟩
        · rw [if_neg c2]
          exact ⟨by simp only; omega, by simp only; omega⟩
    obtain ⟨h1, h2⟩ := hv
    rw [h2, Int.mul_fdiv_cancel m h1]
    exact ⟨Int.mul_fmod_left m _, hm, rfl⟩
theorem stp_dif {n w f : P3} {m : Int} : stp n w m = f ↔ dif f n = (m * w.1, m * w.2.1, m * w.2.2) := by
  constructor
  · rintro rfl
    simp only [dif, stp]
    refine Prod.ext ?_ (Prod.ext ?_ ?_) <;> simp only <;> omega
  · intro h
    have h1 : f.1 - n.1 = m * w.1 := congrArg (·.1) h
    have h2 : f.2.1 - n.2.1 = m * w.2.1 := congrArg (·.2.1) h
    have h3 : f.2.2 - n.2.2 = m * w.2.2 := congrArg (·.2.2) h
    simp only [stp, ← h1, ← h2, ← h3]
    refine Prod.ext ?_ (Prod.ext ?_ ?_) <;> simp only <;> omega
theorem hides_leads {w n f : P3} (hw : Way w) : hidesB w n f = leadsB w (dif f n) := by
  rw [Bool.eq_iff_iff, hides_iff hw.nz, leads_iff hw]
  constructor
  · rintro ⟨m, hm, h⟩
    exact ⟨m, hm, stp_dif.mp h⟩
  · rintro ⟨m, hm, h⟩
    exact ⟨m, hm, stp_dif.mpr h⟩
end VL
set_option Elab.async false
set_option linter.all false
set_option maxRecDepth 100000
/-! VM4: dicts by places; what is seen along a line. -/
namespace VL
open PySem L2 PySem.Spec PyProof.Rows
/-! ### dicts -/
def k3 (p : P3) : List Key := [.inl p.1, .inl p.2.1, .inl p.2.2]
theorem k3_inj {p q : P3} : k3 p = k3 q ↔ p = q := by
  constructor
  · intro h
    simp only [k3, List.cons.injEq, Sum.inl.injEq, and_true] at h
    exact Prod.ext h.1 (Prod.ext h.2.1 h.2.2)
  · rintro rfl
    rfl
@[simp] theorem keyOf_e3 (p : P3) : keyOf [.int p.1, .int p.2.1, .int p.2.2] = some (k3 p) := rfl
@[simp] theorem lookD_e3 (p : P3) (kvs : List (List Key × D)) : lookD (e3 p) (.dct kvs) = some (lookT kvs (k3 p)) := rfl
@[simp] theorem lookT_nil (k : List Key) : lookT [] k = none := rfl
theorem lookT_cons (kv : List Key × D) (kvs : List (List Key × D)) (k : List Key) : lookT (kv :: kvs) k = if kv.1 = k then some kv.2 else lookT kvs k := by
  unfold lookT
  rw [List.find?_cons]
  by_cases h : kv.1 = k
  · simp [h]
  · simp [h]
theorem lookT_append (xs ys : List (List Key × D)) (k : List Key) : lookT (xs ++ ys) k = (lookT xs k).or (lookT ys k) := by
  induction xs with
  | nil => rfl
  | cons x xs ih =>
    rw [List.cons_append, lookT_cons, lookT_cons, ih]
    split <;> rfl
theorem lookT_none {kvs : List (List Key × D)} {k : List Key} : lookT kvs k = none ↔ ¬ (kvs.any fun kv => decide (kv.1 = k)) = true := by
  induction kvs with
  | nil => simp
  | cons x xs ih =>
    rw [lookT_cons, List.any_cons]
    by_cases h : x.1 = k
    · simp [h]
    · simp [h, ih]
theorem lookT_map {kvs : List (List Key × D)} {k k' : List Key} {v : D} : lookT (kvs.map fun kv => if kv.1 = k then (kv.1, v) else kv) k' = if k' = k then (lookT kvs k').map fun _ => v else lookT kvs k' := by
  induction kvs with
  | nil => simp
  | cons x xs ih =>
    rw [List.map_cons, lookT_cons, lookT_cons, ih]
    by_cases h : x.1 = k <;> by_cases h' : k' = k <;> by_cases h2 : x.1 = k'
    all_goals first
      | (simp [h, h', h2]; done)
      | (subst h'; simp_all; done)
      | (exfalso; apply h'; rw [← h2, h])
      | (rw [if_pos h, if_neg (fun z => h' (z.symm.trans h)), if_neg h', if_neg (fun z => h2 z), if_neg h'])
      | skip
theorem lookT_put (kvs : List (List Key × D)) (k k' : List Key) (v : D) : lookT (putT kvs k v) k' = if k' = k then some v else lookT kvs k' := by
  unfold putT
  by_cases h : (kvs.any fun kv => decide (kv.1 = k)) = true
  · rw [if_pos h, lookT_map]
    by_cases h' : k' = k
    · subst h'
      rw [if_pos rfl, if_pos rfl]
      cases e : lookT kvs k' with
      | none => exact absurd h (lookT_none.mp e)
      | some d => rfl
    · rw [if_neg h', if_neg h']
  · rw [if_neg h, lookT_append, lookT_cons, lookT_nil]
    by_cases h' : k' = k
    · subst h'
      rw [lookT_none.mpr h, if_pos rfl]
      simp
    · rw [if_neg h', if_neg (fun z => h' z.symm), Option.or_none]
theorem putT_len (kvs : List (List Key × D)) (k : List Key) (v : D) : (putT kvs k v).length ≤ kvs.length + 1 := by
  unfold putT
  split <;> simp
@[simp] theorem lfT_nil : lfT [] = true := by simp [lfT]
@[simp] theorem lfT_cons (x : List Key × D) (xs : List (List Key × D)) : lfT (x :: xs) = (lf x.2 && lfT xs) := by simp [lfT]
theorem lfT_append (xs ys : List (List Key × D)) : lfT (xs ++ ys) = (lfT xs && lfT ys) := by
  induction xs with
  | nil => simp
  | cons x xs ih => simp [ih, Bool.and_assoc]
theorem lfT_put {kvs : List (List Key × D)} {k : List Key} {v : D} (h : lfT kvs = true) (hv : lf v = true) : lfT (putT kvs k v) = true := by
  unfold putT
  split
  · induction kvs with
    | nil => rfl
    | cons x xs ih =>
      rw [lfT_cons, Bool.and_eq_true] at h
      rw [List.map_cons, lfT_cons]
      by_cases e : x.1 = k
      · rw [if_pos e]
        simp only [hv, Bool.true_and]
        clear ih
        have : ∀ ys : List (List Key × D), lfT ys = true → lfT (ys.map fun kv => if kv.1 = k then (kv.1, v) else kv) = true := by
          intro ys
          induction ys with
          | nil => intro _; rfl
          | cons y ys ih2 =>
            intro hy
            rw [lfT_cons, Bool.and_eq_true] at hy
            rw [List.map_cons, lfT_cons, ih2 hy.2]
            by_cases e2 : y.1 = k
            · rw [if_pos e2]; simp [hv]
            · rw [if_neg e2]; simp [hy.1]
        exact this xs h.2
      · rw [if_neg e]
        simp only [h.1, Bool.true_and]
        have : ∀ ys : List (List Key × D), lfT ys = true → lfT (ys.map fun kv => if kv.1 = k then (kv.1, v) else kv) = true := by
          intro ys
          induction ys with
          | nil => intro _; rfl
          | cons y ys ih2 =>
            intro hy
            rw [lfT_cons, Bool.and_eq_true] at hy
            rw [List.map_cons, lfT_cons, ih2 hy.2]
            by_cases e2 : y.1 = k
            · rw [if_pos e2]; simp [hv]
            · rw [if_neg e2]; simp [hy.1]
        exact this xs h.2
  · rw [lfT_append, h]
    simp [hv]
/-- the marks of a stone -/
def markD (xs : List P3) (kvs : List (List Key × D)) : List (List Key × D) := xs.foldl (fun acc p => putT acc (k3 p) (.bl true)) kvs
def marksD (xs : List P3) : List (List Key × D) := markD xs []
theorem markD_len : ∀ (xs : List P3) (kvs : List (List Key × D)), (markD xs kvs).length ≤ kvs.length + xs.length
  | [], kvs => by simp [markD]
  | x :: xs, kvs => by
    have := markD_len xs (putT kvs (k3 x) (.bl true))
    have h2 := putT_len kvs (k3 x) (.bl true)
    simp only [markD, List.foldl_cons, List.length_cons] at this ⊢
    omega
theorem markD_lf : ∀ (xs : List P3) (kvs : List (List Key × D)), lfT kvs = true → lfT (markD xs kvs) = true
  | [], _, h => h
  | x :: xs, kvs, h => markD_lf xs (putT kvs (k3 x) (.bl true)) (lfT_put h rfl)
theorem look_markD : ∀ (xs : List P3) (kvs : List (List Key × D)) (p : P3), lookT (markD xs kvs) (k3 p) = if p ∈ xs then some (.bl true) else lookT kvs (k3 p)
  | [], kvs, p => by simp [markD]
  | x :: xs, kvs, p => by
    show lookT (markD xs (putT kvs (k3 x) (.bl true))) (k3 p) = _
    rw [look_markD xs _ p, lookT_put]
    by_cases h : p ∈ xs
    · simp [h]
    · by_cases h2 : p = x
      · subst h2; simp
      · simp [h, h2, k3_inj]
theorem look_marks (xs : List P3) (p : P3) : lookT (marksD xs) (k3 p) = if p ∈ xs then some (.bl true) else none := look_markD xs [] p
@[simp] theorem in_marks (xs : List P3) (p : P3) : inB_ (e3 p) (.dct (marksD xs)) = .ok (decide (p ∈ xs)) := by
  unfold inB_
  rw [lookD_e3, look_marks]
  by_cases h : p ∈ xs <;> simp [h]
/-! ### lists of places, told apart -/
theorem eqvAll_e3s : ∀ xs ys : List P3, PyData.eqvAll (toPA (xs.map e3)) (toPA (ys.map e3)) = decide (xs = ys)
  | [], [] => by simp [toPA, PyData.eqvAll]
  | [], y :: ys => by simp [toPA, PyData.eqvAll]
  | x :: xs, [] => by simp [toPA, PyData.eqvAll]
  | x :: xs, y :: ys => by
    simp only [List.map_cons, toPA, PyData.eqvAll, eqv_e3, eqvAll_e3s xs ys]
    rw [Bool.eq_iff_iff]
    simp
@[simp] theorem eq_e3s (xs ys : List P3) : eqG (.lst (xs.map e3)) (.lst (ys.map e3)) = .ok (.bl (decide (xs = ys))) := by
  have h : eqG (.lst (xs.map e3)) (.lst (ys.map e3)) = if SeqAt.shaped (toP (.lst (xs.map e3))) = true ∧ SeqAt.shaped (toP (.lst (ys.map e3))) = true then M.ok (D.bl (PyData.eqv (toP (.lst (xs.map e3))) (toP (.lst (ys.map e3))))) else M.er := by rfl
  rw [h, if_pos ⟨shaped_e3s xs, shaped_e3s ys⟩]
  simp only [toP, PyData.eqv, eqvAll_e3s]
@[simp] theorem ne_e3s (xs ys : List P3) : neG (.lst (xs.map e3)) (.lst (ys.map e3)) = .ok (.bl (!decide (xs = ys))) := by
  unfold neG notM
  rw [eq_e3s]
  rfl
@[simp] theorem ne_e3 (p q : P3) : neG (e3 p) (e3 q) = .ok (.bl (!decide (p = q))) := by
  unfold neG notM
  rw [eq_e3]
  rfl
/-! ### the first of a kind -/
theorem first_ex (P : Nat → Bool) : ∀ N : Nat, (∀ i, i < N → P i = false) ∨ ∃ k, k < N ∧ P k = true ∧ ∀ i, i < k → P i = false
  | 0 => .inl fun i h => absurd h (Nat.not_lt_zero i)
  | N + 1 => by
    rcases first_ex P N with h | ⟨k, h1, h2, h3⟩
    · cases hN : P N with
      | true => exact .inr ⟨N, Nat.lt_succ_self N, hN, h⟩
      | false =>
        refine .inl fun i hi => ?_
        by_cases e : i = N
        · rw [e]; exact hN
        · exact h i (by omega)
    · exact .inr ⟨k, Nat.lt_succ_of_lt h1, h2, h3⟩
/-- nothing stands ahead of p, looked at along the way -/
def seenB (s w : P3) (M : P3 → Bool) (p : P3) : Bool := (List.range (depth s w p)).all fun i => !M (stp p w (-((i : Int) + 1)))
theorem seen_cases (s w p : P3) (M : P3 → Bool) : (seenB s w M p = true ∧ ∀ i, i < depth s w p → M (stp p w (-((i : Int) + 1))) = false) ∨ (seenB s w M p = false ∧ ∃ k, k < depth s w p ∧ M (stp p w (-((k : Int) + 1))) = true ∧ ∀ i, i < k → M (stp p w (-((i : Int) + 1))) = false) := by
  rcases first_ex (fun i => M (stp p w (-((i : Int) + 1)))) (depth s w p) with h | ⟨k, h1, h2, h3⟩
  · refine .inl ⟨?_, h⟩
    unfold seenB
    rw [List.all_eq_true]
    intro i hi
    rw [h i (List.mem_range.mp hi)]
    rfl
  · refine .inr ⟨?_, k, h1, h2, h3⟩
    unfold seenB
    rw [Bool.eq_false_iff]
    intro hc
    have := List.all_eq_true.mp hc k (List.mem_range.mpr h1)
    simp only [h2] at this
    cases this
/-! ### doors and what is first on a line -/
theorem depth_unique {s w p : P3} {n : Nat} (hs : Sz 100 s) (hw : Nz w) (h1 : ∀ i : Nat, i ≤ n → inB s (stp p w (-(i : Int))) = true) (h2 : inB s (stp p w (-(n : Int) - 1)) = false) : depth s w p = n := by
  have hp : inB s p = true := by have := h1 0 (Nat.zero_le _); simpa using this
  obtain ⟨d1, d2, d3⟩ := depth_spec hs hw hp
  rcases Nat.lt_trichotomy (depth s w p) n with h | h | h
  · have := h1 (depth s w p + 1) h
    rw [show -((depth s w p + 1 : Nat) : Int) = -(depth s w p : Int) - 1 by omega, d2] at this
    cases this
  · exact h
  · have := d1 (n + 1) h
    rw [show -((n + 1 : Nat) : Int) = -(n : Int) - 1 by omega, h2] at this
    cases this
/-- a door: in the block, and what is ahead of it is not -/
def IsDoor (s w d : P3) : Prop := inB s d = true ∧ inB s (stp d w (-1)) = false
theorem door_is {s w p : P3} (hs : Sz 100 s) (hw : Nz w) (hp : inB s p = true) : IsDoor s w (door s w p) := by
  obtain ⟨d1, d2, d3⟩ := depth_spec hs hw hp
  refine ⟨d1 _ (Nat.le_refl _), ?_⟩
  rw [door, stp_stp, show -(depth s w p : Int) + -1 = -(depth s w p : Int) - 1 by omega]
  exact d2
theorem IsDoor.depth {s w d : P3} (hs : Sz 100 s) (hw : Nz w) (h : IsDoor s w d) {i : Nat} (hi : i < fore s w d) : VL.depth s w (stp d w (i : Nat)) = i ∧ VL.door s w (stp d w (i : Nat)) = d := by
  obtain ⟨f1, f2, f3⟩ := fore_spec hs hw h.1
  have e : VL.depth s w (stp d w (i : Nat)) = i := by
    refine depth_unique hs hw (fun j hj => ?_) ?_
    · rw [stp_stp, show (i : Int) + -(j : Int) = ((i - j : Nat) : Int) by omega]
      exact f1 _ (by omega)
    · rw [stp_stp, show (i : Int) + (-(i : Int) - 1) = -1 by omega]
      exact h.2
  refine ⟨e, ?_⟩
  rw [VL.door, e, stp_stp, show (i : Int) + -(i : Int) = 0 by omega, stp_0]
theorem find_range {α : Type} (f : Nat → α) (P : α → Bool) (N : Nat) : (((List.range N).map f).find? P = none ∧ ∀ i, i < N → P (f i) = false) ∨ ∃ k, k < N ∧ ((List.range N).map f).find? P = some (f k) ∧ P (f k) = true ∧ ∀ i, i < k → P (f i) = false := by
  rcases first_ex (fun i => P (f i)) N with h | ⟨k, h1, h2, h3⟩
  · refine .inl ⟨?_, h⟩
    rw [List.find?_eq_none]
    intro x hx
    obtain ⟨i, hi, rfl⟩ := List.mem_map.mp hx
    rw [h i (List.mem_range.mp hi)]
    exact Bool.false_ne_true
  · refine .inr ⟨k, h1, ?_, h2, h3⟩
    rw [List.find?_eq_some_iff_append]
    refine ⟨h2, (List.range k).map f, ((List.range' (k + 1) (N - k - 1)).map f), ?_, ?_⟩
    · rw [List.range_eq_range', show N = k + (1 + (N - k - 1)) by omega, ← List.range'_append_1, List.map_append, List.range_eq_range', Nat.add_comm 1, List.range'_succ]
      simp only [Nat.zero_add, List.map_cons]
      rw [show k + (N - k - 1 + 1) - k - 1 = N - k - 1 by omega]
    · intro x hx
      obtain ⟨i, hi, rfl⟩ := List.mem_map.mp hx
      rw [h3 i (List.mem_range.mp hi)]
      rfl
/-- the first marked place on the line from d on: the one that is seen and has d for its door -/
theorem first_seen {s w d : P3} {M : P3 → Bool} (hs : Sz 100 s) (hw : Nz w) (hd : IsDoor s w d) (p : P3) : (line s w d).find? M = some p ↔ M p = true ∧ inB s p = true ∧ door s w p = d ∧ seenB s w M p = true := by
  obtain ⟨f1, f2, f3⟩ := fore_spec hs hw hd.1
  have hfind := find_range (fun i => stp d w (i : Nat)) M (fore s w d)
  constructor
  · intro h
    rcases hfind with ⟨h0, _⟩ | ⟨k, h1, h0, h2, h3⟩
    · unfold line at h
      rw [h0] at h
      cases h
    · unfold line at h
      rw [h0] at h
      cases h
      obtain ⟨e1, e2⟩ := hd.depth hs hw h1
      refine ⟨h2, f1 k h1, e2, ?_⟩
      unfold seenB
      rw [e1, List.all_eq_true]
      intro i hi
      have hi := List.mem_range.mp hi
      rw [stp_stp, show (k : Int) + -((i : Int) + 1) = ((k - 1 - i : Nat) : Int) by omega, h3 _ (by omega)]
      rfl
  · rintro ⟨h1, h2, h3, h4⟩
    have hlt := depth_lt_fore hs hw h2
    rw [h3] at hlt
    have hp : stp d w (depth s w p : Nat) = p := by rw [← h3]; exact door_step
    have hno (i : Nat) (hi : i < depth s w p) : M (stp d w (i : Nat)) = false := by
      unfold seenB at h4
      have := List.all_eq_true.mp h4 (depth s w p - 1 - i) (List.mem_range.mpr (by omega))
      rw [← h3, door, stp_stp, show -(depth s w p : Int) + (i : Int) = -(((depth s w p - 1 - i : Nat) : Int) + 1) by omega]
      simpa using this
    rcases hfind with ⟨_, h0⟩ | ⟨k, k1, k0, k2, k3⟩
    · have := h0 _ hlt
      rw [hp, h1] at this
      cases this
    · have hk : k = depth s w p := by
        rcases Nat.lt_trichotomy k (depth s w p) with q | q | q
        · rw [hno k q] at k2; cases k2
        · exact q
        · have := k3 _ q
          rw [hp, h1] at this
          cases this
      unfold line
      rw [k0, hk, hp]
/-- the last of a list that has a mark, where the mark singles it out -/
theorem fold_last {α : Type} (T : Option α) (P : α → Bool) : ∀ (ys : List α) (acc : Option α), (∀ p, p ∈ ys → P p = true → T = some p) → ys.foldl (fun acc p => if P p = true then some p else acc) acc = if ys.any P = true then T else acc
  | [], acc, _ => by simp
  | y :: ys, acc, h => by
    rw [List.foldl_cons, fold_last T P ys _ fun p hp => h p (List.mem_cons_of_mem _ hp), List.any_cons]
    by_cases hy : P y = true
    · have := h y List.mem_cons_self hy
      rw [if_pos hy, hy, this]
      simp
    · simp [hy]
/-! ### order -/
def lt3 (p q : P3) : Bool := HT.lexLt [p.1, p.2.1, p.2.2] [q.1, q.2.1, q.2.2]
@[simp] theorem lt_e3 (p q : P3) : ltG (e3 p) (e3 q) = .ok (.bl (lt3 p q)) := rfl
theorem lt3_iff {p q : P3} : lt3 p q = true ↔ p.1 < q.1 ∨ (p.1 = q.1 ∧ (p.2.1 < q.2.1 ∨ (p.2.1 = q.2.1 ∧ p.2.2 < q.2.2))) := by
  unfold lt3
  simp only [HT.lexLt]
  by_cases h1 : p.1 = q.1
  · rw [if_pos h1]
    by_cases h2 : p.2.1 = q.2.1
    · rw [if_pos h2]
      by_cases h3 : p.2.2 = q.2.2
      · rw [if_pos h3]; simp only [Bool.false_eq_true, false_iff]; omega
      · rw [if_neg h3]; simp only [decide_eq_true_eq]; omega
    · rw [if_neg h2]; simp only [decide_eq_true_eq]; omega
  · rw [if_neg h1]; simp only [decide_eq_true_eq]; omega
def Up (xs : List P3) : Prop := xs.Pairwise fun p q => lt3 p q = true
theorem Up.nodup {xs : List P3} (h : Up xs) : xs.Nodup := List.Pairwise.imp (fun {a b} h e => by
  subst e
  have := lt3_iff.mp h
  omega) h
theorem Up.sub {xs ys : List P3} (h : Up ys) (hs : xs.Sublist ys) : Up xs := List.Pairwise.sublist hs h
theorem rng_up (n : Int) : (rng n).Pairwise (· < ·) := by
  unfold rng
  rw [List.pairwise_map]
  exact List.Pairwise.imp (fun {a b} (h : a < b) => Int.ofNat_lt.mpr h) (List.pairwise_lt_range (n := n.toNat))
theorem places_up (s : P3) : Up (places s) := by
  unfold Up places
  rw [List.pairwise_flatMap]
  refine ⟨fun x _ => ?_, List.Pairwise.imp (fun {a b} (h : a < b) => ?_) (rng_up s.1)⟩
  · rw [List.pairwise_flatMap]
    refine ⟨fun y _ => ?_, List.Pairwise.imp (fun {a b} (h : a < b) => ?_) (rng_up s.2.1)⟩
    · rw [List.pairwise_map]
      exact List.Pairwise.imp (fun {a b} (h : a < b) => show lt3 (x, y, a) (x, y, b) = true from lt3_iff.mpr (.inr ⟨rfl, .inr ⟨rfl, h⟩⟩)) (rng_up s.2.2)
    · intro p hp q hq
      obtain ⟨z, _, rfl⟩ := List.mem_map.mp hp
      obtain ⟨z', _, rfl⟩ := List.mem_map.mp hq
      exact lt3_iff.mpr (.inr ⟨rfl, .inl h⟩)
  · intro p hp q hq
    obtain ⟨y, _, hp⟩ := List.mem_flatMap.mp hp
    obtain ⟨z, _, rfl⟩ := List.mem_map.mp hp
    obtain ⟨y', _, hq⟩ := List.mem_flatMap.mp hq
    obtain ⟨z', _, rfl⟩ := List.mem_map.mp hq
    exact lt3_iff.mpr (by simp only; omega)
theorem stp_inj {p w : P3} {a b : Int} (hw : Nz w) (h : stp p w a = stp p w b) : a = b := by
  simp only [stp, Prod.mk.injEq] at h
  obtain ⟨h1, h2, h3⟩ := h
  rcases hw with hw | hw | hw
  · exact Int.eq_of_mul_eq_mul_right hw (by omega)
  · exact Int.eq_of_mul_eq_mul_right hw (by omega)
  · exact Int.eq_of_mul_eq_mul_right hw (by omega)
theorem mul_lt6 {m a n : Int} (hm : 0 ≤ m) (ha : a ≠ 0) (h : -n < m * a ∧ m * a < n) : m < n := by
  rcases Int.lt_or_gt_of_ne ha with h1 | h1
  · have : m * a ≤ m * -1 := Int.mul_le_mul_of_nonneg_left (by omega) hm
    omega
  · have : m * 1 ≤ m * a := Int.mul_le_mul_of_nonneg_left (by omega) hm
    omega
theorem stp_far {n : Int} {s w p : P3} {m : Int} (hs : Sz n s) (hw : Nz w) (hm : 0 ≤ m) (hp : inB s p = true) (hq : inB s (stp p w m) = true) : m < n := by
  rw [inB_iff] at hp hq
  obtain ⟨⟨a1, a2⟩, ⟨b1, b2⟩, ⟨c1, c2⟩⟩ := hs
  simp only [stp] at hq
  rcases hw with hw | hw | hw
  · exact Int.lt_of_lt_of_le (mul_lt6 (n := s.1) hm hw (by omega)) a2
  · exact Int.lt_of_lt_of_le (mul_lt6 (n := s.2.1) hm hw (by omega)) b2
  · exact Int.lt_of_lt_of_le (mul_lt6 (n := s.2.2) hm hw (by omega)) c2
/-- seen: nothing marked behind it in the block -/
theorem seen_iff {s w p : P3} {M : P3 → Bool} : seenB s w M p = true ↔ ∀ i : Nat, i < depth s w p → M (stp p w (-((i : Int) + 1))) = false := by
  unfold seenB
  rw [List.all_eq_true]
  constructor
  · intro h i hi
    simpa using h i (List.mem_range.mpr hi)
  · intro h i hi
    rw [h i (List.mem_range.mp hi)]
    rfl
theorem between {a b n i m : Int} (ha : 0 ≤ a ∧ a < n) (hb : 0 ≤ a + -m * b ∧ a + -m * b < n) (hi : 0 ≤ i ∧ i ≤ m) : 0 ≤ a + -i * b ∧ a + -i * b < n := by
  rcases Int.lt_or_le b 0 with h | h
  · have h1 : i * b ≤ 0 := Int.mul_nonpos_of_nonneg_of_nonpos hi.1 (by omega)
    have h2 : m * b ≤ i * b := Int.mul_le_mul_of_nonpos_right hi.2 (by omega)
    rw [Int.neg_mul] at hb ⊢
    omega
  · have h1 : 0 ≤ i * b := Int.mul_nonneg hi.1 h
    have h2 : i * b ≤ m * b := Int.mul_le_mul_of_nonneg_right hi.2 h
    rw [Int.neg_mul] at hb ⊢
    omega
theorem convex {s w p : P3} {m : Nat} (hw : Nz w) (hp : inB s p = true) (hq : inB s (stp p w (-(m : Int))) = true) (i : Nat) (hi : i ≤ m) : inB s (stp p w (-(i : Int))) = true := by
  rw [inB_iff] at hp hq ⊢
  simp only [stp] at hq ⊢
  exact ⟨between hp.1 hq.1 ⟨by omega, by omega⟩, between hp.2.1 hq.2.1 ⟨by omega, by omega⟩, between hp.2.2 hq.2.2 ⟨by omega, by omega⟩⟩
theorem lt_depth {s w p : P3} {i : Nat} (hs : Sz 100 s) (hw : Nz w) (hp : inB s p = true) (hq : inB s (stp p w (-(i : Int))) = true) : i ≤ depth s w p := by
  obtain ⟨d1, d2, d3⟩ := depth_spec hs hw hp
  refine Nat.le_of_not_lt fun hlt => ?_
  -- the block is convex
  have hx := convex hw hp hq (depth s w p + 1) (by omega)
  rw [show -((depth s w p + 1 : Nat) : Int) = -(depth s w p : Int) - 1 by omega, d2] at hx
  cases hx
end VL
set_option Elab.async false
set_option linter.all false
set_option maxRecDepth 100000
/-! VM5: dicts built place by place, doors, signs, looks. -/
namespace VL
open PySem L2 PySem.Spec PyProof.Rows
/-! ### a dict built item by item -/
def putAll (kvs : List (List Key × D)) (l : List (P3 × D)) : List (List Key × D) := l.foldl (fun acc x => putT acc (k3 x.1) x.2) kvs
def mkD (l : List (P3 × D)) : List (List Key × D) := putAll [] l
theorem putAll_len : ∀ (l : List (P3 × D)) (kvs : List (List Key × D)), (putAll kvs l).length ≤ kvs.length + l.length
  | [], kvs => by simp [putAll]
  | x :: xs, kvs => by
    have := putAll_len xs (putT kvs (k3 x.1) x.2)
    have h2 := putT_len kvs (k3 x.1) x.2
    simp only [putAll, List.foldl_cons, List.length_cons] at this ⊢
    omega
theorem putAll_lf : ∀ (l : List (P3 × D)) (kvs : List (List Key × D)), lfT kvs = true → (∀ x, x ∈ l → lf x.2 = true) → lfT (putAll kvs l) = true
  | [], _, h, _ => h
  | x :: xs, kvs, h, hl => putAll_lf xs (putT kvs (k3 x.1) x.2) (lfT_put h (hl x List.mem_cons_self)) fun y hy => hl y (List.mem_cons_of_mem _ hy)
theorem look_putAll (f : P3 → D) : ∀ (ps : List P3) (kvs : List (List Key × D)) (p : P3), lookT (putAll kvs (ps.map fun q => (q, f q))) (k3 p) = if p ∈ ps then some (f p) else lookT kvs (k3 p)
  | [], kvs, p => by simp [putAll]
  | x :: xs, kvs, p => by
    show lookT (putAll (putT kvs (k3 x) (f x)) (xs.map fun q => (q, f q))) (k3 p) = _
    rw [look_putAll f xs _ p, lookT_put]
    by_cases h : p ∈ xs
    · simp [h]
    · by_cases h2 : p = x
      · subst h2; simp
      · simp [h, h2, k3_inj]
theorem look_mkD (f : P3 → D) (ps : List P3) (p : P3) : lookT (mkD (ps.map fun q => (q, f q))) (k3 p) = if p ∈ ps then some (f p) else none := look_putAll f ps [] p
theorem in_mkD (f : P3 → D) (ps : List P3) (p : P3) : inB_ (e3 p) (.dct (mkD (ps.map fun q => (q, f q)))) = .ok (decide (p ∈ ps)) := by
  unfold inB_
  rw [lookD_e3, look_mkD]
  by_cases h : p ∈ ps <;> simp [h]
theorem idx_dct (p : P3) (kvs : List (List Key × D)) (d : D) (h : lookT kvs (k3 p) = some d) : idxG (.dct kvs) (e3 p) = .ok d := by
  show (match keyOf [.int p.1, .int p.2.1, .int p.2.2] with | some ks => (match lookT kvs ks with | some d => M.ok d | none => .er) | none => .er) = _
  rw [keyOf_e3]
  simp only [h]
/-- a loop that builds a dict -/
theorem forR_put {tg : D → Rho → Option Rho} {b : Rho → Res} {β : Type} (e : β → D) (st : List (List Key × D) → Rho) (g : β → P3 × D) : ∀ (xs : List β) (kvs : List (List Key × D)), kvs.length + xs.length ≤ 1000000 →
    (∀ kvs x, x ∈ xs → kvs.length < 1000000 → turn tg b (e x) (st kvs) = .nx (st (putT kvs (k3 (g x).1) (g x).2))) → forR tg b (xs.map e) (st kvs) = .nx (st (putAll kvs (xs.map g)))
  | [], _, _, _ => rfl
  | x :: xs, kvs, hl, h => by
    have h2 := putT_len kvs (k3 (g x).1) (g x).2
    rw [List.length_cons] at hl
    rw [List.map_cons, forR_cons, h kvs x List.mem_cons_self (by omega), next_nx]
    exact forR_put e st g xs _ (by omega) fun kvs y hy => h kvs y (List.mem_cons_of_mem _ hy)
/-! ### doors -/
def doors (s w : P3) : List P3 := (places s).filter fun p => !inB s (stp p w (-1))
theorem mem_doors {s w p : P3} : p ∈ doors s w ↔ IsDoor s w p := by
  unfold doors IsDoor
  rw [List.mem_filter, mem_places, inB_iff]
  simp
theorem doors_up (s w : P3) : Up (doors s w) := (places_up s).sub List.filter_sublist
theorem door_mem {s w p : P3} (hs : Sz 100 s) (hw : Nz w) (hp : inB s p = true) : door s w p ∈ doors s w := mem_doors.mpr (door_is hs hw hp)
/-! ### signs -/
def eS (c : Nat) : D := .str ⟨#[c]⟩
@[simp] theorem lf_eS (c : Nat) : lf (eS c) = true := by simp [eS]
def sg (ds : List P3) (cs : List Nat) (p : P3) : Nat := cs.getD (ds.idxOf p) 0
theorem zip_sg : ∀ (ds : List P3) (cs : List Nat), ds.Nodup → cs.length = ds.length → ds.zip cs = ds.map fun p => (p, sg ds cs p)
  | [], cs, _, _ => by simp
  | d :: ds, [], _, h => by simp at h
  | d :: ds, c :: cs, hn, h => by
    rw [List.nodup_cons] at hn
    rw [List.zip_cons_cons, List.map_cons, zip_sg ds cs hn.2 (by simpa using h)]
    congr 1
    · simp [sg, List.idxOf_cons]
    · refine List.map_congr_left fun p hp => ?_
      have : ¬ d = p := fun e => hn.1 (e ▸ hp)
      have hb : (d == p) = false := beq_eq_false_iff_ne.mpr this
      simp [sg, List.idxOf_cons, hb]
theorem zipS_map : ∀ (ds : List P3) (cs : List Nat), zipS (ds.map e3) cs = (ds.zip cs).map fun z => D.tup [e3 z.1, eS z.2]
  | [], cs => by simp [zipS]
  | d :: ds, [] => by simp [zipS]
  | d :: ds, c :: cs => by simp [zipS, zipS_map ds cs, eS]
theorem zipS_sg {ds : List P3} {cs : List Nat} (hn : ds.Nodup) (hl : cs.length = ds.length) : zipS (ds.map e3) cs = ds.map fun p => D.tup [e3 p, eS (sg ds cs p)] := by
  rw [zipS_map, zip_sg ds cs hn hl, List.map_map]
  rfl
/-! ### looks -/
structure Lk where
  w : P3
  pic : List Nat
def eL (l : Lk) : D := .tup [e3 l.w, .str ⟨l.pic.toArray⟩]
@[simp] theorem lf_eL (l : Lk) : lf (eL l) = true := by simp [eL]
/-- a look of the block: a way, a sign for each door -/
def LkOk (s : P3) (l : Lk) : Prop := Way l.w ∧ l.pic.length = (doors s l.w).length
/-- the sign a place meets -/
def sign (s : P3) (l : Lk) (p : P3) : Nat := sg (doors s l.w) l.pic (door s l.w p)
theorem doors_len (s w : P3) : (doors s w).length ≤ (places s).length := List.length_filter_le _ _
theorem str1_inj {a b : Nat} : (⟨#[a]⟩ : Str) = ⟨#[b]⟩ ↔ a = b := by
  constructor
  · intro h
    have h2 := congrArg (fun s : Str => s.cps.toList) h
    simpa using h2
  · rintro rfl
    rfl
theorem sky_eq : (Str.ofString ".") = ⟨#[46]⟩ := by decide +kernel
theorem veil_eq : (Str.ofString "?") = ⟨#[63]⟩ := by decide +kernel
@[simp] theorem eq_eS (a b : Nat) : eqG (eS a) (eS b) = .ok (.bl (decide (a = b))) := by
  show eqG (.str ⟨#[a]⟩) (.str ⟨#[b]⟩) = _
  rw [eq_ss]
  congr 2
  exact decide_eq_decide.mpr str1_inj
@[simp] theorem ne_eS (a b : Nat) : neG (eS a) (eS b) = .ok (.bl (!decide (a = b))) := by
  unfold neG notM
  rw [eq_eS]
  rfl
@[simp] theorem eq_sky (a : Nat) : eqG (eS a) (.str (Str.ofString ".")) = .ok (.bl (decide (a = 46))) := by rw [sky_eq]; exact eq_eS a 46
@[simp] theorem ne_veil (a : Nat) : neG (eS a) (.str (Str.ofString "?")) = .ok (.bl (!decide (a = 63))) := by rw [veil_eq]; exact ne_eS a 63
@[simp] theorem eq_veil (a : Nat) : eqG (eS a) (.str (Str.ofString "?")) = .ok (.bl (decide (a = 63))) := by rw [veil_eq]; exact eq_eS a 63
@[simp] theorem ne_sky (a : Nat) : neG (eS a) (.str (Str.ofString ".")) = .ok (.bl (!decide (a = 46))) := by rw [sky_eq]; exact ne_eS a 46
/-! ### what bars a grain -/
/-- of what each look tells: seen or not, and the sign; the looks told of so far, or the look that shows sky -/
def barL : Nat → List (Nat × Nat) → List (Bool × Nat) → Nat ⊕ List (Nat × Nat)
  | _, told, [] => .inr told
  | n, told, (sn, c) :: r => if sn = true then (if c = 46 then .inl n else if c ≠ 63 then barL (n + 1) (told ++ [(n, c)]) r else barL (n + 1) told r) else barL (n + 1) told r
def barT : List (Nat × Nat) → Option (Nat × Nat)
  | [] => none
  | t :: ts => ((t :: ts).find? fun z => !decide (z.2 = t.2)).map fun z => (t.1, z.1)
def bar (v : List (Bool × Nat)) : Option (Nat × Nat) := match barL 0 [] v with
  | .inl n => some (n, n)
  | .inr told => barT told
def encB : Option (Nat × Nat) → D
  | some z => .tup [.int (z.1 : Nat), .int (z.2 : Nat)]
  | none => .non
/-- a view: the places it tells of, and the sign at each -/
structure Vw where
  ps : List P3
  f : P3 → Nat
def eW (v : Vw) : D := .dct (mkD (v.ps.map fun p => (p, eS (v.f p))))
def entW (p : P3) (v : Vw) : Bool × Nat := (decide (p ∈ v.ps), v.f p)
theorem in_eW (p : P3) (v : Vw) : inB_ (e3 p) (eW v) = .ok (decide (p ∈ v.ps)) := in_mkD (fun p => eS (v.f p)) v.ps p
theorem idx_eW (p : P3) (v : Vw) (h : p ∈ v.ps) : idxG (eW v) (e3 p) = .ok (eS (v.f p)) := idx_dct _ _ _ (by rw [look_mkD (fun p => eS (v.f p)), if_pos h])
theorem enumD_cons (n : Nat) (x : D) (xs : List D) : enumD n (x :: xs) = .tup [.int (n : Nat), x] :: enumD (n + 1) xs := rfl
/-- those told of stand in the views -/
def ToldOk (p : P3) (vs : List Vw) (told : List (Nat × Nat)) : Prop := ∀ z, z ∈ told → ∃ v, vs[z.1]? = some v ∧ p ∈ v.ps ∧ v.f p = z.2
theorem barL_ok (p : P3) (vs : List Vw) : ∀ (rest : List Vw) (n : Nat) (told : List (Nat × Nat)), (∀ i v, rest[i]? = some v → vs[n + i]? = some v) → ToldOk p vs told → ∀ t, barL n told (rest.map (entW p)) = .inr t → ToldOk p vs t
  | [], n, told, _, ht, t, h => by cases h; exact ht
  | v :: r, n, told, hv, ht, t, h => by
    have hv' : ∀ i v', r[i]? = some v' → vs[n + 1 + i]? = some v' := fun i v' e => by
      have := hv (i + 1) v' (by simpa using e)
      rwa [show n + (i + 1) = n + 1 + i by omega] at this
    rw [List.map_cons, show entW p v = (decide (p ∈ v.ps), v.f p) from rfl, barL] at h
    by_cases c : p ∈ v.ps
    · rw [if_pos (decide_eq_true c)] at h
      by_cases c2 : v.f p = 46
      · rw [if_pos c2] at h; cases h
      · rw [if_neg c2] at h
        by_cases c3 : v.f p ≠ 63
        · rw [if_pos c3] at h
          refine barL_ok p vs r (n + 1) _ hv' (fun z hz => ?_) t h
          rcases List.mem_append.mp hz with hz | hz
          · exact ht z hz
          · rw [List.mem_singleton.mp hz]
            exact ⟨v, by have := hv 0 v rfl; simpa using this, c, rfl⟩
        · rw [if_neg c3] at h
          exact barL_ok p vs r (n + 1) told hv' ht t h
    · rw [if_neg (by simpa using c)] at h
      exact barL_ok p vs r (n + 1) told hv' ht t h
def seenL (s : P3) (l : Lk) (xs : List P3) : P3 → Bool := seenB s l.w fun q => decide (q ∈ xs)
def entL (s : P3) (xs : List P3) (p : P3) (l : Lk) : Bool × Nat := (seenL s l xs p, sign s l p)
def encT (z : Nat × Nat) : D := .tup [.int (z.1 : Nat), eS z.2]
/-! ### texts of signs -/
theorem nil_eq : (Str.ofString "") = ⟨#[]⟩ := by decide +kernel
theorem strsD_eS : ∀ cs : List Nat, strsD (cs.map eS) = some (cs.map fun c => (⟨#[c]⟩ : Str))
  | [] => rfl
  | c :: cs => by
    show (strsD (cs.map eS)).map ((⟨#[c]⟩ : Str) :: ·) = _
    rw [strsD_eS cs]
    rfl
theorem join_sing : ∀ cs : List Nat, Txt.join ⟨#[]⟩ (cs.map fun c => (⟨#[c]⟩ : Str)) = ⟨cs.toArray⟩ := by
  intro cs
  have h : ∀ cs : List Nat, Str.join ⟨#[]⟩ (cs.map fun c => (⟨#[c]⟩ : Str)) = ⟨cs.toArray⟩ := by
    intro cs
    induction cs with
    | nil => rfl
    | cons c cs ih =>
      rw [List.map_cons, PyProof.Rows.join_nil_cons, ih]
      show (⟨#[c] ++ cs.toArray⟩ : Str) = _
      congr 1
      simp
  have e : Txt.join ⟨#[]⟩ (cs.map fun c => (⟨#[c]⟩ : Str)) = Str.join ⟨#[]⟩ (cs.map fun c => (⟨#[c]⟩ : Str)) := eq_of_beq (PyProof.Rows.join_plain_closes _ _)
  rw [e, h]
theorem sum_ones : ∀ cs : List Nat, ((cs.map fun c => (⟨#[c]⟩ : Str)).map (·.length)).sum = cs.length
  | [] => rfl
  | c :: cs => by
    rw [List.map_cons, List.map_cons, List.sum_cons, sum_ones cs, List.length_cons, Nat.add_comm]
    rfl
theorem join_eS (cs : List Nat) (h : cs.length ≤ 1000000) : joinG (Str.ofString "") (.lst (cs.map eS)) = .ok (.str ⟨cs.toArray⟩) := by
  unfold joinG
  simp only [strsD_eS, nil_eq]
  rw [if_pos (by
    rw [sum_ones, show (⟨#[]⟩ : Str).length = 0 from rfl]
    omega), join_sing]
theorem atI_str {z : Str} {i : Int} {c : Nat} (hz : z.length ≤ sizeLine) (h : atI z.cps.toList i = some c) : idxG (.str z) (.int i) = .ok (eS c) := by
  show (if z.length ≤ sizeLine then (match atI z.cps.toList i with | some c => M.ok (D.str ⟨#[c]⟩) | none => .er) else .er) = _
  rw [if_pos hz, h]
  rfl
def abc : List Nat := [97, 98, 99, 100, 101, 102, 103, 104, 105, 106, 107, 108, 109, 110, 111, 112, 113, 114, 115, 116, 117, 118, 119, 120, 121, 122]
theorem abc_eq : (Str.ofString "abcdefghijklmnopqrstuvwxyz") = ⟨abc.toArray⟩ := by decide +kernel
theorem abz_eq : (Str.ofString "abz") = ⟨#[97, 98, 122]⟩ := by decide +kernel
/-- a sign: a letter, the sky, the veil -/
def Letter (c : Nat) : Prop := 97 ≤ c ∧ c ≤ 122
def Sgn (c : Nat) : Prop := c = 46 ∨ c = 63 ∨ Letter c
theorem abc_all : ∀ c, c ∈ abc → Letter c := by
  intro c h
  have : (abc.all fun c => decide (97 ≤ c ∧ c ≤ 122)) = true := by decide
  have h2 := of_decide_eq_true (List.all_eq_true.mp this c h)
  exact h2
theorem cut_tail (x : D) (xs : List D) : cutD (x :: xs) (some 1) none = xs := by
  unfold cutD
  have e : HT.sIx (x :: xs).length 0 (some 1) = 1 := by
    have := HT.sIx_nat (x :: xs).length 0 1
    rw [List.length_cons] at this ⊢
    rw [show min 1 (xs.length + 1) = 1 by omega] at this
    exact this
  rw [HT.sIx_none, e, List.drop_one, List.tail_cons, List.length_cons]
  exact List.take_of_length_le (by omega)
/-! ### a snapped picture -/
def snapF (s w : P3) (M : P3 → Bool) (f : P3 → Nat) (kvs : List (List Key × D)) (ys : List P3) : List (List Key × D) := ys.foldl (fun acc p => if seenB s w M p = true then putT acc (k3 (door s w p)) (eS (f p)) else acc) kvs
theorem snapF_len (s w : P3) (M : P3 → Bool) (f : P3 → Nat) : ∀ (ys : List P3) (kvs : List (List Key × D)), (snapF s w M f kvs ys).length ≤ kvs.length + ys.length
  | [], kvs => by simp [snapF]
  | y :: ys, kvs => by
    have h := snapF_len s w M f ys (if seenB s w M y = true then putT kvs (k3 (door s w y)) (eS (f y)) else kvs)
    have h2 : (if seenB s w M y = true then putT kvs (k3 (door s w y)) (eS (f y)) else kvs).length ≤ kvs.length + 1 := by
      split
      · exact putT_len _ _ _
      · omega
    simp only [snapF, List.foldl_cons, List.length_cons] at h ⊢
    omega
theorem look_snapF {s w d : P3} {M : P3 → Bool} (f : P3 → Nat) (T : Option P3) : ∀ (ys : List P3) (kvs : List (List Key × D)), (∀ p, p ∈ ys → seenB s w M p = true → door s w p = d → T = some p) →
    lookT (snapF s w M f kvs ys) (k3 d) = if (ys.any fun p => seenB s w M p && decide (door s w p = d)) = true then T.map fun p => eS (f p) else lookT kvs (k3 d)
  | [], kvs, _ => by simp [snapF]
  | y :: ys, kvs, h => by
    have ih := look_snapF f T ys (if seenB s w M y = true then putT kvs (k3 (door s w y)) (eS (f y)) else kvs) fun p hp => h p (List.mem_cons_of_mem _ hp)
    simp only [snapF, List.foldl_cons] at ih ⊢
    rw [ih, List.any_cons]
    by_cases ha : (ys.any fun p => seenB s w M p && decide (door s w p = d)) = true
    · rw [if_pos ha, ha, Bool.or_true, if_pos rfl]
    · rw [if_neg ha]
      have ha' : (ys.any fun p => seenB s w M p && decide (door s w p = d)) = false := by simpa using ha
      rw [ha', Bool.or_false]
      by_cases h1 : seenB s w M y = true
      · rw [if_pos h1, lookT_put, h1, Bool.true_and]
        by_cases h2 : door s w y = d
        · rw [decide_eq_true h2, if_pos (by rw [h2]), if_pos rfl, h y List.mem_cons_self h1 h2]
          rfl
        · rw [decide_eq_false h2, if_neg (fun z => h2 (k3_inj.mp z.symm)), if_neg Bool.false_ne_true]
      · have h1' : seenB s w M y = false := by simpa using h1
        rw [if_neg h1, h1', Bool.false_and, if_neg Bool.false_ne_true]
/-- the sign a door shows: the letter of the first place of the stone on its line, else the sky -/
def shot (s w : P3) (xs : List P3) (f : P3 → Nat) (d : P3) : Nat := match (line s w d).find? (fun q => decide (q ∈ xs)) with
  | some p => f p
  | none => 46
theorem look_shot {s w d : P3} (hs : Sz 100 s) (hw : Nz w) (hd : IsDoor s w d) (xs : List P3) (f : P3 → Nat) (hx : ∀ p, p ∈ xs → inB s p = true) :
    (lookT (snapF s w (fun q => decide (q ∈ xs)) f [] xs) (k3 d)).getD (eS 46) = eS (shot s w xs f d) := by
  have hT (p : P3) := first_seen (M := fun q => decide (q ∈ xs)) hs hw hd p
  rw [look_snapF f ((line s w d).find? fun q => decide (q ∈ xs)) xs [] fun p hp h1 h2 => (hT p).mpr ⟨decide_eq_true hp, hx p hp, h2, h1⟩]
  unfold shot
  cases hf : (line s w d).find? fun q => decide (q ∈ xs) with
  | none => split <;> rfl
  | some p =>
    obtain ⟨h1, h2, h3, h4⟩ := (hT p).mp hf
    rw [if_pos (List.any_eq_true.mpr ⟨p, of_decide_eq_true h1, by rw [h4, decide_eq_true h3]; rfl⟩)]
    rfl
theorem sg_mem {ds : List P3} {cs : List Nat} {p : P3} (hp : p ∈ ds) (hl : cs.length = ds.length) : sg ds cs p ∈ cs := by
  have hi : ds.idxOf p < cs.length := by rw [hl]; exact List.idxOf_lt_length_of_mem hp
  unfold sg
  rw [List.getD_eq_getElem?_getD, List.getElem?_eq_getElem hi]
  exact List.getElem_mem hi
theorem shot_sgn {s w d : P3} {xs : List P3} {cs : List Nat} (hl : cs.length = xs.length) (hc : ∀ c, c ∈ cs → Letter c) : Sgn (shot s w xs (sg xs cs) d) := by
  unfold shot
  cases hf : (line s w d).find? fun q => decide (q ∈ xs) with
  | none => exact .inl rfl
  | some p =>
    have := List.find?_some hf
    exact .inr (.inr (hc _ (sg_mem (of_decide_eq_true this) hl)))
/-- a look whose signs are signs -/
def LkSg (l : Lk) : Prop := ∀ c, c ∈ l.pic → Sgn c
end VL
set_option Elab.async false
set_option linter.all false
set_option maxRecDepth 100000
/-! VM6: rows of what is barred; carving. -/
namespace VL
open PySem L2 PySem.Spec PyProof.Rows
/-! ### lists of looks -/
theorem eqvAll_eLs : ∀ ls : List Lk, PyData.eqvAll (toPA (ls.map eL)) (toPA (ls.map eL)) = true
  | [] => by simp [toPA, PyData.eqvAll]
  | l :: ls => by
    have := eqvAll_eLs ls
    simp [toPA, PyData.eqvAll, eL, e3, toP, PyData.eqv, this]
theorem strOk_sg (l : Lk) (h : LkSg l) : PyData.strOk ⟨l.pic.toArray⟩ = true := by
  unfold PyData.strOk
  simp only [List.all_toArray, List.all_eq_true, decide_eq_true_eq]
  intro c hc
  have := h c hc
  unfold Sgn Letter at this
  omega
theorem canLay_eLs : ∀ ls : List Lk, (∀ l, l ∈ ls → LkSg l) → PyData.canLayAll0 (toPA (ls.map eL)) = true
  | [], _ => by simp [toPA, PyData.canLayAll0]
  | l :: ls, h => by
    have := canLay_eLs ls fun l hl => h l (List.mem_cons_of_mem _ hl)
    have h2 := strOk_sg l (h l List.mem_cons_self)
    simp [toPA, PyData.canLayAll0, this, eL, e3, toP, PyData.canLay0, h2]
theorem depth_eLs : ∀ ls : List Lk, PyData.depthAll (toPA (ls.map eL)) ≤ 4
  | [] => by simp [toPA, PyData.depthAll]
  | l :: ls => by
    have := depth_eLs ls
    simp [toPA, PyData.depthAll, eL, e3, toP, PyData.depth]
    omega
theorem eq_eLs (ls : List Lk) (hsg : ∀ l, l ∈ ls → LkSg l) : eqG (.lst (ls.map eL)) (.lst (ls.map eL)) = .ok (.bl true) := by
  have sh : SeqAt.shaped (toP (.lst (ls.map eL))) = true := by
    have h := depth_eLs ls
    simp only [toP, SeqAt.shaped, PyData.canLay0, PyData.depth, canLay_eLs ls hsg, Bool.true_and, decide_eq_true_eq]
    omega
  have h : eqG (.lst (ls.map eL)) (.lst (ls.map eL)) = if SeqAt.shaped (toP (.lst (ls.map eL))) = true ∧ SeqAt.shaped (toP (.lst (ls.map eL))) = true then M.ok (D.bl (PyData.eqv (toP (.lst (ls.map eL))) (toP (.lst (ls.map eL))))) else M.er := by rfl
  rw [h, if_pos ⟨sh, sh⟩]
  simp only [toP, PyData.eqv, eqvAll_eLs]
theorem lfA_eLs (ls : List Lk) : lfA (ls.map eL) = true := lfA_map lf_eL ls
abbrev BRow := P3 × Nat × Nat
def eR (r : BRow) : D := .tup [e3 r.1, .int (r.2.1 : Nat), .int (r.2.2 : Nat)]
@[simp] theorem lf_eR (r : BRow) : lf (eR r) = true := by simp [eR]
@[simp] theorem lfA_eR (xs : List BRow) : lfA (xs.map eR) = true := lfA_map lf_eR xs
@[simp] theorem idx_eR_0 (r : BRow) : idxG (eR r) (.int 0) = .ok (e3 r.1) := by simp [eR]
@[simp] theorem idx_eR_1 (r : BRow) : idxG (eR r) (.int 1) = .ok (.int (r.2.1 : Nat)) := by simp [eR]
@[simp] theorem idx_eR_2 (r : BRow) : idxG (eR r) (.int 2) = .ok (.int (r.2.2 : Nat)) := by simp [eR]
@[simp] theorem inst_tuple_eR (r : BRow) : instD .tuple (eR r) = true := rfl
@[simp] theorem len_eR (r : BRow) : lenG [eR r] = .ok (.int 3) := rfl
def rowD (f : P3 → Option (Nat × Nat)) (p : P3) : List D := match f p with
  | some z => [eR (p, z)]
  | none => []
def rowL (f : P3 → Option (Nat × Nat)) (xs : List P3) : List BRow := xs.filterMap fun p => (f p).map fun z => (p, z)
theorem rowL_flat (f : P3 → Option (Nat × Nat)) : ∀ xs : List P3, xs.flatMap (rowD f) = (rowL f xs).map eR
  | [] => rfl
  | x :: xs => by
    rw [List.flatMap_cons, rowL_flat f xs]
    unfold rowL rowD
    cases h : f x with
    | none => rw [List.filterMap_cons_none (by rw [h]; rfl)]; rfl
    | some z => rw [List.filterMap_cons_some (b := (x, z)) (by rw [h]; rfl)]; rfl
theorem rowD_len (f : P3 → Option (Nat × Nat)) (p : P3) : (rowD f p).length ≤ 1 := by
  unfold rowD
  cases f p <;> simp
theorem rowL_len (f : P3 → Option (Nat × Nat)) (xs : List P3) : (rowL f xs).length ≤ xs.length := List.length_filterMap_le _ _
theorem mem_rowL {f : P3 → Option (Nat × Nat)} {xs : List P3} {r : BRow} : r ∈ rowL f xs ↔ r.1 ∈ xs ∧ f r.1 = some r.2 := by
  unfold rowL
  rw [List.mem_filterMap]
  constructor
  · rintro ⟨p, hp, h⟩
    cases hf : f p with
    | none => rw [hf] at h; cases h
    | some z => rw [hf] at h; cases h; exact ⟨hp, hf⟩
  · rintro ⟨h1, h2⟩
    exact ⟨r.1, h1, by rw [h2]; rfl⟩
theorem rowL_fst (f : P3 → Option (Nat × Nat)) : ∀ xs : List P3, (rowL f xs).map (·.1) = xs.filter fun p => (f p).isSome
  | [] => rfl
  | x :: xs => by
    have ih := rowL_fst f xs
    unfold rowL at ih ⊢
    cases h : f x with
    | none => rw [List.filterMap_cons_none (by rw [h]; rfl), ih, List.filter_cons_of_neg (by rw [h]; decide)]
    | some z => rw [List.filterMap_cons_some (b := (x, z)) (by rw [h]; rfl), List.map_cons, ih, List.filter_cons_of_pos (by rw [h]; rfl)]
theorem rowL_nil {f : P3 → Option (Nat × Nat)} {xs : List P3} : rowL f xs = [] ↔ ∀ p, p ∈ xs → f p = none := by
  constructor
  · intro h p hp
    cases hf : f p with
    | none => rfl
    | some z =>
      have : (p, z) ∈ rowL f xs := mem_rowL.mpr ⟨hp, hf⟩
      rw [h] at this
      cases this
  · intro h
    rw [List.eq_nil_iff_forall_not_mem]
    intro r hr
    have := mem_rowL.mp hr
    rw [h _ this.1] at this
    cases this.2
/-! ### the bar of a grain -/
def vwOf (s : P3) (l : Lk) (xs : List P3) : Vw := ⟨xs.filter (seenL s l xs), sign s l⟩
def barP (s : P3) (ls : List Lk) (xs : List P3) (p : P3) : Option (Nat × Nat) := bar (ls.map (entL s xs p))
def brows (s : P3) (ls : List Lk) (xs : List P3) : List BRow := rowL (barP s ls xs) xs
/-- two entries that bar -/
def Bars (v : List (Bool × Nat)) : Prop := (∃ e, e ∈ v ∧ e.1 = true ∧ e.2 = 46) ∨ ∃ e e', e ∈ v ∧ e' ∈ v ∧ e.1 = true ∧ e'.1 = true ∧ e.2 ≠ 46 ∧ e.2 ≠ 63 ∧ e'.2 ≠ 46 ∧ e'.2 ≠ 63 ∧ e.2 ≠ e'.2
/-- what barL tells -/
theorem barL_spec : ∀ (v : List (Bool × Nat)) (n : Nat) (told : List (Nat × Nat)), (match barL n told v with
    | .inl m => ∃ i c, m = n + i ∧ v[i]? = some (true, c) ∧ c = 46 ∧ ∀ j e, j < i → v[j]? = some e → e.1 = true → e.2 ≠ 46
    | .inr t => (∀ e, e ∈ v → e.1 = true → e.2 ≠ 46) ∧ t = told ++ ((v.zipIdx n).filter fun z => z.1.1 && !decide (z.1.2 = 63)).map fun z => (z.2, z.1.2))
  | [], n, told => by simp [barL]
  | (sn, c) :: r, n, told => by
    rw [barL]
    cases sn with
    | false =>
      rw [if_neg Bool.false_ne_true]
      have ih := barL_spec r (n + 1) told
      revert ih
      cases barL (n + 1) told r with
      | inl m =>
        rintro ⟨i, c', h1, h2, h3, h4⟩
        refine ⟨i + 1, c', by omega, by simpa using h2, h3, fun j e hj he ht => ?_⟩
        cases j with
        | zero => simp at he; subst he; cases ht
        | succ j => exact h4 j e (by omega) (by simpa using he) ht
      | inr t =>
        rintro ⟨h1, h2⟩
        refine ⟨fun e he ht => ?_, ?_⟩
        · rcases List.mem_cons.mp he with rfl | he
          · cases ht
          · exact h1 e he ht
        · rw [h2, List.zipIdx_cons, List.filter_cons_of_neg (by simp)]
    | true =>
      rw [if_pos rfl]
      by_cases c46 : c = 46
      · rw [if_pos c46]
        exact ⟨0, c, rfl, rfl, c46, fun j e hj => absurd hj (Nat.not_lt_zero j)⟩
      · rw [if_neg c46]
        by_cases c63 : c = 63
        · rw [if_neg (by simpa using c63)]
          have ih := barL_spec r (n + 1) told
          revert ih
          cases barL (n + 1) told r with
          | inl m =>
            rintro ⟨i, c', h1, h2, h3, h4⟩
            refine ⟨i + 1, c', by omega, by simpa using h2, h3, fun j e hj he ht => ?_⟩
            cases j with
            | zero => simp at he; subst he; exact c46
            | succ j => exact h4 j e (by omega) (by simpa using he) ht
          | inr t =>
            rintro ⟨h1, h2⟩
            refine ⟨fun e he ht => ?_, ?_⟩
            · rcases List.mem_cons.mp he with rfl | he
              · exact c46
              · exact h1 e he ht
            · rw [h2, List.zipIdx_cons, List.filter_cons_of_neg (by simp [c63])]
        · rw [if_pos c63]
          have ih := barL_spec r (n + 1) (told ++ [(n, c)])
          revert ih
          cases barL (n + 1) (told ++ [(n, c)]) r with
          | inl m =>
            rintro ⟨i, c', h1, h2, h3, h4⟩
            refine ⟨i + 1, c', by omega, by simpa using h2, h3, fun j e hj he ht => ?_⟩
            cases j with
            | zero => simp at he; subst he; exact c46
            | succ j => exact h4 j e (by omega) (by simpa using he) ht
          | inr t =>
            rintro ⟨h1, h2⟩
            refine ⟨fun e he ht => ?_, ?_⟩
            · rcases List.mem_cons.mp he with rfl | he
              · exact c46
              · exact h1 e he ht
            · rw [h2, List.zipIdx_cons, List.filter_cons_of_pos (by simp [c63]), List.map_cons, List.append_assoc]
              rfl
theorem barT_some {told : List (Nat × Nat)} : (barT told).isSome = true ↔ ∃ z z', z ∈ told ∧ z' ∈ told ∧ z.2 ≠ z'.2 := by
  cases told with
  | nil => simp [barT]
  | cons t ts =>
    unfold barT
    rw [Option.isSome_map, List.find?_isSome]
    constructor
    · rintro ⟨z, hz, h⟩
      exact ⟨z, t, hz, List.mem_cons_self, by simpa using h⟩
    · rintro ⟨z, z', hz, hz', h⟩
      by_cases e : z.2 = t.2
      · exact ⟨z', hz', by simpa using fun e2 => h (e.trans e2.symm)⟩
      · exact ⟨z, hz, by simpa using e⟩
theorem bar_some {v : List (Bool × Nat)} : (bar v).isSome = true ↔ Bars v := by
  have h := barL_spec v 0 []
  unfold bar
  revert h
  cases barL 0 [] v with
  | inl m =>
    rintro ⟨i, c, h1, h2, h3, h4⟩
    simp only [Option.isSome_some, true_iff]
    exact .inl ⟨(true, c), List.mem_of_getElem? h2, rfl, h3⟩
  | inr t =>
    rintro ⟨h1, h2⟩
    simp only
    rw [barT_some, h2, List.nil_append]
    have mem (z : Nat × Nat) : z ∈ ((v.zipIdx 0).filter fun z => z.1.1 && !decide (z.1.2 = 63)).map (fun z => (z.2, z.1.2)) ↔ v[z.1]? = some (true, z.2) ∧ z.2 ≠ 63 := by
      rw [List.mem_map]
      constructor
      · rintro ⟨⟨⟨b, c⟩, i⟩, hx, rfl⟩
        obtain ⟨hx1, hx2⟩ := List.mem_filter.mp hx
        have := List.mk_mem_zipIdx_iff_getElem?.mp hx1
        simp only [Bool.and_eq_true, Bool.not_eq_true', decide_eq_false_iff_not] at hx2
        obtain ⟨rfl, hx3⟩ := hx2
        exact ⟨this, hx3⟩
      · rintro ⟨h1, h2⟩
        refine ⟨((true, z.2), z.1), List.mem_filter.mpr ⟨List.mk_mem_zipIdx_iff_getElem?.mpr h1, by simpa using h2⟩, rfl⟩
    constructor
    · rintro ⟨z, z', hz, hz', hne⟩
      obtain ⟨a1, a2⟩ := (mem z).mp hz
      obtain ⟨b1, b2⟩ := (mem z').mp hz'
      have m1 := List.mem_of_getElem? a1
      have m2 := List.mem_of_getElem? b1
      exact .inr ⟨_, _, m1, m2, rfl, rfl, h1 _ m1 rfl, a2, h1 _ m2 rfl, b2, hne⟩
    · rintro (⟨e, he, e1, e2⟩ | ⟨e, e', he, he', e1, e1', n1, n2, n3, n4, n5⟩)
      · exact absurd e2 (h1 e he e1)
      · obtain ⟨i, hi⟩ := List.mem_iff_getElem?.mp he
        obtain ⟨j, hj⟩ := List.mem_iff_getElem?.mp he'
        obtain ⟨b, c⟩ := e
        obtain ⟨b', c'⟩ := e'
        simp only at e1 e1'
        subst e1 e1'
        exact ⟨(i, c), (j, c'), (mem _).mpr ⟨hi, n2⟩, (mem _).mpr ⟨hj, n4⟩, n5⟩
/-! ### more grains hide more -/
theorem seenL_mono {s : P3} {l : Lk} {xs ys : List P3} {p : P3} (h : ∀ q, q ∈ ys → q ∈ xs) (hs : seenL s l xs p = true) : seenL s l ys p = true := by
  unfold seenL at hs ⊢
  rw [seen_iff] at hs ⊢
  intro i hi
  have := hs i hi
  simp only [decide_eq_false_iff_not] at this ⊢
  exact fun hm => this (h _ hm)
theorem Bars_mono {s : P3} {ls : List Lk} {xs ys : List P3} {p : P3} (h : ∀ q, q ∈ ys → q ∈ xs) (hb : Bars (ls.map (entL s xs p))) : Bars (ls.map (entL s ys p)) := by
  have up (e : Bool × Nat) (he : e ∈ ls.map (entL s xs p)) (h1 : e.1 = true) : e ∈ ls.map (entL s ys p) := by
    obtain ⟨l, hl, rfl⟩ := List.mem_map.mp he
    refine List.mem_map.mpr ⟨l, hl, ?_⟩
    have h1' : seenL s l xs p = true := h1
    show (seenL s l ys p, sign s l p) = (seenL s l xs p, sign s l p)
    rw [h1', seenL_mono h h1']
  rcases hb with ⟨e, he, e1, e2⟩ | ⟨e, e', he, he', e1, e1', n⟩
  · exact .inl ⟨e, up e he e1, e1, e2⟩
  · exact .inr ⟨e, e', up e he e1, up e' he' e1', e1, e1', n⟩
theorem barP_mono {s : P3} {ls : List Lk} {xs ys : List P3} {p : P3} (h : ∀ q, q ∈ ys → q ∈ xs) (hb : (barP s ls xs p).isSome = true) : (barP s ls ys p).isSome = true := bar_some.mpr (Bars_mono h (bar_some.mp hb))
/-- only what stands in the stone matters -/
theorem barP_congr {s : P3} {ls : List Lk} {xs ys : List P3} {p : P3} (h : ∀ q, q ∈ xs ↔ q ∈ ys) : barP s ls xs p = barP s ls ys p := by
  unfold barP
  congr 1
  refine List.map_congr_left fun l _ => ?_
  show (seenL s l xs p, sign s l p) = (seenL s l ys p, sign s l p)
  congr 1
  unfold seenL
  congr 1
  funext q
  exact decide_eq_decide.mpr (h q)
/-! ### carving -/
/-- nothing in it is barred -/
def Agr (s : P3) (ls : List Lk) (xs : List P3) : Prop := ∀ p, p ∈ xs → barP s ls xs p = none
theorem agr_rows {s : P3} {ls : List Lk} {xs : List P3} : brows s ls xs = [] ↔ Agr s ls xs := rowL_nil
/-- an agreeing stone within keeps clear of what is barred -/
theorem Agr.clear {s : P3} {ls : List Lk} {xs ys : List P3} {p : P3} (ha : Agr s ls ys) (h : ∀ q, q ∈ ys → q ∈ xs) (hb : (barP s ls xs p).isSome = true) : p ∉ ys := fun hp => by
  have := barP_mono h hb
  rw [ha p hp] at this
  cases this
def carve1 (s : P3) (ls : List Lk) (xs : List P3) : List P3 := xs.filter fun p => (barP s ls xs p).isNone
def carveN (s : P3) (ls : List Lk) : Nat → List P3 → List P3
  | 0, xs => xs
  | n + 1, xs => carveN s ls n (carve1 s ls xs)
/-- what carving leaves -/
def carv (s : P3) (ls : List Lk) (xs : List P3) : List P3 := carveN s ls xs.length xs
theorem carve1_sub (s : P3) (ls : List Lk) (xs : List P3) : (carve1 s ls xs).Sublist xs := List.filter_sublist
theorem carve1_eq {s : P3} {ls : List Lk} {xs : List P3} (h : Agr s ls xs) : carve1 s ls xs = xs := by
  unfold carve1
  rw [List.filter_eq_self]
  intro p hp
  rw [h p hp]
  rfl
theorem carve1_lt {s : P3} {ls : List Lk} {xs : List P3} (h : ¬ Agr s ls xs) : (carve1 s ls xs).length < xs.length := by
  refine Nat.lt_of_not_le fun hle => h fun p hp => ?_
  have e : carve1 s ls xs = xs := (carve1_sub s ls xs).eq_of_length_le hle
  unfold carve1 at e
  rw [List.filter_eq_self] at e
  simpa using e p hp
theorem carveN_sub (s : P3) (ls : List Lk) : ∀ (n : Nat) (xs : List P3), (carveN s ls n xs).Sublist xs
  | 0, xs => List.Sublist.refl xs
  | n + 1, xs => (carveN_sub s ls n _).trans (carve1_sub s ls xs)
theorem agr_nil (s : P3) (ls : List Lk) : Agr s ls [] := fun p hp => nomatch hp
theorem carveN_agr (s : P3) (ls : List Lk) : ∀ (n : Nat) (xs : List P3), xs.length ≤ n → Agr s ls (carveN s ls n xs)
  | 0, xs, h => by
    have : xs = [] := List.length_eq_zero_iff.mp (by omega)
    subst this
    exact agr_nil s ls
  | n + 1, xs, h => by
    by_cases ha : Agr s ls xs
    · have e : ∀ n : Nat, carveN s ls n xs = xs := by
        intro n
        induction n with
        | zero => rfl
        | succ n ih => rw [carveN, carve1_eq ha, ih]
      rw [e]
      exact ha
    · have := carve1_lt ha
      exact carveN_agr s ls n _ (by omega)
theorem carv_sub (s : P3) (ls : List Lk) (xs : List P3) : (carv s ls xs).Sublist xs := carveN_sub s ls _ xs
theorem carv_agr (s : P3) (ls : List Lk) (xs : List P3) : Agr s ls (carv s ls xs) := carveN_agr s ls _ xs (Nat.le_refl _)
theorem carveN_great {s : P3} {ls : List Lk} {ys : List P3} (ha : Agr s ls ys) : ∀ (n : Nat) (xs : List P3), (∀ q, q ∈ ys → q ∈ xs) → ∀ q, q ∈ ys → q ∈ carveN s ls n xs
  | 0, xs, h, q, hq => h q hq
  | n + 1, xs, h, q, hq => carveN_great ha n (carve1 s ls xs) (fun p hp => by
    refine List.mem_filter.mpr ⟨h p hp, ?_⟩
    cases hb : barP s ls xs p with
    | none => rfl
    | some z => exact absurd hp (ha.clear h (by rw [hb]; rfl))) q hq
theorem carv_great {s : P3} {ls : List Lk} {xs ys : List P3} (ha : Agr s ls ys) (h : ∀ q, q ∈ ys → q ∈ xs) : ∀ q, q ∈ ys → q ∈ carv s ls xs := carveN_great ha _ xs h
/-- the greatest one within is the only greatest one -/
theorem carv_eq {s : P3} {ls : List Lk} {xs ys : List P3} (hn : xs.Nodup) (hsub : ys.Sublist xs) (ha : Agr s ls ys) (hg : ∀ q, q ∈ carv s ls xs → q ∈ ys) : ys = carv s ls xs := by
  have h1 : ∀ q, q ∈ ys → q ∈ carv s ls xs := carv_great ha fun q hq => hsub.subset hq
  have e (zs : List P3) (hz : zs.Sublist xs) : zs = xs.filter fun p => decide (p ∈ zs) := by
    clear h1 hg ha hsub
    induction hz with
    | slnil => rfl
    | @cons l1 l2 a h ih =>
      rw [List.nodup_cons] at hn
      rw [List.filter_cons_of_neg (by simpa using fun hm => hn.1 (h.subset hm))]
      exact ih hn.2
    | @cons_cons l1 l2 a h ih =>
      rw [List.nodup_cons] at hn
      rw [List.filter_cons_of_pos (by simp)]
      congr 1
      have := ih hn.2
      rw [this]
      refine List.filter_congr fun p hp => ?_
      have hpa : p ≠ a := fun e => hn.1 (e ▸ hp)
      rw [← this]
      exact decide_eq_decide.mpr ⟨fun h => List.mem_cons_of_mem _ h, fun h => (List.mem_cons.mp h).resolve_left hpa⟩
  rw [e ys hsub, e (carv s ls xs) (carv_sub s ls xs)]
  exact List.filter_congr fun p _ => decide_eq_decide.mpr ⟨h1 p, hg p⟩
end VL
set_option Elab.async false
set_option linter.all false
set_option maxRecDepth 100000
/-! VM7: bare doors, sole grains. -/
namespace VL
open PySem L2 PySem.Spec PyProof.Rows
/-- who stands on a door's line -/
theorem on_line {s w d p : P3} (hs : Sz 100 s) (hw : Nz w) (hd : IsDoor s w d) : p ∈ line s w d ↔ inB s p = true ∧ door s w p = d := by
  obtain ⟨f1, f2, f3⟩ := fore_spec hs hw hd.1
  unfold line
  rw [List.mem_map]
  constructor
  · rintro ⟨i, hi, rfl⟩
    have hi := List.mem_range.mp hi
    exact ⟨f1 i hi, (hd.depth hs hw hi).2⟩
  · rintro ⟨hp, rfl⟩
    exact ⟨depth s w p, List.mem_range.mpr (depth_lt_fore hs hw hp), door_step⟩
/-- a letter: neither sky nor veil -/
def inkB (c : Nat) : Bool := !decide (c = 46) && !decide (c = 63)
/-- the sign that a look has for a door -/
def sgn (s : P3) (l : Lk) (d : P3) : Nat := sg (doors s l.w) l.pic d
def inked (s : P3) (l : Lk) : List P3 := (doors s l.w).filter fun d => inkB (sgn s l d)
def lacks (s : P3) (xs : List P3) (l : Lk) (d : P3) : Bool := !(line s l.w d).any fun p => decide (p ∈ xs)
theorem lacks_iff {s : P3} {xs : List P3} {l : Lk} {d : P3} (hs : Sz 100 s) (hw : Nz l.w) (hd : IsDoor s l.w d) (hx : ∀ p, p ∈ xs → inB s p = true) : lacks s xs l d = !decide (d ∈ xs.map (door s l.w)) := by
  unfold lacks
  congr 1
  rw [Bool.eq_iff_iff, List.any_eq_true, decide_eq_true_eq, List.mem_map]
  constructor
  · rintro ⟨p, h1, h2⟩
    exact ⟨p, of_decide_eq_true h2, ((on_line hs hw hd).mp h1).2⟩
  · rintro ⟨p, h1, h2⟩
    exact ⟨p, (on_line hs hw hd).mpr ⟨hx p h1, h2⟩, decide_eq_true h1⟩
abbrev Bare := Nat × P3
def eBr (b : Bare) : D := .tup [.int (b.1 : Nat), e3 b.2]
@[simp] theorem lf_eBr (r : Bare) : lf (eBr r) = true := by simp [eBr]
@[simp] theorem lfA_eBr (xs : List Bare) : lfA (xs.map eBr) = true := lfA_map lf_eBr xs
def bareR (s : P3) (xs : List P3) (n : Nat) (l : Lk) : List Bare := ((inked s l).filter (lacks s xs l)).map fun d => (n, d)
def bareF (s : P3) (xs : List P3) : Nat → List Lk → List Bare
  | _, [] => []
  | n, l :: r => bareR s xs n l ++ bareF s xs (n + 1) r
def bares (s : P3) (ls : List Lk) (xs : List P3) : List Bare := bareF s xs 0 ls
theorem bareR_len (s : P3) (xs : List P3) (n : Nat) (l : Lk) : (bareR s xs n l).length ≤ (places s).length := by
  unfold bareR inked
  rw [List.length_map]
  exact Nat.le_trans (List.length_filter_le _ _) (Nat.le_trans (List.length_filter_le _ _) (doors_len s l.w))
theorem bareF_len (s : P3) (xs : List P3) : ∀ (ls : List Lk) (n : Nat), (bareF s xs n ls).length ≤ ls.length * (places s).length
  | [], _ => by simp [bareF]
  | l :: r, n => by
    have h1 := bareR_len s xs n l
    have h2 := bareF_len s xs r (n + 1)
    rw [bareF, List.length_append, List.length_cons, Nat.add_mul]
    omega
theorem bares_len {n : Nat} {s : P3} {ls : List Lk} {xs : List P3} (hs : Sz n s) (hl : ls.length ≤ 8) : (bares s ls xs).length ≤ 8 * (n * (n * n)) := by
  have h1 := bareF_len s xs ls 0
  have h2 := hs.len
  exact Nat.le_trans h1 (Nat.mul_le_mul hl h2)
theorem flatMap_if {α : Type} (p : α → Bool) (f : α → D) : ∀ ys : List α, (ys.flatMap fun x => if p x = true then [f x] else []) = (ys.filter p).map f
  | [] => rfl
  | y :: ys => by
    rw [List.flatMap_cons, flatMap_if p f ys, List.filter_cons]
    cases p y <;> simp
theorem mem_bareF {s : P3} {xs : List P3} {b : Bare} : ∀ {ls : List Lk} {n : Nat}, b ∈ bareF s xs n ls ↔ ∃ i l, ls[i]? = some l ∧ b.1 = n + i ∧ b.2 ∈ inked s l ∧ lacks s xs l b.2 = true
  | [], n => by simp [bareF]
  | l :: r, n => by
    rw [bareF, List.mem_append, mem_bareF (ls := r) (n := n + 1)]
    constructor
    · rintro (h | ⟨i, l', h1, h2, h3⟩)
      · obtain ⟨d, h1, rfl⟩ := List.mem_map.mp h
        obtain ⟨h2, h3⟩ := List.mem_filter.mp h1
        exact ⟨0, l, rfl, rfl, h2, h3⟩
      · exact ⟨i + 1, l', by simpa using h1, by omega, h3⟩
    · rintro ⟨i, l', h1, h2, h3, h4⟩
      cases i with
      | zero =>
        simp at h1
        subst h1
        refine .inl (List.mem_map.mpr ⟨b.2, List.mem_filter.mpr ⟨h3, h4⟩, ?_⟩)
        exact Prod.ext (by simp only; omega) rfl
      | succ i => exact .inr ⟨i, l', by simpa using h1, by omega, h3, h4⟩
theorem in_signs (c : Nat) (h : c < 1114112) : inB_ (eS c) (.tup [.str (Str.ofString "."), .str (Str.ofString "?")]) = .ok (!inkB c) := by
  have e : inB_ (eS c) (.tup [.str (Str.ofString "."), .str (Str.ofString "?")]) = if SeqAt.shaped (toP (eS c)) = true ∧ SeqAt.shaped (toP (.tup [.str (Str.ofString "."), .str (Str.ofString "?")])) = true then M.ok (([.str (Str.ofString "."), .str (Str.ofString "?")] : List D).any fun z => PyData.eqv (toP z) (toP (eS c))) else M.er := by rfl
  have s1 : SeqAt.shaped (toP (eS c)) = true := by simp [eS, toP, SeqAt.shaped, PyData.canLay0, PyData.strOk, PyData.depth, h]
  have s2 : SeqAt.shaped (toP (.tup [.str (Str.ofString "."), .str (Str.ofString "?")])) = true := by
    rw [sky_eq, veil_eq]
    simp [toP, toPA, SeqAt.shaped, PyData.canLay0, PyData.canLayAll0, PyData.strOk, PyData.depth, PyData.depthAll]
  have q (a : Nat) : PyData.eqv (toP (.str ⟨#[a]⟩)) (toP (eS c)) = decide (a = c) := by
    rw [Bool.eq_iff_iff]
    simp [eS, toP, PyData.eqv]
  rw [e, if_pos ⟨s1, s2⟩, sky_eq, veil_eq]
  simp only [List.any_cons, List.any_nil, q, Bool.or_false]
  unfold inkB
  by_cases h1 : c = 46
  · subst h1; rfl
  · by_cases h2 : c = 63
    · subst h2; rfl
    · simp [h1, h2, Ne.symm h1, Ne.symm h2]
theorem Sgn.lt {c : Nat} (h : Sgn c) : c < 1114112 := by
  unfold Sgn Letter at h
  omega
end VL
set_option Elab.async false
set_option linter.all false
set_option maxRecDepth 100000
/-! VM8: carving grain by grain; sorted lists of places. -/
namespace VL
open PySem L2 PySem.Spec PyProof.Rows
/-! ### list.remove of a place -/
theorem findP_e3 (p : P3) : ∀ xs : List P3, p ∈ xs → ∃ j, findP (toP (e3 p)) (xs.map e3) = some j ∧ (xs.map e3).eraseIdx j = (xs.erase p).map e3
  | [], h => nomatch h
  | x :: xs, h => by
    rw [List.map_cons, findP]
    rw [eqv_e3]
    by_cases e : x = p
    · rw [if_pos (by simpa using e)]
      exact ⟨0, rfl, by rw [e, List.erase_cons_head]; rfl⟩
    · rw [if_neg (by simpa using e)]
      have hp : p ∈ xs := (List.mem_cons.mp h).resolve_left fun z => e z.symm
      obtain ⟨j, h1, h2⟩ := findP_e3 p xs hp
      refine ⟨j + 1, by rw [h1]; rfl, ?_⟩
      rw [List.erase_cons_tail (by simpa using e), List.map_cons, ← h2]
      rfl
theorem rem_e3 (p : P3) (xs : List P3) (h : p ∈ xs) : remE (xs.map e3) [e3 p] = .ok ((xs.erase p).map e3) := by
  obtain ⟨j, h1, h2⟩ := findP_e3 p xs h
  have e : remE (xs.map e3) [e3 p] = if SeqAt.shaped (.list (toPA (xs.map e3))) = true ∧ SeqAt.shaped (toP (e3 p)) = true then (match findP (toP (e3 p)) (xs.map e3) with | some j => M.ok ((xs.map e3).eraseIdx j) | none => M.er) else M.er := rfl
  have s1 : SeqAt.shaped (.list (toPA (xs.map e3))) = true := by
    have := shaped_e3s xs
    simpa [toP] using this
  rw [e, if_pos ⟨s1, shaped_e3 p⟩, h1]
  simp only [h2]
/-! ### sorted -/
theorem e3_eT : (e3 : P3 → D) = eT := rfl
theorem trisD_e3 : ∀ xs : List P3, trisD (xs.map e3) = some xs
  | [] => rfl
  | x :: xs => by
    rw [List.map_cons, trisD, trisD_e3 xs]
    rfl
theorem sorted_e3 (xs : List P3) : sortedG [.lst (xs.map e3)] = .ok (.lst ((sort3 xs).map e3)) := by
  show (match trisD (xs.map e3) with | some ts => M.ok (D.lst ((sort3 ts).map eT)) | none => .er) = _
  rw [trisD_e3]
  rfl
theorem lt3_lex (p q : P3) : lt3 p q = lex3 p q := by
  rw [Bool.eq_iff_iff, lt3_iff, lex3_iff]
theorem up_srtd {xs : List P3} (h : Up xs) : SrtO.Srtd lex3 xs := h.imp fun {a b} h => by
  rw [lt3_lex] at h
  have := lex3_iff.mp h
  exact lex3_no.mpr (by omega)
theorem srtd_up {xs : List P3} (h : SrtO.Srtd lex3 xs) (hn : xs.Nodup) : Up xs := by
  unfold Up
  have := List.pairwise_and_iff.mpr ⟨h, hn⟩
  refine this.imp fun {a b} ⟨h1, h2⟩ => ?_
  rw [lt3_iff]
  have h1 := lex3_no.mp h1
  refine Classical.byContradiction fun hc => h2 ?_
  exact Prod.ext (by omega) (Prod.ext (by omega) (by omega))
/-- the sorted list of what makes up a rising list -/
theorem sort3_up {xs ys : List P3} (h : Up xs) (hp : ys.Perm xs) : sort3 ys = xs := srtd_uniq (sort3_srtd ys) (up_srtd h) ((sort3_perm ys).trans hp)
theorem triK_k3 (p : P3) : triK (k3 p) = some p := rfl
/-- rising lists of the same places are one -/
theorem up_ext {xs ys : List P3} (h1 : Up xs) (h2 : Up ys) (h : ∀ p, p ∈ xs ↔ p ∈ ys) : xs = ys := by
  refine List.Perm.eq_of_pairwise (le := fun x y => lex3 y x = false) (fun a b _ _ q1 q2 => ?_) (up_srtd h1) (up_srtd h2) ?_
  · have a1 := lex3_no.mp q1
    have a2 := lex3_no.mp q2
    exact Prod.ext (by omega) (Prod.ext (by omega) (by omega))
  · exact (List.perm_ext_iff_of_nodup h1.nodup h2.nodup).mpr h
/-- the keys of a dict built by places -/
def KeysAre (kvs : List (List Key × D)) (ps : List P3) : Prop := keysT kvs = some ps ∧ ps.Nodup
theorem keysT_append {α : Type} : ∀ (xs ys : List (List Key × α)) (a b : List T3), keysT xs = some a → keysT ys = some b → keysT (xs ++ ys) = some (a ++ b)
  | [], ys, a, b, h, h2 => by cases h; exact h2
  | x :: xs, ys, a, b, h, h2 => by
    rw [List.cons_append]
    unfold keysT at h ⊢
    split at h
    · next k ts e1 e2 =>
      cases h
      rw [e1, keysT_append xs ys ts b e2 h2]
      rfl
    · cases h
theorem keysT_any {α : Type} : ∀ (xs : List (List Key × α)) (ps : List T3) (p : P3), keysT xs = some ps → ((xs.any fun kv => decide (kv.1 = k3 p)) = true ↔ p ∈ ps)
  | [], ps, p, h => by cases h; simp
  | x :: xs, ps, p, h => by
    unfold keysT at h
    split at h
    · next k ts e1 e2 =>
      cases h
      rw [List.any_cons, Bool.or_eq_true, keysT_any xs ts p e2, decide_eq_true_eq, List.mem_cons]
      have : x.1 = k3 p ↔ p = k := by
        constructor
        · intro e
          rw [e] at e1
          cases e1
          rfl
        · rintro rfl
          have := triK_eq e1
          revert e1
          unfold triK
          split
          · next a b c e => intro z; cases z; rw [e]; rfl
          · intro z; cases z
      rw [this]
    · cases h
theorem keysT_map {α : Type} (f : List Key × α → List Key × α) (hf : ∀ x, (f x).1 = x.1) : ∀ xs : List (List Key × α), keysT (xs.map f) = keysT xs
  | [] => rfl
  | x :: xs => by
    rw [List.map_cons]
    unfold keysT
    rw [hf, keysT_map f hf xs]
theorem keys_put {kvs : List (List Key × D)} {ps : List P3} (h : KeysAre kvs ps) (p : P3) (v : D) : KeysAre (putT kvs (k3 p) v) (if p ∈ ps then ps else ps ++ [p]) := by
  unfold putT
  have ha := keysT_any kvs ps p h.1
  by_cases hp : p ∈ ps
  · rw [if_pos (ha.mpr hp), if_pos hp]
    exact ⟨by rw [keysT_map _ (fun x => by split <;> rfl)]; exact h.1, h.2⟩
  · rw [if_neg (fun z => hp (ha.mp z)), if_neg hp]
    refine ⟨keysT_append _ _ _ _ h.1 rfl, ?_⟩
    rw [List.nodup_append]
    exact ⟨h.2, by simp, fun a ha b hb => by rw [List.mem_singleton.mp hb]; exact fun e => hp (e ▸ ha)⟩
def keyStep (ps : List P3) (p : P3) : List P3 := if p ∈ ps then ps else ps ++ [p]
def keyAll (l : List P3) : List P3 := l.foldl keyStep []
theorem keys_putAll : ∀ (l : List (P3 × D)) (kvs : List (List Key × D)) (ps : List P3), KeysAre kvs ps → KeysAre (putAll kvs l) ((l.map (·.1)).foldl keyStep ps)
  | [], _, _, h => h
  | x :: l, kvs, ps, h => keys_putAll l _ _ (keys_put h x.1 x.2)
theorem keys_mkD (l : List (P3 × D)) : KeysAre (mkD l) (keyAll (l.map (·.1))) := keys_putAll l [] [] ⟨rfl, by simp⟩
theorem mem_keyFold : ∀ (l ps : List P3) (q : P3), q ∈ l.foldl keyStep ps ↔ q ∈ ps ∨ q ∈ l
  | [], ps, q => by simp
  | x :: l, ps, q => by
    rw [List.foldl_cons, mem_keyFold l _ q]
    unfold keyStep
    by_cases h : x ∈ ps
    · rw [if_pos h, List.mem_cons]
      constructor
      · rintro (h1 | h1)
        · exact .inl h1
        · exact .inr (.inr h1)
      · rintro (h1 | h1 | h1)
        · exact .inl h1
        · exact .inl (h1 ▸ h)
        · exact .inr h1
    · rw [if_neg h, List.mem_append, List.mem_singleton, List.mem_cons, or_assoc]
theorem mem_keyAll {l : List P3} {q : P3} : q ∈ keyAll l ↔ q ∈ l := by
  unfold keyAll
  rw [mem_keyFold]
  simp
/-- sorted of a dict by places -/
theorem sorted_keys {kvs : List (List Key × D)} {ps xs : List P3} (h : KeysAre kvs ps) (hu : Up xs) (hm : ∀ q, q ∈ ps ↔ q ∈ xs) : sortedG [.dct kvs] = .ok (.lst (xs.map e3)) := by
  show (match keysT kvs with | some ts => M.ok (D.lst ((sort3 ts).map eT)) | none => .er) = _
  rw [h.1]
  simp only
  rw [sort3_up hu ((List.perm_ext_iff_of_nodup h.2 hu.nodup).mpr hm)]
  rfl
/-! ### carving grain by grain -/
def pickN (picks : List Int) (turn many : Nat) : Nat := match picks[turn]? with
  | some c => (c % (many : Nat)).toNat
  | none => 0
theorem pickN_lt {picks : List Int} {turn many : Nat} (h : 0 < many) : pickN picks turn many < many := by
  unfold pickN
  cases picks[turn]? with
  | none => exact h
  | some c =>
    have h1 := Int.emod_nonneg c (show (many : Int) ≠ 0 by omega)
    have h2 := Int.emod_lt_of_pos c (show (0 : Int) < many by omega)
    simp only
    omega
def rowAt (rs : List BRow) (k : Nat) : BRow := rs.getD k ((0, 0, 0), 0, 0)
theorem rowAt_mem {rs : List BRow} {k : Nat} (h : k < rs.length) : rs[k]? = some (rowAt rs k) ∧ rowAt rs k ∈ rs := by
  unfold rowAt
  rw [List.getD_eq_getElem?_getD, List.getElem?_eq_getElem h]
  exact ⟨rfl, List.getElem_mem h⟩
def carveS (s : P3) (ls : List Lk) (picks : List Int) : Nat → List P3 → List BRow → List P3 × List BRow
  | 0, xs, pp => (xs, pp)
  | n + 1, xs, pp => if (brows s ls xs).isEmpty = true then (xs, pp) else carveS s ls picks n (xs.erase (rowAt (brows s ls xs) (pickN picks pp.length (brows s ls xs).length)).1) (pp ++ [rowAt (brows s ls xs) (pickN picks pp.length (brows s ls xs).length)])
/-- what carve tells -/
def carveP (s : P3) (ls : List Lk) (picks : List Int) (xs : List P3) : List P3 × List BRow := carveS s ls picks xs.length xs []
/-- a paper that stands: each row is the bar of its place in the stone as it is then -/
inductive PaperOk (s : P3) (ls : List Lk) : List P3 → List BRow → List P3 → Prop
  | nil (xs : List P3) : PaperOk s ls xs [] xs
  | cons {xs ys : List P3} {r : BRow} {rs : List BRow} : r ∈ brows s ls xs → PaperOk s ls (xs.erase r.1) rs ys → PaperOk s ls xs (r :: rs) ys
theorem carveS_spec (s : P3) (ls : List Lk) (picks : List Int) : ∀ (n : Nat) (xs : List P3) (pp : List BRow), xs.length ≤ n → ∃ rs, (carveS s ls picks n xs pp).2 = pp ++ rs ∧ PaperOk s ls xs rs (carveS s ls picks n xs pp).1 ∧ Agr s ls (carveS s ls picks n xs pp).1
  | 0, xs, pp, h => by
    have : xs = [] := List.length_eq_zero_iff.mp (by omega)
    subst this
    exact ⟨[], by simp [carveS], .nil _, agr_nil s ls⟩
  | n + 1, xs, pp, h => by
    unfold carveS
    by_cases c : (brows s ls xs).isEmpty = true
    · rw [if_pos c]
      exact ⟨[], by simp, .nil _, agr_rows.mp (List.isEmpty_iff.mp c)⟩
    · rw [if_neg c]
      have hpos : 0 < (brows s ls xs).length := by
        cases hb : brows s ls xs with
        | nil => rw [hb] at c; exact absurd rfl c
        | cons a l => exact Nat.succ_pos _
      obtain ⟨h1, h2⟩ := rowAt_mem (pickN_lt (picks := picks) (turn := pp.length) hpos)
      generalize rowAt (brows s ls xs) (pickN picks pp.length (brows s ls xs).length) = r at h1 h2 ⊢
      have hin : r.1 ∈ xs := (mem_rowL.mp h2).1
      have hl := List.length_erase_of_mem hin
      have hxp : 0 < xs.length := List.length_pos_of_mem hin
      obtain ⟨rs, e1, e2, e3⟩ := carveS_spec s ls picks n (xs.erase r.1) (pp ++ [r]) (by omega)
      exact ⟨r :: rs, by rw [e1, List.append_assoc]; rfl, .cons h2 e2, e3⟩
theorem carveP_spec (s : P3) (ls : List Lk) (picks : List Int) (xs : List P3) : PaperOk s ls xs (carveP s ls picks xs).2 (carveP s ls picks xs).1 ∧ Agr s ls (carveP s ls picks xs).1 := by
  obtain ⟨rs, h1, h2, h3⟩ := carveS_spec s ls picks xs.length xs [] (Nat.le_refl _)
  unfold carveP
  rw [List.nil_append] at h1
  rw [h1]
  exact ⟨h2, h3⟩
theorem PaperOk.sub {s : P3} {ls : List Lk} {xs ys : List P3} {rs : List BRow} (h : PaperOk s ls xs rs ys) : ys.Sublist xs := by
  induction h with
  | nil => exact List.Sublist.refl _
  | cons _ _ ih => exact ih.trans List.erase_sublist
/-- the rows' places are what went -/
theorem PaperOk.perm {s : P3} {ls : List Lk} {xs ys : List P3} {rs : List BRow} (h : PaperOk s ls xs rs ys) : xs.Perm (rs.map (·.1) ++ ys) := by
  induction h with
  | nil => exact List.Perm.refl _
  | cons h1 _ ih =>
    have := (mem_rowL.mp h1).1
    exact (List.perm_cons_erase this).trans (ih.cons _)
/-- agreeing stones within stay within -/
theorem PaperOk.keeps {s : P3} {ls : List Lk} {xs ys : List P3} {rs : List BRow} (h : PaperOk s ls xs rs ys) {zs : List P3} (ha : Agr s ls zs) (hz : ∀ q, q ∈ zs → q ∈ xs) : ∀ q, q ∈ zs → q ∈ ys := by
  induction h with
  | nil => exact hz
  | cons h1 _ ih =>
    refine ih fun q hq => ?_
    have hb := (mem_rowL.mp h1).2
    have hc := ha.clear hz (by rw [hb]; rfl)
    exact (List.mem_erase_of_ne (fun e => hc (by rw [← e]; exact hq))).mpr (hz q hq)
theorem carveP_fst {s : P3} {ls : List Lk} {picks : List Int} {xs : List P3} (hn : xs.Nodup) : (carveP s ls picks xs).1 = carv s ls xs := by
  obtain ⟨h1, h2⟩ := carveP_spec s ls picks xs
  exact carv_eq hn h1.sub h2 (h1.keeps (carv_agr s ls xs) fun q hq => (carv_sub s ls xs).subset hq)
theorem carveP_went {s : P3} {ls : List Lk} {picks : List Int} {xs : List P3} (hu : Up xs) : sort3 ((carveP s ls picks xs).2.map (·.1)) = xs.filter fun p => !decide (p ∈ carv s ls xs) := by
  obtain ⟨h1, h2⟩ := carveP_spec s ls picks xs
  have hp := h1.perm
  have hn := hu.nodup
  rw [carveP_fst hn] at hp
  have hn2 := hp.nodup_iff.mp hn
  rw [List.nodup_append] at hn2
  refine sort3_up (hu.sub List.filter_sublist) ?_
  refine (List.perm_ext_iff_of_nodup hn2.1 (hn.sublist List.filter_sublist)).mpr fun p => ?_
  rw [List.mem_filter, hp.mem_iff, List.mem_append]
  constructor
  · intro h
    exact ⟨.inl h, by simpa using fun hc => hn2.2.2 p h p hc rfl⟩
  · rintro ⟨h | h, hc⟩
    · exact h
    · simp [h] at hc
theorem PaperOk.len {s : P3} {ls : List Lk} {xs ys : List P3} {rs : List BRow} (h : PaperOk s ls xs rs ys) : rs.length + ys.length = xs.length := by
  have := h.perm.length_eq
  rw [List.length_append, List.length_map] at this
  omega
/-! ### a dict built by puts -/
theorem putAll_append (kvs : List (List Key × D)) (a b : List (P3 × D)) : putAll kvs (a ++ b) = putAll (putAll kvs a) b := by
  unfold putAll
  rw [List.foldl_append]
theorem forR_putF {tg : D → Rho → Option Rho} {b : Rho → Res} {β : Type} (e : β → D) (st : List (List Key × D) → Rho) (g : β → List (P3 × D)) : ∀ (xs : List β) (kvs : List (List Key × D)), kvs.length + (xs.flatMap g).length ≤ 1000000 →
    (∀ kvs x, x ∈ xs → kvs.length + (g x).length ≤ 1000000 → turn tg b (e x) (st kvs) = .nx (st (putAll kvs (g x)))) → forR tg b (xs.map e) (st kvs) = .nx (st (putAll kvs (xs.flatMap g)))
  | [], _, _, _ => rfl
  | x :: xs, kvs, hl, h => by
    rw [List.flatMap_cons, List.length_append] at hl
    have h2 := putAll_len (g x) kvs
    rw [List.map_cons, forR_cons, h kvs x List.mem_cons_self (by omega), next_nx, List.flatMap_cons, putAll_append]
    exact forR_putF e st g xs _ (by omega) fun kvs y hy => h kvs y (List.mem_cons_of_mem _ hy)
/-! ### sole grains -/
def mates (s : P3) (xs : List P3) (l : Lk) (p : P3) : List P3 := xs.filter fun q => decide (door s l.w q = door s l.w p)
def soleL (s : P3) (xs : List P3) (p : P3) (l : Lk) : Bool := decide (mates s xs l p = [p]) && inkB (sign s l p)
def soleB (s : P3) (ls : List Lk) (xs : List P3) (p : P3) : Bool := ls.any (soleL s xs p)
/-- the grains on a door's line, in the line's order -/
def grainsOn (s : P3) (xs : List P3) (l : Lk) (d : P3) : List P3 := (line s l.w d).filter fun p => decide (p ∈ xs)
def soleD (s : P3) (xs : List P3) (l : Lk) (d : P3) : List (P3 × D) := match grainsOn s xs l d with
  | [p] => [(p, .bl true)]
  | _ => []
theorem soleD_len (s : P3) (xs : List P3) (l : Lk) (d : P3) : (soleD s xs l d).length ≤ 1 := by
  unfold soleD
  split <;> simp
theorem flatMap_le {α β : Type} (f : α → List β) (n : Nat) : ∀ xs : List α, (∀ x, x ∈ xs → (f x).length ≤ n) → (xs.flatMap f).length ≤ xs.length * n
  | [], _ => by simp
  | x :: xs, h => by
    have h1 := h x List.mem_cons_self
    have h2 := flatMap_le f n xs fun y hy => h y (List.mem_cons_of_mem _ hy)
    rw [List.flatMap_cons, List.length_append, List.length_cons, Nat.add_mul]
    omega
theorem line_nodup {s w d : P3} (hw : Nz w) : (line s w d).Nodup := by
  unfold line
  refine List.Pairwise.map _ (fun a b (h : a ≠ b) e => h ?_) List.nodup_range
  have := stp_inj hw e
  omega
theorem singleton_iff {α : Type} {xs : List α} {p : α} (hn : xs.Nodup) : xs = [p] ↔ ∀ q, q ∈ xs ↔ q = p := by
  constructor
  · rintro rfl q
    exact List.mem_singleton
  · intro h
    match xs, hn, h with
    | [], _, h => exact absurd ((h p).mpr rfl) (by simp)
    | [a], _, h => rw [(h a).mp List.mem_cons_self]
    | a :: b :: r, hn, h =>
      have h1 := (h a).mp List.mem_cons_self
      have h2 := (h b).mp (by simp)
      rw [List.nodup_cons] at hn
      exact absurd (by rw [h1, h2]; simp) hn.1
theorem grains_one {s : P3} {xs : List P3} {l : Lk} {d p : P3} (hs : Sz 100 s) (hk : LkOk s l) (hx : ∀ q, q ∈ xs → inB s q = true) (hn : xs.Nodup) (hd : IsDoor s l.w d) : grainsOn s xs l d = [p] ↔ p ∈ xs ∧ door s l.w p = d ∧ mates s xs l p = [p] := by
  unfold grainsOn mates
  rw [singleton_iff ((line_nodup hk.1.nz).sublist List.filter_sublist), singleton_iff (hn.sublist List.filter_sublist)]
  simp only [List.mem_filter, decide_eq_true_eq, on_line hs hk.1.nz hd]
  constructor
  · intro h
    obtain ⟨⟨h1, h2⟩, h3⟩ := (h p).mpr rfl
    refine ⟨h3, h2, fun q => ⟨fun ⟨a, b⟩ => (h q).mp ⟨⟨hx q a, b.trans h2⟩, a⟩, fun e => ?_⟩⟩
    subst e
    exact ⟨h3, rfl⟩
  · rintro ⟨h1, rfl, h3⟩ q
    constructor
    · rintro ⟨⟨_, a⟩, b⟩
      exact (h3 q).mp ⟨b, a⟩
    · rintro rfl
      exact ⟨⟨hx q h1, rfl⟩, h1⟩
theorem mem_sole {s : P3} {ls : List Lk} {xs : List P3} (hs : Sz 100 s) (hl : ∀ l, l ∈ ls → LkOk s l) (hx : ∀ q, q ∈ xs → inB s q = true) (hn : xs.Nodup) (p : P3) : p ∈ (ls.flatMap fun l => (inked s l).flatMap (soleD s xs l)).map (·.1) ↔ p ∈ xs.filter (soleB s ls xs) := by
  rw [List.mem_map, List.mem_filter]
  unfold soleB
  rw [List.any_eq_true]
  constructor
  · rintro ⟨⟨q, v⟩, hq, rfl⟩
    obtain ⟨l, hl', hq⟩ := List.mem_flatMap.mp hq
    obtain ⟨d, hd, hq⟩ := List.mem_flatMap.mp hq
    obtain ⟨hd1, hd2⟩ := List.mem_filter.mp hd
    unfold soleD at hq
    split at hq
    · next p e =>
      rw [List.mem_singleton] at hq
      cases hq
      obtain ⟨h1, h2, h3⟩ := (grains_one hs (hl l hl') hx hn (mem_doors.mp hd1)).mp e
      refine ⟨h1, l, hl', ?_⟩
      unfold soleL
      rw [h3, show sign s l q = sgn s l d by unfold sign sgn; rw [h2], hd2]
      simp
    · cases hq
  · rintro ⟨h1, l, hl', h2⟩
    unfold soleL at h2
    rw [Bool.and_eq_true, decide_eq_true_eq] at h2
    have hk := hl l hl'
    have hdm := door_mem hs hk.1.nz (hx p h1)
    have hg := (grains_one hs hk hx hn (mem_doors.mp hdm)).mpr ⟨h1, rfl, h2.1⟩
    exact ⟨(p, .bl true), List.mem_flatMap.mpr ⟨l, hl', List.mem_flatMap.mpr ⟨door s l.w p, List.mem_filter.mpr ⟨hdm, h2.2⟩, by unfold soleD; rw [hg]; simp⟩⟩, rfl⟩
theorem sign_sgn {s : P3} {l : Lk} {p : P3} (hs : Sz 100 s) (hk : LkOk s l) (hsg : LkSg l) (hp : inB s p = true) : Sgn (sign s l p) := hsg _ (sg_mem (door_mem hs hk.1.nz hp) hk.2)
/-! ### slices, comprehensions whose items are not told -/
theorem cut_map {α : Type} (e : α → D) (xs : List α) (lo hi : Option Int) : ∃ ys : List α, cutD (xs.map e) lo hi = ys.map e ∧ ys.length ≤ xs.length ∧ ∀ y, y ∈ ys → y ∈ xs := by
  refine ⟨(xs.drop (HT.sIx (xs.map e).length 0 lo)).take (HT.sIx (xs.map e).length (xs.map e).length hi - HT.sIx (xs.map e).length 0 lo), ?_, ?_, fun y hy => List.mem_of_mem_drop (List.mem_of_mem_take hy)⟩
  · unfold cutD
    rw [← List.map_drop, ← List.map_take]
  · rw [List.length_take, List.length_drop]
    omega
theorem compL_ex {β γ : Type} {tg : D → Rho → Option Rho} {c : Rho → M Bool} {f : Rho → M D} (e : β → D) (g : γ → D) (P : γ → Prop) (ρ : Rho) : ∀ xs : List β, (∀ x, x ∈ xs → ∃ y, pickC tg c f (e x) ρ = .ok (some (g y)) ∧ P y) → ∃ ys : List γ, compL tg c f ρ (xs.map e) = .ok (ys.map g) ∧ ys.length = xs.length ∧ ∀ y, y ∈ ys → P y
  | [], _ => ⟨[], rfl, rfl, fun y hy => nomatch hy⟩
  | x :: xs, h => by
    obtain ⟨y, h1, h2⟩ := h x List.mem_cons_self
    obtain ⟨ys, h3, h4, h5⟩ := compL_ex e g P ρ xs fun z hz => h z (List.mem_cons_of_mem _ hz)
    refine ⟨y :: ys, ?_, by rw [List.length_cons, List.length_cons, h4], fun z hz => ?_⟩
    · rw [List.map_cons, compL_cons, h1, h3]
      rfl
    · rcases List.mem_cons.mp hz with rfl | hz
      · exact h2
      · exact h5 z hz
theorem ne_eLs (ls : List Lk) (hsg : ∀ l, l ∈ ls → LkSg l) : neG (.lst (ls.map eL)) (.lst (ls.map eL)) = .ok (.bl false) := by
  unfold neG VL.notM
  rw [eq_eLs ls hsg]
  rfl
end VL
set_option Elab.async false
set_option linter.all false
set_option maxRecDepth 100000
/-! VM9: more looks, looks in another order; slices told. -/
namespace VL
open PySem L2 PySem.Spec PyProof.Rows
theorem Bars_sub {v v' : List (Bool × Nat)} (h : ∀ e, e ∈ v → e.1 = true → e ∈ v') (hb : Bars v) : Bars v' := by
  rcases hb with ⟨e, he, e1, e2⟩ | ⟨e, e', he, he', e1, e1', n⟩
  · exact .inl ⟨e, h e he e1, e1, e2⟩
  · exact .inr ⟨e, e', h e he e1, h e' he' e1', e1, e1', n⟩
theorem barP_looks {s : P3} {ls ls' : List Lk} {xs : List P3} {p : P3} (h : ∀ l, l ∈ ls → l ∈ ls') (hb : (barP s ls xs p).isSome = true) : (barP s ls' xs p).isSome = true := by
  refine bar_some.mpr (Bars_sub (fun e he _ => ?_) (bar_some.mp hb))
  obtain ⟨l, hl, rfl⟩ := List.mem_map.mp he
  exact List.mem_map.mpr ⟨l, h l hl, rfl⟩
theorem Agr.looks {s : P3} {ls ls' : List Lk} {xs : List P3} (h : ∀ l, l ∈ ls → l ∈ ls') (ha : Agr s ls' xs) : Agr s ls xs := fun p hp => by
  cases hb : barP s ls xs p with
  | none => rfl
  | some z =>
    have := barP_looks h (p := p) (xs := xs) (by rw [hb]; rfl)
    rw [ha p hp] at this
    cases this
/-- the looks' order doesn't matter -/
theorem carv_looks {s : P3} {ls ls' : List Lk} {xs : List P3} (hn : xs.Nodup) (h : ∀ l, l ∈ ls ↔ l ∈ ls') : carv s ls xs = carv s ls' xs :=
  carv_eq hn (carv_sub s ls xs) ((carv_agr s ls xs).looks fun l hl => (h l).mpr hl) (carv_great ((carv_agr s ls' xs).looks fun l hl => (h l).mp hl) fun q hq => (carv_sub s ls' xs).subset hq)
/-- with more looks: carved on -/
theorem carv_more {s : P3} {ls ls' : List Lk} {xs : List P3} (hn : xs.Nodup) (h : ∀ l, l ∈ ls → l ∈ ls') : carv s ls' (carv s ls xs) = carv s ls' xs := by
  refine carv_eq hn ((carv_sub s ls' _).trans (carv_sub s ls xs)) (carv_agr s ls' _) fun q hq => ?_
  have ha := carv_agr s ls' xs
  exact carv_great ha (carv_great (ha.looks h) fun q hq => (carv_sub s ls' xs).subset hq) q hq
theorem carv_within {s : P3} {ls ls' : List Lk} {xs : List P3} (h : ∀ l, l ∈ ls → l ∈ ls') (p : P3) (hp : p ∈ carv s ls' xs) : p ∈ carv s ls xs :=
  carv_great ((carv_agr s ls' xs).looks h) (fun q hq => (carv_sub s ls' xs).subset hq) p hp
/-- an agreeing stone stays -/
theorem carv_self {s : P3} {ls : List Lk} {xs : List P3} (hn : xs.Nodup) (h : Agr s ls xs) : carv s ls xs = xs := (carv_eq hn (List.Sublist.refl _) h fun q hq => (carv_sub s ls xs).subset hq).symm
theorem cut_to {α : Type} (e : α → D) (xs : List α) (n : Nat) : cutD (xs.map e) none (some (n : Nat)) = (xs.take n).map e := by
  unfold cutD
  rw [HT.sIx_none, HT.sIx_nat, List.drop_zero, Nat.sub_zero, ← List.map_take]
  congr 1
  by_cases h : n ≤ (xs.map e).length
  · rw [Nat.min_eq_left h]
  · rw [Nat.min_eq_right (by omega), List.take_of_length_le (by rw [List.length_map]; exact Nat.le_refl _), List.take_of_length_le (by rw [List.length_map] at h; omega)]
theorem cut_from {α : Type} (e : α → D) (xs : List α) (n : Nat) : cutD (xs.map e) (some (n : Nat)) none = (xs.drop n).map e := by
  unfold cutD
  rw [HT.sIx_none, HT.sIx_nat, ← List.map_drop, ← List.map_take]
  congr 1
  rw [List.take_of_length_le (by rw [List.length_drop, List.length_map]; omega)]
  by_cases h : n ≤ (xs.map e).length
  · rw [Nat.min_eq_left h]
  · rw [Nat.min_eq_right (by omega), List.drop_of_length_le (by rw [List.length_map]; exact Nat.le_refl _), List.drop_of_length_le (by rw [List.length_map] at h; omega)]
@[simp] theorem sl_lst (ds : List D) (lo hi : Option Int) : slG (.lst ds) lo hi = if lfA ds = true then .ok (.lst (cutD ds lo hi)) else .er := rfl
@[simp] theorem add_ll (xs ys : List D) : addG (.lst xs) (.lst ys) = if xs.length + ys.length ≤ sizeLine ∧ lfA xs = true ∧ lfA ys = true then .ok (.lst (xs ++ ys)) else .er := rfl
/-- turned about -/
theorem rngDn_map (hi : Int) (n : Nat) : rngDn hi n = (List.range n).map fun i => D.int (hi - (i : Nat)) := rfl
def revAt {α : Type} (xs : List α) (d : α) (i : Nat) : α := xs.reverse.getD i d
theorem revAt_get {α : Type} (xs : List α) (d : α) {i : Nat} (hi : i < xs.length) : xs[xs.length - 1 - i]? = some (revAt xs d i) := by
  rw [← List.getElem?_reverse hi]
  unfold revAt
  rw [List.getD_eq_getElem?_getD, List.getElem?_eq_getElem (by rw [List.length_reverse]; exact hi)]
  rfl
theorem revAt_map {α β : Type} (xs : List α) (d : α) (f : α → β) : (List.range xs.length).map (fun i => f (revAt xs d i)) = xs.reverse.map f := by
  refine List.ext_getElem? fun i => ?_
  rw [List.getElem?_map, List.getElem?_map]
  by_cases hi : i < xs.length
  · have h := revAt_get xs d hi
    rw [← List.getElem?_reverse hi] at h
    rw [List.getElem?_range hi, h]
    rfl
  · rw [List.getElem?_eq_none (by rw [List.length_range]; omega), List.getElem?_eq_none (by rw [List.length_reverse]; omega)]
    rfl
/-! ### thinning -/
def fewerN (kept : List Nat) (n : Int) : List Nat := kept.filter fun k => !decide ((k : Int) = n)
def pickL (ls : List Lk) (ks : List Nat) : List Lk := ks.map fun k => ls.getD k ⟨(0, 0, 0), []⟩
def thinS (s : P3) (ls : List Lk) (kept : List Nat) (n : Int) : List Nat := if carv s (pickL ls (fewerN kept n)) (places s) = carv s ls (places s) then fewerN kept n else kept
/-- the numbers of the looks that are kept -/
def thin (s : P3) (ls : List Lk) : List Nat := (List.range ls.length).foldl (fun kept i => thinS s ls kept ((ls.length : Int) - 1 - (i : Nat))) (List.range ls.length)
def KeptOk (ls : List Lk) (kept : List Nat) : Prop := (∀ k, k ∈ kept → k < ls.length) ∧ kept.length ≤ ls.length
theorem fewerN_ok {ls : List Lk} {kept : List Nat} {n : Int} (h : KeptOk ls kept) : KeptOk ls (fewerN kept n) := ⟨fun k hk => h.1 k (List.mem_filter.mp hk).1, Nat.le_trans (List.length_filter_le _ _) h.2⟩
theorem thinS_ok {s : P3} {ls : List Lk} {kept : List Nat} {n : Int} (h : KeptOk ls kept) : KeptOk ls (thinS s ls kept n) := by
  unfold thinS
  split
  · exact fewerN_ok h
  · exact h
theorem keptOk_all (ls : List Lk) : KeptOk ls (List.range ls.length) := ⟨fun k hk => List.mem_range.mp hk, by rw [List.length_range]; exact Nat.le_refl _⟩
theorem look_at {ls : List Lk} {k : Nat} (h : k < ls.length) : ls[k]? = some (ls.getD k ⟨(0, 0, 0), []⟩) ∧ ls.getD k ⟨(0, 0, 0), []⟩ ∈ ls := by
  rw [List.getD_eq_getElem?_getD, List.getElem?_eq_getElem h]
  exact ⟨rfl, List.getElem_mem h⟩
theorem pickL_mem {ls : List Lk} {ks : List Nat} (h : ∀ k, k ∈ ks → k < ls.length) : ∀ l, l ∈ pickL ls ks → l ∈ ls := fun l hl => by
  obtain ⟨k, hk, rfl⟩ := List.mem_map.mp hl
  exact (look_at (h k hk)).2
theorem rngD_nat (n : Nat) : rngD 0 n = (List.range n).map fun k : Nat => D.int (k : Nat) := by
  rw [rngD_map]
  exact List.map_congr_left fun i _ => by simp
theorem thin_ok (s : P3) (ls : List Lk) : KeptOk ls (thin s ls) := by
  unfold thin
  have key : ∀ (l : List Nat) (kept : List Nat), KeptOk ls kept → KeptOk ls (l.foldl (fun kept i => thinS s ls kept ((ls.length : Int) - 1 - (i : Nat))) kept) := by
    intro l
    induction l with
    | nil => exact fun _ h => h
    | cons i l ih => exact fun kept h => ih _ (thinS_ok h)
  exact key _ _ (keptOk_all ls)
end VL
set_option Elab.async false
set_option linter.all false
set_option maxRecDepth 100000
/-! VM10: veils. -/
namespace VL
open PySem L2 PySem.Spec PyProof.Rows
def veilP (pic : List Nat) (spots : List Nat) : List Nat := spots.foldl (fun p i => p.set i 63) pic
@[simp] theorem veilP_len : ∀ (spots pic : List Nat), (veilP pic spots).length = pic.length
  | [], pic => rfl
  | i :: spots, pic => by
    show (veilP (pic.set i 63) spots).length = _
    rw [veilP_len spots, List.length_set]
theorem veilP_get : ∀ (spots pic : List Nat) (i c : Nat), (veilP pic spots)[i]? = some c → c = 63 ∨ pic[i]? = some c
  | [], pic, i, c, h => .inr h
  | j :: spots, pic, i, c, h => by
    rcases veilP_get spots (pic.set j 63) i c h with h | h
    · exact .inl h
    · by_cases e : j = i
      · subst e
        by_cases hl : j < pic.length
        · rw [List.getElem?_set_self hl] at h
          cases h
          exact .inl rfl
        · rw [List.getElem?_eq_none (by rw [List.length_set]; omega)] at h
          cases h
      · rw [List.getElem?_set_ne e] at h
        exact .inr h
def veilL (l : Lk) (spots : List Nat) : Lk := ⟨l.w, veilP l.pic spots⟩
theorem veilL_ok {s : P3} {l : Lk} (spots : List Nat) (h : LkOk s l) : LkOk s (veilL l spots) := ⟨h.1, by rw [show (veilL l spots).pic = veilP l.pic spots from rfl, veilP_len]; exact h.2⟩
theorem veilL_sg {l : Lk} (spots : List Nat) (h : LkSg l) : LkSg (veilL l spots) := fun c hc => by
  obtain ⟨i, hi⟩ := List.mem_iff_getElem?.mp hc
  rcases veilP_get spots l.pic i c hi with rfl | h1
  · exact .inr (.inl rfl)
  · exact h c (List.mem_of_getElem? h1)
theorem sg_get {ds : List P3} {cs : List Nat} {p : P3} (hp : p ∈ ds) (hl : cs.length = ds.length) : cs[ds.idxOf p]? = some (sg ds cs p) := by
  have hi : ds.idxOf p < cs.length := by rw [hl]; exact List.idxOf_lt_length_of_mem hp
  unfold sg
  rw [List.getD_eq_getElem?_getD, List.getElem?_eq_getElem hi]
  rfl
/-- the one look tells no more than the other -/
def VeilOf (s : P3) (l' l : Lk) : Prop := l'.w = l.w ∧ ∀ p, inB s p = true → sign s l' p = 63 ∨ sign s l' p = sign s l p
theorem veilL_of {s : P3} {l : Lk} (spots : List Nat) (hs : Sz 100 s) (h : LkOk s l) : VeilOf s (veilL l spots) l := by
  refine ⟨rfl, fun p hp => ?_⟩
  have hd := door_mem hs h.1.nz hp
  have h1 := sg_get hd (veilL_ok spots h).2
  have h2 := sg_get hd h.2
  rcases veilP_get spots l.pic _ _ h1 with h3 | h3
  · exact .inl h3
  · rw [h2] at h3
    exact .inr (Option.some.inj h3).symm
theorem barP_veil {s : P3} {ls ls' : List Lk} {xs : List P3} {p : P3} (hp : inB s p = true) (h : ∀ l', l' ∈ ls' → ∃ l, l ∈ ls ∧ VeilOf s l' l) (hb : (barP s ls' xs p).isSome = true) : (barP s ls xs p).isSome = true := by
  have up (e : Bool × Nat) (he : e ∈ ls'.map (entL s xs p)) (h63 : e.2 ≠ 63) : e ∈ ls.map (entL s xs p) := by
    obtain ⟨l', hl', rfl⟩ := List.mem_map.mp he
    obtain ⟨l, hl, hw, hv⟩ := h l' hl'
    refine List.mem_map.mpr ⟨l, hl, ?_⟩
    have hv' := (hv p hp).resolve_left h63
    show (seenL s l xs p, sign s l p) = (seenL s l' xs p, sign s l' p)
    unfold seenL
    rw [hw, hv']
  refine bar_some.mpr ?_
  rcases bar_some.mp hb with ⟨e, he, e1, e2⟩ | ⟨e, e', he, he', e1, e1', n⟩
  · exact .inl ⟨e, up e he (by rw [e2]; decide), e1, e2⟩
  · exact .inr ⟨e, e', up e he n.2.1, up e' he' n.2.2.2.1, e1, e1', n⟩
/-- nothing told, nothing barred -/
theorem agr_blank {s : P3} {ls : List Lk} {xs : List P3} (hx : ∀ p, p ∈ xs → inB s p = true) (h : ∀ l, l ∈ ls → ∀ p, inB s p = true → sign s l p = 63) : Agr s ls xs := fun p hp => by
  cases hb : barP s ls xs p with
  | none => rfl
  | some z =>
    have hB : Bars (ls.map (entL s xs p)) := bar_some.mp (by show (barP s ls xs p).isSome = true; rw [hb]; rfl)
    have k (e : Bool × Nat) (he : e ∈ ls.map (entL s xs p)) : e.2 = 63 := by
      obtain ⟨l, hl, rfl⟩ := List.mem_map.mp he
      exact h l hl p (hx p hp)
    rcases hB with ⟨e, he, _, e2⟩ | ⟨e, e', he, _, _, _, _, n, _⟩
    · rw [k e he] at e2; exact absurd e2 (by decide)
    · exact absurd (k e he) n
def blankL (s w : P3) : Lk := ⟨w, List.replicate (doors s w).length 63⟩
theorem blankL_ok {s w : P3} (hw : Way w) : LkOk s (blankL s w) := ⟨hw, by show (List.replicate _ _).length = _; rw [List.length_replicate]; rfl⟩
theorem blank_sign {s w p : P3} (hs : Sz 100 s) (hw : Way w) (hp : inB s p = true) : sign s (blankL s w) p = 63 := by
  have h := sg_mem (door_mem hs hw.nz hp) (blankL_ok (s := s) hw).2
  exact List.eq_of_mem_replicate h
theorem repS_one (c : Nat) (n : Int) (h : 0 ≤ n) : repS ⟨#[c]⟩ n = ⟨(List.replicate n.toNat c).toArray⟩ := by
  have key : ∀ (m : Nat) (acc : Array Nat), (List.replicate m (⟨#[c]⟩ : Str).cps).foldl (· ++ ·) acc = acc ++ (List.replicate m c).toArray := by
    intro m
    induction m with
    | zero => intro acc; simp
    | succ m ih =>
      intro acc
      rw [List.replicate_succ, List.foldl_cons, ih, List.replicate_succ, Array.append_assoc]
      congr 1
      simp
  unfold repS
  by_cases h0 : n < 1
  · rw [if_pos h0]
    have : n = 0 := by omega
    subst this
    rfl
  · rw [if_neg h0]
    by_cases h1 : n = 1
    · subst h1
      rfl
    · rw [if_neg (by
        rw [Bool.or_eq_true]
        rintro (h | h)
        · exact h1 (eq_of_beq h)
        · rw [show (⟨#[c]⟩ : Str).length = 1 from rfl] at h
          exact absurd h (by decide)), key]
      simp
/-! ### two texts side by side -/
def eZ (z : Nat × Nat) : D := .tup [eS z.1, eS z.2]
theorem zipC_map : ∀ (xs ys : List Nat), zipC xs ys = (xs.zip ys).map eZ
  | [], ys => by simp [zipC]
  | x :: xs, [] => by simp [zipC]
  | x :: xs, y :: ys => by simp [zipC, zipC_map xs ys, eZ, eS]
theorem enumD_len' : ∀ (xs : List D) (n : Nat), (enumD n xs).length = xs.length
  | [], _ => rfl
  | x :: xs, n => by rw [enumD_cons, List.length_cons, List.length_cons, enumD_len' xs]
end VL
set_option Elab.async false
set_option linter.all false
set_option maxRecDepth 100000
/-! VM11: dicts by places put together, places taken out. -/
namespace VL
open PySem L2 PySem.Spec PyProof.Rows
theorem marks_mkD (xs : List P3) : marksD xs = mkD (xs.map fun p => (p, D.bl true)) := by
  unfold marksD markD mkD putAll
  rw [List.foldl_map]
theorem keys_marks (xs : List P3) : KeysAre (marksD xs) (keyAll xs) := by
  have := keys_mkD (xs.map fun p => (p, D.bl true))
  rw [List.map_map, show ((fun x : P3 × D => x.1) ∘ fun p : P3 => (p, D.bl true)) = id from rfl, List.map_id] at this
  rw [marks_mkD]
  exact this
theorem triK_k {k : List Key} {p : P3} (h : triK k = some p) : k = k3 p := by
  unfold triK at h
  split at h
  · cases h; rfl
  · cases h
theorem keys_puts : ∀ (more kvs : List (List Key × D)) (ps qs : List P3), KeysAre kvs ps → keysT more = some qs → KeysAre (putsT kvs more) (qs.foldl keyStep ps)
  | [], kvs, ps, qs, h, e => by cases e; exact h
  | kv :: more, kvs, ps, qs, h, e => by
    unfold keysT at e
    split at e
    · next k ts e1 e2 =>
      cases e
      have hk := keys_put h k kv.2
      rw [← triK_k e1] at hk
      exact keys_puts more _ _ ts hk e2
    · cases e
theorem keysT_len {α : Type} : ∀ {kvs : List (List Key × α)} {ps : List P3}, keysT kvs = some ps → kvs.length = ps.length
  | [], ps, e => by cases e; rfl
  | kv :: kvs, ps, e => by
    unfold keysT at e
    split at e
    · next k ts e1 e2 => cases e; rw [List.length_cons, List.length_cons, keysT_len e2]
    · cases e
theorem keys_drop {kvs : List (List Key × D)} {ps : List P3} (h : KeysAre kvs ps) (p : P3) : KeysAre (dropT kvs (k3 p)) (ps.filter fun q => decide (q ≠ p)) := by
  refine ⟨?_, h.2.sublist List.filter_sublist⟩
  have h1 := h.1
  clear h
  induction kvs generalizing ps with
  | nil => cases h1; rfl
  | cons kv kvs ih =>
    unfold keysT at h1
    split at h1
    · next k ts e1 e2 =>
      cases h1
      have ih := ih e2
      have hk : kv.1 = k3 p ↔ k = p := by rw [triK_k e1, k3_inj]
      unfold dropT at ih ⊢
      by_cases c : k = p
      · rw [List.filter_cons_of_neg (by simp [hk.mpr c]), List.filter_cons_of_neg (by simp [c])]
        exact ih
      · rw [List.filter_cons_of_pos (by simpa using fun z => c (hk.mp z)), List.filter_cons_of_pos (by simp [c])]
        unfold keysT
        rw [e1, ih]
    · cases h1
theorem keys_look {kvs : List (List Key × D)} {ps : List P3} (h : KeysAre kvs ps) (p : P3) : (lookT kvs (k3 p)).isSome = decide (p ∈ ps) := by
  have ha := keysT_any kvs ps p h.1
  rw [Bool.eq_iff_iff, decide_eq_true_eq, ← ha]
  cases e : lookT kvs (k3 p) with
  | none =>
    have := lookT_none.mp e
    simp only [Option.isSome_none, Bool.false_eq_true, false_iff]
    exact this
  | some d =>
    simp only [Option.isSome_some, true_iff]
    refine Classical.byContradiction fun hc => ?_
    rw [lookT_none.mpr hc] at e
    cases e
theorem in_keys {kvs : List (List Key × D)} {ps : List P3} (h : KeysAre kvs ps) (p : P3) : inB_ (e3 p) (.dct kvs) = .ok (decide (p ∈ ps)) := by
  unfold inB_
  rw [lookD_e3]
  simp only
  rw [keys_look h]
theorem small_k3 {p : P3} (h : (0 ≤ p.1 ∧ p.1 < 6) ∧ (0 ≤ p.2.1 ∧ p.2.1 < 6) ∧ (0 ≤ p.2.2 ∧ p.2.2 < 6)) : smallK (k3 p) = true := by
  simp [smallK, k3, h]
theorem small_keys : ∀ {kvs : List (List Key × D)} {ps : List P3}, keysT kvs = some ps → (∀ p, p ∈ ps → (0 ≤ p.1 ∧ p.1 < 6) ∧ (0 ≤ p.2.1 ∧ p.2.1 < 6) ∧ (0 ≤ p.2.2 ∧ p.2.2 < 6)) → smallAll kvs = true
  | [], _, _, _ => rfl
  | kv :: kvs, ps, e, h => by
    unfold keysT at e
    split at e
    · next k ts e1 e2 =>
      cases e
      unfold smallAll
      rw [List.all_cons, triK_k e1, small_k3 (h k List.mem_cons_self)]
      exact small_keys e2 fun p hp => h p (List.mem_cons_of_mem _ hp)
    · cases e
theorem in_six {s p : P3} (hs : Sz 6 s) (h : inB s p = true) : (0 ≤ p.1 ∧ p.1 < 6) ∧ (0 ≤ p.2.1 ∧ p.2.1 < 6) ∧ (0 ≤ p.2.2 ∧ p.2.2 < 6) := by
  rw [inB_iff] at h
  unfold Sz at hs
  omega
/-- two stones laid together -/
def joinP (s : P3) (xs ys : List P3) : List P3 := (places s).filter fun p => decide (p ∈ xs) || decide (p ∈ ys)
theorem mem_joinP {s : P3} {xs ys : List P3} (hx : ∀ p, p ∈ xs → inB s p = true) (hy : ∀ p, p ∈ ys → inB s p = true) (p : P3) : p ∈ joinP s xs ys ↔ p ∈ xs ∨ p ∈ ys := by
  unfold joinP
  rw [List.mem_filter, Bool.or_eq_true, decide_eq_true_eq, decide_eq_true_eq]
  constructor
  · exact fun h => h.2
  · rintro (h | h)
    · exact ⟨mem_places.mpr (inB_iff.mp (hx p h)), .inl h⟩
    · exact ⟨mem_places.mpr (inB_iff.mp (hy p h)), .inr h⟩
theorem agr_join {s : P3} {ls : List Lk} {xs ys zs : List P3} (hx : Agr s ls xs) (hy : Agr s ls ys) (h : ∀ p, p ∈ zs ↔ p ∈ xs ∨ p ∈ ys) : Agr s ls zs := fun p hp => by
  cases hb : barP s ls zs p with
  | none => rfl
  | some z =>
    rcases (h p).mp hp with h1 | h1
    · exact absurd h1 (hx.clear (fun q hq => (h q).mpr (.inl hq)) (by rw [hb]; rfl))
    · exact absurd h1 (hy.clear (fun q hq => (h q).mpr (.inr hq)) (by rw [hb]; rfl))
end VL
set_option Elab.async false
set_option linter.all false
set_option maxRecDepth 100000
/-! VM: raised errors; lists of numbers told apart. -/
namespace VL
open PySem L2 PySem.Spec PyProof.Rows
@[simp] theorem sRaise_ap (c : Str) (ρ : Rho) : sRaise c ρ = .ex (.own c) ρ := rfl
@[simp] theorem sTry3_ap (i k : Nat) (c : Str) (b1 b2 b3 : Bool) (fb : Rho → Res) (ρ : Rho) : sTry3 i k c b1 b2 b3 fb ρ = match fb ρ with
  | .ex (.own c') ρ' => if c' = c then .nx (((ρ'.set i .no).set k (.fr (.lst [.bl b1, .bl b2, .bl b3]))).set i .no) else .er
  | .ex (.bi _) _ => .er
  | r => r := by
  unfold sTry3
  cases fb ρ with
  | ex c' ρ' => cases c' <;> rfl
  | _ => rfl
theorem forR_ex {β : Type} {tg : D → Rho → Option Rho} {b : Rho → Res} (e : β → D) (p : β → Bool) (c : Xc) (ρx : β → Rho) (ρ : Rho) : ∀ (xs : List β), (∀ x, x ∈ xs → turn tg b (e x) ρ = if p x = true then .ex c (ρx x) else .nx ρ) →
    forR tg b (xs.map e) ρ = match xs.find? p with | some x => .ex c (ρx x) | none => .nx ρ
  | [], _ => rfl
  | x :: xs, h => by
    rw [List.map_cons, forR_cons, h x List.mem_cons_self, List.find?_cons]
    cases p x with
    | true => rfl
    | false => simpa using forR_ex e p c ρx ρ xs fun y hy => h y (List.mem_cons_of_mem _ hy)
theorem canLay_ints : ∀ xs : List Int, PyData.canLayAll0 (toPA (xs.map D.int)) = true
  | [] => rfl
  | x :: xs => by simp [toPA, PyData.canLayAll0, toP, PyData.canLay0, canLay_ints xs]
theorem depth_ints : ∀ xs : List Int, PyData.depthAll (toPA (xs.map D.int)) ≤ 1
  | [] => by simp [toPA, PyData.depthAll]
  | x :: xs => by
    have := depth_ints xs
    simp [toPA, PyData.depthAll, toP, PyData.depth]
    omega
theorem shaped_ints (xs : List Int) : SeqAt.shaped (toP (.lst (xs.map D.int))) = true := by
  have h := depth_ints xs
  simp only [toP, SeqAt.shaped, PyData.canLay0, PyData.depth, canLay_ints, Bool.true_and, decide_eq_true_eq]
  omega
theorem eqvAll_ints : ∀ xs : List Int, PyData.eqvAll (toPA (xs.map D.int)) (toPA (xs.map D.int)) = true
  | [] => rfl
  | x :: xs => by simp [toPA, PyData.eqvAll, eqvAll_ints xs, toP, PyData.eqv]
theorem eq_ints (xs : List Int) : eqG (.lst (xs.map D.int)) (.lst (xs.map D.int)) = .ok (.bl true) := by
  have h : eqG (.lst (xs.map D.int)) (.lst (xs.map D.int)) = if SeqAt.shaped (toP (.lst (xs.map D.int))) = true ∧ SeqAt.shaped (toP (.lst (xs.map D.int))) = true then M.ok (D.bl (PyData.eqv (toP (.lst (xs.map D.int))) (toP (.lst (xs.map D.int))))) else M.er := by rfl
  rw [h, if_pos ⟨shaped_ints xs, shaped_ints xs⟩]
  simp only [toP, PyData.eqv, eqvAll_ints]
@[simp] theorem ne_ints (xs : List Int) : neG (.lst (xs.map D.int)) (.lst (xs.map D.int)) = .ok (.bl false) := by
  unfold neG notM
  rw [eq_ints]
  rfl
/-- the answers of a caught error -/
abbrev kindsD : D := .lst [.bl true, .bl true, .bl false]
@[simp] theorem eq_kinds : eqG kindsD kindsD = .ok (.bl true) := by
  have h : eqG kindsD kindsD = if SeqAt.shaped (toP kindsD) = true ∧ SeqAt.shaped (toP kindsD) = true then M.ok (D.bl (PyData.eqv (toP kindsD) (toP kindsD))) else M.er := by rfl
  rw [h, if_pos (by decide)]
  rfl
@[simp] theorem ne_kinds : neG kindsD kindsD = .ok (.bl false) := by
  unfold neG notM
  rw [eq_kinds]
  rfl
/-- a row of numbers that is changed at a place, or is not: it is a row as long -/
theorem ints_set (xs : List Int) (n : Nat) (v : Int) : (xs.map D.int).set n (.int v) = (xs.set n v).map D.int := by
  rw [List.map_set]
/-- a sign that a picture may bear -/
def goodC (c : Nat) : Bool := decide (c ∈ abc) || (decide (c = 46) || decide (c = 63))
end VL
set_option Elab.async false
set_option linter.all false
set_option maxRecDepth 100000
/-! VM: where a place stands in a list; lists of signs; a line from both its ends. -/
namespace VL
open PySem L2 PySem.Spec PyProof.Rows
theorem idx_e3s (ds : List P3) (d : P3) (h : d ∈ ds) : indexG (.lst (ds.map e3)) (e3 d) = .ok (.int (ds.idxOf d : Nat)) := by
  have hf : findE (ds.map e3) (e3 d) = some (ds.idxOf d) := by
    unfold findE
    have : ∀ ds : List P3, toPA (ds.map e3) = ds.map fun p => toP (e3 p) := fun ds => by
      induction ds with
      | nil => rfl
      | cons x xs ih => simp only [List.map_cons, toPA, ih]
    rw [this, List.findIdx?_map]
    have e : (fun z => PyData.eqv z (toP (e3 d))) ∘ (fun p => toP (e3 p)) = fun p => p == d := by
      funext p
      show PyData.eqv (toP (e3 p)) (toP (e3 d)) = _
      rw [eqv_e3, Bool.eq_iff_iff]
      simp
    rw [e]
    rw [List.idxOf, List.findIdx?_eq_some_iff_findIdx_eq]
    exact ⟨List.idxOf_lt_length_of_mem h, rfl⟩
  show (if SeqAt.shaped (toP (.lst (ds.map e3))) = true ∧ SeqAt.shaped (toP (e3 d)) = true then (match findE (ds.map e3) (e3 d) with | some j => M.ok (D.int (j : Nat)) | none => .er) else .er) = _
  rw [if_pos ⟨shaped_e3s ds, shaped_e3 d⟩, hf]
theorem canLay_eSs : ∀ L : List Nat, (∀ c, c ∈ L → c < 1114112) → PyData.canLayAll0 (toPA (L.map eS)) = true
  | [], _ => rfl
  | x :: xs, h => by
    have hx := h x List.mem_cons_self
    simp [toPA, PyData.canLayAll0, eS, toP, PyData.canLay0, PyData.strOk, hx]
    simpa [eS] using canLay_eSs xs fun c hc => h c (List.mem_cons_of_mem _ hc)
theorem depth_eSs : ∀ xs : List Nat, PyData.depthAll (toPA (xs.map eS)) ≤ 1
  | [] => by simp [toPA, PyData.depthAll]
  | x :: xs => by
    have := depth_eSs xs
    simp [toPA, PyData.depthAll, eS, toP, PyData.depth] at this ⊢
    omega
theorem in_eSs (L : List Nat) (c : Nat) (hc : c < 1114112) (hL : ∀ c, c ∈ L → c < 1114112) : inB_ (eS c) (.lst (L.map eS)) = .ok (decide (c ∈ L)) := by
  have h : inB_ (eS c) (.lst (L.map eS)) = if SeqAt.shaped (toP (eS c)) = true ∧ SeqAt.shaped (toP (.lst (L.map eS))) = true then M.ok ((L.map eS).any fun z => PyData.eqv (toP z) (toP (eS c))) else M.er := by rfl
  have s1 : SeqAt.shaped (toP (eS c)) = true := by simp [eS, toP, SeqAt.shaped, PyData.canLay0, PyData.strOk, PyData.depth, hc]
  have s2 : SeqAt.shaped (toP (.lst (L.map eS))) = true := by
    have h1 := depth_eSs L
    have h2 := canLay_eSs L hL
    simp only [toP, SeqAt.shaped, PyData.canLay0, PyData.depth, h2, Bool.true_and, decide_eq_true_eq]
    omega
  rw [h, if_pos ⟨s1, s2⟩, List.any_map]
  congr 1
  rw [Bool.eq_iff_iff, List.any_eq_true, decide_eq_true_eq]
  have q (a : Nat) : PyData.eqv (toP (eS a)) (toP (eS c)) = decide (a = c) := by
    rw [Bool.eq_iff_iff]
    simp [eS, toP, PyData.eqv]
  simp only [Function.comp, q, decide_eq_true_eq]
  constructor
  · rintro ⟨x, hx, rfl⟩; exact hx
  · exact fun h => ⟨c, h, rfl⟩
/-! ### a line from both its ends -/
theorem neg_neg3 (w : P3) : neg3 (neg3 w) = w := by simp [neg3]
theorem Way.neg {w : P3} (h : Way w) : Way (neg3 w) := by
  obtain ⟨⟨h1, h2, h3⟩, h4⟩ := h
  refine ⟨⟨by simp only [neg3]; omega, by simp only [neg3]; omega, by simp only [neg3]; omega⟩, ?_⟩
  simpa [neg3, Int.gcd, Int.natAbs_neg] using h4
/-- a step on along a line: the door stays -/
theorem door_on {s v p : P3} {m : Nat} (hs : Sz 100 s) (hv : Nz v) (hp : inB s p = true) (hq : inB s (stp p v (m : Nat)) = true) : door s v (stp p v (m : Nat)) = door s v p := by
  have hd := door_is hs hv hp
  have e : stp p v (m : Nat) = stp (door s v p) v ((depth s v p + m : Nat) : Nat) := by
    have h1 : stp (door s v p) v (depth s v p : Nat) = p := door_step
    rw [show (((depth s v p + m : Nat)) : Int) = (depth s v p : Nat) + (m : Nat) by omega, ← stp_stp, h1]
  have hq' : inB s (stp (door s v p) (neg3 v) (-((depth s v p + m : Nat) : Int))) = true := by
    rw [stp_neg, Int.neg_neg, ← e]; exact hq
  have hl := lt_depth hs hv.neg hd.1 hq'
  rw [e]
  exact (IsDoor.depth hs hv hd (by unfold fore; omega)).2
theorem door_self {s w d : P3} (hs : Sz 100 s) (hw : Nz w) (hd : IsDoor s w d) : door s w d = d := by
  have := (IsDoor.depth hs hw hd (i := 0) (by unfold fore; omega)).2
  simpa using this
theorem door_both {s w p d : P3} (hs : Sz 100 s) (hw : Nz w) (hp : inB s p = true) (hd : IsDoor s w d) : door s (neg3 w) p = door s (neg3 w) d ↔ door s w p = d := by
  constructor
  · intro h
    have e1 : stp (door s (neg3 w) p) (neg3 w) (depth s (neg3 w) p : Nat) = p := door_step
    have e2 : stp (door s (neg3 w) d) (neg3 w) (depth s (neg3 w) d : Nat) = d := door_step
    rw [h] at e1
    generalize door s (neg3 w) d = o at e1 e2
    generalize depth s (neg3 w) d = b at e2
    generalize depth s (neg3 w) p = a at e1
    rcases Nat.le_total b a with hle | hle
    · have e3' : stp p w ((a - b : Nat) : Nat) = d := by
        rw [← e1, ← e2, stp_neg, stp_neg, stp_stp]
        congr 1
        omega
      have := door_on hs hw hp (by rw [e3']; exact hd.1)
      rw [e3', door_self hs hw hd] at this
      exact this.symm
    · have e3' : stp d w ((b - a : Nat) : Nat) = p := by
        rw [← e1, ← e2, stp_neg, stp_neg, stp_stp]
        congr 1
        omega
      have := door_on hs hw hd.1 (by rw [e3']; exact hp)
      rw [e3', door_self hs hw hd] at this
      exact this
  · intro h
    have e1 : stp (door s w p) w (depth s w p : Nat) = p := door_step
    rw [h] at e1
    obtain ⟨k, hk⟩ : ∃ k : Nat, stp d w (k : Nat) = p := ⟨_, e1⟩
    have e2 : stp p (neg3 w) (k : Nat) = d := by
      rw [stp_neg, ← hk, stp_stp, show (k : Int) + -(k : Int) = 0 by omega, stp_0]
    have := door_on hs hw.neg hp (by rw [e2]; exact hd.1)
    rw [e2] at this
    exact this.symm
/-- what a door shows: a letter of a grain of its line, the sky where there is none -/
theorem shot_of {s w d : P3} (hs : Sz 100 s) (hw : Nz w) (hd : IsDoor s w d) (xs : List P3) (f : P3 → Nat) (hx : ∀ p, p ∈ xs → inB s p = true) :
    (∃ p, p ∈ xs ∧ door s w p = d ∧ shot s w xs f d = f p) ∨ ((∀ p, p ∈ xs → door s w p ≠ d) ∧ shot s w xs f d = 46) := by
  unfold shot
  cases hf : (line s w d).find? fun q => decide (q ∈ xs) with
  | some p =>
    have h := (first_seen (M := fun q => decide (q ∈ xs)) hs hw hd p).mp hf
    exact .inl ⟨p, of_decide_eq_true h.1, h.2.2.1, rfl⟩
  | none =>
    refine .inr ⟨fun p hp e => ?_, rfl⟩
    have hn := List.find?_eq_none.mp hf p (by
      unfold line
      refine List.mem_map.mpr ⟨depth s w p, List.mem_range.mpr ?_, ?_⟩
      · have := depth_lt_fore hs hw (hx p hp)
        rw [e] at this
        exact this
      · rw [← e]; exact door_step)
    simp [hp] at hn
theorem nodup_le {α : Type} [DecidableEq α] : ∀ (xs ys : List α), xs.Nodup → (∀ x, x ∈ xs → x ∈ ys) → xs.length ≤ ys.length
  | [], ys, _, _ => Nat.zero_le _
  | x :: xs, ys, hn, h => by
    rw [List.nodup_cons] at hn
    have hm := h x List.mem_cons_self
    have ih := nodup_le xs (ys.erase x) hn.2 fun y hy => by
      have hne : y ≠ x := fun e => hn.1 (e ▸ hy)
      exact (List.mem_erase_of_ne hne).mpr (h y (List.mem_cons_of_mem _ hy))
    rw [List.length_erase_of_mem hm] at ih
    have := List.length_pos_of_mem hm
    rw [List.length_cons]
    omega
theorem doors_le {s w : P3} (hs : Sz 100 s) (hw : Nz w) : (doors s w).length ≤ (doors s (neg3 w)).length := by
  have h := nodup_le ((doors s w).map (door s (neg3 w))) (doors s (neg3 w)) (by
    have hu : (doors s w).Nodup := (doors_up s w).nodup
    rw [List.nodup_iff_pairwise_ne] at hu ⊢
    rw [List.pairwise_map]
    refine hu.imp_of_mem fun {a b} ha hb hne e => hne ?_
    have ha' := mem_doors.mp ha
    have hb' := mem_doors.mp hb
    have := (door_both hs hw ha'.1 hb').mp e
    rw [door_self hs hw ha'] at this
    exact this) fun x hx => by
      obtain ⟨d, hd, rfl⟩ := List.mem_map.mp hx
      exact door_mem hs hw.neg (mem_doors.mp hd).1
  rwa [List.length_map] at h
theorem doors_both {s w : P3} (hs : Sz 100 s) (hw : Nz w) : (doors s w).length = (doors s (neg3 w)).length := by
  have h1 := doors_le hs hw
  have h2 := doors_le (w := neg3 w) hs hw.neg
  rw [neg_neg3] at h2
  omega
theorem zipS_fn (ds : List P3) (g : P3 → Nat) : zipS (ds.map e3) (ds.map g) = ds.map fun d => D.tup [e3 d, eS (g d)] := by
  induction ds with
  | nil => simp [zipS]
  | cons d ds ih =>
    rw [List.map_cons, List.map_cons, List.map_cons, ← ih]
    rfl
end VL
set_option Elab.async false
set_option linter.all false
set_option maxRecDepth 100000
/-! VM: what a row of a paper says; marks without one. -/
namespace VL
open PySem L2 PySem.Spec PyProof.Rows
theorem zipIdx_lt {α : Type} (v : List α) (n : Nat) : (v.zipIdx n).Pairwise fun a b => a.2 < b.2 := by
  have h : ((v.zipIdx n).map (·.2)).Pairwise (· < ·) := by
    rw [List.zipIdx_map_snd]
    exact List.pairwise_lt_range'
  rwa [List.pairwise_map] at h
/-- what bar tells: the least that sees and shows the sky, or two that see and show unlike letters -/
theorem bar_row {v : List (Bool × Nat)} {i j : Nat} (h : bar v = some (i, j)) : ∃ ci cj, i ≤ j ∧ v[i]? = some (true, ci) ∧ v[j]? = some (true, cj) ∧ ((i = j ∧ ci = 46) ∨ (i < j ∧ ci ≠ 46 ∧ ci ≠ 63 ∧ cj ≠ 46 ∧ cj ≠ 63 ∧ ci ≠ cj)) := by
  have sp := barL_spec v 0 []
  unfold bar at h
  cases hb : barL 0 [] v with
  | inl m =>
    rw [hb] at h sp
    simp only [Option.some.injEq, Prod.mk.injEq] at h
    obtain ⟨k, c, h1, h2, h3, _⟩ := sp
    have e1 : i = k := by omega
    have e2 : j = k := by omega
    subst e1 e2
    exact ⟨c, c, Nat.le_refl _, h2, h2, .inl ⟨rfl, h3⟩⟩
  | inr t =>
    rw [hb] at h sp
    obtain ⟨s1, s2⟩ := sp
    rw [List.nil_append] at s2
    have hmem : ∀ z, z ∈ t → v[z.1]? = some (true, z.2) ∧ z.2 ≠ 46 ∧ z.2 ≠ 63 := fun z hz => by
      rw [s2] at hz
      obtain ⟨⟨⟨b, c⟩, k⟩, hy, rfl⟩ := List.mem_map.mp hz
      obtain ⟨hy1, hy2⟩ := List.mem_filter.mp hy
      have hk := List.mem_zipIdx_iff_getElem?.mp hy1
      simp at hy2
      obtain ⟨rfl, h63⟩ := hy2
      have hm : (true, c) ∈ v := List.mem_of_getElem? hk
      exact ⟨hk, s1 _ hm rfl, h63⟩
    have hpw : t.Pairwise fun a b => a.1 < b.1 := by
      rw [s2, List.pairwise_map]
      exact (zipIdx_lt v 0).sublist List.filter_sublist
    cases t with
    | nil => simp [barT] at h
    | cons z ts =>
      simp only [barT, Option.map_eq_some_iff, Prod.mk.injEq] at h
      obtain ⟨y, hy, e1, e2⟩ := h
      subst e1 e2
      have hy1 := List.mem_of_find?_eq_some hy
      have hy2 := List.find?_some hy
      have hne : y.2 ≠ z.2 := by simpa using hy2
      obtain ⟨a1, a2, a3⟩ := hmem z List.mem_cons_self
      obtain ⟨b1, b2, b3⟩ := hmem y hy1
      have hlt : z.1 < y.1 := by
        rcases List.mem_cons.mp hy1 with e | e
        · exact absurd (by rw [e]) hne
        · exact (List.pairwise_cons.mp hpw).1 y e
      exact ⟨z.2, y.2, by omega, a1, b1, .inr ⟨hlt, a2, a3, b2, b3, fun e => hne e.symm⟩⟩
/-- what a row of the bars says, of the looks themselves -/
theorem brow_says {s : P3} {ls : List Lk} {xs : List P3} {r : BRow} (h : r ∈ brows s ls xs) : r.1 ∈ xs ∧ ∃ l1 l2 : Lk, r.2.1 ≤ r.2.2 ∧ ls[r.2.1]? = some l1 ∧ ls[r.2.2]? = some l2 ∧ seenL s l1 xs r.1 = true ∧ seenL s l2 xs r.1 = true ∧
    ((r.2.1 = r.2.2 ∧ sign s l1 r.1 = 46) ∨ (r.2.1 < r.2.2 ∧ sign s l1 r.1 ≠ 46 ∧ sign s l1 r.1 ≠ 63 ∧ sign s l2 r.1 ≠ 46 ∧ sign s l2 r.1 ≠ 63 ∧ sign s l1 r.1 ≠ sign s l2 r.1)) := by
  obtain ⟨h1, h2⟩ := mem_rowL.mp h
  obtain ⟨ci, cj, hij, hi, hj, hc⟩ := bar_row (i := r.2.1) (j := r.2.2) h2
  rw [List.getElem?_map] at hi hj
  obtain ⟨l1, a1, a2⟩ := Option.map_eq_some_iff.mp hi
  obtain ⟨l2, b1, b2⟩ := Option.map_eq_some_iff.mp hj
  simp only [entL, Prod.mk.injEq] at a2 b2
  obtain ⟨a2, rfl⟩ := a2
  obtain ⟨b2, rfl⟩ := b2
  exact ⟨h1, l1, l2, hij, a1, b1, a2, b2, hc⟩
theorem putT_new' (kvs : List (List Key × D)) (k : List Key) (v : D) (h : ∀ kv, kv ∈ kvs → kv.1 ≠ k) : putT kvs k v = kvs ++ [(k, v)] := by
  unfold putT
  rw [if_neg (by
    rw [List.any_eq_true]
    rintro ⟨kv, h1, h2⟩
    exact h kv h1 (of_decide_eq_true h2))]
theorem marksD_map : ∀ (xs ys : List P3), (ys ++ xs).Nodup → VL.markD xs (ys.map fun p => (k3 p, .bl true)) = (ys ++ xs).map fun p => (k3 p, D.bl true)
  | [], ys, _ => by rw [List.append_nil]; rfl
  | x :: xs, ys, h => by
    show VL.markD xs (putT _ (k3 x) (.bl true)) = _
    have hx : x ∉ ys := fun hm => by
      have := (List.nodup_append.mp h).2.2 x hm x List.mem_cons_self
      exact this rfl
    rw [putT_new' _ _ _ (fun kv hkv => by
      obtain ⟨p, hp, rfl⟩ := List.mem_map.mp hkv
      exact fun e => hx (k3_inj.mp e ▸ hp))]
    have := marksD_map xs (ys ++ [x]) (by rw [List.append_assoc]; exact h)
    rw [List.map_append] at this
    rw [List.append_assoc] at this
    exact this
theorem marks_drop {xs : List P3} (h : xs.Nodup) (p : P3) : dropT (marksD xs) (k3 p) = marksD (xs.erase p) := by
  have h1 := marksD_map xs [] h
  have h2 := marksD_map (xs.erase p) [] (h.sublist List.erase_sublist)
  unfold marksD
  rw [List.map_nil, List.nil_append] at h1 h2
  rw [h1, h2]
  unfold dropT
  rw [List.filter_map, h.erase_eq_filter]
  congr 1
  refine List.filter_congr fun q _ => ?_
  simp only [Function.comp, ne_eq, k3_inj, bne]
  by_cases e : q = p <;> simp [e]
end VL
set_option Elab.async false
set_option linter.all false
set_option maxRecDepth 100000
/-! VM: what an agreeing stone's paint shows. -/
namespace VL
open PySem L2 PySem.Spec PyProof.Rows
@[simp] theorem eCallD_ap (g : List D → M D) (extra : List D) (fa : Rho → M (List D)) (ρ : Rho) : eCallD g extra fa ρ = M.bind (fa ρ) fun ds => noEx (g (ds ++ extra)) := rfl
@[simp] theorem noEx_ok (d : D) : noEx (.ok d) = .ok d := rfl
@[simp] theorem eOrT_ap (f g : Rho → M D) (ρ : Rho) : eOrT f g ρ = M.bind (f ρ) fun x => M.bind (truG x) fun b => if b = true then .ok x else g ρ := rfl
/-! ### letters told -/
def toldB (s : P3) (xs : List P3) (p : P3) (l : Lk) : Bool := seenL s l xs p && inkB (sign s l p)
def letterP (s : P3) (ls : List Lk) (xs : List P3) (free : Nat) (p : P3) : Nat := match ls.find? (toldB s xs p) with
  | some l => sign s l p
  | none => free
section
variable {s : P3} {ls : List Lk} {xs : List P3} {p : P3} {l l' : Lk} {free : Nat}
/-- in an agreeing stone no look that sees a grain tells it the sky -/
theorem Agr.sky (ha : Agr s ls xs) (hp : p ∈ xs) (hl : l ∈ ls) (h : seenL s l xs p = true) : sign s l p ≠ 46 := by
  intro e
  have : (barP s ls xs p).isSome = true := bar_some.mpr (.inl ⟨entL s xs p l, List.mem_map.mpr ⟨l, hl, rfl⟩, h, e⟩)
  rw [ha p hp] at this
  cases this
theorem inkB_iff {c : Nat} : inkB c = true ↔ c ≠ 46 ∧ c ≠ 63 := by
  unfold inkB
  simp
theorem told_iff : toldB s xs p l = true ↔ seenL s l xs p = true ∧ sign s l p ≠ 46 ∧ sign s l p ≠ 63 := by
  unfold toldB
  rw [Bool.and_eq_true, inkB_iff]
/-- and no two tell it unlike letters -/
theorem Agr.one (ha : Agr s ls xs) (hp : p ∈ xs) (hl : l ∈ ls) (hl' : l' ∈ ls) (h : toldB s xs p l = true) (h' : toldB s xs p l' = true) : sign s l p = sign s l' p := by
  refine Classical.byContradiction fun e => ?_
  obtain ⟨a1, a2, a3⟩ := told_iff.mp h
  obtain ⟨b1, b2, b3⟩ := told_iff.mp h'
  have : (barP s ls xs p).isSome = true := bar_some.mpr (.inr ⟨entL s xs p l, entL s xs p l', List.mem_map.mpr ⟨l, hl, rfl⟩, List.mem_map.mpr ⟨l', hl', rfl⟩, a1, b1, a2, a3, b2, b3, e⟩)
  rw [ha p hp] at this
  cases this
theorem letter_of (ha : Agr s ls xs) (hp : p ∈ xs) (hl : l ∈ ls) (h : toldB s xs p l = true) : letterP s ls xs free p = sign s l p := by
  unfold letterP
  cases hf : ls.find? (toldB s xs p) with
  | none => exact absurd h (List.find?_eq_none.mp hf l hl)
  | some l' => exact ha.one hp (List.mem_of_find?_eq_some hf) hl (List.find?_some hf) h
theorem letter_ink (hf : inkB free = true) : inkB (letterP s ls xs free p) = true := by
  unfold letterP
  cases h : ls.find? (toldB s xs p) with
  | none => exact hf
  | some l =>
    have := told_iff.mp (List.find?_some h)
    exact inkB_iff.mpr this.2
theorem letter_letter (hs : Sz 100 s) (hl : ∀ l, l ∈ ls → LkOk s l ∧ LkSg l) (hp : inB s p = true) (hf : Letter free) : Letter (letterP s ls xs free p) := by
  unfold letterP
  cases h : ls.find? (toldB s xs p) with
  | none => exact hf
  | some l =>
    have h1 := told_iff.mp (List.find?_some h)
    have h2 := hl l (List.mem_of_find?_eq_some h)
    have h3 : Sgn (sign s l p) := h2.2 _ (sg_mem (door_mem hs h2.1.1.nz hp) h2.1.2)
    unfold Sgn at h3
    simp only
    rcases h3 with h3 | h3 | h3
    · exact absurd h3 h1.2.1
    · exact absurd h3 h1.2.2
    · exact h3
/-- a stone to which each look that sees a grain tells a veil or the grain's own letter agrees -/
theorem agr_of (f : P3 → Nat) (h : ∀ l, l ∈ ls → ∀ p, p ∈ xs → seenL s l xs p = true → sign s l p = 63 ∨ (sign s l p = f p ∧ f p ≠ 46)) : Agr s ls xs := by
  intro p hp
  cases hb : barP s ls xs p with
  | none => rfl
  | some z =>
    have hb' : (barP s ls xs p).isSome = true := by rw [hb]; rfl
    have ent (e : Bool × Nat) (he : e ∈ ls.map (entL s xs p)) (h1 : e.1 = true) : e.2 = 63 ∨ (e.2 = f p ∧ f p ≠ 46) := by
      obtain ⟨l, hl, rfl⟩ := List.mem_map.mp he
      exact h l hl p hp h1
    rcases bar_some.mp hb' with ⟨e, he, e1, e2⟩ | ⟨e, e', he, he', e1, e1', n1, n2, n3, n4, n5⟩
    · rcases ent e he e1 with q | q
      · omega
      · omega
    · rcases ent e he e1 with q | q
      · exact absurd q n2
      · rcases ent e' he' e1' with q' | q'
        · exact absurd q' n4
        · exact absurd (q.1.trans q'.1.symm) n5
/-- what the paint of an agreeing stone shows at a door that is told: the sign told, or the door is bare -/
theorem paint_shows (hs : Sz 100 s) (ha : Agr s ls xs) (hl : l ∈ ls) (hw : Nz l.w) {d : P3} (hd : d ∈ doors s l.w) :
    sgn s l d = 63 ∨ sgn s l d = shot s l.w xs (letterP s ls xs free) d ∨ (inkB (sgn s l d) = true ∧ lacks s xs l d = true) := by
  have hdo := mem_doors.mp hd
  unfold shot
  cases hf : (line s l.w d).find? fun q => decide (q ∈ xs) with
  | some p =>
    have h := (first_seen (M := fun q => decide (q ∈ xs)) hs hw hdo p).mp hf
    have hp : p ∈ xs := of_decide_eq_true h.1
    have hsg : sign s l p = sgn s l d := by unfold sign sgn; rw [h.2.2.1]
    have hse : seenL s l xs p = true := h.2.2.2
    by_cases c : sgn s l d = 63
    · exact .inl c
    · refine .inr (.inl ?_)
      have h46 := ha.sky hp hl hse
      have := letter_of (free := free) ha hp hl (told_iff.mpr ⟨hse, h46, by rw [hsg]; exact c⟩)
      simp only
      rw [this, hsg]
  | none =>
    by_cases c : sgn s l d = 63
    · exact .inl c
    · by_cases c2 : sgn s l d = 46
      · exact .inr (.inl c2)
      · refine .inr (.inr ⟨inkB_iff.mpr ⟨c2, c⟩, ?_⟩)
        unfold lacks
        rw [Bool.not_eq_true', List.any_eq_false]
        intro p hp
        have := List.find?_eq_none.mp hf p hp
        simpa using this
theorem sg_map (ds : List P3) (f : P3 → Nat) {d : P3} (h : d ∈ ds) : sg ds (ds.map f) d = f d := by
  unfold sg
  rw [List.getD_eq_getElem?_getD, List.getElem?_map, List.getElem?_eq_getElem (List.idxOf_lt_length_of_mem h), List.getElem_idxOf]
  rfl
theorem shot_congr {w : P3} {f g : P3 → Nat} {d : P3} (h : ∀ p, p ∈ xs → f p = g p) : shot s w xs f d = shot s w xs g d := by
  unfold shot
  cases hf : (line s w d).find? fun q => decide (q ∈ xs) with
  | none => rfl
  | some p =>
    have := List.find?_some hf
    exact h p (of_decide_eq_true this)
/-! ### a stone's own pictures -/
def ownL (s : P3) (xs : List P3) (f : P3 → Nat) (l : Lk) : Lk := ⟨l.w, (doors s l.w).map (shot s l.w xs f)⟩
def owns (s : P3) (ls : List Lk) (xs : List P3) (f : P3 → Nat) : List Lk := ls.map (ownL s xs f)
theorem own_sgn {f : P3 → Nat} {d : P3} (hd : d ∈ doors s l.w) : sgn s (ownL s xs f l) d = shot s l.w xs f d := sg_map _ _ hd
theorem own_ok {f : P3 → Nat} (h : LkOk s l) : LkOk s (ownL s xs f l) := ⟨h.1, by unfold ownL; rw [List.length_map]⟩
theorem own_lksg {f : P3 → Nat} (hf : ∀ p, p ∈ xs → Letter (f p)) : LkSg (ownL s xs f l) := by
  intro c hc
  obtain ⟨d, _, rfl⟩ := List.mem_map.mp hc
  unfold shot
  cases h : (line s l.w d).find? fun q => decide (q ∈ xs) with
  | none => exact .inl rfl
  | some p =>
    have h1 := List.find?_some h
    exact .inr (.inr (hf p (of_decide_eq_true h1)))
theorem shot_seen {w : P3} {f : P3 → Nat} (hs : Sz 100 s) (hw : Nz w) (hi : inB s p = true) (hp : p ∈ xs) (hse : seenB s w (fun q => decide (q ∈ xs)) p = true) : shot s w xs f (door s w p) = f p := by
  unfold shot
  rw [(first_seen (M := fun q => decide (q ∈ xs)) hs hw (door_is hs hw hi) p).mpr ⟨decide_eq_true hp, hi, rfl, hse⟩]
theorem Letter.n46 {c : Nat} (h : Letter c) : c ≠ 46 := by unfold Letter at h; omega
theorem Letter.n63 {c : Nat} (h : Letter c) : c ≠ 63 := by unfold Letter at h; omega
theorem Letter.ink {c : Nat} (h : Letter c) : inkB c = true := inkB_iff.mpr ⟨h.n46, h.n63⟩
theorem own_agr {f : P3 → Nat} (hs : Sz 100 s) (hl : ∀ l, l ∈ ls → LkOk s l) (hx : ∀ p, p ∈ xs → inB s p = true) (hf : ∀ p, p ∈ xs → Letter (f p)) : Agr s (owns s ls xs f) xs := by
  refine agr_of f fun l hl' p hp hse => .inr ?_
  obtain ⟨l0, h0, rfl⟩ := List.mem_map.mp hl'
  have hok := hl l0 h0
  refine ⟨?_, (hf p hp).n46⟩
  have hd := door_mem hs hok.1.nz (hx p hp)
  show sgn s (ownL s xs f l0) (door s l0.w p) = f p
  rw [own_sgn hd]
  exact shot_seen hs hok.1.nz (hx p hp) hp hse
theorem own_bares {f : P3 → Nat} (hs : Sz 100 s) (hl : ∀ l, l ∈ ls → LkOk s l) : bares s (owns s ls xs f) xs = [] := by
  rw [List.eq_nil_iff_forall_not_mem]
  intro b hb
  obtain ⟨i, l, h1, h2, h3, h4⟩ := mem_bareF.mp hb
  obtain ⟨l0, h0, rfl⟩ := List.mem_map.mp (List.mem_of_getElem? h1)
  obtain ⟨h5, h6⟩ := List.mem_filter.mp h3
  have h5' : b.2 ∈ doors s l0.w := h5
  rw [own_sgn (l := l0) h5'] at h6
  unfold lacks at h4
  rw [Bool.not_eq_true', List.any_eq_false] at h4
  have : (line s l0.w b.2).find? (fun q => decide (q ∈ xs)) = none := List.find?_eq_none.mpr fun p hp => h4 p hp
  unfold shot at h6
  rw [this] at h6
  cases h6
/-- the greatest stone is the greatest one of its own pictures -/
theorem own_greatest (hs : Sz 100 s) (hl : ∀ l, l ∈ ls → LkOk s l) (hn : (places s).Nodup) (hf : ∀ p, p ∈ carv s ls (places s) → Letter (letterP s ls (carv s ls (places s)) free p)) :
    carv s (owns s ls (carv s ls (places s)) (letterP s ls (carv s ls (places s)) free)) (places s) = carv s ls (places s) := by
  have hag := carv_agr s ls (places s)
  have hsub := carv_sub s ls (places s)
  generalize hX : carv s ls (places s) = X at hag hsub hf ⊢
  have hx : ∀ p, p ∈ X → inB s p = true := fun p hp => inB_iff.mpr (mem_places.mp (hsub.subset hp))
  refine (carv_eq (ys := X) hn hsub (own_agr hs hl hx hf) fun q hq => ?_).symm
  have hga := carv_agr s (owns s ls X (letterP s ls X free)) (places s)
  have hgs := carv_sub s (owns s ls X (letterP s ls X free)) (places s)
  generalize carv s (owns s ls X (letterP s ls X free)) (places s) = G at hq hga hgs
  have hgi : ∀ p, p ∈ G → inB s p = true := fun p hp => inB_iff.mpr (mem_places.mp (hgs.subset hp))
  -- the greatest one of the own pictures agrees with the looks
  have key : Agr s ls G := by
    refine agr_of (fun p => letterP s (owns s ls X (letterP s ls X free)) G 97 p) fun l hl' p hp hse => ?_
    have hok := hl l hl'
    have hol : ownL s X (letterP s ls X free) l ∈ owns s ls X (letterP s ls X free) := List.mem_map.mpr ⟨l, hl', rfl⟩
    have hd := door_mem hs hok.1.nz (hgi p hp)
    have hose : seenL s (ownL s X (letterP s ls X free) l) G p = true := hse
    have h46 := hga.sky hp hol hose
    have hsg : sign s (ownL s X (letterP s ls X free) l) p = shot s l.w X (letterP s ls X free) (door s l.w p) := own_sgn hd
    rw [hsg] at h46
    obtain ⟨r, hr, hsh⟩ : ∃ r, r ∈ X ∧ shot s l.w X (letterP s ls X free) (door s l.w p) = letterP s ls X free r ∧ lacks s X l (door s l.w p) = false := by
      unfold shot at h46 ⊢
      cases hfd : (line s l.w (door s l.w p)).find? fun q => decide (q ∈ X) with
      | none => rw [hfd] at h46; exact absurd rfl h46
      | some r =>
        have hfd1 := List.find?_some hfd
        refine ⟨r, of_decide_eq_true hfd1, rfl, ?_⟩
        unfold lacks
        rw [Bool.not_eq_false', List.any_eq_true]
        exact ⟨r, List.mem_of_find?_eq_some hfd, hfd1⟩
    have h63 : shot s l.w X (letterP s ls X free) (door s l.w p) ≠ 63 := by rw [hsh.1]; exact (hf r hr).n63
    have htold := letter_of (free := 97) hga hp hol (told_iff.mpr ⟨hose, by rw [hsg]; exact h46, by rw [hsg]; exact h63⟩)
    rcases paint_shows (free := free) hs hag hl' hok.1.nz hd with h | h | h
    · exact .inl h
    · refine .inr ⟨?_, ?_⟩
      · show sgn s l (door s l.w p) = _
        rw [htold, hsg, h]
      · rw [htold, hsg]; exact h46
    · rw [hsh.2] at h
      exact absurd h.2 Bool.false_ne_true
  rw [← hX]
  exact carv_great key (fun p hp => hgs.subset hp) q hq
theorem snap_own {w : P3} {f : P3 → Nat} : (doors s w).map (shot s w xs (sg xs (xs.map f))) = (doors s w).map (shot s w xs f) :=
  List.map_congr_left fun d _ => shot_congr fun p hp => sg_map xs f hp
/-- painted from its own pictures a stone shows them again -/
theorem own_again {f : P3 → Nat} (hs : Sz 100 s) (hl : ∀ l, l ∈ ls → LkOk s l) (hx : ∀ p, p ∈ xs → inB s p = true) (hf : ∀ p, p ∈ xs → Letter (f p)) (h : l ∈ ls) {d : P3} (hd : d ∈ doors s l.w) :
    shot s l.w xs (letterP s (owns s ls xs f) xs free) d = shot s l.w xs f d := by
  have hol : ownL s xs f l ∈ owns s ls xs f := List.mem_map.mpr ⟨l, h, rfl⟩
  have hsg : sgn s (ownL s xs f l) d = shot s l.w xs f d := own_sgn hd
  rcases paint_shows (free := free) hs (own_agr hs hl hx hf) hol (hl l h).1.nz hd with q | q | q
  · rw [hsg] at q
    unfold shot at q
    cases hfd : (line s l.w d).find? fun q => decide (q ∈ xs) with
    | none => rw [hfd] at q; cases q
    | some r =>
      have hfd1 := List.find?_some hfd
      rw [hfd] at q
      exact absurd q (hf r (of_decide_eq_true hfd1)).n63
  · rw [← hsg]; exact q.symm
  · obtain ⟨i, hi⟩ := List.mem_iff_getElem?.mp hol
    have : ((i, d) : Bare) ∈ bares s (owns s ls xs f) xs := mem_bareF.mpr ⟨i, _, hi, by omega, List.mem_filter.mpr ⟨hd, q.1⟩, q.2⟩
    rw [own_bares hs hl] at this
    cases this
theorem pic_sg {ds : List P3} {cs : List Nat} (hn : ds.Nodup) (hl : cs.length = ds.length) : cs = ds.map (sg ds cs) := by
  have h := congrArg (List.map Prod.snd) (zip_sg ds cs hn hl)
  rw [List.map_snd_zip (by omega), List.map_map] at h
  exact h
def tnm (z : Nat × Nat) : Bool := decide (z.1 = 63) || decide (z.1 = z.2)
theorem in_two (c d : Nat) (h : c < 1114112) (h2 : d < 1114112) : inB_ (eS c) (.tup [.str (Str.ofString "?"), eS d]) = .ok (tnm (c, d)) := by
  have e : inB_ (eS c) (.tup [.str (Str.ofString "?"), eS d]) = if SeqAt.shaped (toP (eS c)) = true ∧ SeqAt.shaped (toP (.tup [.str (Str.ofString "?"), eS d])) = true then M.ok (([.str (Str.ofString "?"), eS d] : List D).any fun z => PyData.eqv (toP z) (toP (eS c))) else M.er := by rfl
  have s1 : SeqAt.shaped (toP (eS c)) = true := by simp [eS, toP, SeqAt.shaped, PyData.canLay0, PyData.strOk, PyData.depth, h]
  have s2 : SeqAt.shaped (toP (.tup [.str (Str.ofString "?"), eS d])) = true := by
    rw [veil_eq]
    simp [eS, toP, toPA, SeqAt.shaped, PyData.canLay0, PyData.canLayAll0, PyData.strOk, PyData.depth, PyData.depthAll, h2]
  have q (a : Nat) : PyData.eqv (toP (.str ⟨#[a]⟩)) (toP (eS c)) = decide (a = c) := by
    rw [Bool.eq_iff_iff]
    simp [eS, toP, PyData.eqv]
  have q2 : PyData.eqv (toP (eS d)) (toP (eS c)) = decide (d = c) := q d
  rw [e, if_pos ⟨s1, s2⟩, veil_eq]
  simp only [List.any_cons, List.any_nil, q, q2, Bool.or_false]
  unfold tnm
  have c1 : decide (63 = c) = decide (c = 63) := by rw [decide_eq_decide]; omega
  have c2 : decide (d = c) = decide (c = d) := by rw [decide_eq_decide]; omega
  rw [c1, c2]
/-- each sign told is a veil or the sign shown -/
theorem all_tnm (h : LkOk s l) (g : P3 → Nat) (hg : ∀ d, d ∈ doors s l.w → sgn s l d = 63 ∨ sgn s l d = g d) : (l.pic.zip ((doors s l.w).map g)).all tnm = true := by
  rw [pic_sg (doors_up s l.w).nodup h.2, List.zip_map', List.all_map, List.all_eq_true]
  intro d hd
  have := hg d hd
  unfold sgn at this
  simp only [Function.comp, tnm, Bool.or_eq_true, decide_eq_true_eq]
  exact this
/-! ### a true look: snapped of the stone with its paint, some signs veiled -/
def TrueL (s : P3) (T : List P3) (f : P3 → Nat) (l : Lk) : Prop := ∀ d, d ∈ doors s l.w → sgn s l d = 63 ∨ sgn s l d = shot s l.w T f d
theorem true_agr {T : List P3} {f : P3 → Nat} (hs : Sz 100 s) (hl : ∀ l, l ∈ ls → LkOk s l ∧ TrueL s T f l) (hx : ∀ p, p ∈ T → inB s p = true) (hf : ∀ p, p ∈ T → Letter (f p)) : Agr s ls T := by
  refine agr_of f fun l hl' p hp hse => ?_
  obtain ⟨hok, ht⟩ := hl l hl'
  have hd := door_mem hs hok.1.nz (hx p hp)
  rcases ht _ hd with h | h
  · exact .inl h
  · refine .inr ⟨?_, (hf p hp).n46⟩
    rw [shot_seen hs hok.1.nz (hx p hp) hp hse] at h
    exact h
theorem true_full {T : List P3} {f : P3 → Nat} (hT : ∀ p, p ∈ T → p ∈ xs) (ht : TrueL s T f l) {d : P3} (hd : d ∈ doors s l.w) (hi : inkB (sgn s l d) = true) : lacks s xs l d = false := by
  rw [inkB_iff] at hi
  rcases ht d hd with h | h
  · exact absurd h hi.2
  · unfold shot at h
    cases hf : (line s l.w d).find? fun q => decide (q ∈ T) with
    | none => rw [hf] at h; exact absurd h hi.1
    | some p =>
      have h1 := List.find?_some hf
      unfold lacks
      rw [Bool.not_eq_false', List.any_eq_true]
      exact ⟨p, List.mem_of_find?_eq_some hf, decide_eq_true (hT p (of_decide_eq_true h1))⟩
theorem true_bares {T : List P3} {f : P3 → Nat} (hT : ∀ p, p ∈ T → p ∈ xs) (hl : ∀ l, l ∈ ls → TrueL s T f l) : bares s ls xs = [] := by
  rw [List.eq_nil_iff_forall_not_mem]
  intro b hb
  obtain ⟨i, l, h1, h2, h3, h4⟩ := mem_bareF.mp hb
  obtain ⟨h5, h6⟩ := List.mem_filter.mp h3
  rw [true_full hT (hl l (List.mem_of_getElem? h1)) h5 h6] at h4
  cases h4
/-- no door bare: the paint shows each look -/
theorem paint_all (hs : Sz 100 s) (ha : Agr s ls xs) (hk : LkOk s l) (hl : l ∈ ls) (hb : bares s ls xs = []) : (l.pic.zip ((doors s l.w).map (shot s l.w xs (letterP s ls xs free)))).all tnm = true := by
  refine all_tnm hk _ fun d hd => ?_
  rcases paint_shows (free := free) hs ha hl hk.1.nz hd with h | h | h
  · exact .inl h
  · exact .inr h
  · obtain ⟨i, hi⟩ := List.mem_iff_getElem?.mp hl
    have : ((i, d) : Bare) ∈ bares s ls xs := mem_bareF.mpr ⟨i, _, hi, by omega, List.mem_filter.mpr ⟨hd, h.1⟩, h.2⟩
    rw [hb] at this
    cases this
/-! ### bare doors told apart -/
theorem eqv_eBr (a b : Bare) : PyData.eqv (toP (eBr a)) (toP (eBr b)) = decide (a = b) := by
  have h := eqv_e3 a.2 b.2
  obtain ⟨i, p⟩ := a
  obtain ⟨j, q⟩ := b
  rw [Bool.eq_iff_iff]
  simp only at h
  simp only [eBr, toP, toPA, PyData.eqv, PyData.eqvAll, Bool.and_true, Bool.and_eq_true, h, decide_eq_true_eq, Prod.mk.injEq]
  simp
  intro _
  omega
theorem canLay_eBrs : ∀ xs : List Bare, PyData.canLayAll0 (toPA (xs.map eBr)) = true
  | [] => by simp [toPA, PyData.canLayAll0]
  | x :: xs => by simp [toPA, PyData.canLayAll0, canLay_eBrs xs, eBr, e3, toP, PyData.canLay0]
theorem depth_eBrs : ∀ xs : List Bare, PyData.depthAll (toPA (xs.map eBr)) ≤ 4
  | [] => by simp [toPA, PyData.depthAll]
  | x :: xs => by
    have := depth_eBrs xs
    simp [toPA, PyData.depthAll, eBr, e3, toP, PyData.depth]
    omega
theorem shaped_eBrs (xs : List Bare) : SeqAt.shaped (toP (.lst (xs.map eBr))) = true := by
  have h := depth_eBrs xs
  simp only [toP, SeqAt.shaped, PyData.canLay0, PyData.depth, canLay_eBrs, Bool.true_and, decide_eq_true_eq]
  omega
theorem shaped_eBr (b : Bare) : SeqAt.shaped (toP (eBr b)) = true := by simp [eBr, e3, toP, toPA, SeqAt.shaped, PyData.canLay0, PyData.canLayAll0, PyData.depth, PyData.depthAll]
theorem in_eBrs (b : Bare) (xs : List Bare) : inB_ (eBr b) (.lst (xs.map eBr)) = .ok (decide (b ∈ xs)) := by
  have h : inB_ (eBr b) (.lst (xs.map eBr)) = if SeqAt.shaped (toP (eBr b)) = true ∧ SeqAt.shaped (toP (.lst (xs.map eBr))) = true then M.ok ((xs.map eBr).any fun z => PyData.eqv (toP z) (toP (eBr b))) else M.er := by rfl
  rw [h, if_pos ⟨shaped_eBr b, shaped_eBrs xs⟩, List.any_map]
  congr 1
  rw [Bool.eq_iff_iff, List.any_eq_true, decide_eq_true_eq]
  simp only [Function.comp, eqv_eBr, decide_eq_true_eq]
  exact ⟨fun ⟨x, h1, h2⟩ => h2 ▸ h1, fun h => ⟨b, h, rfl⟩⟩
/-- enumerate of looks -/
theorem enumL_zip : ∀ (xs : List Lk) (j : Nat), enumD j (xs.map eL) = (xs.zipIdx j).map fun z => D.tup [.int (z.2 : Nat), eL z.1]
  | [], _ => rfl
  | x :: xs, j => by simp [enumD, enumL_zip xs (j + 1)]
theorem find_zipIdx {α : Type} (P : α → Bool) : ∀ (xs : List α) (j : Nat), ((xs.zipIdx j).find? fun z => P z.1).map (·.1) = xs.find? P
  | [], _ => rfl
  | x :: xs, j => by
    rw [List.zipIdx_cons, List.find?_cons, List.find?_cons]
    cases P x with
    | true => rfl
    | false => exact find_zipIdx P xs (j + 1)
/-- what the law looks for: not a veil, and seen -/
theorem letter_find (ha : Agr s ls xs) (hp : p ∈ xs) : ls.find? (fun l => !decide (sign s l p = 63) && seenL s l xs p) = ls.find? (toldB s xs p) := by
  have key : ∀ r : List Lk, (∀ l, l ∈ r → l ∈ ls) → r.find? (fun l => !decide (sign s l p = 63) && seenL s l xs p) = r.find? (toldB s xs p) := by
    intro r
    induction r with
    | nil => exact fun _ => rfl
    | cons l r ih =>
      intro h
      have hl := h l List.mem_cons_self
      have e : (!decide (sign s l p = 63) && seenL s l xs p) = toldB s xs p l := by
        rw [Bool.eq_iff_iff, told_iff]
        simp only [Bool.and_eq_true, Bool.not_eq_true', decide_eq_false_iff_not]
        exact ⟨fun ⟨a, b⟩ => ⟨b, ha.sky hp hl b, a⟩, fun ⟨a, b, c⟩ => ⟨c, a⟩⟩
      rw [List.find?_cons, List.find?_cons, e, ih fun l' h' => h l' (List.mem_cons_of_mem _ h')]
  exact key ls fun _ h => h
/-- bare of a greater stone, bare of a lesser one -/
theorem bares_mono {ys : List P3} (h : ∀ q, q ∈ ys → q ∈ xs) {b : Bare} (hb : b ∈ bares s ls xs) : b ∈ bares s ls ys := by
  obtain ⟨i, l, h1, h2, h3, h4⟩ := mem_bareF.mp hb
  refine mem_bareF.mpr ⟨i, l, h1, h2, h3, ?_⟩
  unfold lacks at h4 ⊢
  rw [Bool.not_eq_true', List.any_eq_false] at h4 ⊢
  intro p hp hc
  exact h4 p hp (decide_eq_true (h p (of_decide_eq_true hc)))
end
end VL
set_option Elab.async false
set_option linter.all false
set_option maxRecDepth 100000
/-! VM: loops whose turns lead somewhere. -/
namespace VL
open PySem L2 PySem.Spec PyProof.Rows
theorem forR_to {α β : Type} {tg : D → Rho → Option Rho} {b : Rho → Res} (e : β → D) (st : α → Rho) (I : α → Prop) : ∀ (xs : List β) (s : α), I s → (∀ s x, x ∈ xs → I s → ∃ s', I s' ∧ turn tg b (e x) (st s) = .nx (st s')) →
    ∃ s', I s' ∧ forR tg b (xs.map e) (st s) = .nx (st s')
  | [], s, hs, _ => ⟨s, hs, rfl⟩
  | x :: xs, s, hs, h => by
    obtain ⟨s', h1, h2⟩ := h s x List.mem_cons_self hs
    obtain ⟨s2, h3, h4⟩ := forR_to e st I xs s' h1 fun s y hy => h s y (List.mem_cons_of_mem _ hy)
    exact ⟨s2, h3, by rw [List.map_cons, forR_cons, h2, next_nx, h4]⟩
theorem seq4 {A B C D : Rho → Res} {ρ ρ' : Rho} (h : sSeq A (sSeq B (sSeq C D)) ρ = .nx ρ') (rest : Rho → Res) : sSeq A (sSeq B (sSeq C (sSeq D rest))) ρ = rest ρ' := by
  unfold sSeq at h ⊢
  cases hA : A ρ <;> rw [hA] at h <;> simp only [thenR] at h ⊢ <;> try cases h
  rename_i ρ1
  cases hB : B ρ1 <;> rw [hB] at h <;> simp only [thenR] at h ⊢ <;> try cases h
  rename_i ρ2
  cases hC : C ρ2 <;> rw [hC] at h <;> simp only [thenR] at h ⊢ <;> try cases h
  rename_i ρ3
  rw [h]
theorem doors_pos {s w : P3} (hs : Sz 100 s) (hw : Nz w) : 0 < (doors s w).length := by
  have h0 : inB s (0, 0, 0) = true := by rw [inB_iff]; unfold Sz at hs; simp only; omega
  exact List.length_pos_of_mem (door_mem hs hw h0)
end VL
set_option Elab.async false
set_option linter.all false
set_option maxRecDepth 100000
/-! VM: moves. -/
namespace VL
open PySem L2 PySem.Spec PyProof.Rows
/-! ### lists of data told apart by their encoding -/
section
variable {α : Type} {e : α → D}
theorem canLay_map : ∀ {xs : List α}, (∀ x, x ∈ xs → (toP (e x)).canLay0 = true) → PyData.canLayAll0 (toPA (xs.map e)) = true
  | [], _ => rfl
  | x :: xs, h => by
    simp [toPA, PyData.canLayAll0, h x List.mem_cons_self, canLay_map fun y hy => h y (List.mem_cons_of_mem _ hy)]
theorem depth_map {n : Nat} : ∀ {xs : List α}, (∀ x, x ∈ xs → (toP (e x)).depth ≤ n) → PyData.depthAll (toPA (xs.map e)) ≤ n
  | [], _ => by simp [toPA, PyData.depthAll]
  | x :: xs, h => by
    have h1 := h x List.mem_cons_self
    have h2 := depth_map fun y hy => h y (List.mem_cons_of_mem _ hy)
    simp [toPA, PyData.depthAll]
    omega
theorem shaped_map {xs : List α} (h1 : ∀ x, x ∈ xs → (toP (e x)).canLay0 = true) (h2 : ∀ x, x ∈ xs → (toP (e x)).depth ≤ 10) : SeqAt.shaped (toP (.lst (xs.map e))) = true := by
  have h := depth_map h2
  simp only [toP, SeqAt.shaped, PyData.canLay0, PyData.depth, canLay_map h1, Bool.true_and, decide_eq_true_eq]
  omega
theorem toPA_map : ∀ xs : List α, toPA (xs.map e) = xs.map fun x => toP (e x)
  | [] => rfl
  | x :: xs => by simp only [List.map_cons, toPA, toPA_map xs]
variable [DecidableEq α] (hq : ∀ a b, PyData.eqv (toP (e a)) (toP (e b)) = decide (a = b)) (h1 : ∀ x, (toP (e x)).canLay0 = true) (h2 : ∀ x, (toP (e x)).depth ≤ 10)
include hq h1 h2
theorem in_map (a : α) (xs : List α) : inB_ (e a) (.lst (xs.map e)) = .ok (decide (a ∈ xs)) := by
  have h : inB_ (e a) (.lst (xs.map e)) = if SeqAt.shaped (toP (e a)) = true ∧ SeqAt.shaped (toP (.lst (xs.map e))) = true then M.ok ((xs.map e).any fun z => PyData.eqv (toP z) (toP (e a))) else M.er := by rfl
  have s1 : SeqAt.shaped (toP (e a)) = true := by
    have := h2 a
    simp only [SeqAt.shaped, h1 a, Bool.true_and, decide_eq_true_eq]
    omega
  rw [h, if_pos ⟨s1, shaped_map (fun x _ => h1 x) fun x _ => h2 x⟩, List.any_map]
  congr 1
  rw [Bool.eq_iff_iff, List.any_eq_true, decide_eq_true_eq]
  simp only [Function.comp, hq, decide_eq_true_eq]
  exact ⟨fun ⟨x, h1, h2⟩ => h2 ▸ h1, fun h => ⟨a, h, rfl⟩⟩
theorem idx_map (a : α) (xs : List α) (hm : a ∈ xs) : ∃ j : Nat, indexG (.lst (xs.map e)) (e a) = .ok (.int (j : Nat)) ∧ xs[j]? = some a := by
  refine ⟨xs.idxOf a, ?_, by rw [List.getElem?_eq_getElem (List.idxOf_lt_length_of_mem hm), List.getElem_idxOf]⟩
  have s1 : SeqAt.shaped (toP (e a)) = true := by
    have := h2 a
    simp only [SeqAt.shaped, h1 a, Bool.true_and, decide_eq_true_eq]
    omega
  have hf : findE (xs.map e) (e a) = some (xs.idxOf a) := by
    unfold findE
    rw [toPA_map, List.findIdx?_map]
    have hc : (fun z => PyData.eqv z (toP (e a))) ∘ (fun p => toP (e p)) = fun p => p == a := by
      funext p
      show PyData.eqv (toP (e p)) (toP (e a)) = _
      rw [hq, Bool.eq_iff_iff]
      simp
    rw [hc, List.idxOf, List.findIdx?_eq_some_iff_findIdx_eq]
    exact ⟨List.idxOf_lt_length_of_mem hm, rfl⟩
  show (if SeqAt.shaped (toP (.lst (xs.map e))) = true ∧ SeqAt.shaped (toP (e a)) = true then (match findE (xs.map e) (e a) with | some j => M.ok (D.int (j : Nat)) | none => .er) else .er) = _
  rw [if_pos ⟨shaped_map (fun x _ => h1 x) fun x _ => h2 x, s1⟩, hf]
end
/-! ### triples by their parts -/
def Ix (i : Int) : Prop := i = 0 ∨ i = 1 ∨ i = 2
def cmp (p : P3) (i : Int) : Int := if i = 0 then p.1 else if i = 1 then p.2.1 else p.2.2
def mk3 (f : Int → Int) : P3 := (f 0, f 1, f 2)
theorem cmp_mk3 {f : Int → Int} {i : Int} (h : Ix i) : cmp (mk3 f) i = f i := by
  rcases h with rfl | rfl | rfl <;> rfl
theorem ext3 {p q : P3} (h : ∀ i, Ix i → cmp p i = cmp q i) : p = q := by
  have h0 := h 0 (.inl rfl)
  have h1 := h 1 (.inr (.inl rfl))
  have h2 := h 2 (.inr (.inr rfl))
  exact Prod.ext h0 (Prod.ext h1 h2)
theorem mk3_congr {f g : Int → Int} (h : ∀ i, Ix i → f i = g i) : mk3 f = mk3 g := by
  unfold mk3
  rw [h 0 (.inl rfl), h 1 (.inr (.inl rfl)), h 2 (.inr (.inr rfl))]
/-- data that stand for a triple -/
def Is3 (d : D) (p : P3) : Prop := ∀ i, Ix i → idxG d (.int i) = .ok (.int (cmp p i))
theorem is3_e3 (p : P3) : Is3 (e3 p) p := by
  rintro i (rfl | rfl | rfl) <;> simp [cmp]
def e3k (p : P3) : D := .kt [.int p.1, .int p.2.1, .int p.2.2]
theorem is3_e3k (p : P3) : Is3 (e3k p) p := by
  rintro i (rfl | rfl | rfl) <;> simp [cmp, e3k]
/-! ### moves -/
abbrev Mv := P3 × P3
def eMv (m : Mv) : D := .tup [e3 m.1, e3 m.2]
def eMk (m : Mv) : D := .tup [e3k m.1, e3 m.2]
def ordersL : List P3 := [(0, 1, 2), (0, 2, 1), (1, 0, 2), (1, 2, 0), (2, 0, 1), (2, 1, 0)]
def bitsL : List P3 := [(0, 0, 0), (0, 0, 1), (0, 1, 0), (0, 1, 1), (1, 0, 0), (1, 0, 1), (1, 1, 0), (1, 1, 1)]
def movesL : List Mv := ordersL.flatMap fun o => bitsL.map fun b => (o, b)
def Bit (i : Int) : Prop := i = 0 ∨ i = 1
theorem mem_bits {a b c : Int} (ha : Bit a) (hb : Bit b) (hc : Bit c) : (a, b, c) ∈ bitsL := by
  rcases ha with rfl | rfl <;> rcases hb with rfl | rfl <;> rcases hc with rfl | rfl <;> decide
theorem mem_moves {m : Mv} : m ∈ movesL ↔ m.1 ∈ ordersL ∧ m.2 ∈ bitsL := by
  unfold movesL
  simp only [List.mem_flatMap, List.mem_map]
  constructor
  · rintro ⟨o, ho, b, hb, rfl⟩
    exact ⟨ho, hb⟩
  · rintro ⟨h1, h2⟩
    exact ⟨m.1, h1, m.2, h2, rfl⟩
theorem mem_orders {o : P3} (h : o ∈ ordersL) : o = (0, 1, 2) ∨ o = (0, 2, 1) ∨ o = (1, 0, 2) ∨ o = (1, 2, 0) ∨ o = (2, 0, 1) ∨ o = (2, 1, 0) := by
  simpa [ordersL] using h
theorem order_ix {o : P3} (h : o ∈ ordersL) {i : Int} (hi : Ix i) : Ix (cmp o i) := by
  rcases mem_orders h with rfl | rfl | rfl | rfl | rfl | rfl <;> rcases hi with rfl | rfl | rfl <;> simp [cmp, Ix]
theorem bits_bit {b : P3} (h : b ∈ bitsL) {i : Int} (hi : Ix i) : Bit (cmp b i) := by
  have : b = (0, 0, 0) ∨ b = (0, 0, 1) ∨ b = (0, 1, 0) ∨ b = (0, 1, 1) ∨ b = (1, 0, 0) ∨ b = (1, 0, 1) ∨ b = (1, 1, 0) ∨ b = (1, 1, 1) := by simpa [bitsL] using h
  rcases this with rfl | rfl | rfl | rfl | rfl | rfl | rfl | rfl <;> rcases hi with rfl | rfl | rfl <;> simp [cmp, Bit]
def mvC (s : P3) (m : Mv) (p : P3) (i : Int) : Int := if cmp m.2 i = 1 then cmp s (cmp m.1 i) - 1 - cmp p (cmp m.1 i) else cmp p (cmp m.1 i)
def mvP (s : P3) (m : Mv) (p : P3) : P3 := mk3 (mvC s m p)
def mvS (s : P3) (m : Mv) : P3 := mk3 fun i => cmp s (cmp m.1 i)
def wvC (m : Mv) (w : P3) (i : Int) : Int := if cmp m.2 i = 1 then -cmp w (cmp m.1 i) else cmp w (cmp m.1 i)
def wvP (m : Mv) (w : P3) : P3 := mk3 (wvC m w)
def aft (m n : Mv) : Mv := (mk3 fun i => cmp m.1 (cmp n.1 i), mk3 fun i => (cmp n.2 i + cmp m.2 (cmp n.1 i)) % 2)
/-- the place of a number in an order -/
def inv3 (o : P3) (u : Int) : Int := if cmp o 0 = u then 0 else if cmp o 1 = u then 1 else 2
def bck (m : Mv) : Mv := (mk3 (inv3 m.1), mk3 fun u => cmp m.2 (inv3 m.1 u))
def stillM : Mv := ((0, 1, 2), (0, 0, 0))
theorem aft_mem : (movesL.all fun m => movesL.all fun n => decide (aft m n ∈ movesL)) = true := by decide +kernel
theorem aft_moves {m n : Mv} (hm : m ∈ movesL) (hn : n ∈ movesL) : aft m n ∈ movesL := of_decide_eq_true (List.all_eq_true.mp (List.all_eq_true.mp aft_mem m hm) n hn)
theorem bck_mem : (movesL.all fun m => decide (bck m ∈ movesL ∧ aft m (bck m) = stillM ∧ aft (bck m) m = stillM)) = true := by decide +kernel
theorem bck_moves {m : Mv} (hm : m ∈ movesL) : bck m ∈ movesL ∧ aft m (bck m) = stillM ∧ aft (bck m) m = stillM := of_decide_eq_true (List.all_eq_true.mp bck_mem m hm)
section
variable {m n : Mv} (hm : m ∈ movesL) (hn : n ∈ movesL)
include hm
theorem ordIx {i : Int} (hi : Ix i) : Ix (cmp m.1 i) := order_ix (mem_moves.mp hm).1 hi
theorem trnBit {i : Int} (hi : Ix i) : Bit (cmp m.2 i) := bits_bit (mem_moves.mp hm).2 hi
include hn
theorem mvP_aft (s p : P3) : mvP s (aft m n) p = mvP (mvS s m) n (mvP s m p) := by
  refine mk3_congr fun i hi => ?_
  have hu := ordIx hn hi
  unfold mvC
  rw [show (aft m n).1 = mk3 fun i => cmp m.1 (cmp n.1 i) from rfl, show (aft m n).2 = mk3 fun i => (cmp n.2 i + cmp m.2 (cmp n.1 i)) % 2 from rfl, cmp_mk3 hi, cmp_mk3 hi]
  unfold mvS mvP
  rw [cmp_mk3 hu, cmp_mk3 hu]
  unfold mvC
  have hb := trnBit hn hi
  have hc := trnBit hm hu
  generalize cmp m.1 (cmp n.1 i) = v
  generalize cmp n.2 i = b at *
  generalize cmp m.2 (cmp n.1 i) = c at *
  rcases hb with rfl | rfl <;> rcases hc with rfl | rfl <;> simp <;> omega
theorem wvP_aft (w : P3) : wvP (aft m n) w = wvP n (wvP m w) := by
  refine mk3_congr fun i hi => ?_
  have hu := ordIx hn hi
  unfold wvC
  rw [show (aft m n).1 = mk3 fun i => cmp m.1 (cmp n.1 i) from rfl, show (aft m n).2 = mk3 fun i => (cmp n.2 i + cmp m.2 (cmp n.1 i)) % 2 from rfl, cmp_mk3 hi, cmp_mk3 hi]
  unfold wvP
  rw [cmp_mk3 hu]
  unfold wvC
  have hb := trnBit hn hi
  have hc := trnBit hm hu
  generalize cmp m.1 (cmp n.1 i) = v
  generalize cmp n.2 i = b at *
  generalize cmp m.2 (cmp n.1 i) = c at *
  rcases hb with rfl | rfl <;> rcases hc with rfl | rfl <;> simp
theorem mvS_aft (s : P3) : mvS s (aft m n) = mvS (mvS s m) n := by
  refine mk3_congr fun i hi => ?_
  rw [show (aft m n).1 = mk3 fun i => cmp m.1 (cmp n.1 i) from rfl, cmp_mk3 hi]
  unfold mvS
  rw [cmp_mk3 (ordIx hn hi)]
end
theorem mvP_still (s p : P3) : mvP s stillM p = p := by
  refine ext3 fun i hi => ?_
  unfold mvP
  rw [cmp_mk3 hi]
  rcases hi with rfl | rfl | rfl <;> simp [mvC, stillM, cmp]
theorem mvS_still (s : P3) : mvS s stillM = s := by
  refine ext3 fun i hi => ?_
  unfold mvS
  rw [cmp_mk3 hi]
  rcases hi with rfl | rfl | rfl <;> simp [stillM, cmp]
theorem wvP_still (w : P3) : wvP stillM w = w := by
  refine ext3 fun i hi => ?_
  unfold wvP
  rw [cmp_mk3 hi]
  rcases hi with rfl | rfl | rfl <;> simp [wvC, stillM, cmp]
theorem mvP_back {m : Mv} (hm : m ∈ movesL) (s p : P3) : mvP (mvS s m) (bck m) (mvP s m p) = p := by
  obtain ⟨h1, h2, _⟩ := bck_moves hm
  rw [← mvP_aft hm h1, h2, mvP_still]
theorem mvS_back {m : Mv} (hm : m ∈ movesL) (s : P3) : mvS (mvS s m) (bck m) = s := by
  obtain ⟨h1, h2, _⟩ := bck_moves hm
  rw [← mvS_aft hm h1, h2, mvS_still]
theorem wvP_back {m : Mv} (hm : m ∈ movesL) (w : P3) : wvP (bck m) (wvP m w) = w := by
  obtain ⟨h1, h2, _⟩ := bck_moves hm
  rw [← wvP_aft hm h1, h2, wvP_still]
theorem mvP_inj {m : Mv} (hm : m ∈ movesL) {s p q : P3} (h : mvP s m p = mvP s m q) : p = q := by
  rw [← mvP_back hm s p, ← mvP_back hm s q, h]
/-- places and steps -/
theorem inB_cmp {s p : P3} : inB s p = true ↔ ∀ i, Ix i → 0 ≤ cmp p i ∧ cmp p i < cmp s i := by
  rw [inB_iff]
  constructor
  · rintro ⟨h0, h1, h2⟩ i (rfl | rfl | rfl)
    · exact h0
    · exact h1
    · exact h2
  · exact fun h => ⟨h 0 (.inl rfl), h 1 (.inr (.inl rfl)), h 2 (.inr (.inr rfl))⟩
theorem inB_mv1 {m : Mv} (hm : m ∈ movesL) {s p : P3} (h : inB s p = true) : inB (mvS s m) (mvP s m p) = true := by
  rw [inB_cmp] at h ⊢
  intro i hi
  unfold mvS mvP
  rw [cmp_mk3 hi, cmp_mk3 hi]
  have := h _ (ordIx hm hi)
  unfold mvC
  split <;> omega
theorem inB_mv {m : Mv} (hm : m ∈ movesL) {s p : P3} : inB (mvS s m) (mvP s m p) = inB s p := by
  rw [Bool.eq_iff_iff]
  refine ⟨fun h => ?_, inB_mv1 hm⟩
  have := inB_mv1 (bck_moves hm).1 h
  rwa [mvS_back hm, mvP_back hm] at this
theorem cmp_stp {p w : P3} {k i : Int} (hi : Ix i) : cmp (stp p w k) i = cmp p i + k * cmp w i := by
  rcases hi with rfl | rfl | rfl <;> rfl
theorem mvP_stp {m : Mv} (hm : m ∈ movesL) (s p w : P3) (k : Int) : mvP s m (stp p w k) = stp (mvP s m p) (wvP m w) k := by
  refine ext3 fun i hi => ?_
  have hu := ordIx hm hi
  rw [cmp_stp hi]
  unfold mvP wvP
  rw [cmp_mk3 hi, cmp_mk3 hi, cmp_mk3 hi]
  unfold mvC wvC
  rw [cmp_stp hu]
  split
  · rw [Int.mul_neg]; omega
  · rfl
theorem mvS_sz {n : Int} {m : Mv} (hm : m ∈ movesL) {s : P3} (h : Sz n s) : Sz n (mvS s m) := by
  rcases mem_orders (mem_moves.mp hm).1 with e | e | e | e | e | e <;> unfold Sz at h ⊢ <;> unfold mvS mk3 <;> rw [e] <;> simp only [cmp] <;> simp <;> omega
theorem wvP_nz {m : Mv} (hm : m ∈ movesL) {w : P3} (h : Nz w) : Nz (wvP m w) := by
  unfold Nz at h ⊢
  refine Classical.byContradiction fun hc => ?_
  have h0 : wvP m w = (0, 0, 0) := Prod.ext (by omega) (Prod.ext (by simp only; omega) (by simp only; omega))
  have h1 := wvP_back hm w
  rw [h0] at h1
  have h2 : wvP (bck m) (0, 0, 0) = (0, 0, 0) := by
    unfold wvP mk3 wvC cmp
    simp
  rw [h2] at h1
  rw [← h1] at h
  simp at h
theorem wvP_way {m : Mv} (hm : m ∈ movesL) {w : P3} (h : Way w) : Way (wvP m w) := by
  have h3 : ∀ i, Ix i → -3 ≤ cmp (wvP m w) i ∧ cmp (wvP m w) i ≤ 3 := by
    intro i hi
    unfold wvP
    rw [cmp_mk3 hi]
    have hu := ordIx hm hi
    have : -3 ≤ cmp w (cmp m.1 i) ∧ cmp w (cmp m.1 i) ≤ 3 := by
      obtain ⟨⟨a, b, c⟩, _⟩ := h
      rcases hu with e | e | e <;> rw [e] <;> simp only [cmp] <;> simp <;> omega
    unfold wvC
    split <;> omega
  refine ⟨⟨h3 0 (.inl rfl), h3 1 (.inr (.inl rfl)), h3 2 (.inr (.inr rfl))⟩, ?_⟩
  have hall : (movesL.all fun m => sevens.all fun a => sevens.all fun b => sevens.all fun c => decide (Int.gcd (Int.gcd (wvP m (a, b, c)).1 (wvP m (a, b, c)).2.1) (wvP m (a, b, c)).2.2 = Int.gcd (Int.gcd a b) c)) = true := by decide +kernel
  obtain ⟨⟨a, b, c⟩, g⟩ := h
  have := of_decide_eq_true (List.all_eq_true.mp (List.all_eq_true.mp (List.all_eq_true.mp (List.all_eq_true.mp hall m hm) w.1 (mem_sevens a)) w.2.1 (mem_sevens b)) w.2.2 (mem_sevens c))
  rw [show (w.1, w.2.1, w.2.2) = w from rfl] at this
  rw [this]
  exact g
/-! ### moves as data -/
theorem eqv_eMv (a b : Mv) : PyData.eqv (toP (eMv a)) (toP (eMv b)) = decide (a = b) := by
  have h1 := eqv_e3 a.1 b.1
  have h2 := eqv_e3 a.2 b.2
  obtain ⟨p, q⟩ := a
  obtain ⟨p', q'⟩ := b
  rw [Bool.eq_iff_iff]
  simp only at h1 h2
  simp only [eMv, toP, toPA, PyData.eqv, PyData.eqvAll, Bool.and_true, Bool.and_eq_true, h1, h2, decide_eq_true_eq, Prod.mk.injEq]
theorem canLay_eMv (a : Mv) : (toP (eMv a)).canLay0 = true := by simp [eMv, e3, toP, toPA, PyData.canLay0, PyData.canLayAll0]
theorem depth_eMv (a : Mv) : (toP (eMv a)).depth ≤ 10 := by simp [eMv, e3, toP, toPA, PyData.depth, PyData.depthAll]
@[simp] theorem lf_eMv (m : Mv) : lf (eMv m) = true := by simp [eMv]
@[simp] theorem lf_e3k (p : P3) : lf (e3k p) = true := by simp [e3k]
@[simp] theorem lf_eMk (m : Mv) : lf (eMk m) = true := by simp [eMk]
theorem in_eMv (a : Mv) (xs : List Mv) : inB_ (eMv a) (.lst (xs.map eMv)) = .ok (decide (a ∈ xs)) := by
  have h := in_map eqv_eMv canLay_eMv depth_eMv a xs
  rw [h]
  congr 1
  exact decide_eq_decide.mpr Iff.rfl
theorem idx_eMv (a : Mv) (xs : List Mv) (hm : a ∈ xs) : ∃ j : Nat, indexG (.lst (xs.map eMv)) (eMv a) = .ok (.int (j : Nat)) ∧ xs[j]? = some a := idx_map eqv_eMv canLay_eMv depth_eMv a xs hm
end VL
set_option Elab.async false
set_option linter.all false
set_option maxRecDepth 100000
/-! VM: stones moved. -/
namespace VL
open PySem L2 PySem.Spec PyProof.Rows
theorem seq3 {A B C : Rho → Res} {ρ ρ' : Rho} (h : sSeq A (sSeq B C) ρ = .nx ρ') (rest : Rho → Res) : sSeq A (sSeq B (sSeq C rest)) ρ = rest ρ' := by
  unfold sSeq at h ⊢
  cases hA : A ρ <;> rw [hA] at h <;> simp only [thenR] at h ⊢ <;> try cases h
  rename_i ρ1
  cases hB : B ρ1 <;> rw [hB] at h <;> simp only [thenR] at h ⊢ <;> try cases h
  rename_i ρ2
  rw [h]
theorem seq2 {A B : Rho → Res} {ρ ρ' : Rho} (h : sSeq A B ρ = .nx ρ') (rest : Rho → Res) : sSeq A (sSeq B rest) ρ = rest ρ' := by
  unfold sSeq at h ⊢
  cases hA : A ρ <;> rw [hA] at h <;> simp only [thenR] at h ⊢ <;> try cases h
  rename_i ρ1
  rw [h]
/-- the stone moved, rising -/
def mvX (s : P3) (m : Mv) (xs : List P3) : List P3 := sort3 (xs.map (mvP s m))
theorem mvX_len (s : P3) (m : Mv) (xs : List P3) : (mvX s m xs).length = xs.length := by
  unfold mvX
  rw [(sort3_perm _).length_eq, List.length_map]
theorem mem_mvX {s : P3} {m : Mv} {xs : List P3} {q : P3} : q ∈ mvX s m xs ↔ ∃ p, p ∈ xs ∧ mvP s m p = q := by
  unfold mvX
  rw [(sort3_perm _).mem_iff, List.mem_map]
theorem mvX_up {s : P3} {m : Mv} (hm : m ∈ movesL) {xs : List P3} (h : xs.Nodup) : Up (mvX s m xs) := by
  refine srtd_up (sort3_srtd _) ((sort3_perm _).nodup_iff.mpr ?_)
  rw [List.nodup_iff_pairwise_ne] at h ⊢
  rw [List.pairwise_map]
  exact h.imp fun hne e => hne (mvP_inj hm e)
theorem mvX_in {s : P3} {m : Mv} (hm : m ∈ movesL) {xs : List P3} (h : ∀ p, p ∈ xs → inB s p = true) : ∀ q, q ∈ mvX s m xs → inB (mvS s m) q = true := by
  intro q hq
  obtain ⟨p, hp, rfl⟩ := mem_mvX.mp hq
  rw [inB_mv hm]
  exact h p hp
theorem sort3_congr {xs ys : List P3} (h : xs.Perm ys) : sort3 xs = sort3 ys := srtd_uniq (sort3_srtd xs) (sort3_srtd ys) (((sort3_perm xs).trans h).trans (sort3_perm ys).symm)
/-- two moves in turn -/
theorem mvX_aft {m n : Mv} (hm : m ∈ movesL) (hn : n ∈ movesL) (s : P3) (xs : List P3) : mvX s (aft m n) xs = mvX (mvS s m) n (mvX s m xs) := by
  unfold mvX
  refine sort3_congr ?_
  have e : xs.map (mvP s (aft m n)) = (xs.map (mvP s m)).map (mvP (mvS s m) n) := by
    rw [List.map_map]
    exact List.map_congr_left fun p _ => mvP_aft hm hn s p
  rw [e]
  exact ((sort3_perm _).map _).symm
/-- the first that is found -/
theorem foldl_find {α : Type} (c : α → Bool) : ∀ (xs : List α) (acc : Option α), xs.foldl (fun acc x => if (acc.isNone && c x) = true then some x else acc) acc = acc.or (xs.find? c)
  | [], acc => by cases acc <;> rfl
  | x :: xs, acc => by
    rw [List.foldl_cons, foldl_find c xs, List.find?_cons]
    cases acc with
    | some a => rfl
    | none =>
      cases h : c x with
      | true => simp
      | false => simp
def encMv : Option Mv → D
  | some m => eMv m
  | none => .non
def encMk : Option Mv → D
  | some m => eMk m
  | none => .non
end VL
set_option Elab.async false
set_option linter.all false
set_option maxRecDepth 100000
/-! VM: forms, the order of forms, the least one. -/
namespace VL
open PySem L2 PySem.Spec PyProof.Rows PySem.SeqAt
abbrev Fm := P3 × List P3
def eF (f : Fm) : D := .tup [e3 f.1, .lst (f.2.map e3)]
def ltX : List P3 → List P3 → Bool
  | [], [] => false
  | [], _ :: _ => true
  | _ :: _, [] => false
  | x :: xs, y :: ys => if x = y then ltX xs ys else lt3 x y
def ltF (f g : Fm) : Bool := if f.1 = g.1 then ltX f.2 g.2 else lt3 f.1 g.1
theorem lt3_irr (p : P3) : lt3 p p = false := by
  rw [Bool.eq_false_iff]
  intro h
  have := lt3_iff.mp h
  omega
theorem lt3_trans {p q r : P3} (h1 : lt3 p q = true) (h2 : lt3 q r = true) : lt3 p r = true := by
  rw [lt3_iff] at *
  omega
theorem lt3_tri {p q : P3} (h1 : lt3 p q = false) (h2 : lt3 q p = false) : p = q := by
  rw [Bool.eq_false_iff] at h1 h2
  rw [ne_eq, lt3_iff] at h1 h2
  exact Prod.ext (by omega) (Prod.ext (by omega) (by omega))
theorem ltX_irr : ∀ xs, ltX xs xs = false
  | [] => rfl
  | x :: xs => by rw [ltX, if_pos rfl, ltX_irr xs]
theorem ltX_trans : ∀ {xs ys zs : List P3}, ltX xs ys = true → ltX ys zs = true → ltX xs zs = true
  | [], [], _, h, _ => by cases h
  | [], _ :: _, [], _, h => by cases h
  | [], _ :: _, _ :: _, _, _ => rfl
  | _ :: _, [], _, h, _ => by cases h
  | _ :: _, _ :: _, [], _, h => by cases h
  | x :: xs, y :: ys, z :: zs, h1, h2 => by
    rw [ltX] at h1 h2 ⊢
    by_cases a : x = y
    · rw [if_pos a] at h1
      subst a
      by_cases b : x = z
      · rw [if_pos b] at h2 ⊢
        exact ltX_trans h1 h2
      · rw [if_neg b] at h2 ⊢
        exact h2
    · rw [if_neg a] at h1
      by_cases b : y = z
      · subst b
        rw [if_neg a]
        exact h1
      · rw [if_neg b] at h2
        have h3 := lt3_trans h1 h2
        have hne : x ≠ z := fun e => by rw [e, lt3_irr] at h3; cases h3
        rw [if_neg hne]
        exact h3
theorem ltX_tri : ∀ {xs ys : List P3}, ltX xs ys = false → ltX ys xs = false → xs = ys
  | [], [], _, _ => rfl
  | [], _ :: _, h, _ => by cases h
  | _ :: _, [], _, h => by cases h
  | x :: xs, y :: ys, h1, h2 => by
    rw [ltX] at h1 h2
    by_cases a : x = y
    · rw [if_pos a] at h1
      rw [if_pos a.symm] at h2
      rw [a, ltX_tri h1 h2]
    · rw [if_neg a] at h1
      rw [if_neg (Ne.symm a)] at h2
      exact absurd (lt3_tri h1 h2) a
theorem ltF_irr (f : Fm) : ltF f f = false := by
  unfold ltF
  rw [if_pos rfl, ltX_irr]
theorem ltF_trans {f g h : Fm} (h1 : ltF f g = true) (h2 : ltF g h = true) : ltF f h = true := by
  unfold ltF at *
  by_cases a : f.1 = g.1
  · rw [if_pos a] at h1
    by_cases b : g.1 = h.1
    · rw [if_pos b] at h2
      rw [if_pos (a.trans b)]
      exact ltX_trans h1 h2
    · rw [if_neg b] at h2
      rw [a, if_neg b]
      exact h2
  · rw [if_neg a] at h1
    by_cases b : g.1 = h.1
    · rw [← b, if_neg a]
      exact h1
    · rw [if_neg b] at h2
      have h3 := lt3_trans h1 h2
      have hne : f.1 ≠ h.1 := fun e => by rw [e, lt3_irr] at h3; cases h3
      rw [if_neg hne]
      exact h3
theorem ltF_tri {f g : Fm} (h1 : ltF f g = false) (h2 : ltF g f = false) : f = g := by
  unfold ltF at *
  by_cases a : f.1 = g.1
  · rw [if_pos a] at h1
    rw [if_pos a.symm] at h2
    exact Prod.ext a (ltX_tri h1 h2)
  · rw [if_neg a] at h1
    rw [if_neg (Ne.symm a)] at h2
    exact absurd (lt3_tri h1 h2) a
theorem ltF_or (f g : Fm) : (lt3 f.1 g.1 || (decide (f.1 = g.1) && ltX f.2 g.2)) = ltF f g := by
  unfold ltF
  by_cases a : f.1 = g.1
  · rw [if_pos a, a, lt3_irr]
    simp
  · rw [if_neg a]
    simp [a]
/-! ### the order of data -/
theorem lexT_self (x : Int ⊕ List Nat) (l m : List (Int ⊕ List Nat)) : PyProof.Rows.lexLt itemOrd (x :: l) (x :: m) = PyProof.Rows.lexLt itemOrd l m := PySem.W.lex_pre [x] l m
theorem ltAll_cons {x y : PyData} {xs ys : List PyData} (h : PySem.W.alike x y = true) : PyProof.Rows.lexLt itemOrd (PySem.W.keyToksAll (x :: xs)) (PySem.W.keyToksAll (y :: ys)) = if PyData.eqv x y = true then PyProof.Rows.lexLt itemOrd (PySem.W.keyToksAll xs) (PySem.W.keyToksAll ys) else PySem.W.dataLt x y := by
  obtain ⟨a1, a2⟩ := PySem.W.toks_eqv x y h
  rw [PySem.W.toks_all_cons, PySem.W.toks_all_cons, lexT_self]
  cases hx : PyData.eqv x y with
  | true =>
    rw [if_pos rfl, a1 hx, PySem.W.lex_pre]
  | false =>
    rw [if_neg Bool.false_ne_true, a2 hx]
    rfl
theorem ltD_int (a b : Int) : PySem.W.dataLt (.int a) (.int b) = decide (a < b) := by
  unfold PySem.W.dataLt
  rw [Bool.eq_iff_iff]
  simp [PySem.W.keyToks, PyProof.Rows.lexLt, itemLt]
theorem ltAll_nn : PyProof.Rows.lexLt itemOrd (PySem.W.keyToksAll []) (PySem.W.keyToksAll []) = false := by
  simp [PySem.W.keyToksAll, PyProof.Rows.lexLt, itemLt]
theorem ltAll_nc (y : PyData) (ys : List PyData) : PyProof.Rows.lexLt itemOrd (PySem.W.keyToksAll []) (PySem.W.keyToksAll (y :: ys)) = true := by
  simp [PySem.W.keyToksAll, PyProof.Rows.lexLt, itemLt]
theorem ltAll_cn (y : PyData) (ys : List PyData) : PyProof.Rows.lexLt itemOrd (PySem.W.keyToksAll (y :: ys)) (PySem.W.keyToksAll []) = false := by
  simp [PySem.W.keyToksAll, PyProof.Rows.lexLt, itemLt]
theorem alike_e3 (p q : P3) : PySem.W.alike (toP (e3 p)) (toP (e3 q)) = true := by simp [e3, toP, toPA, PySem.W.alike, PySem.W.alikeAll]
theorem ltD_e3 (p q : P3) : PySem.W.dataLt (toP (e3 p)) (toP (e3 q)) = lt3 p q := by
  have hi (a b : Int) : PySem.W.alike (.int a) (.int b) = true := rfl
  show PyProof.Rows.lexLt itemOrd (PySem.W.keyToksAll [.int p.1, .int p.2.1, .int p.2.2]) (PySem.W.keyToksAll [.int q.1, .int q.2.1, .int q.2.2]) = _
  rw [ltAll_cons (hi _ _), ltAll_cons (hi _ _), ltAll_cons (hi _ _), ltAll_nn, ltD_int, ltD_int, ltD_int]
  unfold lt3
  simp only [HT.lexLt, PyData.eqv, beq_iff_eq]
theorem alike_e3s : ∀ xs ys : List P3, PySem.W.alikeAll (toPA (xs.map e3)) (toPA (ys.map e3)) = true
  | [], _ => by simp [toPA, PySem.W.alikeAll]
  | _ :: _, [] => by simp [toPA, PySem.W.alikeAll]
  | x :: xs, y :: ys => by simp only [List.map_cons, toPA, PySem.W.alikeAll, alike_e3, alike_e3s xs ys, Bool.and_self]
theorem ltD_e3s : ∀ xs ys : List P3, PyProof.Rows.lexLt itemOrd (PySem.W.keyToksAll (toPA (xs.map e3))) (PySem.W.keyToksAll (toPA (ys.map e3))) = ltX xs ys
  | [], [] => ltAll_nn
  | [], y :: ys => ltAll_nc _ _
  | x :: xs, [] => ltAll_cn _ _
  | x :: xs, y :: ys => by
    simp only [List.map_cons, toPA]
    rw [ltAll_cons (alike_e3 x y), ltD_e3s xs ys, ltD_e3, eqv_e3, ltX]
    by_cases h : x = y <;> simp [h]
theorem alike_e3L (xs ys : List P3) : PySem.W.alike (toP (.lst (xs.map e3))) (toP (.lst (ys.map e3))) = true := alike_e3s xs ys
theorem eqv_e3L (xs ys : List P3) : PyData.eqv (toP (.lst (xs.map e3))) (toP (.lst (ys.map e3))) = decide (xs = ys) := by
  simp only [toP, PyData.eqv]
  exact eqvAll_e3s xs ys
theorem ltD_e3L (xs ys : List P3) : PySem.W.dataLt (toP (.lst (xs.map e3))) (toP (.lst (ys.map e3))) = ltX xs ys := ltD_e3s xs ys
theorem lt_lists (xs ys : List P3) : ltDG (.lst (xs.map e3)) (.lst (ys.map e3)) = .ok (.bl (ltX xs ys)) := by
  unfold ltDG
  rw [if_pos ⟨shaped_e3s xs, shaped_e3s ys, alike_e3L xs ys, rfl⟩, ltD_e3L]
theorem shaped_eF (f : Fm) : SeqAt.shaped (toP (eF f)) = true := by
  have h1 := canLay_e3s f.2
  have h2 := depth_e3s f.2
  have h3 : PyData.canLayAll0 [PyData.int f.1.1, PyData.int f.1.2.1, PyData.int f.1.2.2] = true := by simp [PyData.canLayAll0, PyData.canLay0]
  simp only [eF, e3, toP, toPA, SeqAt.shaped, PyData.canLay0, PyData.canLayAll0, PyData.depth, PyData.depthAll, Bool.and_true, Bool.and_eq_true, decide_eq_true_eq, true_and]
  have h4 : PyData.canLayAll0 (toPA (f.2.map fun p => D.tup [.int p.1, .int p.2.1, .int p.2.2])) = true := h1
  have h5 : PyData.depthAll (toPA (f.2.map fun p => D.tup [.int p.1, .int p.2.1, .int p.2.2])) ≤ 2 := h2
  refine ⟨h4, ?_⟩
  omega
theorem lt_forms (f g : Fm) : ltDG (eF f) (eF g) = .ok (.bl (ltF f g)) := by
  have al : PySem.W.alike (toP (eF f)) (toP (eF g)) = true := by
    simp only [eF, toP, toPA, PySem.W.alike, PySem.W.alikeAll, Bool.and_true, Bool.and_eq_true]
    exact ⟨alike_e3 f.1 g.1, alike_e3s f.2 g.2⟩
  unfold ltDG
  rw [if_pos ⟨shaped_eF f, shaped_eF g, al, rfl⟩]
  congr 2
  show PyProof.Rows.lexLt itemOrd (PySem.W.keyToksAll [toP (e3 f.1), toP (.lst (f.2.map e3))]) (PySem.W.keyToksAll [toP (e3 g.1), toP (.lst (g.2.map e3))]) = _
  rw [ltAll_cons (alike_e3 _ _), ltAll_cons (alike_e3L _ _), ltAll_nn, ltD_e3, ltD_e3L, eqv_e3, eqv_e3L]
  unfold ltF
  by_cases h : f.1 = g.1
  · simp only [h, decide_true, if_pos]
    by_cases h2 : f.2 = g.2
    · simp [h2, ltX_irr]
    · simp [h2]
  · simp [h]
/-! ### the least form -/
def formOf (s : P3) (xs : List P3) (m : Mv) : Fm := (mvS s m, mvX s m xs)
def lessF (acc : Option Fm) (f : Fm) : Option Fm := match acc with
  | none => some f
  | some l => if ltF f l = true then some f else some l
def leastF (fs : List Fm) : Option Fm := fs.foldl lessF none
theorem least_fold : ∀ (fs : List Fm) (l : Fm), ∃ r, fs.foldl lessF (some l) = some r ∧ (r = l ∨ r ∈ fs) ∧ ltF l r = false ∧ ∀ f, f ∈ fs → ltF f r = false
  | [], l => ⟨l, rfl, .inl rfl, ltF_irr l, fun f h => nomatch h⟩
  | f :: fs, l => by
    rw [List.foldl_cons]
    unfold lessF
    by_cases c : ltF f l = true
    · simp only [c, if_pos]
      obtain ⟨r, h1, h2, h3, h4⟩ := least_fold fs f
      refine ⟨r, h1, .inr (h2.elim (fun e => e ▸ List.mem_cons_self) fun h => List.mem_cons_of_mem _ h), ?_, fun g hg => ?_⟩
      · rw [Bool.eq_false_iff]
        intro hc
        have := ltF_trans c hc
        rw [h3] at this
        cases this
      · rcases List.mem_cons.mp hg with rfl | hg
        · exact h3
        · exact h4 g hg
    · simp only [c]
      obtain ⟨r, h1, h2, h3, h4⟩ := least_fold fs l
      refine ⟨r, h1, h2.imp id fun h => List.mem_cons_of_mem _ h, h3, fun g hg => ?_⟩
      rcases List.mem_cons.mp hg with rfl | hg
      · rw [Bool.eq_false_iff]
        intro hc
        -- g < r, r not above l
        rcases h2 with e | e
        · rw [e] at hc; exact c hc
        · by_cases c2 : ltF r l = true
          · exact c (ltF_trans hc c2)
          · have := ltF_tri (by simpa using c2) h3
            rw [this] at hc
            exact c hc
      · exact h4 g hg
theorem least_spec {fs : List Fm} (h : fs ≠ []) : ∃ r, leastF fs = some r ∧ r ∈ fs ∧ ∀ f, f ∈ fs → ltF f r = false := by
  cases fs with
  | nil => exact absurd rfl h
  | cons f fs =>
    obtain ⟨r, h1, h2, h3, h4⟩ := least_fold fs f
    refine ⟨r, h1, h2.elim (fun e => e ▸ List.mem_cons_self) fun h => List.mem_cons_of_mem _ h, fun g hg => ?_⟩
    rcases List.mem_cons.mp hg with rfl | hg
    · exact h3
    · exact h4 g hg
theorem least_ext {fs gs : List Fm} (hn : fs ≠ []) (hm : gs ≠ []) (h : ∀ f, f ∈ fs ↔ f ∈ gs) : leastF fs = leastF gs := by
  obtain ⟨r, h1, h2, h3⟩ := least_spec hn
  obtain ⟨q, g1, g2, g3⟩ := least_spec hm
  rw [h1, g1, ltF_tri (g3 r ((h r).mp h2)) (h3 q ((h q).mpr g2))]
theorem aft_back_all : (movesL.all fun m => movesL.all fun k => decide (aft m (aft (bck m) k) = k)) = true := by decide +kernel
theorem aft_back {m k : Mv} (hm : m ∈ movesL) (hk : k ∈ movesL) : aft m (aft (bck m) k) = k := of_decide_eq_true (List.all_eq_true.mp (List.all_eq_true.mp aft_back_all m hm) k hk)
theorem moves_ne : movesL ≠ [] := by decide
/-- the least form of a moved stone is that of the stone -/
theorem least_moved {m : Mv} (hm : m ∈ movesL) (s : P3) (xs : List P3) : leastF (movesL.map (formOf (mvS s m) (mvX s m xs))) = leastF (movesL.map (formOf s xs)) := by
  refine least_ext (fun e => moves_ne (List.map_eq_nil_iff.mp e)) (fun e => moves_ne (List.map_eq_nil_iff.mp e)) fun f => ?_
  simp only [List.mem_map]
  constructor
  · rintro ⟨n, hn, rfl⟩
    exact ⟨aft m n, aft_moves hm hn, by unfold formOf; rw [mvS_aft hm hn, mvX_aft hm hn]⟩
  · rintro ⟨k, hk, rfl⟩
    have hb := aft_moves (bck_moves hm).1 hk
    refine ⟨aft (bck m) k, hb, ?_⟩
    unfold formOf
    rw [← mvS_aft hm hb, ← mvX_aft hm hb, aft_back hm hk]
def encF : Option Fm → D
  | some f => eF f
  | none => .non
end VL
set_option Elab.async false
set_option linter.all false
set_option maxRecDepth 100000
/-! VM: looks moved. -/
namespace VL
open PySem L2 PySem.Spec PyProof.Rows
section
variable {m : Mv} (hm : m ∈ movesL) {s w p d : P3}
theorem wvP_neg (m : Mv) (w : P3) : wvP m (neg3 w) = neg3 (wvP m w) := by
  refine ext3 fun i hi => ?_
  have hn (q : P3) (j : Int) : cmp (neg3 q) j = -cmp q j := by
    unfold cmp neg3
    split
    · rfl
    · split <;> rfl
  rw [hn]
  unfold wvP
  rw [cmp_mk3 hi, cmp_mk3 hi]
  unfold wvC
  rw [hn]
  split <;> rfl
include hm
theorem inB_stp_mv {k : Int} : inB (mvS s m) (stp (mvP s m p) (wvP m w) k) = inB s (stp p w k) := by rw [← mvP_stp hm, inB_mv hm]
theorem depth_mv (hs : Sz 100 s) (hw : Nz w) (hp : inB s p = true) : depth (mvS s m) (wvP m w) (mvP s m p) = depth s w p := by
  obtain ⟨d1, d2, d3⟩ := depth_spec hs hw hp
  refine depth_unique (mvS_sz hm hs) (wvP_nz hm hw) (fun i hi => ?_) ?_
  · rw [inB_stp_mv hm]; exact d1 i hi
  · rw [inB_stp_mv hm]; exact d2
theorem door_mv (hs : Sz 100 s) (hw : Nz w) (hp : inB s p = true) : door (mvS s m) (wvP m w) (mvP s m p) = mvP s m (door s w p) := by
  unfold door
  rw [depth_mv hm hs hw hp, mvP_stp hm]
theorem isdoor_mv : IsDoor (mvS s m) (wvP m w) (mvP s m d) ↔ IsDoor s w d := by
  unfold IsDoor
  rw [inB_mv hm, inB_stp_mv hm]
theorem fore_mv (hs : Sz 100 s) (hw : Nz w) (hd : inB s d = true) : fore (mvS s m) (wvP m w) (mvP s m d) = fore s w d := by
  unfold fore
  rw [← wvP_neg, depth_mv hm hs hw.neg hd]
theorem line_mv (hs : Sz 100 s) (hw : Nz w) (hd : inB s d = true) : line (mvS s m) (wvP m w) (mvP s m d) = (line s w d).map (mvP s m) := by
  unfold line
  rw [fore_mv hm hs hw hd, List.map_map]
  exact List.map_congr_left fun i _ => (mvP_stp hm s d w i).symm
/-- the place from which a place of the moved block comes -/
def unP (s : P3) (m : Mv) (q : P3) : P3 := mvP (mvS s m) (bck m) q
theorem un_mv (s : P3) (p : P3) : unP s m (mvP s m p) = p := mvP_back hm s p
theorem mv_un (s : P3) (q : P3) : mvP s m (unP s m q) = q := by
  obtain ⟨h1, h2, h3⟩ := bck_moves hm
  unfold unP
  have := mvP_aft (m := bck m) (n := m) h1 hm (mvS s m) q
  rw [h3, mvP_still, mvS_back hm] at this
  exact this.symm
theorem mem_doors_mv {q : P3} : q ∈ doors (mvS s m) (wvP m w) ↔ unP s m q ∈ doors s w := by
  rw [mem_doors, mem_doors, ← isdoor_mv hm (s := s) (w := w) (d := unP s m q), mv_un hm]
theorem mem_mvX_iff {xs : List P3} : mvP s m p ∈ mvX s m xs ↔ p ∈ xs := by
  rw [mem_mvX]
  constructor
  · rintro ⟨q, hq, e⟩
    rwa [← mvP_inj hm e]
  · exact fun h => ⟨p, h, rfl⟩
theorem shot_mv (hs : Sz 100 s) (hw : Nz w) (hd : inB s d = true) {xs : List P3} {f f' : P3 → Nat} (hf : ∀ p, p ∈ xs → f' (mvP s m p) = f p) :
    shot (mvS s m) (wvP m w) (mvX s m xs) f' (mvP s m d) = shot s w xs f d := by
  unfold shot
  rw [line_mv hm hs hw hd, List.find?_map]
  have : (fun q => decide (q ∈ mvX s m xs)) ∘ mvP s m = fun q => decide (q ∈ xs) := by
    funext q
    exact decide_eq_decide.mpr (mem_mvX_iff hm)
  rw [this]
  cases h : (line s w d).find? fun q => decide (q ∈ xs) with
  | none => rfl
  | some p =>
    have h1 := List.find?_some h
    exact hf p (of_decide_eq_true h1)
omit hm
/-- a look moved -/
def mvLk (s : P3) (m : Mv) (l : Lk) : Lk := ⟨wvP m l.w, (doors (mvS s m) (wvP m l.w)).map fun q => sgn s l (unP s m q)⟩
include hm
theorem mvLk_ok {l : Lk} (h : LkOk s l) : LkOk (mvS s m) (mvLk s m l) := ⟨wvP_way hm h.1, by unfold mvLk; rw [List.length_map]⟩
theorem mvLk_sgn {l : Lk} (hd : d ∈ doors s l.w) : sgn (mvS s m) (mvLk s m l) (mvP s m d) = sgn s l d := by
  have hq : mvP s m d ∈ doors (mvS s m) (wvP m l.w) := by rw [mem_doors_mv hm, un_mv hm]; exact hd
  have := sg_map (doors (mvS s m) (wvP m l.w)) (fun q => sgn s l (unP s m q)) hq
  rw [un_mv hm] at this
  exact this
theorem mvLk_lksg {l : Lk} (hk : LkOk s l) (hs : LkSg l) : LkSg (mvLk s m l) := by
  intro c hc
  obtain ⟨q, hq, rfl⟩ := List.mem_map.mp hc
  exact hs _ (sg_mem ((mem_doors_mv hm).mp hq) hk.2)
theorem sign_mv (hs : Sz 100 s) {l : Lk} (hk : LkOk s l) (hp : inB s p = true) : sign (mvS s m) (mvLk s m l) (mvP s m p) = sign s l p := by
  show sgn (mvS s m) (mvLk s m l) (door (mvS s m) (wvP m l.w) (mvP s m p)) = sgn s l (door s l.w p)
  rw [door_mv hm hs hk.1.nz hp, mvLk_sgn hm (door_mem hs hk.1.nz hp)]
theorem seenL_mv (hs : Sz 100 s) {l : Lk} (hk : LkOk s l) (hp : inB s p = true) {xs xs' : List P3} (h : ∀ q, inB s q = true → (mvP s m q ∈ xs' ↔ q ∈ xs)) : seenL (mvS s m) (mvLk s m l) xs' (mvP s m p) = seenL s l xs p := by
  show seenB (mvS s m) (wvP m l.w) (fun q => decide (q ∈ xs')) (mvP s m p) = seenB s l.w (fun q => decide (q ∈ xs)) p
  rw [Bool.eq_iff_iff, seen_iff, seen_iff, depth_mv hm hs hk.1.nz hp]
  have key : ∀ i : Nat, i < depth s l.w p → decide (stp (mvP s m p) (wvP m l.w) (-((i : Int) + 1)) ∈ xs') = decide (stp p l.w (-((i : Int) + 1)) ∈ xs) := fun i hi => by
    rw [← mvP_stp hm]
    refine decide_eq_decide.mpr (h _ ?_)
    have := (depth_spec hs hk.1.nz hp).1 (i + 1) (by omega)
    rwa [show -(((i + 1 : Nat)) : Int) = -((i : Int) + 1) by omega] at this
  exact ⟨fun a i hi => by rw [← key i hi]; exact a i hi, fun a i hi => by rw [key i hi]; exact a i hi⟩
theorem bar_mv (hs : Sz 100 s) {ls : List Lk} (hl : ∀ l, l ∈ ls → LkOk s l) (hp : inB s p = true) {xs xs' : List P3} (h : ∀ q, inB s q = true → (mvP s m q ∈ xs' ↔ q ∈ xs)) : barP (mvS s m) (ls.map (mvLk s m)) xs' (mvP s m p) = barP s ls xs p := by
  unfold barP
  congr 1
  rw [List.map_map]
  refine List.map_congr_left fun l hl' => ?_
  show (seenL (mvS s m) (mvLk s m l) xs' (mvP s m p), sign (mvS s m) (mvLk s m l) (mvP s m p)) = (seenL s l xs p, sign s l p)
  rw [seenL_mv hm hs (hl l hl') hp h, sign_mv hm hs (hl l hl') hp]
theorem up_sub {xs ys : List P3} (h1 : Up xs) (h2 : Up ys) (h : ∀ p, p ∈ xs → p ∈ ys) : xs.Sublist ys := by
  have e : xs = ys.filter fun p => decide (p ∈ xs) := up_ext h1 (h2.sub List.filter_sublist) fun p => by
    rw [List.mem_filter, decide_eq_true_eq]
    exact ⟨fun hp => ⟨h p hp, hp⟩, fun hp => hp.2⟩
  rw [e]
  exact List.filter_sublist
/-- the greatest stone of the moved looks is the moved one -/
theorem carv_mv (hs : Sz 100 s) {ls : List Lk} (hl : ∀ l, l ∈ ls → LkOk s l) : carv (mvS s m) (ls.map (mvLk s m)) (places (mvS s m)) = mvX s m (carv s ls (places s)) := by
  have hag := carv_agr s ls (places s)
  have hsub := carv_sub s ls (places s)
  generalize hX : carv s ls (places s) = X at hag hsub ⊢
  have hin : ∀ p, p ∈ X → inB s p = true := fun p hp => inB_iff.mpr (mem_places.mp (hsub.subset hp))
  have hXu : X.Nodup := ((places_up s).sub hsub).nodup
  have hmu := mvX_up (s := s) hm hXu
  refine (carv_eq (places_up _).nodup (up_sub hm hmu (places_up _) fun q hq => ?_) (fun q hq => ?_) fun q hq => ?_).symm
  · exact mem_places.mpr (inB_iff.mp (mvX_in hm hin q hq))
  · obtain ⟨p, hp, rfl⟩ := mem_mvX.mp hq
    rw [bar_mv hm hs hl (hin p hp) (xs := X) fun r _ => mem_mvX_iff hm]
    exact hag p hp
  · have hga := carv_agr (mvS s m) (ls.map (mvLk s m)) (places (mvS s m))
    have hgs := carv_sub (mvS s m) (ls.map (mvLk s m)) (places (mvS s m))
    generalize carv (mvS s m) (ls.map (mvLk s m)) (places (mvS s m)) = G at hq hga hgs
    have hqi : inB (mvS s m) q = true := inB_iff.mpr (mem_places.mp (hgs.subset hq))
    have hpi : inB s (unP s m q) = true := by rw [← inB_mv hm (p := unP s m q), mv_un hm]; exact hqi
    have hback : ∀ r, inB s r = true → (mvP s m r ∈ G ↔ r ∈ (places s).filter fun r => decide (mvP s m r ∈ G)) := fun r hr => by
      rw [List.mem_filter, decide_eq_true_eq]
      exact ⟨fun h => ⟨mem_places.mpr (inB_iff.mp hr), h⟩, fun h => h.2⟩
    have hA : Agr s ls ((places s).filter fun r => decide (mvP s m r ∈ G)) := fun r hr => by
      have hri : inB s r = true := inB_iff.mpr (mem_places.mp (List.mem_filter.mp hr).1)
      rw [← bar_mv hm hs hl hri hback]
      exact hga _ (of_decide_eq_true (List.mem_filter.mp hr).2)
    have := carv_great hA (xs := places s) (fun r hr => (List.mem_filter.mp hr).1) (unP s m q) (List.mem_filter.mpr ⟨mem_places.mpr (inB_iff.mp hpi), decide_eq_true (by rw [mv_un hm]; exact hq)⟩)
    rw [hX] at this
    rw [← mv_un hm s q]
    exact (mem_mvX_iff hm).mpr this
theorem lacks_mv (hs : Sz 100 s) {l : Lk} (hk : LkOk s l) (hd : inB s d = true) (xs : List P3) : lacks (mvS s m) (mvX s m xs) (mvLk s m l) (mvP s m d) = lacks s xs l d := by
  unfold lacks
  congr 1
  show (line (mvS s m) (wvP m l.w) (mvP s m d)).any _ = _
  rw [line_mv hm hs hk.1.nz hd, List.any_map]
  congr 1
  funext q
  exact decide_eq_decide.mpr (mem_mvX_iff hm)
theorem bares_mv (hs : Sz 100 s) {ls : List Lk} (hl : ∀ l, l ∈ ls → LkOk s l) (xs : List P3) : (bares (mvS s m) (ls.map (mvLk s m)) (mvX s m xs)).isEmpty = (bares s ls xs).isEmpty := by
  rw [Bool.eq_iff_iff, List.isEmpty_iff, List.isEmpty_iff, List.eq_nil_iff_forall_not_mem, List.eq_nil_iff_forall_not_mem]
  constructor
  · intro h b hb
    obtain ⟨i, l, h1, h2, h3, h4⟩ := mem_bareF.mp hb
    obtain ⟨h5, h6⟩ := List.mem_filter.mp h3
    have hk := hl l (List.mem_of_getElem? h1)
    refine h (b.1, mvP s m b.2) (mem_bareF.mpr ⟨i, mvLk s m l, by rw [List.getElem?_map, h1]; rfl, h2, List.mem_filter.mpr ⟨?_, ?_⟩, ?_⟩)
    · show mvP s m b.2 ∈ doors (mvS s m) (wvP m l.w)
      rw [mem_doors_mv hm, un_mv hm]; exact h5
    · show inkB (sgn (mvS s m) (mvLk s m l) (mvP s m b.2)) = true
      rw [mvLk_sgn hm h5]; exact h6
    · show lacks (mvS s m) (mvX s m xs) (mvLk s m l) (mvP s m b.2) = true
      rw [lacks_mv hm hs hk (mem_doors.mp h5).1]; exact h4
  · intro h b hb
    obtain ⟨i, l', h1, h2, h3, h4⟩ := mem_bareF.mp hb
    rw [List.getElem?_map] at h1
    obtain ⟨l, e1, rfl⟩ := Option.map_eq_some_iff.mp h1
    obtain ⟨h5, h6⟩ := List.mem_filter.mp h3
    have hk := hl l (List.mem_of_getElem? e1)
    have h5' : unP s m b.2 ∈ doors s l.w := (mem_doors_mv hm).mp h5
    have eb : b.2 = mvP s m (unP s m b.2) := (mv_un hm s b.2).symm
    rw [eb, mvLk_sgn hm h5'] at h6
    rw [eb, lacks_mv hm hs hk (mem_doors.mp h5').1] at h4
    exact h (b.1, unP s m b.2) (mem_bareF.mpr ⟨i, l, e1, h2, List.mem_filter.mpr ⟨h5', h6⟩, h4⟩)
end
end VL
set_option Elab.async false
set_option linter.all false
set_option maxRecDepth 100000
/-! VM: a dict built of different places; its items; moved pictures. -/
namespace VL
open PySem L2 PySem.Spec PyProof.Rows
theorem putAll_map (f : P3 → D) : ∀ (xs ys : List P3), (ys ++ xs).Nodup → putAll (ys.map fun p => (k3 p, f p)) (xs.map fun p => (p, f p)) = (ys ++ xs).map fun p => (k3 p, f p)
  | [], ys, _ => by rw [List.append_nil]; rfl
  | x :: xs, ys, h => by
    show putAll (putT _ (k3 x) (f x)) (xs.map fun p => (p, f p)) = _
    have hx : x ∉ ys := fun hm => by
      have := (List.nodup_append.mp h).2.2 x hm x List.mem_cons_self
      exact this rfl
    rw [putT_new' _ _ _ (fun kv hkv => by
      obtain ⟨p, hp, rfl⟩ := List.mem_map.mp hkv
      exact fun e => hx (k3_inj.mp e ▸ hp))]
    have := putAll_map f xs (ys ++ [x]) (by rw [List.append_assoc]; exact h)
    rw [List.map_append] at this
    rw [List.append_assoc] at this
    exact this
theorem mkD_map (f : P3 → D) {xs : List P3} (h : xs.Nodup) : mkD (xs.map fun p => (p, f p)) = xs.map fun p => (k3 p, f p) := putAll_map f xs [] h
theorem keysD_k3 (p : P3) : keysD (k3 p) = e3 p := rfl
@[simp] theorem eItemsT_ap (f : Rho → M D) (ρ : Rho) : eItemsT f ρ = M.bind (f ρ) fun d => match d with
  | .dct kvs => if lfT kvs = true then .ok (kvs.map fun kv => .tup [keysD kv.1, kv.2]) else .er
  | _ => .er := rfl
theorem lfT_map {α : Type} (k : α → List Key) (f : α → D) (h : ∀ x, lf (f x) = true) : ∀ xs : List α, lfT (xs.map fun x => (k x, f x)) = true
  | [] => rfl
  | x :: xs => by rw [List.map_cons, lfT_cons, h x, lfT_map k f h xs]; rfl
/-- signs, put where their doors are moved to -/
theorem look_moved {m : Mv} (hm : m ∈ movesL) {s : P3} (ds : List P3) (g : P3 → D) (q : P3) (hq : unP s m q ∈ ds) : lookT (mkD (ds.map fun d => (mvP s m d, g d))) (k3 q) = some (g (unP s m q)) := by
  have e : (ds.map fun d => (mvP s m d, g d)) = (ds.map (mvP s m)).map fun q => (q, g (unP s m q)) := by
    rw [List.map_map]
    refine List.map_congr_left fun d _ => ?_
    simp only [Function.comp]
    rw [un_mv hm]
  rw [e, look_mkD (fun q => g (unP s m q)), if_pos]
  exact List.mem_map.mpr ⟨_, hq, mv_un hm s q⟩
end VL
set_option Elab.async false
set_option linter.all false
set_option maxRecDepth 100000
set_option maxHeartbeats 4000000
namespace Q
open PySem L2 VL PySem.Spec PyProof.Rows
/-! ### the text -/
def top (i : Nat) : Stmt := PySem.Challenge.pw_sightstone_k18_barred_stays_barred.main.body.getD i (.Pass ⟨0, 0, 0, 0⟩)
abbrev s_places_of : Stmt := top 1
abbrev s_inside : Stmt := top 2
abbrev s_stepped : Stmt := top 3
abbrev s_door_of : Stmt := top 4
abbrev s_doors_of : Stmt := top 5
abbrev s_marks_of : Stmt := top 7
abbrev s_seen_from : Stmt := top 8
abbrev s_signs_by_door : Stmt := top 12
abbrev s_view_of : Stmt := top 14
abbrev s_views_of : Stmt := top 15
abbrev s_bar_in : Stmt := top 16
abbrev s_barred : Stmt := top 17
abbrev s_L_digits : Stmt := top 19
abbrev s_L_one : Stmt := top 20
abbrev s_L_sizes : Stmt := top 21
abbrev s_L_measure : Stmt := top 22
abbrev s_L_way : Stmt := top 23
abbrev s_L_all : Stmt := top 24
abbrev s_L_step : Stmt := top 25
abbrev s_L_in : Stmt := top 26
abbrev s_L_door : Stmt := top 27
abbrev s_L_doors : Stmt := top 28
abbrev s_L_marks : Stmt := top 29
abbrev s_L_seen : Stmt := top 30
abbrev s_L_stone : Stmt := top 31
abbrev s_L_letter : Stmt := top 32
abbrev s_L_paint : Stmt := top 33
abbrev s_L_snap : Stmt := top 34
abbrev s_L_spoilt : Stmt := top 35
abbrev s_L_rows_fit : Stmt := top 36
abbrev s_L_looks : Stmt := top 37
abbrev s_L_many : Stmt := top 38
abbrev s_L_scene : Stmt := top 39
abbrev s_L_tried : Stmt := top 40
abbrev s_law : Stmt := top 41
/-! ### what each def gives -/
def b_places_of_1 : Rho → Res := (sWipe [4] (sBm 1 appE (aCons (eTup (aCons (eLf (eV 2)) (aCons (eLf (eV 3)) (aCons (eLf (eV 4)) aNil)))) aNil)))
def b_places_of_2 : Rho → Res := (sWipe [3, 4] (sFor (eR1 (aCons (eOp idxG (eV 0) (eC (.int 2))) aNil)) (tgN 4) b_places_of_1))
def b_places_of_3 : Rho → Res := (sWipe [2, 3, 4] (sFor (eR1 (aCons (eOp idxG (eV 0) (eC (.int 1))) aNil)) (tgN 3) b_places_of_2))
def d_places_of : Rho → Res := (sSeq (sOw 1 (eLst aNil)) (sSeq (sFor (eR1 (aCons (eOp idxG (eV 0) (eC (.int 0))) aNil)) (tgN 2) b_places_of_3) (sShare 1 (sRet (eVF 1)))))
def q_places_of : List D → M D := runF 1 5 d_places_of
def b_inside_1 : Rho → Res := (sWipe [2] (sIf (eOr (eB (eOp ltG (eOp idxG (eV 1) (eV 2)) (eC (.int 0)))) (eB (eOp geG (eOp idxG (eV 1) (eV 2)) (eOp idxG (eV 0) (eV 2))))) (sRet (eC (.bl false))) sNil))
def d_inside : Rho → Res := (sSeq (sFor (eR1 (aCons (eC (.int 3)) aNil)) (tgN 2) b_inside_1) (sRet (eC (.bl true))))
def q_inside : List D → M D := runF 2 3 d_inside
def d_stepped : Rho → Res := (sRet (eTup (aCons (eOp addG (eOp idxG (eV 0) (eC (.int 0))) (eOp mulG (eV 2) (eOp idxG (eV 1) (eC (.int 0))))) (aCons (eOp addG (eOp idxG (eV 0) (eC (.int 1))) (eOp mulG (eV 2) (eOp idxG (eV 1) (eC (.int 1))))) (aCons (eOp addG (eOp idxG (eV 0) (eC (.int 2))) (eOp mulG (eV 2) (eOp idxG (eV 1) (eC (.int 2))))) aNil)))))
def q_stepped : List D → M D := runF 3 3 d_stepped
def b_door_of_1 : Rho → Res := (sSeq (sSh 3 (eVE 4)) (sFr 4 (eCall q_stepped (aCons (eV 3) (aCons (eV 1) (aCons (eUn negG (eC (.int 1))) aNil))))))
def c_door_of_2 : Rho → M Bool := (eTr (eCall q_inside (aCons (eV 0) (aCons (eV 4) aNil))))
def d_door_of : Rho → Res := (sSeq (sSh 3 (eTup (aCons (eOp idxG (eV 2) (eC (.int 0))) (aCons (eOp idxG (eV 2) (eC (.int 1))) (aCons (eOp idxG (eV 2) (eC (.int 2))) aNil))))) (sSeq (sFr 4 (eCall q_stepped (aCons (eV 3) (aCons (eV 1) (aCons (eUn negG (eC (.int 1))) aNil))))) (sSeq (sWhile 1000 c_door_of_2 b_door_of_1) (sRet (eLf (eV 3))))))
def q_door_of : List D → M D := runF 3 5 d_door_of
def e_doors_of_1 : Rho → M D := (eLf (eV 2))
def c_doors_of_2 : Rho → M Bool := (eNot (eTr (eCall q_inside (aCons (eV 0) (aCons (eCall q_stepped (aCons (eV 2) (aCons (eV 1) (aCons (eUn negG (eC (.int 1))) aNil)))) aNil)))))
def d_doors_of : Rho → Res := (sRet (eComp [2] (eLL (eCall q_places_of (aCons (eV 0) aNil))) (tgN 2) c_doors_of_2 e_doors_of_1))
def q_doors_of : List D → M D := runF 2 3 d_doors_of
def b_marks_of_1 : Rho → Res := (sWipe [2] (sPut 1 (eV 2) (eC (.bl true))))
def d_marks_of : Rho → Res := (sSeq (sOw 1 (eC (.dct []))) (sSeq (sFor (eLL (eVE 0)) (tgN 2) b_marks_of_1) (sShare 1 (sRet (eVF 1)))))
def q_marks_of : List D → M D := runF 1 3 d_marks_of
def b_seen_from_1 : Rho → Res := (sFr 6 (eCall q_stepped (aCons (eV 6) (aCons (eV 1) (aCons (eUn negG (eC (.int 1))) aNil)))))
def c_seen_from_2 : Rho → M Bool := (eAnd (eTr (eCall q_inside (aCons (eV 0) (aCons (eV 6) aNil)))) (eB (eOp ninG (eV 6) (eV 3))))
def b_seen_from_3 : Rho → Res := (sWipe [5, 6] (sSeq (sFr 6 (eCall q_stepped (aCons (eV 5) (aCons (eV 1) (aCons (eUn negG (eC (.int 1))) aNil))))) (sSeq (sWhile 1000 c_seen_from_2 b_seen_from_1) (sIf (eNot (eTr (eCall q_inside (aCons (eV 0) (aCons (eV 6) aNil))))) (sBm 4 appE (aCons (eLf (eV 5)) aNil)) sNil))))
def d_seen_from : Rho → Res := (sSeq (sFr 3 (eCall q_marks_of (aCons (eV 2) aNil))) (sSeq (sOw 4 (eLst aNil)) (sSeq (sFor (eLL (eVE 2)) (tgN 5) b_seen_from_3) (sShare 4 (sRet (eVF 4))))))
def q_seen_from : List D → M D := runF 3 7 d_seen_from
def b_signs_by_door_1 : Rho → Res := (sWipe [4, 5] (sPut 3 (eV 4) (eLf (eV 5))))
def d_signs_by_door : Rho → Res := (sSeq (sOw 3 (eC (.dct []))) (sSeq (sFor (eZipLS (aCons (eCall q_doors_of (aCons (eV 0) (aCons (eV 1) aNil))) (aCons (eVE 2) aNil))) (tgT 2 (tgCons (tgN 4) (tgCons (tgN 5) tgNil))) b_signs_by_door_1) (sShare 3 (sRet (eVF 3)))))
def q_signs_by_door : List D → M D := runF 3 6 d_signs_by_door
def b_view_of_1 : Rho → Res := (sWipe [7] (sPut 6 (eV 7) (eLf (eOp idxG (eV 5) (eCall q_door_of (aCons (eV 0) (aCons (eV 3) (aCons (eV 7) aNil))))))))
def d_view_of : Rho → Res := (sSeq (sUnp (eVE 1) (tgT 2 (tgCons (tgN 3) (tgCons (tgN 4) tgNil)))) (sSeq (sFr 5 (eCall q_signs_by_door (aCons (eV 0) (aCons (eV 3) (aCons (eV 4) aNil))))) (sSeq (sOw 6 (eC (.dct []))) (sSeq (sFor (eLL (eCall q_seen_from (aCons (eV 0) (aCons (eV 3) (aCons (eV 2) aNil))))) (tgN 7) b_view_of_1) (sShare 6 (sRet (eVF 6)))))))
def q_view_of : List D → M D := runF 3 8 d_view_of
def e_views_of_1 : Rho → M D := (eCall q_view_of (aCons (eV 0) (aCons (eV 3) (aCons (eV 2) aNil))))
def d_views_of : Rho → Res := (sRet (eComp [3] (eLL (eVE 1)) (tgN 3) cYes e_views_of_1))
def q_views_of : List D → M D := runF 3 4 d_views_of
def b_bar_in_1 : Rho → Res := (sWipe [3, 4] (sIf (eB (eOp inG (eV 1) (eV 4))) (sSeq (sIf (eB (eOp eqG (eOp idxG (eV 4) (eV 1)) (eC (.str ("." : Str))))) (sRet (eTup (aCons (eLf (eV 3)) (aCons (eLf (eV 3)) aNil)))) sNil) (sIf (eB (eOp neG (eOp idxG (eV 4) (eV 1)) (eC (.str ("?" : Str))))) (sBm 2 appE (aCons (eLf (eV 3)) aNil)) sNil)) sNil))
def b_bar_in_2 : Rho → Res := (sWipe [3] (sIf (eB (eOp neG (eOp idxG (eOp idxG (eV 0) (eV 3)) (eV 1)) (eOp idxG (eOp idxG (eV 0) (eOp idxG (eV 2) (eC (.int 0)))) (eV 1)))) (sRet (eTup (aCons (eLf (eOp idxG (eV 2) (eC (.int 0)))) (aCons (eLf (eV 3)) aNil)))) sNil))
def d_bar_in : Rho → Res := (sSeq (sOw 2 (eLst aNil)) (sSeq (sFor (eEnum (aCons (eVE 0) aNil)) (tgT 2 (tgCons (tgN 3) (tgCons (tgN 4) tgNil))) b_bar_in_1) (sSeq (sShare 2 (sFor (eLL (eVE 2)) (tgN 3) b_bar_in_2)) (sRet (eC .non)))))
def q_bar_in : List D → M D := runF 2 5 d_bar_in
def b_barred_1 : Rho → Res := (sWipe [5, 6] (sSeq (sFr 6 (eCall q_bar_in (aCons (eV 3) (aCons (eV 5) aNil)))) (sIf (eB (eOp notNG (eV 6) (eC .non))) (sBm 4 appE (aCons (eTup (aCons (eLf (eV 5)) (aCons (eLf (eOp idxG (eV 6) (eC (.int 0)))) (aCons (eLf (eOp idxG (eV 6) (eC (.int 1)))) aNil)))) aNil)) sNil)))
def d_barred : Rho → Res := (sSeq (sFr 3 (eCall q_views_of (aCons (eV 0) (aCons (eV 1) (aCons (eV 2) aNil))))) (sSeq (sOw 4 (eLst aNil)) (sSeq (sFor (eLL (eVE 2)) (tgN 5) b_barred_1) (sShare 4 (sRet (eVF 4))))))
def q_barred : List D → M D := runF 3 7 d_barred
def b_L_digits_1 : Rho → Res := (sWipe [7] (sSeq (sBm 6 appE (aCons (eOp modG (eV 5) (eV 2)) aNil)) (sFr 5 (eOp fdivNG (eV 5) (eV 2)))))
def b_L_digits_2 : Rho → Res := (sWipe [7] (sSeq (sFr 5 (eOp modG (eOp addG (eOp mulG (eV 5) (eC (.int 48271))) (eC (.int 1))) (eC (.int 2147483647)))) (sBm 6 appE (aCons (eOp modG (eOp fdivG (eV 5) (eC (.int 1009))) (eV 2)) aNil))))
def d_L_digits : Rho → Res := (sSeq (sSh 4 (eC (.int 0))) (sSeq (sIf (eB (eOp ltG (eV 1) (eBlt lenG (aCons (eV 0) aNil)))) (sSh 4 (eOp idxG (eV 0) (eV 1))) sNil) (sSeq (sFr 5 (eBlt absG (aCons (eV 4) aNil))) (sSeq (sOw 6 (eLst aNil)) (sSeq (sIf (eB (eOp geG (eV 5) (eOp powG (eC (.int 10)) (eC (.int 18))))) (sSeq (sFor (eR1 (aCons (eV 3) aNil)) (tgN 7) b_L_digits_1) (sShare 6 (sRet (eVF 6)))) sNil) (sSeq (sFr 5 (eOp modG (eOp addG (eOp addG (eOp mulG (eV 4) (eC (.int 7919))) (eOp mulG (eV 1) (eC (.int 104729)))) (eC (.int 17))) (eC (.int 2147483647)))) (sSeq (sFr 5 (eOp addG (eV 5) (eOp modG (eOp mulG (eV 5) (eV 5)) (eC (.int 1000000007))))) (sSeq (sFor (eR1 (aCons (eV 3) aNil)) (tgN 7) b_L_digits_2) (sShare 6 (sRet (eVF 6)))))))))))
def q_L_digits : List D → M D := runF 4 8 d_L_digits
def d_L_one : Rho → Res := (sRet (eLf (eOp idxG (eCall q_L_digits (aCons (eV 0) (aCons (eV 1) (aCons (eV 2) (aCons (eC (.int 1)) aNil))))) (eC (.int 0)))))
def q_L_one : List D → M D := runF 3 3 d_L_one
def d_L_sizes : Rho → Res := (sSeq (sFr 2 (eCall q_L_digits (aCons (eV 0) (aCons (eV 1) (aCons (eC (.int 60)) (aCons (eC (.int 4)) aNil)))))) (sSeq (sFr 3 (eLst (aCons (eOp addG (eC (.int 1)) (eOp modG (eOp idxG (eV 2) (eC (.int 0))) (eC (.int 3)))) (aCons (eOp addG (eC (.int 1)) (eOp modG (eOp idxG (eV 2) (eC (.int 1))) (eC (.int 2)))) (aCons (eOp addG (eC (.int 1)) (eOp modG (eOp idxG (eV 2) (eC (.int 2))) (eC (.int 2)))) aNil))))) (sSeq (sIf (eB (eOp eqG (eOp modG (eOp fdivG (eOp idxG (eV 2) (eC (.int 3))) (eC (.int 3))) (eC (.int 4))) (eC (.int 0)))) (sFr 3 (eLst (aCons (eOp addG (eC (.int 1)) (eOp modG (eOp idxG (eV 2) (eC (.int 0))) (eC (.int 3)))) (aCons (eOp addG (eC (.int 1)) (eOp modG (eOp idxG (eV 2) (eC (.int 1))) (eC (.int 3)))) (aCons (eOp addG (eC (.int 1)) (eOp modG (eOp idxG (eV 2) (eC (.int 2))) (eC (.int 2)))) aNil))))) sNil) (sSeq (sIf (eB (eOp eqG (eOp modG (eOp fdivG (eOp idxG (eV 2) (eC (.int 3))) (eC (.int 3))) (eC (.int 4))) (eC (.int 1)))) (sFr 3 (eLst (aCons (eOp addG (eC (.int 1)) (eOp modG (eOp idxG (eV 2) (eC (.int 0))) (eC (.int 6)))) (aCons (eOp addG (eC (.int 1)) (eOp modG (eOp idxG (eV 2) (eC (.int 1))) (eC (.int 2)))) (aCons (eC (.int 1)) aNil))))) sNil) (sSeq (sFr 4 (eOp modG (eOp idxG (eV 2) (eC (.int 3))) (eC (.int 3)))) (sRet (eTup (aCons (eLf (eOp idxG (eV 3) (eV 4))) (aCons (eLf (eOp idxG (eV 3) (eOp modG (eOp addG (eV 4) (eC (.int 1))) (eC (.int 3))))) (aCons (eLf (eOp idxG (eV 3) (eOp modG (eOp addG (eV 4) (eC (.int 2))) (eC (.int 3))))) aNil))))))))))
def q_L_sizes : List D → M D := runF 2 5 d_L_sizes
def b_L_measure_1 : Rho → Res := (sWipe [2] (sSeq (sFr 2 (eOp modG (eV 0) (eV 1))) (sSeq (sSh 0 (eVE 1)) (sSh 1 (eVE 2)))))
def c_L_measure_2 : Rho → M Bool := (eB (eOp gtG (eV 1) (eC (.int 0))))
def d_L_measure : Rho → Res := (sSeq (sSh 0 (eBlt absG (aCons (eV 0) aNil))) (sSeq (sSh 1 (eBlt absG (aCons (eV 1) aNil))) (sSeq (sWhile 1000 c_L_measure_2 b_L_measure_1) (sRet (eLf (eV 0))))))
def q_L_measure : List D → M D := runF 2 3 d_L_measure
def e_L_way_1 : Rho → M D := (eOp subG (eV 4) (eC (.int 3)))
def e_L_way_2 : Rho → M D := (eBlt max2G (aCons (eUn negG (eC (.int 1))) (aCons (eBlt min2G (aCons (eC (.int 1)) (aCons (eV 4) aNil))) aNil)))
def d_L_way : Rho → Res := (sSeq (sFr 2 (eComp [4] (eLL (eCall q_L_digits (aCons (eV 0) (aCons (eV 1) (aCons (eC (.int 7)) (aCons (eC (.int 3)) aNil)))))) (tgN 4) cYes e_L_way_1)) (sSeq (sIf (eB (eOp eqG (eOp modG (eCall q_L_one (aCons (eV 0) (aCons (eV 1) (aCons (eC (.int 98)) aNil)))) (eC (.int 2))) (eC (.int 0)))) (sFr 2 (eComp [4] (eLL (eVE 2)) (tgN 4) cYes e_L_way_2)) sNil) (sSeq (sFr 3 (eCall q_L_measure (aCons (eCall q_L_measure (aCons (eOp idxG (eV 2) (eC (.int 0))) (aCons (eOp idxG (eV 2) (eC (.int 1))) aNil))) (aCons (eOp idxG (eV 2) (eC (.int 2))) aNil)))) (sSeq (sIf (eB (eOp eqG (eV 3) (eC (.int 0)))) (sRet (eTup (aCons (eC (.int 0)) (aCons (eC (.int 0)) (aCons (eC (.int 1)) aNil))))) sNil) (sRet (eTup (aCons (eOp fdivNG (eOp idxG (eV 2) (eC (.int 0))) (eV 3)) (aCons (eOp fdivNG (eOp idxG (eV 2) (eC (.int 1))) (eV 3)) (aCons (eOp fdivNG (eOp idxG (eV 2) (eC (.int 2))) (eV 3)) aNil)))))))))
def q_L_way : List D → M D := runF 2 5 d_L_way
def b_L_all_1 : Rho → Res := (sWipe [4] (sBm 1 appE (aCons (eTup (aCons (eLf (eV 2)) (aCons (eLf (eV 3)) (aCons (eLf (eV 4)) aNil)))) aNil)))
def b_L_all_2 : Rho → Res := (sWipe [3, 4] (sFor (eR1 (aCons (eOp idxG (eV 0) (eC (.int 2))) aNil)) (tgN 4) b_L_all_1))
def b_L_all_3 : Rho → Res := (sWipe [2, 3, 4] (sFor (eR1 (aCons (eOp idxG (eV 0) (eC (.int 1))) aNil)) (tgN 3) b_L_all_2))
def d_L_all : Rho → Res := (sSeq (sOw 1 (eLst aNil)) (sSeq (sFor (eR1 (aCons (eOp idxG (eV 0) (eC (.int 0))) aNil)) (tgN 2) b_L_all_3) (sShare 1 (sRet (eVF 1)))))
def q_L_all : List D → M D := runF 1 5 d_L_all
def d_L_step : Rho → Res := (sRet (eTup (aCons (eOp addG (eOp idxG (eV 0) (eC (.int 0))) (eOp mulG (eV 2) (eOp idxG (eV 1) (eC (.int 0))))) (aCons (eOp addG (eOp idxG (eV 0) (eC (.int 1))) (eOp mulG (eV 2) (eOp idxG (eV 1) (eC (.int 1))))) (aCons (eOp addG (eOp idxG (eV 0) (eC (.int 2))) (eOp mulG (eV 2) (eOp idxG (eV 1) (eC (.int 2))))) aNil)))))
def q_L_step : List D → M D := runF 3 3 d_L_step
def b_L_in_1 : Rho → Res := (sWipe [2] (sIf (eNot (eB (eCh leG ltG (eC (.int 0)) (eOp idxG (eV 1) (eV 2)) (eOp idxG (eV 0) (eV 2))))) (sRet (eC (.bl false))) sNil))
def d_L_in : Rho → Res := (sSeq (sFor (eR1 (aCons (eC (.int 3)) aNil)) (tgN 2) b_L_in_1) (sRet (eC (.bl true))))
def q_L_in : List D → M D := runF 2 3 d_L_in
def b_L_door_1 : Rho → Res := (sSh 2 (eCall q_L_step (aCons (eV 2) (aCons (eV 1) (aCons (eUn negG (eC (.int 1))) aNil)))))
def c_L_door_2 : Rho → M Bool := (eTr (eCall q_L_in (aCons (eV 0) (aCons (eCall q_L_step (aCons (eV 2) (aCons (eV 1) (aCons (eUn negG (eC (.int 1))) aNil)))) aNil))))
def d_L_door : Rho → Res := (sSeq (sWhile 1000 c_L_door_2 b_L_door_1) (sRet (eLf (eV 2))))
def q_L_door : List D → M D := runF 3 3 d_L_door
def e_L_doors_1 : Rho → M D := (eLf (eV 2))
def c_L_doors_2 : Rho → M Bool := (eNot (eTr (eCall q_L_in (aCons (eV 0) (aCons (eCall q_L_step (aCons (eV 2) (aCons (eV 1) (aCons (eUn negG (eC (.int 1))) aNil)))) aNil)))))
def d_L_doors : Rho → Res := (sRet (eComp [2] (eLL (eCall q_L_all (aCons (eV 0) aNil))) (tgN 2) c_L_doors_2 e_L_doors_1))
def q_L_doors : List D → M D := runF 2 3 d_L_doors
def b_L_marks_1 : Rho → Res := (sWipe [2] (sPut 1 (eV 2) (eC (.bl true))))
def d_L_marks : Rho → Res := (sSeq (sOw 1 (eC (.dct []))) (sSeq (sFor (eLL (eVE 0)) (tgN 2) b_L_marks_1) (sShare 1 (sRet (eVF 1)))))
def q_L_marks : List D → M D := runF 1 3 d_L_marks
def b_L_seen_1 : Rho → Res := (sSeq (sIf (eB (eOp inG (eV 4) (eV 2))) (sRet (eC (.bl false))) sNil) (sFr 4 (eCall q_L_step (aCons (eV 4) (aCons (eV 1) (aCons (eUn negG (eC (.int 1))) aNil))))))
def c_L_seen_2 : Rho → M Bool := (eTr (eCall q_L_in (aCons (eV 0) (aCons (eV 4) aNil))))
def d_L_seen : Rho → Res := (sSeq (sFr 4 (eCall q_L_step (aCons (eV 3) (aCons (eV 1) (aCons (eUn negG (eC (.int 1))) aNil))))) (sSeq (sWhile 1000 c_L_seen_2 b_L_seen_1) (sRet (eC (.bl true)))))
def q_L_seen : List D → M D := runF 4 5 d_L_seen
def e_L_stone_1 : Rho → M D := (eLf (eV 7))
def c_L_stone_2 : Rho → M Bool := (eB (eOp ltG (eOp idxG (eV 4) (eOp addG (eV 6) (eC (.int 1)))) (eV 5)))
def d_L_stone : Rho → Res := (sSeq (sFr 3 (eCall q_L_all (aCons (eV 2) aNil))) (sSeq (sFr 4 (eCall q_L_digits (aCons (eV 0) (aCons (eV 1) (aCons (eC (.int 12)) (aCons (eOp addG (eBlt lenG (aCons (eV 3) aNil)) (eC (.int 1))) aNil)))))) (sSeq (sSh 5 (eOp idxG (eTup (aCons (eC (.int 3)) (aCons (eC (.int 6)) (aCons (eC (.int 9)) (aCons (eC (.int 11)) (aCons (eC (.int 12)) (aCons (eC (.int 0)) aNil))))))) (eOp modG (eOp idxG (eV 4) (eC (.int 0))) (eC (.int 6))))) (sRet (eComp [6, 7] (eEnum (aCons (eVE 3) aNil)) (tgT 2 (tgCons (tgN 6) (tgCons (tgN 7) tgNil))) c_L_stone_2 e_L_stone_1)))))
def q_L_stone : List D → M D := runF 3 8 d_L_stone
def d_L_letter : Rho → Res := (sRet (eLf (eOp idxG (eC (.str ("abcdefghijklmnopqrstuvwxyz" : Str))) (eOp modG (eV 0) (eC (.int 26))))))
def q_L_letter : List D → M D := runF 1 1 d_L_letter
def e_L_paint_1 : Rho → M D := (eCall q_L_letter (aCons (eOp addG (eOp idxG (eV 3) (eC (.int 0))) (eOp modG (eV 5) (eV 4))) aNil))
def d_L_paint : Rho → Res := (sSeq (sFr 3 (eCall q_L_digits (aCons (eV 0) (aCons (eV 1) (aCons (eC (.int 52)) (aCons (eOp addG (eBlt lenG (aCons (eV 2) aNil)) (eC (.int 1))) aNil)))))) (sSeq (sSh 4 (eOp idxG (eTup (aCons (eC (.int 2)) (aCons (eC (.int 2)) (aCons (eC (.int 3)) (aCons (eC (.int 26)) aNil))))) (eOp modG (eOp idxG (eV 3) (eC (.int 0))) (eC (.int 4))))) (sRet (eJoin (eC (.str ("" : Str))) (eComp [5] (eLL (eSl (eV 3) (oSome (eC (.int 1))) oNone)) (tgN 5) cYes e_L_paint_1)))))
def q_L_paint : List D → M D := runF 3 6 d_L_paint
def b_L_snap_1 : Rho → Res := (sWipe [6, 7] (sIf (eTr (eCall q_L_seen (aCons (eV 0) (aCons (eV 1) (aCons (eV 5) (aCons (eV 6) aNil)))))) (sPut 4 (eCall q_L_door (aCons (eV 0) (aCons (eV 1) (aCons (eV 6) aNil)))) (eLf (eV 7))) sNil))
def e_L_snap_2 : Rho → M D := (eLf (eGet2 (eV 4) (eV 8) (eC (.str ("." : Str)))))
def d_L_snap : Rho → Res := (sSeq (sOw 4 (eC (.dct []))) (sSeq (sFr 5 (eCall q_L_marks (aCons (eV 2) aNil))) (sSeq (sFor (eZipLS (aCons (eVE 2) (aCons (eVE 3) aNil))) (tgT 2 (tgCons (tgN 6) (tgCons (tgN 7) tgNil))) b_L_snap_1) (sRet (eJoin (eC (.str ("" : Str))) (eComp [8] (eLL (eCall q_L_doors (aCons (eV 0) (aCons (eV 1) aNil)))) (tgN 8) cYes e_L_snap_2))))))
def q_L_snap : List D → M D := runF 4 9 d_L_snap
def b_L_spoilt_1 : Rho → Res := (sWipe [6, 7, 8] (sSeq (sSh 8 (eOp idxG (eV 3) (eOp addG (eV 6) (eC (.int 1))))) (sSeq (sIf (eOr (eAnd (eB (eOp eqG (eV 4) (eC (.int 1)))) (eB (eOp eqG (eOp modG (eV 8) (eC (.int 4))) (eC (.int 0))))) (eAnd (eB (eOp gtG (eV 4) (eC (.int 1)))) (eB (eOp eqG (eOp modG (eV 8) (eC (.int 8))) (eC (.int 1)))))) (sSh 7 (eC (.str ("?" : Str)))) (sIf (eAnd (eB (eOp gtG (eV 4) (eC (.int 1)))) (eB (eOp eqG (eOp modG (eV 8) (eC (.int 8))) (eC (.int 2))))) (sSh 7 (eC (.str ("." : Str)))) (sIf (eAnd (eB (eOp eqG (eV 4) (eC (.int 2)))) (eB (eOp eqG (eOp modG (eV 8) (eC (.int 8))) (eC (.int 3))))) (sSh 7 (eCall q_L_letter (aCons (eOp fdivG (eV 8) (eC (.int 8))) aNil))) (sIf (eAnd (eB (eOp eqG (eV 4) (eC (.int 3)))) (eB (eOp gtG (eOp modG (eV 8) (eC (.int 8))) (eC (.int 4))))) (sSh 7 (eOp idxG (eC (.str ("abz" : Str))) (eOp modG (eOp fdivG (eV 8) (eC (.int 8))) (eC (.int 3))))) sNil)))) (sBm 5 appE (aCons (eLf (eV 7)) aNil)))))
def d_L_spoilt : Rho → Res := (sSeq (sFr 3 (eCall q_L_digits (aCons (eV 0) (aCons (eV 1) (aCons (eC (.int 208)) (aCons (eOp addG (eBlt lenG (aCons (eV 2) aNil)) (eC (.int 1))) aNil)))))) (sSeq (sFr 4 (eOp modG (eOp idxG (eV 3) (eC (.int 0))) (eC (.int 4)))) (sSeq (sOw 5 (eLst aNil)) (sSeq (sFor (eEnumS (aCons (eVE 2) aNil)) (tgT 2 (tgCons (tgN 6) (tgCons (tgN 7) tgNil))) b_L_spoilt_1) (sRet (eJoin (eC (.str ("" : Str))) (eV 5)))))))
def q_L_spoilt : List D → M D := runF 3 9 d_L_spoilt
def b_L_rows_fit_1 : Rho → Res := (sWipe [2] (sIf (eOr (eNot (eTr (eIsi .int (eV 2)))) (eTr (eIsi .bool (eV 2)))) (sRet (eC (.bl false))) sNil))
def b_L_rows_fit_2 : Rho → Res := (sWipe [1, 2] (sSeq (sIf (eOr (eNot (eTr (eIsi .tuple (eV 1)))) (eB (eOp neG (eBlt lenG (aCons (eV 1) aNil)) (eC (.int 3))))) (sRet (eC (.bl false))) sNil) (sSeq (sIf (eOr (eNot (eTr (eIsi .tuple (eOp idxG (eV 1) (eC (.int 0)))))) (eB (eOp neG (eBlt lenG (aCons (eOp idxG (eV 1) (eC (.int 0))) aNil)) (eC (.int 3))))) (sRet (eC (.bl false))) sNil) (sFor (eLL (eLst (aCons (eOp idxG (eV 1) (eC (.int 1))) (aCons (eOp idxG (eV 1) (eC (.int 2))) (aCons (eOp idxG (eOp idxG (eV 1) (eC (.int 0))) (eC (.int 0))) (aCons (eOp idxG (eOp idxG (eV 1) (eC (.int 0))) (eC (.int 1))) (aCons (eOp idxG (eOp idxG (eV 1) (eC (.int 0))) (eC (.int 2))) aNil))))))) (tgN 2) b_L_rows_fit_1))))
def d_L_rows_fit : Rho → Res := (sSeq (sIf (eNot (eTr (eIsi .list (eV 0)))) (sRet (eC (.bl false))) sNil) (sSeq (sFor (eLL (eVE 0)) (tgN 1) b_L_rows_fit_2) (sRet (eC (.bl true)))))
def q_L_rows_fit : List D → M D := runF 1 3 d_L_rows_fit
def b_L_looks_1 : Rho → Res := (sWipe [7, 8, 9] (sSeq (sSh 8 (eCall q_L_way (aCons (eV 0) (aCons (eOp addG (eV 1) (eOp mulG (eC (.int 2)) (eV 7))) aNil)))) (sSeq (sIf (eAnd (eB (eOp gtG (eV 7) (eC (.int 0)))) (eB (eOp eqG (eCall q_L_one (aCons (eV 0) (aCons (eOp addG (eV 1) (eOp mulG (eC (.int 2)) (eV 7))) (aCons (eC (.int 5)) aNil)))) (eC (.int 0))))) (sSh 8 (eOp idxG (eOp idxG (eV 6) (eC (.int 0))) (eC (.int 0)))) sNil) (sSeq (sFr 9 (eCall q_L_snap (aCons (eV 3) (aCons (eV 8) (aCons (eV 4) (aCons (eV 5) aNil)))))) (sBm 6 appE (aCons (eTup (aCons (eLf (eV 8)) (aCons (eCall q_L_spoilt (aCons (eV 0) (aCons (eOp addG (eOp addG (eV 1) (eOp mulG (eC (.int 2)) (eV 7))) (eC (.int 1))) (aCons (eV 9) aNil)))) aNil))) aNil))))))
def d_L_looks : Rho → Res := (sSeq (sOw 6 (eLst aNil)) (sSeq (sFor (eR1 (aCons (eV 2) aNil)) (tgN 7) b_L_looks_1) (sShare 6 (sRet (eVF 6)))))
def q_L_looks : List D → M D := runF 6 10 d_L_looks
def d_L_many : Rho → Res := (sSeq (sFr 3 (eCall q_L_digits (aCons (eV 0) (aCons (eV 1) (aCons (eC (.int 8)) (aCons (eC (.int 2)) aNil)))))) (sSeq (sSh 4 (eOp idxG (eTup (aCons (eC (.int 0)) (aCons (eC (.int 1)) (aCons (eC (.int 2)) (aCons (eC (.int 3)) (aCons (eC (.int 3)) (aCons (eC (.int 4)) (aCons (eC (.int 4)) (aCons (eC (.int 8)) aNil))))))))) (eOp idxG (eV 3) (eC (.int 0))))) (sSeq (sIf (eB (eOp eqG (eV 4) (eC (.int 8)))) (sSeq (sSh 4 (eOp subG (eV 4) (eOp modG (eOp idxG (eV 3) (eC (.int 1))) (eC (.int 4))))) (sIf (eB (eOp gtG (eOp mulG (eOp mulG (eOp idxG (eV 2) (eC (.int 0))) (eOp idxG (eV 2) (eC (.int 1)))) (eOp idxG (eV 2) (eC (.int 2)))) (eC (.int 8)))) (sSh 4 (eOp subG (eV 4) (eC (.int 1)))) sNil)) sNil) (sRet (eLf (eV 4))))))
def q_L_many : List D → M D := runF 3 5 d_L_many
def d_L_scene : Rho → Res := (sSeq (sFr 1 (eCall q_L_sizes (aCons (eV 0) (aCons (eC (.int 0)) aNil)))) (sSeq (sFr 2 (eCall q_L_stone (aCons (eV 0) (aCons (eC (.int 2)) (aCons (eV 1) aNil))))) (sSeq (sFr 3 (eCall q_L_paint (aCons (eV 0) (aCons (eC (.int 3)) (aCons (eV 2) aNil))))) (sRet (eTup (aCons (eVF 1) (aCons (eCall q_L_looks (aCons (eV 0) (aCons (eC (.int 4)) (aCons (eCall q_L_many (aCons (eV 0) (aCons (eC (.int 1)) (aCons (eV 1) aNil)))) (aCons (eV 1) (aCons (eV 2) (aCons (eV 3) aNil))))))) aNil)))))))
def q_L_scene : List D → M D := runF 1 4 d_L_scene
def d_L_tried : Rho → Res := (sSeq (sIf (eB (eOp eqG (eCall q_L_one (aCons (eV 0) (aCons (eV 1) (aCons (eC (.int 3)) aNil)))) (eC (.int 0)))) (sRet (eCall q_L_all (aCons (eV 2) aNil))) sNil) (sRet (eCall q_L_stone (aCons (eV 0) (aCons (eOp addG (eV 1) (eC (.int 1))) (aCons (eV 2) aNil))))))
def q_L_tried : List D → M D := runF 3 3 d_L_tried
def e_law_1 : Rho → M D := (eVE 11)
def c_law_2 : Rho → M Bool := (eB (eOp gtG (eOp idxG (eV 4) (eV 10)) (eC (.int 0))))
def e_law_3 : Rho → M D := (eLf (eOp idxG (eV 9) (eC (.int 0))))
def e_law_4 : Rho → M D := (eOp inG (eV 11) (eV 5))
def b_law_5 : Rho → Res := (sWipe [9] (sIf (eOr (eB (eOp ninG (eOp idxG (eV 9) (eC (.int 0))) (eV 3))) (eAnd (eB (eOp inG (eOp idxG (eV 9) (eC (.int 0))) (eV 5))) (eB (eOp ninG (eOp idxG (eV 9) (eC (.int 0))) (eV 8))))) (sRet (eC (.bl false))) sNil))
def d_law : Rho → Res := (sSeq (sUnp (eCall q_L_scene (aCons (eV 0) aNil)) (tgT 2 (tgCons (tgN 1) (tgCons (tgN 2) tgNil)))) (sSeq (sFr 3 (eCall q_L_tried (aCons (eV 0) (aCons (eC (.int 20)) (aCons (eV 1) aNil))))) (sSeq (sFr 4 (eCall q_L_digits (aCons (eV 0) (aCons (eC (.int 22)) (aCons (eC (.int 5)) (aCons (eBlt lenG (aCons (eV 3) aNil)) aNil)))))) (sSeq (sSh 5 (eComp [10, 11] (eEnum (aCons (eVE 3) aNil)) (tgT 2 (tgCons (tgN 10) (tgCons (tgN 11) tgNil))) c_law_2 e_law_1)) (sSeq (sFr 6 (eCall q_barred (aCons (eV 1) (aCons (eBlt listG (aCons (eV 2) aNil)) (aCons (eBlt listG (aCons (eV 3) aNil)) aNil))))) (sSeq (sFr 7 (eCall q_barred (aCons (eV 1) (aCons (eBlt listG (aCons (eV 2) aNil)) (aCons (eBlt listG (aCons (eV 5) aNil)) aNil))))) (sSeq (sIf (eOr (eNot (eTr (eCall q_L_rows_fit (aCons (eV 6) aNil)))) (eNot (eTr (eCall q_L_rows_fit (aCons (eV 7) aNil))))) (sRet (eC (.bl false))) sNil) (sSeq (sOw 8 (eCall q_L_marks (aCons (eComp [9] (eLL (eVE 7)) (tgN 9) cYes e_law_3) aNil))) (sSeq (sIf (eNot (eTr (eBlt allG (aCons (eCompK 8 [11] (tgN 11) cYes e_law_4) aNil)))) (sRet (eC (.bl false))) sNil) (sSeq (sFor (eLL (eVE 6)) (tgN 9) b_law_5) (sRet (eC (.bl true)))))))))))))
def q_law : List D → M D := runF 1 12 d_law
end Q
set_option Elab.async false
set_option linter.all false
set_option maxRecDepth 100000
set_option maxHeartbeats 4000000
namespace Q
open PySem L2 VL PySem.Spec PyProof.Rows
/-! ### the walk -/
structure Txt (K : PySem.W.Frag) (mg : Str → Option Value) : Prop where
  dummy : True
  m_abs : mg "abs" = none
  m_all : mg "all" = none
  m_bool : mg "bool" = none
  m_enumerate : mg "enumerate" = none
  m_int : mg "int" = none
  m_isinstance : mg "isinstance" = none
  m_len : mg "len" = none
  m_list : mg "list" = none
  m_max : mg "max" = none
  m_min : mg "min" = none
  m_range : mg "range" = none
  m_tuple : mg "tuple" = none
  m_zip : mg "zip" = none
  c_SKY : GS mg "SKY" ("." : Str)
  c_VEIL : GS mg "VEIL" ("?" : Str)
theorem sc_places_of : FnScope ["sizes", "places", "x", "y", "z"] ["sizes"] (defScope s_places_of) := ⟨rfl, rfl, rfl, by decide +kernel, rfl, by decide +kernel, by decide +kernel⟩
theorem ok_places_of {P : Program} {w : World} {K : PySem.W.Frag} {mg : Str → Option Value} {base : Heap} {f : Addr} {fd : FuncData} (T : Txt K mg) (F : Fun K "places_of" "places_of" s_places_of f fd) (hm : mg "places_of" = some (.ref f)) (hb : Binds K fd ["sizes"] [])  : Cal P w K mg base 1 "places_of" q_places_of := by
  refine Cal.mk' (fn_ok (N := ["sizes", "places", "x", "y", "z"]) (F := d_places_of) F sc_places_of fun cdv A outer s H E S0 hr => ?_) F hm hb
  exact (vss_cons (vs_ow (i := 1) sc_places_of.nd (vx_lst (m := .N) (by intro z; cases z) va_nil)) (vss_cons (vs_for (passes_of rfl) rfl (vi_range1 T.m_range (va_cons (VX.toO (vx_ix (hu_of hr) (vx_var 0) (vx_int (m := .N)))) va_nil)) (vg_name sc_places_of.nd) (vss_wipe (ks := [2, 3, 4]) (vss_one (vs_for (passes_of rfl) rfl (vi_range1 T.m_range (va_cons (VX.toO (vx_ix (hu_of hr) (vx_var 0) (vx_int (m := .N)))) va_nil)) (vg_name sc_places_of.nd) (vss_wipe (ks := [3, 4]) (vss_one (vs_for (passes_of rfl) rfl (vi_range1 T.m_range (va_cons (VX.toO (vx_ix (hu_of hr) (vx_var 0) (vx_int (m := .N)))) va_nil)) (vg_name sc_places_of.nd) (vss_wipe (ks := [4]) (vss_one (vs_bm 1 PySem.F.slot_list_append PySem.F.type_list_append mt_append mg_app (va_cons (vx_tup (m := .F) (by intro z; cases z) (va_cons (VX.any (vx_lf (vx_var 2))) (va_cons (VX.any (vx_lf (vx_var 3))) (va_cons (VX.any (vx_lf (vx_var 4))) va_nil)))) va_nil))))))))))) (vss_one (vs_share (i := 1) (vs_retF (vx_varF 1))))))
theorem sc_inside : FnScope ["sizes", "place", "at"] ["sizes", "place"] (defScope s_inside) := ⟨rfl, rfl, rfl, by decide +kernel, rfl, by decide +kernel, by decide +kernel⟩
theorem ok_inside {P : Program} {w : World} {K : PySem.W.Frag} {mg : Str → Option Value} {base : Heap} {f : Addr} {fd : FuncData} (T : Txt K mg) (F : Fun K "inside" "inside" s_inside f fd) (hm : mg "inside" = some (.ref f)) (hb : Binds K fd ["sizes", "place"] [])  : Cal P w K mg base 1 "inside" q_inside := by
  refine Cal.mk' (fn_ok (N := ["sizes", "place", "at"]) (F := d_inside) F sc_inside fun cdv A outer s H E S0 hr => ?_) F hm hb
  exact (vss_cons (vs_for (passes_of rfl) rfl (vi_range1 T.m_range (va_cons vx_int va_nil)) (vg_name sc_inside.nd) (vss_wipe (ks := [2]) (vss_one (vs_if (VW.t (vw_or (vt_cmp (op_ltA (hu_of hr)) og_lt (vx_ix (hu_of hr) (vx_var 1) (vx_var 2)) (vx_int (m := .N))) (vw_or1 (vt_cmp op_ge og_ge (vx_ix (hu_of hr) (vx_var 1) (vx_var 2)) (vx_ix (hu_of hr) (vx_var 0) (vx_var 2)))))) (vss_one (vs_retF vx_bl)) vss_nil)))) (vss_one (vs_retF vx_bl)))
theorem sc_stepped : FnScope ["place", "way", "many"] ["place", "way", "many"] (defScope s_stepped) := ⟨rfl, rfl, rfl, by decide +kernel, rfl, by decide +kernel, by decide +kernel⟩
theorem ok_stepped {P : Program} {w : World} {K : PySem.W.Frag} {mg : Str → Option Value} {base : Heap} {f : Addr} {fd : FuncData} (T : Txt K mg) (F : Fun K "stepped" "stepped" s_stepped f fd) (hm : mg "stepped" = some (.ref f)) (hb : Binds K fd ["place", "way", "many"] [])  : Cal P w K mg base 1 "stepped" q_stepped := by
  refine Cal.mk' (fn_ok (N := ["place", "way", "many"]) (F := d_stepped) F sc_stepped fun cdv A outer s H E S0 hr => ?_) F hm hb
  exact (vss_one (vs_retF (vx_tup (m := .F) (by intro z; cases z) (va_cons (vx_add (vx_ix (hu_of hr) (vx_var 0) (vx_int (m := .N))) (vx_mul (m := .N) (vx_var 2) (vx_ix (hu_of hr) (vx_var 1) (vx_int (m := .N))))) (va_cons (vx_add (vx_ix (hu_of hr) (vx_var 0) (vx_int (m := .N))) (vx_mul (m := .N) (vx_var 2) (vx_ix (hu_of hr) (vx_var 1) (vx_int (m := .N))))) (va_cons (vx_add (vx_ix (hu_of hr) (vx_var 0) (vx_int (m := .N))) (vx_mul (m := .N) (vx_var 2) (vx_ix (hu_of hr) (vx_var 1) (vx_int (m := .N))))) va_nil))))))
theorem sc_door_of : FnScope ["sizes", "way", "place", "near", "before"] ["sizes", "way", "place"] (defScope s_door_of) := ⟨rfl, rfl, rfl, by decide +kernel, rfl, by decide +kernel, by decide +kernel⟩
theorem ok_door_of {P : Program} {w : World} {K : PySem.W.Frag} {mg : Str → Option Value} {base : Heap} {f : Addr} {fd : FuncData} (T : Txt K mg) (F : Fun K "door_of" "door_of" s_door_of f fd) (hm : mg "door_of" = some (.ref f)) (hb : Binds K fd ["sizes", "way", "place"] []) (c_inside : Cal P w K mg base 1 "inside" q_inside) (c_stepped : Cal P w K mg base 1 "stepped" q_stepped) : Cal P w K mg base 2 "door_of" q_door_of := by
  refine Cal.mk' (fn_ok (N := ["sizes", "way", "place", "near", "before"]) (F := d_door_of) F sc_door_of fun cdv A outer s H E S0 hr => ?_) F hm hb
  exact (vss_cons (vs_sh (i := 3) sc_door_of.nd (vx_tup (m := .E) (by intro z; cases z) (va_cons (vx_ix (hu_of hr) (vx_var 2) (vx_int (m := .N))) (va_cons (vx_ix (hu_of hr) (vx_var 2) (vx_int (m := .N))) (va_cons (vx_ix (hu_of hr) (vx_var 2) (vx_int (m := .N))) va_nil))))) (vss_cons (vs_fr (i := 4) sc_door_of.nd (VX.any (vx_call c_stepped (takes_of rfl rfl rfl rfl) hr (by decide) (va_cons (vx_var 3) (va_cons (vx_var 1) (va_cons (vx_neg (vx_int (m := .N))) va_nil)))))) (vss_cons (vs_while 1000 (passes_of rfl) (vt_tru (vx_call c_inside (takes_of rfl rfl rfl rfl) hr (by decide) (va_cons (vx_var 0) (va_cons (vx_var 4) va_nil)))) (vss_cons (vs_sh (i := 3) sc_door_of.nd (vx_varE 4)) (vss_one (vs_fr (i := 4) sc_door_of.nd (VX.any (vx_call c_stepped (takes_of rfl rfl rfl rfl) hr (by decide) (va_cons (vx_var 3) (va_cons (vx_var 1) (va_cons (vx_neg (vx_int (m := .N))) va_nil))))))))) (vss_one (vs_retF (VX.any (vx_lf (vx_var 3))))))))
theorem sc_doors_of : FnScope ["sizes", "way", "place"] ["sizes", "way"] (defScope s_doors_of) := ⟨rfl, rfl, rfl, by decide +kernel, rfl, by decide +kernel, by decide +kernel⟩
theorem ok_doors_of {P : Program} {w : World} {K : PySem.W.Frag} {mg : Str → Option Value} {base : Heap} {f : Addr} {fd : FuncData} (T : Txt K mg) (F : Fun K "doors_of" "doors_of" s_doors_of f fd) (hm : mg "doors_of" = some (.ref f)) (hb : Binds K fd ["sizes", "way"] []) (c_inside : Cal P w K mg base 1 "inside" q_inside) (c_places_of : Cal P w K mg base 1 "places_of" q_places_of) (c_stepped : Cal P w K mg base 1 "stepped" q_stepped) : Cal P w K mg base 2 "doors_of" q_doors_of := by
  refine Cal.mk' (fn_ok (N := ["sizes", "way", "place"]) (F := d_doors_of) F sc_doors_of fun cdv A outer s H E S0 hr => ?_) F hm hb
  exact (vss_one (vs_retF (vx_lc (own := [("place", 2)]) (m := .F) (by intro z; cases z) rfl sc_doors_of.nd (vi_list (VX.any (vx_call c_places_of (takes_of rfl rfl rfl rfl) hr (by decide) (va_cons (vx_var 0) va_nil)))) (blkOk_by (own := [("place", 2)]) (N := ["sizes", "way", "place"]) (sc := defScope s_doors_of) (by decide +kernel)) (fun _ => (vg_name sc_doors_of.nd)) (fun _ => (vts_one (vt_not (vt_tru (vx_call c_inside takes0 hr (by decide) (va_cons (vx_var 0) (va_cons (VX.toO (vx_call c_stepped takes0 hr (by decide) (va_cons (vx_var 2) (va_cons (vx_var 1) (va_cons (vx_neg (vx_int (m := .N))) va_nil))))) va_nil))))))) (fun _ => (VX.any (vx_lf (vx_var 2)))))))
theorem sc_marks_of : FnScope ["stone", "marks", "place"] ["stone"] (defScope s_marks_of) := ⟨rfl, rfl, rfl, by decide +kernel, rfl, by decide +kernel, by decide +kernel⟩
theorem ok_marks_of {P : Program} {w : World} {K : PySem.W.Frag} {mg : Str → Option Value} {base : Heap} {f : Addr} {fd : FuncData} (T : Txt K mg) (F : Fun K "marks_of" "marks_of" s_marks_of f fd) (hm : mg "marks_of" = some (.ref f)) (hb : Binds K fd ["stone"] [])  : Cal P w K mg base 1 "marks_of" q_marks_of := by
  refine Cal.mk' (fn_ok (N := ["stone", "marks", "place"]) (F := d_marks_of) F sc_marks_of fun cdv A outer s H E S0 hr => ?_) F hm hb
  exact (vss_cons (vs_ow (i := 1) sc_marks_of.nd vx_dnewT) (vss_cons (vs_for (passes_of rfl) rfl (vi_list (vx_varE 0)) (vg_name sc_marks_of.nd) (vss_wipe (ks := [2]) (vss_one (vs_put 1 (hu_of hr) (vx_var 2) vx_bl)))) (vss_one (vs_share (i := 1) (vs_retF (vx_varF 1))))))
theorem sc_seen_from : FnScope ["sizes", "way", "stone", "marks", "seen", "place", "near"] ["sizes", "way", "stone"] (defScope s_seen_from) := ⟨rfl, rfl, rfl, by decide +kernel, rfl, by decide +kernel, by decide +kernel⟩
theorem ok_seen_from {P : Program} {w : World} {K : PySem.W.Frag} {mg : Str → Option Value} {base : Heap} {f : Addr} {fd : FuncData} (T : Txt K mg) (F : Fun K "seen_from" "seen_from" s_seen_from f fd) (hm : mg "seen_from" = some (.ref f)) (hb : Binds K fd ["sizes", "way", "stone"] []) (c_inside : Cal P w K mg base 1 "inside" q_inside) (c_marks_of : Cal P w K mg base 1 "marks_of" q_marks_of) (c_stepped : Cal P w K mg base 1 "stepped" q_stepped) : Cal P w K mg base 2 "seen_from" q_seen_from := by
  refine Cal.mk' (fn_ok (N := ["sizes", "way", "stone", "marks", "seen", "place", "near"]) (F := d_seen_from) F sc_seen_from fun cdv A outer s H E S0 hr => ?_) F hm hb
  exact (vss_cons (vs_fr (i := 3) sc_seen_from.nd (VX.any (vx_call c_marks_of (takes_of rfl rfl rfl rfl) hr (by decide) (va_cons (vx_var 2) va_nil)))) (vss_cons (vs_ow (i := 4) sc_seen_from.nd (vx_lst (m := .N) (by intro z; cases z) va_nil)) (vss_cons (vs_for (passes_of rfl) rfl (vi_list (vx_varE 2)) (vg_name sc_seen_from.nd) (vss_wipe (ks := [5, 6]) (vss_cons (vs_fr (i := 6) sc_seen_from.nd (VX.any (vx_call c_stepped (takes_of rfl rfl rfl rfl) hr (by decide) (va_cons (vx_var 5) (va_cons (vx_var 1) (va_cons (vx_neg (vx_int (m := .N))) va_nil)))))) (vss_cons (vs_while 1000 (passes_of rfl) (VW.t (vw_and (vt_tru (vx_call c_inside (takes_of rfl rfl rfl rfl) hr (by decide) (va_cons (vx_var 0) (va_cons (vx_var 6) va_nil)))) (vw_and1 (vt_cmp (op_ninA (hu65 hr)) og_nin (vx_var 6) (vx_var 3))))) (vss_one (vs_fr (i := 6) sc_seen_from.nd (VX.any (vx_call c_stepped (takes_of rfl rfl rfl rfl) hr (by decide) (va_cons (vx_var 6) (va_cons (vx_var 1) (va_cons (vx_neg (vx_int (m := .N))) va_nil)))))))) (vss_one (vs_if (vt_not (vt_tru (vx_call c_inside (takes_of rfl rfl rfl rfl) hr (by decide) (va_cons (vx_var 0) (va_cons (vx_var 6) va_nil))))) (vss_one (vs_bm 4 PySem.F.slot_list_append PySem.F.type_list_append mt_append mg_app (va_cons (VX.any (vx_lf (vx_var 5))) va_nil))) vss_nil)))))) (vss_one (vs_share (i := 4) (vs_retF (vx_varF 4)))))))
theorem sc_signs_by_door : FnScope ["sizes", "way", "picture", "signs", "door", "sign"] ["sizes", "way", "picture"] (defScope s_signs_by_door) := ⟨rfl, rfl, rfl, by decide +kernel, rfl, by decide +kernel, by decide +kernel⟩
theorem ok_signs_by_door {P : Program} {w : World} {K : PySem.W.Frag} {mg : Str → Option Value} {base : Heap} {f : Addr} {fd : FuncData} (T : Txt K mg) (F : Fun K "signs_by_door" "signs_by_door" s_signs_by_door f fd) (hm : mg "signs_by_door" = some (.ref f)) (hb : Binds K fd ["sizes", "way", "picture"] []) (c_doors_of : Cal P w K mg base 2 "doors_of" q_doors_of) : Cal P w K mg base 3 "signs_by_door" q_signs_by_door := by
  refine Cal.mk' (fn_ok (N := ["sizes", "way", "picture", "signs", "door", "sign"]) (F := d_signs_by_door) F sc_signs_by_door fun cdv A outer s H E S0 hr => ?_) F hm hb
  exact (vss_cons (vs_ow (i := 3) sc_signs_by_door.nd vx_dnewT) (vss_cons (vs_for (passes_of rfl) rfl (vi_zipLS T.m_zip (va_cons (VX.any (vx_call c_doors_of (takes_of rfl rfl rfl rfl) hr (by decide) (va_cons (vx_var 0) (va_cons (vx_var 1) va_nil)))) (va_cons (vx_varE 2) va_nil))) (vg_tup rfl (vgs_cons (vg_name sc_signs_by_door.nd) (vgs_cons (vg_name sc_signs_by_door.nd) vgs_nil))) (vss_wipe (ks := [4, 5]) (vss_one (vs_put 3 (hu_of hr) (vx_var 4) (VX.any (vx_lf (vx_var 5))))))) (vss_one (vs_share (i := 3) (vs_retF (vx_varF 3))))))
theorem sc_view_of : FnScope ["sizes", "look", "stone", "way", "picture", "signs", "view", "place"] ["sizes", "look", "stone"] (defScope s_view_of) := ⟨rfl, rfl, rfl, by decide +kernel, rfl, by decide +kernel, by decide +kernel⟩
theorem ok_view_of {P : Program} {w : World} {K : PySem.W.Frag} {mg : Str → Option Value} {base : Heap} {f : Addr} {fd : FuncData} (T : Txt K mg) (F : Fun K "view_of" "view_of" s_view_of f fd) (hm : mg "view_of" = some (.ref f)) (hb : Binds K fd ["sizes", "look", "stone"] []) (c_door_of : Cal P w K mg base 2 "door_of" q_door_of) (c_seen_from : Cal P w K mg base 2 "seen_from" q_seen_from) (c_signs_by_door : Cal P w K mg base 3 "signs_by_door" q_signs_by_door) : Cal P w K mg base 4 "view_of" q_view_of := by
  refine Cal.mk' (fn_ok (N := ["sizes", "look", "stone", "way", "picture", "signs", "view", "place"]) (F := d_view_of) F sc_view_of fun cdv A outer s H E S0 hr => ?_) F hm hb
  exact (vss_cons (vs_unp (vx_varE 1) (vg_tup rfl (vgs_cons (vg_name sc_view_of.nd) (vgs_cons (vg_name sc_view_of.nd) vgs_nil)))) (vss_cons (vs_fr (i := 5) sc_view_of.nd (VX.any (vx_call c_signs_by_door (takes_of rfl rfl rfl rfl) hr (by decide) (va_cons (vx_var 0) (va_cons (vx_var 3) (va_cons (vx_var 4) va_nil)))))) (vss_cons (vs_ow (i := 6) sc_view_of.nd vx_dnewT) (vss_cons (vs_for (passes_of rfl) rfl (vi_list (VX.any (vx_call c_seen_from (takes_of rfl rfl rfl rfl) hr (by decide) (va_cons (vx_var 0) (va_cons (vx_var 3) (va_cons (vx_var 2) va_nil)))))) (vg_name sc_view_of.nd) (vss_wipe (ks := [7]) (vss_one (vs_put 6 (hu_of hr) (vx_var 7) (VX.any (vx_lf (vx_ix (hu_of hr) (vx_var 5) (vx_call c_door_of (takes_of rfl rfl rfl rfl) hr (by decide) (va_cons (vx_var 0) (va_cons (vx_var 3) (va_cons (vx_var 7) va_nil))))))))))) (vss_one (vs_share (i := 6) (vs_retF (vx_varF 6))))))))
theorem sc_views_of : FnScope ["sizes", "looks", "stone", "look"] ["sizes", "looks", "stone"] (defScope s_views_of) := ⟨rfl, rfl, rfl, by decide +kernel, rfl, by decide +kernel, by decide +kernel⟩
theorem ok_views_of {P : Program} {w : World} {K : PySem.W.Frag} {mg : Str → Option Value} {base : Heap} {f : Addr} {fd : FuncData} (T : Txt K mg) (F : Fun K "views_of" "views_of" s_views_of f fd) (hm : mg "views_of" = some (.ref f)) (hb : Binds K fd ["sizes", "looks", "stone"] []) (c_view_of : Cal P w K mg base 4 "view_of" q_view_of) : Cal P w K mg base 5 "views_of" q_views_of := by
  refine Cal.mk' (fn_ok (N := ["sizes", "looks", "stone", "look"]) (F := d_views_of) F sc_views_of fun cdv A outer s H E S0 hr => ?_) F hm hb
  exact (vss_one (vs_retF (vx_lc (own := [("look", 3)]) (m := .F) (by intro z; cases z) rfl sc_views_of.nd (vi_list (vx_varE 1)) (blkOk_by (own := [("look", 3)]) (N := ["sizes", "looks", "stone", "look"]) (sc := defScope s_views_of) (by decide +kernel)) (fun _ => (vg_name sc_views_of.nd)) (fun _ => vts_nil) (fun _ => (VX.any (vx_call c_view_of takes0 hr (by decide) (va_cons (vx_var 0) (va_cons (vx_var 3) (va_cons (vx_var 2) va_nil)))))))))
theorem sc_bar_in : FnScope ["views", "place", "told", "number", "view"] ["views", "place"] (defScope s_bar_in) := ⟨rfl, rfl, rfl, by decide +kernel, rfl, by decide +kernel, by decide +kernel⟩
theorem ok_bar_in {P : Program} {w : World} {K : PySem.W.Frag} {mg : Str → Option Value} {base : Heap} {f : Addr} {fd : FuncData} (T : Txt K mg) (F : Fun K "bar_in" "bar_in" s_bar_in f fd) (hm : mg "bar_in" = some (.ref f)) (hb : Binds K fd ["views", "place"] [])  : Cal P w K mg base 1 "bar_in" q_bar_in := by
  refine Cal.mk' (fn_ok (N := ["views", "place", "told", "number", "view"]) (F := d_bar_in) F sc_bar_in fun cdv A outer s H E S0 hr => ?_) F hm hb
  exact (vss_cons (vs_ow (i := 2) sc_bar_in.nd (vx_lst (m := .N) (by intro z; cases z) va_nil)) (vss_cons (vs_for (passes_of rfl) rfl (vi_enum T.m_enumerate (va_cons (vx_varE 0) va_nil)) (vg_tup rfl (vgs_cons (vg_name sc_bar_in.nd) (vgs_cons (vg_name sc_bar_in.nd) vgs_nil))) (vss_wipe (ks := [3, 4]) (vss_one (vs_if (vt_cmp (op_inA (hu65 hr)) og_in (vx_var 1) (vx_var 4)) (vss_cons (vs_if (vt_cmp (op_eqA hr.units) og_eq (vx_ix (hu_of hr) (vx_var 4) (vx_var 1)) (vx_gs (m := .N) T.c_SKY)) (vss_one (vs_retF (vx_tup (m := .F) (by intro z; cases z) (va_cons (VX.any (vx_lf (vx_var 3))) (va_cons (VX.any (vx_lf (vx_var 3))) va_nil))))) vss_nil) (vss_one (vs_if (vt_cmp (op_neA hr.units) og_ne (vx_ix (hu_of hr) (vx_var 4) (vx_var 1)) (vx_gs (m := .N) T.c_VEIL)) (vss_one (vs_bm 2 PySem.F.slot_list_append PySem.F.type_list_append mt_append mg_app (va_cons (VX.any (vx_lf (vx_var 3))) va_nil))) vss_nil))) vss_nil)))) (vss_cons (vs_share (i := 2) (vs_for (passes_of rfl) rfl (vi_list (vx_varE 2)) (vg_name sc_bar_in.nd) (vss_wipe (ks := [3]) (vss_one (vs_if (vt_cmp (op_neA hr.units) og_ne (vx_ix (hu_of hr) (vx_ix (hu_of hr) (vx_var 0) (vx_var 3)) (vx_var 1)) (vx_ix (hu_of hr) (vx_ix (hu_of hr) (vx_var 0) (vx_ix (hu_of hr) (vx_var 2) (vx_int (m := .N)))) (vx_var 1))) (vss_one (vs_retF (vx_tup (m := .F) (by intro z; cases z) (va_cons (VX.any (vx_lf (vx_ix (hu_of hr) (vx_var 2) (vx_int (m := .N))))) (va_cons (VX.any (vx_lf (vx_var 3))) va_nil))))) vss_nil))))) (vss_one (vs_retF vx_non)))))
theorem sc_barred : FnScope ["sizes", "looks", "stone", "views", "rows", "place", "bar"] ["sizes", "looks", "stone"] (defScope s_barred) := ⟨rfl, rfl, rfl, by decide +kernel, rfl, by decide +kernel, by decide +kernel⟩
theorem ok_barred {P : Program} {w : World} {K : PySem.W.Frag} {mg : Str → Option Value} {base : Heap} {f : Addr} {fd : FuncData} (T : Txt K mg) (F : Fun K "barred" "barred" s_barred f fd) (hm : mg "barred" = some (.ref f)) (hb : Binds K fd ["sizes", "looks", "stone"] []) (c_bar_in : Cal P w K mg base 1 "bar_in" q_bar_in) (c_views_of : Cal P w K mg base 5 "views_of" q_views_of) : Cal P w K mg base 6 "barred" q_barred := by
  refine Cal.mk' (fn_ok (N := ["sizes", "looks", "stone", "views", "rows", "place", "bar"]) (F := d_barred) F sc_barred fun cdv A outer s H E S0 hr => ?_) F hm hb
  exact (vss_cons (vs_fr (i := 3) sc_barred.nd (VX.any (vx_call c_views_of (takes_of rfl rfl rfl rfl) hr (by decide) (va_cons (vx_var 0) (va_cons (vx_var 1) (va_cons (vx_var 2) va_nil)))))) (vss_cons (vs_ow (i := 4) sc_barred.nd (vx_lst (m := .N) (by intro z; cases z) va_nil)) (vss_cons (vs_for (passes_of rfl) rfl (vi_list (vx_varE 2)) (vg_name sc_barred.nd) (vss_wipe (ks := [5, 6]) (vss_cons (vs_fr (i := 6) sc_barred.nd (VX.any (vx_call c_bar_in (takes_of rfl rfl rfl rfl) hr (by decide) (va_cons (vx_var 3) (va_cons (vx_var 5) va_nil))))) (vss_one (vs_if (vt_cmp op_notN og_notN (vx_var 6) (vx_non (m := .N))) (vss_one (vs_bm 4 PySem.F.slot_list_append PySem.F.type_list_append mt_append mg_app (va_cons (vx_tup (m := .F) (by intro z; cases z) (va_cons (VX.any (vx_lf (vx_var 5))) (va_cons (VX.any (vx_lf (vx_ix (hu_of hr) (vx_var 6) (vx_int (m := .N))))) (va_cons (VX.any (vx_lf (vx_ix (hu_of hr) (vx_var 6) (vx_int (m := .N))))) va_nil)))) va_nil))) vss_nil))))) (vss_one (vs_share (i := 4) (vs_retF (vx_varF 4)))))))
theorem sc_L_digits : FnScope ["_law_script", "_law_k", "_law_base", "_law_many_here", "_law_cell", "_law_number", "_law_row", "_law_turn"] ["_law_script", "_law_k", "_law_base", "_law_many_here"] (defScope s_L_digits) := ⟨rfl, rfl, rfl, by decide +kernel, rfl, by decide +kernel, by decide +kernel⟩
theorem ok_L_digits {P : Program} {w : World} {K : PySem.W.Frag} {mg : Str → Option Value} {base : Heap} {f : Addr} {fd : FuncData} (T : Txt K mg) (F : Fun K "_law_digits" "_law_digits" s_L_digits f fd) (hm : mg "_law_digits" = some (.ref f)) (hb : Binds K fd ["_law_script", "_law_k", "_law_base", "_law_many_here"] [])  : Cal P w K mg base 1 "_law_digits" q_L_digits := by
  refine Cal.mk' (fn_ok (N := ["_law_script", "_law_k", "_law_base", "_law_many_here", "_law_cell", "_law_number", "_law_row", "_law_turn"]) (F := d_L_digits) F sc_L_digits fun cdv A outer s H E S0 hr => ?_) F hm hb
  exact (vss_cons (vs_sh (i := 4) sc_L_digits.nd vx_int) (vss_cons (vs_if (vt_cmp (op_ltA (hu_of hr)) og_lt (vx_var 1) (vx_callB (m := .N) call_len cg_len T.m_len (by decide +kernel) (va_cons (vx_var 0) va_nil))) (vss_one (vs_sh (i := 4) sc_L_digits.nd (vx_ix (hu_of hr) (vx_var 0) (vx_var 1)))) vss_nil) (vss_cons (vs_fr (i := 5) sc_L_digits.nd (vx_callB call_abs cg_abs T.m_abs (by decide +kernel) (va_cons (vx_var 4) va_nil))) (vss_cons (vs_ow (i := 6) sc_L_digits.nd (vx_lst (m := .N) (by intro z; cases z) va_nil)) (vss_cons (vs_if (vt_cmp op_ge og_ge (vx_var 5) (vx_pow (m := .N) (vx_int (m := .N)) (vx_int (m := .N)))) (vss_cons (vs_for (passes_of rfl) rfl (vi_range1 T.m_range (va_cons (vx_var 3) va_nil)) (vg_name sc_L_digits.nd) (vss_wipe (ks := [7]) (vss_cons (vs_bm 6 PySem.F.slot_list_append PySem.F.type_list_append mt_append mg_app (va_cons (vx_mod (vx_var 5) (vx_var 2)) va_nil)) (vss_one (vs_fr (i := 5) sc_L_digits.nd (vx_fdivN (vx_var 5) (vx_var 2))))))) (vss_one (vs_share (i := 6) (vs_retF (vx_varF 6))))) vss_nil) (vss_cons (vs_fr (i := 5) sc_L_digits.nd (vx_mod (vx_add (m := .N) (vx_add (m := .N) (vx_mul (m := .N) (vx_var 4) (vx_int (m := .N))) (vx_mul (m := .N) (vx_var 1) (vx_int (m := .N)))) (vx_int (m := .N))) (vx_int (m := .N)))) (vss_cons (vs_fr (i := 5) sc_L_digits.nd (vx_add (vx_var 5) (vx_mod (m := .N) (vx_mul (m := .N) (vx_var 5) (vx_var 5)) (vx_int (m := .N))))) (vss_cons (vs_for (passes_of rfl) rfl (vi_range1 T.m_range (va_cons (vx_var 3) va_nil)) (vg_name sc_L_digits.nd) (vss_wipe (ks := [7]) (vss_cons (vs_fr (i := 5) sc_L_digits.nd (vx_mod (vx_add (m := .N) (vx_mul (m := .N) (vx_var 5) (vx_int (m := .N))) (vx_int (m := .N))) (vx_int (m := .N)))) (vss_one (vs_bm 6 PySem.F.slot_list_append PySem.F.type_list_append mt_append mg_app (va_cons (vx_mod (vx_fdiv (m := .N) (vx_var 5) (vx_int (m := .N))) (vx_var 2)) va_nil)))))) (vss_one (vs_share (i := 6) (vs_retF (vx_varF 6))))))))))))
theorem sc_L_one : FnScope ["_law_script", "_law_k", "_law_base"] ["_law_script", "_law_k", "_law_base"] (defScope s_L_one) := ⟨rfl, rfl, rfl, by decide +kernel, rfl, by decide +kernel, by decide +kernel⟩
theorem ok_L_one {P : Program} {w : World} {K : PySem.W.Frag} {mg : Str → Option Value} {base : Heap} {f : Addr} {fd : FuncData} (T : Txt K mg) (F : Fun K "_law_one" "_law_one" s_L_one f fd) (hm : mg "_law_one" = some (.ref f)) (hb : Binds K fd ["_law_script", "_law_k", "_law_base"] []) (c_L_digits : Cal P w K mg base 1 "_law_digits" q_L_digits) : Cal P w K mg base 2 "_law_one" q_L_one := by
  refine Cal.mk' (fn_ok (N := ["_law_script", "_law_k", "_law_base"]) (F := d_L_one) F sc_L_one fun cdv A outer s H E S0 hr => ?_) F hm hb
  exact (vss_one (vs_retF (VX.any (vx_lf (vx_ix (hu_of hr) (vx_call c_L_digits (takes_of rfl rfl rfl rfl) hr (by decide) (va_cons (vx_var 0) (va_cons (vx_var 1) (va_cons (vx_var 2) (va_cons vx_int va_nil))))) (vx_int (m := .N)))))))
theorem sc_L_sizes : FnScope ["_law_script", "_law_k", "_law_row", "_law_sizes_here", "_law_turn"] ["_law_script", "_law_k"] (defScope s_L_sizes) := ⟨rfl, rfl, rfl, by decide +kernel, rfl, by decide +kernel, by decide +kernel⟩
theorem ok_L_sizes {P : Program} {w : World} {K : PySem.W.Frag} {mg : Str → Option Value} {base : Heap} {f : Addr} {fd : FuncData} (T : Txt K mg) (F : Fun K "_law_sizes" "_law_sizes" s_L_sizes f fd) (hm : mg "_law_sizes" = some (.ref f)) (hb : Binds K fd ["_law_script", "_law_k"] []) (c_L_digits : Cal P w K mg base 1 "_law_digits" q_L_digits) : Cal P w K mg base 2 "_law_sizes" q_L_sizes := by
  refine Cal.mk' (fn_ok (N := ["_law_script", "_law_k", "_law_row", "_law_sizes_here", "_law_turn"]) (F := d_L_sizes) F sc_L_sizes fun cdv A outer s H E S0 hr => ?_) F hm hb
  exact (vss_cons (vs_fr (i := 2) sc_L_sizes.nd (VX.any (vx_call c_L_digits (takes_of rfl rfl rfl rfl) hr (by decide) (va_cons (vx_var 0) (va_cons (vx_var 1) (va_cons vx_int (va_cons vx_int va_nil))))))) (vss_cons (vs_fr (i := 3) sc_L_sizes.nd (vx_lst (m := .F) (by intro z; cases z) (va_cons (vx_add (vx_int (m := .N)) (vx_mod (m := .N) (vx_ix (hu_of hr) (vx_var 2) (vx_int (m := .N))) (vx_int (m := .N)))) (va_cons (vx_add (vx_int (m := .N)) (vx_mod (m := .N) (vx_ix (hu_of hr) (vx_var 2) (vx_int (m := .N))) (vx_int (m := .N)))) (va_cons (vx_add (vx_int (m := .N)) (vx_mod (m := .N) (vx_ix (hu_of hr) (vx_var 2) (vx_int (m := .N))) (vx_int (m := .N)))) va_nil))))) (vss_cons (vs_if (vt_cmp (op_eqA hr.units) og_eq (vx_mod (m := .N) (vx_fdiv (m := .N) (vx_ix (hu_of hr) (vx_var 2) (vx_int (m := .N))) (vx_int (m := .N))) (vx_int (m := .N))) (vx_int (m := .N))) (vss_one (vs_fr (i := 3) sc_L_sizes.nd (vx_lst (m := .F) (by intro z; cases z) (va_cons (vx_add (vx_int (m := .N)) (vx_mod (m := .N) (vx_ix (hu_of hr) (vx_var 2) (vx_int (m := .N))) (vx_int (m := .N)))) (va_cons (vx_add (vx_int (m := .N)) (vx_mod (m := .N) (vx_ix (hu_of hr) (vx_var 2) (vx_int (m := .N))) (vx_int (m := .N)))) (va_cons (vx_add (vx_int (m := .N)) (vx_mod (m := .N) (vx_ix (hu_of hr) (vx_var 2) (vx_int (m := .N))) (vx_int (m := .N)))) va_nil)))))) vss_nil) (vss_cons (vs_if (vt_cmp (op_eqA hr.units) og_eq (vx_mod (m := .N) (vx_fdiv (m := .N) (vx_ix (hu_of hr) (vx_var 2) (vx_int (m := .N))) (vx_int (m := .N))) (vx_int (m := .N))) (vx_int (m := .N))) (vss_one (vs_fr (i := 3) sc_L_sizes.nd (vx_lst (m := .F) (by intro z; cases z) (va_cons (vx_add (vx_int (m := .N)) (vx_mod (m := .N) (vx_ix (hu_of hr) (vx_var 2) (vx_int (m := .N))) (vx_int (m := .N)))) (va_cons (vx_add (vx_int (m := .N)) (vx_mod (m := .N) (vx_ix (hu_of hr) (vx_var 2) (vx_int (m := .N))) (vx_int (m := .N)))) (va_cons vx_int va_nil)))))) vss_nil) (vss_cons (vs_fr (i := 4) sc_L_sizes.nd (vx_mod (vx_ix (hu_of hr) (vx_var 2) (vx_int (m := .N))) (vx_int (m := .N)))) (vss_one (vs_retF (vx_tup (m := .F) (by intro z; cases z) (va_cons (VX.any (vx_lf (vx_ix (hu_of hr) (vx_var 3) (vx_var 4)))) (va_cons (VX.any (vx_lf (vx_ix (hu_of hr) (vx_var 3) (vx_mod (m := .N) (vx_add (m := .N) (vx_var 4) (vx_int (m := .N))) (vx_int (m := .N)))))) (va_cons (VX.any (vx_lf (vx_ix (hu_of hr) (vx_var 3) (vx_mod (m := .N) (vx_add (m := .N) (vx_var 4) (vx_int (m := .N))) (vx_int (m := .N)))))) va_nil)))))))))))
theorem sc_L_measure : FnScope ["_law_one_here", "_law_other", "_law_rest"] ["_law_one_here", "_law_other"] (defScope s_L_measure) := ⟨rfl, rfl, rfl, by decide +kernel, rfl, by decide +kernel, by decide +kernel⟩
theorem ok_L_measure {P : Program} {w : World} {K : PySem.W.Frag} {mg : Str → Option Value} {base : Heap} {f : Addr} {fd : FuncData} (T : Txt K mg) (F : Fun K "_law_measure" "_law_measure" s_L_measure f fd) (hm : mg "_law_measure" = some (.ref f)) (hb : Binds K fd ["_law_one_here", "_law_other"] [])  : Cal P w K mg base 1 "_law_measure" q_L_measure := by
  refine Cal.mk' (fn_ok (N := ["_law_one_here", "_law_other", "_law_rest"]) (F := d_L_measure) F sc_L_measure fun cdv A outer s H E S0 hr => ?_) F hm hb
  exact (vss_cons (vs_sh (i := 0) sc_L_measure.nd (vx_callB call_abs cg_abs T.m_abs (by decide +kernel) (va_cons (vx_var 0) va_nil))) (vss_cons (vs_sh (i := 1) sc_L_measure.nd (vx_callB call_abs cg_abs T.m_abs (by decide +kernel) (va_cons (vx_var 1) va_nil))) (vss_cons (vs_while 1000 (passes_of rfl) (vt_cmp op_gt og_gt (vx_var 1) (vx_int (m := .N))) (vss_wipe (ks := [2]) (vss_cons (vs_fr (i := 2) sc_L_measure.nd (vx_mod (vx_var 0) (vx_var 1))) (vss_cons (vs_sh (i := 0) sc_L_measure.nd (vx_varE 1)) (vss_one (vs_sh (i := 1) sc_L_measure.nd (vx_varE 2))))))) (vss_one (vs_retF (VX.any (vx_lf (vx_var 0))))))))
theorem sc_L_way : FnScope ["_law_script", "_law_k", "_law_row", "_law_measure_here", "_law_part"] ["_law_script", "_law_k"] (defScope s_L_way) := ⟨rfl, rfl, rfl, by decide +kernel, rfl, by decide +kernel, by decide +kernel⟩
theorem ok_L_way {P : Program} {w : World} {K : PySem.W.Frag} {mg : Str → Option Value} {base : Heap} {f : Addr} {fd : FuncData} (T : Txt K mg) (F : Fun K "_law_way" "_law_way" s_L_way f fd) (hm : mg "_law_way" = some (.ref f)) (hb : Binds K fd ["_law_script", "_law_k"] []) (c_L_digits : Cal P w K mg base 1 "_law_digits" q_L_digits) (c_L_measure : Cal P w K mg base 1 "_law_measure" q_L_measure) (c_L_one : Cal P w K mg base 2 "_law_one" q_L_one) : Cal P w K mg base 3 "_law_way" q_L_way := by
  refine Cal.mk' (fn_ok (N := ["_law_script", "_law_k", "_law_row", "_law_measure_here", "_law_part"]) (F := d_L_way) F sc_L_way fun cdv A outer s H E S0 hr => ?_) F hm hb
  exact (vss_cons (vs_lcFr (i := 2) (own := [("_law_part", 4)]) rfl sc_L_way.nd (sw_true rfl rfl rfl (by decide +kernel)) (vi_list (VX.any (vx_call c_L_digits (takes_of rfl rfl rfl rfl) hr (by decide) (va_cons (vx_var 0) (va_cons (vx_var 1) (va_cons vx_int (va_cons vx_int va_nil))))))) (blkOk_by (own := [("_law_part", 4)]) (N := ["_law_script", "_law_k", "_law_row", "_law_measure_here", "_law_part"]) (sc := defScope s_L_way) (by decide +kernel)) (fun _ => (vg_name sc_L_way.nd)) (fun _ => vts_nil) (fun _ => (vx_sub (vx_var 4) (vx_int (m := .N))))) (vss_cons (vs_if (vt_cmp (op_eqA hr.units) og_eq (vx_mod (m := .N) (vx_call c_L_one (takes_of rfl rfl rfl rfl) hr (by decide) (va_cons (vx_var 0) (va_cons (vx_var 1) (va_cons vx_int va_nil)))) (vx_int (m := .N))) (vx_int (m := .N))) (vss_one (vs_lcFr (i := 2) (own := [("_law_part", 4)]) rfl sc_L_way.nd (sw_true rfl rfl rfl (by decide +kernel)) (vi_list (vx_varE 2)) (blkOk_by (own := [("_law_part", 4)]) (N := ["_law_script", "_law_k", "_law_row", "_law_measure_here", "_law_part"]) (sc := defScope s_L_way) (by decide +kernel)) (fun _ => (vg_name sc_L_way.nd)) (fun _ => vts_nil) (fun _ => (vx_callB (call_max2 rfl) cg_max2 T.m_max (by decide +kernel) (va_cons (vx_neg (vx_int (m := .N))) (va_cons (vx_callB (call_min2 rfl) cg_min2 T.m_min (by decide +kernel) (va_cons vx_int (va_cons (vx_var 4) va_nil))) va_nil)))))) vss_nil) (vss_cons (vs_fr (i := 3) sc_L_way.nd (VX.any (vx_call c_L_measure (takes_of rfl rfl rfl rfl) hr (by decide) (va_cons (VX.toO (vx_call c_L_measure (takes_of rfl rfl rfl rfl) hr (by decide) (va_cons (VX.toO (vx_ix (hu_of hr) (vx_var 2) (vx_int (m := .N)))) (va_cons (VX.toO (vx_ix (hu_of hr) (vx_var 2) (vx_int (m := .N)))) va_nil)))) (va_cons (VX.toO (vx_ix (hu_of hr) (vx_var 2) (vx_int (m := .N)))) va_nil))))) (vss_cons (vs_if (vt_cmp (op_eqA hr.units) og_eq (vx_var 3) (vx_int (m := .N))) (vss_one (vs_retF (vx_tup (m := .F) (by intro z; cases z) (va_cons vx_int (va_cons vx_int (va_cons vx_int va_nil)))))) vss_nil) (vss_one (vs_retF (vx_tup (m := .F) (by intro z; cases z) (va_cons (vx_fdivN (vx_ix (hu_of hr) (vx_var 2) (vx_int (m := .N))) (vx_var 3)) (va_cons (vx_fdivN (vx_ix (hu_of hr) (vx_var 2) (vx_int (m := .N))) (vx_var 3)) (va_cons (vx_fdivN (vx_ix (hu_of hr) (vx_var 2) (vx_int (m := .N))) (vx_var 3)) va_nil))))))))))
theorem sc_L_all : FnScope ["_law_sizes_here", "_law_places", "_law_x", "_law_y", "_law_z"] ["_law_sizes_here"] (defScope s_L_all) := ⟨rfl, rfl, rfl, by decide +kernel, rfl, by decide +kernel, by decide +kernel⟩
theorem ok_L_all {P : Program} {w : World} {K : PySem.W.Frag} {mg : Str → Option Value} {base : Heap} {f : Addr} {fd : FuncData} (T : Txt K mg) (F : Fun K "_law_all" "_law_all" s_L_all f fd) (hm : mg "_law_all" = some (.ref f)) (hb : Binds K fd ["_law_sizes_here"] [])  : Cal P w K mg base 1 "_law_all" q_L_all := by
  refine Cal.mk' (fn_ok (N := ["_law_sizes_here", "_law_places", "_law_x", "_law_y", "_law_z"]) (F := d_L_all) F sc_L_all fun cdv A outer s H E S0 hr => ?_) F hm hb
  exact (vss_cons (vs_ow (i := 1) sc_L_all.nd (vx_lst (m := .N) (by intro z; cases z) va_nil)) (vss_cons (vs_for (passes_of rfl) rfl (vi_range1 T.m_range (va_cons (VX.toO (vx_ix (hu_of hr) (vx_var 0) (vx_int (m := .N)))) va_nil)) (vg_name sc_L_all.nd) (vss_wipe (ks := [2, 3, 4]) (vss_one (vs_for (passes_of rfl) rfl (vi_range1 T.m_range (va_cons (VX.toO (vx_ix (hu_of hr) (vx_var 0) (vx_int (m := .N)))) va_nil)) (vg_name sc_L_all.nd) (vss_wipe (ks := [3, 4]) (vss_one (vs_for (passes_of rfl) rfl (vi_range1 T.m_range (va_cons (VX.toO (vx_ix (hu_of hr) (vx_var 0) (vx_int (m := .N)))) va_nil)) (vg_name sc_L_all.nd) (vss_wipe (ks := [4]) (vss_one (vs_bm 1 PySem.F.slot_list_append PySem.F.type_list_append mt_append mg_app (va_cons (vx_tup (m := .F) (by intro z; cases z) (va_cons (VX.any (vx_lf (vx_var 2))) (va_cons (VX.any (vx_lf (vx_var 3))) (va_cons (VX.any (vx_lf (vx_var 4))) va_nil)))) va_nil))))))))))) (vss_one (vs_share (i := 1) (vs_retF (vx_varF 1))))))
theorem sc_L_step : FnScope ["_law_place", "_law_way_here", "_law_many_here"] ["_law_place", "_law_way_here", "_law_many_here"] (defScope s_L_step) := ⟨rfl, rfl, rfl, by decide +kernel, rfl, by decide +kernel, by decide +kernel⟩
theorem ok_L_step {P : Program} {w : World} {K : PySem.W.Frag} {mg : Str → Option Value} {base : Heap} {f : Addr} {fd : FuncData} (T : Txt K mg) (F : Fun K "_law_step" "_law_step" s_L_step f fd) (hm : mg "_law_step" = some (.ref f)) (hb : Binds K fd ["_law_place", "_law_way_here", "_law_many_here"] [])  : Cal P w K mg base 1 "_law_step" q_L_step := by
  refine Cal.mk' (fn_ok (N := ["_law_place", "_law_way_here", "_law_many_here"]) (F := d_L_step) F sc_L_step fun cdv A outer s H E S0 hr => ?_) F hm hb
  exact (vss_one (vs_retF (vx_tup (m := .F) (by intro z; cases z) (va_cons (vx_add (vx_ix (hu_of hr) (vx_var 0) (vx_int (m := .N))) (vx_mul (m := .N) (vx_var 2) (vx_ix (hu_of hr) (vx_var 1) (vx_int (m := .N))))) (va_cons (vx_add (vx_ix (hu_of hr) (vx_var 0) (vx_int (m := .N))) (vx_mul (m := .N) (vx_var 2) (vx_ix (hu_of hr) (vx_var 1) (vx_int (m := .N))))) (va_cons (vx_add (vx_ix (hu_of hr) (vx_var 0) (vx_int (m := .N))) (vx_mul (m := .N) (vx_var 2) (vx_ix (hu_of hr) (vx_var 1) (vx_int (m := .N))))) va_nil))))))
theorem sc_L_in : FnScope ["_law_sizes_here", "_law_place", "_law_at"] ["_law_sizes_here", "_law_place"] (defScope s_L_in) := ⟨rfl, rfl, rfl, by decide +kernel, rfl, by decide +kernel, by decide +kernel⟩
theorem ok_L_in {P : Program} {w : World} {K : PySem.W.Frag} {mg : Str → Option Value} {base : Heap} {f : Addr} {fd : FuncData} (T : Txt K mg) (F : Fun K "_law_in" "_law_in" s_L_in f fd) (hm : mg "_law_in" = some (.ref f)) (hb : Binds K fd ["_law_sizes_here", "_law_place"] [])  : Cal P w K mg base 1 "_law_in" q_L_in := by
  refine Cal.mk' (fn_ok (N := ["_law_sizes_here", "_law_place", "_law_at"]) (F := d_L_in) F sc_L_in fun cdv A outer s H E S0 hr => ?_) F hm hb
  exact (vss_cons (vs_for (passes_of rfl) rfl (vi_range1 T.m_range (va_cons vx_int va_nil)) (vg_name sc_L_in.nd) (vss_wipe (ks := [2]) (vss_one (vs_if (vt_not (vt_chain op_le (op_ltA (hu_of hr)) og_le og_lt (vx_int (m := .N)) (vx_ix (hu_of hr) (vx_var 1) (vx_var 2)) (vx_ix (hu_of hr) (vx_var 0) (vx_var 2)))) (vss_one (vs_retF vx_bl)) vss_nil)))) (vss_one (vs_retF vx_bl)))
theorem sc_L_door : FnScope ["_law_sizes_here", "_law_way_here", "_law_place"] ["_law_sizes_here", "_law_way_here", "_law_place"] (defScope s_L_door) := ⟨rfl, rfl, rfl, by decide +kernel, rfl, by decide +kernel, by decide +kernel⟩
theorem ok_L_door {P : Program} {w : World} {K : PySem.W.Frag} {mg : Str → Option Value} {base : Heap} {f : Addr} {fd : FuncData} (T : Txt K mg) (F : Fun K "_law_door" "_law_door" s_L_door f fd) (hm : mg "_law_door" = some (.ref f)) (hb : Binds K fd ["_law_sizes_here", "_law_way_here", "_law_place"] []) (c_L_in : Cal P w K mg base 1 "_law_in" q_L_in) (c_L_step : Cal P w K mg base 1 "_law_step" q_L_step) : Cal P w K mg base 2 "_law_door" q_L_door := by
  refine Cal.mk' (fn_ok (N := ["_law_sizes_here", "_law_way_here", "_law_place"]) (F := d_L_door) F sc_L_door fun cdv A outer s H E S0 hr => ?_) F hm hb
  exact (vss_cons (vs_while 1000 (passes_of rfl) (vt_tru (vx_call c_L_in (takes_of rfl rfl rfl rfl) hr (by decide) (va_cons (vx_var 0) (va_cons (VX.toO (vx_call c_L_step (takes_of rfl rfl rfl rfl) hr (by decide) (va_cons (vx_var 2) (va_cons (vx_var 1) (va_cons (vx_neg (vx_int (m := .N))) va_nil))))) va_nil)))) (vss_one (vs_sh (i := 2) sc_L_door.nd (VX.any (vx_call c_L_step (takes_of rfl rfl rfl rfl) hr (by decide) (va_cons (vx_var 2) (va_cons (vx_var 1) (va_cons (vx_neg (vx_int (m := .N))) va_nil)))))))) (vss_one (vs_retF (VX.any (vx_lf (vx_var 2))))))
theorem sc_L_doors : FnScope ["_law_sizes_here", "_law_way_here", "_law_place"] ["_law_sizes_here", "_law_way_here"] (defScope s_L_doors) := ⟨rfl, rfl, rfl, by decide +kernel, rfl, by decide +kernel, by decide +kernel⟩
theorem ok_L_doors {P : Program} {w : World} {K : PySem.W.Frag} {mg : Str → Option Value} {base : Heap} {f : Addr} {fd : FuncData} (T : Txt K mg) (F : Fun K "_law_doors" "_law_doors" s_L_doors f fd) (hm : mg "_law_doors" = some (.ref f)) (hb : Binds K fd ["_law_sizes_here", "_law_way_here"] []) (c_L_all : Cal P w K mg base 1 "_law_all" q_L_all) (c_L_in : Cal P w K mg base 1 "_law_in" q_L_in) (c_L_step : Cal P w K mg base 1 "_law_step" q_L_step) : Cal P w K mg base 2 "_law_doors" q_L_doors := by
  refine Cal.mk' (fn_ok (N := ["_law_sizes_here", "_law_way_here", "_law_place"]) (F := d_L_doors) F sc_L_doors fun cdv A outer s H E S0 hr => ?_) F hm hb
  exact (vss_one (vs_retF (vx_lc (own := [("_law_place", 2)]) (m := .F) (by intro z; cases z) rfl sc_L_doors.nd (vi_list (VX.any (vx_call c_L_all (takes_of rfl rfl rfl rfl) hr (by decide) (va_cons (vx_var 0) va_nil)))) (blkOk_by (own := [("_law_place", 2)]) (N := ["_law_sizes_here", "_law_way_here", "_law_place"]) (sc := defScope s_L_doors) (by decide +kernel)) (fun _ => (vg_name sc_L_doors.nd)) (fun _ => (vts_one (vt_not (vt_tru (vx_call c_L_in takes0 hr (by decide) (va_cons (vx_var 0) (va_cons (VX.toO (vx_call c_L_step takes0 hr (by decide) (va_cons (vx_var 2) (va_cons (vx_var 1) (va_cons (vx_neg (vx_int (m := .N))) va_nil))))) va_nil))))))) (fun _ => (VX.any (vx_lf (vx_var 2)))))))
theorem sc_L_marks : FnScope ["_law_stone_here", "_law_marks_here", "_law_place"] ["_law_stone_here"] (defScope s_L_marks) := ⟨rfl, rfl, rfl, by decide +kernel, rfl, by decide +kernel, by decide +kernel⟩
theorem ok_L_marks {P : Program} {w : World} {K : PySem.W.Frag} {mg : Str → Option Value} {base : Heap} {f : Addr} {fd : FuncData} (T : Txt K mg) (F : Fun K "_law_marks" "_law_marks" s_L_marks f fd) (hm : mg "_law_marks" = some (.ref f)) (hb : Binds K fd ["_law_stone_here"] [])  : Cal P w K mg base 1 "_law_marks" q_L_marks := by
  refine Cal.mk' (fn_ok (N := ["_law_stone_here", "_law_marks_here", "_law_place"]) (F := d_L_marks) F sc_L_marks fun cdv A outer s H E S0 hr => ?_) F hm hb
  exact (vss_cons (vs_ow (i := 1) sc_L_marks.nd vx_dnewT) (vss_cons (vs_for (passes_of rfl) rfl (vi_list (vx_varE 0)) (vg_name sc_L_marks.nd) (vss_wipe (ks := [2]) (vss_one (vs_put 1 (hu_of hr) (vx_var 2) vx_bl)))) (vss_one (vs_share (i := 1) (vs_retF (vx_varF 1))))))
theorem sc_L_seen : FnScope ["_law_sizes_here", "_law_way_here", "_law_marks_here", "_law_place", "_law_near"] ["_law_sizes_here", "_law_way_here", "_law_marks_here", "_law_place"] (defScope s_L_seen) := ⟨rfl, rfl, rfl, by decide +kernel, rfl, by decide +kernel, by decide +kernel⟩
theorem ok_L_seen {P : Program} {w : World} {K : PySem.W.Frag} {mg : Str → Option Value} {base : Heap} {f : Addr} {fd : FuncData} (T : Txt K mg) (F : Fun K "_law_seen" "_law_seen" s_L_seen f fd) (hm : mg "_law_seen" = some (.ref f)) (hb : Binds K fd ["_law_sizes_here", "_law_way_here", "_law_marks_here", "_law_place"] []) (c_L_in : Cal P w K mg base 1 "_law_in" q_L_in) (c_L_step : Cal P w K mg base 1 "_law_step" q_L_step) : Cal P w K mg base 2 "_law_seen" q_L_seen := by
  refine Cal.mk' (fn_ok (N := ["_law_sizes_here", "_law_way_here", "_law_marks_here", "_law_place", "_law_near"]) (F := d_L_seen) F sc_L_seen fun cdv A outer s H E S0 hr => ?_) F hm hb
  exact (vss_cons (vs_fr (i := 4) sc_L_seen.nd (VX.any (vx_call c_L_step (takes_of rfl rfl rfl rfl) hr (by decide) (va_cons (vx_var 3) (va_cons (vx_var 1) (va_cons (vx_neg (vx_int (m := .N))) va_nil)))))) (vss_cons (vs_while 1000 (passes_of rfl) (vt_tru (vx_call c_L_in (takes_of rfl rfl rfl rfl) hr (by decide) (va_cons (vx_var 0) (va_cons (vx_var 4) va_nil)))) (vss_cons (vs_if (vt_cmp (op_inA (hu65 hr)) og_in (vx_var 4) (vx_var 2)) (vss_one (vs_retF vx_bl)) vss_nil) (vss_one (vs_fr (i := 4) sc_L_seen.nd (VX.any (vx_call c_L_step (takes_of rfl rfl rfl rfl) hr (by decide) (va_cons (vx_var 4) (va_cons (vx_var 1) (va_cons (vx_neg (vx_int (m := .N))) va_nil))))))))) (vss_one (vs_retF vx_bl))))
theorem sc_L_stone : FnScope ["_law_script", "_law_k", "_law_sizes_here", "_law_places", "_law_row", "_law_dense", "_law_at", "_law_place"] ["_law_script", "_law_k", "_law_sizes_here"] (defScope s_L_stone) := ⟨rfl, rfl, rfl, by decide +kernel, rfl, by decide +kernel, by decide +kernel⟩
theorem ok_L_stone {P : Program} {w : World} {K : PySem.W.Frag} {mg : Str → Option Value} {base : Heap} {f : Addr} {fd : FuncData} (T : Txt K mg) (F : Fun K "_law_stone" "_law_stone" s_L_stone f fd) (hm : mg "_law_stone" = some (.ref f)) (hb : Binds K fd ["_law_script", "_law_k", "_law_sizes_here"] []) (c_L_all : Cal P w K mg base 1 "_law_all" q_L_all) (c_L_digits : Cal P w K mg base 1 "_law_digits" q_L_digits) : Cal P w K mg base 2 "_law_stone" q_L_stone := by
  refine Cal.mk' (fn_ok (N := ["_law_script", "_law_k", "_law_sizes_here", "_law_places", "_law_row", "_law_dense", "_law_at", "_law_place"]) (F := d_L_stone) F sc_L_stone fun cdv A outer s H E S0 hr => ?_) F hm hb
  exact (vss_cons (vs_fr (i := 3) sc_L_stone.nd (VX.any (vx_call c_L_all (takes_of rfl rfl rfl rfl) hr (by decide) (va_cons (vx_var 2) va_nil)))) (vss_cons (vs_fr (i := 4) sc_L_stone.nd (VX.any (vx_call c_L_digits (takes_of rfl rfl rfl rfl) hr (by decide) (va_cons (vx_var 0) (va_cons (vx_var 1) (va_cons vx_int (va_cons (vx_add (vx_callB (m := .N) call_len cg_len T.m_len (by decide +kernel) (va_cons (vx_var 3) va_nil)) (vx_int (m := .N))) va_nil))))))) (vss_cons (vs_sh (i := 5) sc_L_stone.nd (vx_ix (hu_of hr) (vx_tup (m := .E) (by intro z; cases z) (va_cons vx_int (va_cons vx_int (va_cons vx_int (va_cons vx_int (va_cons vx_int (va_cons vx_int va_nil))))))) (vx_mod (m := .N) (vx_ix (hu_of hr) (vx_var 4) (vx_int (m := .N))) (vx_int (m := .N))))) (vss_one (vs_retF (vx_lc (own := [("_law_at", 6), ("_law_place", 7)]) (m := .F) (by intro z; cases z) rfl sc_L_stone.nd (vi_enum T.m_enumerate (va_cons (vx_varE 3) va_nil)) (blkOk_by (own := [("_law_at", 6), ("_law_place", 7)]) (N := ["_law_script", "_law_k", "_law_sizes_here", "_law_places", "_law_row", "_law_dense", "_law_at", "_law_place"]) (sc := defScope s_L_stone) (by decide +kernel)) (fun _ => (vg_tup rfl (vgs_cons (vg_name sc_L_stone.nd) (vgs_cons (vg_name sc_L_stone.nd) vgs_nil)))) (fun _ => (vts_one (vt_cmp (op_ltA (hu_of hr)) og_lt (vx_ix (hu_of hr) (vx_var 4) (vx_add (m := .N) (vx_var 6) (vx_int (m := .N)))) (vx_var 5)))) (fun _ => (VX.any (vx_lf (vx_var 7))))))))))
theorem sc_L_letter : FnScope ["_law_number"] ["_law_number"] (defScope s_L_letter) := ⟨rfl, rfl, rfl, by decide +kernel, rfl, by decide +kernel, by decide +kernel⟩
theorem ok_L_letter {P : Program} {w : World} {K : PySem.W.Frag} {mg : Str → Option Value} {base : Heap} {f : Addr} {fd : FuncData} (T : Txt K mg) (F : Fun K "_law_letter" "_law_letter" s_L_letter f fd) (hm : mg "_law_letter" = some (.ref f)) (hb : Binds K fd ["_law_number"] [])  : Cal P w K mg base 1 "_law_letter" q_L_letter := by
  refine Cal.mk' (fn_ok (N := ["_law_number"]) (F := d_L_letter) F sc_L_letter fun cdv A outer s H E S0 hr => ?_) F hm hb
  exact (vss_one (vs_retF (VX.any (vx_lf (vx_ix (hu_of hr) (vx_str (m := .N)) (vx_mod (m := .N) (vx_var 0) (vx_int (m := .N))))))))
theorem sc_L_paint : FnScope ["_law_script", "_law_k", "_law_stone_here", "_law_row", "_law_menu", "_law_number"] ["_law_script", "_law_k", "_law_stone_here"] (defScope s_L_paint) := ⟨rfl, rfl, rfl, by decide +kernel, rfl, by decide +kernel, by decide +kernel⟩
theorem ok_L_paint {P : Program} {w : World} {K : PySem.W.Frag} {mg : Str → Option Value} {base : Heap} {f : Addr} {fd : FuncData} (T : Txt K mg) (F : Fun K "_law_paint" "_law_paint" s_L_paint f fd) (hm : mg "_law_paint" = some (.ref f)) (hb : Binds K fd ["_law_script", "_law_k", "_law_stone_here"] []) (c_L_digits : Cal P w K mg base 1 "_law_digits" q_L_digits) (c_L_letter : Cal P w K mg base 1 "_law_letter" q_L_letter) : Cal P w K mg base 2 "_law_paint" q_L_paint := by
  refine Cal.mk' (fn_ok (N := ["_law_script", "_law_k", "_law_stone_here", "_law_row", "_law_menu", "_law_number"]) (F := d_L_paint) F sc_L_paint fun cdv A outer s H E S0 hr => ?_) F hm hb
  exact (vss_cons (vs_fr (i := 3) sc_L_paint.nd (VX.any (vx_call c_L_digits (takes_of rfl rfl rfl rfl) hr (by decide) (va_cons (vx_var 0) (va_cons (vx_var 1) (va_cons vx_int (va_cons (vx_add (vx_callB (m := .N) call_len cg_len T.m_len (by decide +kernel) (va_cons (vx_var 2) va_nil)) (vx_int (m := .N))) va_nil))))))) (vss_cons (vs_sh (i := 4) sc_L_paint.nd (vx_ix (hu_of hr) (vx_tup (m := .E) (by intro z; cases z) (va_cons vx_int (va_cons vx_int (va_cons vx_int (va_cons vx_int va_nil))))) (vx_mod (m := .N) (vx_ix (hu_of hr) (vx_var 3) (vx_int (m := .N))) (vx_int (m := .N))))) (vss_one (vs_retF (vx_join (vx_str (m := .N)) (vx_lc (own := [("_law_number", 5)]) (m := .N) (by intro z; cases z) rfl sc_L_paint.nd (vi_list (VX.any (vx_sl (vx_var 3) (vo_some (vx_int (m := .N))) vo_none))) (blkOk_by (own := [("_law_number", 5)]) (N := ["_law_script", "_law_k", "_law_stone_here", "_law_row", "_law_menu", "_law_number"]) (sc := defScope s_L_paint) (by decide +kernel)) (fun _ => (vg_name sc_L_paint.nd)) (fun _ => vts_nil) (fun _ => (vx_call c_L_letter takes0 hr (by decide) (va_cons (vx_add (vx_ix (hu_of hr) (vx_var 3) (vx_int (m := .N))) (vx_mod (m := .N) (vx_var 5) (vx_var 4))) va_nil)))))))))
theorem sc_L_snap : FnScope ["_law_sizes_here", "_law_way_here", "_law_stone_here", "_law_paint_here", "_law_signs", "_law_marks_here", "_law_place", "_law_letter_here", "_law_door_here"] ["_law_sizes_here", "_law_way_here", "_law_stone_here", "_law_paint_here"] (defScope s_L_snap) := ⟨rfl, rfl, rfl, by decide +kernel, rfl, by decide +kernel, by decide +kernel⟩
theorem ok_L_snap {P : Program} {w : World} {K : PySem.W.Frag} {mg : Str → Option Value} {base : Heap} {f : Addr} {fd : FuncData} (T : Txt K mg) (F : Fun K "_law_snap" "_law_snap" s_L_snap f fd) (hm : mg "_law_snap" = some (.ref f)) (hb : Binds K fd ["_law_sizes_here", "_law_way_here", "_law_stone_here", "_law_paint_here"] []) (c_L_door : Cal P w K mg base 2 "_law_door" q_L_door) (c_L_doors : Cal P w K mg base 2 "_law_doors" q_L_doors) (c_L_marks : Cal P w K mg base 1 "_law_marks" q_L_marks) (c_L_seen : Cal P w K mg base 2 "_law_seen" q_L_seen) : Cal P w K mg base 3 "_law_snap" q_L_snap := by
  refine Cal.mk' (fn_ok (N := ["_law_sizes_here", "_law_way_here", "_law_stone_here", "_law_paint_here", "_law_signs", "_law_marks_here", "_law_place", "_law_letter_here", "_law_door_here"]) (F := d_L_snap) F sc_L_snap fun cdv A outer s H E S0 hr => ?_) F hm hb
  exact (vss_cons (vs_ow (i := 4) sc_L_snap.nd vx_dnewT) (vss_cons (vs_fr (i := 5) sc_L_snap.nd (VX.any (vx_call c_L_marks (takes_of rfl rfl rfl rfl) hr (by decide) (va_cons (vx_var 2) va_nil)))) (vss_cons (vs_for (passes_of rfl) rfl (vi_zipLS T.m_zip (va_cons (vx_varE 2) (va_cons (vx_varE 3) va_nil))) (vg_tup rfl (vgs_cons (vg_name sc_L_snap.nd) (vgs_cons (vg_name sc_L_snap.nd) vgs_nil))) (vss_wipe (ks := [6, 7]) (vss_one (vs_if (vt_tru (vx_call c_L_seen (takes_of rfl rfl rfl rfl) hr (by decide) (va_cons (vx_var 0) (va_cons (vx_var 1) (va_cons (vx_var 5) (va_cons (vx_var 6) va_nil)))))) (vss_one (vs_put 4 (hu_of hr) (vx_call c_L_door (takes_of rfl rfl rfl rfl) hr (by decide) (va_cons (vx_var 0) (va_cons (vx_var 1) (va_cons (vx_var 6) va_nil)))) (VX.any (vx_lf (vx_var 7))))) vss_nil)))) (vss_one (vs_retF (vx_join (vx_str (m := .N)) (vx_lc (own := [("_law_door_here", 8)]) (m := .N) (by intro z; cases z) rfl sc_L_snap.nd (vi_list (VX.any (vx_call c_L_doors (takes_of rfl rfl rfl rfl) hr (by decide) (va_cons (vx_var 0) (va_cons (vx_var 1) va_nil))))) (blkOk_by (own := [("_law_door_here", 8)]) (N := ["_law_sizes_here", "_law_way_here", "_law_stone_here", "_law_paint_here", "_law_signs", "_law_marks_here", "_law_place", "_law_letter_here", "_law_door_here"]) (sc := defScope s_L_snap) (by decide +kernel)) (fun _ => (vg_name sc_L_snap.nd)) (fun _ => vts_nil) (fun _ => (vx_lf (vx_get2 (hu_of hr) (vx_var 4) (vx_var 8) vx_str))))))))))
theorem sc_L_spoilt : FnScope ["_law_script", "_law_k", "_law_picture", "_law_row", "_law_level", "_law_signs", "_law_at", "_law_sign", "_law_number"] ["_law_script", "_law_k", "_law_picture"] (defScope s_L_spoilt) := ⟨rfl, rfl, rfl, by decide +kernel, rfl, by decide +kernel, by decide +kernel⟩
theorem ok_L_spoilt {P : Program} {w : World} {K : PySem.W.Frag} {mg : Str → Option Value} {base : Heap} {f : Addr} {fd : FuncData} (T : Txt K mg) (F : Fun K "_law_spoilt" "_law_spoilt" s_L_spoilt f fd) (hm : mg "_law_spoilt" = some (.ref f)) (hb : Binds K fd ["_law_script", "_law_k", "_law_picture"] []) (c_L_digits : Cal P w K mg base 1 "_law_digits" q_L_digits) (c_L_letter : Cal P w K mg base 1 "_law_letter" q_L_letter) : Cal P w K mg base 2 "_law_spoilt" q_L_spoilt := by
  refine Cal.mk' (fn_ok (N := ["_law_script", "_law_k", "_law_picture", "_law_row", "_law_level", "_law_signs", "_law_at", "_law_sign", "_law_number"]) (F := d_L_spoilt) F sc_L_spoilt fun cdv A outer s H E S0 hr => ?_) F hm hb
  exact (vss_cons (vs_fr (i := 3) sc_L_spoilt.nd (VX.any (vx_call c_L_digits (takes_of rfl rfl rfl rfl) hr (by decide) (va_cons (vx_var 0) (va_cons (vx_var 1) (va_cons vx_int (va_cons (vx_add (vx_callB (m := .N) call_len cg_len T.m_len (by decide +kernel) (va_cons (vx_var 2) va_nil)) (vx_int (m := .N))) va_nil))))))) (vss_cons (vs_fr (i := 4) sc_L_spoilt.nd (vx_mod (vx_ix (hu_of hr) (vx_var 3) (vx_int (m := .N))) (vx_int (m := .N)))) (vss_cons (vs_ow (i := 5) sc_L_spoilt.nd (vx_lst (m := .N) (by intro z; cases z) va_nil)) (vss_cons (vs_for (passes_of rfl) rfl (vi_enumS T.m_enumerate (va_cons (vx_varE 2) va_nil)) (vg_tup rfl (vgs_cons (vg_name sc_L_spoilt.nd) (vgs_cons (vg_name sc_L_spoilt.nd) vgs_nil))) (vss_wipe (ks := [6, 7, 8]) (vss_cons (vs_sh (i := 8) sc_L_spoilt.nd (vx_ix (hu_of hr) (vx_var 3) (vx_add (m := .N) (vx_var 6) (vx_int (m := .N))))) (vss_cons (vs_if (VW.t (vw_or (VW.t (vw_and (vt_cmp (op_eqA hr.units) og_eq (vx_var 4) (vx_int (m := .N))) (vw_and1 (vt_cmp (op_eqA hr.units) og_eq (vx_mod (m := .N) (vx_var 8) (vx_int (m := .N))) (vx_int (m := .N)))))) (vw_or1 (VW.t (vw_and (vt_cmp op_gt og_gt (vx_var 4) (vx_int (m := .N))) (vw_and1 (vt_cmp (op_eqA hr.units) og_eq (vx_mod (m := .N) (vx_var 8) (vx_int (m := .N))) (vx_int (m := .N))))))))) (vss_one (vs_sh (i := 7) sc_L_spoilt.nd vx_str)) (vss_one (vs_if (VW.t (vw_and (vt_cmp op_gt og_gt (vx_var 4) (vx_int (m := .N))) (vw_and1 (vt_cmp (op_eqA hr.units) og_eq (vx_mod (m := .N) (vx_var 8) (vx_int (m := .N))) (vx_int (m := .N)))))) (vss_one (vs_sh (i := 7) sc_L_spoilt.nd vx_str)) (vss_one (vs_if (VW.t (vw_and (vt_cmp (op_eqA hr.units) og_eq (vx_var 4) (vx_int (m := .N))) (vw_and1 (vt_cmp (op_eqA hr.units) og_eq (vx_mod (m := .N) (vx_var 8) (vx_int (m := .N))) (vx_int (m := .N)))))) (vss_one (vs_sh (i := 7) sc_L_spoilt.nd (VX.any (vx_call c_L_letter (takes_of rfl rfl rfl rfl) hr (by decide) (va_cons (vx_fdiv (vx_var 8) (vx_int (m := .N))) va_nil))))) (vss_one (vs_if (VW.t (vw_and (vt_cmp (op_eqA hr.units) og_eq (vx_var 4) (vx_int (m := .N))) (vw_and1 (vt_cmp op_gt og_gt (vx_mod (m := .N) (vx_var 8) (vx_int (m := .N))) (vx_int (m := .N)))))) (vss_one (vs_sh (i := 7) sc_L_spoilt.nd (vx_ix (hu_of hr) (vx_str (m := .N)) (vx_mod (m := .N) (vx_fdiv (m := .N) (vx_var 8) (vx_int (m := .N))) (vx_int (m := .N)))))) vss_nil))))))) (vss_one (vs_bm 5 PySem.F.slot_list_append PySem.F.type_list_append mt_append mg_app (va_cons (VX.any (vx_lf (vx_var 7))) va_nil))))))) (vss_one (vs_retF (vx_join (vx_str (m := .N)) (vx_var 5))))))))
theorem sc_L_rows_fit : FnScope ["_law_found", "_law_row", "_law_part"] ["_law_found"] (defScope s_L_rows_fit) := ⟨rfl, rfl, rfl, by decide +kernel, rfl, by decide +kernel, by decide +kernel⟩
theorem ok_L_rows_fit {P : Program} {w : World} {K : PySem.W.Frag} {mg : Str → Option Value} {base : Heap} {f : Addr} {fd : FuncData} (T : Txt K mg) (F : Fun K "_law_rows_fit" "_law_rows_fit" s_L_rows_fit f fd) (hm : mg "_law_rows_fit" = some (.ref f)) (hb : Binds K fd ["_law_found"] [])  : Cal P w K mg base 1 "_law_rows_fit" q_L_rows_fit := by
  refine Cal.mk' (fn_ok (N := ["_law_found", "_law_row", "_law_part"]) (F := d_L_rows_fit) F sc_L_rows_fit fun cdv A outer s H E S0 hr => ?_) F hm hb
  exact (vss_cons (vs_if (vt_not (vt_tru (vx_isi (m := .N) .list T.m_isinstance T.m_list (vx_var 0)))) (vss_one (vs_retF vx_bl)) vss_nil) (vss_cons (vs_for (passes_of rfl) rfl (vi_list (vx_varE 0)) (vg_name sc_L_rows_fit.nd) (vss_wipe (ks := [1, 2]) (vss_cons (vs_if (VW.t (vw_or (vt_not (vt_tru (vx_isi (m := .N) .tuple T.m_isinstance T.m_tuple (vx_var 1)))) (vw_or1 (vt_cmp (op_neA hr.units) og_ne (vx_callB (m := .N) call_len cg_len T.m_len (by decide +kernel) (va_cons (vx_var 1) va_nil)) (vx_int (m := .N)))))) (vss_one (vs_retF vx_bl)) vss_nil) (vss_cons (vs_if (VW.t (vw_or (vt_not (vt_tru (vx_isi (m := .N) .tuple T.m_isinstance T.m_tuple (vx_ix (hu_of hr) (vx_var 1) (vx_int (m := .N)))))) (vw_or1 (vt_cmp (op_neA hr.units) og_ne (vx_callB (m := .N) call_len cg_len T.m_len (by decide +kernel) (va_cons (VX.toO (vx_ix (hu_of hr) (vx_var 1) (vx_int (m := .N)))) va_nil)) (vx_int (m := .N)))))) (vss_one (vs_retF vx_bl)) vss_nil) (vss_one (vs_for (passes_of rfl) rfl (vi_list (vx_lst (m := .E) (by intro z; cases z) (va_cons (vx_ix (hu_of hr) (vx_var 1) (vx_int (m := .N))) (va_cons (vx_ix (hu_of hr) (vx_var 1) (vx_int (m := .N))) (va_cons (vx_ix (hu_of hr) (vx_ix (hu_of hr) (vx_var 1) (vx_int (m := .N))) (vx_int (m := .N))) (va_cons (vx_ix (hu_of hr) (vx_ix (hu_of hr) (vx_var 1) (vx_int (m := .N))) (vx_int (m := .N))) (va_cons (vx_ix (hu_of hr) (vx_ix (hu_of hr) (vx_var 1) (vx_int (m := .N))) (vx_int (m := .N))) va_nil))))))) (vg_name sc_L_rows_fit.nd) (vss_wipe (ks := [2]) (vss_one (vs_if (VW.t (vw_or (vt_not (vt_tru (vx_isi (m := .N) .int T.m_isinstance T.m_int (vx_var 2)))) (vw_or1 (vt_tru (vx_isi (m := .N) .bool T.m_isinstance T.m_bool (vx_var 2)))))) (vss_one (vs_retF vx_bl)) vss_nil))))))))) (vss_one (vs_retF vx_bl))))
theorem sc_L_looks : FnScope ["_law_script", "_law_k", "_law_many_here", "_law_sizes_here", "_law_stone_here", "_law_paint_here", "_law_looks_here", "_law_number", "_law_way_here", "_law_picture"] ["_law_script", "_law_k", "_law_many_here", "_law_sizes_here", "_law_stone_here", "_law_paint_here"] (defScope s_L_looks) := ⟨rfl, rfl, rfl, by decide +kernel, rfl, by decide +kernel, by decide +kernel⟩
theorem ok_L_looks {P : Program} {w : World} {K : PySem.W.Frag} {mg : Str → Option Value} {base : Heap} {f : Addr} {fd : FuncData} (T : Txt K mg) (F : Fun K "_law_looks" "_law_looks" s_L_looks f fd) (hm : mg "_law_looks" = some (.ref f)) (hb : Binds K fd ["_law_script", "_law_k", "_law_many_here", "_law_sizes_here", "_law_stone_here", "_law_paint_here"] []) (c_L_one : Cal P w K mg base 2 "_law_one" q_L_one) (c_L_snap : Cal P w K mg base 3 "_law_snap" q_L_snap) (c_L_spoilt : Cal P w K mg base 2 "_law_spoilt" q_L_spoilt) (c_L_way : Cal P w K mg base 3 "_law_way" q_L_way) : Cal P w K mg base 4 "_law_looks" q_L_looks := by
  refine Cal.mk' (fn_ok (N := ["_law_script", "_law_k", "_law_many_here", "_law_sizes_here", "_law_stone_here", "_law_paint_here", "_law_looks_here", "_law_number", "_law_way_here", "_law_picture"]) (F := d_L_looks) F sc_L_looks fun cdv A outer s H E S0 hr => ?_) F hm hb
  exact (vss_cons (vs_ow (i := 6) sc_L_looks.nd (vx_lst (m := .N) (by intro z; cases z) va_nil)) (vss_cons (vs_for (passes_of rfl) rfl (vi_range1 T.m_range (va_cons (vx_var 2) va_nil)) (vg_name sc_L_looks.nd) (vss_wipe (ks := [7, 8, 9]) (vss_cons (vs_sh (i := 8) sc_L_looks.nd (VX.any (vx_call c_L_way (takes_of rfl rfl rfl rfl) hr (by decide) (va_cons (vx_var 0) (va_cons (vx_add (vx_var 1) (vx_mul (m := .N) (vx_int (m := .N)) (vx_var 7))) va_nil))))) (vss_cons (vs_if (VW.t (vw_and (vt_cmp op_gt og_gt (vx_var 7) (vx_int (m := .N))) (vw_and1 (vt_cmp (op_eqA hr.units) og_eq (vx_call c_L_one (takes_of rfl rfl rfl rfl) hr (by decide) (va_cons (vx_var 0) (va_cons (vx_add (vx_var 1) (vx_mul (m := .N) (vx_int (m := .N)) (vx_var 7))) (va_cons vx_int va_nil)))) (vx_int (m := .N)))))) (vss_one (vs_sh (i := 8) sc_L_looks.nd (vx_ix (hu_of hr) (vx_ix (hu_of hr) (vx_var 6) (vx_int (m := .N))) (vx_int (m := .N))))) vss_nil) (vss_cons (vs_fr (i := 9) sc_L_looks.nd (VX.any (vx_call c_L_snap (takes_of rfl rfl rfl rfl) hr (by decide) (va_cons (vx_var 3) (va_cons (vx_var 8) (va_cons (vx_var 4) (va_cons (vx_var 5) va_nil))))))) (vss_one (vs_bm 6 PySem.F.slot_list_append PySem.F.type_list_append mt_append mg_app (va_cons (vx_tup (m := .F) (by intro z; cases z) (va_cons (VX.any (vx_lf (vx_var 8))) (va_cons (VX.any (vx_call c_L_spoilt (takes_of rfl rfl rfl rfl) hr (by decide) (va_cons (vx_var 0) (va_cons (vx_add (vx_add (m := .N) (vx_var 1) (vx_mul (m := .N) (vx_int (m := .N)) (vx_var 7))) (vx_int (m := .N))) (va_cons (vx_var 9) va_nil))))) va_nil))) va_nil)))))))) (vss_one (vs_share (i := 6) (vs_retF (vx_varF 6))))))
theorem sc_L_many : FnScope ["_law_script", "_law_k", "_law_sizes_here", "_law_row", "_law_many_here"] ["_law_script", "_law_k", "_law_sizes_here"] (defScope s_L_many) := ⟨rfl, rfl, rfl, by decide +kernel, rfl, by decide +kernel, by decide +kernel⟩
theorem ok_L_many {P : Program} {w : World} {K : PySem.W.Frag} {mg : Str → Option Value} {base : Heap} {f : Addr} {fd : FuncData} (T : Txt K mg) (F : Fun K "_law_many" "_law_many" s_L_many f fd) (hm : mg "_law_many" = some (.ref f)) (hb : Binds K fd ["_law_script", "_law_k", "_law_sizes_here"] []) (c_L_digits : Cal P w K mg base 1 "_law_digits" q_L_digits) : Cal P w K mg base 2 "_law_many" q_L_many := by
  refine Cal.mk' (fn_ok (N := ["_law_script", "_law_k", "_law_sizes_here", "_law_row", "_law_many_here"]) (F := d_L_many) F sc_L_many fun cdv A outer s H E S0 hr => ?_) F hm hb
  exact (vss_cons (vs_fr (i := 3) sc_L_many.nd (VX.any (vx_call c_L_digits (takes_of rfl rfl rfl rfl) hr (by decide) (va_cons (vx_var 0) (va_cons (vx_var 1) (va_cons vx_int (va_cons vx_int va_nil))))))) (vss_cons (vs_sh (i := 4) sc_L_many.nd (vx_ix (hu_of hr) (vx_tup (m := .E) (by intro z; cases z) (va_cons vx_int (va_cons vx_int (va_cons vx_int (va_cons vx_int (va_cons vx_int (va_cons vx_int (va_cons vx_int (va_cons vx_int va_nil))))))))) (vx_ix (hu_of hr) (vx_var 3) (vx_int (m := .N))))) (vss_cons (vs_if (vt_cmp (op_eqA hr.units) og_eq (vx_var 4) (vx_int (m := .N))) (vss_cons (vs_sh (i := 4) sc_L_many.nd (vx_sub (vx_var 4) (vx_mod (m := .N) (vx_ix (hu_of hr) (vx_var 3) (vx_int (m := .N))) (vx_int (m := .N))))) (vss_one (vs_if (vt_cmp op_gt og_gt (vx_mul (m := .N) (vx_mul (m := .N) (vx_ix (hu_of hr) (vx_var 2) (vx_int (m := .N))) (vx_ix (hu_of hr) (vx_var 2) (vx_int (m := .N)))) (vx_ix (hu_of hr) (vx_var 2) (vx_int (m := .N)))) (vx_int (m := .N))) (vss_one (vs_sh (i := 4) sc_L_many.nd (vx_sub (vx_var 4) (vx_int (m := .N))))) vss_nil))) vss_nil) (vss_one (vs_retF (VX.any (vx_lf (vx_var 4))))))))
theorem sc_L_scene : FnScope ["_law_script", "_law_sizes_here", "_law_stone_here", "_law_paint_here"] ["_law_script"] (defScope s_L_scene) := ⟨rfl, rfl, rfl, by decide +kernel, rfl, by decide +kernel, by decide +kernel⟩
theorem ok_L_scene {P : Program} {w : World} {K : PySem.W.Frag} {mg : Str → Option Value} {base : Heap} {f : Addr} {fd : FuncData} (T : Txt K mg) (F : Fun K "_law_scene" "_law_scene" s_L_scene f fd) (hm : mg "_law_scene" = some (.ref f)) (hb : Binds K fd ["_law_script"] []) (c_L_looks : Cal P w K mg base 4 "_law_looks" q_L_looks) (c_L_many : Cal P w K mg base 2 "_law_many" q_L_many) (c_L_paint : Cal P w K mg base 2 "_law_paint" q_L_paint) (c_L_sizes : Cal P w K mg base 2 "_law_sizes" q_L_sizes) (c_L_stone : Cal P w K mg base 2 "_law_stone" q_L_stone) : Cal P w K mg base 5 "_law_scene" q_L_scene := by
  refine Cal.mk' (fn_ok (N := ["_law_script", "_law_sizes_here", "_law_stone_here", "_law_paint_here"]) (F := d_L_scene) F sc_L_scene fun cdv A outer s H E S0 hr => ?_) F hm hb
  exact (vss_cons (vs_fr (i := 1) sc_L_scene.nd (VX.any (vx_call c_L_sizes (takes_of rfl rfl rfl rfl) hr (by decide) (va_cons (vx_var 0) (va_cons vx_int va_nil))))) (vss_cons (vs_fr (i := 2) sc_L_scene.nd (VX.any (vx_call c_L_stone (takes_of rfl rfl rfl rfl) hr (by decide) (va_cons (vx_var 0) (va_cons vx_int (va_cons (vx_var 1) va_nil)))))) (vss_cons (vs_fr (i := 3) sc_L_scene.nd (VX.any (vx_call c_L_paint (takes_of rfl rfl rfl rfl) hr (by decide) (va_cons (vx_var 0) (va_cons vx_int (va_cons (vx_var 2) va_nil)))))) (vss_one (vs_retF (vx_tup (m := .F) (by intro z; cases z) (va_cons (vx_varF 1) (va_cons (VX.any (vx_call c_L_looks (takes_of rfl rfl rfl rfl) hr (by decide) (va_cons (vx_var 0) (va_cons vx_int (va_cons (VX.toO (vx_call c_L_many (takes_of rfl rfl rfl rfl) hr (by decide) (va_cons (vx_var 0) (va_cons vx_int (va_cons (vx_var 1) va_nil))))) (va_cons (vx_var 1) (va_cons (vx_var 2) (va_cons (vx_var 3) va_nil)))))))) va_nil))))))))
theorem sc_L_tried : FnScope ["_law_script", "_law_k", "_law_sizes_here"] ["_law_script", "_law_k", "_law_sizes_here"] (defScope s_L_tried) := ⟨rfl, rfl, rfl, by decide +kernel, rfl, by decide +kernel, by decide +kernel⟩
theorem ok_L_tried {P : Program} {w : World} {K : PySem.W.Frag} {mg : Str → Option Value} {base : Heap} {f : Addr} {fd : FuncData} (T : Txt K mg) (F : Fun K "_law_tried" "_law_tried" s_L_tried f fd) (hm : mg "_law_tried" = some (.ref f)) (hb : Binds K fd ["_law_script", "_law_k", "_law_sizes_here"] []) (c_L_all : Cal P w K mg base 1 "_law_all" q_L_all) (c_L_one : Cal P w K mg base 2 "_law_one" q_L_one) (c_L_stone : Cal P w K mg base 2 "_law_stone" q_L_stone) : Cal P w K mg base 3 "_law_tried" q_L_tried := by
  refine Cal.mk' (fn_ok (N := ["_law_script", "_law_k", "_law_sizes_here"]) (F := d_L_tried) F sc_L_tried fun cdv A outer s H E S0 hr => ?_) F hm hb
  exact (vss_cons (vs_if (vt_cmp (op_eqA hr.units) og_eq (vx_call c_L_one (takes_of rfl rfl rfl rfl) hr (by decide) (va_cons (vx_var 0) (va_cons (vx_var 1) (va_cons vx_int va_nil)))) (vx_int (m := .N))) (vss_one (vs_retF (VX.any (vx_call c_L_all (takes_of rfl rfl rfl rfl) hr (by decide) (va_cons (vx_var 2) va_nil))))) vss_nil) (vss_one (vs_retF (VX.any (vx_call c_L_stone (takes_of rfl rfl rfl rfl) hr (by decide) (va_cons (vx_var 0) (va_cons (vx_add (vx_var 1) (vx_int (m := .N))) (va_cons (vx_var 2) va_nil))))))))
theorem sc_law : FnScope ["_law_script", "_law_sizes_here", "_law_looks_here", "_law_stone_here", "_law_out", "_law_lesser", "_law_great", "_law_small", "_law_told", "_law_row", "_law_at", "_law_place"] ["_law_script"] (defScope s_law) := ⟨rfl, rfl, rfl, by decide +kernel, rfl, by decide +kernel, by decide +kernel⟩
theorem okf_law {P : Program} {w : World} {K : PySem.W.Frag} {mg : Str → Option Value} {base : Heap} {f : Addr} {fd : FuncData} (T : Txt K mg) (F : Fun K "law" "law" s_law f fd) (c_L_digits : Cal P w K mg base 1 "_law_digits" q_L_digits) (c_L_marks : Cal P w K mg base 1 "_law_marks" q_L_marks) (c_L_rows_fit : Cal P w K mg base 1 "_law_rows_fit" q_L_rows_fit) (c_L_scene : Cal P w K mg base 5 "_law_scene" q_L_scene) (c_L_tried : Cal P w K mg base 3 "_law_tried" q_L_tried) (c_barred : Cal P w K mg base 6 "barred" q_barred) : FnOk P w K mg base (L2.CX P w) 7 f fd ["_law_script"] (spN mg K q_law) := by
  refine fn_ok (N := ["_law_script", "_law_sizes_here", "_law_looks_here", "_law_stone_here", "_law_out", "_law_lesser", "_law_great", "_law_small", "_law_told", "_law_row", "_law_at", "_law_place"]) (F := d_law) F sc_law fun cdv A outer s H E S0 hr => ?_
  exact (vss_cons (vs_unp (VX.any (vx_call c_L_scene (takes_of rfl rfl rfl rfl) hr (by decide) (va_cons (vx_var 0) va_nil))) (vg_tup rfl (vgs_cons (vg_name sc_law.nd) (vgs_cons (vg_name sc_law.nd) vgs_nil)))) (vss_cons (vs_fr (i := 3) sc_law.nd (VX.any (vx_call c_L_tried (takes_of rfl rfl rfl rfl) hr (by decide) (va_cons (vx_var 0) (va_cons vx_int (va_cons (vx_var 1) va_nil)))))) (vss_cons (vs_fr (i := 4) sc_law.nd (VX.any (vx_call c_L_digits (takes_of rfl rfl rfl rfl) hr (by decide) (va_cons (vx_var 0) (va_cons vx_int (va_cons vx_int (va_cons (vx_callB call_len cg_len T.m_len (by decide +kernel) (va_cons (vx_var 3) va_nil)) va_nil))))))) (vss_cons (vs_sh (i := 5) sc_law.nd (vx_lc (own := [("_law_at", 10), ("_law_place", 11)]) (m := .E) (by intro z; cases z) rfl sc_law.nd (vi_enum T.m_enumerate (va_cons (vx_varE 3) va_nil)) (blkOk_by (own := [("_law_at", 10), ("_law_place", 11)]) (N := ["_law_script", "_law_sizes_here", "_law_looks_here", "_law_stone_here", "_law_out", "_law_lesser", "_law_great", "_law_small", "_law_told", "_law_row", "_law_at", "_law_place"]) (sc := defScope s_law) (by decide +kernel)) (fun _ => (vg_tup rfl (vgs_cons (vg_name sc_law.nd) (vgs_cons (vg_name sc_law.nd) vgs_nil)))) (fun _ => (vts_one (vt_cmp op_gt og_gt (vx_ix (hu_of hr) (vx_var 4) (vx_var 10)) (vx_int (m := .N))))) (fun _ => (vx_varE 11)))) (vss_cons (vs_fr (i := 6) sc_law.nd (VX.any (vx_call c_barred (takes_of rfl rfl rfl rfl) hr (by decide) (va_cons (vx_var 1) (va_cons (VX.toO (vx_callTy call_list_of cg_list T.m_list (by decide +kernel) (va_cons (vx_var 2) va_nil))) (va_cons (VX.toO (vx_callTy call_list_of cg_list T.m_list (by decide +kernel) (va_cons (vx_var 3) va_nil))) va_nil)))))) (vss_cons (vs_fr (i := 7) sc_law.nd (VX.any (vx_call c_barred (takes_of rfl rfl rfl rfl) hr (by decide) (va_cons (vx_var 1) (va_cons (VX.toO (vx_callTy call_list_of cg_list T.m_list (by decide +kernel) (va_cons (vx_var 2) va_nil))) (va_cons (VX.toO (vx_callTy call_list_of cg_list T.m_list (by decide +kernel) (va_cons (vx_var 5) va_nil))) va_nil)))))) (vss_cons (vs_if (VW.t (vw_or (vt_not (vt_tru (vx_call c_L_rows_fit (takes_of rfl rfl rfl rfl) hr (by decide) (va_cons (vx_var 6) va_nil)))) (vw_or1 (vt_not (vt_tru (vx_call c_L_rows_fit (takes_of rfl rfl rfl rfl) hr (by decide) (va_cons (vx_var 7) va_nil))))))) (vss_one (vs_retF vx_bl)) vss_nil) (vss_cons (vs_ow (i := 8) sc_law.nd (vx_call c_L_marks (takes_of rfl rfl rfl rfl) hr (by decide) (va_cons (VX.toO (vx_lc (own := [("_law_row", 9)]) (m := .N) (by intro z; cases z) rfl sc_law.nd (vi_list (vx_varE 7)) (blkOk_by (own := [("_law_row", 9)]) (N := ["_law_script", "_law_sizes_here", "_law_looks_here", "_law_stone_here", "_law_out", "_law_lesser", "_law_great", "_law_small", "_law_told", "_law_row", "_law_at", "_law_place"]) (sc := defScope s_law) (by decide +kernel)) (fun _ => (vg_name sc_law.nd)) (fun _ => vts_nil) (fun _ => (vx_lf (vx_ix (hu_of hr) (vx_var 9) (vx_int (m := .N))))))) va_nil))) (vss_cons (vs_if (vt_not (vt_tru (vx_callB (m := .N) (cr_all rfl) cg_all T.m_all (by decide +kernel) (va_cons (VX.toO (vx_lcK (a := 8) (own := [("_law_place", 11)]) rfl sc_law.nd (blkOk_by (own := [("_law_place", 11)]) (N := ["_law_script", "_law_sizes_here", "_law_looks_here", "_law_stone_here", "_law_out", "_law_lesser", "_law_great", "_law_small", "_law_told", "_law_row", "_law_at", "_law_place"]) (sc := defScope s_law) (by decide +kernel)) (fun _ => (vg_name sc_law.nd)) (fun _ => vts_nil) (fun _ => (vx_cmp (op_inA (hu65 hr)) og_in (vx_var 11) (vx_var 5))))) va_nil)))) (vss_one (vs_retF vx_bl)) vss_nil) (vss_cons (vs_for (passes_of rfl) rfl (vi_list (vx_varE 6)) (vg_name sc_law.nd) (vss_wipe (ks := [9]) (vss_one (vs_if (VW.t (vw_or (vt_cmp (op_ninA (hu65 hr)) og_nin (vx_ix (hu_of hr) (vx_var 9) (vx_int (m := .N))) (vx_var 3)) (vw_or1 (VW.t (vw_and (vt_cmp (op_inA (hu65 hr)) og_in (vx_ix (hu_of hr) (vx_var 9) (vx_int (m := .N))) (vx_var 5)) (vw_and1 (vt_cmp (op_ninA (hu65 hr)) og_nin (vx_ix (hu_of hr) (vx_var 9) (vx_int (m := .N))) (vx_var 8)))))))) (vss_one (vs_retF vx_bl)) vss_nil)))) (vss_one (vs_retF vx_bl))))))))))))
/-! ### what the top has written; the law's end -/
theorem all_mk {P : Program} {w : World} {K : PySem.W.Frag} {h : Heap} {mg : Str → Option Value} {fa f0 f1 f2 f3 f4 f5 f6 f7 f8 f9 f10 f11 f12 f13 f14 f15 f16 f17 f18 f19 f20 f21 f22 f23 f24 f25 f26 f27 f28 f29 f30 f31 f32 f33 f34 : Addr} {od0 an0 od1 an1 od2 an2 od3 an3 od4 an4 od5 an5 od6 an6 od7 an7 od8 an8 od9 an9 od10 an10 od11 an11 od12 an12 od13 an13 od14 an14 od15 an15 od16 an16 od17 an17 od18 an18 od19 an19 od20 an20 od21 an21 od22 an22 od23 an23 od24 an24 od25 an25 od26 an26 od27 an27 od28 an28 od29 an29 od30 an30 od31 an31 od32 an32 od33 an33 od34 an34 : Option Addr} {sl0 sl1 sl2 sl3 sl4 sl5 sl6 sl7 sl8 sl9 sl10 sl11 sl12 sl13 sl14 sl15 sl16 sl17 sl18 sl19 sl20 sl21 sl22 sl23 sl24 sl25 sl26 sl27 sl28 sl29 sl30 sl31 sl32 sl33 sl34 : Array (Option Value)} {oc0 kV0 dc0 pm0 cd0 ct0 oc1 kV1 dc1 pm1 cd1 ct1 oc2 kV2 dc2 pm2 cd2 ct2 oc3 kV3 dc3 pm3 cd3 ct3 oc4 kV4 dc4 pm4 cd4 ct4 oc5 kV5 dc5 pm5 cd5 ct5 oc6 kV6 dc6 pm6 cd6 ct6 oc7 kV7 dc7 pm7 cd7 ct7 oc8 kV8 dc8 pm8 cd8 ct8 oc9 kV9 dc9 pm9 cd9 ct9 oc10 kV10 dc10 pm10 cd10 ct10 oc11 kV11 dc11 pm11 cd11 ct11 oc12 kV12 dc12 pm12 cd12 ct12 oc13 kV13 dc13 pm13 cd13 ct13 oc14 kV14 dc14 pm14 cd14 ct14 oc15 kV15 dc15 pm15 cd15 ct15 oc16 kV16 dc16 pm16 cd16 ct16 oc17 kV17 dc17 pm17 cd17 ct17 oc18 kV18 dc18 pm18 cd18 ct18 oc19 kV19 dc19 pm19 cd19 ct19 oc20 kV20 dc20 pm20 cd20 ct20 oc21 kV21 dc21 pm21 cd21 ct21 oc22 kV22 dc22 pm22 cd22 ct22 oc23 kV23 dc23 pm23 cd23 ct23 oc24 kV24 dc24 pm24 cd24 ct24 oc25 kV25 dc25 pm25 cd25 ct25 oc26 kV26 dc26 pm26 cd26 ct26 oc27 kV27 dc27 pm27 cd27 ct27 oc28 kV28 dc28 pm28 cd28 ct28 oc29 kV29 dc29 pm29 cd29 ct29 oc30 kV30 dc30 pm30 cd30 ct30 oc31 kV31 dc31 pm31 cd31 ct31 oc32 kV32 dc32 pm32 cd32 ct32 oc33 kV33 dc33 pm33 cd33 ct33 oc34 kV34 dc34 pm34 cd34 ct34 : Value} {yt0 yt1 : Tok} (X : K.In h) (G : h.Ns mainGlobals mg) (hfa : mg "law" = some (.ref fa)) (math : ∀ ns : List Int, ns.length ≤ 63 → q_law [.fz (ns.map .int)] = .ok (.bl true))
    (a0 : PySem.W.nsIn K mainGlobals "places_of" = some (some (.ref f0))) (l0 : K.lookup f0 = some ⟨oc0, od0, .func (PySem.W.fnOf "places_of" "places_of" (defArgs s_places_of) (defBody s_places_of) (defScope s_places_of) .none kV0 dc0 pm0 an0 cd0 ct0), sl0⟩) (c0 : PySem.W.codeIn K cd0 "places_of" = true) (k0 : PySem.W.keepIn K (.ref f0) = true)
    (a1 : PySem.W.nsIn K mainGlobals "inside" = some (some (.ref f1))) (l1 : K.lookup f1 = some ⟨oc1, od1, .func (PySem.W.fnOf "inside" "inside" (defArgs s_inside) (defBody s_inside) (defScope s_inside) .none kV1 dc1 pm1 an1 cd1 ct1), sl1⟩) (c1 : PySem.W.codeIn K cd1 "inside" = true) (k1 : PySem.W.keepIn K (.ref f1) = true)
    (a2 : PySem.W.nsIn K mainGlobals "stepped" = some (some (.ref f2))) (l2 : K.lookup f2 = some ⟨oc2, od2, .func (PySem.W.fnOf "stepped" "stepped" (defArgs s_stepped) (defBody s_stepped) (defScope s_stepped) .none kV2 dc2 pm2 an2 cd2 ct2), sl2⟩) (c2 : PySem.W.codeIn K cd2 "stepped" = true) (k2 : PySem.W.keepIn K (.ref f2) = true)
    (a3 : PySem.W.nsIn K mainGlobals "door_of" = some (some (.ref f3))) (l3 : K.lookup f3 = some ⟨oc3, od3, .func (PySem.W.fnOf "door_of" "door_of" (defArgs s_door_of) (defBody s_door_of) (defScope s_door_of) .none kV3 dc3 pm3 an3 cd3 ct3), sl3⟩) (c3 : PySem.W.codeIn K cd3 "door_of" = true) (k3 : PySem.W.keepIn K (.ref f3) = true)
    (a4 : PySem.W.nsIn K mainGlobals "doors_of" = some (some (.ref f4))) (l4 : K.lookup f4 = some ⟨oc4, od4, .func (PySem.W.fnOf "doors_of" "doors_of" (defArgs s_doors_of) (defBody s_doors_of) (defScope s_doors_of) .none kV4 dc4 pm4 an4 cd4 ct4), sl4⟩) (c4 : PySem.W.codeIn K cd4 "doors_of" = true) (k4 : PySem.W.keepIn K (.ref f4) = true)
    (a5 : PySem.W.nsIn K mainGlobals "marks_of" = some (some (.ref f5))) (l5 : K.lookup f5 = some ⟨oc5, od5, .func (PySem.W.fnOf "marks_of" "marks_of" (defArgs s_marks_of) (defBody s_marks_of) (defScope s_marks_of) .none kV5 dc5 pm5 an5 cd5 ct5), sl5⟩) (c5 : PySem.W.codeIn K cd5 "marks_of" = true) (k5 : PySem.W.keepIn K (.ref f5) = true)
    (a6 : PySem.W.nsIn K mainGlobals "seen_from" = some (some (.ref f6))) (l6 : K.lookup f6 = some ⟨oc6, od6, .func (PySem.W.fnOf "seen_from" "seen_from" (defArgs s_seen_from) (defBody s_seen_from) (defScope s_seen_from) .none kV6 dc6 pm6 an6 cd6 ct6), sl6⟩) (c6 : PySem.W.codeIn K cd6 "seen_from" = true) (k6 : PySem.W.keepIn K (.ref f6) = true)
    (a7 : PySem.W.nsIn K mainGlobals "signs_by_door" = some (some (.ref f7))) (l7 : K.lookup f7 = some ⟨oc7, od7, .func (PySem.W.fnOf "signs_by_door" "signs_by_door" (defArgs s_signs_by_door) (defBody s_signs_by_door) (defScope s_signs_by_door) .none kV7 dc7 pm7 an7 cd7 ct7), sl7⟩) (c7 : PySem.W.codeIn K cd7 "signs_by_door" = true) (k7 : PySem.W.keepIn K (.ref f7) = true)
    (a8 : PySem.W.nsIn K mainGlobals "view_of" = some (some (.ref f8))) (l8 : K.lookup f8 = some ⟨oc8, od8, .func (PySem.W.fnOf "view_of" "view_of" (defArgs s_view_of) (defBody s_view_of) (defScope s_view_of) .none kV8 dc8 pm8 an8 cd8 ct8), sl8⟩) (c8 : PySem.W.codeIn K cd8 "view_of" = true) (k8 : PySem.W.keepIn K (.ref f8) = true)
    (a9 : PySem.W.nsIn K mainGlobals "views_of" = some (some (.ref f9))) (l9 : K.lookup f9 = some ⟨oc9, od9, .func (PySem.W.fnOf "views_of" "views_of" (defArgs s_views_of) (defBody s_views_of) (defScope s_views_of) .none kV9 dc9 pm9 an9 cd9 ct9), sl9⟩) (c9 : PySem.W.codeIn K cd9 "views_of" = true) (k9 : PySem.W.keepIn K (.ref f9) = true)
    (a10 : PySem.W.nsIn K mainGlobals "bar_in" = some (some (.ref f10))) (l10 : K.lookup f10 = some ⟨oc10, od10, .func (PySem.W.fnOf "bar_in" "bar_in" (defArgs s_bar_in) (defBody s_bar_in) (defScope s_bar_in) .none kV10 dc10 pm10 an10 cd10 ct10), sl10⟩) (c10 : PySem.W.codeIn K cd10 "bar_in" = true) (k10 : PySem.W.keepIn K (.ref f10) = true)
    (a11 : PySem.W.nsIn K mainGlobals "barred" = some (some (.ref f11))) (l11 : K.lookup f11 = some ⟨oc11, od11, .func (PySem.W.fnOf "barred" "barred" (defArgs s_barred) (defBody s_barred) (defScope s_barred) .none kV11 dc11 pm11 an11 cd11 ct11), sl11⟩) (c11 : PySem.W.codeIn K cd11 "barred" = true) (k11 : PySem.W.keepIn K (.ref f11) = true)
    (a12 : PySem.W.nsIn K mainGlobals "_law_digits" = some (some (.ref f12))) (l12 : K.lookup f12 = some ⟨oc12, od12, .func (PySem.W.fnOf "_law_digits" "_law_digits" (defArgs s_L_digits) (defBody s_L_digits) (defScope s_L_digits) .none kV12 dc12 pm12 an12 cd12 ct12), sl12⟩) (c12 : PySem.W.codeIn K cd12 "_law_digits" = true) (k12 : PySem.W.keepIn K (.ref f12) = true)
    (a13 : PySem.W.nsIn K mainGlobals "_law_one" = some (some (.ref f13))) (l13 : K.lookup f13 = some ⟨oc13, od13, .func (PySem.W.fnOf "_law_one" "_law_one" (defArgs s_L_one) (defBody s_L_one) (defScope s_L_one) .none kV13 dc13 pm13 an13 cd13 ct13), sl13⟩) (c13 : PySem.W.codeIn K cd13 "_law_one" = true) (k13 : PySem.W.keepIn K (.ref f13) = true)
    (a14 : PySem.W.nsIn K mainGlobals "_law_sizes" = some (some (.ref f14))) (l14 : K.lookup f14 = some ⟨oc14, od14, .func (PySem.W.fnOf "_law_sizes" "_law_sizes" (defArgs s_L_sizes) (defBody s_L_sizes) (defScope s_L_sizes) .none kV14 dc14 pm14 an14 cd14 ct14), sl14⟩) (c14 : PySem.W.codeIn K cd14 "_law_sizes" = true) (k14 : PySem.W.keepIn K (.ref f14) = true)
    (a15 : PySem.W.nsIn K mainGlobals "_law_measure" = some (some (.ref f15))) (l15 : K.lookup f15 = some ⟨oc15, od15, .func (PySem.W.fnOf "_law_measure" "_law_measure" (defArgs s_L_measure) (defBody s_L_measure) (defScope s_L_measure) .none kV15 dc15 pm15 an15 cd15 ct15), sl15⟩) (c15 : PySem.W.codeIn K cd15 "_law_measure" = true) (k15 : PySem.W.keepIn K (.ref f15) = true)
    (a16 : PySem.W.nsIn K mainGlobals "_law_way" = some (some (.ref f16))) (l16 : K.lookup f16 = some ⟨oc16, od16, .func (PySem.W.fnOf "_law_way" "_law_way" (defArgs s_L_way) (defBody s_L_way) (defScope s_L_way) .none kV16 dc16 pm16 an16 cd16 ct16), sl16⟩) (c16 : PySem.W.codeIn K cd16 "_law_way" = true) (k16 : PySem.W.keepIn K (.ref f16) = true)
    (a17 : PySem.W.nsIn K mainGlobals "_law_all" = some (some (.ref f17))) (l17 : K.lookup f17 = some ⟨oc17, od17, .func (PySem.W.fnOf "_law_all" "_law_all" (defArgs s_L_all) (defBody s_L_all) (defScope s_L_all) .none kV17 dc17 pm17 an17 cd17 ct17), sl17⟩) (c17 : PySem.W.codeIn K cd17 "_law_all" = true) (k17 : PySem.W.keepIn K (.ref f17) = true)
    (a18 : PySem.W.nsIn K mainGlobals "_law_step" = some (some (.ref f18))) (l18 : K.lookup f18 = some ⟨oc18, od18, .func (PySem.W.fnOf "_law_step" "_law_step" (defArgs s_L_step) (defBody s_L_step) (defScope s_L_step) .none kV18 dc18 pm18 an18 cd18 ct18), sl18⟩) (c18 : PySem.W.codeIn K cd18 "_law_step" = true) (k18 : PySem.W.keepIn K (.ref f18) = true)
    (a19 : PySem.W.nsIn K mainGlobals "_law_in" = some (some (.ref f19))) (l19 : K.lookup f19 = some ⟨oc19, od19, .func (PySem.W.fnOf "_law_in" "_law_in" (defArgs s_L_in) (defBody s_L_in) (defScope s_L_in) .none kV19 dc19 pm19 an19 cd19 ct19), sl19⟩) (c19 : PySem.W.codeIn K cd19 "_law_in" = true) (k19 : PySem.W.keepIn K (.ref f19) = true)
    (a20 : PySem.W.nsIn K mainGlobals "_law_door" = some (some (.ref f20))) (l20 : K.lookup f20 = some ⟨oc20, od20, .func (PySem.W.fnOf "_law_door" "_law_door" (defArgs s_L_door) (defBody s_L_door) (defScope s_L_door) .none kV20 dc20 pm20 an20 cd20 ct20), sl20⟩) (c20 : PySem.W.codeIn K cd20 "_law_door" = true) (k20 : PySem.W.keepIn K (.ref f20) = true)
    (a21 : PySem.W.nsIn K mainGlobals "_law_doors" = some (some (.ref f21))) (l21 : K.lookup f21 = some ⟨oc21, od21, .func (PySem.W.fnOf "_law_doors" "_law_doors" (defArgs s_L_doors) (defBody s_L_doors) (defScope s_L_doors) .none kV21 dc21 pm21 an21 cd21 ct21), sl21⟩) (c21 : PySem.W.codeIn K cd21 "_law_doors" = true) (k21 : PySem.W.keepIn K (.ref f21) = true)
    (a22 : PySem.W.nsIn K mainGlobals "_law_marks" = some (some (.ref f22))) (l22 : K.lookup f22 = some ⟨oc22, od22, .func (PySem.W.fnOf "_law_marks" "_law_marks" (defArgs s_L_marks) (defBody s_L_marks) (defScope s_L_marks) .none kV22 dc22 pm22 an22 cd22 ct22), sl22⟩) (c22 : PySem.W.codeIn K cd22 "_law_marks" = true) (k22 : PySem.W.keepIn K (.ref f22) = true)
    (a23 : PySem.W.nsIn K mainGlobals "_law_seen" = some (some (.ref f23))) (l23 : K.lookup f23 = some ⟨oc23, od23, .func (PySem.W.fnOf "_law_seen" "_law_seen" (defArgs s_L_seen) (defBody s_L_seen) (defScope s_L_seen) .none kV23 dc23 pm23 an23 cd23 ct23), sl23⟩) (c23 : PySem.W.codeIn K cd23 "_law_seen" = true) (k23 : PySem.W.keepIn K (.ref f23) = true)
    (a24 : PySem.W.nsIn K mainGlobals "_law_stone" = some (some (.ref f24))) (l24 : K.lookup f24 = some ⟨oc24, od24, .func (PySem.W.fnOf "_law_stone" "_law_stone" (defArgs s_L_stone) (defBody s_L_stone) (defScope s_L_stone) .none kV24 dc24 pm24 an24 cd24 ct24), sl24⟩) (c24 : PySem.W.codeIn K cd24 "_law_stone" = true) (k24 : PySem.W.keepIn K (.ref f24) = true)
    (a25 : PySem.W.nsIn K mainGlobals "_law_letter" = some (some (.ref f25))) (l25 : K.lookup f25 = some ⟨oc25, od25, .func (PySem.W.fnOf "_law_letter" "_law_letter" (defArgs s_L_letter) (defBody s_L_letter) (defScope s_L_letter) .none kV25 dc25 pm25 an25 cd25 ct25), sl25⟩) (c25 : PySem.W.codeIn K cd25 "_law_letter" = true) (k25 : PySem.W.keepIn K (.ref f25) = true)
    (a26 : PySem.W.nsIn K mainGlobals "_law_paint" = some (some (.ref f26))) (l26 : K.lookup f26 = some ⟨oc26, od26, .func (PySem.W.fnOf "_law_paint" "_law_paint" (defArgs s_L_paint) (defBody s_L_paint) (defScope s_L_paint) .none kV26 dc26 pm26 an26 cd26 ct26), sl26⟩) (c26 : PySem.W.codeIn K cd26 "_law_paint" = true) (k26 : PySem.W.keepIn K (.ref f26) = true)
    (a27 : PySem.W.nsIn K mainGlobals "_law_snap" = some (some (.ref f27))) (l27 : K.lookup f27 = some ⟨oc27, od27, .func (PySem.W.fnOf "_law_snap" "_law_snap" (defArgs s_L_snap) (defBody s_L_snap) (defScope s_L_snap) .none kV27 dc27 pm27 an27 cd27 ct27), sl27⟩) (c27 : PySem.W.codeIn K cd27 "_law_snap" = true) (k27 : PySem.W.keepIn K (.ref f27) = true)
    (a28 : PySem.W.nsIn K mainGlobals "_law_spoilt" = some (some (.ref f28))) (l28 : K.lookup f28 = some ⟨oc28, od28, .func (PySem.W.fnOf "_law_spoilt" "_law_spoilt" (defArgs s_L_spoilt) (defBody s_L_spoilt) (defScope s_L_spoilt) .none kV28 dc28 pm28 an28 cd28 ct28), sl28⟩) (c28 : PySem.W.codeIn K cd28 "_law_spoilt" = true) (k28 : PySem.W.keepIn K (.ref f28) = true)
    (a29 : PySem.W.nsIn K mainGlobals "_law_rows_fit" = some (some (.ref f29))) (l29 : K.lookup f29 = some ⟨oc29, od29, .func (PySem.W.fnOf "_law_rows_fit" "_law_rows_fit" (defArgs s_L_rows_fit) (defBody s_L_rows_fit) (defScope s_L_rows_fit) .none kV29 dc29 pm29 an29 cd29 ct29), sl29⟩) (c29 : PySem.W.codeIn K cd29 "_law_rows_fit" = true) (k29 : PySem.W.keepIn K (.ref f29) = true)
    (a30 : PySem.W.nsIn K mainGlobals "_law_looks" = some (some (.ref f30))) (l30 : K.lookup f30 = some ⟨oc30, od30, .func (PySem.W.fnOf "_law_looks" "_law_looks" (defArgs s_L_looks) (defBody s_L_looks) (defScope s_L_looks) .none kV30 dc30 pm30 an30 cd30 ct30), sl30⟩) (c30 : PySem.W.codeIn K cd30 "_law_looks" = true) (k30 : PySem.W.keepIn K (.ref f30) = true)
    (a31 : PySem.W.nsIn K mainGlobals "_law_many" = some (some (.ref f31))) (l31 : K.lookup f31 = some ⟨oc31, od31, .func (PySem.W.fnOf "_law_many" "_law_many" (defArgs s_L_many) (defBody s_L_many) (defScope s_L_many) .none kV31 dc31 pm31 an31 cd31 ct31), sl31⟩) (c31 : PySem.W.codeIn K cd31 "_law_many" = true) (k31 : PySem.W.keepIn K (.ref f31) = true)
    (a32 : PySem.W.nsIn K mainGlobals "_law_scene" = some (some (.ref f32))) (l32 : K.lookup f32 = some ⟨oc32, od32, .func (PySem.W.fnOf "_law_scene" "_law_scene" (defArgs s_L_scene) (defBody s_L_scene) (defScope s_L_scene) .none kV32 dc32 pm32 an32 cd32 ct32), sl32⟩) (c32 : PySem.W.codeIn K cd32 "_law_scene" = true) (k32 : PySem.W.keepIn K (.ref f32) = true)
    (a33 : PySem.W.nsIn K mainGlobals "_law_tried" = some (some (.ref f33))) (l33 : K.lookup f33 = some ⟨oc33, od33, .func (PySem.W.fnOf "_law_tried" "_law_tried" (defArgs s_L_tried) (defBody s_L_tried) (defScope s_L_tried) .none kV33 dc33 pm33 an33 cd33 ct33), sl33⟩) (c33 : PySem.W.codeIn K cd33 "_law_tried" = true) (k33 : PySem.W.keepIn K (.ref f33) = true)
    (a34 : PySem.W.nsIn K mainGlobals "law" = some (some (.ref f34))) (l34 : K.lookup f34 = some ⟨oc34, od34, .func (PySem.W.fnOf "law" "law" (defArgs s_law) (defBody s_law) (defScope s_law) .none kV34 dc34 pm34 an34 cd34 ct34), sl34⟩) (c34 : PySem.W.codeIn K cd34 "law" = true) (k34 : PySem.W.keepIn K (.ref f34) = true)
    (z0 : PySem.W.nsIn K mainGlobals "abs" = some none) (z1 : PySem.W.nsIn K mainGlobals "all" = some none) (z2 : PySem.W.nsIn K mainGlobals "bool" = some none) (z3 : PySem.W.nsIn K mainGlobals "enumerate" = some none) (z4 : PySem.W.nsIn K mainGlobals "int" = some none) (z5 : PySem.W.nsIn K mainGlobals "isinstance" = some none) (z6 : PySem.W.nsIn K mainGlobals "len" = some none) (z7 : PySem.W.nsIn K mainGlobals "list" = some none) (z8 : PySem.W.nsIn K mainGlobals "max" = some none) (z9 : PySem.W.nsIn K mainGlobals "min" = some none) (z10 : PySem.W.nsIn K mainGlobals "range" = some none) (z11 : PySem.W.nsIn K mainGlobals "tuple" = some none) (z12 : PySem.W.nsIn K mainGlobals "zip" = some none) (y0 : PySem.W.nsIn K mainGlobals "SKY" = some (some (.str ("." : Str) yt0))) (y1 : PySem.W.nsIn K mainGlobals "VEIL" = some (some (.str ("?" : Str) yt1)))
     :
    ∃ fd : FuncData, (∀ (s : Shared) (v : Value), BindsTo s fd ⟨[v], []⟩ [("_law_script", v)]) ∧ ∀ base : Heap, K.In base → base.Ns mainGlobals mg → FnOk P w K mg base (L2.CX P w) 7 fa fd ["_law_script"] (spLaw K) := by
  have e := hfa.symm.trans (PySem.W.mg_of X G a34)
  cases e
  have T : Txt K mg := ⟨trivial, PySem.W.mg_none_of X G z0, PySem.W.mg_none_of X G z1, PySem.W.mg_none_of X G z2, PySem.W.mg_none_of X G z3, PySem.W.mg_none_of X G z4, PySem.W.mg_none_of X G z5, PySem.W.mg_none_of X G z6, PySem.W.mg_none_of X G z7, PySem.W.mg_none_of X G z8, PySem.W.mg_none_of X G z9, PySem.W.mg_none_of X G z10, PySem.W.mg_none_of X G z11, PySem.W.mg_none_of X G z12, ⟨_, PySem.W.mg_of X G y0⟩, ⟨_, PySem.W.mg_of X G y1⟩⟩
  have F0 := fun_mk (st := s_places_of) l0 c0 k0
  have b0 := F0.binds (ps := ["sizes"]) fun _ _ _ _ _ _ us hl => match us, hl with | [_], _ => rfl
  have F1 := fun_mk (st := s_inside) l1 c1 k1
  have b1 := F1.binds (ps := ["sizes", "place"]) fun _ _ _ _ _ _ us hl => match us, hl with | [_, _], _ => rfl
  have F2 := fun_mk (st := s_stepped) l2 c2 k2
  have b2 := F2.binds (ps := ["place", "way", "many"]) fun _ _ _ _ _ _ us hl => match us, hl with | [_, _, _], _ => rfl
  have F3 := fun_mk (st := s_door_of) l3 c3 k3
  have b3 := F3.binds (ps := ["sizes", "way", "place"]) fun _ _ _ _ _ _ us hl => match us, hl with | [_, _, _], _ => rfl
  have F4 := fun_mk (st := s_doors_of) l4 c4 k4
  have b4 := F4.binds (ps := ["sizes", "way"]) fun _ _ _ _ _ _ us hl => match us, hl with | [_, _], _ => rfl
  have F5 := fun_mk (st := s_marks_of) l5 c5 k5
  have b5 := F5.binds (ps := ["stone"]) fun _ _ _ _ _ _ us hl => match us, hl with | [_], _ => rfl
  have F6 := fun_mk (st := s_seen_from) l6 c6 k6
  have b6 := F6.binds (ps := ["sizes", "way", "stone"]) fun _ _ _ _ _ _ us hl => match us, hl with | [_, _, _], _ => rfl
  have F7 := fun_mk (st := s_signs_by_door) l7 c7 k7
  have b7 := F7.binds (ps := ["sizes", "way", "picture"]) fun _ _ _ _ _ _ us hl => match us, hl with | [_, _, _], _ => rfl
  have F8 := fun_mk (st := s_view_of) l8 c8 k8
  have b8 := F8.binds (ps := ["sizes", "look", "stone"]) fun _ _ _ _ _ _ us hl => match us, hl with | [_, _, _], _ => rfl
  have F9 := fun_mk (st := s_views_of) l9 c9 k9
  have b9 := F9.binds (ps := ["sizes", "looks", "stone"]) fun _ _ _ _ _ _ us hl => match us, hl with | [_, _, _], _ => rfl
  have F10 := fun_mk (st := s_bar_in) l10 c10 k10
  have b10 := F10.binds (ps := ["views", "place"]) fun _ _ _ _ _ _ us hl => match us, hl with | [_, _], _ => rfl
  have F11 := fun_mk (st := s_barred) l11 c11 k11
  have b11 := F11.binds (ps := ["sizes", "looks", "stone"]) fun _ _ _ _ _ _ us hl => match us, hl with | [_, _, _], _ => rfl
  have F12 := fun_mk (st := s_L_digits) l12 c12 k12
  have b12 := F12.binds (ps := ["_law_script", "_law_k", "_law_base", "_law_many_here"]) fun _ _ _ _ _ _ us hl => match us, hl with | [_, _, _, _], _ => rfl
  have F13 := fun_mk (st := s_L_one) l13 c13 k13
  have b13 := F13.binds (ps := ["_law_script", "_law_k", "_law_base"]) fun _ _ _ _ _ _ us hl => match us, hl with | [_, _, _], _ => rfl
  have F14 := fun_mk (st := s_L_sizes) l14 c14 k14
  have b14 := F14.binds (ps := ["_law_script", "_law_k"]) fun _ _ _ _ _ _ us hl => match us, hl with | [_, _], _ => rfl
  have F15 := fun_mk (st := s_L_measure) l15 c15 k15
  have b15 := F15.binds (ps := ["_law_one_here", "_law_other"]) fun _ _ _ _ _ _ us hl => match us, hl with | [_, _], _ => rfl
  have F16 := fun_mk (st := s_L_way) l16 c16 k16
  have b16 := F16.binds (ps := ["_law_script", "_law_k"]) fun _ _ _ _ _ _ us hl => match us, hl with | [_, _], _ => rfl
  have F17 := fun_mk (st := s_L_all) l17 c17 k17
  have b17 := F17.binds (ps := ["_law_sizes_here"]) fun _ _ _ _ _ _ us hl => match us, hl with | [_], _ => rfl
  have F18 := fun_mk (st := s_L_step) l18 c18 k18
  have b18 := F18.binds (ps := ["_law_place", "_law_way_here", "_law_many_here"]) fun _ _ _ _ _ _ us hl => match us, hl with | [_, _, _], _ => rfl
  have F19 := fun_mk (st := s_L_in) l19 c19 k19
  have b19 := F19.binds (ps := ["_law_sizes_here", "_law_place"]) fun _ _ _ _ _ _ us hl => match us, hl with | [_, _], _ => rfl
  have F20 := fun_mk (st := s_L_door) l20 c20 k20
  have b20 := F20.binds (ps := ["_law_sizes_here", "_law_way_here", "_law_place"]) fun _ _ _ _ _ _ us hl => match us, hl with | [_, _, _], _ => rfl
  have F21 := fun_mk (st := s_L_doors) l21 c21 k21
  have b21 := F21.binds (ps := ["_law_sizes_here", "_law_way_here"]) fun _ _ _ _ _ _ us hl => match us, hl with | [_, _], _ => rfl
  have F22 := fun_mk (st := s_L_marks) l22 c22 k22
  have b22 := F22.binds (ps := ["_law_stone_here"]) fun _ _ _ _ _ _ us hl => match us, hl with | [_], _ => rfl
  have F23 := fun_mk (st := s_L_seen) l23 c23 k23
  have b23 := F23.binds (ps := ["_law_sizes_here", "_law_way_here", "_law_marks_here", "_law_place"]) fun _ _ _ _ _ _ us hl => match us, hl with | [_, _, _, _], _ => rfl
  have F24 := fun_mk (st := s_L_stone) l24 c24 k24
  have b24 := F24.binds (ps := ["_law_script", "_law_k", "_law_sizes_here"]) fun _ _ _ _ _ _ us hl => match us, hl with | [_, _, _], _ => rfl
  have F25 := fun_mk (st := s_L_letter) l25 c25 k25
  have b25 := F25.binds (ps := ["_law_number"]) fun _ _ _ _ _ _ us hl => match us, hl with | [_], _ => rfl
  have F26 := fun_mk (st := s_L_paint) l26 c26 k26
  have b26 := F26.binds (ps := ["_law_script", "_law_k", "_law_stone_here"]) fun _ _ _ _ _ _ us hl => match us, hl with | [_, _, _], _ => rfl
  have F27 := fun_mk (st := s_L_snap) l27 c27 k27
  have b27 := F27.binds (ps := ["_law_sizes_here", "_law_way_here", "_law_stone_here", "_law_paint_here"]) fun _ _ _ _ _ _ us hl => match us, hl with | [_, _, _, _], _ => rfl
  have F28 := fun_mk (st := s_L_spoilt) l28 c28 k28
  have b28 := F28.binds (ps := ["_law_script", "_law_k", "_law_picture"]) fun _ _ _ _ _ _ us hl => match us, hl with | [_, _, _], _ => rfl
  have F29 := fun_mk (st := s_L_rows_fit) l29 c29 k29
  have b29 := F29.binds (ps := ["_law_found"]) fun _ _ _ _ _ _ us hl => match us, hl with | [_], _ => rfl
  have F30 := fun_mk (st := s_L_looks) l30 c30 k30
  have b30 := F30.binds (ps := ["_law_script", "_law_k", "_law_many_here", "_law_sizes_here", "_law_stone_here", "_law_paint_here"]) fun _ _ _ _ _ _ us hl => match us, hl with | [_, _, _, _, _, _], _ => rfl
  have F31 := fun_mk (st := s_L_many) l31 c31 k31
  have b31 := F31.binds (ps := ["_law_script", "_law_k", "_law_sizes_here"]) fun _ _ _ _ _ _ us hl => match us, hl with | [_, _, _], _ => rfl
  have F32 := fun_mk (st := s_L_scene) l32 c32 k32
  have b32 := F32.binds (ps := ["_law_script"]) fun _ _ _ _ _ _ us hl => match us, hl with | [_], _ => rfl
  have F33 := fun_mk (st := s_L_tried) l33 c33 k33
  have b33 := F33.binds (ps := ["_law_script", "_law_k", "_law_sizes_here"]) fun _ _ _ _ _ _ us hl => match us, hl with | [_, _, _], _ => rfl
  have F34 := fun_mk (st := s_law) l34 c34 k34
  refine ⟨PySem.W.fnOf "law" "law" (defArgs s_law) (defBody s_law) (defScope s_law) .none kV34 dc34 pm34 an34 cd34 ct34, fun s v => .of_eq rfl, fun base hK hN => ?_⟩
  have k_places_of : Cal P w K mg base 1 "places_of" q_places_of := ok_places_of T F0 (PySem.W.mg_of X G a0) b0 
  have k_inside : Cal P w K mg base 1 "inside" q_inside := ok_inside T F1 (PySem.W.mg_of X G a1) b1 
  have k_stepped : Cal P w K mg base 1 "stepped" q_stepped := ok_stepped T F2 (PySem.W.mg_of X G a2) b2 
  have k_door_of : Cal P w K mg base 2 "door_of" q_door_of := ok_door_of T F3 (PySem.W.mg_of X G a3) b3 k_inside k_stepped
  have k_doors_of : Cal P w K mg base 2 "doors_of" q_doors_of := ok_doors_of T F4 (PySem.W.mg_of X G a4) b4 k_inside k_places_of k_stepped
  have k_marks_of : Cal P w K mg base 1 "marks_of" q_marks_of := ok_marks_of T F5 (PySem.W.mg_of X G a5) b5 
  have k_seen_from : Cal P w K mg base 2 "seen_from" q_seen_from := ok_seen_from T F6 (PySem.W.mg_of X G a6) b6 k_inside k_marks_of k_stepped
  have k_signs_by_door : Cal P w K mg base 3 "signs_by_door" q_signs_by_door := ok_signs_by_door T F7 (PySem.W.mg_of X G a7) b7 k_doors_of
  have k_view_of : Cal P w K mg base 4 "view_of" q_view_of := ok_view_of T F8 (PySem.W.mg_of X G a8) b8 k_door_of k_seen_from k_signs_by_door
  have k_views_of : Cal P w K mg base 5 "views_of" q_views_of := ok_views_of T F9 (PySem.W.mg_of X G a9) b9 k_view_of
  have k_bar_in : Cal P w K mg base 1 "bar_in" q_bar_in := ok_bar_in T F10 (PySem.W.mg_of X G a10) b10 
  have k_barred : Cal P w K mg base 6 "barred" q_barred := ok_barred T F11 (PySem.W.mg_of X G a11) b11 k_bar_in k_views_of
  have k_L_digits : Cal P w K mg base 1 "_law_digits" q_L_digits := ok_L_digits T F12 (PySem.W.mg_of X G a12) b12 
  have k_L_one : Cal P w K mg base 2 "_law_one" q_L_one := ok_L_one T F13 (PySem.W.mg_of X G a13) b13 k_L_digits
  have k_L_sizes : Cal P w K mg base 2 "_law_sizes" q_L_sizes := ok_L_sizes T F14 (PySem.W.mg_of X G a14) b14 k_L_digits
  have k_L_measure : Cal P w K mg base 1 "_law_measure" q_L_measure := ok_L_measure T F15 (PySem.W.mg_of X G a15) b15 
  have k_L_way : Cal P w K mg base 3 "_law_way" q_L_way := ok_L_way T F16 (PySem.W.mg_of X G a16) b16 k_L_digits k_L_measure k_L_one
  have k_L_all : Cal P w K mg base 1 "_law_all" q_L_all := ok_L_all T F17 (PySem.W.mg_of X G a17) b17 
  have k_L_step : Cal P w K mg base 1 "_law_step" q_L_step := ok_L_step T F18 (PySem.W.mg_of X G a18) b18 
  have k_L_in : Cal P w K mg base 1 "_law_in" q_L_in := ok_L_in T F19 (PySem.W.mg_of X G a19) b19 
  have k_L_door : Cal P w K mg base 2 "_law_door" q_L_door := ok_L_door T F20 (PySem.W.mg_of X G a20) b20 k_L_in k_L_step
  have k_L_doors : Cal P w K mg base 2 "_law_doors" q_L_doors := ok_L_doors T F21 (PySem.W.mg_of X G a21) b21 k_L_all k_L_in k_L_step
  have k_L_marks : Cal P w K mg base 1 "_law_marks" q_L_marks := ok_L_marks T F22 (PySem.W.mg_of X G a22) b22 
  have k_L_seen : Cal P w K mg base 2 "_law_seen" q_L_seen := ok_L_seen T F23 (PySem.W.mg_of X G a23) b23 k_L_in k_L_step
  have k_L_stone : Cal P w K mg base 2 "_law_stone" q_L_stone := ok_L_stone T F24 (PySem.W.mg_of X G a24) b24 k_L_all k_L_digits
  have k_L_letter : Cal P w K mg base 1 "_law_letter" q_L_letter := ok_L_letter T F25 (PySem.W.mg_of X G a25) b25 
  have k_L_paint : Cal P w K mg base 2 "_law_paint" q_L_paint := ok_L_paint T F26 (PySem.W.mg_of X G a26) b26 k_L_digits k_L_letter
  have k_L_snap : Cal P w K mg base 3 "_law_snap" q_L_snap := ok_L_snap T F27 (PySem.W.mg_of X G a27) b27 k_L_door k_L_doors k_L_marks k_L_seen
  have k_L_spoilt : Cal P w K mg base 2 "_law_spoilt" q_L_spoilt := ok_L_spoilt T F28 (PySem.W.mg_of X G a28) b28 k_L_digits k_L_letter
  have k_L_rows_fit : Cal P w K mg base 1 "_law_rows_fit" q_L_rows_fit := ok_L_rows_fit T F29 (PySem.W.mg_of X G a29) b29 
  have k_L_looks : Cal P w K mg base 4 "_law_looks" q_L_looks := ok_L_looks T F30 (PySem.W.mg_of X G a30) b30 k_L_one k_L_snap k_L_spoilt k_L_way
  have k_L_many : Cal P w K mg base 2 "_law_many" q_L_many := ok_L_many T F31 (PySem.W.mg_of X G a31) b31 k_L_digits
  have k_L_scene : Cal P w K mg base 5 "_law_scene" q_L_scene := ok_L_scene T F32 (PySem.W.mg_of X G a32) b32 k_L_looks k_L_many k_L_paint k_L_sizes k_L_stone
  have k_L_tried : Cal P w K mg base 3 "_law_tried" q_L_tried := ok_L_tried T F33 (PySem.W.mg_of X G a33) b33 k_L_all k_L_one k_L_stone
  exact law_imp (okf_law (P := P) (w := w) (base := base) T F34 k_L_digits k_L_marks k_L_rows_fit k_L_scene k_L_tried k_barred) math
end Q
set_option Elab.async false
set_option linter.all false
set_option maxRecDepth 100000
namespace Q
open PySem L2 VL PySem.Spec PyProof.Rows
/-! ### places -/
theorem q_places (s : P3) (h : Sz 100 s) : q_places_of [e3 s] = .ok (.lst ((places s).map e3)) := by
  obtain ⟨a, b, c⟩ := s
  obtain ⟨ha, hb, hc⟩ := h
  simp only at ha hb hc
  have t1 (x y : Int) (acc : List D) (z : Int) (hl : acc.length < 1000001) : turn (tgN 4) b_places_of_1 (.int z) [.sh (e3 (a, b, c)), .ow (.lst acc), .sh (.int x), .sh (.int y), .no] = .nx [.sh (e3 (a, b, c)), .ow (.lst (acc ++ [e3 (x, y, z)])), .sh (.int x), .sh (.int y), .no] := by
    simp [b_places_of_1, sizeLine_eq, show acc.length < 16777216 by omega, e3]
  have l1 (x y : Int) : ((rng c).flatMap fun z => [e3 (x, y, z)]).length = c.toNat := by rw [flatMap_len _ 1 _ fun _ _ => rfl, rng_len]; omega
  have f1 (x y : Int) (acc : List D) (hl : acc.length + c.toNat ≤ 1000000) : forR (tgN 4) b_places_of_1 ((rng c).map .int) [.sh (e3 (a, b, c)), .ow (.lst acc), .sh (.int x), .sh (.int y), .no] = .nx [.sh (e3 (a, b, c)), .ow (.lst (acc ++ (rng c).flatMap fun z => [e3 (x, y, z)])), .sh (.int x), .sh (.int y), .no] :=
    forR_acc .int (fun acc => [.sh (e3 (a, b, c)), .ow (.lst acc), .sh (.int x), .sh (.int y), .no]) _ _ acc 1000000 (by rw [l1]; exact hl) fun acc z _ h => t1 x y acc z (by omega)
  have t2 (x : Int) (acc : List D) (y : Int) (hl : acc.length + c.toNat ≤ 1000000) : turn (tgN 3) b_places_of_2 (.int y) [.sh (e3 (a, b, c)), .ow (.lst acc), .sh (.int x), .no, .no] = .nx [.sh (e3 (a, b, c)), .ow (.lst (acc ++ (rng c).flatMap fun z => [e3 (x, y, z)])), .sh (.int x), .no, .no] := by
    have f := f1 x y acc hl
    simp [b_places_of_2, show idxG (e3 (a, b, c)) (.int 2) = .ok (.int c) by simp [e3], show (-4611686018427387904 : Int) ≤ c by omega, show c < 4611686018427387904 by omega, rngD_0, f]
  have l2 (x : Int) : ((rng b).flatMap fun y => (rng c).flatMap fun z => [e3 (x, y, z)]).length = b.toNat * c.toNat := by rw [flatMap_len _ c.toNat _ fun y _ => l1 x y, rng_len]
  have hbc : b.toNat * c.toNat ≤ 100 * 100 := Nat.mul_le_mul (by omega) (by omega)
  have f2 (x : Int) (acc : List D) (hl : acc.length + b.toNat * c.toNat ≤ 1000000) : forR (tgN 3) b_places_of_2 ((rng b).map .int) [.sh (e3 (a, b, c)), .ow (.lst acc), .sh (.int x), .no, .no] = .nx [.sh (e3 (a, b, c)), .ow (.lst (acc ++ (rng b).flatMap fun y => (rng c).flatMap fun z => [e3 (x, y, z)])), .sh (.int x), .no, .no] :=
    forR_acc .int (fun acc => [.sh (e3 (a, b, c)), .ow (.lst acc), .sh (.int x), .no, .no]) _ _ acc 1000000 (by rw [l2]; exact hl) fun acc y _ h => t2 x acc y (by rw [l1] at h; exact h)
  have t3 (acc : List D) (x : Int) (hl : acc.length + b.toNat * c.toNat ≤ 1000000) : turn (tgN 2) b_places_of_3 (.int x) [.sh (e3 (a, b, c)), .ow (.lst acc), .no, .no, .no] = .nx [.sh (e3 (a, b, c)), .ow (.lst (acc ++ (rng b).flatMap fun y => (rng c).flatMap fun z => [e3 (x, y, z)])), .no, .no, .no] := by
    have f := f2 x acc hl
    simp [b_places_of_3, show idxG (e3 (a, b, c)) (.int 1) = .ok (.int b) by simp [e3], show (-4611686018427387904 : Int) ≤ b by omega, show b < 4611686018427387904 by omega, rngD_0, f]
  have l3 : ((rng a).flatMap fun x => (rng b).flatMap fun y => (rng c).flatMap fun z => [e3 (x, y, z)]).length = a.toNat * (b.toNat * c.toNat) := by rw [flatMap_len _ (b.toNat * c.toNat) _ fun x _ => l2 x, rng_len]
  have habc : a.toNat * (b.toNat * c.toNat) ≤ 100 * (100 * 100) := Nat.mul_le_mul (by omega) hbc
  have f3 : forR (tgN 2) b_places_of_3 ((rng a).map .int) [.sh (e3 (a, b, c)), .ow (.lst []), .no, .no, .no] = .nx [.sh (e3 (a, b, c)), .ow (.lst ([] ++ (rng a).flatMap fun x => (rng b).flatMap fun y => (rng c).flatMap fun z => [e3 (x, y, z)])), .no, .no, .no] :=
    forR_acc .int (fun acc => [.sh (e3 (a, b, c)), .ow (.lst acc), .no, .no, .no]) _ _ [] 1000000 (by rw [l3]; simp only [List.length_nil]; omega) fun acc x _ h => t3 acc x (by rw [l2] at h; exact h)
  rw [List.nil_append] at f3
  have e : ((rng a).flatMap fun x => (rng b).flatMap fun y => (rng c).flatMap fun z => [e3 (x, y, z)]) = (places (a, b, c)).map e3 := by
    simp only [places, List.map_flatMap, List.map_map]
    congr 1; funext x; congr 1; funext y
    induction rng c with
    | nil => rfl
    | cons z zs ih => simp [ih]
  rw [e] at f3
  simp [q_places_of, runF, d_places_of, sizeLine_eq, show idxG (e3 (a, b, c)) (.int 0) = .ok (.int a) by simp [e3], show (-4611686018427387904 : Int) ≤ a by omega, show a < 4611686018427387904 by omega, rngD_0, f3, resM]

/-! ### inside -/
theorem q_inside_gen (s p : P3) (d : D) (i0 : idxG d (.int 0) = .ok (.int p.1)) (i1 : idxG d (.int 1) = .ok (.int p.2.1)) (i2 : idxG d (.int 2) = .ok (.int p.2.2)) : q_inside [e3 s, d] = .ok (.bl (inB s p)) := by
  have t (i : Int) (a b : Int) (ha : idxG d (.int i) = .ok (.int a)) (hb : idxG (e3 s) (.int i) = .ok (.int b)) : turn (tgN 2) b_inside_1 (.int i) [.sh (e3 s), .sh d, .no] = if (decide (0 ≤ a) && decide (a < b)) = true then .nx [.sh (e3 s), .sh d, .no] else .rt (.bl false) := by
    by_cases h1 : a < 0
    · simp [b_inside_1, ha, hb, h1, show ¬ 0 ≤ a by omega]
    · by_cases h2 : a < b
      · simp [b_inside_1, ha, hb, h1, h2, show 0 ≤ a by omega, show ¬ b ≤ a by omega]
      · simp [b_inside_1, ha, hb, h1, h2, show 0 ≤ a by omega, show b ≤ a by omega]
  have t0 := t 0 p.1 s.1 i0 (idx_e3_0 s)
  have t1 := t 1 p.2.1 s.2.1 i1 (idx_e3_1 s)
  have t2 := t 2 p.2.2 s.2.2 i2 (idx_e3_2 s)
  simp only [q_inside, runF, d_inside, List.length_cons, List.length_nil, if_pos, List.map_cons, List.map_nil, sSeq_ap, sFor_ap, eR1_ap, aCons_ap, eC_ap, aNil_ap, bind_ok]
  rw [if_pos (by decide), show (3 : Int).toNat = 3 from rfl, rngD_03]
  simp only [forR_cons, List.replicate, List.cons_append, List.nil_append]
  rw [t0]
  cases c0 : (decide (0 ≤ p.1) && decide (p.1 < s.1)) with
  | false => simp [inB, c0, resM]
  | true =>
    rw [if_pos rfl, next_nx, forR_cons, t1]
    cases c1 : (decide (0 ≤ p.2.1) && decide (p.2.1 < s.2.1)) with
    | false => simp [inB, c0, c1, resM]
    | true =>
      rw [if_pos rfl, next_nx, forR_cons, t2]
      cases c2 : (decide (0 ≤ p.2.2) && decide (p.2.2 < s.2.2)) with
      | false => simp [inB, c0, c1, c2, resM]
      | true => simp [inB, c0, c1, c2, resM]
theorem q_inside_ok (s p : P3) : q_inside [e3 s, e3 p] = .ok (.bl (inB s p)) := q_inside_gen s p _ (by simp) (by simp) (by simp)

theorem q_stepped_ok (p w : P3) (m : Int) (hw : Bw w) : q_stepped [e3 p, e3 w, .int m] = .ok (e3 (stp p w m)) := by
  obtain ⟨h1, h2, h3⟩ := hw
  simp [q_stepped, runF, d_stepped, mul_ok (i := m) (j := w.1) (by omega), mul_ok (i := m) (j := w.2.1) (by omega), mul_ok (i := m) (j := w.2.2) (by omega), sizeLine_eq, resM, stp]
  rfl

theorem q_door_ok (s w p : P3) (hs : Sz 100 s) (hw : Bw w) (hz : Nz w) (hp : inB s p = true) : q_door_of [e3 s, e3 w, e3 p] = .ok (e3 (door s w p)) := by
  obtain ⟨d1, d2, d3⟩ := depth_spec hs hz hp
  have hst (q : P3) := q_stepped_ok q w (-1) hw
  have loop := while_n (c := c_door_of_2) (b := b_door_of_1) (fun i => [.sh (e3 s), .sh (e3 w), .sh (e3 p), .sh (e3 (stp p w (-(i : Int)))), .fr (e3 (stp p w (-(i : Int) - 1)))]) (depth s w p) 1000 (by omega)
    (fun i hi => ⟨by
      have := d1 (i + 1) hi
      rw [show (-((i + 1 : Nat) : Int)) = -(i : Int) - 1 by omega] at this
      simp [c_door_of_2, q_inside_ok, this], by
      simp [b_door_of_1, hst, stp_stp, show (-(1 : Int) + -(i : Int)) = -(i : Int) - 1 by omega, show -((i : Int) + 1) = -(i : Int) - 1 by omega]
      congr 1⟩) (by simp [c_door_of_2, q_inside_ok, d2])
  simp only [Int.ofNat_eq_natCast, Int.natCast_zero, Int.neg_zero, stp_0, Int.zero_sub] at loop
  have e : q_door_of [e3 s, e3 w, e3 p] = resM (d_door_of [.sh (e3 s), .sh (e3 w), .sh (e3 p), .no, .no]) := rfl
  rw [e]
  simp [d_door_of, sizeLine_eq, e3_eta, hst, loop, resM, door]

theorem q_doors_of_ok (s w : P3) (hs : Sz 100 s) (hw : Bw w) : q_doors_of [e3 s, e3 w] = .ok (.lst ((doors s w).map e3)) := by
  have hp := q_places s hs
  have hl := hs.len (n := 100)
  have hst (q : P3) := q_stepped_ok q w (-1) hw
  have hc := compL_filt (tg := tgN 2) (c := c_doors_of_2) (f := e_doors_of_1) e3 [.sh (e3 s), .sh (e3 w), .no] (fun p => !inB s (stp p w (-1))) e3 (places s) (fun p _ => by
    cases h : inB s (stp p w (-1)) <;> simp [pickC, c_doors_of_2, e_doors_of_1, hst, q_inside_ok, h])
  have e : q_doors_of [e3 s, e3 w] = resM (d_doors_of [.sh (e3 s), .sh (e3 w), .no]) := rfl
  rw [e]
  simp -implicitDefEqProofs [d_doors_of, hp, sizeLine_eq, show (places s).length ≤ 16777216 by omega, hc, resM, doors]

theorem q_marks (xs : List P3) (h : xs.length ≤ 1000000) : q_marks_of [.lst (xs.map e3)] = .ok (.dct (marksD xs)) := by
  have key : ∀ (ys : List P3) (kvs : List (List Key × D)), kvs.length + ys.length ≤ 1000000 → lfT kvs = true → forR (tgN 2) b_marks_of_1 (ys.map e3) [.sh (.lst (xs.map e3)), .ow (.dct kvs), .no] = .nx [.sh (.lst (xs.map e3)), .ow (.dct (markD ys kvs)), .no] := by
    intro ys
    induction ys with
    | nil => intro kvs _ _; rfl
    | cons y ys ih =>
      intro kvs hl hf
      have h2 := putT_len kvs (k3 y) (.bl true)
      rw [List.length_cons] at hl
      rw [List.map_cons, forR_cons, show turn (tgN 2) b_marks_of_1 (e3 y) [.sh (.lst (xs.map e3)), .ow (.dct kvs), .no] = .nx [.sh (.lst (xs.map e3)), .ow (.dct (putT kvs (k3 y) (.bl true))), .no] by simp [b_marks_of_1, e3, sizeLine_eq, show kvs.length < 16777216 by omega], next_nx]
      exact ih _ (by omega) (lfT_put hf rfl)
  have k := key xs [] (by simpa using h) rfl
  simp [q_marks_of, runF, d_marks_of, k, resM, marksD]

theorem q_seen_from_ok (s w : P3) (xs : List P3) (hs : Sz 100 s) (hw : Bw w) (hz : Nz w) (hx : ∀ p, p ∈ xs → inB s p = true) (hl : xs.length ≤ 1000000) :
    q_seen_from [e3 s, e3 w, .lst (xs.map e3)] = .ok (.lst ((xs.filter (seenB s w (fun q => decide (q ∈ xs)))).map e3)) := by
  have hst (q : P3) := q_stepped_ok q w (-1) hw
  have e : q_seen_from [e3 s, e3 w, .lst (xs.map e3)] = resM (d_seen_from [.sh (e3 s), .sh (e3 w), .sh (.lst (xs.map e3)), .no, .no, .no, .no]) := rfl
  let st (acc : List D) (a b : Sl) : Rho := [.sh (e3 s), .sh (e3 w), .sh (.lst (xs.map e3)), .fr (.dct (marksD xs)), .ow (.lst acc), a, b]
  have t (acc : List D) (p : P3) (hp : inB s p = true) (ha : acc.length < 1000001) : turn (tgN 5) b_seen_from_3 (e3 p) (st acc .no .no) = .nx (st (acc ++ if seenB s w (fun q => decide (q ∈ xs)) p = true then [e3 p] else []) .no .no) := by
    obtain ⟨d1, d2, d3⟩ := depth_spec hs hz hp
    have stc (i : Nat) : stp (stp p w (-((i : Int) + 1))) w (-1) = stp p w (-(((i + 1 : Nat) : Int) + 1)) := by
      rw [stp_stp, show -((i : Int) + 1) + -1 = -(((i + 1 : Nat) : Int) + 1) by omega]
    have inn (i : Nat) (hi : i < depth s w p) : inB s (stp p w (-((i : Int) + 1))) = true := by
      have := d1 (i + 1) hi
      rw [show -((i + 1 : Nat) : Int) = -((i : Int) + 1) by omega] at this
      exact this
    have go (i : Nat) : b_seen_from_1 (st acc (.sh (e3 p)) (.fr (e3 (stp p w (-((i : Int) + 1)))))) = .nx (st acc (.sh (e3 p)) (.fr (e3 (stp p w (-(((i + 1 : Nat) : Int) + 1)))))) := by
      rw [← stc]
      simp only [b_seen_from_1, st]
      simp [hst]
    rcases seen_cases s w p (fun q => decide (q ∈ xs)) with ⟨h0, h⟩ | ⟨h0, k, h1, h2, h3⟩
    · rw [show -(depth s w p : Int) - 1 = -((depth s w p : Int) + 1) by omega] at d2
      have loop := while_n (c := c_seen_from_2) (b := b_seen_from_1) (fun i => st acc (.sh (e3 p)) (.fr (e3 (stp p w (-((i : Int) + 1)))))) (depth s w p) 1000 (by omega) (fun i hi => ⟨by
        have hm' : ¬ stp p w (-((i : Int) + 1)) ∈ xs := of_decide_eq_false (h i hi)
        simp only [c_seen_from_2, st]
        simp [q_inside_ok, inn i hi, hm'], go i⟩) (by
        simp only [c_seen_from_2, st]
        simp [q_inside_ok, d2])
      rw [show -(((0 : Nat) : Int) + 1) = -1 by decide] at loop
      simp only [st] at loop
      rw [h0]
      simp -implicitDefEqProofs [b_seen_from_3, st, hst, loop, q_inside_ok, d2, sizeLine_eq, show acc.length < 16777216 by omega]
    · have loop := while_n (c := c_seen_from_2) (b := b_seen_from_1) (fun i => st acc (.sh (e3 p)) (.fr (e3 (stp p w (-((i : Int) + 1)))))) k 1000 (by omega) (fun i hi => ⟨by
        have hm' : ¬ stp p w (-((i : Int) + 1)) ∈ xs := of_decide_eq_false (h3 i hi)
        simp only [c_seen_from_2, st]
        simp [q_inside_ok, inn i (by omega), hm'], go i⟩) (by
        have hm' : stp p w (-((k : Int) + 1)) ∈ xs := of_decide_eq_true h2
        simp only [c_seen_from_2, st]
        simp [q_inside_ok, inn k h1, hm'])
      rw [show -(((0 : Nat) : Int) + 1) = -1 by decide] at loop
      simp only [st] at loop
      rw [h0]
      simp -implicitDefEqProofs [b_seen_from_3, st, hst, loop, q_inside_ok, inn k h1]
  have fm (ys : List P3) : (ys.flatMap fun p => if seenB s w (fun q => decide (q ∈ xs)) p = true then [e3 p] else []) = (ys.filter (seenB s w (fun q => decide (q ∈ xs)))).map e3 := by
    induction ys with
    | nil => rfl
    | cons y ys ih =>
      rw [List.flatMap_cons, ih, List.filter_cons]
      cases seenB s w (fun q => decide (q ∈ xs)) y <;> simp
  have loop := forR_acc (tg := tgN 5) (b := b_seen_from_3) e3 (fun acc => st acc .no .no) (fun p => if seenB s w (fun q => decide (q ∈ xs)) p = true then [e3 p] else []) xs [] 1000000 (by
    rw [fm, List.length_map]
    have := List.length_filter_le (seenB s w (fun q => decide (q ∈ xs))) xs
    simp only [List.length_nil]
    omega) (fun acc p hp ha => t acc p (hx p hp) (by omega))
  rw [fm, List.nil_append] at loop
  simp only [st] at loop
  have hm := q_marks xs hl
  rw [e]
  simp -implicitDefEqProofs [d_seen_from, hm, sizeLine_eq, loop, resM]

def signD (s : P3) (l : Lk) : List (List Key × D) := mkD ((doors s l.w).map fun p => (p, eS (sg (doors s l.w) l.pic p)))
theorem q_signs (s : P3) (l : Lk) (hs : Sz 100 s) (hl : LkOk s l) : q_signs_by_door [e3 s, e3 l.w, .str ⟨l.pic.toArray⟩] = .ok (.dct (signD s l)) := by
  have hd := q_doors_of_ok s l.w hs hl.1.bw
  have hlen := hs.len (n := 100)
  have hdl := doors_len s l.w
  have hz := zipS_sg (doors_up s l.w).nodup hl.2
  have loop := forR_put (tg := tgT 2 (tgCons (tgN 4) (tgCons (tgN 5) tgNil))) (b := b_signs_by_door_1) (fun p => D.tup [e3 p, eS (sg (doors s l.w) l.pic p)]) (fun kvs => [.sh (e3 s), .sh (e3 l.w), .sh (.str ⟨l.pic.toArray⟩), .ow (.dct kvs), .no, .no]) (fun p => (p, eS (sg (doors s l.w) l.pic p))) (doors s l.w) [] (by simp only [List.length_nil]; omega) (fun kvs p _ hk => by
    simp only [turn, tgT_ap, tgCons_ap, tgNil_ap, tgN_ap, List.length_cons, List.length_nil, if_pos]
    simp [b_signs_by_door_1, e3, sizeLine_eq, show kvs.length < 16777216 by omega])
  have e : q_signs_by_door [e3 s, e3 l.w, .str ⟨l.pic.toArray⟩] = resM (d_signs_by_door [.sh (e3 s), .sh (e3 l.w), .sh (.str ⟨l.pic.toArray⟩), .no, .no, .no]) := rfl
  rw [e]
  simp -implicitDefEqProofs [d_signs_by_door, hd, hz, loop, resM, signD, mkD]

def viewD (s : P3) (l : Lk) (xs : List P3) : List (List Key × D) := mkD ((xs.filter (seenL s l xs)).map fun p => (p, eS (sign s l p)))
theorem look_signs (s : P3) (l : Lk) (hs : Sz 100 s) (hl : LkOk s l) (p : P3) (hp : inB s p = true) : lookT (signD s l) (k3 (door s l.w p)) = some (eS (sign s l p)) := by
  unfold signD
  rw [look_mkD, if_pos (door_mem hs hl.1.nz hp)]
  rfl
theorem q_view (s : P3) (l : Lk) (xs : List P3) (hs : Sz 100 s) (hl : LkOk s l) (hx : ∀ p, p ∈ xs → inB s p = true) (hlen : xs.length ≤ 1000000) : q_view_of [e3 s, eL l, .lst (xs.map e3)] = .ok (.dct (viewD s l xs)) := by
  have h1 := q_signs s l hs hl
  have h2 := q_seen_from_ok s l.w xs hs hl.1.bw hl.1.nz hx hlen
  have hf : (xs.filter (seenL s l xs)).length ≤ xs.length := List.length_filter_le _ _
  have loop := forR_put (tg := tgN 7) (b := b_view_of_1) e3 (fun kvs => [.sh (e3 s), .sh (eL l), .sh (.lst (xs.map e3)), .sh (e3 l.w), .sh (.str ⟨l.pic.toArray⟩), .fr (.dct (signD s l)), .ow (.dct kvs), .no]) (fun p => (p, eS (sign s l p))) (xs.filter (seenL s l xs)) [] (by simp only [List.length_nil]; omega) (fun kvs p hp hk => by
    have hin := hx p (List.mem_filter.mp hp).1
    have hd := q_door_ok s l.w p hs hl.1.bw hl.1.nz hin
    have hi := idx_dct _ _ _ (look_signs s l hs hl p hin)
    simp only [turn_N]
    simp -implicitDefEqProofs [b_view_of_1, hd, hi, sizeLine_eq, show kvs.length < 16777216 by omega]
    rfl)
  have e : q_view_of [e3 s, eL l, .lst (xs.map e3)] = resM (d_view_of [.sh (e3 s), .sh (eL l), .sh (.lst (xs.map e3)), .no, .no, .no, .no, .no]) := rfl
  have u : sUnp (eVE 1) (tgT 2 (tgCons (tgN 3) (tgCons (tgN 4) tgNil))) [.sh (e3 s), .sh (eL l), .sh (.lst (xs.map e3)), .no, .no, .no, .no, .no] = .nx [.sh (e3 s), .sh (eL l), .sh (.lst (xs.map e3)), .sh (e3 l.w), .sh (.str ⟨l.pic.toArray⟩), .no, .no, .no] := by
    simp [eL]
  have h2' : q_seen_from [e3 s, e3 l.w, .lst (xs.map e3)] = .ok (.lst ((xs.filter (seenL s l xs)).map e3)) := h2
  rw [e]
  unfold d_view_of
  rw [sSeq_ap, u, then_nx]
  simp -implicitDefEqProofs [h1, h2', loop, resM, viewD, mkD]

theorem q_views (s : P3) (ls : List Lk) (xs : List P3) (hs : Sz 100 s) (hl : ∀ l, l ∈ ls → LkOk s l) (hx : ∀ p, p ∈ xs → inB s p = true) (hlen : xs.length ≤ 1000000) (hll : ls.length ≤ 1000000) :
    q_views_of [e3 s, .lst (ls.map eL), .lst (xs.map e3)] = .ok (.lst (ls.map fun l => .dct (viewD s l xs))) := by
  have hc := compL_map (tg := tgN 3) (c := cYes) (f := e_views_of_1) eL [.sh (e3 s), .sh (.lst (ls.map eL)), .sh (.lst (xs.map e3)), .no] (fun l => .dct (viewD s l xs)) ls (fun l h => by
    have hv := q_view s l xs hs (hl l h) hx hlen
    simp -implicitDefEqProofs [e_views_of_1, hv])
  have e : q_views_of [e3 s, .lst (ls.map eL), .lst (xs.map e3)] = resM (d_views_of [.sh (e3 s), .sh (.lst (ls.map eL)), .sh (.lst (xs.map e3)), .no]) := rfl
  rw [e]
  simp -implicitDefEqProofs [d_views_of, sizeLine_eq, show ls.length ≤ 16777216 by omega, hc, resM]

theorem q_bar_in_ok (vs : List Vw) (p : P3) (hv : vs.length ≤ 1000000) : q_bar_in [.lst (vs.map eW), e3 p] = .ok (encB (bar (vs.map (entW p)))) := by
  have key : ∀ (rest : List Vw) (n : Nat) (told : List (Nat × Nat)), told.length + rest.length ≤ 1000000 →
      forR (tgT 2 (tgCons (tgN 3) (tgCons (tgN 4) tgNil))) b_bar_in_1 (enumD n (rest.map eW)) [.sh (.lst (vs.map eW)), .sh (e3 p), .ow (.lst (told.map fun z => .int (z.1 : Nat))), .no, .no] =
        match barL n told (rest.map (entW p)) with
        | .inl m => .rt (.tup [.int (m : Nat), .int (m : Nat)])
        | .inr t => .nx [.sh (.lst (vs.map eW)), .sh (e3 p), .ow (.lst (t.map fun z => .int (z.1 : Nat))), .no, .no] := by
    intro rest
    induction rest with
    | nil => intro n told _; rfl
    | cons v r ih =>
      intro n told hl
      rw [List.length_cons] at hl
      rw [List.map_cons, enumD_cons, forR_cons, List.map_cons, show entW p v = (decide (p ∈ v.ps), v.f p) from rfl, barL]
      have hin := in_eW p v
      have hturn (x : Res) (h : b_bar_in_1 [.sh (.lst (vs.map eW)), .sh (e3 p), .ow (.lst (told.map fun z => .int (z.1 : Nat))), .sh (.int (n : Nat)), .sh (eW v)] = x) : turn (tgT 2 (tgCons (tgN 3) (tgCons (tgN 4) tgNil))) b_bar_in_1 (.tup [.int (n : Nat), eW v]) [.sh (.lst (vs.map eW)), .sh (e3 p), .ow (.lst (told.map fun z => .int (z.1 : Nat))), .no, .no] = x := by
        rw [← h]
        simp only [turn, tgT_ap, tgCons_ap, tgNil_ap, tgN_ap, List.length_cons, List.length_nil, if_pos]
        rfl
      by_cases c : p ∈ v.ps
      · rw [if_pos (decide_eq_true c)]
        have hix := idx_eW p v c
        by_cases c2 : v.f p = 46
        · rw [if_pos c2, hturn (.rt (.tup [.int (n : Nat), .int (n : Nat)])) (by simp -implicitDefEqProofs [b_bar_in_1, hin, c, hix, c2, sizeLine_eq]), next_rt]
        · rw [if_neg c2]
          by_cases c3 : v.f p = 63
          · rw [if_neg (by simpa using c3), hturn (.nx [.sh (.lst (vs.map eW)), .sh (e3 p), .ow (.lst (told.map fun z => .int (z.1 : Nat))), .no, .no]) (by simp -implicitDefEqProofs [b_bar_in_1, hin, c, hix, c3]), next_nx]
            exact ih (n + 1) told (by omega)
          · rw [if_pos c3, hturn (.nx [.sh (.lst (vs.map eW)), .sh (e3 p), .ow (.lst ((told ++ [(n, v.f p)]).map fun z => .int (z.1 : Nat))), .no, .no]) (by simp -implicitDefEqProofs [b_bar_in_1, hin, c, hix, c2, c3, sizeLine_eq, show told.length < 16777216 by omega]), next_nx]
            exact ih (n + 1) (told ++ [(n, v.f p)]) (by rw [List.length_append, List.length_singleton]; omega)
      · rw [if_neg (by simpa using c), hturn (.nx [.sh (.lst (vs.map eW)), .sh (e3 p), .ow (.lst (told.map fun z => .int (z.1 : Nat))), .no, .no]) (by simp -implicitDefEqProofs [b_bar_in_1, hin, c]), next_nx]
        exact ih (n + 1) told (by omega)
  have k := key vs 0 [] (by simpa using hv)
  have hok := barL_ok p vs vs 0 [] (fun i v h => by simpa using h) (fun z hz => nomatch hz)
  have e : q_bar_in [.lst (vs.map eW), e3 p] = resM (d_bar_in [.sh (.lst (vs.map eW)), .sh (e3 p), .no, .no, .no]) := rfl
  rw [e]
  unfold bar
  cases hb : barL 0 [] (vs.map (entW p)) with
  | inl m =>
    rw [hb] at k
    simp only [List.map_nil] at k
    simp -implicitDefEqProofs [d_bar_in, sizeLine_eq, k, resM, encB]
  | inr told =>
    rw [hb] at k
    simp only [List.map_nil] at k
    have ht := hok told hb
    have loop2 : forR (tgN 3) b_bar_in_2 (told.map fun z => .int (z.1 : Nat)) [.sh (.lst (vs.map eW)), .sh (e3 p), .fr (.lst (told.map fun z => .int (z.1 : Nat))), .no, .no] = match barT told with
        | some z => .rt (.tup [.int (z.1 : Nat), .int (z.2 : Nat)])
        | none => .nx [.sh (.lst (vs.map eW)), .sh (e3 p), .fr (.lst (told.map fun z => .int (z.1 : Nat))), .no, .no] := by
      cases told with
      | nil => rfl
      | cons t ts =>
        have look (z : Nat × Nat) (hz : z ∈ t :: ts) : ∃ v, idxG (.lst (vs.map eW)) (.int (z.1 : Nat)) = .ok (eW v) ∧ idxG (eW v) (e3 p) = .ok (eS z.2) := by
          obtain ⟨v, h1, h2, h3⟩ := ht z hz
          have := atI_ok (xs := vs.map eW) (i := (z.1 : Nat)) (x := eW v) (by omega) (by rw [Int.toNat_natCast, List.getElem?_map, h1]; rfl)
          exact ⟨v, by rw [idx_lst, this], by rw [idx_eW p v h2, h3]⟩
        obtain ⟨v0, a1, a2⟩ := look t List.mem_cons_self
        rw [forR_find (fun z : Nat × Nat => D.int (z.1 : Nat)) (fun z => !decide (z.2 = t.2)) (fun z => .tup [.int (t.1 : Nat), .int (z.1 : Nat)]) _ (t :: ts) fun z hz => ?_]
        · rw [show barT (t :: ts) = ((t :: ts).find? fun z => !decide (z.2 = t.2)).map fun z => (t.1, z.1) from rfl]
          cases (t :: ts).find? fun z => !decide (z.2 = t.2) <;> rfl
        · obtain ⟨v, b1, b2⟩ := look z hz
          rw [idx_lst] at a1 b1
          by_cases c : z.2 = t.2 <;> simp -implicitDefEqProofs [b_bar_in_2, a1, a2, b1, b2, c, sizeLine_eq]
    cases hbt : barT told with
    | none =>
      rw [hbt] at loop2
      simp -implicitDefEqProofs [d_bar_in, sizeLine_eq, k, loop2, resM, encB, hbt]
    | some z =>
      rw [hbt] at loop2
      simp -implicitDefEqProofs [d_bar_in, sizeLine_eq, k, loop2, resM, encB, hbt]

theorem views_eW (s : P3) (ls : List Lk) (xs : List P3) : (ls.map fun l => D.dct (viewD s l xs)) = (ls.map fun l => vwOf s l xs).map eW := by rw [List.map_map]; rfl
theorem bar_views (s : P3) (ls : List Lk) (xs : List P3) (p : P3) (hp : p ∈ xs) : bar ((ls.map fun l => vwOf s l xs).map (entW p)) = barP s ls xs p := by
  unfold barP
  rw [List.map_map]
  congr 1
  refine List.map_congr_left fun l _ => ?_
  show (decide (p ∈ xs.filter (seenL s l xs)), sign s l p) = (seenL s l xs p, sign s l p)
  congr 1
  rw [Bool.eq_iff_iff, decide_eq_true_eq, List.mem_filter]
  exact ⟨fun h => h.2, fun h => ⟨hp, h⟩⟩
theorem q_barred_ok (s : P3) (ls : List Lk) (xs : List P3) (hs : Sz 100 s) (hl : ∀ l, l ∈ ls → LkOk s l) (hx : ∀ p, p ∈ xs → inB s p = true) (hlen : xs.length ≤ 1000000) (hll : ls.length ≤ 1000000) :
    q_barred [e3 s, .lst (ls.map eL), .lst (xs.map e3)] = .ok (.lst ((brows s ls xs).map eR)) := by
  have h1 := q_views s ls xs hs hl hx hlen hll
  rw [views_eW] at h1
  have loop := forR_acc (tg := tgN 5) (b := b_barred_1) e3 (fun acc => [.sh (e3 s), .sh (.lst (ls.map eL)), .sh (.lst (xs.map e3)), .fr (.lst ((ls.map fun l => vwOf s l xs).map eW)), .ow (.lst acc), .no, .no]) (rowD (barP s ls xs)) xs [] 1000000 (by
    rw [rowL_flat, List.length_map]
    have := rowL_len (barP s ls xs) xs
    simp only [List.length_nil]
    omega) (fun acc p hp ha => by
    have h2 := q_bar_in_ok (ls.map fun l => vwOf s l xs) p (by rw [List.length_map]; exact hll)
    rw [bar_views s ls xs p hp] at h2
    unfold rowD at ha ⊢
    cases hb : barP s ls xs p with
    | none =>
      rw [hb] at h2
      simp -implicitDefEqProofs only [turn_N]
      simp -implicitDefEqProofs [-List.map_map, b_barred_1, h2, encB]
    | some z =>
      rw [hb] at h2 ha
      simp only [List.length_singleton] at ha
      simp -implicitDefEqProofs only [turn_N]
      simp -implicitDefEqProofs [-List.map_map, b_barred_1, h2, encB, sizeLine_eq, show acc.length < 16777216 by omega, eR])
  rw [rowL_flat, List.nil_append] at loop
  have e : q_barred [e3 s, .lst (ls.map eL), .lst (xs.map e3)] = resM (d_barred [.sh (e3 s), .sh (.lst (ls.map eL)), .sh (.lst (xs.map e3)), .no, .no, .no, .no]) := rfl
  rw [e]
  simp -implicitDefEqProofs [-List.map_map, d_barred, h1, sizeLine_eq, loop, resM, brows]

/-! ### digits -/
def digSt (a : D) (k base many c0 : Int) (s : Int × List Int) : Rho := [.sh a, .sh (.int k), .sh (.int base), .sh (.int many), .sh (.int c0), .fr (.int s.1), .ow (.lst (s.2.map .int)), .no]
theorem t_digits1 (a : D) (k base many c0 : Int) (s : Int × List Int) (t : Int) (hb : 0 < base ∧ base < 1000000) (hl : s.2.length < 1000) :
    turn (tgN 7) b_L_digits_1 (.int t) (digSt a k base many c0 s) = .nx (digSt a k base many c0 (s.1 / base, s.2 ++ [s.1 % base])) := by
  simp [digSt, b_L_digits_1, mod_ok (show 0 < base by omega), fdivN_ok (show 0 < base ∧ base < 1073741824 by omega), sizeLine_eq, show s.2.length < 16777216 by omega]
theorem t_digits2 (a : D) (k base many c0 : Int) (s : Int × List Int) (t : Int) (hb : 0 < base ∧ base < 1000000) (hl : s.2.length < 1000) :
    turn (tgN 7) b_L_digits_2 (.int t) (digSt a k base many c0 s) = .nx (digSt a k base many c0 ((s.1 * 48271 + 1) % 2147483647, s.2 ++ [(s.1 * 48271 + 1) % 2147483647 / 1009 % base])) := by
  simp [digSt, b_L_digits_2, mul_ok (j := 48271) (i := s.1) (by omega), mod_ok (j := 2147483647) (by omega), mod_ok (show 0 < base by omega), fdiv_ok (j := 1009) (by omega), sizeLine_eq, show s.2.length < 16777216 by omega]
theorem q_digits (ns : List Int) (k base many : Int) (hk : 0 ≤ k ∧ k < 1000000) (hb : 0 < base ∧ base < 1000000) (hm : 0 ≤ many ∧ many < 1000) (hn : ns.length ≤ 63) :
    ∃ L : List Int, L.length = many.toNat ∧ (∀ x, x ∈ L → 0 ≤ x ∧ x < base) ∧ q_L_digits [.fz (ns.map .int), .int k, .int base, .int many] = .ok (.lst (L.map .int)) := by
  have cell : ∃ c : Int, sIf (eB (eOp ltG (eV 1) (eBlt lenG (aCons (eV 0) aNil)))) (sSh 4 (eOp idxG (eV 0) (eV 1))) sNil [.sh (.fz (ns.map .int)), .sh (.int k), .sh (.int base), .sh (.int many), .sh (.int 0), .no, .no, .no]
      = .nx [.sh (.fz (ns.map .int)), .sh (.int k), .sh (.int base), .sh (.int many), .sh (.int c), .no, .no, .no] := by
    by_cases h : k < ns.length
    · have e : (ns.map D.int)[k.toNat]? = some (.int (ns[k.toNat]'(by omega))) := by simp [show k.toNat < ns.length by omega]
      exact ⟨ns[k.toNat]'(by omega), by simp [h, atI_ok hk.1 e]⟩
    · exact ⟨0, by simp [h]⟩
  obtain ⟨c, cell⟩ := cell
  have run : ∀ (b : Rho → Res) (g : Int → Int × Int) (n : Int), (∀ (s : Int × List Int) (t : Int), s.2.length < 1000 → turn (tgN 7) b (.int t) (digSt (.fz (ns.map .int)) k base many c s) = .nx (digSt (.fz (ns.map .int)) k base many c ((g s.1).1, s.2 ++ [(g s.1).2]))) → (∀ x, 0 ≤ (g x).2 ∧ (g x).2 < base) →
      ∃ (n' : Int) (L : List Int), L.length = many.toNat ∧ (∀ x, x ∈ L → 0 ≤ x ∧ x < base) ∧ forR (tgN 7) b (rngD 0 many.toNat) (digSt (.fz (ns.map .int)) k base many c (n, [])) = .nx (digSt (.fz (ns.map .int)) k base many c (n', L)) := by
    intro b g n ht hg
    have key : ∀ (m : Nat) (i : Nat) (n : Int) (L : List Int), L.length + m ≤ 1000 → (∀ x, x ∈ L → 0 ≤ x ∧ x < base) → ∃ (n' : Int) (L' : List Int), L'.length = L.length + m ∧ (∀ x, x ∈ L' → 0 ≤ x ∧ x < base) ∧
        forR (tgN 7) b ((List.range' i m).map fun i => D.int (0 + (i : Nat))) (digSt (.fz (ns.map .int)) k base many c (n, L)) = .nx (digSt (.fz (ns.map .int)) k base many c (n', L')) := by
      intro m
      induction m with
      | zero => exact fun i n L hl hL => ⟨n, L, rfl, hL, rfl⟩
      | succ m ih =>
        intro i n L hl hL
        obtain ⟨n', L', h1, h2, h3⟩ := ih (i + 1) (g n).1 (L ++ [(g n).2]) (by simp only [List.length_append, List.length_singleton]; omega) (fun x hx => by
          rcases List.mem_append.mp hx with h | h
          · exact hL x h
          · rw [List.mem_singleton.mp h]; exact hg n)
        refine ⟨n', L', by rw [h1]; simp only [List.length_append, List.length_singleton]; omega, h2, ?_⟩
        rw [List.range'_succ, List.map_cons, forR_cons, ht (n, L) _ (by simp only; omega), next_nx]
        exact h3
    obtain ⟨n', L, h1, h2, h3⟩ := key many.toNat 0 n [] (by simp only [List.length_nil]; omega) (fun x hx => nomatch hx)
    refine ⟨n', L, by simpa using h1, h2, ?_⟩
    rw [rngD_map, List.range_eq_range']
    exact h3
  have e0 : q_L_digits [.fz (ns.map .int), .int k, .int base, .int many] = resM (d_L_digits [.sh (.fz (ns.map .int)), .sh (.int k), .sh (.int base), .sh (.int many), .no, .no, .no, .no]) := rfl
  rw [e0]
  unfold d_L_digits
  rw [sSeq_ap, sSh_ap, eC_ap, ofM_ok, then_nx, sSeq_ap, show ([Sl.sh (.fz (ns.map .int)), .sh (.int k), .sh (.int base), .sh (.int many), .no, .no, .no, .no] : Rho).set 4 (.sh (.int 0)) = [.sh (.fz (ns.map .int)), .sh (.int k), .sh (.int base), .sh (.int many), .sh (.int 0), .no, .no, .no] from rfl, cell, then_nx]
  by_cases big : 10 ^ 18 ≤ (if c < 0 then -c else c)
  · obtain ⟨n', L, h1, h2, h3⟩ := run b_L_digits_1 (fun n => (n / base, n % base)) (if c < 0 then -c else c) (fun s t hs => t_digits1 _ k base many c s t hb hs) (fun x => ⟨Int.emod_nonneg _ (by omega), Int.emod_lt_of_pos _ (by omega)⟩)
    refine ⟨L, h1, h2, ?_⟩
    simp only [digSt, List.map_nil] at h3
    have big' : (1000000000000000000 : Int) ≤ if c < 0 then -c else c := big
    simp [big', show many < 4611686018427387904 by omega, show (-4611686018427387904 : Int) ≤ many by omega, h3, resM, sizeLine_eq]
  · obtain ⟨n', L, h1, h2, h3⟩ := run b_L_digits_2 (fun n => ((n * 48271 + 1) % 2147483647, (n * 48271 + 1) % 2147483647 / 1009 % base)) ((c * 7919 + k * 104729 + 17) % 2147483647 + (c * 7919 + k * 104729 + 17) % 2147483647 * ((c * 7919 + k * 104729 + 17) % 2147483647) % 1000000007) (fun s t hs => t_digits2 _ k base many c s t hb hs) (fun x => ⟨Int.emod_nonneg _ (by omega), Int.emod_lt_of_pos _ (by omega)⟩)
    refine ⟨L, h1, h2, ?_⟩
    simp only [digSt, List.map_nil] at h3
    have big' : ¬ (1000000000000000000 : Int) ≤ if c < 0 then -c else c := big
    have w1 := Int.emod_nonneg (c * 7919 + k * 104729 + 17) (show (2147483647 : Int) ≠ 0 by decide)
    have w2 := Int.emod_lt_of_pos (c * 7919 + k * 104729 + 17) (show (0 : Int) < 2147483647 by decide)
    simp [big', show many < 4611686018427387904 by omega, show (-4611686018427387904 : Int) ≤ many by omega, mul_ok (i := c) (j := 7919) (by omega), mul_ok (i := k) (j := 104729) (by omega), mod_ok (j := 2147483647) (by omega), mod_ok (j := 1000000007) (by omega), mul_ok (i := (c * 7919 + k * 104729 + 17) % 2147483647) (j := (c * 7919 + k * 104729 + 17) % 2147483647) (by omega), h3, resM, sizeLine_eq]

/-! ### one digit -/
theorem q_one (ns : List Int) (k base : Int) (hk : 0 ≤ k ∧ k < 1000000) (hb : 0 < base ∧ base < 1000000) (hn : ns.length ≤ 63) :
    ∃ x : Int, 0 ≤ x ∧ x < base ∧ q_L_one [.fz (ns.map .int), .int k, .int base] = .ok (.int x) := by
  obtain ⟨L, h1, h2, h3⟩ := q_digits ns k base 1 hk hb (by decide) hn
  match L, h1, h2, h3 with
  | [x], _, h2, h3 =>
    exact ⟨x, (h2 x List.mem_cons_self).1, (h2 x List.mem_cons_self).2, by simp [q_L_one, runF, d_L_one, h3, resM]⟩

/-! ### sizes -/
theorem q_sizes (ns : List Int) (k : Int) (hk : 0 ≤ k ∧ k < 1000000) (hn : ns.length ≤ 63) : ∃ s : P3, Sz 6 s ∧ q_L_sizes [.fz (ns.map .int), .int k] = .ok (e3 s) := by
  obtain ⟨L, h1, h2, h3⟩ := q_digits ns k 60 4 hk (by decide) (by decide) hn
  match L, h1, h2, h3 with
  | [x, y, z, t], _, h2, h3 =>
    have m2 (i : Int) := mod_ok (i := i) (j := 2) (by decide)
    have m3 (i : Int) := mod_ok (i := i) (j := 3) (by decide)
    have m4 (i : Int) := mod_ok (i := i) (j := 4) (by decide)
    have m6 (i : Int) := mod_ok (i := i) (j := 6) (by decide)
    have f3 (i : Int) := fdiv_ok (i := i) (j := 3) (by decide)
    have e : q_L_sizes [.fz (ns.map .int), .int k] = resM (d_L_sizes [.sh (.fz (ns.map .int)), .sh (.int k), .no, .no, .no]) := rfl
    have tt : t % 3 = 0 ∨ t % 3 = 1 ∨ t % 3 = 2 := by omega
    rw [e]
    by_cases c0 : t / 3 % 4 = 0
    · rcases tt with q | q | q
      · exact ⟨(1 + x % 3, 1 + y % 3, 1 + z % 2), by unfold Sz; simp only; omega, by simp -implicitDefEqProofs [d_L_sizes, h3, m2, m3, m4, m6, f3, c0, q, sizeLine_eq, resM, e3]⟩
      · exact ⟨(1 + y % 3, 1 + z % 2, 1 + x % 3), by unfold Sz; simp only; omega, by simp -implicitDefEqProofs [d_L_sizes, h3, m2, m3, m4, m6, f3, c0, q, sizeLine_eq, resM, e3]⟩
      · exact ⟨(1 + z % 2, 1 + x % 3, 1 + y % 3), by unfold Sz; simp only; omega, by simp -implicitDefEqProofs [d_L_sizes, h3, m2, m3, m4, m6, f3, c0, q, sizeLine_eq, resM, e3]⟩
    · by_cases c1 : t / 3 % 4 = 1
      · rcases tt with q | q | q
        · exact ⟨(1 + x % 6, 1 + y % 2, 1), by unfold Sz; simp only; omega, by simp -implicitDefEqProofs [d_L_sizes, h3, m2, m3, m4, m6, f3, c1, q, sizeLine_eq, resM, e3]⟩
        · exact ⟨(1 + y % 2, 1, 1 + x % 6), by unfold Sz; simp only; omega, by simp -implicitDefEqProofs [d_L_sizes, h3, m2, m3, m4, m6, f3, c1, q, sizeLine_eq, resM, e3]⟩
        · exact ⟨(1, 1 + x % 6, 1 + y % 2), by unfold Sz; simp only; omega, by simp -implicitDefEqProofs [d_L_sizes, h3, m2, m3, m4, m6, f3, c1, q, sizeLine_eq, resM, e3]⟩
      · rcases tt with q | q | q
        · exact ⟨(1 + x % 3, 1 + y % 2, 1 + z % 2), by unfold Sz; simp only; omega, by simp -implicitDefEqProofs [d_L_sizes, h3, m2, m3, m4, m6, f3, c0, c1, q, sizeLine_eq, resM, e3]⟩
        · exact ⟨(1 + y % 2, 1 + z % 2, 1 + x % 3), by unfold Sz; simp only; omega, by simp -implicitDefEqProofs [d_L_sizes, h3, m2, m3, m4, m6, f3, c0, c1, q, sizeLine_eq, resM, e3]⟩
        · exact ⟨(1 + z % 2, 1 + x % 3, 1 + y % 2), by unfold Sz; simp only; omega, by simp -implicitDefEqProofs [d_L_sizes, h3, m2, m3, m4, m6, f3, c0, c1, q, sizeLine_eq, resM, e3]⟩

/-! ### the measure -/
theorem q_measure (a b : Int) (hb : b.natAbs < 900) : q_L_measure [.int a, .int b] = .ok (.int (Int.gcd a b : Nat)) := by
  have loop : ∀ (n : Nat) (x y : Nat) (z : Sl), y < n → whileN c_L_measure_2 b_L_measure_1 n [.sh (.int x), .sh (.int y), .no] = .nx [.sh (.int (Nat.gcd x y : Nat)), .sh (.int 0), .no] := by
    intro n
    induction n with
    | zero => intro x y z h; omega
    | succ n ih =>
      intro x y z h
      by_cases hy : y = 0
      · subst hy
        simp [whileN, c_L_measure_2]
      · have hy' : (0 : Int) < y := by omega
        have hm : x % y < y := Nat.mod_lt _ (by omega)
        rw [whileN, show c_L_measure_2 [.sh (.int x), .sh (.int y), .no] = .ok true by simp [c_L_measure_2]; omega]
        simp only
        rw [show b_L_measure_1 [.sh (.int x), .sh (.int y), .no] = .nx [.sh (.int y), .sh (.int ((x % y : Nat) : Int)), .no] by simp [b_L_measure_1, mod_ok hy']]
        simp only
        rw [ih y (x % y) .no (by omega)]
        rw [Nat.gcd_comm x y, Nat.gcd_rec y x, Nat.gcd_comm (x % y) y]
  have hA (i : Int) : (if i < 0 then -i else i) = (i.natAbs : Nat) := by split <;> omega
  have h := loop 1000 a.natAbs b.natAbs .no (by omega)
  simp [q_L_measure, runF, d_L_measure, hA, h, resM, Int.gcd]

/-! ### a way -/
theorem q_way (ns : List Int) (k : Int) (hk : 0 ≤ k ∧ k < 1000000) (hn : ns.length ≤ 63) : ∃ w : P3, Way w ∧ q_L_way [.fz (ns.map .int), .int k] = .ok (e3 w) := by
  obtain ⟨L, h1, h2, h3⟩ := q_digits ns k 7 3 hk (by decide) (by decide) hn
  obtain ⟨o, _, _, ho⟩ := q_one ns k 98 hk (by decide) hn
  match L, h1, h2, h3 with
  | [x, y, z], _, h2, h3 =>
    have hx := h2 x (by simp)
    have hy := h2 y (by simp)
    have hz := h2 z (by simp)
    -- the row, whatever it became
    have fin (a b c : Int) (ha : -3 ≤ a ∧ a ≤ 3) (hb : -3 ≤ b ∧ b ≤ 3) (hc : -3 ≤ c ∧ c ≤ 3) : ∃ w : P3, Way w ∧
        sSeq (sFr 3 (eCall q_L_measure (aCons (eCall q_L_measure (aCons (eOp idxG (eV 2) (eC (.int 0))) (aCons (eOp idxG (eV 2) (eC (.int 1))) aNil))) (aCons (eOp idxG (eV 2) (eC (.int 2))) aNil)))) (sSeq (sIf (eB (eOp eqG (eV 3) (eC (.int 0)))) (sRet (eTup (aCons (eC (.int 0)) (aCons (eC (.int 0)) (aCons (eC (.int 1)) aNil))))) sNil) (sRet (eTup (aCons (eOp fdivNG (eOp idxG (eV 2) (eC (.int 0))) (eV 3)) (aCons (eOp fdivNG (eOp idxG (eV 2) (eC (.int 1))) (eV 3)) (aCons (eOp fdivNG (eOp idxG (eV 2) (eC (.int 2))) (eV 3)) aNil)))))) 
          [.sh (.fz (ns.map .int)), .sh (.int k), .fr (.lst [.int a, .int b, .int c]), .no, .no] = .rt (e3 w) := by
      have m1 := q_measure a b (by omega)
      have m2 := q_measure (Int.gcd a b : Nat) c (by omega)
      by_cases hg : Int.gcd (Int.gcd a b) c = 0
      · refine ⟨(0, 0, 1), wayB_iff.mp (by decide), ?_⟩
        simp [m1, m2, hg, sizeLine_eq, e3]
      · have hs := gcd_small ha hb hc
        refine ⟨_, way_div ha hb hc hg, ?_⟩
        have d (i : Int) := fdivN_ok (i := i) (j := (Int.gcd (Int.gcd a b) c : Nat)) (by omega)
        simp [m1, m2, hg, sizeLine_eq, e3, d]
    have hq : q_L_way [.fz (ns.map .int), .int k] = resM (d_L_way [.sh (.fz (ns.map .int)), .sh (.int k), .no, .no, .no]) := rfl
    have c1 : sFr 2 (eComp [4] (eLL (eCall q_L_digits (aCons (eV 0) (aCons (eV 1) (aCons (eC (.int 7)) (aCons (eC (.int 3)) aNil)))))) (tgN 4) cYes e_L_way_1) [.sh (.fz (ns.map .int)), .sh (.int k), .no, .no, .no]
        = .nx [.sh (.fz (ns.map .int)), .sh (.int k), .fr (.lst [.int (x - 3), .int (y - 3), .int (z - 3)]), .no, .no] := by
      simp [h3, sizeLine_eq, compL_cons, compL, e_L_way_1]
    unfold d_L_way at hq
    rw [sSeq_ap, c1, then_nx, sSeq_ap] at hq
    by_cases c : o % 2 = 0
    · have c2 : sIf (eB (eOp eqG (eOp modG (eCall q_L_one (aCons (eV 0) (aCons (eV 1) (aCons (eC (.int 98)) aNil)))) (eC (.int 2))) (eC (.int 0)))) (sFr 2 (eComp [4] (eLL (eVE 2)) (tgN 4) cYes e_L_way_2)) sNil [.sh (.fz (ns.map .int)), .sh (.int k), .fr (.lst [.int (x - 3), .int (y - 3), .int (z - 3)]), .no, .no]
          = .nx [.sh (.fz (ns.map .int)), .sh (.int k), .fr (.lst [.int (if (if x - 3 < 1 then x - 3 else 1) > -1 then (if x - 3 < 1 then x - 3 else 1) else -1), .int (if (if y - 3 < 1 then y - 3 else 1) > -1 then (if y - 3 < 1 then y - 3 else 1) else -1), .int (if (if z - 3 < 1 then z - 3 else 1) > -1 then (if z - 3 < 1 then z - 3 else 1) else -1)]), .no, .no] := by
        simp [ho, mod_ok (i := o) (j := 2) (by decide), c, sizeLine_eq, compL_cons, compL, e_L_way_2]
      have cl (t : Int) : -3 ≤ (if (if t - 3 < 1 then t - 3 else 1) > -1 then (if t - 3 < 1 then t - 3 else 1) else -1) ∧ (if (if t - 3 < 1 then t - 3 else 1) > -1 then (if t - 3 < 1 then t - 3 else 1) else -1) ≤ 3 := by
        repeat' split
        all_goals omega
      obtain ⟨w, hw, f⟩ := fin _ _ _ (cl x) (cl y) (cl z)
      rw [c2, then_nx] at hq
      exact ⟨w, hw, by rw [hq, f]; rfl⟩
    · have c2 : sIf (eB (eOp eqG (eOp modG (eCall q_L_one (aCons (eV 0) (aCons (eV 1) (aCons (eC (.int 98)) aNil)))) (eC (.int 2))) (eC (.int 0)))) (sFr 2 (eComp [4] (eLL (eVE 2)) (tgN 4) cYes e_L_way_2)) sNil [.sh (.fz (ns.map .int)), .sh (.int k), .fr (.lst [.int (x - 3), .int (y - 3), .int (z - 3)]), .no, .no]
          = .nx [.sh (.fz (ns.map .int)), .sh (.int k), .fr (.lst [.int (x - 3), .int (y - 3), .int (z - 3)]), .no, .no] := by
        simp [ho, mod_ok (i := o) (j := 2) (by decide), c]
      obtain ⟨w, hw, f⟩ := fin (x - 3) (y - 3) (z - 3) (by omega) (by omega) (by omega)
      rw [c2, then_nx] at hq
      exact ⟨w, hw, by rw [hq, f]; rfl⟩

/-! ### places -/
theorem q_Lall (s : P3) (h : Sz 100 s) : q_L_all [e3 s] = .ok (.lst ((places s).map e3)) := by
  obtain ⟨a, b, c⟩ := s
  obtain ⟨ha, hb, hc⟩ := h
  simp only at ha hb hc
  have t1 (x y : Int) (acc : List D) (z : Int) (hl : acc.length < 1000001) : turn (tgN 4) b_L_all_1 (.int z) [.sh (e3 (a, b, c)), .ow (.lst acc), .sh (.int x), .sh (.int y), .no] = .nx [.sh (e3 (a, b, c)), .ow (.lst (acc ++ [e3 (x, y, z)])), .sh (.int x), .sh (.int y), .no] := by
    simp [b_L_all_1, sizeLine_eq, show acc.length < 16777216 by omega, e3]
  have l1 (x y : Int) : ((rng c).flatMap fun z => [e3 (x, y, z)]).length = c.toNat := by rw [flatMap_len _ 1 _ fun _ _ => rfl, rng_len]; omega
  have f1 (x y : Int) (acc : List D) (hl : acc.length + c.toNat ≤ 1000000) : forR (tgN 4) b_L_all_1 ((rng c).map .int) [.sh (e3 (a, b, c)), .ow (.lst acc), .sh (.int x), .sh (.int y), .no] = .nx [.sh (e3 (a, b, c)), .ow (.lst (acc ++ (rng c).flatMap fun z => [e3 (x, y, z)])), .sh (.int x), .sh (.int y), .no] :=
    forR_acc .int (fun acc => [.sh (e3 (a, b, c)), .ow (.lst acc), .sh (.int x), .sh (.int y), .no]) _ _ acc 1000000 (by rw [l1]; exact hl) fun acc z _ h => t1 x y acc z (by omega)
  have t2 (x : Int) (acc : List D) (y : Int) (hl : acc.length + c.toNat ≤ 1000000) : turn (tgN 3) b_L_all_2 (.int y) [.sh (e3 (a, b, c)), .ow (.lst acc), .sh (.int x), .no, .no] = .nx [.sh (e3 (a, b, c)), .ow (.lst (acc ++ (rng c).flatMap fun z => [e3 (x, y, z)])), .sh (.int x), .no, .no] := by
    have f := f1 x y acc hl
    simp [b_L_all_2, show idxG (e3 (a, b, c)) (.int 2) = .ok (.int c) by simp [e3], show (-4611686018427387904 : Int) ≤ c by omega, show c < 4611686018427387904 by omega, rngD_0, f]
  have l2 (x : Int) : ((rng b).flatMap fun y => (rng c).flatMap fun z => [e3 (x, y, z)]).length = b.toNat * c.toNat := by rw [flatMap_len _ c.toNat _ fun y _ => l1 x y, rng_len]
  have hbc : b.toNat * c.toNat ≤ 100 * 100 := Nat.mul_le_mul (by omega) (by omega)
  have f2 (x : Int) (acc : List D) (hl : acc.length + b.toNat * c.toNat ≤ 1000000) : forR (tgN 3) b_L_all_2 ((rng b).map .int) [.sh (e3 (a, b, c)), .ow (.lst acc), .sh (.int x), .no, .no] = .nx [.sh (e3 (a, b, c)), .ow (.lst (acc ++ (rng b).flatMap fun y => (rng c).flatMap fun z => [e3 (x, y, z)])), .sh (.int x), .no, .no] :=
    forR_acc .int (fun acc => [.sh (e3 (a, b, c)), .ow (.lst acc), .sh (.int x), .no, .no]) _ _ acc 1000000 (by rw [l2]; exact hl) fun acc y _ h => t2 x acc y (by rw [l1] at h; exact h)
  have t3 (acc : List D) (x : Int) (hl : acc.length + b.toNat * c.toNat ≤ 1000000) : turn (tgN 2) b_L_all_3 (.int x) [.sh (e3 (a, b, c)), .ow (.lst acc), .no, .no, .no] = .nx [.sh (e3 (a, b, c)), .ow (.lst (acc ++ (rng b).flatMap fun y => (rng c).flatMap fun z => [e3 (x, y, z)])), .no, .no, .no] := by
    have f := f2 x acc hl
    simp [b_L_all_3, show idxG (e3 (a, b, c)) (.int 1) = .ok (.int b) by simp [e3], show (-4611686018427387904 : Int) ≤ b by omega, show b < 4611686018427387904 by omega, rngD_0, f]
  have l3 : ((rng a).flatMap fun x => (rng b).flatMap fun y => (rng c).flatMap fun z => [e3 (x, y, z)]).length = a.toNat * (b.toNat * c.toNat) := by rw [flatMap_len _ (b.toNat * c.toNat) _ fun x _ => l2 x, rng_len]
  have habc : a.toNat * (b.toNat * c.toNat) ≤ 100 * (100 * 100) := Nat.mul_le_mul (by omega) hbc
  have f3 : forR (tgN 2) b_L_all_3 ((rng a).map .int) [.sh (e3 (a, b, c)), .ow (.lst []), .no, .no, .no] = .nx [.sh (e3 (a, b, c)), .ow (.lst ([] ++ (rng a).flatMap fun x => (rng b).flatMap fun y => (rng c).flatMap fun z => [e3 (x, y, z)])), .no, .no, .no] :=
    forR_acc .int (fun acc => [.sh (e3 (a, b, c)), .ow (.lst acc), .no, .no, .no]) _ _ [] 1000000 (by rw [l3]; simp only [List.length_nil]; omega) fun acc x _ h => t3 acc x (by rw [l2] at h; exact h)
  rw [List.nil_append] at f3
  have e : ((rng a).flatMap fun x => (rng b).flatMap fun y => (rng c).flatMap fun z => [e3 (x, y, z)]) = (places (a, b, c)).map e3 := by
    simp only [places, List.map_flatMap, List.map_map]
    congr 1; funext x; congr 1; funext y
    induction rng c with
    | nil => rfl
    | cons z zs ih => simp [ih]
  rw [e] at f3
  simp [q_L_all, runF, d_L_all, sizeLine_eq, show idxG (e3 (a, b, c)) (.int 0) = .ok (.int a) by simp [e3], show (-4611686018427387904 : Int) ≤ a by omega, show a < 4611686018427387904 by omega, rngD_0, f3, resM]

theorem q_Lstep_gen (p w : P3) (m : Int) (d : D) (i0 : idxG d (.int 0) = .ok (.int w.1)) (i1 : idxG d (.int 1) = .ok (.int w.2.1)) (i2 : idxG d (.int 2) = .ok (.int w.2.2)) (hw : Bw w) : q_L_step [e3 p, d, .int m] = .ok (e3 (stp p w m)) := by
  obtain ⟨h1, h2, h3⟩ := hw
  simp [q_L_step, runF, d_L_step, i0, i1, i2, mul_ok (i := m) (j := w.1) (by omega), mul_ok (i := m) (j := w.2.1) (by omega), mul_ok (i := m) (j := w.2.2) (by omega), sizeLine_eq, resM, stp]
  rfl
theorem q_Lstep_ok (p w : P3) (m : Int) (hw : Bw w) : q_L_step [e3 p, e3 w, .int m] = .ok (e3 (stp p w m)) := q_Lstep_gen p w m _ (by simp) (by simp) (by simp) hw

/-! ### the law's own inside -/
theorem q_Lin_gen (s p : P3) (d : D) (i0 : idxG d (.int 0) = .ok (.int p.1)) (i1 : idxG d (.int 1) = .ok (.int p.2.1)) (i2 : idxG d (.int 2) = .ok (.int p.2.2)) : q_L_in [e3 s, d] = .ok (.bl (inB s p)) := by
  have t (i : Int) (a b : Int) (ha : idxG d (.int i) = .ok (.int a)) (hb : idxG (e3 s) (.int i) = .ok (.int b)) : turn (tgN 2) b_L_in_1 (.int i) [.sh (e3 s), .sh d, .no] = if (decide (0 ≤ a) && decide (a < b)) = true then .nx [.sh (e3 s), .sh d, .no] else .rt (.bl false) := by
    by_cases h1 : 0 ≤ a <;> by_cases h2 : a < b <;> simp [b_L_in_1, ha, hb, h1, h2]
  have t0 := t 0 p.1 s.1 i0 (idx_e3_0 s)
  have t1 := t 1 p.2.1 s.2.1 i1 (idx_e3_1 s)
  have t2 := t 2 p.2.2 s.2.2 i2 (idx_e3_2 s)
  simp only [q_L_in, runF, d_L_in, List.length_cons, List.length_nil, if_pos, List.map_cons, List.map_nil, sSeq_ap, sFor_ap, eR1_ap, aCons_ap, eC_ap, aNil_ap, bind_ok]
  rw [if_pos (by decide), show (3 : Int).toNat = 3 from rfl, rngD_03]
  simp only [forR_cons, List.replicate, List.cons_append, List.nil_append]
  rw [t0]
  cases c0 : (decide (0 ≤ p.1) && decide (p.1 < s.1)) with
  | false => simp [inB, c0, resM]
  | true =>
    rw [if_pos rfl, next_nx, forR_cons, t1]
    cases c1 : (decide (0 ≤ p.2.1) && decide (p.2.1 < s.2.1)) with
    | false => simp [inB, c0, c1, resM]
    | true =>
      rw [if_pos rfl, next_nx, forR_cons, t2]
      cases c2 : (decide (0 ≤ p.2.2) && decide (p.2.2 < s.2.2)) with
      | false => simp [inB, c0, c1, c2, resM]
      | true => simp [inB, c0, c1, c2, resM]
theorem q_Lin_ok (s p : P3) : q_L_in [e3 s, .lst [.int p.1, .int p.2.1, .int p.2.2]] = .ok (.bl (inB s p)) := q_Lin_gen s p _ (by simp) (by simp) (by simp)
theorem q_Lin_e3 (s p : P3) : q_L_in [e3 s, e3 p] = .ok (.bl (inB s p)) := q_Lin_gen s p _ (by simp) (by simp) (by simp)

theorem q_Ldoor_ok (s w p : P3) (hs : Sz 100 s) (hw : Bw w) (hz : Nz w) (hp : inB s p = true) : q_L_door [e3 s, e3 w, e3 p] = .ok (e3 (door s w p)) := by
  obtain ⟨d1, d2, d3⟩ := depth_spec hs hz hp
  have hst (q : P3) := q_Lstep_ok q w (-1) hw
  have loop := while_n (c := c_L_door_2) (b := b_L_door_1) (fun i => [.sh (e3 s), .sh (e3 w), .sh (e3 (stp p w (-(i : Int))))]) (depth s w p) 1000 (by omega)
    (fun i hi => ⟨by
      have := d1 (i + 1) hi
      rw [show -((i + 1 : Nat) : Int) = -((i : Int) + 1) by omega] at this
      simp only [c_L_door_2]
      simp [hst, stp_stp, q_Lin_e3, show -(i : Int) + -1 = -((i : Int) + 1) by omega, this], by
      simp [b_L_door_1, hst, stp_stp, show -(i : Int) + -1 = -((i : Int) + 1) by omega]⟩) (by
      simp only [c_L_door_2]
      simp [hst, stp_stp, q_Lin_e3, show -(depth s w p : Int) + -1 = -(depth s w p : Int) - 1 by omega, d2])
  simp only [Int.natCast_zero, Int.neg_zero, stp_0] at loop
  have e : q_L_door [e3 s, e3 w, e3 p] = resM (d_L_door [.sh (e3 s), .sh (e3 w), .sh (e3 p)]) := rfl
  rw [e]
  simp -implicitDefEqProofs [d_L_door, loop, resM, door]

theorem q_Ldoors (s w : P3) (hs : Sz 100 s) (hw : Bw w) : q_L_doors [e3 s, e3 w] = .ok (.lst ((doors s w).map e3)) := by
  have hp := q_Lall s hs
  have hl := hs.len (n := 100)
  have hst (q : P3) := q_Lstep_ok q w (-1) hw
  have hc := compL_filt (tg := tgN 2) (c := c_L_doors_2) (f := e_L_doors_1) e3 [.sh (e3 s), .sh (e3 w), .no] (fun p => !inB s (stp p w (-1))) e3 (places s) (fun p _ => by
    cases h : inB s (stp p w (-1)) <;> simp [pickC, c_L_doors_2, e_L_doors_1, hst, q_Lin_e3, h])
  have e : q_L_doors [e3 s, e3 w] = resM (d_L_doors [.sh (e3 s), .sh (e3 w), .no]) := rfl
  rw [e]
  simp -implicitDefEqProofs [d_L_doors, hp, sizeLine_eq, show (places s).length ≤ 16777216 by omega, hc, resM, doors]

theorem q_Lmarks (xs : List P3) (h : xs.length ≤ 1000000) : q_L_marks [.lst (xs.map e3)] = .ok (.dct (marksD xs)) := by
  have key : ∀ (ys : List P3) (kvs : List (List Key × D)), kvs.length + ys.length ≤ 1000000 → lfT kvs = true → forR (tgN 2) b_L_marks_1 (ys.map e3) [.sh (.lst (xs.map e3)), .ow (.dct kvs), .no] = .nx [.sh (.lst (xs.map e3)), .ow (.dct (markD ys kvs)), .no] := by
    intro ys
    induction ys with
    | nil => intro kvs _ _; rfl
    | cons y ys ih =>
      intro kvs hl hf
      have h2 := putT_len kvs (k3 y) (.bl true)
      rw [List.length_cons] at hl
      rw [List.map_cons, forR_cons, show turn (tgN 2) b_L_marks_1 (e3 y) [.sh (.lst (xs.map e3)), .ow (.dct kvs), .no] = .nx [.sh (.lst (xs.map e3)), .ow (.dct (putT kvs (k3 y) (.bl true))), .no] by simp [b_L_marks_1, e3, sizeLine_eq, show kvs.length < 16777216 by omega], next_nx]
      exact ih _ (by omega) (lfT_put hf rfl)
  have k := key xs [] (by simpa using h) rfl
  simp [q_L_marks, runF, d_L_marks, k, resM, marksD]

theorem q_Lseen (s w p : P3) (xs : List P3) (hs : Sz 100 s) (hw : Bw w) (hz : Nz w) (hp : inB s p = true) : q_L_seen [e3 s, e3 w, .dct (marksD xs), e3 p] = .ok (.bl (seenB s w (fun q => decide (q ∈ xs)) p)) := by
  obtain ⟨d1, d2, d3⟩ := depth_spec hs hz hp
  have hst (q : P3) := q_Lstep_ok q w (-1) hw
  have e : q_L_seen [e3 s, e3 w, .dct (marksD xs), e3 p] = resM (d_L_seen [.sh (e3 s), .sh (e3 w), .sh (.dct (marksD xs)), .sh (e3 p), .no]) := rfl
  have stc (i : Nat) : stp (stp p w (-((i : Int) + 1))) w (-1) = stp p w (-(((i + 1 : Nat) : Int) + 1)) := by
    rw [stp_stp, show -((i : Int) + 1) + -1 = -(((i + 1 : Nat) : Int) + 1) by omega]
  have inn (i : Nat) (hi : i < depth s w p) : c_L_seen_2 [.sh (e3 s), .sh (e3 w), .sh (.dct (marksD xs)), .sh (e3 p), .fr (e3 (stp p w (-((i : Int) + 1))))] = .ok true := by
    have := d1 (i + 1) hi
    rw [show -((i + 1 : Nat) : Int) = -((i : Int) + 1) by omega] at this
    simp [c_L_seen_2, q_Lin_e3, this]
  have go (i : Nat) (hm : decide (stp p w (-((i : Int) + 1)) ∈ xs) = false) : b_L_seen_1 [.sh (e3 s), .sh (e3 w), .sh (.dct (marksD xs)), .sh (e3 p), .fr (e3 (stp p w (-((i : Int) + 1))))] = .nx [.sh (e3 s), .sh (e3 w), .sh (.dct (marksD xs)), .sh (e3 p), .fr (e3 (stp p w (-(((i + 1 : Nat) : Int) + 1))))] := by
    have hm' : ¬ stp p w (-((i : Int) + 1)) ∈ xs := of_decide_eq_false hm
    rw [← stc]
    simp only [b_L_seen_1]
    simp [hm', hst]
  rw [e]
  rcases seen_cases s w p (fun q => decide (q ∈ xs)) with ⟨h0, h⟩ | ⟨h0, k, h1, h2, h3⟩
  · have loop := while_n (c := c_L_seen_2) (b := b_L_seen_1) (fun i => [.sh (e3 s), .sh (e3 w), .sh (.dct (marksD xs)), .sh (e3 p), .fr (e3 (stp p w (-((i : Int) + 1))))]) (depth s w p) 1000 (by omega) (fun i hi => ⟨inn i hi, go i (h i hi)⟩) (by
      rw [show -(depth s w p : Int) - 1 = -((depth s w p : Int) + 1) by omega] at d2
      simp [c_L_seen_2, q_Lin_e3, d2])
    rw [show -(((0 : Nat) : Int) + 1) = -1 by decide] at loop
    rw [h0]
    simp -implicitDefEqProofs [d_L_seen, hst, loop, resM]
  · have loop := while_ret (c := c_L_seen_2) (b := b_L_seen_1) (fun i => [.sh (e3 s), .sh (e3 w), .sh (.dct (marksD xs)), .sh (e3 p), .fr (e3 (stp p w (-((i : Int) + 1))))]) (.bl false) k 1000 (by omega) (fun i hi => ⟨inn i (by omega), go i (h3 i hi)⟩) (inn k h1) (by
      have h2' : stp p w (-((k : Int) + 1)) ∈ xs := of_decide_eq_true h2
      simp only [b_L_seen_1]
      simp [h2'])
    rw [show -(((0 : Nat) : Int) + 1) = -1 by decide] at loop
    rw [h0]
    simp -implicitDefEqProofs [d_L_seen, hst, loop, resM]

/-! ### a stone -/
theorem enum_zip : ∀ (xs : List P3) (j : Nat), enumD j (xs.map e3) = (xs.zipIdx j).map fun z => D.tup [.int (z.2 : Nat), e3 z.1]
  | [], _ => rfl
  | x :: xs, j => by simp [enumD, enum_zip xs (j + 1)]
theorem filt_sub (P : P3 × Nat → Bool) (xs : List P3) (j : Nat) : (((xs.zipIdx j).filter P).map (·.1)).Sublist xs := by
  have h : ((xs.zipIdx j).map (·.1)) = xs := by simp
  have h2 := (List.filter_sublist (p := P) (l := xs.zipIdx j)).map (·.1)
  rwa [h] at h2
theorem q_stone (ns : List Int) (k : Int) (s : P3) (hk : 0 ≤ k ∧ k < 1000000) (hs : Sz 6 s) (hn : ns.length ≤ 63) : ∃ xs : List P3, xs.Sublist (places s) ∧ q_L_stone [.fz (ns.map .int), .int k, e3 s] = .ok (.lst (xs.map e3)) := by
  have hlen := hs.len (n := 6)
  obtain ⟨R, h1, h2, h3⟩ := q_digits ns k 12 ((places s).length + 1 : Nat) hk (by decide) (by omega) hn
  have hall := q_Lall s (hs.le (by decide))
  rw [Int.toNat_natCast] at h1
  obtain ⟨r0, hr0⟩ : ∃ r0, R[0]? = some r0 := ⟨_, List.getElem?_eq_getElem (by omega)⟩
  have m0 := h2 r0 (List.mem_of_getElem? hr0)
  have i0 : atI (R.map D.int) 0 = some (.int r0) := atI_ok (by decide) (by simp [hr0])
  obtain ⟨dense, hd⟩ : ∃ dense : Int, idxG (.tup [.int 3, .int 6, .int 9, .int 11, .int 12, .int 0]) (.int (r0 % 6)) = .ok (.int dense) := by
    have : r0 % 6 = 0 ∨ r0 % 6 = 1 ∨ r0 % 6 = 2 ∨ r0 % 6 = 3 ∨ r0 % 6 = 4 ∨ r0 % 6 = 5 := by omega
    rcases this with q | q | q | q | q | q <;> rw [q]
    · exact ⟨3, by simp⟩
    · exact ⟨6, by simp⟩
    · exact ⟨9, by simp⟩
    · exact ⟨11, by simp⟩
    · exact ⟨12, by simp⟩
    · exact ⟨0, by simp⟩
  have hc := compL_filt (tg := tgT 2 (tgCons (tgN 6) (tgCons (tgN 7) tgNil))) (c := c_L_stone_2) (f := e_L_stone_1) (fun z : P3 × Nat => D.tup [.int (z.2 : Nat), e3 z.1]) [.sh (.fz (ns.map .int)), .sh (.int k), .sh (e3 s), .fr (.lst ((places s).map e3)), .fr (.lst (R.map .int)), .sh (.int dense), .no, .no]
    (fun z => decide (R.getD (z.2 + 1) 0 < dense)) (fun z => e3 z.1) ((places s).zipIdx 0) (fun z hz => by
      have hz2 : z.2 < (places s).length := by
        have := List.snd_lt_of_mem_zipIdx hz
        omega
      have hg : R[z.2 + 1]? = some (R.getD (z.2 + 1) 0) := by
        rw [List.getD_eq_getElem?_getD, List.getElem?_eq_getElem (by omega)]
        rfl
      have hi : atI (R.map D.int) ((z.2 : Int) + 1) = some (.int (R.getD (z.2 + 1) 0)) := atI_ok (by omega) (by
        rw [show ((z.2 : Int) + 1).toNat = z.2 + 1 by omega, List.getElem?_map, hg]
        rfl)
      show pickC _ _ _ _ _ = .ok (if decide (R.getD (z.2 + 1) 0 < dense) = true then some (e3 z.1) else none)
      generalize R.getD (z.2 + 1) 0 = v at hi ⊢
      by_cases c : v < dense
      · simp only [pickC, tgT_ap, tgCons_ap, tgNil_ap, tgN_ap, List.length_cons, List.length_nil, if_pos, c_L_stone_2, e_L_stone_1, c, decide_true]
        simp [hi, c]
      · simp only [pickC, tgT_ap, tgCons_ap, tgNil_ap, tgN_ap, List.length_cons, List.length_nil, if_pos, c_L_stone_2, e_L_stone_1, c, decide_false]
        simp [hi, c])
  refine ⟨_, filt_sub (fun z => decide (R.getD (z.2 + 1) 0 < dense)) (places s) 0, ?_⟩
  rw [List.map_map]
  rw [show (fun z : P3 × Nat => e3 z.1) = (e3 ∘ fun z => z.1) from rfl] at hc
  have e : q_L_stone [.fz (ns.map .int), .int k, e3 s] = resM (d_L_stone [.sh (.fz (ns.map .int)), .sh (.int k), .sh (e3 s), .no, .no, .no, .no, .no]) := rfl
  rw [e]
  have m6 (i : Int) := mod_ok (i := i) (j := 6) (by decide)
  have h3' : q_L_digits [.fz (ns.map .int), .int k, .int 12, .int (((places s).length : Int) + 1)] = .ok (.lst (R.map .int)) := h3
  simp only [idx_tup] at hd
  simp -implicitDefEqProofs [d_L_stone, hall, h3', i0, m6, hd, sizeLine_eq, enum_zip, show (places s).length ≤ 16777216 by omega, hc, resM]

theorem q_letter (n : Int) : ∃ c : Nat, Letter c ∧ q_L_letter [.int n] = .ok (eS c) := by
  have m := mod_ok (i := n) (j := 26) (by decide)
  have h0 := Int.emod_nonneg n (show (26 : Int) ≠ 0 by decide)
  have h1 := Int.emod_lt_of_pos n (show (0 : Int) < 26 by decide)
  have hi : (n % 26).toNat < abc.length := by show (n % 26).toNat < 26; omega
  have hx : idxG (.str (Str.ofString "abcdefghijklmnopqrstuvwxyz")) (.int (n % 26)) = .ok (eS (abc[(n % 26).toNat])) := by
    rw [abc_eq]
    exact atI_str (by decide) (atI_ok h0 (List.getElem?_eq_getElem hi))
  refine ⟨abc[(n % 26).toNat], abc_all _ (List.getElem_mem hi), ?_⟩
  simp -implicitDefEqProofs [q_L_letter, runF, d_L_letter, m, hx, resM]

theorem q_paint (ns : List Int) (k : Int) (xs : List P3) (hk : 0 ≤ k ∧ k < 1000000) (hx : xs.length < 900) (hn : ns.length ≤ 63) : ∃ cs : List Nat, cs.length = xs.length ∧ (∀ c, c ∈ cs → Letter c) ∧ q_L_paint [.fz (ns.map .int), .int k, .lst (xs.map e3)] = .ok (.str ⟨cs.toArray⟩) := by
  obtain ⟨R, h1, h2, h3⟩ := q_digits ns k 52 ((xs.length + 1 : Nat)) hk (by decide) (by omega) hn
  rw [Int.toNat_natCast] at h1
  match R, h1, h2, h3 with
  | r0 :: R, h1, h2, h3 =>
    have m0 := h2 r0 (by simp)
    obtain ⟨menu, hm, hd⟩ : ∃ menu : Int, 0 < menu ∧ idxG (.tup [.int 2, .int 2, .int 3, .int 26]) (.int (r0 % 4)) = .ok (.int menu) := by
      have : r0 % 4 = 0 ∨ r0 % 4 = 1 ∨ r0 % 4 = 2 ∨ r0 % 4 = 3 := by omega
      rcases this with q | q | q | q <;> rw [q]
      · exact ⟨2, by decide, by simp⟩
      · exact ⟨2, by decide, by simp⟩
      · exact ⟨3, by decide, by simp⟩
      · exact ⟨26, by decide, by simp⟩
    obtain ⟨f, hf⟩ : ∃ f : Int → Nat, ∀ n : Int, Letter (f n) ∧ q_L_letter [.int (r0 + n % menu)] = .ok (eS (f n)) := ⟨fun n => Classical.choose (q_letter (r0 + n % menu)), fun n => Classical.choose_spec (q_letter (r0 + n % menu))⟩
    have hl : R.length = xs.length := by simpa using h1
    have hc := compL_map (tg := tgN 5) (c := cYes) (f := e_L_paint_1) D.int [.sh (.fz (ns.map .int)), .sh (.int k), .sh (.lst (xs.map e3)), .fr (.lst (.int r0 :: R.map .int)), .sh (.int menu), .no] (fun n => eS (f n)) R (fun n _ => by
      have h := (hf n).2
      simp -implicitDefEqProofs [e_L_paint_1, mod_ok hm, h])
    refine ⟨R.map f, by rw [List.length_map, hl], fun c hc => ?_, ?_⟩
    · obtain ⟨n, _, rfl⟩ := List.mem_map.mp hc
      exact (hf n).1
    · have hj := join_eS (R.map f) (by rw [List.length_map]; omega)
      rw [List.map_map] at hj
      have hc' : compL (tgN 5) cYes e_L_paint_1 [.sh (.fz (ns.map .int)), .sh (.int k), .sh (.lst (xs.map e3)), .fr (.lst (.int r0 :: R.map .int)), .sh (.int menu), .no] (R.map .int) = .ok (R.map (eS ∘ f)) := hc
      have h3' : q_L_digits [.fz (ns.map .int), .int k, .int 52, .int ((xs.length : Int) + 1)] = .ok (.lst (.int r0 :: R.map .int)) := h3
      have sl : slG (.lst (.int r0 :: R.map .int)) (some 1) none = .ok (.lst (R.map .int)) := by
        show (if lfA (.int r0 :: R.map .int) = true then M.ok (D.lst (VL.cutD (.int r0 :: R.map .int) (some 1) none)) else M.er) = _
        rw [if_pos (by simp), cut_tail]
      have e : q_L_paint [.fz (ns.map .int), .int k, .lst (xs.map e3)] = resM (d_L_paint [.sh (.fz (ns.map .int)), .sh (.int k), .sh (.lst (xs.map e3)), .no, .no, .no]) := rfl
      rw [e]
      simp only [idx_tup] at hd
      simp -implicitDefEqProofs [d_L_paint, h3', mod_ok (i := r0) (j := 4) (by decide), hd, sl, sizeLine_eq, show R.length ≤ 16777216 by omega, hc', hj, resM]

theorem q_snap (s w : P3) (xs : List P3) (cs : List Nat) (hs : Sz 100 s) (hw : Bw w) (hz : Nz w) (hx : ∀ p, p ∈ xs → inB s p = true) (hu : xs.Nodup) (hl : cs.length = xs.length) (hlen : xs.length ≤ 1000000) :
    q_L_snap [e3 s, e3 w, .lst (xs.map e3), .str ⟨cs.toArray⟩] = .ok (.str ⟨((doors s w).map (shot s w xs (sg xs cs))).toArray⟩) := by
  have hm := q_Lmarks xs hlen
  have hzip := zipS_sg hu hl
  have hdl := doors_len s w
  have hpl := hs.len (n := 100)
  have key : ∀ (ys : List P3) (kvs : List (List Key × D)), (∀ p, p ∈ ys → p ∈ xs) → kvs.length + ys.length ≤ 1000000 → forR (tgT 2 (tgCons (tgN 6) (tgCons (tgN 7) tgNil))) b_L_snap_1 (ys.map fun p => D.tup [e3 p, eS (sg xs cs p)]) [.sh (e3 s), .sh (e3 w), .sh (.lst (xs.map e3)), .sh (.str ⟨cs.toArray⟩), .ow (.dct kvs), .fr (.dct (marksD xs)), .no, .no, .no] =
      .nx [.sh (e3 s), .sh (e3 w), .sh (.lst (xs.map e3)), .sh (.str ⟨cs.toArray⟩), .ow (.dct (snapF s w (fun q => decide (q ∈ xs)) (sg xs cs) kvs ys)), .fr (.dct (marksD xs)), .no, .no, .no] := by
    intro ys
    induction ys with
    | nil => intro kvs _ _; rfl
    | cons y ys ih =>
      intro kvs hy hk
      rw [List.length_cons] at hk
      have hyx := hx y (hy y List.mem_cons_self)
      have h1 := q_Lseen s w y xs hs hw hz hyx
      have h2 := q_Ldoor_ok s w y hs hw hz hyx
      have h3 := putT_len kvs (k3 (door s w y)) (eS (sg xs cs y))
      have t : turn (tgT 2 (tgCons (tgN 6) (tgCons (tgN 7) tgNil))) b_L_snap_1 (D.tup [e3 y, eS (sg xs cs y)]) [.sh (e3 s), .sh (e3 w), .sh (.lst (xs.map e3)), .sh (.str ⟨cs.toArray⟩), .ow (.dct kvs), .fr (.dct (marksD xs)), .no, .no, .no] = .nx [.sh (e3 s), .sh (e3 w), .sh (.lst (xs.map e3)), .sh (.str ⟨cs.toArray⟩), .ow (.dct (if seenB s w (fun q => decide (q ∈ xs)) y = true then putT kvs (k3 (door s w y)) (eS (sg xs cs y)) else kvs)), .fr (.dct (marksD xs)), .no, .no, .no] := by
        generalize door s w y = d at h2 ⊢
        simp only [turn, tgT_ap, tgCons_ap, tgNil_ap, tgN_ap, List.length_cons, List.length_nil, if_pos]
        cases c : seenB s w (fun q => decide (q ∈ xs)) y with
        | true =>
          rw [c] at h1
          simp -implicitDefEqProofs [b_L_snap_1, h1, h2, sizeLine_eq, show kvs.length < 16777216 by omega]
          rfl
        | false =>
          rw [c] at h1
          simp -implicitDefEqProofs [b_L_snap_1, h1]
      rw [List.map_cons, forR_cons, t, next_nx, ih _ (fun p hp => hy p (List.mem_cons_of_mem _ hp)) (by split <;> omega)]
      rfl
  have k := key xs [] (fun p hp => hp) (by simpa using hlen)
  have hd := q_Ldoors s w hs hw
  have hc := compL_map (tg := tgN 8) (c := cYes) (f := e_L_snap_2) e3 [.sh (e3 s), .sh (e3 w), .sh (.lst (xs.map e3)), .sh (.str ⟨cs.toArray⟩), .ow (.dct (snapF s w (fun q => decide (q ∈ xs)) (sg xs cs) [] xs)), .fr (.dct (marksD xs)), .no, .no, .no] (fun d => eS (shot s w xs (sg xs cs) d)) (doors s w) (fun d hd => by
    have hl := look_shot hs hz (mem_doors.mp hd) xs (sg xs cs) hx
    have g : getG (.dct (snapF s w (fun q => decide (q ∈ xs)) (sg xs cs) [] xs)) (e3 d) (.str (Str.ofString ".")) = .ok (eS (shot s w xs (sg xs cs) d)) := by
      rw [← hl]
      unfold getG
      rw [lookD_e3]
      cases lookT (snapF s w (fun q => decide (q ∈ xs)) (sg xs cs) [] xs) (k3 d) with
      | none => rw [sky_eq]; rfl
      | some d => rfl
    simp -implicitDefEqProofs [e_L_snap_2, g])
  have hj := join_eS ((doors s w).map (shot s w xs (sg xs cs))) (by rw [List.length_map]; omega)
  rw [List.map_map] at hj
  have hc' : compL (tgN 8) cYes e_L_snap_2 [.sh (e3 s), .sh (e3 w), .sh (.lst (xs.map e3)), .sh (.str ⟨cs.toArray⟩), .ow (.dct (snapF s w (fun q => decide (q ∈ xs)) (sg xs cs) [] xs)), .fr (.dct (marksD xs)), .no, .no, .no] ((doors s w).map e3) = .ok ((doors s w).map (eS ∘ shot s w xs (sg xs cs))) := hc
  have e : q_L_snap [e3 s, e3 w, .lst (xs.map e3), .str ⟨cs.toArray⟩] = resM (d_L_snap [.sh (e3 s), .sh (e3 w), .sh (.lst (xs.map e3)), .sh (.str ⟨cs.toArray⟩), .no, .no, .no, .no, .no]) := rfl
  rw [e]
  simp -implicitDefEqProofs [d_L_snap, hm, hzip, k, hd, sizeLine_eq, show (doors s w).length ≤ 16777216 by omega, hc', hj, resM]

theorem q_spoilt (ns : List Int) (k : Int) (pic : List Nat) (hk : 0 ≤ k ∧ k < 1000000) (hp : pic.length < 900) (hS : ∀ c, c ∈ pic → Sgn c) (hn : ns.length ≤ 63) : ∃ pic' : List Nat, pic'.length = pic.length ∧ (∀ c, c ∈ pic' → Sgn c) ∧ q_L_spoilt [.fz (ns.map .int), .int k, .str ⟨pic.toArray⟩] = .ok (.str ⟨pic'.toArray⟩) := by
  obtain ⟨R, h1, h2, h3⟩ := q_digits ns k 208 ((pic.length + 1 : Nat)) hk (by decide) (by omega) hn
  rw [Int.toNat_natCast] at h1
  obtain ⟨r0, hr0⟩ : ∃ r0, R[0]? = some r0 := ⟨_, List.getElem?_eq_getElem (by omega)⟩
  have i0 : atI (R.map D.int) 0 = some (.int r0) := atI_ok (by decide) (by simp [hr0])
  have m4 (i : Int) := mod_ok (i := i) (j := 4) (by decide)
  have m8 (i : Int) := mod_ok (i := i) (j := 8) (by decide)
  have m3 (i : Int) := mod_ok (i := i) (j := 3) (by decide)
  have f8 (i : Int) := fdiv_ok (i := i) (j := 8) (by decide)
  generalize hlev : r0 % 4 = lev
  let st (acc : List Nat) : Rho := [.sh (.fz (ns.map .int)), .sh (.int k), .sh (.str ⟨pic.toArray⟩), .fr (.lst (R.map .int)), .fr (.int lev), .ow (.lst (acc.map eS)), .no, .no, .no]
  have t (i : Nat) (c : Nat) (acc : List Nat) (hi : i < pic.length) (hc : Sgn c) (ha : acc.length < 1000000) : ∃ c', Sgn c' ∧ turn (tgT 2 (tgCons (tgN 6) (tgCons (tgN 7) tgNil))) b_L_spoilt_1 (.tup [.int (i : Nat), .str ⟨#[c]⟩]) (st acc) = .nx (st (acc ++ [c'])) := by
    obtain ⟨x, hx⟩ : ∃ x, R[i + 1]? = some x := ⟨_, List.getElem?_eq_getElem (by omega)⟩
    have ix : atI (R.map D.int) ((i : Int) + 1) = some (.int x) := atI_ok (by omega) (by rw [show ((i : Int) + 1).toNat = i + 1 by omega, List.getElem?_map, hx]; rfl)
    have t0 : turn (tgT 2 (tgCons (tgN 6) (tgCons (tgN 7) tgNil))) b_L_spoilt_1 (.tup [.int (i : Nat), .str ⟨#[c]⟩]) (st acc) = b_L_spoilt_1 [.sh (.fz (ns.map .int)), .sh (.int k), .sh (.str ⟨pic.toArray⟩), .fr (.lst (R.map .int)), .fr (.int lev), .ow (.lst (acc.map eS)), .sh (.int (i : Nat)), .sh (eS c), .no] := by
      simp only [turn, tgT_ap, tgCons_ap, tgNil_ap, tgN_ap, List.length_cons, List.length_nil, if_pos, st]
      rfl
    have al : acc.length < 16777216 := by omega
    rw [t0]
    have hb0 := Int.emod_nonneg (x / 8) (show (3 : Int) ≠ 0 by decide)
    have hb1 := Int.emod_lt_of_pos (x / 8) (show (0 : Int) < 3 by decide)
    obtain ⟨cl, hcl, el⟩ := q_letter (x / 8)
    obtain ⟨ca, hca, ea⟩ : ∃ ca, Letter ca ∧ idxG (.str (Str.ofString "abz")) (.int (x / 8 % 3)) = .ok (eS ca) := by
      rw [abz_eq]
      have : x / 8 % 3 = 0 ∨ x / 8 % 3 = 1 ∨ x / 8 % 3 = 2 := by omega
      rcases this with q | q | q <;> rw [q]
      · exact ⟨97, by unfold Letter; omega, atI_str (by decide) (by rfl)⟩
      · exact ⟨98, by unfold Letter; omega, atI_str (by decide) (by rfl)⟩
      · exact ⟨122, by unfold Letter; omega, atI_str (by decide) (by rfl)⟩
    have v : (D.str (Str.ofString "?")) = eS 63 := by rw [veil_eq]; rfl
    have y : (D.str (Str.ofString ".")) = eS 46 := by rw [sky_eq]; rfl
    have l0 := Int.emod_nonneg r0 (show (4 : Int) ≠ 0 by decide)
    have l1 := Int.emod_lt_of_pos r0 (show (0 : Int) < 4 by decide)
    have hl : lev = 0 ∨ lev = 1 ∨ lev = 2 ∨ lev = 3 := by omega
    clear hlev
    rcases hl with q | q | q | q
    · exact ⟨c, hc, by simp -implicitDefEqProofs [b_L_spoilt_1, ix, m4, m8, q, sizeLine_eq, al, st, v, y]⟩
    · by_cases h0 : x % 4 = 0
      · exact ⟨63, .inr (.inl rfl), by simp -implicitDefEqProofs [b_L_spoilt_1, ix, m4, m8, q, h0, sizeLine_eq, al, st, v, y]⟩
      · exact ⟨c, hc, by simp -implicitDefEqProofs [b_L_spoilt_1, ix, m4, m8, q, h0, sizeLine_eq, al, st, v, y]⟩
    · by_cases h1 : x % 8 = 1
      · exact ⟨63, .inr (.inl rfl), by simp -implicitDefEqProofs [b_L_spoilt_1, ix, m4, m8, q, h1, sizeLine_eq, al, st, v, y]⟩
      · by_cases h2 : x % 8 = 2
        · exact ⟨46, .inl rfl, by simp -implicitDefEqProofs [b_L_spoilt_1, ix, m4, m8, q, h2, sizeLine_eq, al, st, v, y]⟩
        · by_cases h3 : x % 8 = 3
          · exact ⟨cl, .inr (.inr hcl), by simp -implicitDefEqProofs [b_L_spoilt_1, ix, m4, m8, f8, el, q, h3, sizeLine_eq, al, st, v, y]⟩
          · exact ⟨c, hc, by simp -implicitDefEqProofs [b_L_spoilt_1, ix, m4, m8, q, h1, h2, h3, sizeLine_eq, al, st, v, y]⟩
    · by_cases h1 : x % 8 = 1
      · exact ⟨63, .inr (.inl rfl), by simp -implicitDefEqProofs [b_L_spoilt_1, ix, m4, m8, q, h1, sizeLine_eq, al, st, v, y]⟩
      · by_cases h2 : x % 8 = 2
        · exact ⟨46, .inl rfl, by simp -implicitDefEqProofs [b_L_spoilt_1, ix, m4, m8, q, h2, sizeLine_eq, al, st, v, y]⟩
        · by_cases h3 : 4 < x % 8
          · exact ⟨ca, .inr (.inr hca), by simp -implicitDefEqProofs [b_L_spoilt_1, ix, m4, m8, m3, f8, ea, q, h1, h2, h3, sizeLine_eq, al, st, v, y]⟩
          · exact ⟨c, hc, by simp -implicitDefEqProofs [b_L_spoilt_1, ix, m4, m8, q, h1, h2, h3, sizeLine_eq, al, st, v, y]⟩
  have key : ∀ (ys : List Nat) (i : Nat) (acc : List Nat), i + ys.length ≤ pic.length → acc.length + ys.length ≤ 1000000 → (∀ c, c ∈ ys → Sgn c) → (∀ c, c ∈ acc → Sgn c) →
      ∃ acc', acc'.length = acc.length + ys.length ∧ (∀ c, c ∈ acc' → Sgn c) ∧ forR (tgT 2 (tgCons (tgN 6) (tgCons (tgN 7) tgNil))) b_L_spoilt_1 (enumS i ys) (st acc) = .nx (st acc') := by
    intro ys
    induction ys with
    | nil => exact fun i acc _ _ _ h => ⟨acc, rfl, h, rfl⟩
    | cons y ys ih =>
      intro i acc hi hl hy hac
      rw [List.length_cons] at hi hl
      obtain ⟨c', hc', e⟩ := t i y acc (by omega) (hy y List.mem_cons_self) (by omega)
      obtain ⟨acc', a1, a2, a3⟩ := ih (i + 1) (acc ++ [c']) (by omega) (by rw [List.length_append, List.length_singleton]; omega) (fun c h => hy c (List.mem_cons_of_mem _ h)) (fun c h => by
        rcases List.mem_append.mp h with h | h
        · exact hac c h
        · rw [List.mem_singleton.mp h]; exact hc')
      refine ⟨acc', by rw [a1, List.length_append, List.length_singleton, List.length_cons]; omega, a2, ?_⟩
      rw [enumS, forR_cons, e, next_nx, a3]
  obtain ⟨pic', a1, a2, a3⟩ := key pic 0 [] (by omega) (by simp only [List.length_nil]; omega) hS (fun c h => nomatch h)
  refine ⟨pic', by simpa using a1, a2, ?_⟩
  have hj := join_eS pic' (by rw [a1]; simp only [List.length_nil]; omega)
  have e : q_L_spoilt [.fz (ns.map .int), .int k, .str ⟨pic.toArray⟩] = resM (d_L_spoilt [.sh (.fz (ns.map .int)), .sh (.int k), .sh (.str ⟨pic.toArray⟩), .no, .no, .no, .no, .no, .no]) := rfl
  have h3' : q_L_digits [.fz (ns.map .int), .int k, .int 208, .int ((pic.length : Int) + 1)] = .ok (.lst (R.map .int)) := h3
  have hlen : lenG [.str (⟨pic.toArray⟩ : Str)] = .ok (.int pic.length) := by
    show (if (⟨pic.toArray⟩ : Str).length ≤ sizeLine then M.ok (D.int (⟨pic.toArray⟩ : Str).length) else .er) = _
    rw [show (⟨pic.toArray⟩ : Str).length = pic.length from List.size_toArray, if_pos (by rw [sizeLine_eq]; omega)]
  rw [e]
  simp only [st, List.map_nil] at a3
  simp -implicitDefEqProofs [d_L_spoilt, hlen, h3', i0, m4, hlev, sizeLine_eq, a3, hj, resM]

theorem q_rows_fit (rs : List BRow) : q_L_rows_fit [.lst (rs.map eR)] = .ok (.bl true) := by
  have loop := (forR_fold (tg := tgN 1) (b := b_L_rows_fit_2) eR (fun _ : Unit => [.sh (.lst (rs.map eR)), .no, .no]) (fun _ => True) (fun u _ => u) rs () trivial (fun _ r _ _ => ⟨trivial, by
    simp only [turn_N]
    simp -implicitDefEqProofs [b_L_rows_fit_2, b_L_rows_fit_1, sizeLine_eq, forR_cons]⟩)).1
  have e : q_L_rows_fit [.lst (rs.map eR)] = resM (d_L_rows_fit [.sh (.lst (rs.map eR)), .no, .no]) := rfl
  rw [e]
  simp -implicitDefEqProofs [d_L_rows_fit, loop, resM]

theorem q_looks (ns : List Int) (k many : Int) (s : P3) (xs : List P3) (cs : List Nat) (hk : 0 ≤ k ∧ k < 900000) (hm : 0 ≤ many ∧ many ≤ 1000) (hs : Sz 6 s) (hx : ∀ p, p ∈ xs → inB s p = true) (hu : xs.Nodup) (hl : cs.length = xs.length) (hcs : ∀ c, c ∈ cs → Letter c) (hlen : xs.length ≤ 1000000) (hn : ns.length ≤ 63) :
    ∃ ls : List Lk, ls.length = many.toNat ∧ (∀ l, l ∈ ls → LkOk s l ∧ LkSg l) ∧ q_L_looks [.fz (ns.map .int), .int k, .int many, e3 s, .lst (xs.map e3), .str ⟨cs.toArray⟩] = .ok (.lst (ls.map eL)) := by
  have hs100 : Sz 100 s := hs.le (by decide)
  have hpl := hs.len (n := 6)
  let st (acc : List Lk) : Rho := [.sh (.fz (ns.map .int)), .sh (.int k), .sh (.int many), .sh (e3 s), .sh (.lst (xs.map e3)), .sh (.str ⟨cs.toArray⟩), .ow (.lst (acc.map eL)), .no, .no, .no]
  have t (i : Nat) (acc : List Lk) (hi : i < 1000) (ha : acc.length = i) (hok : ∀ l, l ∈ acc → LkOk s l ∧ LkSg l) : ∃ l', (LkOk s l' ∧ LkSg l') ∧ turn (tgN 7) b_L_looks_1 (.int (i : Nat)) (st acc) = .nx (st (acc ++ [l'])) := by
    obtain ⟨w0, hw0, e1⟩ := q_way ns (k + 2 * (i : Int)) (by omega) hn
    obtain ⟨x, _, _, e2⟩ := q_one ns (k + 2 * (i : Int)) 5 (by omega) (by decide) hn
    have mm := mul_ok (i := 2) (j := (i : Int)) (by omega)
    have al : acc.length < 16777216 := by omega
    -- the way, its own or that of the first look
    obtain ⟨w, hw, hstep⟩ : ∃ w : P3, Way w ∧ sIf (eAnd (eB (eOp gtG (eV 7) (eC (.int 0)))) (eB (eOp eqG (eCall q_L_one (aCons (eV 0) (aCons (eOp addG (eV 1) (eOp mulG (eC (.int 2)) (eV 7))) (aCons (eC (.int 5)) aNil)))) (eC (.int 0))))) (sSh 8 (eOp idxG (eOp idxG (eV 6) (eC (.int 0))) (eC (.int 0)))) sNil
        [.sh (.fz (ns.map .int)), .sh (.int k), .sh (.int many), .sh (e3 s), .sh (.lst (xs.map e3)), .sh (.str ⟨cs.toArray⟩), .ow (.lst (acc.map eL)), .sh (.int (i : Nat)), .sh (e3 w0), .no] = .nx [.sh (.fz (ns.map .int)), .sh (.int k), .sh (.int many), .sh (e3 s), .sh (.lst (xs.map e3)), .sh (.str ⟨cs.toArray⟩), .ow (.lst (acc.map eL)), .sh (.int (i : Nat)), .sh (e3 w), .no] := by
      cases acc with
      | nil =>
        have : i = 0 := by simpa using ha.symm
        subst this
        exact ⟨w0, hw0, by simp -implicitDefEqProofs⟩
      | cons l acc =>
        have hi0 : 0 < i := by simp only [List.length_cons] at ha; omega
        by_cases c : x = 0
        · exact ⟨l.w, (hok l List.mem_cons_self).1.1, by simp -implicitDefEqProofs [hi0, mm, e2, c, show idxG (eL l) (.int 0) = .ok (e3 l.w) by simp [eL]]⟩
        · exact ⟨w0, hw0, by simp -implicitDefEqProofs [hi0, mm, e2, c]⟩
    have hsn := q_snap s w xs cs hs100 hw.bw hw.nz hx hu hl hlen
    have hdl := doors_len s w
    obtain ⟨pic', p1, p2, e3'⟩ := q_spoilt ns (k + 2 * (i : Int) + 1) ((doors s w).map (shot s w xs (sg xs cs))) (by omega) (by rw [List.length_map]; omega) (fun c hc => by
      obtain ⟨d, _, rfl⟩ := List.mem_map.mp hc
      exact shot_sgn hl hcs) hn
    rw [List.length_map] at p1
    refine ⟨⟨w, pic'⟩, ⟨⟨hw, p1⟩, p2⟩, ?_⟩
    simp only [turn_N, st]
    unfold b_L_looks_1
    rw [sWipe_ap, sSeq_ap, show sSh 8 (eCall q_L_way (aCons (eV 0) (aCons (eOp addG (eV 1) (eOp mulG (eC (.int 2)) (eV 7))) aNil))) (List.set [.sh (.fz (ns.map .int)), .sh (.int k), .sh (.int many), .sh (e3 s), .sh (.lst (xs.map e3)), .sh (.str ⟨cs.toArray⟩), .ow (.lst (acc.map eL)), .no, .no, .no] 7 (.sh (.int (i : Nat)))) = .nx [.sh (.fz (ns.map .int)), .sh (.int k), .sh (.int many), .sh (e3 s), .sh (.lst (xs.map e3)), .sh (.str ⟨cs.toArray⟩), .ow (.lst (acc.map eL)), .sh (.int (i : Nat)), .sh (e3 w0), .no] by simp -implicitDefEqProofs [mm, e1], then_nx, sSeq_ap, hstep, then_nx]
    simp -implicitDefEqProofs [hsn, mm, e3', sizeLine_eq, al, eL]
  have key : ∀ (m i : Nat) (acc : List Lk), acc.length = i → i + m ≤ 1000 → (∀ l, l ∈ acc → LkOk s l ∧ LkSg l) → ∃ acc', acc'.length = i + m ∧ (∀ l, l ∈ acc' → LkOk s l ∧ LkSg l) ∧ forR (tgN 7) b_L_looks_1 ((List.range' i m).map fun i => D.int (0 + (i : Nat))) (st acc) = .nx (st acc') := by
    intro m
    induction m with
    | zero => exact fun i acc h _ ho => ⟨acc, h, ho, rfl⟩
    | succ m ih =>
      intro i acc h hb ho
      obtain ⟨l', hl', e⟩ := t i acc (by omega) h ho
      obtain ⟨acc', a1, a2, a3⟩ := ih (i + 1) (acc ++ [l']) (by rw [List.length_append, List.length_singleton, h]) (by omega) (fun l hh => by
        rcases List.mem_append.mp hh with hh | hh
        · exact ho l hh
        · rw [List.mem_singleton.mp hh]; exact hl')
      refine ⟨acc', by rw [a1]; omega, a2, ?_⟩
      rw [List.range'_succ, List.map_cons, forR_cons, show (0 : Int) + (i : Nat) = (i : Nat) by omega, e, next_nx]
      exact a3
  obtain ⟨ls, a1, a2, a3⟩ := key many.toNat 0 [] rfl (by omega) (fun l h => nomatch h)
  refine ⟨ls, by rw [a1, Nat.zero_add], a2, ?_⟩
  have loop : forR (tgN 7) b_L_looks_1 (rngD 0 many.toNat) [.sh (.fz (ns.map .int)), .sh (.int k), .sh (.int many), .sh (e3 s), .sh (.lst (xs.map e3)), .sh (.str ⟨cs.toArray⟩), .ow (.lst []), .no, .no, .no] = .nx (st ls) := by
    rw [rngD_map, List.range_eq_range']
    exact a3
  simp only [st] at loop
  have e : q_L_looks [.fz (ns.map .int), .int k, .int many, e3 s, .lst (xs.map e3), .str ⟨cs.toArray⟩] = resM (d_L_looks [.sh (.fz (ns.map .int)), .sh (.int k), .sh (.int many), .sh (e3 s), .sh (.lst (xs.map e3)), .sh (.str ⟨cs.toArray⟩), .no, .no, .no, .no]) := rfl
  rw [e]
  simp -implicitDefEqProofs [d_L_looks, sizeLine_eq, show (-4611686018427387904 : Int) ≤ many by omega, show many < 4611686018427387904 by omega, loop, resM]

theorem q_many (ns : List Int) (k : Int) (s : P3) (hk : 0 ≤ k ∧ k < 1000000) (hs : Sz 6 s) (hn : ns.length ≤ 63) : ∃ m : Int, 0 ≤ m ∧ m ≤ 8 ∧ q_L_many [.fz (ns.map .int), .int k, e3 s] = .ok (.int m) := by
  obtain ⟨R, h1, h2, h3⟩ := q_digits ns k 8 2 hk (by decide) (by decide) hn
  match R, h1, h2, h3 with
  | [x, y], _, h2, h3 =>
    have hx := h2 x (by simp)
    have hy := h2 y (by simp)
    obtain ⟨⟨s1, s1'⟩, ⟨s2, s2'⟩, ⟨s3, s3'⟩⟩ := hs
    have m4 := mod_ok (i := y) (j := 4) (by decide)
    have p1 := mul_ok (i := s.1) (j := s.2.1) (by omega)
    have p2 := mul_ok (i := s.1 * s.2.1) (j := s.2.2) (by omega)
    have e : q_L_many [.fz (ns.map .int), .int k, e3 s] = resM (d_L_many [.sh (.fz (ns.map .int)), .sh (.int k), .sh (e3 s), .no, .no]) := rfl
    rw [e]
    have i6 {a b c d e f g h : D} : atI [a, b, c, d, e, f, g, h] 6 = some g := atI_ok (by decide) rfl
    have i7 {a b c d e f g h : D} : atI [a, b, c, d, e, f, g, h] 7 = some h := atI_ok (by decide) rfl
    have : x = 0 ∨ x = 1 ∨ x = 2 ∨ x = 3 ∨ x = 4 ∨ x = 5 ∨ x = 6 ∨ x = 7 := by omega
    rcases this with q | q | q | q | q | q | q | q <;> subst q
    · exact ⟨0, by decide, by decide, by simp -implicitDefEqProofs [d_L_many, h3, sizeLine_eq, resM]⟩
    · exact ⟨1, by decide, by decide, by simp -implicitDefEqProofs [d_L_many, h3, sizeLine_eq, resM]⟩
    · exact ⟨2, by decide, by decide, by simp -implicitDefEqProofs [d_L_many, h3, sizeLine_eq, resM]⟩
    · exact ⟨3, by decide, by decide, by simp -implicitDefEqProofs [d_L_many, h3, sizeLine_eq, resM]⟩
    · exact ⟨3, by decide, by decide, by simp -implicitDefEqProofs [d_L_many, h3, sizeLine_eq, resM]⟩
    · exact ⟨4, by decide, by decide, by simp -implicitDefEqProofs [d_L_many, h3, sizeLine_eq, resM]⟩
    · exact ⟨4, by decide, by decide, by simp -implicitDefEqProofs [d_L_many, h3, sizeLine_eq, i6, resM]⟩
    · have y0 := Int.emod_nonneg y (show (4 : Int) ≠ 0 by decide)
      have y1 := Int.emod_lt_of_pos y (show (0 : Int) < 4 by decide)
      by_cases c : 8 < s.1 * s.2.1 * s.2.2
      · exact ⟨8 - y % 4 - 1, by omega, by omega, by simp -implicitDefEqProofs [d_L_many, h3, sizeLine_eq, i7, m4, p1, p2, c, resM]⟩
      · exact ⟨8 - y % 4, by omega, by omega, by simp -implicitDefEqProofs [d_L_many, h3, sizeLine_eq, i7, m4, p1, p2, c, resM]⟩

theorem q_scene (ns : List Int) (hn : ns.length ≤ 63) : ∃ (s : P3) (ls : List Lk), Sz 6 s ∧ ls.length ≤ 8 ∧ (∀ l, l ∈ ls → LkOk s l ∧ LkSg l) ∧ q_L_scene [.fz (ns.map .int)] = .ok (.tup [e3 s, .lst (ls.map eL)]) := by
  obtain ⟨s, hs, e1⟩ := q_sizes ns 0 (by decide) hn
  obtain ⟨xs, hsub, e2⟩ := q_stone ns 2 s (by decide) hs hn
  have hlen := hs.len (n := 6)
  have hxl := hsub.length_le
  obtain ⟨cs, c1, c2, e3'⟩ := q_paint ns 3 xs (by decide) (by omega) hn
  obtain ⟨m, m0, m8, e4⟩ := q_many ns 1 s (by decide) hs hn
  obtain ⟨ls, l1, l2, e5⟩ := q_looks ns 4 m s xs cs (by decide) (by omega) hs (fun p hp => inB_iff.mpr (mem_places.mp (hsub.subset hp))) ((places_up s).sub hsub).nodup c1 c2 (by omega) hn
  exact ⟨s, ls, hs, by omega, l2, by simp -implicitDefEqProofs [q_L_scene, runF, d_L_scene, e1, e2, e3', e4, e5, sizeLine_eq, resM]⟩

theorem q_tried (ns : List Int) (k : Int) (s : P3) (hk : 0 ≤ k ∧ k < 900000) (hs : Sz 6 s) (hn : ns.length ≤ 63) : ∃ xs : List P3, xs.Sublist (places s) ∧ q_L_tried [.fz (ns.map .int), .int k, e3 s] = .ok (.lst (xs.map e3)) := by
  obtain ⟨x, _, _, e1⟩ := q_one ns k 3 (by omega) (by decide) hn
  obtain ⟨xs, hsub, e2⟩ := q_stone ns (k + 1) s (by omega) hs hn
  have hall := q_Lall s (hs.le (by decide))
  by_cases h : x = 0
  · exact ⟨places s, List.Sublist.refl _, by simp -implicitDefEqProofs [q_L_tried, runF, d_L_tried, e1, h, hall, resM]⟩
  · exact ⟨xs, hsub, by simp -implicitDefEqProofs [q_L_tried, runF, d_L_tried, e1, h, e2, resM]⟩

end Q
set_option Elab.async false
set_option linter.all false
set_option maxRecDepth 100000
namespace Q
open PySem L2 VL PySem.Spec PyProof.Rows
theorem triK_D {ks : List Key} {k : T3} (h : triK ks = some k) : keysD ks = e3 k := by
  unfold triK at h
  split at h
  · cases h; rfl
  · cases h
theorem keysD_T {α : Type} : ∀ (kvs : List (List Key × α)) (ps : List P3), keysT kvs = some ps → (kvs.map fun kv => keysD kv.1) = ps.map e3
  | [], ps, h => by
    have : ps = [] := by simpa [keysT] using h.symm
    subst this; rfl
  | (k, v) :: kvs, ps, h => by
    unfold keysT at h
    split at h
    · next q rest hk hr =>
      cases h
      rw [List.map_cons, List.map_cons, keysD_T kvs _ hr, triK_D hk]
    · cases h
theorem rows_len2 (s : P3) (ls : List Lk) (xs : List P3) : (brows s ls xs).length ≤ xs.length := rowL_len _ _
theorem math (ns : List Int) (hn : ns.length ≤ 63) : q_law [.fz (ns.map .int)] = .ok (.bl true) := by
  obtain ⟨s, ls, hs, hll, hls, e1⟩ := q_scene ns hn
  obtain ⟨xs, hxs, e2⟩ := q_tried ns 20 s (by decide) hs hn
  have hs100 : Sz 100 s := hs.le (by decide)
  have hlen := hs.len (n := 6)
  have hok : ∀ l, l ∈ ls → LkOk s l := fun l h => (hls l h).1
  have hin : ∀ p, p ∈ xs → inB s p = true := fun p hp => inB_iff.mpr (mem_places.mp (hxs.subset hp))
  have hxl := hxs.length_le
  obtain ⟨L, hL, hLb, e3'⟩ := q_digits ns 22 5 (xs.length : Nat) (by decide) (by decide) (by omega) hn
  rw [Int.toNat_natCast] at hL
  have hcomp := compL_filt (tg := tgT 2 (tgCons (tgN 10) (tgCons (tgN 11) tgNil))) (c := c_law_2) (f := e_law_1) (fun z : P3 × Nat => D.tup [.int (z.2 : Nat), e3 z.1]) [.sh (.fz (ns.map .int)), .sh (e3 s), .sh (.lst (ls.map eL)), .fr (.lst (xs.map e3)), .fr (.lst (L.map .int)), .no, .no, .no, .no, .no, .no, .no]
    (fun z => decide (0 < L.getD z.2 0)) (fun z => e3 z.1) (xs.zipIdx 0) (fun z hz => by
      have hz2 : z.2 < xs.length := by
        have := List.snd_lt_of_mem_zipIdx hz
        omega
      have hg : L[z.2]? = some (L.getD z.2 0) := by
        rw [List.getD_eq_getElem?_getD, List.getElem?_eq_getElem (by omega)]
        rfl
      have hi : atI (L.map D.int) (z.2 : Nat) = some (.int (L.getD z.2 0)) := atI_ok (by omega) (by
        rw [Int.toNat_natCast, List.getElem?_map, hg]
        rfl)
      show pickC _ _ _ _ _ = .ok (if decide (0 < L.getD z.2 0) = true then some (e3 z.1) else none)
      have hlf := lf_e3 z.1
      generalize L.getD z.2 0 = v at hi ⊢
      generalize e3 z.1 = zD at *
      by_cases c : 0 < v
      · simp only [pickC, tgT_ap, tgCons_ap, tgNil_ap, tgN_ap, List.length_cons, List.length_nil, if_pos, c_law_2, e_law_1, c, decide_true]
        simp -implicitDefEqProofs [hi, c, hlf]
      · simp only [pickC, tgT_ap, tgCons_ap, tgNil_ap, tgN_ap, List.length_cons, List.length_nil, if_pos, c_law_2, e_law_1, c, decide_false]
        simp -implicitDefEqProofs [hi, c])
  have hez : ∀ (ys : List P3) (j : Nat), enumD j (ys.map e3) = (ys.zipIdx j).map fun z : P3 × Nat => D.tup [.int (z.2 : Nat), e3 z.1] := by
    intro ys
    induction ys with
    | nil => intro j; rfl
    | cons y ys ih => intro j; simp [enumD, ih (j + 1)]
  rw [← hez, show ((xs.zipIdx 0).filter fun z => decide (0 < L.getD z.2 0)).map (fun z => e3 z.1) = (((xs.zipIdx 0).filter fun z => decide (0 < L.getD z.2 0)).map (·.1)).map e3 by rw [List.map_map]; rfl] at hcomp
  have hzs : (((xs.zipIdx 0).filter fun z => decide (0 < L.getD z.2 0)).map (·.1)).Sublist xs := by
    have h : ((xs.zipIdx 0).map (·.1)) = xs := by simp
    have h2 := (List.filter_sublist (p := fun z : P3 × Nat => decide (0 < L.getD z.2 0)) (l := xs.zipIdx 0)).map (·.1)
    rwa [h] at h2
  generalize ((xs.zipIdx 0).filter fun z => decide (0 < L.getD z.2 0)).map (·.1) = zs at hcomp hzs
  have hzl := hzs.length_le
  have hzin : ∀ p, p ∈ zs → inB s p = true := fun p hp => hin p (hzs.subset hp)
  have b1 := q_barred_ok s ls xs hs100 hok hin (by omega) (by omega)
  have b2 := q_barred_ok s ls zs hs100 hok hzin (by omega) (by omega)
  have hrx := rows_len2 s ls xs
  have hrz := rows_len2 s ls zs
  have f1 := q_rows_fit (brows s ls xs)
  have f2 := q_rows_fit (brows s ls zs)
  have hfi : ∀ r, r ∈ brows s ls zs → r.1 ∈ zs := fun r hr => (mem_rowL.mp hr).1
  have hgr : ∀ r, r ∈ brows s ls xs → r.1 ∈ xs ∧ (r.1 ∈ zs → r.1 ∈ (brows s ls zs).map (·.1)) := fun r hr => by
    obtain ⟨h1, h2⟩ := mem_rowL.mp hr
    refine ⟨h1, fun h3 => ?_⟩
    have h4 := barP_mono (s := s) (ls := ls) (p := r.1) (fun q hq => hzs.subset hq) (by rw [h2]; rfl)
    obtain ⟨z, hz⟩ := Option.isSome_iff_exists.mp h4
    exact List.mem_map.mpr ⟨(r.1, z), mem_rowL.mpr ⟨h3, hz⟩, rfl⟩
  generalize brows s ls xs = rs at b1 hrx f1 hgr
  generalize brows s ls zs = ts at b2 hrz f2 hfi hgr
  have c3 := compL_map (tg := tgN 9) (c := cYes) (f := e_law_3) eR [.sh (.fz (ns.map .int)), .sh (e3 s), .sh (.lst (ls.map eL)), .fr (.lst (xs.map e3)), .fr (.lst (L.map .int)), .sh (.lst (zs.map e3)), .fr (.lst (rs.map eR)), .fr (.lst (ts.map eR)), .no, .no, .no, .no] (fun r => e3 r.1) ts (fun r _ => by
    have hlf := lf_e3 r.1
    have hx : idxG (eR r) (.int 0) = .ok (e3 r.1) := by simp [eR]
    generalize e3 r.1 = rD at *
    generalize eR r = qD at *
    simp -implicitDefEqProofs [e_law_3, hx, hlf])
  have hm := q_Lmarks (ts.map (·.1)) (by rw [List.length_map]; omega)
  rw [List.map_map] at hm
  rw [show (ts.map fun r => e3 r.1) = ts.map (e3 ∘ fun r => r.1) from rfl] at c3
  obtain ⟨hk1, hk2⟩ := keys_marks (ts.map (·.1))
  have hkd := keysD_T _ _ hk1
  have hka : ∀ p, p ∈ keyAll (ts.map (·.1)) → p ∈ zs := fun p hp => by
    obtain ⟨r, hr, rfl⟩ := List.mem_map.mp (mem_keyAll.mp hp)
    exact hfi r hr
  have hkl : (keyAll (ts.map (·.1))).length ≤ 1000 := by
    have := nodup_le _ zs hk2 hka
    omega
  have c4 := compL_map (tg := tgN 11) (c := cYes) (f := e_law_4) e3 [.sh (.fz (ns.map .int)), .sh (e3 s), .sh (.lst (ls.map eL)), .fr (.lst (xs.map e3)), .fr (.lst (L.map .int)), .sh (.lst (zs.map e3)), .fr (.lst (rs.map eR)), .fr (.lst (ts.map eR)), .no, .no, .no, .no] (fun _ => .bl true) (keyAll (ts.map (·.1))) (fun p hp => by
    have q := in_e3s p zs
    rw [decide_eq_true (hka p hp)] at q
    rw [pick_all]
    simp only [tgN_ap]
    generalize e3 p = pD at *
    generalize zs.map e3 = zD at *
    simp -implicitDefEqProofs [e_law_4, q])
  have hbm := bools_map (fun _ : P3 => true) (keyAll (ts.map (·.1)))
  have hall : ((keyAll (ts.map (·.1))).map fun _ : P3 => true).all id = true := by
    rw [List.all_map, List.all_eq_true]
    exact fun _ _ => rfl
  have loop := forR_any (tg := tgN 9) (b := b_law_5) eR (fun _ => false) (.bl false) [.sh (.fz (ns.map .int)), .sh (e3 s), .sh (.lst (ls.map eL)), .fr (.lst (xs.map e3)), .fr (.lst (L.map .int)), .sh (.lst (zs.map e3)), .fr (.lst (rs.map eR)), .fr (.lst (ts.map eR)), .ow (.dct (marksD (ts.map (·.1)))), .no, .no, .no] rs (fun r hr => by
    obtain ⟨h1, h2⟩ := hgr r hr
    have q1 := in_e3s r.1 xs
    rw [decide_eq_true h1] at q1
    have q2 := in_e3s r.1 zs
    have q3 := in_marks (ts.map (·.1)) r.1
    have hx : idxG (eR r) (.int 0) = .ok (e3 r.1) := by simp [eR]
    simp only [turn_N]
    generalize xs.map e3 = xD at *
    generalize marksD (ts.map (·.1)) = mk at *
    generalize zs.map e3 = zD at *
    by_cases h : r.1 ∈ zs
    · rw [decide_eq_true h] at q2
      rw [decide_eq_true (h2 h)] at q3
      generalize e3 r.1 = rD at *
      generalize eR r = qD at *
      simp -implicitDefEqProofs [b_law_5, hx, q1, q2, q3]
    · rw [decide_eq_false h] at q2
      generalize e3 r.1 = rD at *
      generalize eR r = qD at *
      simp -implicitDefEqProofs [b_law_5, hx, q1, q2])
  rw [show rs.any (fun _ => false) = false by induction rs with | nil => rfl | cons _ _ ih => simp, if_neg Bool.false_ne_true] at loop
  have hmf : lfT (marksD (ts.map (·.1))) = true := markD_lf _ _ rfl
  have l1 := lfA_e3 xs
  have l2 := lfA_e3 zs
  have l3 := lfA_eLs ls
  have hxl2 : xs.length ≤ 16777216 := by omega
  have htl : ts.length ≤ 16777216 := by omega
  have hrl : rs.length ≤ 16777216 := by omega
  have hle : (enumD 0 (xs.map e3)).length ≤ 16777216 := by rw [hez, List.length_map, List.length_zipIdx]; omega
  have hkl2 : (keyAll (ts.map (·.1))).length ≤ 16777216 := by omega
  have e : q_law [.fz (ns.map .int)] = resM (d_law [.sh (.fz (ns.map .int)), .no, .no, .no, .no, .no, .no, .no, .no, .no, .no, .no]) := rfl
  rw [e]
  unfold d_law
  rw [sSeq_ap, show sUnp (eCall q_L_scene (aCons (eV 0) aNil)) (tgT 2 (tgCons (tgN 1) (tgCons (tgN 2) tgNil))) [.sh (.fz (ns.map .int)), .no, .no, .no, .no, .no, .no, .no, .no, .no, .no, .no] = .nx [.sh (.fz (ns.map .int)), .sh (e3 s), .sh (.lst (ls.map eL)), .no, .no, .no, .no, .no, .no, .no, .no, .no] by simp -implicitDefEqProofs [e1], then_nx]
  rw [sSeq_ap, show sFr 3 (eCall q_L_tried (aCons (eV 0) (aCons (eC (.int 20)) (aCons (eV 1) aNil)))) [.sh (.fz (ns.map .int)), .sh (e3 s), .sh (.lst (ls.map eL)), .no, .no, .no, .no, .no, .no, .no, .no, .no] = .nx [.sh (.fz (ns.map .int)), .sh (e3 s), .sh (.lst (ls.map eL)), .fr (.lst (xs.map e3)), .no, .no, .no, .no, .no, .no, .no, .no] by simp -implicitDefEqProofs [e2], then_nx]
  rw [sSeq_ap, show sFr 4 (eCall q_L_digits (aCons (eV 0) (aCons (eC (.int 22)) (aCons (eC (.int 5)) (aCons (eBlt lenG (aCons (eV 3) aNil)) aNil))))) [.sh (.fz (ns.map .int)), .sh (e3 s), .sh (.lst (ls.map eL)), .fr (.lst (xs.map e3)), .no, .no, .no, .no, .no, .no, .no, .no] = .nx [.sh (.fz (ns.map .int)), .sh (e3 s), .sh (.lst (ls.map eL)), .fr (.lst (xs.map e3)), .fr (.lst (L.map .int)), .no, .no, .no, .no, .no, .no, .no] by simp -implicitDefEqProofs [e3'], then_nx]
  rw [sSeq_ap, show sSh 5 (eComp [10, 11] (eEnum (aCons (eVE 3) aNil)) (tgT 2 (tgCons (tgN 10) (tgCons (tgN 11) tgNil))) c_law_2 e_law_1) [.sh (.fz (ns.map .int)), .sh (e3 s), .sh (.lst (ls.map eL)), .fr (.lst (xs.map e3)), .fr (.lst (L.map .int)), .no, .no, .no, .no, .no, .no, .no] = .nx [.sh (.fz (ns.map .int)), .sh (e3 s), .sh (.lst (ls.map eL)), .fr (.lst (xs.map e3)), .fr (.lst (L.map .int)), .sh (.lst (zs.map e3)), .no, .no, .no, .no, .no, .no] by simp -implicitDefEqProofs [hle, hcomp, sizeLine_eq], then_nx]
  rw [sSeq_ap, show sFr 6 (eCall q_barred (aCons (eV 1) (aCons (eBlt listG (aCons (eV 2) aNil)) (aCons (eBlt listG (aCons (eV 3) aNil)) aNil)))) [.sh (.fz (ns.map .int)), .sh (e3 s), .sh (.lst (ls.map eL)), .fr (.lst (xs.map e3)), .fr (.lst (L.map .int)), .sh (.lst (zs.map e3)), .no, .no, .no, .no, .no, .no] = .nx [.sh (.fz (ns.map .int)), .sh (e3 s), .sh (.lst (ls.map eL)), .fr (.lst (xs.map e3)), .fr (.lst (L.map .int)), .sh (.lst (zs.map e3)), .fr (.lst (rs.map eR)), .no, .no, .no, .no, .no] by simp -implicitDefEqProofs [l1, l3, b1], then_nx]
  rw [sSeq_ap, show sFr 7 (eCall q_barred (aCons (eV 1) (aCons (eBlt listG (aCons (eV 2) aNil)) (aCons (eBlt listG (aCons (eV 5) aNil)) aNil)))) [.sh (.fz (ns.map .int)), .sh (e3 s), .sh (.lst (ls.map eL)), .fr (.lst (xs.map e3)), .fr (.lst (L.map .int)), .sh (.lst (zs.map e3)), .fr (.lst (rs.map eR)), .no, .no, .no, .no, .no] = .nx [.sh (.fz (ns.map .int)), .sh (e3 s), .sh (.lst (ls.map eL)), .fr (.lst (xs.map e3)), .fr (.lst (L.map .int)), .sh (.lst (zs.map e3)), .fr (.lst (rs.map eR)), .fr (.lst (ts.map eR)), .no, .no, .no, .no] by simp -implicitDefEqProofs [l2, l3, b2], then_nx]
  rw [sSeq_ap, show sIf (eOr (eNot (eTr (eCall q_L_rows_fit (aCons (eV 6) aNil)))) (eNot (eTr (eCall q_L_rows_fit (aCons (eV 7) aNil))))) (sRet (eC (.bl false))) sNil [.sh (.fz (ns.map .int)), .sh (e3 s), .sh (.lst (ls.map eL)), .fr (.lst (xs.map e3)), .fr (.lst (L.map .int)), .sh (.lst (zs.map e3)), .fr (.lst (rs.map eR)), .fr (.lst (ts.map eR)), .no, .no, .no, .no] = .nx [.sh (.fz (ns.map .int)), .sh (e3 s), .sh (.lst (ls.map eL)), .fr (.lst (xs.map e3)), .fr (.lst (L.map .int)), .sh (.lst (zs.map e3)), .fr (.lst (rs.map eR)), .fr (.lst (ts.map eR)), .no, .no, .no, .no] by simp -implicitDefEqProofs [f1, f2], then_nx]
  rw [sSeq_ap, show sOw 8 (eCall q_L_marks (aCons (eComp [9] (eLL (eVE 7)) (tgN 9) cYes e_law_3) aNil)) [.sh (.fz (ns.map .int)), .sh (e3 s), .sh (.lst (ls.map eL)), .fr (.lst (xs.map e3)), .fr (.lst (L.map .int)), .sh (.lst (zs.map e3)), .fr (.lst (rs.map eR)), .fr (.lst (ts.map eR)), .no, .no, .no, .no] = .nx [.sh (.fz (ns.map .int)), .sh (e3 s), .sh (.lst (ls.map eL)), .fr (.lst (xs.map e3)), .fr (.lst (L.map .int)), .sh (.lst (zs.map e3)), .fr (.lst (rs.map eR)), .fr (.lst (ts.map eR)), .ow (.dct (marksD (ts.map (·.1)))), .no, .no, .no] by simp -implicitDefEqProofs [htl, c3, hm, hmf, sizeLine_eq], then_nx]
  rw [sSeq_ap, show sIf (eNot (eTr (eBlt allG (aCons (eCompK 8 [11] (tgN 11) cYes e_law_4) aNil)))) (sRet (eC (.bl false))) sNil [.sh (.fz (ns.map .int)), .sh (e3 s), .sh (.lst (ls.map eL)), .fr (.lst (xs.map e3)), .fr (.lst (L.map .int)), .sh (.lst (zs.map e3)), .fr (.lst (rs.map eR)), .fr (.lst (ts.map eR)), .ow (.dct (marksD (ts.map (·.1)))), .no, .no, .no] = .nx [.sh (.fz (ns.map .int)), .sh (e3 s), .sh (.lst (ls.map eL)), .fr (.lst (xs.map e3)), .fr (.lst (L.map .int)), .sh (.lst (zs.map e3)), .fr (.lst (rs.map eR)), .fr (.lst (ts.map eR)), .ow (.dct (marksD (ts.map (·.1)))), .no, .no, .no] by simp -implicitDefEqProofs [eCompK, hkd, boolsOk, eComp, c4, hbm, hall, hkl2, sizeLine_eq], then_nx]
  rw [sSeq_ap, show sFor (eLL (eVE 6)) (tgN 9) b_law_5 [.sh (.fz (ns.map .int)), .sh (e3 s), .sh (.lst (ls.map eL)), .fr (.lst (xs.map e3)), .fr (.lst (L.map .int)), .sh (.lst (zs.map e3)), .fr (.lst (rs.map eR)), .fr (.lst (ts.map eR)), .ow (.dct (marksD (ts.map (·.1)))), .no, .no, .no] = .nx [.sh (.fz (ns.map .int)), .sh (e3 s), .sh (.lst (ls.map eL)), .fr (.lst (xs.map e3)), .fr (.lst (L.map .int)), .sh (.lst (zs.map e3)), .fr (.lst (rs.map eR)), .fr (.lst (ts.map eR)), .ow (.dct (marksD (ts.map (·.1)))), .no, .no, .no] by simp -implicitDefEqProofs [loop, hrl, sizeLine_eq], then_nx]
  simp -implicitDefEqProofs [sizeLine_eq, resM]

end Q
set_option Elab.async false
set_option linter.all false
set_option maxRecDepth 100000
set_option maxHeartbeats 4000000
namespace Q
end Q
open PySem PySem.W PyProof.Rows
set_option maxRecDepth 100000 in
set_option maxHeartbeats 0 in
theorem PySem.Challenge.cw_sightstone_k18_barred_stays_barred_holds : PySem.Challenge.rw_sightstone_k18_barred_stays_barred.Holds := by
  w_on; o_law; k_head; (case hw => w_witness2)
  k_fill
  refine VL.law_walk (l := PySem.Challenge.rw_sightstone_k18_barred_stays_barred) (k := 7) (x := "_law_script") rfl rfl ⟨rfl, by decide, by decide⟩ (fun w h Y => PySem.W.kIn_of Y) ?F
  case F =>
    intro w mg fa h KX G hmg
    refine' Q.all_mk KX G hmg Q.math ?a0 ?l0 ?c0 ?k0 ?a1 ?l1 ?c1 ?k1 ?a2 ?l2 ?c2 ?k2 ?a3 ?l3 ?c3 ?k3 ?a4 ?l4 ?c4 ?k4 ?a5 ?l5 ?c5 ?k5 ?a6 ?l6 ?c6 ?k6 ?a7 ?l7 ?c7 ?k7 ?a8 ?l8 ?c8 ?k8 ?a9 ?l9 ?c9 ?k9 ?a10 ?l10 ?c10 ?k10 ?a11 ?l11 ?c11 ?k11 ?a12 ?l12 ?c12 ?k12 ?a13 ?l13 ?c13 ?k13 ?a14 ?l14 ?c14 ?k14 ?a15 ?l15 ?c15 ?k15 ?a16 ?l16 ?c16 ?k16 ?a17 ?l17 ?c17 ?k17 ?a18 ?l18 ?c18 ?k18 ?a19 ?l19 ?c19 ?k19 ?a20 ?l20 ?c20 ?k20 ?a21 ?l21 ?c21 ?k21 ?a22 ?l22 ?c22 ?k22 ?a23 ?l23 ?c23 ?k23 ?a24 ?l24 ?c24 ?k24 ?a25 ?l25 ?c25 ?k25 ?a26 ?l26 ?c26 ?k26 ?a27 ?l27 ?c27 ?k27 ?a28 ?l28 ?c28 ?k28 ?a29 ?l29 ?c29 ?k29 ?a30 ?l30 ?c30 ?k30 ?a31 ?l31 ?c31 ?k31 ?a32 ?l32 ?c32 ?k32 ?a33 ?l33 ?c33 ?k33 ?a34 ?l34 ?c34 ?k34 ?z0 ?z1 ?z2 ?z3 ?z4 ?z5 ?z6 ?z7 ?z8 ?z9 ?z10 ?z11 ?z12 ?y0 ?y1
    (case a0 => k_is)
    (case l0 => k_is)
    (case c0 => k_is)
    (case k0 => k_is)
    (case a1 => k_is)
    (case l1 => k_is)
    (case c1 => k_is)
    (case k1 => k_is)
    (case a2 => k_is)
    (case l2 => k_is)
    (case c2 => k_is)
    (case k2 => k_is)
    (case a3 => k_is)
    (case l3 => k_is)
    (case c3 => k_is)
    (case k3 => k_is)
    (case a4 => k_is)
    (case l4 => k_is)
    (case c4 => k_is)
    (case k4 => k_is)
    (case a5 => k_is)
    (case l5 => k_is)
    (case c5 => k_is)
    (case k5 => k_is)
    (case a6 => k_is)
    (case l6 => k_is)
    (case c6 => k_is)
    (case k6 => k_is)
    (case a7 => k_is)
    (case l7 => k_is)
    (case c7 => k_is)
    (case k7 => k_is)
    (case a8 => k_is)
    (case l8 => k_is)
    (case c8 => k_is)
    (case k8 => k_is)
    (case a9 => k_is)
    (case l9 => k_is)
    (case c9 => k_is)
    (case k9 => k_is)
    (case a10 => k_is)
    (case l10 => k_is)
    (case c10 => k_is)
    (case k10 => k_is)
    (case a11 => k_is)
    (case l11 => k_is)
    (case c11 => k_is)
    (case k11 => k_is)
    (case a12 => k_is)
    (case l12 => k_is)
    (case c12 => k_is)
    (case k12 => k_is)
    (case a13 => k_is)
    (case l13 => k_is)
    (case c13 => k_is)
    (case k13 => k_is)
    (case a14 => k_is)
    (case l14 => k_is)
    (case c14 => k_is)
    (case k14 => k_is)
    (case a15 => k_is)
    (case l15 => k_is)
    (case c15 => k_is)
    (case k15 => k_is)
    (case a16 => k_is)
    (case l16 => k_is)
    (case c16 => k_is)
    (case k16 => k_is)
    (case a17 => k_is)
    (case l17 => k_is)
    (case c17 => k_is)
    (case k17 => k_is)
    (case a18 => k_is)
    (case l18 => k_is)
    (case c18 => k_is)
    (case k18 => k_is)
    (case a19 => k_is)
    (case l19 => k_is)
    (case c19 => k_is)
    (case k19 => k_is)
    (case a20 => k_is)
    (case l20 => k_is)
    (case c20 => k_is)
    (case k20 => k_is)
    (case a21 => k_is)
    (case l21 => k_is)
    (case c21 => k_is)
    (case k21 => k_is)
    (case a22 => k_is)
    (case l22 => k_is)
    (case c22 => k_is)
    (case k22 => k_is)
    (case a23 => k_is)
    (case l23 => k_is)
    (case c23 => k_is)
    (case k23 => k_is)
    (case a24 => k_is)
    (case l24 => k_is)
    (case c24 => k_is)
    (case k24 => k_is)
    (case a25 => k_is)
    (case l25 => k_is)
    (case c25 => k_is)
    (case k25 => k_is)
    (case a26 => k_is)
    (case l26 => k_is)
    (case c26 => k_is)
    (case k26 => k_is)
    (case a27 => k_is)
    (case l27 => k_is)
    (case c27 => k_is)
    (case k27 => k_is)
    (case a28 => k_is)
    (case l28 => k_is)
    (case c28 => k_is)
    (case k28 => k_is)
    (case a29 => k_is)
    (case l29 => k_is)
    (case c29 => k_is)
    (case k29 => k_is)
    (case a30 => k_is)
    (case l30 => k_is)
    (case c30 => k_is)
    (case k30 => k_is)
    (case a31 => k_is)
    (case l31 => k_is)
    (case c31 => k_is)
    (case k31 => k_is)
    (case a32 => k_is)
    (case l32 => k_is)
    (case c32 => k_is)
    (case k32 => k_is)
    (case a33 => k_is)
    (case l33 => k_is)
    (case c33 => k_is)
    (case k33 => k_is)
    (case a34 => k_is)
    (case l34 => k_is)
    (case c34 => k_is)
    (case k34 => k_is)
    (case z0 => k_is)
    (case z1 => k_is)
    (case z2 => k_is)
    (case z3 => k_is)
    (case z4 => k_is)
    (case z5 => k_is)
    (case z6 => k_is)
    (case z7 => k_is)
    (case z8 => k_is)
    (case z9 => k_is)
    (case z10 => k_is)
    (case z11 => k_is)
    (case z12 => k_is)
    (case y0 => k_is)
    (case y1 => k_is)

