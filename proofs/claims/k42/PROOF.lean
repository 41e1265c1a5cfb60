import PyProof.Rows.All
import Wide.All
import OpenK.AllK
import Wide.FinOn
import HandS.ForMost
import HandS.ForExc
import HandS.Deep
import HandS.IsInst
import HandS.Zip
import HandS.Flow
import HandS.Text
import HandS.Steps
import HandS.Iter
import PyProof.Rows.RuleDivmod
import HandS.Style
import KE.DataFind
import HandS.SortOrd
import HandS.SortRule
import HandS.Conv
import KE.KDictSum
import PyProof.ListStr
import HandS.Wide
import HandS.DictTup
import KE.KDictCopyH
import HandS.ExcIs
import HandS.More
import HandS.Defaults
import KE.DataCmp
import KE.KDictWalk
import KE.KDictDisplayH
import HandS.Rev
import KE.KTupSum
import HandS.TryMany
import HandS.TryOnly
import KE.DatumOrd
import HandS.Codes
import PySem.Challenge.RW_sightstone_k42_a_workshop_begun
set_option Elab.async false
set_option linter.all false
set_option maxRecDepth 100000
/-! VL: the value layer. Data, results, how data stand in the abstract heap. -/
namespace VL
open PySem L2

inductive D where
  | non | bl (b : Bool) | int (i : Int) | str (x : Str)
  | tup (ds : List D) | kt (ds : List D) | lst (ds : List D) | fz (ds : List D)
  | dct (kvs : List (List Key × D)) | dk (kvs : List (Key × D))
  | obj (p : Addr) (c : Str) (ns : List Str) (ds : List D)
  | pls (p : Addr) (ds : List D)
  | raw (a : Addr)

/-- an exception's class: one's own, by its name; a built-in one -/
inductive Xc where
  | own (c : Str) | bi (n : String)
  deriving DecidableEq
inductive M (α : Type) where
  | ok (a : α) | ex (c : Xc) | er
def M.bind {α β : Type} : M α → (α → M β) → M β
  | .ok a, f => f a
  | .ex c, _ => .ex c
  | .er, _ => .er
@[simp] theorem bind_ok {α β : Type} (a : α) (f : α → M β) : M.bind (.ok a) f = f a := rfl
@[simp] theorem bind_ex {α β : Type} (c : Xc) (f : α → M β) : M.bind (.ex c) f = .ex c := rfl
@[simp] theorem bind_er {α β : Type} (f : α → M β) : M.bind .er f = .er := rfl

/-- a tuple of the written part -/
def KTup (K : PySem.W.Frag) (a : Addr) (xs : List V) : Prop :=
  ∃ (o : Obj) (its : Array Value) (n : Nat), K.lookup a = some o ∧ o.cls = .type "tuple" ∧ o.data = .seq its n ∧ its.size ≤ sizeLine ∧ Vals xs its.toList

/-- a list of the written part -/
def KLst (K : PySem.W.Frag) (a : Addr) (xs : List V) : Prop :=
  ∃ (o : Obj) (its : Array Value) (n : Nat), K.lookup a = some o ∧ o.cls = .type "list" ∧ o.dict = none ∧ o.data = .seq its n ∧ its.size ≤ sizeLine ∧ Vals xs its.toList
/-- the script -/
def FzL (K : PySem.W.Frag) (H : Hp) (a : Addr) (xs : List V) : Prop := (∃ o, H a = some (.frz o (.lst xs))) ∨ KLst K a xs
theorem FzL.sq {K : PySem.W.Frag} {H : Hp} {a : Addr} {xs : List V} (h : FzL K H a xs) : SqL K H a xs := by
  rcases h with ⟨o, h⟩ | h
  · exact .inl (.inr ⟨o, h⟩)
  · exact .inr h
/-- the class of that name -/
def ClsAt (K : PySem.W.Frag) (c : Str) (C : Addr) : Prop := PySem.W.nsIn K mainGlobals c = some (some (.ref C))
mutual
inductive Rp (K : PySem.W.Frag) (S : Addr → Prop) (H : Hp) : V → D → Prop
  | non : Rp K S H .non .non
  | bl (b : Bool) : Rp K S H (.bl b) (.bl b)
  | int (i : Int) : Rp K S H (.int i) (.int i)
  | str (x : Str) : Rp K S H (.str x) (.str x)
  | tup {a : Addr} {xs : List V} {ds : List D} : H a = some (.tup xs) → RpA K S H xs ds → Rp K S H (.ref a) (.tup ds)
  | kt {a : Addr} {xs : List V} {ds : List D} : KTup K a xs → RpA K S H xs ds → Rp K S H (.ref a) (.kt ds)
  | lst {a : Addr} {xs : List V} {ds : List D} : S a → H a = some (.lst xs) → RpA K S H xs ds → Rp K S H (.ref a) (.lst ds)
  | fz {a : Addr} {xs : List V} {ds : List D} : FzL K H a xs → RpA K S H xs ds → Rp K S H (.ref a) (.fz ds)
  | dct {a : Addr} {kvs : List (List Key × V)} {ds : List (List Key × D)} : S a → H a = some (.dT kvs) → RpT K S H kvs ds → Rp K S H (.ref a) (.dct ds)
  | dk {a : Addr} {kvs : List (Key × V)} {ds : List (Key × D)} : S a → H a = some (.dK kvs) → RpK K S H kvs ds → Rp K S H (.ref a) (.dk ds)
  | obj {a C dx p : Addr} {vs : List (Str × V)} {xs : List V} {c : Str} {ns : List Str} {ds : List D} : S a → H a = some (.ins C dx vs) → ClsAt K c C → vs.map (·.1) = ns → vs.map (·.2) = xs → RpA K S H xs ds → Rp K S H (.ref a) (.obj p c ns ds)
  | pls {a p : Addr} {xs : List V} {ds : List D} : S a → H a = some (.lst xs) → RpA K S H xs ds → Rp K S H (.ref a) (.pls p ds)
  | raw (a : Addr) : Rp K S H (.ref a) (.raw a)
inductive RpA (K : PySem.W.Frag) (S : Addr → Prop) (H : Hp) : List V → List D → Prop
  | nil : RpA K S H [] []
  | cons {v : V} {d : D} {vs : List V} {ds : List D} : Rp K S H v d → RpA K S H vs ds → RpA K S H (v :: vs) (d :: ds)
inductive RpT (K : PySem.W.Frag) (S : Addr → Prop) (H : Hp) : List (List Key × V) → List (List Key × D) → Prop
  | nil : RpT K S H [] []
  | cons {k : List Key} {v : V} {d : D} {vs : List (List Key × V)} {ds : List (List Key × D)} : Rp K S H v d → RpT K S H vs ds → RpT K S H ((k, v) :: vs) ((k, d) :: ds)
inductive RpK (K : PySem.W.Frag) (S : Addr → Prop) (H : Hp) : List (Key × V) → List (Key × D) → Prop
  | nil : RpK K S H [] []
  | cons {k : Key} {v : V} {d : D} {vs : List (Key × V)} {ds : List (Key × D)} : Rp K S H v d → RpK K S H vs ds → RpK K S H ((k, v) :: vs) ((k, d) :: ds)
end
section
variable {K : PySem.W.Frag} {S S' : Addr → Prop} {H H' : Hp}
/-- what a description leans on -/
structure Keep (S S' : Addr → Prop) (H H' : Hp) : Prop where
  l : ∀ a o, S a → H a = some o → S' a ∧ H' a = some o
  t : ∀ a xs, H a = some (.tup xs) → H' a = some (.tup xs)
  z : ∀ a o u, H a = some (.frz o u) → H' a = some (.frz o u)
mutual
theorem Rp.keep (k : Keep S S' H H') : ∀ {v : V} {d : D}, Rp K S H v d → Rp K S' H' v d
  | _, _, .non => .non
  | _, _, .bl b => .bl b
  | _, _, .int i => .int i
  | _, _, .str x => .str x
  | _, _, .tup h r => .tup (k.t _ _ h) (RpA.keep k r)
  | _, _, .kt h r => .kt h (RpA.keep k r)
  | _, _, .lst s h r => .lst (k.l _ _ s h).1 (k.l _ _ s h).2 (RpA.keep k r)
  | _, _, .fz h r => .fz (h.imp (fun ⟨o, h⟩ => ⟨o, k.z _ _ _ h⟩) id) (RpA.keep k r)
  | _, _, .dct s h r => .dct (k.l _ _ s h).1 (k.l _ _ s h).2 (RpT.keep k r)
  | _, _, .dk s h r => .dk (k.l _ _ s h).1 (k.l _ _ s h).2 (RpK.keep k r)
  | _, _, .obj s h c n x r => .obj (k.l _ _ s h).1 (k.l _ _ s h).2 c n x (RpA.keep k r)
  | _, _, .pls s h r => .pls (k.l _ _ s h).1 (k.l _ _ s h).2 (RpA.keep k r)
  | _, _, .raw v => .raw v
theorem RpA.keep (k : Keep S S' H H') : ∀ {v : List V} {d : List D}, RpA K S H v d → RpA K S' H' v d
  | _, _, .nil => .nil
  | _, _, .cons h r => .cons (Rp.keep k h) (RpA.keep k r)
theorem RpT.keep (k : Keep S S' H H') : ∀ {v : List (List Key × V)} {d : List (List Key × D)}, RpT K S H v d → RpT K S' H' v d
  | _, _, .nil => .nil
  | _, _, .cons h r => .cons (Rp.keep k h) (RpT.keep k r)
theorem RpK.keep (k : Keep S S' H H') : ∀ {v : List (Key × V)} {d : List (Key × D)}, RpK K S H v d → RpK K S' H' v d
  | _, _, .nil => .nil
  | _, _, .cons h r => .cons (Rp.keep k h) (RpK.keep k r)
end
theorem Keep.same (h : Same H H') : Keep S S H H' := ⟨fun a o s e => ⟨s, h a o e⟩, fun a xs e => h a _ e, fun a o u e => h a _ e⟩
theorem Keep.wide (h : ∀ a, S a → S' a) : Keep S S' H H := ⟨fun a o s e => ⟨h a s, e⟩, fun a xs e => e, fun a o u e => e⟩
theorem RpA.length : ∀ {v : List V} {d : List D}, RpA K S H v d → v.length = d.length
  | _, _, .nil => rfl
  | _, _, .cons _ r => congrArg (· + 1) (RpA.length r)
theorem RpA.get : ∀ {vs : List V} {ds : List D} {i : Nat} {d : D}, RpA K S H vs ds → ds[i]? = some d → ∃ v, vs[i]? = some v ∧ Rp K S H v d
  | _, _, _, _, .nil, e => by simp at e
  | _, _, 0, _, .cons r _, e => by simp at e; subst e; exact ⟨_, rfl, r⟩
  | _, _, i + 1, d, .cons _ t, e => by
    obtain ⟨u, h1, h2⟩ := RpA.get (i := i) (d := d) t (by simpa using e)
    exact ⟨u, by simpa using h1, h2⟩
theorem RpA.getV : ∀ {vs : List V} {ds : List D} {i : Nat} {v : V}, RpA K S H vs ds → vs[i]? = some v → ∃ d, ds[i]? = some d ∧ Rp K S H v d
  | _, _, _, _, .nil, e => by simp at e
  | _, _, 0, _, .cons r _, e => by simp at e; subst e; exact ⟨_, rfl, r⟩
  | _, _, i + 1, d, .cons _ t, e => by
    obtain ⟨u, h1, h2⟩ := RpA.getV (i := i) (v := d) t (by simpa using e)
    exact ⟨u, by simpa using h1, h2⟩
theorem RpA.append : ∀ {vs ws : List V} {ds es : List D}, RpA K S H vs ds → RpA K S H ws es → RpA K S H (vs ++ ws) (ds ++ es)
  | _, _, _, _, .nil, s => s
  | _, _, _, _, .cons r t, s => .cons r (RpA.append t s)
theorem RpA.set {v : V} {d : D} (r : Rp K S H v d) : ∀ {vs : List V} {ds : List D} (i : Nat), RpA K S H vs ds → RpA K S H (vs.set i v) (ds.set i d)
  | _, _, _, .nil => .nil
  | _, _, 0, .cons _ t => .cons r t
  | _, _, i + 1, .cons q t => .cons q (RpA.set r i t)
theorem RpA.take : ∀ {vs : List V} {ds : List D} (n : Nat), RpA K S H vs ds → RpA K S H (vs.take n) (ds.take n)
  | _, _, 0, _ => .nil
  | _, _, _ + 1, .nil => .nil
  | _, _, n + 1, .cons r t => .cons r (RpA.take n t)
theorem RpA.drop : ∀ {vs : List V} {ds : List D} (n : Nat), RpA K S H vs ds → RpA K S H (vs.drop n) (ds.drop n)
  | _, _, 0, r => r
  | _, _, _ + 1, .nil => .nil
  | _, _, n + 1, .cons _ t => RpA.drop n t
theorem RpA.ints : ∀ (ns : List Int), RpA K S H (ns.map V.int) (ns.map D.int)
  | [] => .nil
  | n :: ns => .cons (.int n) (RpA.ints ns)
end

/-! ### slots -/
inductive Sl where
  | no | sh (d : D) | fr (d : D) | ow (d : D)
abbrev Rho := List Sl
abbrev Sg := List (Option V)
/-- the fields whose lists are changed in place -/
def ownF (f : Str) : Bool := f == ("past" : Str) || f == ("ahead" : Str) || f == ("rows" : Str)
def subs : List (Str × V) → List Addr
  | [] => []
  | (f, .ref b) :: r => if ownF f = true then b :: subs r else subs r
  | _ :: r => subs r
/-- the lists of an object's own -/
def sb (H : Hp) (a : Addr) : List Addr := match H a with
  | some (.ins _ _ vs) => subs vs
  | _ => []
def OwnF (K : PySem.W.Frag) (S : Addr → Prop) (H : Hp) : List (Str × V) → List D → Prop
  | [], [] => True
  | (f, v) :: vs, d :: ds => (if ownF f = true then ∃ b xs es, v = .ref b ∧ d = .lst es ∧ H b = some (.lst xs) ∧ RpA K S H xs es else Rp K S H v d) ∧ OwnF K S H vs ds
  | _, _ => False
/-- a list, a dict, an object of one's own at a -/
def Own (K : PySem.W.Frag) (S : Addr → Prop) (H : Hp) (a : Addr) : D → Prop
  | .lst ds => ∃ xs, H a = some (.lst xs) ∧ RpA K S H xs ds
  | .dct ds => ∃ kvs, H a = some (.dT kvs) ∧ RpT K S H kvs ds
  | .dk ds => ∃ kvs, H a = some (.dK kvs) ∧ RpK K S H kvs ds
  | .obj p c ns ds => a = p ∧ ∃ C dx vs, H a = some (.ins C dx vs) ∧ ClsAt K c C ∧ vs.map (·.1) = ns ∧ OwnF K S H vs ds ∧ (subs vs).Nodup
  | .pls p ds => a = p ∧ ∃ xs, H a = some (.lst xs) ∧ RpA K S H xs ds
  | _ => False
/-- what may be one's own -/
def Mt : Option HO → Prop
  | some (.lst _) => True
  | some (.dT _) => True
  | some (.dK _) => True
  | some (.ins _ _ _) => True
  | _ => False
/-- data of the arguments and new ones; new ones alone -/
def SA (S0 : Addr → Prop) (H0 : Hp) (own : List Addr) : Addr → Prop := fun a => a ∉ own ∧ (S0 a ∨ H0 a = none)
def SF (H0 : Hp) (own : List Addr) : Addr → Prop := fun a => a ∉ own ∧ H0 a = none
theorem SF.sa {S0 : Addr → Prop} {H0 : Hp} {own : List Addr} (a : Addr) (h : SF H0 own a) : SA S0 H0 own a := ⟨h.1, .inr h.2⟩

structure Rel (K : PySem.W.Frag) (S0 : Addr → Prop) (H0 : Hp) (ρ : Rho) (σ : Sg) (own : List Addr) (H : Hp) : Prop where
  sh : ∀ (i : Nat) (d : D), ρ[i]? = some (.sh d) → ∃ v, σ[i]? = some (some v) ∧ Rp K (SA S0 H0 own) H v d
  fr : ∀ (i : Nat) (d : D), ρ[i]? = some (.fr d) → ∃ v, σ[i]? = some (some v) ∧ Rp K (SF H0 own) H v d
  ow : ∀ (i : Nat) (d : D), ρ[i]? = some (.ow d) → ∃ a, σ[i]? = some (some (.ref a)) ∧ a ∈ own ∧ Own K (SF H0 own) H a d
  dis : ∀ (i j : Nat) (d e : D), ρ[i]? = some (.ow d) → ρ[j]? = some (.ow e) → σ[i]? = σ[j]? → i = j
  sub : ∀ (i : Nat) (d : D) (a : Addr), ρ[i]? = some (.ow d) → σ[i]? = some (some (.ref a)) → ∀ x, x ∈ sb H a → x ∈ own ∧ ∀ (j : Nat) (e : D) (b : Addr), ρ[j]? = some (.ow e) → σ[j]? = some (some (.ref b)) → x ≠ b ∧ (j ≠ i → x ∉ sb H b)
  own0 : ∀ a, a ∈ own → H0 a = none ∧ Mt (H a)
  same : Same H0 H
  len : σ.length = ρ.length
/-- the states behind: what was not one's own stands -/
structure Fra (own : List Addr) (H : Hp) (own' : List Addr) (H' : Hp) : Prop where
  k : ∀ a o, H a = some o → a ∉ own → H' a = some o
  n : ∀ a, a ∈ own' → a ∈ own ∨ H a = none
section
variable {K : PySem.W.Frag} {S0 : Addr → Prop} {H0 H H' H2 : Hp} {ρ : Rho} {σ : Sg} {own own' own2 : List Addr}
theorem OwnF.keep {S S' : Addr → Prop} (k : Keep S S' H H') : ∀ {vs : List (Str × V)} {ds : List D}, (∀ b, b ∈ subs vs → ∀ o, H b = some o → H' b = some o) → OwnF K S H vs ds → OwnF K S' H' vs ds
  | [], [], _, _ => trivial
  | [], _ :: _, _, h => h.elim
  | _ :: _, [], _, h => h.elim
  | (f, v) :: vs, d :: ds, hb, h => by
    refine ⟨?_, OwnF.keep k (fun b m => hb b ?_) h.2⟩
    · have h1 := h.1
      by_cases c : ownF f = true
      · rw [if_pos c] at h1 ⊢
        obtain ⟨b, xs, es, rfl, rfl, e, r⟩ := h1
        refine ⟨b, xs, es, rfl, rfl, hb b ?_ _ e, r.keep k⟩
        unfold subs
        rw [if_pos c]
        exact List.mem_cons_self
      · rw [if_neg c] at h1 ⊢
        exact h1.keep k
    · cases v with
      | ref x =>
        unfold subs
        by_cases c : ownF f = true
        · rw [if_pos c]; exact List.mem_cons_of_mem _ m
        · rw [if_neg c]; exact m
      | _ => exact m
theorem OwnF.rp {S : Addr → Prop} : ∀ {vs : List (Str × V)} {ds : List D}, OwnF K S H vs ds → RpA K (fun _ => True) H (vs.map (·.2)) ds
  | [], [], _ => .nil
  | [], _ :: _, h => h.elim
  | _ :: _, [], h => h.elim
  | (f, v) :: vs, d :: ds, h => by
    refine .cons ?_ (OwnF.rp h.2)
    have h1 := h.1
    by_cases c : ownF f = true
    · rw [if_pos c] at h1
      obtain ⟨b, xs, es, rfl, rfl, e, r⟩ := h1
      exact .lst trivial e (r.keep (.wide fun _ _ => trivial))
    · rw [if_neg c] at h1
      exact h1.keep (.wide fun _ _ => trivial)
theorem Own.rp {S : Addr → Prop} {a p : Addr} {c : Str} {ns : List Str} {ds : List D} (h : Own K S H a (.obj p c ns ds)) : Rp K (fun _ => True) H (.ref a) (.obj p c ns ds) := by
  obtain ⟨e0, C, dx, vs, e, hc, hn, r, nd⟩ := h
  exact .obj trivial e hc hn rfl r.rp
theorem sb_ins {a C dx : Addr} {vs : List (Str × V)} (h : H a = some (.ins C dx vs)) : sb H a = subs vs := by unfold sb; rw [h]
theorem sb_eq {a : Addr} (h : H' a = H a) : sb H' a = sb H a := by unfold sb; rw [h]
theorem Own.keep {S S' : Addr → Prop} {a : Addr} {d : D} (k : Keep S S' H H') (ha : ∀ x, x = a ∨ x ∈ sb H a → ∀ o, H x = some o → H' x = some o) (h : Own K S H a d) : Own K S' H' a d := by
  cases d with
  | lst ds => obtain ⟨xs, e, r⟩ := h; exact ⟨xs, ha a (.inl rfl) _ e, r.keep k⟩
  | dct ds => obtain ⟨xs, e, r⟩ := h; exact ⟨xs, ha a (.inl rfl) _ e, r.keep k⟩
  | dk ds => obtain ⟨xs, e, r⟩ := h; exact ⟨xs, ha a (.inl rfl) _ e, r.keep k⟩
  | obj p c ns ds =>
    obtain ⟨e0, C, dx, vs, e, hc, hn, r, nd⟩ := h
    exact ⟨e0, C, dx, vs, ha a (.inl rfl) _ e, hc, hn, r.keep k fun b hb => ha b (.inr (by rw [sb_ins e]; exact hb)), nd⟩
  | pls p ds => obtain ⟨e0, xs, e, r⟩ := h; exact ⟨e0, xs, ha a (.inl rfl) _ e, r.keep k⟩
  | non => exact h.elim
  | bl _ => exact h.elim
  | int _ => exact h.elim
  | str _ => exact h.elim
  | tup _ => exact h.elim
  | kt _ => exact h.elim
  | fz _ => exact h.elim
  | raw _ => exact h.elim
theorem Own.mt {S : Addr → Prop} {a : Addr} {d : D} (h : Own K S H a d) : Mt (H a) := by
  cases d with
  | lst ds => obtain ⟨xs, e, r⟩ := h; rw [e]; trivial
  | dct ds => obtain ⟨xs, e, r⟩ := h; rw [e]; trivial
  | dk ds => obtain ⟨xs, e, r⟩ := h; rw [e]; trivial
  | obj p c ns ds => obtain ⟨e0, C, dx, vs, e, _⟩ := h; rw [e]; trivial
  | pls p ds => obtain ⟨e0, xs, e, r⟩ := h; rw [e]; trivial
  | non => exact h.elim
  | bl _ => exact h.elim
  | int _ => exact h.elim
  | str _ => exact h.elim
  | tup _ => exact h.elim
  | kt _ => exact h.elim
  | fz _ => exact h.elim
  | raw _ => exact h.elim
def isObj : D → Bool
  | .obj _ _ _ _ => true
  | _ => false
theorem Own.sb {S : Addr → Prop} {a : Addr} {d : D} (h : Own K S H a d) (hd : isObj d = false) : sb H a = [] := by
  cases d with
  | lst ds => obtain ⟨xs, e, r⟩ := h; unfold VL.sb; rw [e]
  | dct ds => obtain ⟨xs, e, r⟩ := h; unfold VL.sb; rw [e]
  | dk ds => obtain ⟨xs, e, r⟩ := h; unfold VL.sb; rw [e]
  | obj p c ns ds => cases hd
  | pls p ds => obtain ⟨e0, xs, e, r⟩ := h; unfold VL.sb; rw [e]
  | non => exact h.elim
  | bl _ => exact h.elim
  | int _ => exact h.elim
  | str _ => exact h.elim
  | tup _ => exact h.elim
  | kt _ => exact h.elim
  | fz _ => exact h.elim
  | raw _ => exact h.elim
theorem Fra.refl : Fra own H own H := ⟨fun _ _ h _ => h, fun _ h => .inl h⟩
theorem Fra.trans (a : Fra own H own' H') (b : Fra own' H' own2 H2) : Fra own H own2 H2 where
  k := fun x o h hn => b.k x o (a.k x o h hn) fun hm => by
    rcases a.n x hm with z | z
    · exact hn z
    · rw [h] at z; cases z
  n := fun x hm => by
    rcases b.n x hm with z | z
    · exact a.n x z
    · by_cases hx : x ∈ own
      · exact .inl hx
      · refine .inr ?_
        cases e : H x with
        | none => rfl
        | some o => rw [a.k x o e hx] at z; cases z
theorem Fra.same (h : Same H H') : Fra own H own H' := ⟨fun a o e _ => h a o e, fun _ h => .inl h⟩
/-- nothing of one's own at the start: all stands -/
theorem Fra.all (f : Fra [] H own' H') : Same H H' := fun a o e => f.k a o e (by simp)
theorem mt_some {o : Option HO} (h : Mt o) : ∃ u, o = some u := by
  cases o with
  | none => exact h.elim
  | some u => exact ⟨u, rfl⟩
/-- over a frame step -/
theorem Fra.keepA (f : Fra own H own' H') (own0 : ∀ a, a ∈ own → H0 a = none ∧ Mt (H a)) : Keep (SA S0 H0 own) (SA S0 H0 own') H H' where
  l := fun a o s e => ⟨⟨fun hm => (f.n a hm).elim s.1 (fun z => by rw [e] at z; exact nomatch z), s.2⟩, f.k a o e s.1⟩
  t := fun a xs e => f.k a _ e fun hm => by
    have := (own0 a hm).2
    rw [e] at this; exact this
  z := fun a o u e => f.k a _ e fun hm => by
    have := (own0 a hm).2
    rw [e] at this; exact this
theorem Fra.keepF (f : Fra own H own' H') (own0 : ∀ a, a ∈ own → H0 a = none ∧ Mt (H a)) : Keep (SF H0 own) (SF H0 own') H H' where
  l := fun a o s e => ⟨⟨fun hm => (f.n a hm).elim s.1 (fun z => by rw [e] at z; exact nomatch z), s.2⟩, f.k a o e s.1⟩
  t := fun a xs e => f.k a _ e fun hm => by
    have := (own0 a hm).2
    rw [e] at this; exact this
  z := fun a o u e => f.k a _ e fun hm => by
    have := (own0 a hm).2
    rw [e] at this; exact this
theorem Rel.grow (R : Rel K S0 H0 ρ σ own H) (h : Same H H') : Rel K S0 H0 ρ σ own H' where
  sh := fun i d e => let ⟨v, a, r⟩ := R.sh i d e; ⟨v, a, r.keep (.same h)⟩
  fr := fun i d e => let ⟨v, a, r⟩ := R.fr i d e; ⟨v, a, r.keep (.same h)⟩
  ow := fun i d e => let ⟨v, a, m, r⟩ := R.ow i d e; ⟨v, a, m, r.keep (.same h) fun x _ o q => h _ o q⟩
  dis := R.dis
  sub := fun i d a e1 e2 x hx => by
    have stay : ∀ (j : Nat) (e : D) (b : Addr), ρ[j]? = some (.ow e) → σ[j]? = some (some (.ref b)) → sb H' b = sb H b := fun j e b g1 g2 => by
      obtain ⟨c, g3, g4, _⟩ := R.ow j e g1
      rw [g2] at g3
      cases g3
      obtain ⟨u, eu⟩ := mt_some (R.own0 b g4).2
      exact sb_eq (by rw [eu, h b u eu])
    rw [stay i d a e1 e2] at hx
    obtain ⟨h1, h2⟩ := R.sub i d a e1 e2 x hx
    refine ⟨h1, fun j e b g1 g2 => ?_⟩
    rw [stay j e b g1 g2]
    exact h2 j e b g1 g2
  own0 := fun a ha => ⟨(R.own0 a ha).1, by
    obtain ⟨u, e⟩ := mt_some (R.own0 a ha).2
    have m := (R.own0 a ha).2
    rw [h a u e, ← e]
    exact m⟩
  same := R.same.trans h
  len := R.len
/-- slots forgotten -/
theorem Rel.less {ρ' : Rho} (R : Rel K S0 H0 ρ σ own H) (hl : ρ'.length = ρ.length) (h : ∀ (i : Nat) (s : Sl), ρ'[i]? = some s → s = .no ∨ ρ[i]? = some s) : Rel K S0 H0 ρ' σ own H where
  sh := fun i d e => (h i _ e).elim (fun z => by cases z) fun z => R.sh i d z
  fr := fun i d e => (h i _ e).elim (fun z => by cases z) fun z => R.fr i d z
  ow := fun i d e => (h i _ e).elim (fun z => by cases z) fun z => R.ow i d z
  dis := fun i j d e a b q => (h i _ a).elim (fun z => by cases z) fun z => (h j _ b).elim (fun y => by cases y) fun y => R.dis i j d e z y q
  sub := fun i d a e1 e2 x hx => (h i _ e1).elim (fun z => by cases z) fun z => by
    obtain ⟨h1, h2⟩ := R.sub i d a z e2 x hx
    exact ⟨h1, fun j e b g1 g2 => (h j _ g1).elim (fun y => by cases y) fun y => h2 j e b y g2⟩
  own0 := R.own0
  same := R.same
  len := by rw [R.len, hl]
theorem get_set {α : Type} {l : List α} {i j : Nat} {x y : α} (h : (l.set i x)[j]? = some y) : (j = i ∧ y = x ∧ i < l.length) ∨ (j ≠ i ∧ l[j]? = some y) := by
  by_cases e : i = j
  · subst e
    by_cases hl : i < l.length
    · rw [List.getElem?_set_self hl] at h
      exact .inl ⟨rfl, (Option.some.inj h).symm, hl⟩
    · rw [List.getElem?_eq_none (by simp; omega)] at h
      cases h
  · rw [List.getElem?_set_ne e] at h
    exact .inr ⟨fun z => e z.symm, h⟩
/-- a slot is stored: a shared value -/
theorem Rel.setSh {i : Nat} {v : V} {d : D} (R : Rel K S0 H0 ρ σ own H) (r : Rp K (SA S0 H0 own) H v d) : Rel K S0 H0 (ρ.set i (.sh d)) (σ.set i (some v)) own H where
  sh := fun j e q => by
    rcases get_set q with ⟨rfl, z, hl⟩ | ⟨hj, z⟩
    · cases z
      exact ⟨v, List.getElem?_set_self (by rw [R.len]; exact hl), r⟩
    · rw [List.getElem?_set_ne (Ne.symm hj)]
      exact R.sh j e z
  fr := fun j e q => by
    rcases get_set q with ⟨rfl, z, hl⟩ | ⟨hj, z⟩
    · cases z
    · rw [List.getElem?_set_ne (Ne.symm hj)]
      exact R.fr j e z
  ow := fun j e q => by
    rcases get_set q with ⟨rfl, z, hl⟩ | ⟨hj, z⟩
    · cases z
    · rw [List.getElem?_set_ne (Ne.symm hj)]
      exact R.ow j e z
  dis := fun j k d' e' a b q => by
    rcases get_set a with ⟨rfl, z, hl⟩ | ⟨hj, z⟩
    · cases z
    · rcases get_set b with ⟨rfl, y, hl⟩ | ⟨hk, y⟩
      · cases y
      · rw [List.getElem?_set_ne (Ne.symm hj), List.getElem?_set_ne (Ne.symm hk)] at q
        exact R.dis j k d' e' z y q
  sub := fun j d' a e1 e2 x hx => by
    rcases get_set e1 with ⟨rfl, z, hl⟩ | ⟨hj, z⟩
    · cases z
    · rw [List.getElem?_set_ne (Ne.symm hj)] at e2
      obtain ⟨h1, h2⟩ := R.sub j d' a z e2 x hx
      refine ⟨h1, fun k e b g1 g2 => ?_⟩
      rcases get_set g1 with ⟨rfl, y, hl⟩ | ⟨hk, y⟩
      · cases y
      · rw [List.getElem?_set_ne (Ne.symm hk)] at g2
        exact h2 k e b y g2
  own0 := R.own0
  same := R.same
  len := by simp [R.len]
theorem Rel.setFr {i : Nat} {v : V} {d : D} (R : Rel K S0 H0 ρ σ own H) (r : Rp K (SF H0 own) H v d) : Rel K S0 H0 (ρ.set i (.fr d)) (σ.set i (some v)) own H where
  fr := fun j e q => by
    rcases get_set q with ⟨rfl, z, hl⟩ | ⟨hj, z⟩
    · cases z
      exact ⟨v, List.getElem?_set_self (by rw [R.len]; exact hl), r⟩
    · rw [List.getElem?_set_ne (Ne.symm hj)]
      exact R.fr j e z
  sh := fun j e q => by
    rcases get_set q with ⟨rfl, z, hl⟩ | ⟨hj, z⟩
    · cases z
    · rw [List.getElem?_set_ne (Ne.symm hj)]
      exact R.sh j e z
  ow := fun j e q => by
    rcases get_set q with ⟨rfl, z, hl⟩ | ⟨hj, z⟩
    · cases z
    · rw [List.getElem?_set_ne (Ne.symm hj)]
      exact R.ow j e z
  dis := fun j k d' e' a b q => by
    rcases get_set a with ⟨rfl, z, hl⟩ | ⟨hj, z⟩
    · cases z
    · rcases get_set b with ⟨rfl, y, hl⟩ | ⟨hk, y⟩
      · cases y
      · rw [List.getElem?_set_ne (Ne.symm hj), List.getElem?_set_ne (Ne.symm hk)] at q
        exact R.dis j k d' e' z y q
  sub := fun j d' a e1 e2 x hx => by
    rcases get_set e1 with ⟨rfl, z, hl⟩ | ⟨hj, z⟩
    · cases z
    · rw [List.getElem?_set_ne (Ne.symm hj)] at e2
      obtain ⟨h1, h2⟩ := R.sub j d' a z e2 x hx
      refine ⟨h1, fun k e b g1 g2 => ?_⟩
      rcases get_set g1 with ⟨rfl, y, hl⟩ | ⟨hk, y⟩
      · cases y
      · rw [List.getElem?_set_ne (Ne.symm hk)] at g2
        exact h2 k e b y g2
  own0 := R.own0
  same := R.same
  len := by simp [R.len]
/-- a new list or dict becomes one's own: a stands in H, unknown to the data -/
theorem Rel.setOw {i : Nat} {a : Addr} {d : D} {Hb : Hp} (Rb : Rel K S0 H0 ρ σ own Hb) (hs : Same Hb H) (hb : Hb a = none) (r : Own K (SF H0 (a :: own)) H a d) (hd : isObj d = false := by rfl) : Rel K S0 H0 (ρ.set i (.ow d)) (σ.set i (some (.ref a))) (a :: own) H := by
  have f : Fra own Hb (a :: own) H := ⟨fun b o e _ => hs b o e, fun b hm => (List.mem_cons.mp hm).elim (fun z => .inr (by rw [z]; exact hb)) .inl⟩
  have h0 : H0 a = none := Rb.same.free hb
  refine ⟨fun j e q => ?_, fun j e q => ?_, fun j e q => ?_, fun j k d' e' x y q => ?_, fun j d' b e1 e2 x hx => ?_, fun b hm => ?_, Rb.same.trans hs, by simp [Rb.len]⟩
  · rcases get_set q with ⟨rfl, z, hl⟩ | ⟨hj, z⟩
    · cases z
    · rw [List.getElem?_set_ne (Ne.symm hj)]
      obtain ⟨v, h1, h2⟩ := Rb.sh j e z
      exact ⟨v, h1, h2.keep (f.keepA Rb.own0)⟩
  · rcases get_set q with ⟨rfl, z, hl⟩ | ⟨hj, z⟩
    · cases z
    · rw [List.getElem?_set_ne (Ne.symm hj)]
      obtain ⟨v, h1, h2⟩ := Rb.fr j e z
      exact ⟨v, h1, h2.keep (f.keepF Rb.own0)⟩
  · rcases get_set q with ⟨rfl, z, hl⟩ | ⟨hj, z⟩
    · cases z
      exact ⟨a, List.getElem?_set_self (by rw [Rb.len]; exact hl), List.mem_cons_self, r⟩
    · rw [List.getElem?_set_ne (Ne.symm hj)]
      obtain ⟨b, h1, h2, h3⟩ := Rb.ow j e z
      exact ⟨b, h1, List.mem_cons_of_mem _ h2, h3.keep (f.keepF Rb.own0) fun x _ o q => hs _ o q⟩
  · have old : ∀ (j : Nat) (d : D), j ≠ i → ρ[j]? = some (.ow d) → (σ.set i (some (.ref a)))[j]? ≠ some (some (.ref a)) := fun j d hj z w => by
      rw [List.getElem?_set_ne (Ne.symm hj)] at w
      obtain ⟨b, h1, h2, h3⟩ := Rb.ow j d z
      rw [w] at h1
      cases h1
      obtain ⟨u, e⟩ := mt_some (Rb.own0 a h2).2
      rw [hb] at e; cases e
    rcases get_set x with ⟨rfl, z, hl⟩ | ⟨hj, z⟩
    · rcases get_set y with ⟨rfl, z2, hl2⟩ | ⟨hk, z2⟩
      · rfl
      · refine absurd ?_ (old k e' hk z2)
        rw [← q]
        exact List.getElem?_set_self (by rw [Rb.len]; exact hl)
    · rcases get_set y with ⟨rfl, z2, hl2⟩ | ⟨hk, z2⟩
      · refine absurd ?_ (old j d' hj z)
        rw [q]
        exact List.getElem?_set_self (by rw [Rb.len]; exact hl2)
      · rw [List.getElem?_set_ne (Ne.symm hj), List.getElem?_set_ne (Ne.symm hk)] at q
        exact Rb.dis j k d' e' z z2 q
  · have hsb : sb H a = [] := r.sb hd
    have stay : ∀ (j : Nat) (e : D) (b : Addr), ρ[j]? = some (.ow e) → σ[j]? = some (some (.ref b)) → sb H b = sb Hb b ∧ b ∈ own := fun j e b g1 g2 => by
      obtain ⟨c, g3, g4, _⟩ := Rb.ow j e g1
      rw [g2] at g3
      cases g3
      obtain ⟨u, eu⟩ := mt_some (Rb.own0 b g4).2
      exact ⟨sb_eq (by rw [eu, hs b u eu]), g4⟩
    rcases get_set e1 with ⟨rfl, z, hl⟩ | ⟨hj, z⟩
    · rw [List.getElem?_set_self (by rw [Rb.len]; exact hl)] at e2
      cases e2
      rw [hsb] at hx
      cases hx
    · rw [List.getElem?_set_ne (Ne.symm hj)] at e2
      rw [(stay j d' b z e2).1] at hx
      obtain ⟨h1, h2⟩ := Rb.sub j d' b z e2 x hx
      refine ⟨List.mem_cons_of_mem _ h1, fun k e c g1 g2 => ?_⟩
      rcases get_set g1 with ⟨rfl, y, hl⟩ | ⟨hk, y⟩
      · rw [List.getElem?_set_self (by rw [Rb.len]; exact hl)] at g2
        cases g2
        refine ⟨fun z => ?_, fun _ => by rw [hsb]; simp⟩
        rw [z] at h1
        obtain ⟨u, e⟩ := mt_some (Rb.own0 a h1).2
        rw [hb] at e; cases e
      · rw [List.getElem?_set_ne (Ne.symm hk)] at g2
        rw [(stay k e c y g2).1]
        exact h2 k e c y g2
  · rcases List.mem_cons.mp hm with rfl | hm
    · exact ⟨h0, r.mt⟩
    · refine ⟨(Rb.own0 b hm).1, ?_⟩
      obtain ⟨u, e⟩ := mt_some (Rb.own0 b hm).2
      have m := (Rb.own0 b hm).2
      rw [hs b u e, ← e]
      exact m
/-- what is one's own changes -/
theorem Rel.chg {i : Nat} {a : Addr} {d d' : D} {o : HO} (R : Rel K S0 H0 ρ σ own H) (hi : ρ[i]? = some (.ow d)) (ha : σ[i]? = some (some (.ref a))) (mo : Mt (some o))
    (r : Own K (SF H0 own) (upd H a o) a d') (hd : isObj d = false := by rfl) (hd' : isObj d' = false := by rfl) : Rel K S0 H0 (ρ.set i (.ow d')) σ own (upd H a o) ∧ Fra own H own (upd H a o) := by
  obtain ⟨a', h1, ham, hown⟩ := R.ow i d hi
  rw [ha] at h1
  cases h1
  have f : Fra own H own (upd H a o) := ⟨fun b u e hn => by rw [upd_ne (fun z => hn (by rw [z]; exact ham))]; exact e, fun _ h => .inl h⟩
  have hil : i < ρ.length := (List.getElem?_eq_some_iff.mp hi).1
  refine ⟨⟨fun j e q => ?_, fun j e q => ?_, fun j e q => ?_, fun j k d1 e1 x y q => ?_, fun j d1 b e1 e2 x hx => ?_, fun b hm => ⟨(R.own0 b hm).1, ?_⟩, fun b u e => ?_, by simp [R.len]⟩, f⟩
  · rcases get_set q with ⟨rfl, z, hl⟩ | ⟨hj, z⟩
    · cases z
    · obtain ⟨v, h1, h2⟩ := R.sh j e z
      exact ⟨v, h1, h2.keep (f.keepA R.own0)⟩
  · rcases get_set q with ⟨rfl, z, hl⟩ | ⟨hj, z⟩
    · cases z
    · obtain ⟨v, h1, h2⟩ := R.fr j e z
      exact ⟨v, h1, h2.keep (f.keepF R.own0)⟩
  · rcases get_set q with ⟨rfl, z, hl⟩ | ⟨hj, z⟩
    · cases z
      exact ⟨a, ha, ham, r⟩
    · obtain ⟨b, h1, h2, h3⟩ := R.ow j e z
      have hba : b ≠ a := fun z2 => hj (R.dis j i e d z hi (by rw [h1, ha, z2]))
      refine ⟨b, h1, h2, h3.keep (f.keepF R.own0) fun x hx u eu => ?_⟩
      have hxa : x ≠ a := by
        rcases hx with rfl | hx
        · exact hba
        · exact ((R.sub j e b z h1 x hx).2 i d a hi ha).1
      rw [upd_ne hxa]; exact eu
  · have g : ∀ (j : Nat) (d1 : D), (ρ.set i (.ow d'))[j]? = some (.ow d1) → ∃ d2, ρ[j]? = some (.ow d2) := fun j d1 z => by
      rcases get_set z with ⟨rfl, _, _⟩ | ⟨_, z⟩
      · exact ⟨_, hi⟩
      · exact ⟨_, z⟩
    obtain ⟨d2, z2⟩ := g j d1 x
    obtain ⟨d3, z3⟩ := g k e1 y
    exact R.dis j k d2 d3 z2 z3 q
  · have hsa : sb H a = [] := hown.sb hd
    have hsb : sb (upd H a o) a = [] := r.sb hd'
    have all : ∀ c, sb (upd H a o) c = sb H c := fun c => by
      by_cases e : c = a
      · rw [e, hsa, hsb]
      · exact sb_eq (upd_ne e)
    have g : ∀ (j : Nat) (d1 : D), (ρ.set i (.ow d'))[j]? = some (.ow d1) → ∃ d2, ρ[j]? = some (.ow d2) := fun j d1 z => by
      rcases get_set z with ⟨rfl, _, _⟩ | ⟨_, z⟩
      · exact ⟨_, hi⟩
      · exact ⟨_, z⟩
    obtain ⟨d2, z2⟩ := g j d1 e1
    rw [all] at hx
    obtain ⟨h1, h2⟩ := R.sub j d2 b z2 e2 x hx
    refine ⟨h1, fun k e c g1 g2 => ?_⟩
    obtain ⟨d3, z3⟩ := g k e g1
    rw [all]
    exact h2 k d3 c z3 g2
  · by_cases hb : b = a
    · subst hb; rw [upd_same]; exact mo
    · rw [upd_ne hb]; exact (R.own0 b hm).2
  · have hb : b ≠ a := fun z => by
      have := (R.own0 a ham).1
      rw [← z, e] at this; cases this
    rw [upd_ne hb]
    exact R.same b u e
/-- what is one's own is given to all -/
theorem Rel.share {i : Nat} {d : D} (R : Rel K S0 H0 ρ σ own H) (hi : ρ[i]? = some (.ow d)) (hd : isObj d = false) : ∃ own', Rel K S0 H0 (ρ.set i (.fr d)) σ own' H ∧ Fra own H own' H := by
  obtain ⟨a, h1, h2, h3⟩ := R.ow i d hi
  refine ⟨own.filter fun b => decide (b ≠ a), ?_, ⟨fun _ _ e _ => e, fun b hm => .inl (List.mem_filter.mp hm).1⟩⟩
  have f : Fra own H (own.filter fun b => decide (b ≠ a)) H := ⟨fun _ _ e _ => e, fun b hm => .inl (List.mem_filter.mp hm).1⟩
  have na : a ∉ own.filter fun b => decide (b ≠ a) := fun hm => by simpa using (List.mem_filter.mp hm).2
  have h0 := (R.own0 a h2).1
  refine ⟨fun j e q => ?_, fun j e q => ?_, fun j e q => ?_, fun j k d1 e1 x y q => ?_, fun j d1 b e1 e2 x hx => ?_, fun b hm => R.own0 b (List.mem_filter.mp hm).1, R.same, by simp [R.len]⟩
  · rcases get_set q with ⟨rfl, z, hl⟩ | ⟨hj, z⟩
    · cases z
    · obtain ⟨v, h1, h2⟩ := R.sh j e z
      exact ⟨v, h1, h2.keep (f.keepA R.own0)⟩
  · rcases get_set q with ⟨rfl, z, hl⟩ | ⟨hj, z⟩
    · cases z
      refine ⟨.ref a, h1, ?_⟩
      have h3' := h3.keep (f.keepF R.own0) (fun _ _ _ q => q)
      cases d with
      | lst ds => obtain ⟨xs, e, r⟩ := h3'; exact .lst ⟨na, h0⟩ e r
      | dct ds => obtain ⟨xs, e, r⟩ := h3'; exact .dct ⟨na, h0⟩ e r
      | dk ds => obtain ⟨xs, e, r⟩ := h3'; exact .dk ⟨na, h0⟩ e r
      | non => exact h3'.elim
      | bl _ => exact h3'.elim
      | int _ => exact h3'.elim
      | str _ => exact h3'.elim
      | tup _ => exact h3'.elim
      | kt _ => exact h3'.elim
      | fz _ => exact h3'.elim
      | raw _ => exact h3'.elim
      | pls p ds => obtain ⟨e0, xs, e, r⟩ := h3'; exact .pls ⟨na, h0⟩ e r
      | obj _ _ _ _ => cases hd
    · obtain ⟨v, h1, h2⟩ := R.fr j e z
      exact ⟨v, h1, h2.keep (f.keepF R.own0)⟩
  · rcases get_set q with ⟨rfl, z, hl⟩ | ⟨hj, z⟩
    · cases z
    · obtain ⟨b, e1, e2, e3⟩ := R.ow j e z
      have hba : b ≠ a := fun z2 => hj (R.dis j i e d z hi (by rw [e1, h1, z2]))
      exact ⟨b, e1, List.mem_filter.mpr ⟨e2, by simpa using hba⟩, e3.keep (f.keepF R.own0) fun _ _ _ q => q⟩
  · rcases get_set x with ⟨rfl, z, hl⟩ | ⟨hj, z⟩
    · cases z
    · rcases get_set y with ⟨rfl, z2, hl⟩ | ⟨hk, z2⟩
      · cases z2
      · exact R.dis j k d1 e1 z z2 q
  · rcases get_set e1 with ⟨rfl, z, hl⟩ | ⟨hj, z⟩
    · cases z
    · obtain ⟨g1, g2⟩ := R.sub j d1 b z e2 x hx
      have hxa : x ≠ a := (g2 i d a hi h1).1
      refine ⟨List.mem_filter.mpr ⟨g1, by simpa using hxa⟩, fun k e c g3 g4 => ?_⟩
      rcases get_set g3 with ⟨rfl, y, hl⟩ | ⟨hk, y⟩
      · cases y
      · exact g2 k e c y g4
end
end VL
set_option Elab.async false
set_option linter.all false
set_option maxRecDepth 100000
/-! VL: expressions. -/
namespace VL
open PySem L2

/-- how an expression's value stands: borrowed (it may be one's own list), shared, made in this def, made by this expression -/
inductive Md where
  | O | E | F | N
def SN (Hb : Hp) (H0 : Hp) (own : List Addr) : Addr → Prop := fun a => Hb a = none ∧ SF H0 own a
def RM (K : PySem.W.Frag) (S0 : Addr → Prop) (H0 : Hp) (own : List Addr) : Md → Hp → Hp → V → D → Prop
  | .O, _, H, v, d => Rp K (SA S0 H0 own) H v d ∨ ∃ a, v = .ref a ∧ a ∈ own ∧ Own K (SF H0 own) H a d
  | .E, _, H, v, d => Rp K (SA S0 H0 own) H v d
  | .F, _, H, v, d => Rp K (SF H0 own) H v d
  | .N, Hb, H, v, d => Rp K (SN Hb H0 own) H v d
def IsCls (mg : Str → Option Value) : Xc → Value → Option Addr → Prop
  | .own c, v, d => mg c = some v ∧ d = none
  | .bi n, v, _ => v = .type n
section
variable (X : Cx) (W : WX) (S0 : Addr → Prop) (H0 : Hp) (own : List Addr) (m : Md) (H : Hp) (σ : Sg)
/-- what is wanted behind an expression -/
def PX (Q : VK) : M D → Prop
  | .ok d => ∀ v H', Same H H' → RM X.K S0 H0 own m H H' v d → Q v H'
  | .ex c => ∀ cv d H', IsCls X.mg c cv d → Same H H' → W cv d σ H'
  | .er => False
def PXT (Q : Bool → Hp → Prop) : M Bool → Prop
  | .ok b => ∀ H', Same H H' → Q b H'
  | .ex c => ∀ cv d H', IsCls X.mg c cv d → Same H H' → W cv d σ H'
  | .er => False
def PXA (Q : List V → Hp → Prop) : M (List D) → Prop
  | .ok ds => ∀ vs H', Same H H' → Paired (RM X.K S0 H0 own m H H') vs ds → Q vs H'
  | .ex c => ∀ cv d H', IsCls X.mg c cv d → Same H H' → W cv d σ H'
  | .er => False
end
structure VX (X : Cx) (W : WX) (S0 : Addr → Prop) (H0 : Hp) (m : Md) (e : Expr) (f : Rho → M D) : Prop where
  p : ∃ te, PE X e te ∧ ∀ ρ σ own H Q, Rel X.K S0 H0 ρ σ own H → PX X W S0 H0 own m H σ Q (f ρ) → te σ H Q
structure VT (X : Cx) (W : WX) (S0 : Addr → Prop) (H0 : Hp) (e : Expr) (f : Rho → M Bool) : Prop where
  p : ∃ te, PT X e te ∧ ∀ ρ σ own H Q, Rel X.K S0 H0 ρ σ own H → PXT X W H σ Q (f ρ) → te σ H Q
/-- a test whatever its whole is (and, or) -/
structure VW (X : Cx) (W : WX) (S0 : Addr → Prop) (H0 : Hp) (e : Expr) (f : Rho → M Bool) : Prop where
  p : ∃ te, PW X e te ∧ ∀ ρ σ own H Q, Rel X.K S0 H0 ρ σ own H → PXT X W H σ Q (f ρ) → te σ H Q
structure VA (X : Cx) (W : WX) (S0 : Addr → Prop) (H0 : Hp) (m : Md) (es : List Expr) (f : Rho → M (List D)) : Prop where
  p : ∃ te, PA X es te ∧ ∀ ρ σ own H Q, Rel X.K S0 H0 ρ σ own H → PXA X W S0 H0 own m H σ Q (f ρ) → te σ H Q

section
variable {X : Cx} {W : WX} {S0 : Addr → Prop} {H0 : Hp} {own : List Addr} {m : Md} {H H1 : Hp} {σ : Sg} {ρ : Rho} {K : PySem.W.Frag} {v : V} {d : D}
/-! ### modes -/
variable {Hb Hc : Hp}
theorem RM.grow (h : Same H H1) (r : RM K S0 H0 own m Hb H v d) : RM K S0 H0 own m Hb H1 v d := by
  cases m with
  | E => exact Rp.keep (.same h) r
  | F => exact Rp.keep (.same h) r
  | N => exact Rp.keep (.same h) r
  | O =>
    rcases r with r | ⟨a, e, hm, r⟩
    · exact .inl (r.keep (.same h))
    · exact .inr ⟨a, e, hm, r.keep (.same h) fun _ _ o q => h _ o q⟩
theorem RM.back (h : Same Hc Hb) (r : RM K S0 H0 own m Hb H v d) : RM K S0 H0 own m Hc H v d := by
  cases m with
  | O => exact r
  | E => exact r
  | F => exact r
  | N => exact Rp.keep (.wide fun a q => ⟨h.free q.1, q.2⟩) r
theorem RMA.grow (h : Same H H1) {vs : List V} {ds : List D} (r : Paired (RM K S0 H0 own m Hb H) vs ds) : Paired (RM K S0 H0 own m Hb H1) vs ds := by
  induction r with
  | nil => exact .nil
  | cons a _ ih => exact .cons (a.grow h) ih
theorem RMA.back (h : Same Hc Hb) {vs : List V} {ds : List D} (r : Paired (RM K S0 H0 own m Hb H) vs ds) : Paired (RM K S0 H0 own m Hc H) vs ds := by
  induction r with
  | nil => exact .nil
  | cons a _ ih => exact .cons (a.back h) ih
theorem RM.nf (r : RM K S0 H0 own .N Hb H v d) : RM K S0 H0 own .F Hc H v d := Rp.keep (.wide fun a q => q.2) r
theorem RM.fe (r : RM K S0 H0 own .F Hb H v d) : RM K S0 H0 own .E Hc H v d := Rp.keep (.wide SF.sa) r
theorem RM.toO (r : RM K S0 H0 own m Hb H v d) : RM K S0 H0 own .O Hc H v d := by
  cases m with
  | O => exact r
  | E => exact .inl r
  | F => exact .inl (Rp.keep (.wide SF.sa) r)
  | N => exact .inl (Rp.keep (.wide fun a q => SF.sa a q.2) r)
/-- data without lists: as well new -/
theorem RM.ofNon : RM K S0 H0 own m Hb H .non .non := by cases m <;> first | exact .non | exact .inl .non
theorem RM.ofInt (i : Int) : RM K S0 H0 own m Hb H (.int i) (.int i) := by cases m <;> first | exact .int i | exact .inl (.int i)
theorem RM.ofBl (i : Bool) : RM K S0 H0 own m Hb H (.bl i) (.bl i) := by cases m <;> first | exact .bl i | exact .inl (.bl i)
theorem RM.ofStr (i : Str) : RM K S0 H0 own m Hb H (.str i) (.str i) := by cases m <;> first | exact .str i | exact .inl (.str i)
theorem RM.isInt {i : Int} (r : RM K S0 H0 own m Hb H v (.int i)) : v = .int i := by
  rcases r.toO (Hc := Hb) with r | ⟨a, e, hm, r⟩
  · cases r; rfl
  · exact r.elim
theorem RM.isBl {i : Bool} (r : RM K S0 H0 own m Hb H v (.bl i)) : v = .bl i := by
  rcases r.toO (Hc := Hb) with r | ⟨a, e, hm, r⟩
  · cases r; rfl
  · exact r.elim
theorem RM.isStr {i : Str} (r : RM K S0 H0 own m Hb H v (.str i)) : v = .str i := by
  rcases r.toO (Hc := Hb) with r | ⟨a, e, hm, r⟩
  · cases r; rfl
  · exact r.elim
theorem RM.isNon (r : RM K S0 H0 own m Hb H v .non) : v = .non := by
  rcases r.toO (Hc := Hb) with r | ⟨a, e, hm, r⟩
  · cases r; rfl
  · exact r.elim
theorem SqL.rd {a : Addr} {xs : List V} (h : Rd H a (.lst xs)) : SqL K H a xs := .inl h
/-- a list read -/
theorem RM.isLst {ds : List D} (r : RM K S0 H0 own m Hb H v (.lst ds)) : ∃ a xs, v = .ref a ∧ Rd H a (.lst xs) ∧ RpA K (SA S0 H0 own) H xs ds := by
  rcases r.toO (Hc := Hb) with r | ⟨a, e, hm, xs, h, r⟩
  · cases r with
    | lst s h r => exact ⟨_, _, rfl, .inl h, r⟩
  · exact ⟨a, xs, e, .inl h, r.keep (.wide SF.sa)⟩
theorem RM.isFz {ds : List D} (r : RM K S0 H0 own m Hb H v (.fz ds)) : ∃ a xs, v = .ref a ∧ FzL K H a xs ∧ RpA K (SA S0 H0 own) H xs ds := by
  rcases r.toO (Hc := Hb) with r | ⟨a, e, hm, r⟩
  · cases r with
    | fz h r => exact ⟨_, _, rfl, h, r⟩
  · exact r.elim
theorem RM.isTup {ds : List D} (r : RM K S0 H0 own m Hb H v (.tup ds)) : ∃ a xs, v = .ref a ∧ H a = some (.tup xs) ∧ RpA K (SA S0 H0 own) H xs ds := by
  rcases r.toO (Hc := Hb) with r | ⟨a, e, hm, r⟩
  · cases r with
    | tup h r => exact ⟨_, _, rfl, h, r⟩
  · exact r.elim
theorem RM.isKt {ds : List D} (r : RM K S0 H0 own m Hb H v (.kt ds)) : ∃ a xs, v = .ref a ∧ SqT K H a xs ∧ RpA K (SA S0 H0 own) H xs ds := by
  rcases r.toO (Hc := Hb) with r | ⟨a, e, hm, r⟩
  · cases r with
    | kt h r => exact ⟨_, _, rfl, .inr h, r⟩
  · exact r.elim
theorem RM.isDct {ds : List (List Key × D)} (r : RM K S0 H0 own m Hb H v (.dct ds)) : ∃ a xs, v = .ref a ∧ Rd H a (.dT xs) ∧ RpT K (SA S0 H0 own) H xs ds := by
  rcases r.toO (Hc := Hb) with r | ⟨a, e, hm, xs, h, r⟩
  · cases r with
    | dct s h r => exact ⟨_, _, rfl, .inl h, r⟩
  · exact ⟨a, xs, e, .inl h, r.keep (.wide SF.sa)⟩
theorem RM.isDk {ds : List (Key × D)} (r : RM K S0 H0 own m Hb H v (.dk ds)) : ∃ a xs, v = .ref a ∧ Rd H a (.dK xs) ∧ RpK K (SA S0 H0 own) H xs ds := by
  rcases r.toO (Hc := Hb) with r | ⟨a, e, hm, xs, h, r⟩
  · cases r with
    | dk s h r => exact ⟨_, _, rfl, .inl h, r⟩
  · exact ⟨a, xs, e, .inl h, r.keep (.wide SF.sa)⟩
/-- an item, as shared -/
theorem RpA.E {vs : List V} {ds : List D} {i : Nat} (r : RpA K (SA S0 H0 own) H vs ds) (e : ds[i]? = some d) : ∃ v, vs[i]? = some v ∧ RM K S0 H0 own .E Hb H v d := r.get e
theorem PX.grow {Q : VK} {r : M D} (h : Same H H1) (p : PX X W S0 H0 own m H σ Q r) : PX X W S0 H0 own m H1 σ Q r := by
  cases r with
  | ok d => exact fun v H' s r => p v H' (h.trans s) (r.back h)
  | ex c => exact fun cv d H' i s => p cv d H' i (h.trans s)
  | er => exact p
theorem PXT.grow {Q : Bool → Hp → Prop} {r : M Bool} (h : Same H H1) (p : PXT X W H σ Q r) : PXT X W H1 σ Q r := by
  cases r with
  | ok d => exact fun H' s => p H' (h.trans s)
  | ex c => exact fun cv d H' i s => p cv d H' i (h.trans s)
  | er => exact p
theorem PXA.grow {Q : List V → Hp → Prop} {r : M (List D)} (h : Same H H1) (p : PXA X W S0 H0 own m H σ Q r) : PXA X W S0 H0 own m H1 σ Q r := by
  cases r with
  | ok d => exact fun v H' s r => p v H' (h.trans s) (RMA.back h r)
  | ex c => exact fun cv d H' i s => p cv d H' i (h.trans s)
  | er => exact p
theorem own_new {a : Addr} (R : Rel K S0 H0 ρ σ own H) (h : H a = none) : a ∉ own := fun hm => by
  have := (R.own0 a hm).2
  rw [h] at this; exact this
theorem sf_new {a : Addr} (R : Rel K S0 H0 ρ σ own H) (h : H a = none) : SF H0 own a := ⟨own_new R h, R.same.free h⟩
theorem same_upd {p : Addr} {o : HO} (h : H p = none) : Same H (upd H p o) := fun b x e => by
  rw [upd_ne (ne_of_none e h)]
  exact e
end

/-! ### names, constants -/
def eV (i : Nat) : Rho → M D := fun ρ => match ρ[i]? with
  | some (.sh d) => .ok d
  | some (.fr d) => .ok d
  | some (.ow d) => .ok d
  | _ => .er
def eVE (i : Nat) : Rho → M D := fun ρ => match ρ[i]? with
  | some (.sh d) => .ok d
  | some (.fr d) => .ok d
  | _ => .er
def eVF (i : Nat) : Rho → M D := fun ρ => match ρ[i]? with
  | some (.fr d) => .ok d
  | _ => .er
def eC (d : D) : Rho → M D := fun _ => .ok d
section
variable {X : Cx} {W : WX} {S0 : Addr → Prop} {H0 : Hp} {m : Md} {pos : Pos}
theorem VX.nf {e : Expr} {f : Rho → M D} (h : VX X W S0 H0 .N e f) : VX X W S0 H0 .F e f := by
  obtain ⟨te, p, q⟩ := h.p
  refine ⟨te, p, fun ρ σ own H Q R k => q ρ σ own H Q R ?_⟩
  revert k
  cases f ρ with
  | ok d => exact fun k v H' s r => k v H' s r.nf
  | ex c => exact id
  | er => exact id
theorem VX.fe {e : Expr} {f : Rho → M D} (h : VX X W S0 H0 .F e f) : VX X W S0 H0 .E e f := by
  obtain ⟨te, p, q⟩ := h.p
  refine ⟨te, p, fun ρ σ own H Q R k => q ρ σ own H Q R ?_⟩
  revert k
  cases f ρ with
  | ok d => exact fun k v H' s r => k v H' s r.fe
  | ex c => exact id
  | er => exact id
theorem VX.toO {e : Expr} {f : Rho → M D} (h : VX X W S0 H0 m e f) : VX X W S0 H0 .O e f := by
  obtain ⟨te, p, q⟩ := h.p
  refine ⟨te, p, fun ρ σ own H Q R k => q ρ σ own H Q R ?_⟩
  revert k
  cases f ρ with
  | ok d => exact fun k v H' s r => k v H' s r.toO
  | ex c => exact id
  | er => exact id
theorem vx_var (i : Nat) {x : Str} (hN : X.N[i]? = some x := by rfl) (hv : Vis X.env.scope x := by first | exact Or.inl rfl | exact Or.inr (Or.inl rfl) | exact Or.inr (Or.inr rfl)) (hd : (x == ("__debug__" : Str)) = false := by decide)
    (hcd : (x == ("__classdict__" : Str)) = false := by decide) : VX X W S0 H0 .O (.Name x pos) (eV i) := by
  refine ⟨_, pe_var hN hv hd hcd, fun ρ σ own H Q R k => ?_⟩
  unfold eV at k
  split at k
  · next d e => obtain ⟨v, h1, h2⟩ := R.sh i d e; exact ⟨v, h1, k v H (Same.refl H) (.inl h2)⟩
  · next d e => obtain ⟨v, h1, h2⟩ := R.fr i d e; exact ⟨v, h1, k v H (Same.refl H) (.inl (h2.keep (.wide SF.sa)))⟩
  · next d e => obtain ⟨a, h1, h2, h3⟩ := R.ow i d e; exact ⟨.ref a, h1, k _ H (Same.refl H) (.inr ⟨a, rfl, h2, h3⟩)⟩
  · exact k.elim
theorem vx_varE (i : Nat) {x : Str} (hN : X.N[i]? = some x := by rfl) (hv : Vis X.env.scope x := by first | exact Or.inl rfl | exact Or.inr (Or.inl rfl) | exact Or.inr (Or.inr rfl)) (hd : (x == ("__debug__" : Str)) = false := by decide)
    (hcd : (x == ("__classdict__" : Str)) = false := by decide) : VX X W S0 H0 .E (.Name x pos) (eVE i) := by
  refine ⟨_, pe_var hN hv hd hcd, fun ρ σ own H Q R k => ?_⟩
  unfold eVE at k
  split at k
  · next d e => obtain ⟨v, h1, h2⟩ := R.sh i d e; exact ⟨v, h1, k v H (Same.refl H) h2⟩
  · next d e => obtain ⟨v, h1, h2⟩ := R.fr i d e; exact ⟨v, h1, k v H (Same.refl H) (h2.keep (.wide SF.sa))⟩
  · exact k.elim
theorem vx_varF (i : Nat) {x : Str} (hN : X.N[i]? = some x := by rfl) (hv : Vis X.env.scope x := by first | exact Or.inl rfl | exact Or.inr (Or.inl rfl) | exact Or.inr (Or.inr rfl)) (hd : (x == ("__debug__" : Str)) = false := by decide)
    (hcd : (x == ("__classdict__" : Str)) = false := by decide) : VX X W S0 H0 .F (.Name x pos) (eVF i) := by
  refine ⟨_, pe_var hN hv hd hcd, fun ρ σ own H Q R k => ?_⟩
  unfold eVF at k
  split at k
  · next d e => obtain ⟨v, h1, h2⟩ := R.fr i d e; exact ⟨v, h1, k v H (Same.refl H) h2⟩
  · exact k.elim
theorem vx_int {i : Int} {j : Nat} : VX X W S0 H0 m (.Constant (.int i) j pos) (eC (.int i)) := ⟨_, pe_int, fun _ _ _ H _ _ k => k _ H (Same.refl H) (.ofInt i)⟩
theorem vx_bl {i : Bool} {j : Nat} : VX X W S0 H0 m (.Constant (.bool i) j pos) (eC (.bl i)) := ⟨_, pe_bl, fun _ _ _ H _ _ k => k _ H (Same.refl H) (.ofBl i)⟩
theorem vx_str {i : Str} {j : Nat} : VX X W S0 H0 m (.Constant (.str i) j pos) (eC (.str i)) := ⟨_, pe_str, fun _ _ _ H _ _ k => k _ H (Same.refl H) (.ofStr i)⟩
theorem vx_non {j : Nat} : VX X W S0 H0 m (.Constant .none j pos) (eC .non) := ⟨_, pe_non, fun _ _ _ H _ _ k => k _ H (Same.refl H) .ofNon⟩
/-- a module's constant: an int, a text -/
theorem vx_gint {x : Str} {i : Int} {u : Value} (hm : X.mg x = some u) (hu : ∃ t, u = .int i t) (hg : Gl X x := by rfl) (hd : (x == ("__debug__" : Str)) = false := by decide) : VX X W S0 H0 m (.Name x pos) (eC (.int i)) :=
  ⟨_, pe_glob (v := .int i) hg hm hu hd, fun _ _ _ H _ _ k => k _ H (Same.refl H) (.ofInt i)⟩
theorem vx_gstr {x : Str} {i : Str} {u : Value} (hm : X.mg x = some u) (hu : ∃ t, u = .str i t) (hg : Gl X x := by rfl) (hd : (x == ("__debug__" : Str)) = false := by decide) : VX X W S0 H0 m (.Name x pos) (eC (.str i)) :=
  ⟨_, pe_glob (v := .str i) hg hm hu hd, fun _ _ _ H _ _ k => k _ H (Same.refl H) (.ofStr i)⟩
end

/-! ### binary operations -/
section
variable (X : Cx) (W : WX) (S0 : Addr → Prop) (H0 : Hp) (m : Md)
def OpG (r : R2) (g : D → D → M D) : Prop :=
  ∀ (ρ : Rho) (σ : Sg) (own : List Addr) (H : Hp) (Q : VK) (vx vy : V) (x y : D), Rel X.K S0 H0 ρ σ own H → RM X.K S0 H0 own .O H H vx x → RM X.K S0 H0 own .O H H vy y → PX X W S0 H0 own m H σ Q (g x y) → r vx vy H Q
def UnG (r : V → Hp → VK → Prop) (g : D → M D) : Prop :=
  ∀ (ρ : Rho) (σ : Sg) (own : List Addr) (H : Hp) (Q : VK) (vx : V) (x : D), Rel X.K S0 H0 ρ σ own H → RM X.K S0 H0 own .O H H vx x → PX X W S0 H0 own m H σ Q (g x) → r vx H Q
def CallG (r : List V → Hp → VK → Prop) (g : List D → M D) : Prop :=
  ∀ (ρ : Rho) (σ : Sg) (own : List Addr) (H : Hp) (Q : VK) (vs : List V) (ds : List D), Rel X.K S0 H0 ρ σ own H → Paired (RM X.K S0 H0 own .O H H) vs ds → PX X W S0 H0 own m H σ Q (g ds) → r vs H Q
end
def eOp (g : D → D → M D) (a b : Rho → M D) : Rho → M D := fun ρ => M.bind (a ρ) fun x => M.bind (b ρ) fun y => g x y
def eUn (g : D → M D) (a : Rho → M D) : Rho → M D := fun ρ => M.bind (a ρ) g
section
variable {X : Cx} {W : WX} {S0 : Addr → Prop} {H0 : Hp} {m ma mb : Md} {pos : Pos} {a b : Expr} {fa fb : Rho → M D} {r : R2} {g : D → D → M D}
theorem bin_run {ta tb : TE} (qa : ∀ ρ σ own H Q, Rel X.K S0 H0 ρ σ own H → PX X W S0 H0 own ma H σ Q (fa ρ) → ta σ H Q) (qb : ∀ ρ σ own H Q, Rel X.K S0 H0 ρ σ own H → PX X W S0 H0 own mb H σ Q (fb ρ) → tb σ H Q)
    (hg : OpG X W S0 H0 m r g) : ∀ ρ σ own H Q, Rel X.K S0 H0 ρ σ own H → PX X W S0 H0 own m H σ Q (eOp g fa fb ρ) → tOp r ta tb σ H Q := by
  intro ρ σ own H Q R k
  refine qa ρ σ own H _ R ?_
  unfold eOp at k
  revert k
  cases fa ρ with
  | er => exact id
  | ex c => exact id
  | ok x =>
    intro k v H1 s1 r1
    refine qb ρ σ own H1 _ (R.grow s1) ?_
    rw [bind_ok] at k
    revert k
    cases fb ρ with
    | er => exact id
    | ex c => exact fun k => fun cv d H' i s => k cv d H' i (s1.trans s)
    | ok y =>
      intro k v2 H2 s2 r2
      exact hg ρ σ own H2 Q v v2 x y ((R.grow s1).grow s2) (r1.grow s2).toO r2.toO (PX.grow (s1.trans s2) k)
theorem vx_op {op : Operator} (ho : OpR X (binaryOp op) r) (hg : OpG X W S0 H0 m r g) (ha : VX X W S0 H0 ma a fa) (hb : VX X W S0 H0 mb b fb) : VX X W S0 H0 m (.BinOp a op b pos) (eOp g fa fb) := by
  obtain ⟨ta, pa, qa⟩ := ha.p
  obtain ⟨tb, pb, qb⟩ := hb.p
  exact ⟨_, pe_op ho pa pb, bin_run qa qb hg⟩
theorem vx_cmp {op : CmpOp} (ho : OpR X (compareOp op) r) (hg : OpG X W S0 H0 m r g) (ha : VX X W S0 H0 ma a fa) (hb : VX X W S0 H0 mb b fb) (hm : behindInMarks op b = false := by first | exact nomark _ | rfl) : VX X W S0 H0 m (.Compare a [op] [b] pos) (eOp g fa fb) := by
  obtain ⟨ta, pa, qa⟩ := ha.p
  obtain ⟨tb, pb, qb⟩ := hb.p
  exact ⟨_, pe_cmpR ho pa pb hm, bin_run qa qb hg⟩
def toB : D → M Bool
  | .bl b => .ok b
  | _ => .er
def eB (f : Rho → M D) : Rho → M Bool := fun ρ => M.bind (f ρ) toB
theorem vt_cmp {op : CmpOp} (ho : OpR X (compareOp op) r) (hg : OpG X W S0 H0 .N r g) (ha : VX X W S0 H0 ma a fa) (hb : VX X W S0 H0 mb b fb) (hm : behindInMarks op b = false := by first | exact nomark _ | rfl) : VT X W S0 H0 (.Compare a [op] [b] pos) (eB (eOp g fa fb)) := by
  obtain ⟨ta, pa, qa⟩ := ha.p
  obtain ⟨tb, pb, qb⟩ := hb.p
  refine ⟨_, pt_cmpR ho pa pb hm, fun ρ σ own H Q R k => bin_run qa qb hg ρ σ own H _ R ?_⟩
  unfold eB at k
  revert k
  cases eOp g fa fb ρ with
  | er => exact id
  | ex c => exact id
  | ok x =>
    intro k v H' s r
    cases x with
    | bl b => rw [r.isBl]; exact ⟨b, rfl, k H' s⟩
    | _ => exact k.elim
/-- a op1 b op2 c -/
def eCh (g g' : D → D → M D) (a b c : Rho → M D) : Rho → M D := fun ρ => M.bind (a ρ) fun x => M.bind (b ρ) fun y => M.bind (M.bind (g x y) toB) fun k => if k = true then M.bind (c ρ) fun z => g' y z else .ok (.bl false)
theorem chain_run {ta tb tc : TE} {mc : Md} {c : Expr} {fc : Rho → M D} {r' : R2} {g' : D → D → M D} (qa : ∀ ρ σ own H Q, Rel X.K S0 H0 ρ σ own H → PX X W S0 H0 own ma H σ Q (fa ρ) → ta σ H Q)
    (qb : ∀ ρ σ own H Q, Rel X.K S0 H0 ρ σ own H → PX X W S0 H0 own mb H σ Q (fb ρ) → tb σ H Q) (qc : ∀ ρ σ own H Q, Rel X.K S0 H0 ρ σ own H → PX X W S0 H0 own mc H σ Q (fc ρ) → tc σ H Q)
    (hg : OpG X W S0 H0 .N r g) (hg' : OpG X W S0 H0 .N r' g') : ∀ ρ σ own H Q, Rel X.K S0 H0 ρ σ own H → PX X W S0 H0 own .N H σ Q (eCh g g' fa fb fc ρ) → tChain r r' ta tb tc σ H Q := by
  intro ρ σ own H Q R k
  refine qa ρ σ own H _ R ?_
  unfold eCh at k
  revert k
  cases fa ρ with
  | er => exact id
  | ex c => exact id
  | ok x =>
    intro k v H1 s1 r1
    refine qb ρ σ own H1 _ (R.grow s1) ?_
    rw [bind_ok] at k
    revert k
    cases fb ρ with
    | er => exact id
    | ex c => exact fun k => fun cv d H' i s => k cv d H' i (s1.trans s)
    | ok y =>
      intro k v2 H2 s2 r2
      refine hg ρ σ own H2 _ v v2 x y ((R.grow s1).grow s2) (r1.grow s2).toO r2.toO ?_
      rw [bind_ok] at k
      revert k
      cases g x y with
      | er => exact id
      | ex c => exact fun k => fun cv d H' i s => k cv d H' i ((s1.trans s2).trans s)
      | ok z =>
        intro k v3 H3 s3 r3
        cases z with
        | bl b =>
          rw [r3.isBl]
          refine ⟨b, rfl, ?_⟩
          cases b with
          | false =>
            rw [if_neg Bool.false_ne_true]
            exact k _ _ ((s1.trans s2).trans s3) (.ofBl false)
          | true =>
            rw [if_pos rfl]
            refine qc ρ σ own H3 _ (((R.grow s1).grow s2).grow s3) ?_
            have k' : PX X W S0 H0 own .N H σ Q (M.bind (fc ρ) fun z => g' y z) := k
            revert k'
            cases fc ρ with
            | er => exact id
            | ex c => exact fun k => fun cv d H' i s => k cv d H' i (((s1.trans s2).trans s3).trans s)
            | ok z =>
              intro k v4 H4 s4 r4
              exact hg' ρ σ own H4 Q v2 v4 y z ((((R.grow s1).grow s2).grow s3).grow s4) ((r2.grow s3).grow s4).toO r4.toO (PX.grow (((s1.trans s2).trans s3).trans s4) k)
        | _ => exact k.elim
theorem vx_chain {op op' : CmpOp} {r' : R2} {g' : D → D → M D} {c : Expr} {fc : Rho → M D} {mc : Md} (ho : OpR X (compareOp op) r) (ho' : OpR X (compareOp op') r') (hg : OpG X W S0 H0 .N r g) (hg' : OpG X W S0 H0 .N r' g')
    (ha : VX X W S0 H0 ma a fa) (hb : VX X W S0 H0 mb b fb) (hc : VX X W S0 H0 mc c fc) (hm : lastMarks [op, op'] [b, c] = false := by with_unfolding_all rfl) : VX X W S0 H0 .N (.Compare a [op, op'] [b, c] pos) (eCh g g' fa fb fc) := by
  obtain ⟨ta, pa, qa⟩ := ha.p
  obtain ⟨tb, pb, qb⟩ := hb.p
  obtain ⟨tc, pc, qc⟩ := hc.p
  exact ⟨_, pe_chain ho ho' pa pb pc hm, chain_run (c := c) qa qb qc hg hg'⟩
theorem vx_un {op : UnaryOp} {r : V → Hp → VK → Prop} {g : D → M D} (ho : UnR X (unaryOp op) r) (hg : UnG X W S0 H0 m r g) (ha : VX X W S0 H0 ma a fa) : VX X W S0 H0 m (.UnaryOp op a pos) (eUn g fa) := by
  obtain ⟨ta, pa, qa⟩ := ha.p
  refine ⟨_, pe_un ho pa, fun ρ σ own H Q R k => ?_⟩
  refine qa ρ σ own H _ R ?_
  unfold eUn at k
  revert k
  cases fa ρ with
  | er => exact id
  | ex c => exact id
  | ok x => exact fun k v H1 s1 r1 => hg ρ σ own H1 Q v x (R.grow s1) r1.toO (PX.grow s1 k)

/-! ### truth, and, or, not -/
def truG : D → M Bool
  | .non => .ok false
  | .bl b => .ok b
  | .int i => .ok (i != 0)
  | .str y => if y.length ≤ sizeLine then .ok ((y.length : Int) != 0) else .er
  | .lst ds => .ok (!ds.isEmpty)
  | .tup ds => .ok (!ds.isEmpty)
  | .kt ds => .ok (!ds.isEmpty)
  | .fz ds => .ok (!ds.isEmpty)
  | .dk ds => .er
  | .dct ds => .er
  | .obj _ _ _ _ => .er
  | .pls _ _ => .er
  | .raw _ => .er
def eTr (f : Rho → M D) : Rho → M Bool := fun ρ => M.bind (f ρ) truG
theorem RpA.isEmpty {K : PySem.W.Frag} {S : Addr → Prop} {H : Hp} {xs : List V} {ds : List D} (r : RpA K S H xs ds) : xs.isEmpty = ds.isEmpty := by cases r <;> rfl
theorem tru_of {K : PySem.W.Frag} {own : List Addr} {H : Hp} {v : V} {d : D} {k : Bool} {Hb : Hp} (r : RM K S0 H0 own m Hb H v d) (h : truG d = .ok k) : TruV K v H k := by
  cases d with
  | non => rw [r.isNon]; cases h; rfl
  | bl b => rw [r.isBl]; cases h; rfl
  | int b => rw [r.isInt]; cases h; rfl
  | str y =>
    rw [r.isStr]
    have h' : (if y.length ≤ sizeLine then M.ok ((y.length : Int) != 0) else M.er) = M.ok k := h
    by_cases hl : y.length ≤ sizeLine
    · rw [if_pos hl] at h'
      cases h'
      exact ⟨hl, rfl⟩
    · rw [if_neg hl] at h'
      cases h'
  | lst ds =>
    obtain ⟨a, xs, rfl, h1, h2⟩ := r.isLst
    cases h
    exact .inl ⟨xs, .inl h1, by rw [h2.isEmpty]⟩
  | tup ds =>
    obtain ⟨a, xs, rfl, h1, h2⟩ := r.isTup
    cases h
    exact .inr (.inl ⟨xs, .inl (.inl h1), by rw [h2.isEmpty]⟩)
  | kt ds =>
    obtain ⟨a, xs, rfl, h1, h2⟩ := r.isKt
    cases h
    exact .inr (.inl ⟨xs, h1, by rw [h2.isEmpty]⟩)
  | fz ds =>
    obtain ⟨a, xs, rfl, h1, h2⟩ := r.isFz
    cases h
    exact .inl ⟨xs, h1.sq, by rw [h2.isEmpty]⟩
  | dct ds => cases h
  | dk ds => cases h
  | obj p c ns ds => cases h
  | pls p ds => cases h
  | raw a => cases h
theorem vt_tru {e : Expr} {f : Rho → M D} (h : VX X W S0 H0 m e f) (he : ∀ whole, isTrue e X.env whole = (do let v ← whole; standAt e.pos; holding [v] (truthy v)) := by intro _; rfl) : VT X W S0 H0 e (eTr f) := by
  obtain ⟨ta, pa, qa⟩ := h.p
  refine ⟨_, pt_truth pa he, fun ρ σ own H Q R k => qa ρ σ own H _ R ?_⟩
  unfold eTr at k
  revert k
  cases f ρ with
  | er => exact id
  | ex c => exact id
  | ok x =>
    intro k v H' s r
    rw [bind_ok] at k
    cases e : truG x with
    | ok b =>
      rw [e] at k
      exact ⟨b, tru_of r e, k H' s⟩
    | ex c => cases x <;> simp [truG] at e; split at e <;> cases e
    | er => rw [e] at k; exact k.elim
def eNot (f : Rho → M Bool) : Rho → M Bool := fun ρ => M.bind (f ρ) fun b => .ok (!b)
def eAnd (f g : Rho → M Bool) : Rho → M Bool := fun ρ => M.bind (f ρ) fun b => if b = true then g ρ else .ok false
def eOr (f g : Rho → M Bool) : Rho → M Bool := fun ρ => M.bind (f ρ) fun b => if b = true then .ok true else g ρ
theorem vt_not {e : Expr} {f : Rho → M Bool} (h : VT X W S0 H0 e f) : VT X W S0 H0 (.UnaryOp .Not e pos) (eNot f) := by
  obtain ⟨ta, pa, qa⟩ := h.p
  refine ⟨_, pt_not pa, fun ρ σ own H Q R k => qa ρ σ own H _ R ?_⟩
  unfold eNot at k
  revert k
  cases f ρ with
  | er => exact id
  | ex c => exact id
  | ok x => exact fun k H' s => k H' s
theorem VW.t {e : Expr} {f : Rho → M Bool} (h : VW X W S0 H0 e f) : VT X W S0 H0 e f := by
  obtain ⟨ta, pa, qa⟩ := h.p
  exact ⟨ta, pa.pt, qa⟩
theorem vw_and1 {e : Expr} {f : Rho → M Bool} (h : VT X W S0 H0 e f) : VW X W S0 H0 (.BoolOp .And [e] pos) f := by
  obtain ⟨ta, pa, qa⟩ := h.p
  exact ⟨ta, pw_and1 pa, qa⟩
theorem vw_or1 {e : Expr} {f : Rho → M Bool} (h : VT X W S0 H0 e f) : VW X W S0 H0 (.BoolOp .Or [e] pos) f := by
  obtain ⟨ta, pa, qa⟩ := h.p
  exact ⟨ta, pw_or1 pa, qa⟩
theorem vw_and {e e2 : Expr} {es : List Expr} {f g : Rho → M Bool} (h : VT X W S0 H0 e f) (h2 : VW X W S0 H0 (.BoolOp .And (e2 :: es) pos) g) : VW X W S0 H0 (.BoolOp .And (e :: e2 :: es) pos) (eAnd f g) := by
  obtain ⟨ta, pa, qa⟩ := h.p
  obtain ⟨tb, pb, qb⟩ := h2.p
  refine ⟨_, pw_and pa pb, fun ρ σ own H Q R k => qa ρ σ own H _ R ?_⟩
  unfold eAnd at k
  revert k
  cases f ρ with
  | er => exact id
  | ex c => exact id
  | ok x =>
    intro k H' s
    cases x with
    | true => exact qb ρ σ own H' Q (R.grow s) (PXT.grow s k)
    | false => exact k H' s
theorem vw_or {e e2 : Expr} {es : List Expr} {f g : Rho → M Bool} (h : VT X W S0 H0 e f) (h2 : VW X W S0 H0 (.BoolOp .Or (e2 :: es) pos) g) : VW X W S0 H0 (.BoolOp .Or (e :: e2 :: es) pos) (eOr f g) := by
  obtain ⟨ta, pa, qa⟩ := h.p
  obtain ⟨tb, pb, qb⟩ := h2.p
  refine ⟨_, pw_or pa pb, fun ρ σ own H Q R k => qa ρ σ own H _ R ?_⟩
  unfold eOr at k
  revert k
  cases f ρ with
  | er => exact id
  | ex c => exact id
  | ok x =>
    intro k H' s
    cases x with
    | true => exact k H' s
    | false => exact qb ρ σ own H' Q (R.grow s) (PXT.grow s k)
/-- the same as values (truth values) -/
def eAndV (f g : Rho → M D) : Rho → M D := fun ρ => M.bind (M.bind (f ρ) toB) fun b => if b = true then g ρ else .ok (.bl false)
def eOrV (f g : Rho → M D) : Rho → M D := fun ρ => M.bind (M.bind (f ρ) toB) fun b => if b = true then .ok (.bl true) else g ρ
def eNotV (f : Rho → M D) : Rho → M D := fun ρ => M.bind (M.bind (f ρ) toB) fun b => .ok (.bl (!b))
theorem vx_one {op : BoolOp} {f : Rho → M D} (h : VX X W S0 H0 m a f) : VX X W S0 H0 m (.BoolOp op [a] pos) f := by
  obtain ⟨ta, pa, qa⟩ := h.p
  exact ⟨ta, pe_one pa, qa⟩
theorem vx_and {e2 : Expr} {es : List Expr} (h : VX X W S0 H0 ma a fa) (h2 : VX X W S0 H0 m (.BoolOp .And (e2 :: es) pos) fb) : VX X W S0 H0 m (.BoolOp .And (a :: e2 :: es) pos) (eAndV fa fb) := by
  obtain ⟨ta, pa, qa⟩ := h.p
  obtain ⟨tb, pb, qb⟩ := h2.p
  refine ⟨_, pe_and pa pb, fun ρ σ own H Q R k => qa ρ σ own H _ R ?_⟩
  unfold eAndV at k
  revert k
  cases fa ρ with
  | er => exact id
  | ex c => exact id
  | ok x =>
    intro k v H' s r
    cases x with
    | bl b =>
      rw [r.isBl]
      refine ⟨b, rfl, ?_⟩
      cases b with
      | true => exact qb ρ σ own H' Q (R.grow s) (PX.grow s k)
      | false => exact k _ H' s (.ofBl false)
    | _ => exact k.elim
theorem vx_or {e2 : Expr} {es : List Expr} (h : VX X W S0 H0 ma a fa) (h2 : VX X W S0 H0 m (.BoolOp .Or (e2 :: es) pos) fb) : VX X W S0 H0 m (.BoolOp .Or (a :: e2 :: es) pos) (eOrV fa fb) := by
  obtain ⟨ta, pa, qa⟩ := h.p
  obtain ⟨tb, pb, qb⟩ := h2.p
  refine ⟨_, pe_or pa pb, fun ρ σ own H Q R k => qa ρ σ own H _ R ?_⟩
  unfold eOrV at k
  revert k
  cases fa ρ with
  | er => exact id
  | ex c => exact id
  | ok x =>
    intro k v H' s r
    cases x with
    | bl b =>
      rw [r.isBl]
      refine ⟨b, rfl, ?_⟩
      cases b with
      | true => exact k _ H' s (.ofBl true)
      | false => exact qb ρ σ own H' Q (R.grow s) (PX.grow s k)
    | _ => exact k.elim
theorem vx_notV (h : VX X W S0 H0 ma a fa) : VX X W S0 H0 m (.UnaryOp .Not a pos) (eNotV fa) := by
  obtain ⟨ta, pa, qa⟩ := h.p
  refine ⟨_, pe_not pa, fun ρ σ own H Q R k => qa ρ σ own H _ R ?_⟩
  unfold eNotV at k
  revert k
  cases fa ρ with
  | er => exact id
  | ex c => exact id
  | ok x =>
    intro k v H' s r
    cases x with
    | bl b => rw [r.isBl]; exact ⟨b, rfl, k _ H' s (.ofBl _)⟩
    | _ => exact k.elim
/-! ### argument lists, displays -/
def aNil : Rho → M (List D) := fun _ => .ok []
def aCons (f : Rho → M D) (g : Rho → M (List D)) : Rho → M (List D) := fun ρ => M.bind (f ρ) fun x => M.bind (g ρ) fun xs => .ok (x :: xs)
theorem va_nil : VA X W S0 H0 m [] aNil := ⟨_, pa_nil, fun _ _ _ H _ _ k => k [] H (Same.refl H) .nil⟩
theorem va_cons {e : Expr} {es : List Expr} {f : Rho → M D} {g : Rho → M (List D)} (h : VX X W S0 H0 m e f) (h2 : VA X W S0 H0 m es g) (hs : starEach (e :: es) X.env = (false, eval e X.env) :: starEach es X.env := by rfl) : VA X W S0 H0 m (e :: es) (aCons f g) := by
  obtain ⟨ta, pa, qa⟩ := h.p
  obtain ⟨tb, pb, qb⟩ := h2.p
  refine ⟨_, pa_cons pa pb hs, fun ρ σ own H Q R k => qa ρ σ own H _ R ?_⟩
  unfold aCons at k
  revert k
  cases f ρ with
  | er => exact id
  | ex c => exact id
  | ok x =>
    intro k v H1 s1 r1
    refine qb ρ σ own H1 _ (R.grow s1) ?_
    rw [bind_ok] at k
    revert k
    cases g ρ with
    | er => exact id
    | ex c => exact fun k => fun cv d H' i s => k cv d H' i (s1.trans s)
    | ok ys => exact fun k vs H2 s2 r2 => k (v :: vs) H2 (s1.trans s2) (.cons (r1.grow s2) (RMA.back s1 r2))
theorem RpA.ofP {K : PySem.W.Frag} {S : Addr → Prop} {H : Hp} {vs : List V} {ds : List D} (h : Paired (Rp K S H) vs ds) : RpA K S H vs ds := by
  induction h with
  | nil => exact .nil
  | cons a _ ih => exact .cons a ih
def eTup (f : Rho → M (List D)) : Rho → M D := fun ρ => M.bind (f ρ) fun xs => if xs.length ≤ sizeLine then .ok (.tup xs) else .er
def eLst (f : Rho → M (List D)) : Rho → M D := fun ρ => M.bind (f ρ) fun xs => if xs.length ≤ sizeLine then .ok (.lst xs) else .er
theorem vx_tup {es : List Expr} {f : Rho → M (List D)} {j : Nat} (hm : m ≠ .O) (h : VA X W S0 H0 m es f) : VX X W S0 H0 m (.Tuple es j pos) (eTup f) := by
  obtain ⟨ta, pa, qa⟩ := h.p
  refine ⟨_, pe_tup pa, fun ρ σ own H Q R k => qa ρ σ own H _ R ?_⟩
  unfold eTup at k
  revert k
  cases f ρ with
  | er => exact id
  | ex c => exact id
  | ok xs =>
    intro k vs H1 s1 r1
    rw [bind_ok] at k
    split at k
    · next hl =>
      refine ⟨by rw [Paired.length r1]; exact hl, fun p hp => k _ _ (s1.trans (same_upd hp)) ?_⟩
      have r2 := RMA.grow (same_upd (o := .tup vs) hp) r1
      cases m with
      | O => exact absurd rfl hm
      | E => exact .tup upd_same (RpA.ofP r2)
      | F => exact .tup upd_same (RpA.ofP r2)
      | N => exact .tup upd_same (RpA.ofP r2)
    · exact k.elim
theorem vx_lst {es : List Expr} {f : Rho → M (List D)} (hm : m ≠ .O) (h : VA X W S0 H0 m es f) : VX X W S0 H0 m (.List es pos) (eLst f) := by
  obtain ⟨ta, pa, qa⟩ := h.p
  refine ⟨_, pe_lst pa, fun ρ σ own H Q R k => qa ρ σ own H _ R ?_⟩
  unfold eLst at k
  revert k
  cases f ρ with
  | er => exact id
  | ex c => exact id
  | ok xs =>
    intro k vs H1 s1 r1
    rw [bind_ok] at k
    split at k
    · next hl =>
      refine ⟨by rw [Paired.length r1]; exact hl, fun p hp => k _ _ (s1.trans (same_upd hp)) ?_⟩
      have r2 := RMA.grow (same_upd (o := .lst vs) hp) r1
      have hf := sf_new (R.grow s1) hp
      cases m with
      | O => exact absurd rfl hm
      | E => exact .lst (SF.sa _ hf) upd_same (RpA.ofP r2)
      | F => exact .lst hf upd_same (RpA.ofP r2)
      | N => exact .lst ⟨s1.free hp, hf⟩ upd_same (RpA.ofP r2)
    · exact k.elim

/-! ### data without lists may be taken as new -/
mutual
def lf : D → Bool
  | .non => true
  | .bl _ => true
  | .int _ => true
  | .str _ => true
  | .tup ds => lfA ds
  | .kt ds => lfA ds
  | .lst _ => false
  | .fz _ => false
  | .dct _ => false
  | .dk _ => false
  | .obj _ _ _ _ => false
  | .pls _ _ => false
  | .raw _ => false
def lfA : List D → Bool
  | [] => true
  | d :: ds => lf d && lfA ds
end
mutual
theorem Rp.lf {K : PySem.W.Frag} {S S' : Addr → Prop} {H : Hp} : ∀ {v : V} {d : D}, Rp K S H v d → VL.lf d = true → Rp K S' H v d
  | _, _, .non, _ => .non
  | _, _, .bl b, _ => .bl b
  | _, _, .int i, _ => .int i
  | _, _, .str x, _ => .str x
  | _, _, .tup h r, e => .tup h (RpA.lf r (by simpa [VL.lf] using e))
  | _, _, .kt h r, e => .kt h (RpA.lf r (by simpa [VL.lf] using e))
  | _, _, .lst _ _ _, e => by simp [VL.lf] at e
  | _, _, .fz _ _, e => by simp [VL.lf] at e
  | _, _, .dct _ _ _, e => by simp [VL.lf] at e
  | _, _, .dk _ _ _, e => by simp [VL.lf] at e
  | _, _, .obj _ _ _ _ _ _, e => by simp [VL.lf] at e
  | _, _, .pls _ _ _, e => by simp [VL.lf] at e
  | _, _, .raw _, e => by simp [VL.lf] at e
theorem RpA.lf {K : PySem.W.Frag} {S S' : Addr → Prop} {H : Hp} : ∀ {v : List V} {d : List D}, RpA K S H v d → VL.lfA d = true → RpA K S' H v d
  | _, _, .nil, _ => .nil
  | _, _, .cons h r, e => by
    simp [VL.lfA] at e
    exact .cons (Rp.lf h e.1) (RpA.lf r e.2)
end
def eLf (f : Rho → M D) : Rho → M D := fun ρ => M.bind (f ρ) fun x => if lf x = true then .ok x else .er
theorem RM.lf {K : PySem.W.Frag} {own : List Addr} {Hb Hc H : Hp} {v : V} {d : D} (r : RM K S0 H0 own m Hb H v d) (h : VL.lf d = true) : RM K S0 H0 own .N Hc H v d := by
  rcases r.toO (Hc := Hb) with r | ⟨a, e, hm, r⟩
  · exact r.lf h
  · cases d <;> first | exact r.elim | simp [VL.lf] at h
theorem vx_lf (h : VX X W S0 H0 ma a fa) : VX X W S0 H0 .N a (eLf fa) := by
  obtain ⟨ta, pa, qa⟩ := h.p
  refine ⟨_, pa, fun ρ σ own H Q R k => qa ρ σ own H _ R ?_⟩
  unfold eLf at k
  revert k
  cases fa ρ with
  | er => exact id
  | ex c => exact id
  | ok x =>
    intro k v H' s r
    rw [bind_ok] at k
    split at k
    · next hl => exact k v H' s (r.lf hl)
    · exact k.elim
end
end VL
set_option Elab.async false
set_option linter.all false
set_option maxRecDepth 100000
/-! VL: operators, subscripts, built-in calls. -/
namespace VL
open PySem L2 PySem.Spec PyProof.Rows

/-! ### int operations -/
section
variable {X : Cx} {W : WX} {S0 : Addr → Prop} {H0 : Hp} {m : Md}
/-- r asks two ints and C of them, gives z -/
theorem opG_I {C : Int → Int → Prop} [∀ i j, Decidable (C i j)] {h : Int → Int → V} {hd : Int → Int → D} (hh : ∀ (own : List Addr) (H : Hp) i j, RM X.K S0 H0 own m H H (h i j) (hd i j)) :
    OpG X W S0 H0 m (rI C h) (fun x y => match x, y with | .int i, .int j => if C i j then .ok (hd i j) else .er | _, _ => .er) := by
  intro ρ σ own H Q vx vy x y R rx ry k
  cases x <;> try exact k.elim
  cases y <;> try exact k.elim
  rename_i i j
  have k' : PX X W S0 H0 own m H σ Q (if C i j then .ok (hd i j) else .er) := k
  by_cases c : C i j
  · rw [if_pos c] at k'
    exact ⟨i, j, rx.isInt, ry.isInt, c, k' _ H (Same.refl H) (hh own H i j)⟩
  · rw [if_neg c] at k'
    exact k'.elim
theorem opG_I0 {h : Int → Int → V} {hd : Int → Int → D} (hh : ∀ (own : List Addr) (H : Hp) i j, RM X.K S0 H0 own m H H (h i j) (hd i j)) :
    OpG X W S0 H0 m (rI0 h) (fun x y => match x, y with | .int i, .int j => .ok (hd i j) | _, _ => .er) := by
  intro ρ σ own H Q vx vy x y R rx ry k
  cases x <;> try exact k.elim
  cases y <;> try exact k.elim
  rename_i i j
  have k' : PX X W S0 H0 own m H σ Q (.ok (hd i j)) := k
  exact ⟨i, j, rx.isInt, ry.isInt, k' _ H (Same.refl H) (hh own H i j)⟩
end
def gI (f : Int → Int → D) : D → D → M D := fun x y => match x, y with | .int i, .int j => .ok (f i j) | _, _ => .er
def gIC (C : Int → Int → Prop) [∀ i j, Decidable (C i j)] (f : Int → Int → D) : D → D → M D := fun x y => match x, y with | .int i, .int j => if C i j then .ok (f i j) else .er | _, _ => .er
instance : ∀ i j, Decidable (CDiv i j) := fun i j => inferInstanceAs (Decidable (0 < j ∧ j < 1073741824))
instance : ∀ i j, Decidable (CDivN i j) := fun i j => inferInstanceAs (Decidable (j ≠ 0 ∧ j.natAbs < 1073741824))
instance : ∀ i j, Decidable (CPow i j) := fun i j => inferInstanceAs (Decidable (0 ≤ j ∧ j ≤ 1000000 ∧ i.natAbs < 2 ^ 64))
instance : ∀ i j, Decidable (CMul i j) := fun i j => inferInstanceAs (Decidable ((-(2 ^ 64) < i ∧ i < 2 ^ 64) ∨ (-(2 ^ 64) < j ∧ j < 2 ^ 64)))
section
variable {X : Cx} {W : WX} {S0 : Addr → Prop} {H0 : Hp} {m : Md} {pos : Pos} {a b : Expr} {fa fb : Rho → M D} {ma mb : Md}
def subG : D → D → M D := gI fun i j => .int (i - j)
def mulG : D → D → M D := gIC CMul fun i j => .int (i * j)
def fdivG : D → D → M D := gIC CDiv fun i j => .int (i / j)
def fdivNG : D → D → M D := gIC CDivN fun i j => .int (i.fdiv j)
def modG : D → D → M D := gIC (fun _ j => 0 < j) fun i j => .int (i % j)
def powG : D → D → M D := gIC CPow fun i j => .int (i ^ j.toNat)
def intsD : List D → Option (List Int)
  | [] => some []
  | .int i :: ds => (intsD ds).map (i :: ·)
  | _ => none
theorem RpA.intsD {K : PySem.W.Frag} {S : Addr → Prop} {H : Hp} : ∀ {vs : List V} {ds : List D} {ns : List Int}, RpA K S H vs ds → VL.intsD ds = some ns → vs = ns.map V.int
  | _, _, _, .nil, e => by cases e; rfl
  | _, d :: ds, _, .cons h r, e => by
    cases d with
    | int b =>
      cases h
      have e' : (VL.intsD ds).map (b :: ·) = some _ := e
      cases e1 : VL.intsD ds with
      | none => rw [e1] at e'; cases e'
      | some cs =>
        rw [e1] at e'
        cases e'
        rw [RpA.intsD r e1]
        rfl
    | _ => cases e
def ltG : D → D → M D := fun x y => match x, y with
  | .int i, .int j => .ok (.bl (decide (i < j)))
  | .str i, .str j => .ok (.bl (decide (i.cps.toList < j.cps.toList)))
  | .tup xs, .tup ys => (match intsD xs, intsD ys with
    | some ns, some ms => .ok (.bl (HT.lexLt ns ms))
    | _, _ => .er)
  | _, _ => .er
def rLtA (K : PySem.W.Frag) : R2 := fun x y H Q => (rI0 fun i j => .bl (decide (i < j))) x y H Q ∨ (∃ i j, x = .str i ∧ y = .str j ∧ Q (.bl (decide (i.cps.toList < j.cps.toList))) H) ∨ rLtT K x y H Q
theorem op_ltA (hu : X.A.units + 1 < cLine) : OpR X (compareOp .Lt) (rLtA X.K) := op_lt.or (op_lt_str.or (op_ltT (by omega)))
def leG : D → D → M D := gI fun i j => .bl (decide (i ≤ j))
def gtG : D → D → M D := gI fun i j => .bl (decide (j < i))
def geG : D → D → M D := gI fun i j => .bl (decide (j ≤ i))
theorem vx_sub (ha : VX X W S0 H0 ma a fa) (hb : VX X W S0 H0 mb b fb) : VX X W S0 H0 m (.BinOp a .Sub b pos) (eOp subG fa fb) := vx_op op_sub (opG_I0 fun own H i j => .ofInt _) ha hb
theorem vx_mul (ha : VX X W S0 H0 ma a fa) (hb : VX X W S0 H0 mb b fb) : VX X W S0 H0 m (.BinOp a .Mult b pos) (eOp mulG fa fb) := vx_op op_mul (opG_I fun own H i j => .ofInt _) ha hb
theorem vx_fdiv (ha : VX X W S0 H0 ma a fa) (hb : VX X W S0 H0 mb b fb) : VX X W S0 H0 m (.BinOp a .FloorDiv b pos) (eOp fdivG fa fb) := vx_op op_fdiv (opG_I fun own H i j => .ofInt _) ha hb
theorem vx_fdivN (ha : VX X W S0 H0 ma a fa) (hb : VX X W S0 H0 mb b fb) : VX X W S0 H0 m (.BinOp a .FloorDiv b pos) (eOp fdivNG fa fb) := vx_op op_fdivN (opG_I fun own H i j => .ofInt _) ha hb
theorem vx_mod (ha : VX X W S0 H0 ma a fa) (hb : VX X W S0 H0 mb b fb) : VX X W S0 H0 m (.BinOp a .Mod b pos) (eOp modG fa fb) := vx_op op_mod (opG_I fun own H i j => .ofInt _) ha hb
theorem vx_pow (ha : VX X W S0 H0 ma a fa) (hb : VX X W S0 H0 mb b fb) : VX X W S0 H0 m (.BinOp a .Pow b pos) (eOp powG fa fb) := vx_op op_pow (opG_I fun own H i j => .ofInt _) ha hb
theorem og_lt : OpG X W S0 H0 m (rLtA X.K) ltG := by
  intro ρ σ own H Q vx vy x y R rx ry k
  unfold ltG at k
  split at k
  · exact .inl ⟨_, _, rx.isInt, ry.isInt, k _ H (Same.refl H) (.ofBl _)⟩
  · exact .inr (.inl ⟨_, _, rx.isStr, ry.isStr, k _ H (Same.refl H) (.ofBl _)⟩)
  · split at k
    · next ns ms e1 e2 =>
      obtain ⟨a, xs, rfl, h1, h2⟩ := rx.isTup
      obtain ⟨b, ys, rfl, h3, h4⟩ := ry.isTup
      have f1 := RpA.intsD h2 e1
      have f2 := RpA.intsD h4 e2
      subst f1 f2
      exact .inr (.inr ⟨a, b, ns, ms, rfl, rfl, SqT.of h1, SqT.of h3, k _ H (Same.refl H) (.ofBl _)⟩)
    · exact k.elim
  · exact k.elim
theorem og_le : OpG X W S0 H0 m (rI0 fun i j => .bl (decide (i ≤ j))) leG := opG_I0 fun own H i j => .ofBl _
theorem og_gt : OpG X W S0 H0 m (rI0 fun i j => .bl (decide (j < i))) gtG := opG_I0 fun own H i j => .ofBl _
theorem og_ge : OpG X W S0 H0 m (rI0 fun i j => .bl (decide (j ≤ i))) geG := opG_I0 fun own H i j => .ofBl _
def negG : D → M D := fun x => match x with | .int i => .ok (.int (-i)) | _ => .er
theorem vx_neg (ha : VX X W S0 H0 ma a fa) : VX X W S0 H0 m (.UnaryOp .USub a pos) (eUn negG fa) := vx_un un_neg (by
  intro ρ σ own H Q vx x R rx k
  cases x <;> try exact k.elim
  rename_i i
  have k' : PX X W S0 H0 own m H σ Q (.ok (.int (-i))) := k
  exact ⟨i, rx.isInt, k' _ H (Same.refl H) (.ofInt _)⟩) ha

/-! ### + of ints, texts, lists -/
theorem Inv.lstR {pins : List (Addr × Obj)} {σ : Sg} {H : Hp} {s : Shared} {l : Addr} {xs : List V} (I : Inv X pins σ H s) (hH : Rd H l (.lst xs)) : xs.length ≤ sizeLine ∧ ∃ (its : List Value) (n : Nat), Vals xs its ∧ xs.length = its.length ∧ s.heap.get? l = some { cls := .type "list", data := .seq its.toArray n } := by
  obtain ⟨z, its, n, r, e⟩ := (show ObjOk X.prog X.w H s.heap l (.lst xs) from hH.ok I.hok)
  exact ⟨z, its, n, r, r.length, e⟩
def rCatR : R2 := fun x y H Q => ∃ l b xs zs, x = .ref l ∧ y = .ref b ∧ Rd H l (.lst xs) ∧ Rd H b (.lst zs) ∧ xs.length + zs.length ≤ sizeLine ∧ ∀ p, H p = none → Q (.ref p) (upd H p (.lst (xs ++ zs)))
theorem op_catR : OpR X (binaryOp .Add) rCatR := by
  intro pins s σ H x y v u Q I rx ry h
  obtain ⟨l, b, xs, zs, rfl, rfl, hH, hB, hz, q⟩ := h
  cases rx
  cases ry
  obtain ⟨z, its, n, r, hl, e⟩ := VL.Inv.lstR I hH
  obtain ⟨z2, its2, n2, r2, hl2, e2⟩ := VL.Inv.lstR I hB
  refine PySem.P.add_list e e2 ?_ (by rw [List.size_toArray, List.size_toArray]; omega)
  have ea : its.toArray ++ its2.toArray = (its ++ its2).toArray := by simp
  rw [ea]
  exact ⟨.ref _, _, I.lnew (t' := s.toks) (r.append r2) (by rw [List.length_append]; omega), rfl, q _ I.fresh⟩
/-- xs + ys of lists: their items without lists -/
def addG : D → D → M D := fun x y => match x, y with
  | .int i, .int j => .ok (.int (i + j))
  | .str a, .str b => if a.length + b.length ≤ sizeLine then .ok (.str (a ++ b)) else .er
  | .lst xs, .lst ys => if xs.length + ys.length ≤ sizeLine ∧ lfA xs = true ∧ lfA ys = true then .ok (.lst (xs ++ ys)) else .er
  | _, _ => .er
def rAddA : R2 := fun x y H Q => (rI0 fun i j => .int (i + j)) x y H Q ∨ (∃ i j, x = .str i ∧ y = .str j ∧ i.length + j.length ≤ sizeLine ∧ Q (.str (i ++ j)) H) ∨ rCatR x y H Q
theorem op_addA : OpR X (binaryOp .Add) rAddA := op_add.or (op_add_str.or op_catR)
theorem RM.newL {ρ : Rho} {σ : Sg} {own : List Addr} {H : Hp} {p : Addr} {xs : List V} {ds : List D} (R : Rel X.K S0 H0 ρ σ own H) (hp : H p = none) (r : RpA X.K (SN H H0 own) (upd H p (.lst xs)) xs ds) : RM X.K S0 H0 own .N H (upd H p (.lst xs)) (.ref p) (.lst ds) := by
  exact .lst ⟨hp, sf_new R hp⟩ upd_same r
theorem og_add : OpG X W S0 H0 .N rAddA addG := by
  intro ρ σ own H Q vx vy x y R rx ry k
  cases x with
  | int i =>
    cases y <;> try exact k.elim
    rename_i j
    have k' : PX X W S0 H0 own .N H σ Q (.ok (.int (i + j))) := k
    exact .inl ⟨i, j, rx.isInt, ry.isInt, k' _ H (Same.refl H) (.ofInt _)⟩
  | str a =>
    cases y <;> try exact k.elim
    rename_i b
    have k' : PX X W S0 H0 own .N H σ Q (if a.length + b.length ≤ sizeLine then .ok (.str (a ++ b)) else .er) := k
    by_cases c : a.length + b.length ≤ sizeLine
    · rw [if_pos c] at k'
      exact .inr (.inl ⟨a, b, rx.isStr, ry.isStr, c, k' _ H (Same.refl H) (.ofStr _)⟩)
    · rw [if_neg c] at k'
      exact k'.elim
  | lst ds =>
    cases y <;> try exact k.elim
    rename_i es
    have k' : PX X W S0 H0 own .N H σ Q (if ds.length + es.length ≤ sizeLine ∧ lfA ds = true ∧ lfA es = true then .ok (.lst (ds ++ es)) else .er) := k
    by_cases c : ds.length + es.length ≤ sizeLine ∧ lfA ds = true ∧ lfA es = true
    · rw [if_pos c] at k'
      obtain ⟨a, xs, rfl, h1, r1⟩ := rx.isLst
      obtain ⟨b, ys, rfl, h2, r2⟩ := ry.isLst
      refine .inr (.inr ⟨a, b, xs, ys, rfl, rfl, h1, h2, by rw [r1.length, r2.length]; exact c.1, fun p hp => k' _ _ (same_upd hp) ?_⟩)
      exact RM.newL R hp (((r1.lf c.2.1).append (r2.lf c.2.2)).keep (.same (same_upd hp)))
    · rw [if_neg c] at k'
      exact k'.elim
  | _ => exact k.elim
theorem VX.any (h : VX X W S0 H0 .N a fa) : VX X W S0 H0 m a fa := by
  cases m with
  | O => exact h.toO
  | E => exact h.nf.fe
  | F => exact h.nf
  | N => exact h
theorem vx_add (ha : VX X W S0 H0 ma a fa) (hb : VX X W S0 H0 mb b fb) : VX X W S0 H0 m (.BinOp a .Add b pos) (eOp addG fa fb) := VX.any (vx_op op_addA og_add ha hb)

/-! ### == and != -/
mutual
def toP : D → PyData
  | .non => .none
  | .bl b => .bool b
  | .int i => .int i
  | .str x => .str x
  | .tup ds => .tuple (toPA ds)
  | .kt ds => .tuple (toPA ds)
  | .lst ds => .list (toPA ds)
  | .fz ds => .list (toPA ds)
  | .dct _ => .dict []
  | .dk _ => .dict []
  | .obj _ _ _ _ => .dict []
  | .pls _ _ => .dict []
  | .raw _ => .dict []
def toPA : List D → List PyData
  | [] => []
  | d :: ds => toP d :: toPA ds
end
mutual
theorem Rp.dp {K : PySem.W.Frag} {S : Addr → Prop} {H : Hp} : ∀ {v : V} {d : D}, Rp K S H v d → (toP d).canLay0 = true → Dp K H v (toP d)
  | _, _, .non, _ => .non
  | _, _, .bl b, _ => .bl b
  | _, _, .int i, _ => .int i
  | _, _, .str x, _ => .str x
  | _, _, .tup h r, e => .tup (SqT.of h) (RpA.dp r (by simpa [toP, PyData.canLay0] using e))
  | _, _, .kt h r, e => .tup (.inr h) (RpA.dp r (by simpa [toP, PyData.canLay0] using e))
  | _, _, .lst _ h r, e => .lst (.inl (.inl h)) (RpA.dp r (by simpa [toP, PyData.canLay0] using e))
  | _, _, .fz h r, e => .lst h.sq (RpA.dp r (by simpa [toP, PyData.canLay0] using e))
  | _, _, .dct _ _ _, e => by simp [toP, PyData.canLay0] at e
  | _, _, .dk _ _ _, e => by simp [toP, PyData.canLay0] at e
  | _, _, .obj _ _ _ _ _ _, e => by simp [toP, PyData.canLay0] at e
  | _, _, .pls _ _ _, e => by simp [toP, PyData.canLay0] at e
  | _, _, .raw _, e => by simp [toP, PyData.canLay0] at e
theorem RpA.dp {K : PySem.W.Frag} {S : Addr → Prop} {H : Hp} : ∀ {v : List V} {d : List D}, RpA K S H v d → PyData.canLayAll0 (toPA d) = true → DpAll K H v (toPA d)
  | _, _, .nil, _ => .nil
  | _, _, .cons h r, e => by
    simp [toPA, PyData.canLayAll0] at e
    exact .cons (Rp.dp h e.1) (RpA.dp r e.2)
end
theorem RM.dp {own : List Addr} {Hb H : Hp} {v : V} {d : D} (r : RM X.K S0 H0 own m Hb H v d) (h : SeqAt.shaped (toP d) = true) : Dp X.K H v (toP d) := by
  have c : (toP d).canLay0 = true := SeqAt.canLay_of_shaped h
  rcases r.toO (Hc := Hb) with r | ⟨a, rfl, hm, r⟩
  · exact r.dp c
  · cases d with
    | lst ds => obtain ⟨xs, e, r⟩ := r; exact .lst (SqL.of e) (r.dp (by simpa [toP, PyData.canLay0] using c))
    | dct ds => simp [toP, PyData.canLay0] at c
    | dk ds => simp [toP, PyData.canLay0] at c
    | obj p c2 ns ds => simp [toP, PyData.canLay0] at c
    | pls p ds => simp [toP, PyData.canLay0] at c
    | _ => exact r.elim
def eqG : D → D → M D := fun x y => match x, y with
  | .non, .non => .ok (.bl true)
  | .int i, .int j => .ok (.bl (decide (i = j)))
  | .bl i, .bl j => .ok (.bl (decide (i = j)))
  | .str i, .str j => .ok (.bl (decide (i = j)))
  | x, y => if SeqAt.shaped (toP x) = true ∧ SeqAt.shaped (toP y) = true then .ok (.bl (PyData.eqv (toP x) (toP y))) else .er
def rEqA (K : PySem.W.Frag) : R2 := fun x y H Q => rEq x y H Q ∨ rEqD K x y H Q
theorem dec_iff {p q : Prop} [Decidable p] [Decidable q] (h : p ↔ q) : decide p = decide q := by
  by_cases c : p
  · rw [decide_eq_true c, decide_eq_true (h.mp c)]
  · rw [decide_eq_false c, decide_eq_false (fun z => c (h.mpr z))]
theorem og_eq : OpG X W S0 H0 m (rEqA X.K) eqG := by
  intro ρ σ own H Q vx vy x y R rx ry k
  have deep : (∀ b, (if SeqAt.shaped (toP x) = true ∧ SeqAt.shaped (toP y) = true then M.ok (D.bl (PyData.eqv (toP x) (toP y))) else M.er) = b → PX X W S0 H0 own m H σ Q b) → rEqA X.K vx vy H Q := fun k => by
    have k := k _ rfl
    by_cases c : SeqAt.shaped (toP x) = true ∧ SeqAt.shaped (toP y) = true
    · rw [if_pos c] at k
      exact .inr ⟨_, _, rx.dp c.1, ry.dp c.2, c.1, c.2, k _ H (Same.refl H) (.ofBl _)⟩
    · rw [if_neg c] at k
      exact k.elim
  unfold eqG at k
  split at k
  · rw [rx.isNon, ry.isNon]
    exact .inl ⟨rfl, k _ H (Same.refl H) (.ofBl _)⟩
  · next i j =>
    rw [rx.isInt, ry.isInt]
    refine .inl ⟨rfl, k _ H (Same.refl H) ?_⟩
    rw [dec_iff (p := V.int i = V.int j) (q := i = j) ⟨fun e => V.int.inj e, fun e => by rw [e]⟩]
    exact .ofBl _
  · next i j =>
    rw [rx.isBl, ry.isBl]
    refine .inl ⟨rfl, k _ H (Same.refl H) ?_⟩
    rw [dec_iff (p := V.bl i = V.bl j) (q := i = j) ⟨fun e => V.bl.inj e, fun e => by rw [e]⟩]
    exact .ofBl _
  · next i j =>
    rw [rx.isStr, ry.isStr]
    refine .inl ⟨rfl, k _ H (Same.refl H) ?_⟩
    rw [dec_iff (p := V.str i = V.str j) (q := i = j) ⟨fun e => V.str.inj e, fun e => by rw [e]⟩]
    exact .ofBl _
  · exact deep fun b e => by rw [← e]; exact k
theorem op_eqA (hu : X.A.units + 64 < cLine) : OpR X (compareOp .Eq) (rEqA X.K) := op_eq.or (op_eqD hu)
def notM : M D → M D := fun r => M.bind r fun x => match x with | .bl b => .ok (.bl (!b)) | _ => .er
def neG : D → D → M D := fun x y => notM (eqG x y)
def rNeA (K : PySem.W.Frag) : R2 := fun x y H Q => rNe x y H Q ∨ rNeD K x y H Q
theorem op_neA (hu : X.A.units + 64 < cLine) : OpR X (compareOp .NotEq) (rNeA X.K) := op_ne.or (op_neD hu)
theorem og_ne : OpG X W S0 H0 m (rNeA X.K) neG := by
  intro ρ σ own H Q vx vy x y R rx ry k
  have e := og_eq (X := X) (W := W) (m := m) ρ σ own H (fun v H' => H' = H ∧ ∃ b, v = .bl b ∧ Q (.bl (!b)) H) vx vy x y R rx ry
  have h : rEqA X.K vx vy H (fun v H' => H' = H ∧ ∃ b, v = .bl b ∧ Q (.bl (!b)) H) → rNeA X.K vx vy H Q := by
    rintro (⟨h1, -, b, h2, h3⟩ | ⟨d, e, h1, h2, h3, h4, -, b, h5, h6⟩)
    · cases h2
      exact .inl ⟨h1, h3⟩
    · cases h5
      exact .inr ⟨d, e, h1, h2, h3, h4, h6⟩
  unfold neG notM at k
  unfold eqG at k
  split at k
  · rw [rx.isNon, ry.isNon]
    exact .inl ⟨rfl, k _ H (Same.refl H) (.ofBl _)⟩
  · next i j =>
    rw [rx.isInt, ry.isInt]
    refine .inl ⟨rfl, k _ H (Same.refl H) ?_⟩
    rw [dec_iff (p := V.int i = V.int j) (q := i = j) ⟨fun e => V.int.inj e, fun e => by rw [e]⟩]
    exact .ofBl _
  · next i j =>
    rw [rx.isBl, ry.isBl]
    refine .inl ⟨rfl, k _ H (Same.refl H) ?_⟩
    rw [dec_iff (p := V.bl i = V.bl j) (q := i = j) ⟨fun e => V.bl.inj e, fun e => by rw [e]⟩]
    exact .ofBl _
  · next i j =>
    rw [rx.isStr, ry.isStr]
    refine .inl ⟨rfl, k _ H (Same.refl H) ?_⟩
    rw [dec_iff (p := V.str i = V.str j) (q := i = j) ⟨fun e => V.str.inj e, fun e => by rw [e]⟩]
    exact .ofBl _
  · by_cases c : SeqAt.shaped (toP x) = true ∧ SeqAt.shaped (toP y) = true
    · rw [if_pos c] at k
      exact .inr ⟨_, _, rx.dp c.1, ry.dp c.2, c.1, c.2, k _ H (Same.refl H) (.ofBl _)⟩
    · rw [if_neg c] at k
      exact k.elim
/-- x is None -/
def isNonD : D → Bool
  | .non => true
  | _ => false
def isNG : D → D → M D := fun x y => match y with | .non => .ok (.bl (isNonD x)) | _ => .er
def notNG : D → D → M D := fun x y => match y with | .non => .ok (.bl (!isNonD x)) | _ => .er
theorem RM.decN {own : List Addr} {Hb H : Hp} {v : V} {d : D} (r : RM X.K S0 H0 own m Hb H v d) : decide (v = .non) = isNonD d := by
  rcases r.toO (Hc := Hb) with r | ⟨a, rfl, hm, r⟩
  · cases r <;> rfl
  · cases d <;> first | exact r.elim | rfl
theorem og_isN : OpG X W S0 H0 m (fun x y H Q => y = .non ∧ Q (.bl (decide (x = .non))) H) isNG := by
  intro ρ σ own H Q vx vy x y R rx ry k
  cases y <;> try exact k.elim
  refine ⟨ry.isNon, ?_⟩
  rw [rx.decN]
  exact PX.ok' k
where
  PX.ok' {own : List Addr} {H : Hp} {σ : Sg} {Q : VK} {b : Bool} (k : PX X W S0 H0 own m H σ Q (.ok (.bl b))) : Q (.bl b) H := k _ H (Same.refl H) (.ofBl b)
theorem og_notN : OpG X W S0 H0 m (fun x y H Q => y = .non ∧ Q (.bl (!decide (x = .non))) H) notNG := by
  intro ρ σ own H Q vx vy x y R rx ry k
  cases y <;> try exact k.elim
  refine ⟨ry.isNon, ?_⟩
  rw [rx.decN]
  exact (show PX X W S0 H0 own m H σ Q (.ok (.bl _)) from k) _ H (Same.refl H) (.ofBl _)

/-! ### subscripts -/
theorem RpA.atI {K : PySem.W.Frag} {S : Addr → Prop} {H : Hp} {vs : List V} {ds : List D} {i : Int} {d : D} (r : RpA K S H vs ds) (e : atI ds i = some d) : ∃ v, atI vs i = some v ∧ Rp K S H v d := by
  unfold L2.atI at e ⊢
  rw [r.length]
  cases h : ixN ds.length i with
  | none => rw [h] at e; cases e
  | some j =>
    rw [h] at e
    exact r.get (by simpa using e)
def keyOf1 : D → Option Key
  | .int i => some (.inl i)
  | .str x => some (.inr x)
  | _ => none
def keyOf : List D → Option (List Key)
  | [] => some []
  | d :: ds => match keyOf1 d, keyOf ds with
    | some k, some ks => some (k :: ks)
    | _, _ => none
def lookT (kvs : List (List Key × D)) (k : List Key) : Option D := (kvs.find? fun kv => decide (kv.1 = k)).map (·.2)
def lookK (kvs : List (Key × D)) (k : Key) : Option D := (kvs.find? fun kv => decide (kv.1 = k)).map (·.2)
theorem RpA.keys {K : PySem.W.Frag} {S : Addr → Prop} {H : Hp} : ∀ {vs : List V} {ds : List D} {ks : List Key}, RpA K S H vs ds → keyOf ds = some ks → vs = ks.map kV
  | _, _, _, .nil, e => by cases e; rfl
  | _, d :: ds, _, .cons h r, e => by
    unfold keyOf at e
    split at e
    · next k ks e1 e2 =>
      cases e
      rw [RpA.keys r e2]
      cases d <;> cases e1 <;> cases h <;> rfl
    · cases e
theorem RpT.look {K : PySem.W.Frag} {S : Addr → Prop} {H : Hp} (k : List Key) : ∀ {vs : List (List Key × V)} {ds : List (List Key × D)}, RpT K S H vs ds → (∀ d, lookT ds k = some d → ∃ v, valV vs k = some v ∧ Rp K S H v d) ∧ (lookT ds k = none → valV vs k = none)
  | _, _, .nil => ⟨fun d e => (nomatch e), fun _ => rfl⟩
  | (k1, v) :: vs, (_, d) :: ds, .cons h r => by
    by_cases e : k1 = k
    · rw [valV_pos (p := (k1, v)) e]
      unfold lookT
      rw [List.find?_cons, decide_eq_true e]
      exact ⟨fun d e => (by cases e; exact ⟨v, rfl, h⟩), fun e => (nomatch e)⟩
    · rw [valV_neg (p := (k1, v)) e]
      unfold lookT
      rw [List.find?_cons, decide_eq_false e]
      exact RpT.look k r
theorem RpK.look {K : PySem.W.Frag} {S : Addr → Prop} {H : Hp} (k : Key) : ∀ {vs : List (Key × V)} {ds : List (Key × D)}, RpK K S H vs ds → (∀ d, lookK ds k = some d → ∃ v, valV vs k = some v ∧ Rp K S H v d) ∧ (lookK ds k = none → valV vs k = none)
  | _, _, .nil => ⟨fun d e => (nomatch e), fun _ => rfl⟩
  | (k1, v) :: vs, (_, d) :: ds, .cons h r => by
    by_cases e : k1 = k
    · rw [valV_pos (p := (k1, v)) e]
      unfold lookK
      rw [List.find?_cons, decide_eq_true e]
      exact ⟨fun d e => (by cases e; exact ⟨v, rfl, h⟩), fun e => (nomatch e)⟩
    · rw [valV_neg (p := (k1, v)) e]
      unfold lookK
      rw [List.find?_cons, decide_eq_false e]
      exact RpK.look k r
def rIxA (K : PySem.W.Frag) : R2 := fun x y H Q => rIx K x y H Q ∨ ∃ a v, x = .ref a ∧ DGet H a y (some v) ∧ Q v H
theorem ix_dict (hu : X.A.units + 1 < cLine) : IxR X (fun x y H Q => ∃ a v, x = .ref a ∧ DGet H a y (some v) ∧ Q v H) := by
  intro value slice pins s σ H x y v u Q I rx ry h hs
  obtain ⟨a, z, rfl, g, q⟩ := h
  cases rx
  exact tail_any (dict_typeIs I g) PySem.F.slot_dict_getitem.lookup (d_getItem hu I g ry fun w' s3 I3 rw' => ⟨z, H, I3, rw', q⟩) hs
theorem ix_all (hu : X.A.units + 1 < cLine) : IxR X (rIxA X.K) := ix_seq.or (ix_dict hu)
def idxG : D → D → M D := fun x y => match x, y with
  | .lst ds, .int i => match atI ds i with | some d => .ok d | none => .er
  | .fz ds, .int i => match atI ds i with | some d => .ok d | none => .er
  | .tup ds, .int i => match atI ds i with | some d => .ok d | none => .er
  | .kt ds, .int i => match atI ds i with | some d => .ok d | none => .er
  | .str z, .int i => if z.length ≤ sizeLine then (match atI z.cps.toList i with | some c => .ok (.str ⟨#[c]⟩) | none => .er) else .er
  | .dct kvs, .tup ds => match keyOf ds with
    | some ks => (match lookT kvs ks with | some d => .ok d | none => .er)
    | none => .er
  | .dk kvs, d => match keyOf1 d with
    | some k => (match lookK kvs k with | some d => .ok d | none => .er)
    | none => .er
  | _, _ => .er
theorem key_v {own : List Addr} {Hb H : Hp} {v : V} {d : D} {k : Key} (r : RM X.K S0 H0 own m Hb H v d) (e : keyOf1 d = some k) : v = kV k := by
  cases d <;> cases e
  · exact r.isInt
  · exact r.isStr
theorem og_idx : OpG X W S0 H0 .E (rIxA X.K) idxG := by
  intro ρ σ own H Q vx vy x y R rx ry k
  unfold idxG at k
  split at k
  · next ds i =>
    split at k
    · next d e =>
      obtain ⟨a, xs, rfl, h1, h2⟩ := rx.isLst
      obtain ⟨v, e1, e2⟩ := h2.atI e
      exact .inl (.inl ⟨a, xs, i, v, rfl, ry.isInt, .inl h1, e1, k v H (Same.refl H) e2⟩)
    · exact k.elim
  · next ds i =>
    split at k
    · next d e =>
      obtain ⟨a, xs, rfl, h1, h2⟩ := rx.isFz
      obtain ⟨v, e1, e2⟩ := h2.atI e
      exact .inl (.inl ⟨a, xs, i, v, rfl, ry.isInt, h1.sq, e1, k v H (Same.refl H) e2⟩)
    · exact k.elim
  · next ds i =>
    split at k
    · next d e =>
      obtain ⟨a, xs, rfl, h1, h2⟩ := rx.isTup
      obtain ⟨v, e1, e2⟩ := h2.atI e
      exact .inl (.inr (.inl ⟨a, xs, i, v, rfl, ry.isInt, SqT.of h1, e1, k v H (Same.refl H) e2⟩))
    · exact k.elim
  · next ds i =>
    split at k
    · next d e =>
      obtain ⟨a, xs, rfl, h1, h2⟩ := rx.isKt
      obtain ⟨v, e1, e2⟩ := h2.atI e
      exact .inl (.inr (.inl ⟨a, xs, i, v, rfl, ry.isInt, h1, e1, k v H (Same.refl H) e2⟩))
    · exact k.elim
  · next z i =>
    split at k
    · next hl =>
      split at k
      · next c e => exact .inl (.inr (.inr ⟨z, i, c, rx.isStr, ry.isInt, hl, e, k _ H (Same.refl H) (.ofStr _)⟩))
      · exact k.elim
    · exact k.elim
  · next kvs ds =>
    split at k
    · next ks ek =>
      split at k
      · next d e =>
        obtain ⟨a, xs, rfl, h1, h2⟩ := rx.isDct
        obtain ⟨b, ys, rfl, h3, h4⟩ := ry.isTup
        obtain ⟨v, e1, e2⟩ := (h2.look ks).1 d e
        refine .inr ⟨a, v, rfl, .inr ⟨xs, ks, b, h1, rfl, ?_, e1.symm⟩, k v H (Same.refl H) e2⟩
        rw [← h4.keys ek]
        exact h3
      · exact k.elim
    · exact k.elim
  · next kvs d =>
    split at k
    · next ks ek =>
      split at k
      · next d e =>
        obtain ⟨a, xs, rfl, h1, h2⟩ := rx.isDk
        obtain ⟨v, e1, e2⟩ := (h2.look ks).1 d e
        exact .inr ⟨a, v, rfl, .inl ⟨xs, ks, h1, key_v ry ek, e1.symm⟩, k v H (Same.refl H) e2⟩
      · exact k.elim
    · exact k.elim
  · exact k.elim
theorem vx_ix (hu : X.A.units + 1 < cLine) (ha : VX X W S0 H0 ma a fa) (hb : VX X W S0 H0 mb b fb) (hs : PlainIx b := by intro _ _; rfl) : VX X W S0 H0 .E (.Subscript a b pos) (eOp idxG fa fb) := by
  obtain ⟨ta, pa, qa⟩ := ha.p
  obtain ⟨tb, pb, qb⟩ := hb.p
  exact ⟨_, pe_ix (ix_all hu) pa pb hs, bin_run qa qb og_idx⟩

/-! ### built-in calls by their name -/
def eBlt (g : List D → M D) (fa : Rho → M (List D)) : Rho → M D := fun ρ => M.bind (fa ρ) g
theorem vx_callB {r : List V → Hp → VK → Prop} {g : List D → M D} {idn : String} {x : Str} {p : Pos} {e : Expr} {es : List Expr} {f : Rho → M (List D)} (hc : CallR X (.builtin idn) r) (hg : CallG X W S0 H0 m r g) (hm : X.mg x = none) (hv : bootBuiltins x = some (.builtin idn))
    (ha : VA X W S0 H0 .O (e :: es) f) (hgl : Gl X x := by rfl) (hdb : (x == ("__debug__" : Str)) = false := by decide) (hn : x ≠ "__name__" := by decide) (he : starEach (e :: es) X.env = (false, eval e X.env) :: starEach es X.env := by rfl) (hpl : (backTo pos (starEach es X.env)).any (·.1) = false := by rfl) :
    VX X W S0 H0 m (.Call (.Name x p) (e :: es) [] pos) (eBlt g f) := by
  obtain ⟨ta, pa, qa⟩ := ha.p
  refine ⟨_, pe_callB hc hgl hm hv pa hn hdb he hpl, fun ρ σ own H Q R k => qa ρ σ own H _ R ?_⟩
  unfold eBlt at k
  revert k
  cases f ρ with
  | er => exact id
  | ex c => exact id
  | ok ds => exact fun k vs H' s r => hg ρ σ own H' Q vs ds (R.grow s) r (PX.grow s k)
theorem vx_callTy {r : List V → Hp → VK → Prop} {g : List D → M D} {T : String} {x : Str} {p : Pos} {e : Expr} {es : List Expr} {f : Rho → M (List D)} (hc : CallR X (.type T) r) (hg : CallG X W S0 H0 m r g) (hm : X.mg x = none) (hv : bootBuiltins x = some (.type T))
    (ha : VA X W S0 H0 .O (e :: es) f) (hgl : Gl X x := by rfl) (hdb : (x == ("__debug__" : Str)) = false := by decide) (hn : x ≠ "__name__" := by decide) (he : starEach (e :: es) X.env = (false, eval e X.env) :: starEach es X.env := by rfl) (hpl : (backTo pos (starEach es X.env)).any (·.1) = false := by rfl) :
    VX X W S0 H0 m (.Call (.Name x p) (e :: es) [] pos) (eBlt g f) := by
  obtain ⟨ta, pa, qa⟩ := ha.p
  refine ⟨_, pe_callTy hc hgl hm hv pa hn hdb he hpl, fun ρ σ own H Q R k => qa ρ σ own H _ R ?_⟩
  unfold eBlt at k
  revert k
  cases f ρ with
  | er => exact id
  | ex c => exact id
  | ok ds => exact fun k vs H' s r => hg ρ σ own H' Q vs ds (R.grow s) r (PX.grow s k)
theorem pair1 {F : V → D → Prop} {vs : List V} {d : D} (h : Paired F vs [d]) : ∃ v, vs = [v] ∧ F v d := by
  cases h with
  | cons a r => cases r; exact ⟨_, rfl, a⟩
theorem pair2 {F : V → D → Prop} {vs : List V} {d e : D} (h : Paired F vs [d, e]) : ∃ v w, vs = [v, w] ∧ F v d ∧ F w e := by
  cases h with
  | cons a r => cases r with
    | cons b r => cases r; exact ⟨_, _, rfl, a, b⟩
def lenG : List D → M D := fun xs => match xs with
  | [.lst ds] => .ok (.int ds.length)
  | [.fz ds] => .ok (.int ds.length)
  | [.tup ds] => .ok (.int ds.length)
  | [.kt ds] => .ok (.int ds.length)
  | [.str z] => if z.length ≤ sizeLine then .ok (.int z.length) else .er
  | _ => .er
theorem cg_len : CallG X W S0 H0 m (fun xs H Q => ∃ x n, xs = [x] ∧ LenV X.K x H n ∧ Q (.int n) H) lenG := by
  intro ρ σ own H Q vs ds R r k
  unfold lenG at k
  split at k
  · obtain ⟨v, rfl, r1⟩ := pair1 r
    obtain ⟨a, xs, rfl, h1, h2⟩ := r1.isLst
    exact ⟨_, _, rfl, .inl ⟨xs, .inl h1, rfl⟩, by rw [h2.length]; exact k _ H (Same.refl H) (.ofInt _)⟩
  · obtain ⟨v, rfl, r1⟩ := pair1 r
    obtain ⟨a, xs, rfl, h1, h2⟩ := r1.isFz
    exact ⟨_, _, rfl, .inl ⟨xs, h1.sq, rfl⟩, by rw [h2.length]; exact k _ H (Same.refl H) (.ofInt _)⟩
  · obtain ⟨v, rfl, r1⟩ := pair1 r
    obtain ⟨a, xs, rfl, h1, h2⟩ := r1.isTup
    exact ⟨_, _, rfl, .inr ⟨xs, SqT.of h1, rfl⟩, by rw [h2.length]; exact k _ H (Same.refl H) (.ofInt _)⟩
  · obtain ⟨v, rfl, r1⟩ := pair1 r
    obtain ⟨a, xs, rfl, h1, h2⟩ := r1.isKt
    exact ⟨_, _, rfl, .inr ⟨xs, h1, rfl⟩, by rw [h2.length]; exact k _ H (Same.refl H) (.ofInt _)⟩
  · next z =>
    split at k
    · next hl =>
      obtain ⟨v, rfl, r1⟩ := pair1 r
      rw [r1.isStr]
      exact ⟨_, _, rfl, ⟨hl, rfl⟩, k _ H (Same.refl H) (.ofInt _)⟩
    · exact k.elim
  · exact k.elim
def absG : List D → M D := fun xs => match xs with
  | [.int i] => .ok (.int (if i < 0 then -i else i))
  | _ => .er
theorem cg_abs : CallG X W S0 H0 m (fun xs H Q => ∃ i, xs = [.int i] ∧ Q (.int (if i < 0 then -i else i)) H) absG := by
  intro ρ σ own H Q vs ds R r k
  unfold absG at k
  split at k
  · obtain ⟨v, rfl, r1⟩ := pair1 r
    rw [r1.isInt]
    exact ⟨_, rfl, k _ H (Same.refl H) (.ofInt _)⟩
  · exact k.elim
/-- list(xs), tuple(xs): a new one, the items without lists -/
def listG : List D → M D := fun xs => match xs with
  | [.lst ds] => if lfA ds = true then .ok (.lst ds) else .er
  | [.tup ds] => if lfA ds = true then .ok (.lst ds) else .er
  | _ => .er
theorem cg_list : CallG X W S0 H0 .N (fun xs H Q => ∃ p ys, xs = [.ref p] ∧ (SqL X.K H p ys ∨ SqT X.K H p ys) ∧ ∀ l, H l = none → Q (.ref l) (upd H l (.lst ys))) listG := by
  intro ρ σ own H Q vs ds R r k
  unfold listG at k
  split at k
  · split at k
    · next hl =>
      obtain ⟨v, rfl, r1⟩ := pair1 r
      obtain ⟨a, xs, rfl, h1, h2⟩ := r1.isLst
      exact ⟨_, _, rfl, .inl (.inl h1), fun p hp => k _ _ (same_upd hp) (RM.newL R hp ((h2.lf hl).keep (.same (same_upd hp))))⟩
    · exact k.elim
  · split at k
    · next hl =>
      obtain ⟨v, rfl, r1⟩ := pair1 r
      obtain ⟨a, xs, rfl, h1, h2⟩ := r1.isTup
      exact ⟨_, _, rfl, .inr (SqT.of h1), fun p hp => k _ _ (same_upd hp) (RM.newL R hp ((h2.lf hl).keep (.same (same_upd hp))))⟩
    · exact k.elim
  · exact k.elim
def tupleG : List D → M D := fun xs => match xs with
  | [.lst ds] => if lfA ds = true then .ok (.tup ds) else .er
  | [.tup ds] => if lfA ds = true then .ok (.tup ds) else .er
  | _ => .er
theorem cg_tuple : CallG X W S0 H0 .N (fun xs H Q => ∃ p ys, xs = [.ref p] ∧ ((SqL X.K H p ys ∧ ∀ l, H l = none → Q (.ref l) (upd H l (.tup ys))) ∨ (SqT X.K H p ys ∧ Q (.ref p) H))) tupleG := by
  intro ρ σ own H Q vs ds R r k
  unfold tupleG at k
  split at k
  · split at k
    · next hl =>
      obtain ⟨v, rfl, r1⟩ := pair1 r
      obtain ⟨a, xs, rfl, h1, h2⟩ := r1.isLst
      refine ⟨_, _, rfl, .inl ⟨.inl h1, fun p hp => k _ _ (same_upd hp) ?_⟩⟩
      exact Rp.tup upd_same ((h2.lf hl).keep (.same (same_upd hp)))
    · exact k.elim
  · split at k
    · next hl =>
      obtain ⟨v, rfl, r1⟩ := pair1 r
      obtain ⟨a, xs, rfl, h1, h2⟩ := r1.isTup
      exact ⟨_, _, rfl, .inr ⟨SqT.of h1, k _ H (Same.refl H) (Rp.tup h1 (h2.lf hl))⟩⟩
    · exact k.elim
  · exact k.elim
end
end VL
set_option Elab.async false
set_option linter.all false
set_option maxRecDepth 100000
/-! VL: statements, loops, a def's contract. -/
namespace VL
open PySem L2 PySem.Spec PyProof.Rows

inductive Res where
  | nx (ρ : Rho) | rt (d : D) | bk (ρ : Rho) | ct (ρ : Rho) | ex (c : Xc) (ρ : Rho) | er
  | rs (d : D) (ρ : Rho)
section
variable (X : Cx) (W : WX) (S0 : Addr → Prop) (H0 : Hp) (rm : Md) (own : List Addr) (H : Hp)
def PSt (D : Ends) : Res → Prop
  | .nx ρ' => ∀ σ' own' H', Rel X.K S0 H0 ρ' σ' own' H' → Fra own H own' H' → D.nx σ' H'
  | .rt d => ∀ v own' H', RM X.K S0 H0 own' rm H0 H' v d → Fra own H own' H' → D.rt v H'
  | .bk ρ' => ∀ σ' own' H', Rel X.K S0 H0 ρ' σ' own' H' → Fra own H own' H' → D.bk σ' H'
  | .ct ρ' => ∀ σ' own' H', Rel X.K S0 H0 ρ' σ' own' H' → Fra own H own' H' → D.ct σ' H'
  | .ex c ρ' => ∀ cv d σ' own' H', IsCls X.mg c cv d → Rel X.K S0 H0 ρ' σ' own' H' → Fra own H own' H' → W cv d σ' H'
  | .er => False
  | .rs d ρ' => ∀ v σ' own' H', RM X.K S0 H0 own' rm H0 H' v d → Rel X.K S0 H0 ρ' σ' own' H' → Fra own H own' H' → D.rt v H'
end
structure VS (X : Cx) (W : WX) (S0 : Addr → Prop) (H0 : Hp) (rm : Md) (st : Stmt) (f : Rho → Res) : Prop where
  p : ∃ ts, PS X st ts ∧ ∀ ρ σ own H D, Rel X.K S0 H0 ρ σ own H → PSt X W S0 H0 rm own H D (f ρ) → ts D σ H
structure VSs (X : Cx) (W : WX) (S0 : Addr → Prop) (H0 : Hp) (rm : Md) (st : List Stmt) (f : Rho → Res) : Prop where
  p : ∃ ts, PSs X st ts ∧ ∀ ρ σ own H D, Rel X.K S0 H0 ρ σ own H → PSt X W S0 H0 rm own H D (f ρ) → ts D σ H

def ofM (ρ : Rho) (k : D → Res) : M D → Res
  | .ok d => k d
  | .ex c => .ex c ρ
  | .er => .er
def ofMB (ρ : Rho) (k : Bool → Res) : M Bool → Res
  | .ok d => k d
  | .ex c => .ex c ρ
  | .er => .er
@[simp] theorem ofM_ok (ρ : Rho) (k : D → Res) (d : D) : ofM ρ k (.ok d) = k d := rfl
@[simp] theorem ofM_ex (ρ : Rho) (k : D → Res) (c : Xc) : ofM ρ k (.ex c) = .ex c ρ := rfl
@[simp] theorem ofM_er (ρ : Rho) (k : D → Res) : ofM ρ k .er = .er := rfl
@[simp] theorem ofMB_ok (ρ : Rho) (k : Bool → Res) (d : Bool) : ofMB ρ k (.ok d) = k d := rfl
@[simp] theorem ofMB_ex (ρ : Rho) (k : Bool → Res) (c : Xc) : ofMB ρ k (.ex c) = .ex c ρ := rfl
@[simp] theorem ofMB_er (ρ : Rho) (k : Bool → Res) : ofMB ρ k .er = .er := rfl
def sNil : Rho → Res := fun ρ => .nx ρ
def thenR (r : Res) (g : Rho → Res) : Res := match r with
  | .nx ρ' => g ρ'
  | .rt d => .rt d
  | .bk ρ' => .bk ρ'
  | .ct ρ' => .ct ρ'
  | .ex c ρ' => .ex c ρ'
  | .er => .er
  | .rs d ρ' => .rs d ρ'
@[simp] theorem then_rs (d : D) (ρ : Rho) (g : Rho → Res) : thenR (.rs d ρ) g = .rs d ρ := rfl
@[simp] theorem then_nx (ρ : Rho) (g : Rho → Res) : thenR (.nx ρ) g = g ρ := rfl
@[simp] theorem then_rt (d : D) (g : Rho → Res) : thenR (.rt d) g = .rt d := rfl
@[simp] theorem then_bk (ρ : Rho) (g : Rho → Res) : thenR (.bk ρ) g = .bk ρ := rfl
@[simp] theorem then_ct (ρ : Rho) (g : Rho → Res) : thenR (.ct ρ) g = .ct ρ := rfl
@[simp] theorem then_ex (c : Xc) (ρ : Rho) (g : Rho → Res) : thenR (.ex c ρ) g = .ex c ρ := rfl
@[simp] theorem then_er (g : Rho → Res) : thenR .er g = .er := rfl
def sSeq (f g : Rho → Res) : Rho → Res := fun ρ => thenR (f ρ) g
def sIf (c : Rho → M Bool) (f g : Rho → Res) : Rho → Res := fun ρ => ofMB ρ (fun b => if b = true then f ρ else g ρ) (c ρ)
def sRet (f : Rho → M D) : Rho → Res := fun ρ => ofM ρ (fun d => .rt d) (f ρ)
def sDrop (f : Rho → M D) : Rho → Res := fun ρ => ofM ρ (fun _ => .nx ρ) (f ρ)
def sSh (i : Nat) (f : Rho → M D) : Rho → Res := fun ρ => ofM ρ (fun d => .nx (ρ.set i (.sh d))) (f ρ)
def sFr (i : Nat) (f : Rho → M D) : Rho → Res := fun ρ => ofM ρ (fun d => .nx (ρ.set i (.fr d))) (f ρ)
def lfT : List (List Key × D) → Bool
  | [] => true
  | d :: ds => lf d.2 && lfT ds
def lfK : List (Key × D) → Bool
  | [] => true
  | d :: ds => lf d.2 && lfK ds
theorem RpT.lf {K : PySem.W.Frag} {S S' : Addr → Prop} {H : Hp} : ∀ {v : List (List Key × V)} {d : List (List Key × D)}, RpT K S H v d → VL.lfT d = true → RpT K S' H v d
  | _, _, .nil, _ => .nil
  | _, _, .cons h r, e => by
    simp [VL.lfT] at e
    exact .cons (h.lf e.1) (RpT.lf r e.2)
theorem RpK.lf {K : PySem.W.Frag} {S S' : Addr → Prop} {H : Hp} : ∀ {v : List (Key × V)} {d : List (Key × D)}, RpK K S H v d → VL.lfK d = true → RpK K S' H v d
  | _, _, .nil, _ => .nil
  | _, _, .cons h r, e => by
    simp [VL.lfK] at e
    exact .cons (h.lf e.1) (RpK.lf r e.2)
/-- a list or dict whose items are without lists -/
def isMut : D → Bool
  | .lst ds => lfA ds
  | .dct ds => lfT ds
  | .dk ds => lfK ds
  | _ => false
def sOw (i : Nat) (f : Rho → M D) : Rho → Res := fun ρ => ofM ρ (fun d => if isMut d = true then .nx (ρ.set i (.ow d)) else .er) (f ρ)
/-- what is one's own is given to all, ahead of what follows -/
def shareR (i : Nat) (ρ : Rho) : Rho := match ρ[i]? with
  | some (.ow d) => if isObj d = true then ρ else ρ.set i (.fr d)
  | _ => ρ
def sShare (i : Nat) (f : Rho → Res) : Rho → Res := fun ρ => f (shareR i ρ)
/-- slots forgotten -/
def wipeR : List Nat → Rho → Rho
  | [], ρ => ρ
  | k :: ks, ρ => (wipeR ks ρ).set k .no
def wipeS (ks : List Nat) : Res → Res
  | .nx ρ => .nx (wipeR ks ρ)
  | .bk ρ => .bk (wipeR ks ρ)
  | .ct ρ => .ct (wipeR ks ρ)
  | r => r
def sWipe (ks : List Nat) (f : Rho → Res) : Rho → Res := fun ρ => wipeS ks (f ρ)

section
variable {X : Cx} {W : WX} {S0 : Addr → Prop} {H0 : Hp} {rm m : Md} {own own' : List Addr} {H H' : Hp} {pos : Pos} {st : Stmt} {sts : List Stmt} {f g : Rho → Res} {e : Expr} {fe : Rho → M D}
theorem PSt.weak {D : Ends} {r : Res} (p : PSt X W S0 H0 rm own H D r) (h : Fra own H own' H') : PSt X W S0 H0 rm own' H' D r := by
  cases r with
  | nx ρ => exact fun σ' o' H2 a b => p σ' o' H2 a (h.trans b)
  | rt d => exact fun v o' H2 a b => p v o' H2 a (h.trans b)
  | bk ρ => exact fun σ' o' H2 a b => p σ' o' H2 a (h.trans b)
  | ct ρ => exact fun σ' o' H2 a b => p σ' o' H2 a (h.trans b)
  | ex c ρ => exact fun cv d σ' o' H2 i a b => p cv d σ' o' H2 i a (h.trans b)
  | er => exact p
  | rs d ρ => exact fun v σ' o' H2 r a b => p v σ' o' H2 r a (h.trans b)
theorem vss_nil : VSs X W S0 H0 rm [] sNil := ⟨_, pss_nil, fun ρ σ own H D R k => k σ own H R .refl⟩
theorem vss_cons (h : VS X W S0 H0 rm st f) (h2 : VSs X W S0 H0 rm sts g) : VSs X W S0 H0 rm (st :: sts) (sSeq f g) := by
  obtain ⟨t, p, q⟩ := h.p
  obtain ⟨t2, p2, q2⟩ := h2.p
  refine ⟨_, pss_cons p p2, fun ρ σ own H D R k => q ρ σ own H _ R ?_⟩
  unfold sSeq at k
  revert k
  cases f ρ with
  | nx ρ' => exact fun k σ' o' H' a b => q2 ρ' σ' o' H' D a (k.weak b)
  | rt d => exact id
  | bk ρ => exact id
  | ct ρ => exact id
  | ex c ρ => exact id
  | er => exact id
  | rs d ρ => exact id
theorem vss_one (h : VS X W S0 H0 rm st f) : VSs X W S0 H0 rm [st] f := by
  obtain ⟨t, p, q⟩ := h.p
  exact ⟨_, pss_one p, q⟩
theorem vs_share {i : Nat} (h : VS X W S0 H0 rm st f) : VS X W S0 H0 rm st (sShare i f) := by
  obtain ⟨t, p, q⟩ := h.p
  refine ⟨t, p, fun ρ σ own H D R k => ?_⟩
  unfold sShare shareR at k
  split at k
  · next d e =>
    split at k
    · exact q ρ σ own H D R k
    · next hob =>
      obtain ⟨o', R', F⟩ := R.share e (by simpa using hob)
      exact q _ σ o' H D R' (k.weak F)
  · exact q ρ σ own H D R k
theorem wipeR_get : ∀ (ks : List Nat) (ρ : Rho), (wipeR ks ρ).length = ρ.length ∧ ∀ (i : Nat) (s : Sl), (wipeR ks ρ)[i]? = some s → s = .no ∨ ρ[i]? = some s
  | [], ρ => ⟨rfl, fun i s h => .inr h⟩
  | k :: ks, ρ => by
    obtain ⟨h1, h2⟩ := wipeR_get ks ρ
    refine ⟨by unfold wipeR; rw [List.length_set, h1], fun i s h => ?_⟩
    unfold wipeR at h
    rcases get_set h with ⟨_, z, _⟩ | ⟨_, z⟩
    · exact .inl z
    · exact h2 i s z
theorem Rel.wipe {K : PySem.W.Frag} {ρ : Rho} {σ : Sg} (ks : List Nat) (R : Rel K S0 H0 ρ σ own H) : Rel K S0 H0 (wipeR ks ρ) σ own H := R.less (wipeR_get ks ρ).1 (wipeR_get ks ρ).2
theorem PSt.unwipe {D : Ends} {r : Res} {ks : List Nat} (k : PSt X W S0 H0 rm own H D (wipeS ks r)) : PSt X W S0 H0 rm own H D r := by
  cases r with
  | nx ρ => exact fun σ' o' H' a b => k σ' o' H' (a.wipe ks) b
  | bk ρ => exact fun σ' o' H' a b => k σ' o' H' (a.wipe ks) b
  | ct ρ => exact fun σ' o' H' a b => k σ' o' H' (a.wipe ks) b
  | rt d => exact k
  | ex c ρ => exact k
  | er => exact k
  | rs d ρ => exact k
theorem vss_wipe {ks : List Nat} (h : VSs X W S0 H0 rm sts f) : VSs X W S0 H0 rm sts (sWipe ks f) := by
  obtain ⟨t, p, q⟩ := h.p
  exact ⟨t, p, fun ρ σ own H D R k => q ρ σ own H D R (PSt.unwipe k)⟩
/-! ### small statements -/
theorem vs_pass : VS X W S0 H0 rm (.Pass pos) sNil := ⟨_, ps_pass, fun ρ σ own H D R k => k σ own H R .refl⟩
theorem vs_if {c : Expr} {a b : List Stmt} {fc : Rho → M Bool} (hc : VT X W S0 H0 c fc) (ha : VSs X W S0 H0 rm a f) (hb : VSs X W S0 H0 rm b g) : VS X W S0 H0 rm (.If c a b pos) (sIf fc f g) := by
  obtain ⟨tc, pc, qc⟩ := hc.p
  obtain ⟨ta, pa, qa⟩ := ha.p
  obtain ⟨tb, pb, qb⟩ := hb.p
  refine ⟨_, ps_if pc pa pb, fun ρ σ own H D R k => qc ρ σ own H _ R ?_⟩
  unfold sIf at k
  revert k
  cases fc ρ with
  | er => exact id
  | ex c => exact fun k cv d H' i s => k cv d σ own H' i (R.grow s) (.same s)
  | ok x =>
    intro k H' s
    cases x with
    | true => exact qa ρ σ own H' D (R.grow s) (PSt.weak k (.same s))
    | false => exact qb ρ σ own H' D (R.grow s) (PSt.weak k (.same s))
/-- return e: a value of the mode (made in this def; or any) -/
theorem vs_retF (h : VX X W S0 H0 .F e fe) : VS X W S0 H0 .F (.Return (some e) pos) (sRet fe) := by
  obtain ⟨tc, pc, qc⟩ := h.p
  refine ⟨_, ps_ret pc, fun ρ σ own H D R k => qc ρ σ own H _ R ?_⟩
  unfold sRet at k
  revert k
  cases fe ρ with
  | er => exact id
  | ex c => exact fun k cv d H' i s => k cv d σ own H' i (R.grow s) (.same s)
  | ok x => exact fun k v H' s r => k v own H' r (.same s)
theorem vs_drop (h : VX X W S0 H0 m e fe) (hs : swapsWith e none pos.line X.env = pure false := by rfl) : VS X W S0 H0 rm (.Expr e pos) (sDrop fe) := by
  obtain ⟨tc, pc, qc⟩ := h.p
  refine ⟨_, ps_expr pc hs, fun ρ σ own H D R k => qc ρ σ own H _ R ?_⟩
  unfold sDrop at k
  revert k
  cases fe ρ with
  | er => exact id
  | ex c => exact fun k cv d H' i s => k cv d σ own H' i (R.grow s) (.same s)
  | ok x => exact fun k v H' s r => k σ own H' (R.grow s) (.same s)
section
variable {i : Nat} {x : Str} {pos' : Pos}
theorem vs_sh (hN : X.N.Nodup) (h : VX X W S0 H0 .E e fe) (hi : X.N[i]? = some x := by rfl) (hx : Loc X.env.scope x := by first | exact Or.inl rfl | exact Or.inr rfl) (hs : swapsWith e (some (.Name x pos')) pos.line X.env = pure false := by rfl)
    (hf : X.fn x = true ∨ X.env.scope.names.lookup x = some .local := by first | exact .inl rfl | exact .inr rfl) : VS X W S0 H0 rm (.Assign [.Name x pos'] e pos) (sSh i fe) := by
  obtain ⟨tc, pc, qc⟩ := h.p
  refine ⟨_, ps_set hN hi hx pc hs hf, fun ρ σ own H D R k => qc ρ σ own H _ R ?_⟩
  unfold sSh at k
  revert k
  cases fe ρ with
  | er => exact id
  | ex c => exact fun k cv d H' i s => k cv d σ own H' i (R.grow s) (.same s)
  | ok x => exact fun k v H' s r => k _ own H' ((R.grow s).setSh r) (.same s)
theorem vs_fr (hN : X.N.Nodup) (h : VX X W S0 H0 .F e fe) (hi : X.N[i]? = some x := by rfl) (hx : Loc X.env.scope x := by first | exact Or.inl rfl | exact Or.inr rfl) (hs : swapsWith e (some (.Name x pos')) pos.line X.env = pure false := by rfl)
    (hf : X.fn x = true ∨ X.env.scope.names.lookup x = some .local := by first | exact .inl rfl | exact .inr rfl) : VS X W S0 H0 rm (.Assign [.Name x pos'] e pos) (sFr i fe) := by
  obtain ⟨tc, pc, qc⟩ := h.p
  refine ⟨_, ps_set hN hi hx pc hs hf, fun ρ σ own H D R k => qc ρ σ own H _ R ?_⟩
  unfold sFr at k
  revert k
  cases fe ρ with
  | er => exact id
  | ex c => exact fun k cv d H' i s => k cv d σ own H' i (R.grow s) (.same s)
  | ok x => exact fun k v H' s r => k _ own H' ((R.grow s).setFr r) (.same s)
/-- x = e, a new list or dict that becomes one's own -/
theorem vs_ow (hN : X.N.Nodup) (h : VX X W S0 H0 .N e fe) (hi : X.N[i]? = some x := by rfl) (hx : Loc X.env.scope x := by first | exact Or.inl rfl | exact Or.inr rfl) (hs : swapsWith e (some (.Name x pos')) pos.line X.env = pure false := by rfl)
    (hf : X.fn x = true ∨ X.env.scope.names.lookup x = some .local := by first | exact .inl rfl | exact .inr rfl) : VS X W S0 H0 rm (.Assign [.Name x pos'] e pos) (sOw i fe) := by
  obtain ⟨tc, pc, qc⟩ := h.p
  refine ⟨_, ps_set hN hi hx pc hs hf, fun ρ σ own H D R k => qc ρ σ own H _ R ?_⟩
  unfold sOw at k
  revert k
  cases fe ρ with
  | er => exact id
  | ex c => exact fun k cv d H' i s => k cv d σ own H' i (R.grow s) (.same s)
  | ok x =>
    intro k v H' s r
    rw [ofM_ok] at k
    split at k
    · next ho =>
      have fin : ∀ a, v = .ref a → H a = none → Own X.K (SF H0 (a :: own)) H' a x → D.nx (σ.set i (some v)) H' := fun a e1 e2 e3 => by
        subst e1
        exact k _ (a :: own) H' (R.setOw s e2 e3 (by cases x <;> first | rfl | cases ho)) ⟨fun b o q _ => s b o q, fun b hm => (List.mem_cons.mp hm).elim (fun z => .inr (by rw [z]; exact e2)) .inl⟩
      cases x with
      | lst ds =>
        cases r with
        | lst s1 h1 r1 => exact fin _ rfl s1.1 ⟨_, h1, r1.lf ho⟩
      | dct ds =>
        cases r with
        | dct s1 h1 r1 => exact fin _ rfl s1.1 ⟨_, h1, r1.lf ho⟩
      | dk ds =>
        cases r with
        | dk s1 h1 r1 => exact fin _ rfl s1.1 ⟨_, h1, r1.lf ho⟩
      | _ => cases ho
    · exact k.elim
end
end
end VL
set_option Elab.async false
set_option linter.all false
set_option maxRecDepth 100000
/-! VL: loops, a def's contract and its call, what changes one's own lists and dicts. -/
namespace VL
open PySem L2 PySem.Spec PyProof.Rows

/-! ### what a loop walks -/
section
variable (X : Cx) (W : WX) (S0 : Addr → Prop) (H0 : Hp)
/-- an iterator that gives the data ds, whatever happens to one's own meanwhile -/
def Walks (own : List Addr) (H1 : Hp) (J : It) (ds : List D) : Prop :=
  ∀ (own' : List Addr) (H' : Hp), Fra own H1 own' H' → Same H0 H' → (∀ a, a ∈ own' → H0 a = none ∧ Mt (H' a)) → ∀ i : Nat, (i < ds.length → J.go i H') ∧ (ds.length ≤ i → J.stop i H') ∧
    ∀ x H2, i < ds.length → J.yld i H' x H2 → Same H' H2 ∧ ∃ d, ds[i]? = some d ∧ Rp X.K (SA S0 H0 own') H2 x d
def PXI (own : List Addr) (H : Hp) (σ : Sg) (R : It → Hp → Prop) : M (List D) → Prop
  | .ok ds => ∀ J H', Same H H' → Walks X S0 H0 own H' J ds → R J H'
  | .ex c => ∀ cv d H', IsCls X.mg c cv d → Same H H' → W cv d σ H'
  | .er => False
structure VI (tg iter : Expr) (f : Rho → M (List D)) : Prop where
  p : ∃ wi, PI X tg iter wi ∧ ∀ ρ σ own H R, Rel X.K S0 H0 ρ σ own H → PXI X W S0 H0 own H σ R (f ρ) → wi σ H R
  s : ∀ x, foldedSetIterable iter X.env x = pure x
/-- a target that stores at the slots ks alone -/
def OnlyS (ks : List Nat) (σ σ' : Sg) : Prop := σ'.length = σ.length ∧ ∀ j, j ∉ ks → σ'[j]? = σ[j]?
structure VG (ks : List Nat) (tg : Expr) (f : D → Rho → Option Rho) : Prop where
  p : ∃ g, PG X tg g ∧ ∀ v d ρ ρ' σ own H Q, Rel X.K S0 H0 ρ σ own H → Rp X.K (SA S0 H0 own) H v d → f d ρ = some ρ' → (∀ σ', Rel X.K S0 H0 ρ' σ' own H → OnlyS ks σ σ' → Q σ' H) → g v σ H Q
structure VGs (ks : List Nat) (tg : List Expr) (f : List D → Rho → Option Rho) : Prop where
  p : ∃ g, PGs X tg g ∧ ∀ vs ds ρ ρ' σ own H Q, Rel X.K S0 H0 ρ σ own H → RpA X.K (SA S0 H0 own) H vs ds → f ds ρ = some ρ' → (∀ σ', Rel X.K S0 H0 ρ' σ' own H → OnlyS ks σ σ' → Q σ' H) → g vs σ H Q
end
def tgN (i : Nat) : D → Rho → Option Rho := fun d ρ => some (ρ.set i (.sh d))
def tgNil : List D → Rho → Option Rho := fun ds ρ => match ds with | [] => some ρ | _ => none
def tgCons (f : D → Rho → Option Rho) (g : List D → Rho → Option Rho) : List D → Rho → Option Rho := fun ds ρ => match ds with
  | d :: r => (match f d ρ with | some ρ' => g r ρ' | none => none)
  | [] => none
def tgT (n : Nat) (f : List D → Rho → Option Rho) : D → Rho → Option Rho := fun d ρ => match d with
  | .tup ds => if ds.length = n then f ds ρ else none
  | .kt ds => if ds.length = n then f ds ρ else none
  | _ => none
/-- the turns -/
def forR (tg : D → Rho → Option Rho) (b : Rho → Res) : List D → Rho → Res
  | [], ρ => .nx ρ
  | d :: ds, ρ => match tg d ρ with
    | none => .er
    | some ρ1 => match b ρ1 with
      | .nx ρ2 => forR tg b ds ρ2
      | .ct ρ2 => forR tg b ds ρ2
      | .bk ρ2 => .nx ρ2
      | .rt d => .rt d
      | .ex c ρ2 => .ex c ρ2
      | .er => .er
      | .rs d ρ2 => .rs d ρ2
def sFor (fi : Rho → M (List D)) (tg : D → Rho → Option Rho) (b : Rho → Res) : Rho → Res := fun ρ => match fi ρ with
  | .ok ds => forR tg b ds ρ
  | .ex c => .ex c ρ
  | .er => .er
def whileN (c : Rho → M Bool) (b : Rho → Res) : Nat → Rho → Res
  | 0, _ => .er
  | n + 1, ρ => match c ρ with
    | .ok true => (match b ρ with
      | .nx ρ2 => whileN c b n ρ2
      | .ct ρ2 => whileN c b n ρ2
      | .bk ρ2 => .nx ρ2
      | .rt d => .rt d
      | .ex c ρ2 => .ex c ρ2
      | .er => .er
      | .rs d ρ2 => .rs d ρ2)
    | .ok false => .nx ρ
    | .ex c => .ex c ρ
    | .er => .er
def sWhile (n : Nat) (c : Rho → M Bool) (b : Rho → Res) : Rho → Res := whileN c b n
section
variable {X : Cx} {W : WX} {S0 : Addr → Prop} {H0 : Hp} {rm m : Md} {pos : Pos} {tg iter e : Expr} {body : List Stmt} {fi : Rho → M (List D)} {ft : D → Rho → Option Rho} {fb : Rho → Res} {fe : Rho → M D}
theorem vg_name {i : Nat} {x : Str} (hN : X.N.Nodup) (hi : X.N[i]? = some x := by rfl) (hx : Loc X.env.scope x := by first | exact Or.inl rfl | exact Or.inr rfl) (hf : X.fn x = true ∨ X.env.scope.names.lookup x = some .local := by first | exact .inl rfl | exact .inr rfl) : VG X S0 H0 [i] (.Name x pos) (tgN i) := by
  refine ⟨_, pg_name hN hi hx hf, fun v d ρ ρ' σ own H Q R r e k => ?_⟩
  cases e
  exact k _ (R.setSh r) ⟨List.length_set, fun j hj => List.getElem?_set_ne (fun z => hj (by rw [← z]; exact List.mem_cons_self))⟩
theorem vgs_nil : VGs X S0 H0 [] [] tgNil := by
  refine ⟨_, pgs_nil, fun vs ds ρ ρ' σ own H Q R r e k => ?_⟩
  cases r with
  | nil => cases e; exact ⟨rfl, k _ R ⟨rfl, fun _ _ => rfl⟩⟩
  | cons _ _ => cases e
theorem vgs_cons {k1 k2 : List Nat} {es : List Expr} {fs : List D → Rho → Option Rho} (h : VG X S0 H0 k1 e ft) (h2 : VGs X S0 H0 k2 es fs) (hs : (assignEach (e :: es) X.env).map (·.2) = assign e X.env :: (assignEach es X.env).map (·.2) := by rfl) : VGs X S0 H0 (k1 ++ k2) (e :: es) (tgCons ft fs) := by
  obtain ⟨g, p, q⟩ := h.p
  obtain ⟨g2, p2, q2⟩ := h2.p
  refine ⟨_, pgs_cons p p2 hs, fun vs ds ρ ρ' σ own H Q R r e k => ?_⟩
  cases r with
  | nil => cases e
  | cons r1 r2 =>
    rename_i v d vs ds
    unfold tgCons at e
    cases e1 : ft d ρ with
    | none => simp [e1] at e
    | some ρ1 =>
      simp [e1] at e
      exact ⟨_, _, rfl, q _ _ _ _ _ _ _ _ R r1 e1 fun σ' R' o1 => q2 _ _ _ _ _ _ _ _ R' r2 e fun σ2 R2 o2 => k σ2 R2 ⟨o2.1.trans o1.1, fun j hj => (o2.2 j fun z => hj (List.mem_append_right _ z)).trans (o1.2 j fun z => hj (List.mem_append_left _ z))⟩⟩
theorem vg_tup {ks : List Nat} {es : List Expr} {j n : Nat} {fs : List D → Rho → Option Rho} (hc : X.calm = true) (h : VGs X S0 H0 ks es fs) (hn : (assignEach es X.env).length = n := by rfl) (hst : (assignEach es X.env).findIdx? (·.1) = none := by rfl) : VG X S0 H0 ks (.Tuple es j pos) (tgT n fs) := by
  obtain ⟨g, p, q⟩ := h.p
  refine ⟨_, pg_tup hc p hn hst, fun v d ρ ρ' σ own H Q R r e k => ?_⟩
  unfold tgT at e
  split at e
  · next ds =>
    split at e
    · next hl =>
      cases r with
      | tup h1 r1 => exact ⟨_, _, rfl, SqT.of h1, by rw [r1.length]; exact hl, q _ _ _ _ _ _ _ _ R r1 e k⟩
    · cases e
  · next ds =>
    split at e
    · next hl =>
      cases r with
      | kt h1 r1 => exact ⟨_, _, rfl, .inr h1, by rw [r1.length]; exact hl, q _ _ _ _ _ _ _ _ R r1 e k⟩
    · cases e
  · cases e
/-! ### for, while -/
theorem vs_for {ks : List Nat} (hp : PassesOwn (model X.prog X.w) X.A X.env X.xe) (hc : X.calm = true) (hi : VI X W S0 H0 tg iter fi) (hg : VG X S0 H0 ks tg ft) (hb : VSs X W S0 H0 rm body fb) : VS X W S0 H0 rm (.For tg iter body [] pos) (sFor fi ft fb) := by
  obtain ⟨wi, pi, qi⟩ := hi.p
  obtain ⟨g, pg, qg⟩ := hg.p
  obtain ⟨tb, pb, qb⟩ := hb.p
  refine ⟨_, ps_for hp hc pi pg pb hi.s, fun ρ σ own H D R k => qi ρ σ own H _ R ?_⟩
  unfold sFor at k
  revert k
  cases fi ρ with
  | er => exact id
  | ex c => exact fun k cv d H' i s => k cv d σ own H' i (R.grow s) (.same s)
  | ok ds =>
    intro k J H1 s1 wk
    refine ⟨fun i m' σ' H' => ∃ ρ' own', Rel X.K S0 H0 ρ' σ' own' H' ∧ Fra own H1 own' H' ∧ PSt X W S0 H0 rm own' H' D (forR ft fb (ds.drop i) ρ') ∧ m' = ds.length - i ∧ i ≤ ds.length, ⟨ds.length, ρ, own, R.grow s1, .refl, by simpa using k.weak (.same s1), by simp, by simp⟩, ?_⟩
    rintro i m' σ' H' ⟨ρ', own', R', F', k', rfl, hi⟩
    obtain ⟨w1, w2, w3⟩ := wk own' H' F' R'.same R'.own0 i
    by_cases hlt : i < ds.length
    · refine .inr ⟨w1 hlt, fun σ2 H2 => ∃ ρ2 own2, Rel X.K S0 H0 ρ2 σ2 own2 H2 ∧ Fra own H1 own2 H2 ∧ PSt X W S0 H0 rm own2 H2 D (forR ft fb (ds.drop (i + 1)) ρ2), fun σ2 H2 ⟨ρ2, own2, a, b, c⟩ => ⟨ds.length - (i + 1), by omega, ρ2, own2, a, b, c, rfl, hlt⟩, fun x H2 hy => ?_⟩
      obtain ⟨s2, d, hd, rd⟩ := w3 x H2 hlt hy
      have ed : ds.drop i = d :: ds.drop (i + 1) := by
        rw [List.drop_eq_getElem_cons hlt]
        rw [List.getElem?_eq_getElem hlt] at hd
        rw [Option.some.inj hd]
      rw [ed] at k'
      unfold forR at k'
      cases et : ft d ρ' with
      | none => rw [et] at k'; exact k'.elim
      | some ρ1 =>
        rw [et] at k'
        refine qg x d ρ' ρ1 σ' own' H2 _ (R'.grow s2) rd et fun σ3 R3 _ => qb ρ1 σ3 own' H2 _ R3 ?_
        have F2 : Fra own H1 own' H2 := F'.trans (.same s2)
        have k2 := PSt.weak k' (.same s2)
        revert k2
        dsimp only
        generalize fb ρ1 = r
        intro k2
        cases r with
        | nx ρ2 => exact fun σ4 o4 H4 a b => ⟨ρ2, o4, a, F2.trans b, k2.weak b⟩
        | ct ρ2 => exact fun σ4 o4 H4 a b => ⟨ρ2, o4, a, F2.trans b, k2.weak b⟩
        | bk ρ2 => exact fun σ4 o4 H4 a b => k2 σ4 o4 H4 a b
        | rt d => exact k2
        | ex c ρ2 => exact k2
        | er => exact k2
        | rs d ρ2 => exact k2
    · refine .inl ⟨w2 (by omega), ?_⟩
      rw [List.drop_of_length_le (by omega)] at k'
      exact k' σ' own' H' R' .refl
theorem vs_while {c : Expr} {fc : Rho → M Bool} (n : Nat) (hp : PassesOwn (model X.prog X.w) X.A X.env X.xe) (hc : VT X W S0 H0 c fc) (hb : VSs X W S0 H0 rm body fb) : VS X W S0 H0 rm (.While c body [] pos) (sWhile n fc fb) := by
  obtain ⟨tc, pc, qc⟩ := hc.p
  obtain ⟨tb, pb, qb⟩ := hb.p
  refine ⟨_, ps_while hp pc pb, fun ρ σ own H D R k => ?_⟩
  refine ⟨fun m' σ' H' => ∃ ρ' own', Rel X.K S0 H0 ρ' σ' own' H' ∧ PSt X W S0 H0 rm own' H' D (whileN fc fb m' ρ'), ⟨n, ρ, own, R, k⟩, ?_⟩
  rintro m' σ' H' ⟨ρ', own', R', k'⟩
  cases m' with
  | zero => exact k'.elim
  | succ m' =>
    refine qc ρ' σ' own' H' _ R' ?_
    unfold whileN at k'
    cases ec : fc ρ' with
    | er => rw [ec] at k'; exact k'.elim
    | ex c => rw [ec] at k'; exact fun cv d H2 i s => k' cv d σ' own' H2 i (R'.grow s) (.same s)
    | ok b =>
      rw [ec] at k'
      intro H2 s2
      cases b with
      | false =>
        rw [if_neg Bool.false_ne_true]
        exact k' σ' own' H2 (R'.grow s2) (.same s2)
      | true =>
        rw [if_pos rfl]
        refine ⟨fun σ3 H3 => ∃ ρ3 own3, Rel X.K S0 H0 ρ3 σ3 own3 H3 ∧ PSt X W S0 H0 rm own3 H3 D (whileN fc fb m' ρ3), fun σ3 H3 h => ⟨m', Nat.lt_succ_self _, h⟩, qb ρ' σ' own' H2 _ (R'.grow s2) ?_⟩
        have k2 := PSt.weak k' (.same s2)
        revert k2
        dsimp only
        generalize fb ρ' = r
        intro k2
        cases r with
        | nx ρ2 => exact fun σ4 o4 H4 a b => ⟨ρ2, o4, a, k2.weak b⟩
        | ct ρ2 => exact fun σ4 o4 H4 a b => ⟨ρ2, o4, a, k2.weak b⟩
        | bk ρ2 => exact fun σ4 o4 H4 a b => k2 σ4 o4 H4 a b
        | rt d => exact k2
        | ex c ρ2 => exact k2
        | er => exact k2
        | rs d ρ2 => exact k2
/-! ### lists, tuples, ranges, texts as what is walked -/
def itemsG : D → M (List D)
  | .lst ds => .ok ds
  | .fz ds => .ok ds
  | .tup ds => .ok ds
  | .kt ds => .ok ds
  | _ => .er
theorem fra_rd {own own' : List Addr} {H H' : Hp} {a : Addr} {u : HO} (F : Fra own H own' H') (own0 : ∀ a, a ∈ own → H0 a = none ∧ Mt (H a)) (hn : a ∉ own) (h : Rd H a u) : Rd H' a u := by
  rcases h with h | ⟨o, h⟩
  · exact .inl (F.k _ _ h hn)
  · exact .inr ⟨o, F.k _ _ h hn⟩
/-- a list that is no one's own at a -/
theorem walks_list {ρ : Rho} {σ : Sg} {own : List Addr} {H : Hp} {a : Addr} {xs : List V} {ds : List D} (R : Rel X.K S0 H0 ρ σ own H) (hn : a ∉ own) (h : SqL X.K H a xs) (r : RpA X.K (SA S0 H0 own) H xs ds) : Walks X S0 H0 own H (Itl X.K a) ds := by
  intro own' H' F _ _ i
  have h' : SqL X.K H' a xs := h.imp (fra_rd F R.own0 hn) id
  have r' := r.keep (F.keepA (S0 := S0) (H0 := H0) R.own0)
  refine ⟨fun hi => ?_, fun hi => ⟨xs, h', by rw [r.length]; exact hi⟩, fun x H2 hi ⟨e, y⟩ => ?_⟩
  · obtain ⟨v, e, _⟩ := r.get (List.getElem?_eq_getElem hi)
    exact ⟨xs, v, h', e⟩
  · subst e
    obtain ⟨d, e1, e2⟩ := r'.getV (y xs h')
    exact ⟨Same.refl _, d, e1, e2⟩
theorem walks_listA {ρ : Rho} {σ : Sg} {own : List Addr} {H : Hp} {a : Addr} {xs : List V} {ds : List D} (R : Rel X.K S0 H0 ρ σ own H) (hk : ∀ own' H', Fra own H own' H' → SqL X.K H' a xs) (h : SqL X.K H a xs) (r : RpA X.K (SA S0 H0 own) H xs ds) : Walks X S0 H0 own H (Itl X.K a) ds := by
  intro own' H' F _ _ i
  have h' := hk own' H' F
  have r' := r.keep (F.keepA (S0 := S0) (H0 := H0) R.own0)
  refine ⟨fun hi => ?_, fun hi => ⟨xs, h', by rw [r.length]; exact hi⟩, fun x H2 hi ⟨e, y⟩ => ?_⟩
  · obtain ⟨v, e, _⟩ := r.get (List.getElem?_eq_getElem hi)
    exact ⟨xs, v, h', e⟩
  · subst e
    obtain ⟨d, e1, e2⟩ := r'.getV (y xs h')
    exact ⟨Same.refl _, d, e1, e2⟩
theorem walks_tupA {ρ : Rho} {σ : Sg} {own : List Addr} {H : Hp} {a : Addr} {xs : List V} {ds : List D} (R : Rel X.K S0 H0 ρ σ own H) (hk : ∀ own' H', Fra own H own' H' → SqT X.K H' a xs) (r : RpA X.K (SA S0 H0 own) H xs ds) : Walks X S0 H0 own H (Itt X.K a) ds := by
  intro own' H' F _ _ i
  have h' := hk own' H' F
  have r' := r.keep (F.keepA (S0 := S0) (H0 := H0) R.own0)
  refine ⟨fun hi => ?_, fun hi => ⟨xs, h', by rw [r.length]; exact hi⟩, fun x H2 hi ⟨e, y⟩ => ?_⟩
  · obtain ⟨v, e, _⟩ := r.get (List.getElem?_eq_getElem hi)
    exact ⟨xs, v, h', e⟩
  · subst e
    obtain ⟨d, e1, e2⟩ := r'.getV (y xs h')
    exact ⟨Same.refl _, d, e1, e2⟩
/-- over a list or a tuple -/
def iSeq (K : PySem.W.Frag) (tl : TE) : TI := fun σ H R => tl σ H fun x H1 => ∃ a, x = .ref a ∧ (((∃ xs, SqL K H1 a xs) ∧ R (Itl K a) H1) ∨ ((∃ xs, SqT K H1 a xs) ∧ R (Itt K a) H1))
theorem pi_seq {tg l : Expr} {tl : TE} (hl : PE X l tl) : PI X tg l (iSeq X.K tl) := by
  constructor
  intro pins s σ H R I h
  refine thn (hl.run pins s σ H _ I h) fun v s1 ⟨x, H1, I1, r1, a, e, q⟩ => ?_
  cases e
  cases r1
  have new : ∀ b, b ∈ [s1.heap.objs.size] → FpOk X pins H1 b := fun b hb => by
    rw [List.mem_singleton.mp hb]
    exact I1.fpOk (Nat.le_refl _) (I1.hok.fresh (Nat.le_refl _))
  have kept := fun o : Obj => I1.kept (h' := s1.heap.push o) (t' := s1.toks) fun b o e => Heap.get?_push_of_some _ e
  rcases q with ⟨⟨xs, hq⟩, q⟩ | ⟨⟨xs, hq⟩, q⟩
  · obtain ⟨its, rv, p, -⟩ := I1.list hq
    exact wpAny_pyIter_list p.isList ⟨_, [s1.heap.objs.size], _, _, H1, rfl, kept _, turn_list a _, ⟨_, Heap.get?_push_size _ rfl, rfl, rfl⟩, new, q⟩
  · obtain ⟨its, rv, p, -⟩ := I1.tuple hq
    exact wpAny_pyIter_tuple (show s1.heap.IsTuple a its.toArray from p) ⟨_, [s1.heap.objs.size], _, _, H1, rfl, kept _, turn_tuple a _, ⟨_, Heap.get?_push_size _ rfl, rfl, rfl⟩, new, q⟩
def eLL (f : Rho → M D) : Rho → M (List D) := fun ρ => M.bind (f ρ) itemsG
def eTT (f : Rho → M D) : Rho → M (List D) := eLL f
theorem vi_list (h : VX X W S0 H0 .E e fe) (hs : ∀ x, foldedSetIterable e X.env x = pure x := by intro _; rfl) : VI X W S0 H0 tg e (eLL fe) := by
  obtain ⟨te, p, q⟩ := h.p
  refine ⟨⟨_, pi_seq p, fun ρ σ own H Rk R k => q ρ σ own H _ R ?_⟩, hs⟩
  unfold eLL at k
  revert k
  cases fe ρ with
  | er => exact id
  | ex c => exact id
  | ok d =>
    intro k v H1 s1 r1
    have own0 := (R.grow s1).own0
    cases d with
    | lst ds =>
      cases r1 with
      | lst s h r => exact ⟨_, rfl, .inl ⟨⟨_, .inl (.inl h)⟩, k _ H1 s1 (walks_list (R.grow s1) s.1 (SqL.of h) r)⟩⟩
    | fz ds =>
      cases r1 with
      | fz h r =>
        refine ⟨_, rfl, .inl ⟨⟨_, h.sq⟩, k _ H1 s1 (walks_listA (R.grow s1) (fun own' H' F => ?_) h.sq r)⟩⟩
        rcases h with ⟨o, h⟩ | h
        · exact .inl (.inr ⟨o, F.k _ _ h fun hm => by
            have := (own0 _ hm).2
            rw [h] at this; exact this⟩)
        · exact .inr h
    | tup ds =>
      cases r1 with
      | tup h r =>
        exact ⟨_, rfl, .inr ⟨⟨_, SqT.of h⟩, k _ H1 s1 (walks_tupA (R.grow s1) (fun own' H' F => SqT.of (F.k _ _ h fun hm => by
          have := (own0 _ hm).2
          rw [h] at this; exact this)) r)⟩⟩
    | kt ds =>
      cases r1 with
      | kt h r => exact ⟨_, rfl, .inr ⟨⟨_, .inr h⟩, k _ H1 s1 (walks_tupA (R.grow s1) (fun own' H' F => .inr h) r)⟩⟩
    | _ => exact k.elim
theorem vi_tup (h : VX X W S0 H0 .E e fe) (hs : ∀ x, foldedSetIterable e X.env x = pure x := by intro _; rfl) : VI X W S0 H0 tg e (eTT fe) := vi_list h hs
/-- range(n), range(a, b) -/
def rngD (lo : Int) (n : Nat) : List D := (List.range n).map fun i => .int (lo + (i : Nat))
def eR1 (f : Rho → M (List D)) : Rho → M (List D) := fun ρ => M.bind (f ρ) fun d => match d with
  | [.int j] => if -(2 ^ 62) ≤ j ∧ j < 2 ^ 62 then .ok (rngD 0 j.toNat) else .er
  | _ => .er
theorem walks_rng {own : List Addr} {H : Hp} {lo : Int} {n : Nat} : Walks X S0 H0 own H (Itr lo n) (rngD lo n) := by
  intro own' H' F _ _ i
  have hl : (rngD lo n).length = n := by simp [rngD]
  rw [hl]
  refine ⟨id, id, fun x H2 hi ⟨e, y⟩ => ?_⟩
  subst e
  subst y
  exact ⟨Same.refl _, .int (lo + (i : Nat)), by simp [rngD, hi], .int _⟩
theorem vi_range1 {a : Expr} {fa : Rho → M (List D)} {p : Pos} (hm : X.mg "range" = none) (ha : VA X W S0 H0 .O [a] fa) (hg : Gl X "range" := by rfl) (hs : starEach [a] X.env = [(false, eval a X.env)] := by rfl) (hf : ∀ x, foldedSetIterable (.Call (.Name "range" p) [a] [] pos) X.env x = pure x := by intro _; rfl) :
    VI X W S0 H0 tg (.Call (.Name "range" p) [a] [] pos) (eR1 fa) := by
  obtain ⟨te, pa, q⟩ := ha.p
  refine ⟨⟨_, pi_range1 hg hm pa hs, fun ρ σ own H Rk R k => q ρ σ own H _ R ?_⟩, hf⟩
  unfold eR1 at k
  revert k
  cases fa ρ with
  | er => exact id
  | ex c => exact id
  | ok ds =>
    intro k vs H1 s1 r1
    rw [bind_ok] at k
    split at k
    · next j =>
      split at k
      · next hj =>
        obtain ⟨v, rfl, r2⟩ := pair1 r1
        rw [r2.isInt]
        exact ⟨j, rfl, hj.1, hj.2, k _ H1 s1 walks_rng⟩
      · exact k.elim
    · exact k.elim
/-- the signs of a text -/
def eSS (f : Rho → M D) : Rho → M (List D) := fun ρ => M.bind (f ρ) fun d => match d with | .str x => .ok (x.cps.toList.map fun c => .str ⟨#[c]⟩) | _ => .er
theorem vi_str (h : VX X W S0 H0 m e fe) (hs : ∀ x, foldedSetIterable e X.env x = pure x := by intro _; rfl) : VI X W S0 H0 tg e (eSS fe) := by
  obtain ⟨te, p, q⟩ := h.p
  refine ⟨⟨_, pi_str p, fun ρ σ own H Rk R k => q ρ σ own H _ R ?_⟩, hs⟩
  unfold eSS at k
  revert k
  cases fe ρ with
  | er => exact id
  | ex c => exact id
  | ok d =>
    intro k v H1 s1 r1
    cases d with
    | str x =>
      refine ⟨x, r1.isStr, k _ H1 s1 ?_⟩
      intro own' H' F _ _ i
      have hl : (x.cps.toList.map fun c => D.str ⟨#[c]⟩).length = x.cps.size := by simp
      rw [hl]
      refine ⟨id, id, fun v H2 hi ⟨e, c, ec, y⟩ => ?_⟩
      subst e
      subst y
      refine ⟨Same.refl _, .str ⟨#[c]⟩, ?_, .str _⟩
      rw [List.getElem?_map, Array.getElem?_toList, ec]
      rfl
    | _ => exact k.elim
end

/-! ### a def's contract, its call -/
section
variable {P : Program} {w : World} {K : PySem.W.Frag} {mg : Str → Option Value} {base : Heap}
def PF (mg : Str → Option Value) (K : PySem.W.Frag) (H : Hp) (Q : VK) (E : XK) : M D → Prop
  | .ok d => ∀ v H', Same H H' → Rp K (fun a => H a = none) H' v d → Q v H'
  | .ex c => ∀ cv dd H', IsCls mg c cv dd → Same H H' → E cv dd H'
  | .er => False
/-- the def gives g of its arguments' data, made by it -/
def spN (mg : Str → Option Value) (K : PySem.W.Frag) (g : List D → M D) : Sp := fun vs H Q E => ∃ ds, RpA K (fun _ => True) H vs ds ∧ PF mg K H Q E (g ds)
def resM : Res → M D
  | .rt d => .ok d
  | .nx _ => .ok .non
  | .ex c _ => .ex c
  | _ => .er
def runF (n N : Nat) (F : Rho → Res) (ds : List D) : M D := if ds.length = n then resM (F (ds.map .sh ++ List.replicate (N - n) .no)) else .er
theorem rel_start {S0 : Addr → Prop} {H : Hp} {vs : List V} {ds : List D} (r : RpA K S0 H vs ds) (k : Nat) : Rel K S0 H (ds.map .sh ++ List.replicate k .no) (vs.map some ++ List.replicate k none) [] H := by
  have hl : vs.length = ds.length := r.length
  have no : ∀ (i : Nat) (s : Sl), (ds.map Sl.sh ++ List.replicate k Sl.no)[i]? = some s → (∃ d, ds[i]? = some d ∧ s = .sh d) ∨ s = .no := fun i s e => by
    by_cases hi : i < (ds.map Sl.sh).length
    · rw [List.getElem?_append_left hi, List.getElem?_map] at e
      cases h : ds[i]? with
      | none => rw [h] at e; cases e
      | some d => rw [h] at e; cases e; exact .inl ⟨d, rfl, rfl⟩
    · rw [List.getElem?_append_right (by omega)] at e
      have := List.mem_of_getElem? e
      exact .inr (List.eq_of_mem_replicate this)
  refine ⟨fun i d e => ?_, fun i d e => ?_, fun i d e => ?_, fun i j d e a b q => ?_, fun i d a e1 _ x _ => ?_, fun a h => by simp at h, Same.refl H, by simp [hl]⟩
  · rcases no i _ e with ⟨d', h, z⟩ | z
    · cases z
      obtain ⟨v, h1, h2⟩ := r.get h
      have hi : i < vs.length := (List.getElem?_eq_some_iff.mp h1).1
      exact ⟨v, by rw [List.getElem?_append_left (by simpa using hi), List.getElem?_map, h1]; rfl, h2.keep (.wide fun a s => ⟨by simp, .inl s⟩)⟩
    · cases z
  · rcases no i _ e with ⟨d', h, z⟩ | z <;> cases z
  · rcases no i _ e with ⟨d', h, z⟩ | z <;> cases z
  · rcases no i _ a with ⟨d', h, z⟩ | z <;> cases z
  · rcases no i _ e1 with ⟨d', h, z⟩ | z <;> cases z
theorem fn_ok {x qual : Str} {st : Stmt} {f : Addr} {fd : FuncData} {N ps : List Str} {k : Nat} {F : Rho → Res} (Fn : Fun K x qual st f fd) (S : FnScope N ps (defScope st))
    (hb : ∀ (cdv : Value) (A : Around) (outer : List Env) (s : Shared) (H : Hp) (E : XK) (S0 : Addr → Prop), Room k (A.deeper (envOfC qual (defScope st) s.heap.objs.size f cdv)) →
      VSs (cxOf (L2.CX P w) P w K mg base N qual (defScope st) f cdv A outer s H E) (fun cls d _ H => E cls d H) S0 H .F (defBody st) F) :
    FnOk P w K mg base (L2.CX P w) (k + 1) f fd ps (spN mg K (runF ps.length N.length F)) := by
  refine Fn.okX S (fun vs H Q E h => ?_) (fun cdv A outer s H vs Q E hr h => ?_)
  · obtain ⟨ds, r, p⟩ := h
    unfold runF at p
    split at p
    · next hl => rw [r.length, hl]
    · exact p.elim
  · obtain ⟨ds, r, p⟩ := h
    obtain ⟨t, pt, q⟩ := (hb cdv A outer s H E (fun _ => True) hr).p
    refine ⟨t, pt, ?_⟩
    unfold runF at p
    split at p
    · next hl =>
      have hv : vs.length = ps.length := by rw [r.length, hl]
      have R := rel_start r (N.length - ps.length)
      have e : L2.start N vs = vs.map some ++ List.replicate (N.length - ps.length) none := by unfold L2.start; rw [hv]
      rw [e]
      refine q _ _ [] H _ R ?_
      have fin : ∀ (v : V) (own' : List Addr) (H' : Hp) (d : D), (∀ v H', Same H H' → Rp K (fun a => H a = none) H' v d → Q v H') → Rp K (SF H own') H' v d → Fra [] H own' H' → Q v H' := fun v own' H' d p a b => p v H' b.all (a.keep (.wide fun _ z => z.2))
      revert p
      generalize F (ds.map Sl.sh ++ List.replicate (N.length - ps.length) Sl.no) = r
      intro p
      cases r with
      | rt d => exact fun v own' H' a b => fin v own' H' d p a b
      | nx ρ' => exact fun σ' own' H' a b => p .non H' b.all .non
      | ex c ρ' => exact fun cv d σ' own' H' i a b => p cv d H' i b.all
      | bk ρ' => exact p.elim
      | ct ρ' => exact p.elim
      | er => exact p.elim
      | rs d ρ' => exact p.elim
    · exact p.elim
/-- a def that may be called by its name: it gives g -/
structure Cal (P : Program) (w : World) (K : PySem.W.Frag) (mg : Str → Option Value) (base : Heap) (k : Nat) (x : Str) (g : List D → M D) : Prop where
  p : ∃ (f : Addr) (fd : FuncData) (ps : List Str), FnOk P w K mg base (L2.CX P w) k f fd ps (spN mg K g) ∧ mg x = some (.ref f) ∧ PySem.W.keepIn K (.ref f) = true ∧ Binds K fd ps []
theorem Cal.mk' {k : Nat} {x qual : Str} {st : Stmt} {f : Addr} {fd : FuncData} {ps : List Str} {g : List D → M D} (F : FnOk P w K mg base (L2.CX P w) k f fd ps (spN mg K g)) (Fn : Fun K x qual st f fd) (hm : mg x = some (.ref f)) (hb : Binds K fd ps []) : Cal P w K mg base k x g := ⟨f, fd, ps, F, hm, Fn.kp, hb⟩
theorem Cal.to {k : Nat} {x : Str} {g g' : List D → M D} (c : Cal P w K mg base k x g) (h : ∀ ds, g ds = g' ds) : Cal P w K mg base k x g' := by
  rw [← funext h]
  exact c
/-- what a def gives, known where it is known -/
theorem Cal.imp {k : Nat} {x : Str} {g g' : List D → M D} (c : Cal P w K mg base k x g) (h : ∀ ds, g' ds = .er ∨ g ds = g' ds) : Cal P w K mg base k x g' := by
  obtain ⟨f, fd, ps, F, h1, h2, h3⟩ := c.p
  refine ⟨f, fd, ps, F.imp fun vs H Q E ⟨ds, r, p⟩ => ⟨ds, r, ?_⟩, h1, h2, h3⟩
  rcases h ds with e | e
  · rw [e] at p; exact p.elim
  · rw [e]; exact p
end
section
variable {X : Cx} {W : WX} {S0 : Addr → Prop} {H0 : Hp} {rm m : Md} {pos p : Pos} {e : Expr} {es : List Expr} {fa : Rho → M (List D)} {x : Str} {j k : Nat} {g : List D → M D}
theorem Rp.ofO {K : PySem.W.Frag} {own : List Addr} {Hb H : Hp} {v : V} {d : D} (r : RM K S0 H0 own m Hb H v d) : Rp K (fun _ => True) H v d := by
  rcases r.toO (Hc := Hb) with r | ⟨a, rfl, hm, r⟩
  · exact r.keep (.wide fun _ _ => trivial)
  · cases d with
    | lst ds => obtain ⟨xs, e, r⟩ := r; exact .lst trivial e (r.keep (.wide fun _ _ => trivial))
    | dct ds => obtain ⟨xs, e, r⟩ := r; exact .dct trivial e (r.keep (.wide fun _ _ => trivial))
    | dk ds => obtain ⟨xs, e, r⟩ := r; exact .dk trivial e (r.keep (.wide fun _ _ => trivial))
    | obj p c ns ds => exact r.rp
    | pls p ds => obtain ⟨e0, xs, e, r⟩ := r; exact .pls trivial e (r.keep (.wide fun _ _ => trivial))
    | _ => exact r.elim
theorem RpA.ofO {K : PySem.W.Frag} {own : List Addr} {Hb H : Hp} {vs : List V} {ds : List D} (r : Paired (RM K S0 H0 own m Hb H) vs ds) : RpA K (fun _ => True) H vs ds := by
  induction r with
  | nil => exact .nil
  | cons a _ ih => exact .cons (Rp.ofO a) ih
def eCall (g : List D → M D) (fa : Rho → M (List D)) : Rho → M D := fun ρ => M.bind (fa ρ) g
theorem vx_call (c : Cal X.prog X.w X.K X.mg X.base k x g) (tk : Takes X W) (hr : Room j X.A) (hk : k ≤ j) (ha : VA X W S0 H0 .O (e :: es) fa) (hg : Gl X x := by rfl) (hdb : (x == ("__debug__" : Str)) = false := by decide)
    (he : starEach (e :: es) X.env = (false, eval e X.env) :: starEach es X.env := by rfl) (hpl : (backTo pos (starEach es X.env)).any (·.1) = false := by rfl) : VX X W S0 H0 .N (.Call (.Name x p) (e :: es) [] pos) (eCall g fa) := by
  obtain ⟨f, fd, ps, F, h1, h2, h3⟩ := c.p
  obtain ⟨ta, pa, qa⟩ := ha.p
  refine ⟨_, pe_callS F (hr.mono hk) hg h1 h2 h3 (fun σ => passAt tk σ) pa hdb he hpl, fun ρ σ own H Q R k => qa ρ σ own H _ R ?_⟩
  unfold eCall at k
  revert k
  cases fa ρ with
  | er => exact id
  | ex c => exact id
  | ok ds =>
    intro k vs H1 s1 r1
    rw [bind_ok] at k
    refine ⟨ds, RpA.ofO r1, ?_⟩
    revert k
    cases g ds with
    | er => exact id
    | ex c => exact fun k cv dd H' i s => k cv dd H' i (s1.trans s)
    | ok d => exact fun k v H' s r => k v H' (s1.trans s) (r.keep (.wide fun a ha => ⟨s1.free ha, sf_new (R.grow s1) ha⟩))
end
end VL
set_option Elab.async false
set_option linter.all false
set_option maxRecDepth 100000
/-! VL: what changes one's own lists and dicts; comprehensions. -/
namespace VL
open PySem L2 PySem.Spec PyProof.Rows

/-! ### one's own, changed -/
section
variable {X : Cx} {W : WX} {S0 : Addr → Prop} {H0 : Hp} {rm m mi : Md} {pos apos cpos pos' : Pos} {e ei : Expr} {es : List Expr} {fe fi : Rho → M D} {fa : Rho → M (List D)}
theorem own_lst {K : PySem.W.Frag} {ρ : Rho} {σ : Sg} {own : List Addr} {H : Hp} {i : Nat} {ds : List D} (R : Rel K S0 H0 ρ σ own H) (e : ρ[i]? = some (.ow (.lst ds))) : ∃ a xs, σ[i]? = some (some (.ref a)) ∧ a ∈ own ∧ H a = some (.lst xs) ∧ RpA K (SF H0 own) H xs ds := by
  obtain ⟨a, h1, h2, xs, h3, h4⟩ := R.ow i _ e
  exact ⟨a, xs, h1, h2, h3, h4⟩
theorem own_dct {K : PySem.W.Frag} {ρ : Rho} {σ : Sg} {own : List Addr} {H : Hp} {i : Nat} {ds : List (List Key × D)} (R : Rel K S0 H0 ρ σ own H) (e : ρ[i]? = some (.ow (.dct ds))) : ∃ a xs, σ[i]? = some (some (.ref a)) ∧ a ∈ own ∧ H a = some (.dT xs) ∧ RpT K (SF H0 own) H xs ds := by
  obtain ⟨a, h1, h2, xs, h3, h4⟩ := R.ow i _ e
  exact ⟨a, xs, h1, h2, h3, h4⟩
/-- over a change of one's own at a -/
theorem keep_upd {K : PySem.W.Frag} {ρ : Rho} {σ : Sg} {own : List Addr} {H : Hp} {a : Addr} {o : HO} (R : Rel K S0 H0 ρ σ own H) (ha : a ∈ own) : Keep (SF H0 own) (SF H0 own) H (upd H a o) where
  l := fun b u s e => ⟨s, by rw [upd_ne (fun z => s.1 (by rw [z]; exact ha))]; exact e⟩
  t := fun b u e => by
    have h : b ≠ a := fun z => by
      have := (R.own0 a ha).2
      rw [← z, e] at this; exact this
    rw [upd_ne h]; exact e
  z := fun b o u e => by
    have h : b ≠ a := fun z => by
      have := (R.own0 a ha).2
      rw [← z, e] at this; exact this
    rw [upd_ne h]; exact e
/-- a method of a list that changes it: what it makes of the list and the arguments -/
def MutG (X : Cx) (r : V → List V → Hp → VK → Prop) (eff : List D → List D → M (List D)) : Prop :=
  ∀ (S : Addr → Prop) (H : Hp) (a : Addr) (xs vs : List V) (ds as ds' : List D) (Q : VK), H a = some (.lst xs) → RpA X.K S H xs ds → RpA X.K S H vs as → eff ds as = .ok ds' → (∀ v xs', RpA X.K S H xs' ds' → Q v (upd H a (.lst xs'))) → r (.ref a) vs H Q
def sBm (i : Nat) (eff : List D → List D → M (List D)) (fa : Rho → M (List D)) : Rho → Res := fun ρ => match ρ[i]? with
  | some (.ow (.lst ds)) => (match fa ρ with
    | .ok as => (match eff ds as with | .ok ds' => .nx (ρ.set i (.ow (.lst ds'))) | _ => .er)
    | .ex c => .ex c ρ
    | .er => .er)
  | _ => .er
theorem vs_bm {r : V → List V → Hp → VK → Prop} {eff : List D → List D → M (List D)} {name : Str} {idn : String} (i : Nat) {x : Str} {px : Pos} (slot : Slot "list" name idn) (hty : typeOf (.builtin idn) = pure (.type "method_descriptor")) (hm : MtR X idn r) (hg : MutG X r eff) (h : VA X W S0 H0 .F (e :: es) fa) (hN : X.N[i]? = some x := by rfl)
    (hv : Vis X.env.scope x := by first | exact Or.inl rfl | exact Or.inr (Or.inl rfl) | exact Or.inr (Or.inr rfl)) (hd : (x == ("__debug__" : Str)) = false := by decide) (hcd : (x == ("__classdict__" : Str)) = false := by decide)
    (hbase : attributeBase (.Name x px) name X.env (eval (.Name x px) X.env) = eval (.Name x px) X.env := by rfl)
    (hfew : ((backTo cpos (starEach (e :: es) X.env)).all (fun x => !x.1) && (backToKw cpos (keywordEach [] X.env)).all (fun x => x.1.isSome)
      && decide ((e :: es).length + ([] : List Keyword).length + (if ([] : List Keyword).isEmpty then 0 else 1) < 30)) = true := by rfl)
    (hline : (apos.endLine == cpos.line) = true := by rfl) (hs : starEach (e :: es) X.env = (false, eval e X.env) :: starEach es X.env := by rfl) (hplain : (backTo cpos (starEach es X.env)).any (·.1) = false := by rfl)
    (hsw : swapsWith (.Call (.Attribute (.Name x px) name apos) (e :: es) [] cpos) none pos.line X.env = pure false := by rfl) :
    VS X W S0 H0 rm (.Expr (.Call (.Attribute (.Name x px) name apos) (e :: es) [] cpos) pos) (sBm i eff fa) := by
  obtain ⟨te, p, q⟩ := h.p
  refine ⟨_, ps_expr (pe_bm PySem.F.plainAttrs_list slot hty hm (pe_var hN hv hd hcd) p hbase hfew hline hs hplain) hsw, fun ρ σ own H D R k => ?_⟩
  unfold sBm at k
  split at k
  · next ds es =>
    obtain ⟨a, xs, h1, h2, h3, h4⟩ := own_lst R es
    refine ⟨.ref a, h1, .inl ⟨rfl, xs, SqL.of h3⟩, q ρ σ own H _ R ?_⟩
    revert k
    cases fa ρ with
    | er => exact id
    | ex c => exact fun k cv d H' i s => k cv d σ own H' i (R.grow s) (.same s)
    | ok as =>
      intro k vs H' s r
      dsimp only at k
      split at k
      · next ds' ee =>
        have R' := R.grow s
        refine hg (SF H0 own) H' a xs vs ds as ds' _ (s a _ h3) (h4.keep (.same s)) (RpA.ofP r) ee fun v xs' r' => ?_
        obtain ⟨R2, F2⟩ := R'.chg (d' := .lst ds') (o := .lst xs') es h1 trivial ⟨_, upd_same, r'.keep (keep_upd R' h2)⟩
        exact k σ own _ R2 ((Fra.same s).trans F2)
      · exact k.elim
  · exact k.elim
theorem vs_bm0 {r : V → List V → Hp → VK → Prop} {eff : List D → List D → M (List D)} {name : Str} {idn : String} (i : Nat) {x : Str} {px : Pos} (slot : Slot "list" name idn) (hty : typeOf (.builtin idn) = pure (.type "method_descriptor")) (hm : MtR X idn r) (hg : MutG X r eff) (hN : X.N[i]? = some x := by rfl)
    (hv : Vis X.env.scope x := by first | exact Or.inl rfl | exact Or.inr (Or.inl rfl) | exact Or.inr (Or.inr rfl)) (hd : (x == ("__debug__" : Str)) = false := by decide) (hcd : (x == ("__classdict__" : Str)) = false := by decide)
    (hbase : attributeBase (.Name x px) name X.env (eval (.Name x px) X.env) = eval (.Name x px) X.env := by rfl)
    (hline : (apos.endLine == cpos.line) = true := by rfl)
    (hsw : swapsWith (.Call (.Attribute (.Name x px) name apos) [] [] cpos) none pos.line X.env = pure false := by rfl) :
    VS X W S0 H0 rm (.Expr (.Call (.Attribute (.Name x px) name apos) [] [] cpos) pos) (sBm i eff aNil) := by
  refine ⟨_, ps_expr (pe_bm0 PySem.F.plainAttrs_list slot hty hm (pe_var hN hv hd hcd) hbase hline) hsw, fun ρ σ own H D R k => ?_⟩
  unfold sBm at k
  split at k
  · next ds es =>
    obtain ⟨a, xs, h1, h2, h3, h4⟩ := own_lst R es
    refine ⟨.ref a, h1, .inl ⟨rfl, xs, SqL.of h3⟩, ?_⟩
    unfold aNil at k
    dsimp only at k
    split at k
    · next ds' ee =>
      refine hg (SF H0 own) H a xs [] ds [] ds' _ h3 h4 .nil ee fun v xs' r' => ?_
      obtain ⟨R2, F2⟩ := R.chg (d' := .lst ds') (o := .lst xs') es h1 trivial ⟨_, upd_same, r'.keep (keep_upd R h2)⟩
      exact k σ own _ R2 F2
    · exact k.elim
  · exact k.elim
def appE : List D → List D → M (List D) := fun ds as => match as with
  | [d] => if ds.length < sizeLine then .ok (ds ++ [d]) else .er
  | _ => .er
theorem mg_app : MutG X rAppend appE := by
  intro S H a xs vs ds as ds' Q h r r2 e k
  unfold appE at e
  split at e
  · split at e
    · next hl =>
      cases e
      cases r2 with
      | cons r3 r4 =>
        cases r4
        exact ⟨a, xs, _, rfl, rfl, h, by rw [r.length]; exact hl, k _ _ (r.append (.cons r3 .nil))⟩
    · cases e
  · cases e
theorem RpA.reverse {K : PySem.W.Frag} {S : Addr → Prop} {H : Hp} : ∀ {vs : List V} {ds : List D}, RpA K S H vs ds → RpA K S H vs.reverse ds.reverse
  | _, _, .nil => .nil
  | _, _, .cons r t => by
    rw [List.reverse_cons, List.reverse_cons]
    exact t.reverse.append (.cons r .nil)

/-- d[k] = v, d one's own dict with tuple keys -/
def putT (kvs : List (List Key × D)) (k : List Key) (v : D) : List (List Key × D) :=
  if (kvs.any fun kv => decide (kv.1 = k)) = true then kvs.map (fun kv => if kv.1 = k then (kv.1, v) else kv) else kvs ++ [(k, v)]
theorem RpT.any {K : PySem.W.Frag} {S : Addr → Prop} {H : Hp} (k : List Key) : ∀ {vs : List (List Key × V)} {ds : List (List Key × D)}, RpT K S H vs ds → (vs.any fun kv => decide (kv.1 = k)) = ds.any fun kv => decide (kv.1 = k)
  | _, _, .nil => rfl
  | _, _, .cons _ r => by simp only [List.any_cons]; rw [RpT.any k r]
theorem RpT.repl {K : PySem.W.Frag} {S : Addr → Prop} {H : Hp} {v : V} {d : D} (k : List Key) (rv : Rp K S H v d) : ∀ {vs : List (List Key × V)} {ds : List (List Key × D)}, RpT K S H vs ds → RpT K S H (vs.map fun kv => if kv.1 = k then (kv.1, v) else kv) (ds.map fun kv => if kv.1 = k then (kv.1, d) else kv)
  | _, _, .nil => .nil
  | (k1, v1) :: _, (_, d1) :: _, .cons h r => by
    simp only [List.map_cons]
    by_cases e : k1 = k
    · rw [if_pos e, if_pos e]
      exact .cons rv (RpT.repl k rv r)
    · rw [if_neg e, if_neg e]
      exact .cons h (RpT.repl k rv r)
theorem RpT.snoc {K : PySem.W.Frag} {S : Addr → Prop} {H : Hp} {v : V} {d : D} (k : List Key) (rv : Rp K S H v d) : ∀ {vs : List (List Key × V)} {ds : List (List Key × D)}, RpT K S H vs ds → RpT K S H (vs ++ [(k, v)]) (ds ++ [(k, d)])
  | _, _, .nil => .cons rv .nil
  | _, _, .cons h r => .cons h (RpT.snoc k rv r)
theorem RpT.put {K : PySem.W.Frag} {S : Addr → Prop} {H : Hp} {v : V} {d : D} {vs : List (List Key × V)} {ds : List (List Key × D)} (k : List Key) (rv : Rp K S H v d) (r : RpT K S H vs ds) : RpT K S H (putK vs k v) (putT ds k d) := by
  unfold putK putT
  rw [r.any k]
  split
  · exact r.repl k rv
  · exact r.snoc k rv
theorem RpT.length {K : PySem.W.Frag} {S : Addr → Prop} {H : Hp} : ∀ {vs : List (List Key × V)} {ds : List (List Key × D)}, RpT K S H vs ds → vs.length = ds.length
  | _, _, .nil => rfl
  | _, _, .cons _ r => congrArg (· + 1) (RpT.length r)
def sPut (i : Nat) (fk fv : Rho → M D) : Rho → Res := fun ρ => match ρ[i]? with
  | some (.ow (.dct kvs)) => ofM ρ (fun v => ofM ρ (fun k => match k with
    | .tup ks => (match keyOf ks with
      | some ks => if kvs.length < sizeLine then .nx (ρ.set i (.ow (.dct (putT kvs ks v)))) else .er
      | none => .er)
    | _ => .er) (fk ρ)) (fv ρ)
  | _ => .er
theorem vs_put (i : Nat) {x : Str} {px : Pos} (hu : X.A.units + 1 < cLine) (hk : VX X W S0 H0 mi ei fi) (hv : VX X W S0 H0 .F e fe) (hN : X.N[i]? = some x := by rfl)
    (hvis : Vis X.env.scope x := by first | exact Or.inl rfl | exact Or.inr (Or.inl rfl) | exact Or.inr (Or.inr rfl)) (hd : (x == ("__debug__" : Str)) = false := by decide) (hcd : (x == ("__classdict__" : Str)) = false := by decide)
    (hs : swapsWith e (some (.Subscript (.Name x px) ei pos')) pos.line X.env = pure false := by rfl) : VS X W S0 H0 rm (.Assign [.Subscript (.Name x px) ei pos'] e pos) (sPut i fi fe) := by
  obtain ⟨tv, pv, qv⟩ := hv.p
  obtain ⟨tk, pk, qk⟩ := hk.p
  refine ⟨_, ps_dput hu (pe_var hN hvis hd hcd) pk pv hs, fun ρ σ own H D R k => ?_⟩
  unfold sPut at k
  split at k
  · next kvs es =>
    obtain ⟨a, xs, h1, h2, h3, h4⟩ := own_dct R es
    refine qv ρ σ own H _ R ?_
    revert k
    cases fe ρ with
    | er => exact id
    | ex c => exact fun k cv d H' i s => k cv d σ own H' i (R.grow s) (.same s)
    | ok d =>
      intro k v H1 s1 r1
      refine ⟨.ref a, h1, qk ρ σ own H1 _ (R.grow s1) ?_⟩
      rw [ofM_ok] at k
      revert k
      cases fi ρ with
      | er => exact id
      | ex c => exact fun k cv d H' i s => k cv d σ own H' i ((R.grow s1).grow s) (.same (s1.trans s))
      | ok kd =>
        intro k y H2 s2 r2
        cases kd with
        | tup ks0 =>
          rw [ofM_ok] at k
          dsimp only at k
          split at k
          · next ks ek =>
            split at k
            · next hl =>
              obtain ⟨b, ys, rfl, h5, h6⟩ := r2.isTup
              have s12 := s1.trans s2
              have R2 := R.grow s12
              have h4' : RpT X.K (SF H0 own) H2 xs kvs := h4.keep (.same s12)
              have r1' : Rp X.K (SF H0 own) H2 v d := Rp.keep (.same s2) r1
              refine ⟨a, _, rfl, .inr ⟨xs, ks, b, s12 a _ h3, rfl, by rw [← h6.keys ek]; exact h5, by rw [h4'.length]; exact hl, rfl⟩, ?_⟩
              obtain ⟨R3, F3⟩ := R2.chg (d' := .dct (putT kvs ks d)) (o := .dT (putK xs ks v)) es h1 trivial ⟨_, upd_same, (h4'.put ks r1').keep (keep_upd R2 h2)⟩
              exact k σ own _ R3 ((Fra.same s12).trans F3)
            · exact k.elim
          · exact k.elim
        | _ => exact k.elim
  · exact k.elim
/-- {} -/
theorem vx_dnewT : VX X W S0 H0 .N (.Dict [] [] pos) (eC (.dct [])) := ⟨_, pe_dnewT, fun ρ σ own H Q R k p hp => k _ _ (same_upd hp) (Rp.dct ⟨hp, sf_new R hp⟩ upd_same .nil)⟩
end

/-! ### comprehensions -/
section
variable {X : Cx} {W : WX} {S0 : Addr → Prop} {H0 : Hp} {m : Md} {pos : Pos} {elt tg iter : Expr} {ifs : List Expr} {scope : Scope} {own : List (Str × Nat)} {fi : Rho → M (List D)} {ft : D → Rho → Option Rho} {fc : Rho → M Bool} {fe : Rho → M D}
structure VTs (X : Cx) (W : WX) (S0 : Addr → Prop) (H0 : Hp) (es : List Expr) (f : Rho → M Bool) : Prop where
  p : ∃ te, PTs X es te ∧ ∀ ρ σ own H Q, Rel X.K S0 H0 ρ σ own H → PXT X W H σ Q (f ρ) → te σ H Q
def cYes : Rho → M Bool := fun _ => .ok true
theorem vts_nil : VTs X W S0 H0 [] cYes := ⟨_, pts_nil, fun ρ σ own H Q R k => k H (Same.refl H)⟩
theorem vts_one {c : Expr} (h : VT X W S0 H0 c fc) : VTs X W S0 H0 [c] fc := by
  obtain ⟨te, p, q⟩ := h.p
  exact ⟨_, pts_one p, q⟩
def compL (tg : D → Rho → Option Rho) (c : Rho → M Bool) (f : Rho → M D) (ρ : Rho) : List D → M (List D)
  | [] => .ok []
  | d :: ds => match tg d ρ with
    | none => .er
    | some ρ1 => match c ρ1 with
      | .ok true => (match f ρ1 with
        | .ok y => M.bind (compL tg c f ρ ds) fun ys => .ok (y :: ys)
        | _ => .er)
      | .ok false => compL tg c f ρ ds
      | _ => .er
def eComp (ks : List Nat) (fi : Rho → M (List D)) (tg : D → Rho → Option Rho) (c : Rho → M Bool) (f : Rho → M D) : Rho → M D := fun ρ => M.bind (fi ρ) fun ds =>
  if ds.length ≤ sizeLine then M.bind (compL tg c f (wipeR ks ρ) ds) fun ys => .ok (.lst ys) else .er
theorem Rel.blk {K : PySem.W.Frag} {ρ : Rho} {σ : Sg} {ow : List Addr} {H : Hp} (R : Rel K S0 H0 ρ σ ow H) : ∀ ks : List Nat, Rel K S0 H0 (wipeR ks ρ) (L2.wipe σ ks) ow H
  | [] => R
  | k :: ks => by
    have R' := Rel.blk R ks
    show Rel K S0 H0 ((wipeR ks ρ).set k .no) ((L2.wipe σ ks).set k none) ow H
    have g : ∀ (i : Nat) (s : Sl), ((wipeR ks ρ).set k .no)[i]? = some s → s = .no ∨ (i ≠ k ∧ (wipeR ks ρ)[i]? = some s) := fun i s h => by
      rcases get_set h with ⟨_, z, _⟩ | ⟨z, h⟩
      · exact .inl z
      · exact .inr ⟨z, h⟩
    refine ⟨fun i d e => ?_, fun i d e => ?_, fun i d e => ?_, fun i j d e a b q => ?_, fun i d a e1 e2 x hx => ?_, R'.own0, R'.same, by simp [R'.len]⟩
    · rcases g i _ e with z | ⟨z, e⟩
      · cases z
      · rw [List.getElem?_set_ne (Ne.symm z)]; exact R'.sh i d e
    · rcases g i _ e with z | ⟨z, e⟩
      · cases z
      · rw [List.getElem?_set_ne (Ne.symm z)]; exact R'.fr i d e
    · rcases g i _ e with z | ⟨z, e⟩
      · cases z
      · rw [List.getElem?_set_ne (Ne.symm z)]; exact R'.ow i d e
    · rcases g i _ a with z | ⟨z, a⟩
      · cases z
      · rcases g j _ b with y | ⟨y, b⟩
        · cases y
        · rw [List.getElem?_set_ne (Ne.symm z), List.getElem?_set_ne (Ne.symm y)] at q
          exact R'.dis i j d e a b q
    · rcases g i _ e1 with z | ⟨z, e1⟩
      · cases z
      · rw [List.getElem?_set_ne (Ne.symm z)] at e2
        obtain ⟨h1, h2⟩ := R'.sub i d a e1 e2 x hx
        refine ⟨h1, fun j e b g1 g2 => ?_⟩
        rcases g j _ g1 with y | ⟨y, g1⟩
        · cases y
        · rw [List.getElem?_set_ne (Ne.symm y)] at g2
          exact h2 j e b g1 g2
theorem wipe_get : ∀ (ks : List Nat) (σ : Sg) (j : Nat), (L2.wipe σ ks)[j]? = if j ∈ ks ∧ j < σ.length then some none else σ[j]?
  | [], σ, j => by simp [L2.wipe]
  | k :: ks, σ, j => by
    show ((L2.wipe σ ks).set k none)[j]? = _
    by_cases e : k = j
    · subst e
      by_cases hl : k < σ.length
      · rw [List.getElem?_set_self (by rw [wipe_length]; exact hl), if_pos ⟨List.mem_cons_self, hl⟩]
      · rw [List.getElem?_eq_none (by rw [List.length_set, wipe_length]; omega), if_neg (fun z => hl z.2), List.getElem?_eq_none (by omega)]
    · rw [List.getElem?_set_ne e, wipe_get ks σ j]
      have : (j ∈ k :: ks) ↔ j ∈ ks := by simp [Ne.symm e]
      simp only [this]
theorem wipe_only {k1 ks : List Nat} {σ σ2 : Sg} (o : OnlyS k1 (L2.wipe σ ks) σ2) (h : ∀ k ∈ k1, k ∈ ks) : L2.wipe σ2 ks = L2.wipe σ ks := by
  apply List.ext_getElem?
  intro j
  have hl : σ2.length = σ.length := by rw [o.1, wipe_length]
  rw [wipe_get, wipe_get, hl]
  by_cases hj : j ∈ ks ∧ j < σ.length
  · rw [if_pos hj, if_pos hj]
  · rw [if_neg hj, if_neg hj]
    by_cases hm : j ∈ ks
    · have : ¬ j < σ.length := fun z => hj ⟨hm, z⟩
      rw [List.getElem?_eq_none (by omega), List.getElem?_eq_none (by omega)]
    · rw [o.2 j (fun z => hm (h j z)), wipe_get, if_neg hj]
end
/-! ### one reading for all blocks -/
abbrev Bi := Shared × Hp × Addr × List (Str × Addr) × List Addr
abbrev blkOf (X : Cx) (scope : Scope) (i : Bi) : Cx := X.blk i.1 i.2.1 scope (compEnvC scope i.2.2.2.1 i.2.2.1 X.env) i.2.2.2.2
abbrev W0 : WX := fun _ _ _ _ => False
section
variable {X : Cx} {W : WX} {S0 : Addr → Prop} {H0 : Hp} {m : Md} {pos : Pos} {elt tg iter : Expr} {ifs : List Expr} {scope : Scope} {own : List (Str × Nat)} {fi : Rho → M (List D)} {ft : D → Rho → Option Rho} {fc : Rho → M Bool} {fe : Rho → M D} {k1 : List Nat}
theorem vx_all (h : ∀ i : Bi, VX (blkOf X scope i) W0 S0 H0 m elt fe) : ∃ te, (∀ i : Bi, PE (blkOf X scope i) elt te) ∧ ∀ ρ σ own H Q, Rel X.K S0 H0 ρ σ own H → PX X W0 S0 H0 own m H σ Q (fe ρ) → te σ H Q := by
  refine ⟨fun σ H Q => ∀ i : Bi, (Classical.choose (h i).p) σ H Q, fun i => ⟨fun pins s σ H Q I q => (Classical.choose_spec (h i).p).1.run pins s σ H Q I (q i)⟩, fun ρ σ own H Q R k i => (Classical.choose_spec (h i).p).2 ρ σ own H Q R ?_⟩
  revert k
  cases fe ρ with
  | er => exact id
  | ex c => exact id
  | ok d => exact id
theorem vts_all (h : ∀ i : Bi, VTs (blkOf X scope i) W0 S0 H0 ifs fc) : ∃ te, (∀ i : Bi, PTs (blkOf X scope i) ifs te) ∧ ∀ ρ σ own H Q, Rel X.K S0 H0 ρ σ own H → PXT X W0 H σ Q (fc ρ) → te σ H Q := by
  refine ⟨fun σ H Q => ∀ i : Bi, (Classical.choose (h i).p) σ H Q, fun i => ⟨fun pins s σ H Q I q => (Classical.choose_spec (h i).p).1.run pins s σ H Q I (q i)⟩, fun ρ σ own H Q R k i => (Classical.choose_spec (h i).p).2 ρ σ own H Q R ?_⟩
  revert k
  cases fc ρ with
  | er => exact id
  | ex c => exact id
  | ok d => exact id
theorem vg_all (h : ∀ i : Bi, VG (blkOf X scope i) S0 H0 k1 tg ft) : ∃ g, (∀ i : Bi, PG (blkOf X scope i) tg g) ∧ ∀ v d ρ ρ' σ own H Q, Rel X.K S0 H0 ρ σ own H → Rp X.K (SA S0 H0 own) H v d → ft d ρ = some ρ' → (∀ σ', Rel X.K S0 H0 ρ' σ' own H → OnlyS k1 σ σ' → Q σ' H) → g v σ H Q :=
  ⟨fun v σ H Q => ∀ i : Bi, (Classical.choose (h i).p) v σ H Q, fun i => ⟨fun pins s σ H v u Q I r q => (Classical.choose_spec (h i).p).1.run pins s σ H v u Q I r (q i)⟩, fun v d ρ ρ' σ own H Q R r e k i => (Classical.choose_spec (h i).p).2 v d ρ ρ' σ own H Q R r e k⟩
/-- a further address of one's own, in no slot -/
theorem Rel.plus {K : PySem.W.Frag} {ρ : Rho} {σ : Sg} {ow : List Addr} {Hb H : Hp} {a : Addr} (R : Rel K S0 H0 ρ σ ow Hb) (hs : Same Hb H) (hb : Hb a = none) (hm : Mt (H a)) : Rel K S0 H0 ρ σ (a :: ow) H := by
  have f : Fra ow Hb (a :: ow) H := ⟨fun b o e _ => hs b o e, fun b hm => (List.mem_cons.mp hm).elim (fun z => .inr (by rw [z]; exact hb)) .inl⟩
  refine ⟨fun j e q => ?_, fun j e q => ?_, fun j e q => ?_, R.dis, fun i d b e1 e2 x hx => let ⟨h1, h2⟩ := (R.grow hs).sub i d b e1 e2 x hx; ⟨List.mem_cons_of_mem _ h1, h2⟩, fun b hm' => ?_, R.same.trans hs, R.len⟩
  · obtain ⟨v, h1, h2⟩ := R.sh j e q
    exact ⟨v, h1, h2.keep (f.keepA R.own0)⟩
  · obtain ⟨v, h1, h2⟩ := R.fr j e q
    exact ⟨v, h1, h2.keep (f.keepF R.own0)⟩
  · obtain ⟨b, h1, h2, h3⟩ := R.ow j e q
    exact ⟨b, h1, List.mem_cons_of_mem _ h2, h3.keep (f.keepF R.own0) fun _ _ o q => hs _ o q⟩
  · rcases List.mem_cons.mp hm' with rfl | hm'
    · exact ⟨R.same.free hb, hm⟩
    · refine ⟨(R.own0 b hm').1, ?_⟩
      obtain ⟨u, e⟩ := mt_some (R.own0 b hm').2
      have m := (R.own0 b hm').2
      rw [hs b u e, ← e]
      exact m
def SM (S0 : Addr → Prop) (H0 : Hp) (Hb : Hp) (own : List Addr) : Md → Addr → Prop
  | .O => fun _ => False
  | .E => SA S0 H0 own
  | .F => SF H0 own
  | .N => SN Hb H0 own
theorem RM.sm {K : PySem.W.Frag} {ow : List Addr} {Hb H : Hp} {v : V} {d : D} (hm : m ≠ .O) : RM K S0 H0 ow m Hb H v d ↔ Rp K (SM S0 H0 Hb ow m) H v d := by
  cases m with
  | O => exact absurd rfl hm
  | _ => exact Iff.rfl
theorem SM.less {Hb Hc : Hp} {ow : List Addr} {a b : Addr} (hm : m ≠ .O) (h : SM S0 H0 Hb (b :: ow) m a) (hs : Same Hc Hb) : SM S0 H0 Hc ow m a := by
  cases m with
  | O => exact absurd rfl hm
  | E => exact ⟨fun z => h.1 (List.mem_cons_of_mem _ z), h.2⟩
  | F => exact ⟨fun z => h.1 (List.mem_cons_of_mem _ z), h.2⟩
  | N => exact ⟨hs.free h.1, fun z => h.2.1 (List.mem_cons_of_mem _ z), h.2.2⟩
theorem SM.ne {Hb : Hp} {ow : List Addr} {a b : Addr} (hm : m ≠ .O) (h : SM S0 H0 Hb (b :: ow) m a) : a ≠ b := fun z => by
  have hb : a ∈ b :: ow := by rw [z]; exact List.mem_cons_self
  cases m with
  | O => exact hm rfl
  | E => exact h.1 hb
  | F => exact h.1 hb
  | N => exact h.2.1 hb
theorem lc_run {te : TE} {tt : TT} {g : TG} {wi : TI} {ks : List Nat} (hm : m ≠ .O) (hk : ∀ k ∈ k1, k ∈ ks)
    (qi : ∀ ρ σ own H R, Rel X.K S0 H0 ρ σ own H → PXI X W S0 H0 own H σ R (fi ρ) → wi σ H R)
    (qg : ∀ v d ρ ρ' σ own H Q, Rel X.K S0 H0 ρ σ own H → Rp X.K (SA S0 H0 own) H v d → ft d ρ = some ρ' → (∀ σ', Rel X.K S0 H0 ρ' σ' own H → OnlyS k1 σ σ' → Q σ' H) → g v σ H Q)
    (qt : ∀ ρ σ own H Q, Rel X.K S0 H0 ρ σ own H → PXT X W0 H σ Q (fc ρ) → tt σ H Q)
    (qe : ∀ ρ σ own H Q, Rel X.K S0 H0 ρ σ own H → PX X W0 S0 H0 own m H σ Q (fe ρ) → te σ H Q) :
    ∀ ρ σ own H Q, Rel X.K S0 H0 ρ σ own H → PX X W S0 H0 own m H σ Q (eComp ks fi ft fc fe ρ) → tLc wi g tt te ks σ H Q := by
  intro ρ σ ow H Q R k
  refine qi ρ σ ow H _ R ?_
  unfold eComp at k
  revert k
  cases fi ρ with
  | er => exact id
  | ex c => exact id
  | ok ds =>
    intro k J H1 s1 wk L hL
    rw [bind_ok] at k
    split at k
    · next hlen =>
      cases ec : compL ft fc fe (wipeR ks ρ) ds with
      | er => rw [ec] at k; exact k.elim
      | ex c =>
        exact absurd ec (fun z => by
          have nx : ∀ (ds : List D) (c : Xc), compL ft fc fe (wipeR ks ρ) ds ≠ .ex c := by
            intro ds
            induction ds with
            | nil => intro c h; cases h
            | cons d ds ih =>
              intro c h
              unfold compL at h
              split at h
              · cases h
              · split at h
                · split at h
                  · cases e : compL ft fc fe (wipeR ks ρ) ds with
                    | ok zs => rw [e] at h; cases h
                    | ex c' => exact ih c' e
                    | er => rw [e] at h; cases h
                  · cases h
                · exact ih c h
                · cases h
          exact nx ds c z)
      | ok ys =>
        rw [ec, bind_ok] at k
        have R1 := R.grow s1
        have B1 : Rel X.K S0 H0 (wipeR ks ρ) (L2.wipe σ ks) ow H1 := R1.blk ks
        have nL : L ∉ ow := own_new R1 hL
        refine ⟨fun i m' H' => ∃ (vs : List V) (acc rest : List D), H' L = some (.lst vs) ∧ (∀ a o, H1 a = some o → H' a = some o) ∧ RpA X.K (SM S0 H0 H1 (L :: ow) m) H' vs acc ∧ compL ft fc fe (wipeR ks ρ) (ds.drop i) = .ok rest ∧ ys = acc ++ rest ∧ acc.length ≤ i ∧ m' = ds.length - i ∧ i ≤ ds.length,
          ⟨ds.length, [], [], ys, upd_same, same_upd hL, .nil, by simpa using ec, rfl, Nat.le_refl _, by simp, by simp⟩, ?_⟩
        rintro i m' H' ⟨vs, acc, rest, hv, hs, ra, er, ey, hacc, rfl, hi⟩
        have RL : Rel X.K S0 H0 (wipeR ks ρ) (L2.wipe σ ks) (L :: ow) H' := B1.plus hs hL (by rw [hv]; trivial)
        have FL : Fra ow H1 (L :: ow) H' := ⟨fun a o e _ => hs a o e, fun a ha => (List.mem_cons.mp ha).elim (fun z => .inr (by rw [z]; exact hL)) .inl⟩
        obtain ⟨w1, w2, w3⟩ := wk (L :: ow) H' FL RL.same RL.own0 i
        by_cases hlt : i < ds.length
        · refine .inr ⟨w1 hlt, fun H2 => ∃ (vs : List V) (acc rest : List D), H2 L = some (.lst vs) ∧ (∀ a o, H1 a = some o → H2 a = some o) ∧ RpA X.K (SM S0 H0 H1 (L :: ow) m) H2 vs acc ∧ compL ft fc fe (wipeR ks ρ) (ds.drop (i + 1)) = .ok rest ∧ ys = acc ++ rest ∧ acc.length ≤ i + 1,
            fun H2 ⟨vs, acc, rest, a1, a2, a3, a4, a5, a6⟩ => ⟨ds.length - (i + 1), by omega, vs, acc, rest, a1, a2, a3, a4, a5, a6, rfl, hlt⟩, fun x H2 hy => ?_⟩
          obtain ⟨s2, d, hd, rd⟩ := w3 x H2 hlt hy
          have ed : ds.drop i = d :: ds.drop (i + 1) := by
            rw [List.drop_eq_getElem_cons hlt]
            rw [List.getElem?_eq_getElem hlt] at hd
            rw [Option.some.inj hd]
          rw [ed] at er
          unfold compL at er
          cases et : ft d (wipeR ks ρ) with
          | none => rw [et] at er; cases er
          | some ρ1 =>
            rw [et] at er
            dsimp only at er
            refine qg x d _ ρ1 _ (L :: ow) H2 _ (RL.grow s2) rd et fun σ3 R3 o3 => ⟨wipe_only o3 hk, qt ρ1 σ3 (L :: ow) H2 _ R3 ?_⟩
            cases ecc : fc ρ1 with
            | er => rw [ecc] at er; cases er
            | ex c => rw [ecc] at er; cases er
            | ok b =>
              rw [ecc] at er
              intro H3 s3
              have s23 := s2.trans s3
              have ra3 : RpA X.K (SM S0 H0 H1 (L :: ow) m) H3 vs acc := ra.keep (.same s23)
              cases b with
              | false =>
                rw [if_neg Bool.false_ne_true]
                exact ⟨vs, acc, rest, s23 L _ hv, fun a o e => s23 a o (hs a o e), ra3, er, ey, by omega⟩
              | true =>
                rw [if_pos rfl]
                refine qe ρ1 σ3 (L :: ow) H3 _ (R3.grow s3) ?_
                cases eff : fe ρ1 with
                | er => rw [eff] at er; cases er
                | ex c => rw [eff] at er; cases er
                | ok y =>
                  rw [eff] at er
                  intro vy H4 s4 r4
                  have s24 := s23.trans s4
                  have h4 := s24 L _ hv
                  cases ecl : compL ft fc fe (wipeR ks ρ) (ds.drop (i + 1)) with
                  | er => rw [ecl] at er; cases er
                  | ex c => rw [ecl] at er; cases er
                  | ok zs =>
                    rw [ecl] at er
                    have er' : M.ok (y :: zs) = M.ok rest := er
                    have er2 : y :: zs = rest := M.ok.inj er'
                    have hv' : vs.length = acc.length := ra.length
                    have hsz : acc.length < ds.length := by omega
                    refine ⟨vs, h4, by omega, vs ++ [vy], acc ++ [y], zs, upd_same, fun a o e => ?_, ?_, (by first | exact ecl | rfl), by rw [ey, ← er2]; simp, by simp; omega⟩
                    · have na : a ≠ L := fun z => by rw [z, hL] at e; cases e
                      rw [upd_ne na]
                      exact s24 a o (hs a o e)
                    · have kp : Keep (SM S0 H0 H1 (L :: ow) m) (SM S0 H0 H1 (L :: ow) m) H4 (upd H4 L (.lst (vs ++ [vy]))) :=
                        ⟨fun a o s e => ⟨s, by rw [upd_ne (SM.ne hm s)]; exact e⟩, fun a u e => by rw [upd_ne (fun z => by rw [z, h4] at e; cases e)]; exact e, fun a o u e => by rw [upd_ne (fun z => by rw [z, h4] at e; cases e)]; exact e⟩
                      have r5 : Rp X.K (SM S0 H0 H1 (L :: ow) m) H4 vy y := Rp.keep (.wide fun a s => by
                        cases m with
                        | O => exact absurd rfl hm
                        | E => exact s
                        | F => exact s
                        | N => exact ⟨Same.free (fun a o e => s23 a o (hs a o e)) s.1, s.2⟩) ((RM.sm hm).mp r4)
                      exact ((ra3.keep (.same s4)).append (.cons r5 .nil)).keep kp
        · refine .inl ⟨w2 (by omega), ?_⟩
          rw [List.drop_of_length_le (by omega)] at er
          have er2 : ([] : List D) = rest := M.ok.inj er
          have ey' : ys = acc := by rw [ey, ← er2, List.append_nil]
          refine k (.ref L) H' (s1.trans hs) ?_
          rw [ey']
          refine (RM.sm hm).mpr ?_
          refine .lst ?_ hv (ra.keep (.wide fun a s => SM.less hm s s1))
          have h0 := R1.same.free hL
          cases m with
          | O => exact absurd rfl hm
          | E => exact ⟨nL, .inr h0⟩
          | F => exact ⟨nL, h0⟩
          | N => exact ⟨s1.free hL, nL, h0⟩
    · exact k.elim
theorem vx_lc (hm : m ≠ .O) (hc : X.calm = true) (hN : X.N.Nodup) (hi : VI X W S0 H0 tg iter fi) (ok : BlkOk X.N X.env.scope scope own) (hg : ∀ i : Bi, VG (blkOf X scope i) S0 H0 k1 tg ft) (ht : ∀ i : Bi, VTs (blkOf X scope i) W0 S0 H0 ifs fc)
    (he : ∀ i : Bi, VX (blkOf X scope i) W0 S0 H0 m elt fe) (hk : ∀ k ∈ k1, k ∈ own.map (·.2) := by decide) : VX X W S0 H0 m (.ListComp elt [⟨tg, iter, ifs, 0⟩] scope pos) (eComp (own.map (·.2)) fi ft fc fe) := by
  obtain ⟨wi, pi, qi⟩ := hi.p
  obtain ⟨g, pg, qg⟩ := vg_all hg
  obtain ⟨tt, pt, qt⟩ := vts_all ht
  obtain ⟨te, pe, qe⟩ := vx_all he
  exact ⟨_, pe_lc hc hN pi ok (fun s H C cl fp => pg (s, H, C, cl, fp)) (fun s H C cl fp => pt (s, H, C, cl, fp)) (fun s H C cl fp => pe (s, H, C, cl, fp)) hi.s, lc_run hm hk qi qg qt qe⟩
section
variable {rm : Md} {i : Nat} {y : Str} {py spos : Pos}
/-- y = [..] on one line -/
theorem lcs (hm : m ≠ .O) (hc : X.calm = true) (hN : X.N.Nodup) (hy : X.N[i]? = some y) (hyl : X.env.scope.names.lookup y = some .local) (hsw : swapsWith (.ListComp elt [⟨tg, iter, ifs, 0⟩] scope pos) (some (.Name y py)) spos.line X.env = pure true)
    (hi : VI X W S0 H0 tg iter fi) (ok : BlkOk X.N X.env.scope scope own) (hg : ∀ i : Bi, VG (blkOf X scope i) S0 H0 k1 tg ft) (ht : ∀ i : Bi, VTs (blkOf X scope i) W0 S0 H0 ifs fc)
    (he : ∀ i : Bi, VX (blkOf X scope i) W0 S0 H0 m elt fe) (hk : ∀ k ∈ k1, k ∈ own.map (·.2)) : ∃ te : TE, PS X (.Assign [.Name y py] (.ListComp elt [⟨tg, iter, ifs, 0⟩] scope pos) spos) (tAsg te (gName i)) ∧
      ∀ ρ σ ow H Q, Rel X.K S0 H0 ρ σ ow H → PX X W S0 H0 ow m H σ Q (eComp (own.map (·.2)) fi ft fc fe ρ) → te σ H Q := by
  obtain ⟨wi, pi, qi⟩ := hi.p
  obtain ⟨g, pg, qg⟩ := vg_all hg
  obtain ⟨tt, pt, qt⟩ := vts_all ht
  obtain ⟨te, pe, qe⟩ := vx_all he
  exact ⟨_, ps_setLc hc hN hy hyl hsw pi ok (fun s H C cl fp => pg (s, H, C, cl, fp)) (fun s H C cl fp => pt (s, H, C, cl, fp)) (fun s H C cl fp => pe (s, H, C, cl, fp)) hi.s, lc_run hm hk qi qg qt qe⟩
theorem fr_run {te : TE} {f : Rho → M D} (q : ∀ ρ σ ow H Q, Rel X.K S0 H0 ρ σ ow H → PX X W S0 H0 ow .F H σ Q (f ρ) → te σ H Q) : ∀ ρ σ own H D, Rel X.K S0 H0 ρ σ own H → PSt X W S0 H0 rm own H D (sFr i f ρ) → tAsg te (gName i) D σ H := by
  intro ρ σ own H D R k
  refine q ρ σ own H _ R ?_
  unfold sFr at k
  revert k
  cases f ρ with
  | er => exact id
  | ex c => exact fun k cv d H' i s => k cv d σ own H' i (R.grow s) (.same s)
  | ok x => exact fun k v H' s r => k _ own H' ((R.grow s).setFr r) (.same s)
theorem vs_lcFr (hc : X.calm = true) (hN : X.N.Nodup) (hsw : swapsWith (.ListComp elt [⟨tg, iter, ifs, 0⟩] scope pos) (some (.Name y py)) spos.line X.env = pure true) (hi : VI X W S0 H0 tg iter fi) (ok : BlkOk X.N X.env.scope scope own) (hg : ∀ i : Bi, VG (blkOf X scope i) S0 H0 k1 tg ft) (ht : ∀ i : Bi, VTs (blkOf X scope i) W0 S0 H0 ifs fc)
    (he : ∀ i : Bi, VX (blkOf X scope i) W0 S0 H0 .F elt fe) (hk : ∀ k ∈ k1, k ∈ own.map (·.2) := by decide) (hy : X.N[i]? = some y := by rfl) (hyl : X.env.scope.names.lookup y = some .local := by rfl) :
    VS X W S0 H0 rm (.Assign [.Name y py] (.ListComp elt [⟨tg, iter, ifs, 0⟩] scope pos) spos) (sFr i (eComp (own.map (·.2)) fi ft fc fe)) := by
  obtain ⟨te, p, q⟩ := lcs (W := W) (by intro z; cases z) hc hN hy hyl hsw hi ok hg ht he hk
  exact ⟨_, p, fr_run q⟩
end
end
end VL
set_option Elab.async false
set_option linter.all false
set_option maxRecDepth 100000
/-! VL: isinstance, all, any, zip, enumerate, reversed, slices, tuples taken apart. -/
namespace VL
open PySem L2 PySem.Spec PyProof.Rows
section
variable {X : Cx} {W : WX} {S0 : Addr → Prop} {H0 : Hp} {rm m ma : Md} {pos p p2 : Pos} {e e2 : Expr} {es : List Expr} {fe f2 : Rho → M D} {fa : Rho → M (List D)} {x T T2 : Str}
/-! ### isinstance -/
inductive Tg where
  | non | bl | int | str | tup | lst | dct
def Tg.n : Tg → String
  | .non => "NoneType" | .bl => "bool" | .int => "int" | .str => "str" | .tup => "tuple" | .lst => "list" | .dct => "dict"
def tagD : D → Tg
  | .non => .non
  | .bl _ => .bl
  | .int _ => .int
  | .str _ => .str
  | .tup _ => .tup
  | .kt _ => .tup
  | .lst _ => .lst
  | .fz _ => .lst
  | .dct _ => .dct
  | .dk _ => .dct
  | .obj _ _ _ _ => .non
  | .pls _ _ => .non
  | .raw _ => .non
/-- an object of one's own class: no rule asks its type -/
def isOb : D → Bool
  | .obj _ _ _ _ => true
  | .pls _ _ => true
  | .raw _ => true
  | _ => false
def tyD (d : D) : String := (tagD d).n
theorem tyX_of {K : PySem.W.Frag} {own : List Addr} {Hb H : Hp} {v : V} {d : D} (r : RM K S0 H0 own m Hb H v d) (ho : isOb d = false) : TyX K H v (.type (tyD d)) := by
  cases d with
  | obj p c ns ds => cases ho
  | pls p ds => cases ho
  | raw a => cases ho
  | non => rw [r.isNon]; exact .base .non
  | bl b => rw [r.isBl]; exact .base (.bl b)
  | int b => rw [r.isInt]; exact .base (.int b)
  | str b => rw [r.isStr]; exact .base (.str b)
  | tup ds => obtain ⟨a, xs, rfl, h, _⟩ := r.isTup; exact .base (.tup h)
  | kt ds =>
    rcases r.toO (Hc := Hb) with r | ⟨a, e, hm, r⟩
    · cases r with
      | kt h r => obtain ⟨o, its, n, h1, h2, _⟩ := h; exact .kTuple h1 h2
    · exact r.elim
  | lst ds => obtain ⟨a, xs, rfl, h | ⟨o, h⟩, _⟩ := r.isLst; exact .base (.lst h); exact .base (.frz h)
  | fz ds =>
    obtain ⟨a, xs, rfl, ⟨o, h⟩ | ⟨o, its, n, h1, h2, _⟩, _⟩ := r.isFz
    · exact .base (.frz h)
    · exact .kList h1 h2
  | dct ds =>
    rcases r.toO (Hc := Hb) with r | ⟨a, rfl, hm, xs, h, r⟩
    · cases r with
      | dct s h r => exact .base (.dT h)
    · exact .base (.dT h)
  | dk ds =>
    rcases r.toO (Hc := Hb) with r | ⟨a, rfl, hm, xs, h, r⟩
    · cases r with
      | dk s h r => exact .base (.dK h)
    · exact .base (.dK h)
/-- the classes that are asked: bool, int, str, list, tuple -/
inductive Cn where
  | bool | int | str | list | tuple
def Cn.n : Cn → String
  | .bool => "bool" | .int => "int" | .str => "str" | .list => "list" | .tuple => "tuple"
def instT : Cn → Tg → Bool
  | .bool, .bl => true
  | .int, .bl => true
  | .int, .int => true
  | .str, .str => true
  | .list, .lst => true
  | .tuple, .tup => true
  | _, _ => false
def instD (c : Cn) (d : D) : Bool := instT c (tagD d)
theorem inst_okT (c : Cn) (t : Tg) : kitB t.n c.n = some (instT c t) := by
  cases c <;> cases t <;> decide +kernel
theorem inst_ok (c : Cn) (d : D) : kitB (tyD d) c.n = some (instD c d) := inst_okT c (tagD d)
theorem kit_inst (K : PySem.W.Frag) (c : Cn) (d : D) : PySem.W.kitOne K (.type (tyD d)) (.type c.n) = some (instD c d) := kit_ty (inst_ok c d)
/-- isinstance(e, T) -/
def eIsi (c : Cn) (f : Rho → M D) : Rho → M D := fun ρ => M.bind (f ρ) fun d => if isOb d = true then .er else .ok (.bl (instD c d))
theorem vx_isi (c : Cn) (hm : X.mg "isinstance" = none) (hT : X.mg T = none) (h : VX X W S0 H0 ma e fe) (hv : bootBuiltins T = some (.type c.n) := by decide +kernel) (hgT : Gl X T := by rfl) (hnT : T ≠ "__name__" := by decide) (hdT : (T == ("__debug__" : Str)) = false := by decide) (hg : Gl X "isinstance" := by rfl)
    (he : starEach (e :: [.Name T p2]) X.env = (false, eval e X.env) :: starEach [.Name T p2] X.env := by rfl) (he2 : starEach (.Name T p2 :: []) X.env = (false, eval (.Name T p2) X.env) :: starEach [] X.env := by rfl) (hpl : (backTo pos (starEach [.Name T p2] X.env)).any (·.1) = false := by rfl) :
    VX X W S0 H0 m (.Call (.Name "isinstance" p) (e :: [.Name T p2]) [] pos) (eIsi c fe) := by
  obtain ⟨te, pe, qe⟩ := h.p
  refine ⟨_, pe_callB call_isi hg hm (by decide +kernel) (pa_cons pe (pa_cons (pe_bltn (v := .ty c.n) hgT hT hv rfl hnT hdT) pa_nil he2) he) (by decide) (by decide) he hpl, fun ρ σ own H Q R k => qe ρ σ own H _ R ?_⟩
  unfold eIsi at k
  revert k
  cases fe ρ with
  | er => exact id
  | ex c => exact id
  | ok d =>
    intro k v H' s r
    rw [bind_ok] at k
    split at k
    · exact k.elim
    · next hob => exact ⟨v, .ty c.n, _, _, instD c d, rfl, .ty _, tyX_of r (by simpa using hob), kit_inst _ c d, k _ H' s (.ofBl _)⟩
/-- isinstance(e, (T, T2)) -/
def eIsi2 (c c2 : Cn) (f : Rho → M D) : Rho → M D := fun ρ => M.bind (f ρ) fun d => if isOb d = true then .er else .ok (.bl (instD c d || instD c2 d))
theorem vx_isi2 {pt p3 : Pos} {j : Nat} (c c2 : Cn) (hm : X.mg "isinstance" = none) (hT : X.mg T = none) (hT2 : X.mg T2 = none) (h : VX X W S0 H0 ma e fe) (hv : bootBuiltins T = some (.type c.n) := by decide +kernel) (hgT : Gl X T := by rfl) (hnT : T ≠ "__name__" := by decide) (hdT : (T == ("__debug__" : Str)) = false := by decide)
    (hv2 : bootBuiltins T2 = some (.type c2.n) := by decide +kernel) (hgT2 : Gl X T2 := by rfl) (hnT2 : T2 ≠ "__name__" := by decide) (hdT2 : (T2 == ("__debug__" : Str)) = false := by decide) (hg : Gl X "isinstance" := by rfl)
    (he : starEach (e :: [.Tuple [.Name T p2, .Name T2 p3] j pt]) X.env = (false, eval e X.env) :: starEach [.Tuple [.Name T p2, .Name T2 p3] j pt] X.env := by rfl) (he2 : starEach (.Tuple [.Name T p2, .Name T2 p3] j pt :: []) X.env = (false, eval (.Tuple [.Name T p2, .Name T2 p3] j pt) X.env) :: starEach [] X.env := by rfl)
    (he3 : starEach (.Name T p2 :: [.Name T2 p3]) X.env = (false, eval (.Name T p2) X.env) :: starEach [.Name T2 p3] X.env := by rfl) (he4 : starEach (.Name T2 p3 :: []) X.env = (false, eval (.Name T2 p3) X.env) :: starEach [] X.env := by rfl)
    (hpl : (backTo pos (starEach [.Tuple [.Name T p2, .Name T2 p3] j pt] X.env)).any (·.1) = false := by rfl) :
    VX X W S0 H0 m (.Call (.Name "isinstance" p) (e :: [.Tuple [.Name T p2, .Name T2 p3] j pt]) [] pos) (eIsi2 c c2 fe) := by
  obtain ⟨te, pe, qe⟩ := h.p
  refine ⟨_, pe_callB call_isiT hg hm (by decide +kernel) (pa_cons pe (pa_cons (pe_tup (pa_cons (pe_bltn (v := .ty c.n) hgT hT hv rfl hnT hdT) (pa_cons (pe_bltn (v := .ty c2.n) hgT2 hT2 hv2 rfl hnT2 hdT2) pa_nil he4) he3)) pa_nil he2) he) (by decide) (by decide) he hpl, fun ρ σ own H Q R k => qe ρ σ own H _ R ?_⟩
  unfold eIsi2 at k
  revert k
  cases fe ρ with
  | er => exact id
  | ex c => exact id
  | ok d =>
    intro k v H' s r
    rw [bind_ok] at k
    split at k
    · exact k.elim
    next hob =>
    refine ⟨by show 2 ≤ sizeLine; decide, fun q hq => ?_⟩
    have r' := RM.grow (same_upd (o := .tup [.ty c.n, .ty c2.n]) hq) r
    refine ⟨v, q, [.ty c.n, .ty c2.n], _, [.type c.n, .type c2.n], instD c d || instD c2 d, rfl, upd_same, .cons (.ty _) (.cons (.ty _) .nil), tyX_of r' (by simpa using hob), ?_, k _ _ (s.trans (same_upd hq)) (.ofBl _)⟩
    refine kitAny_cons (kit_inst _ c d) (fun hb => ?_) fun hb => by rw [hb]; rfl
    rw [hb]
    refine kitAny_cons (kit_inst _ c2 d) (fun hb => by rw [hb]; rfl) fun hb => by rw [hb]; rfl
/-! ### all, any of a list of truth values -/
def bools : List D → Option (List Bool)
  | [] => some []
  | .bl b :: ds => (bools ds).map (b :: ·)
  | _ => none
theorem RpA.bools {K : PySem.W.Frag} {S : Addr → Prop} {H : Hp} : ∀ {vs : List V} {ds : List D} {bs : List Bool}, RpA K S H vs ds → VL.bools ds = some bs → vs = bs.map V.bl
  | _, _, _, .nil, e => by cases e; rfl
  | _, d :: ds, _, .cons h r, e => by
    cases d with
    | bl b =>
      cases h
      have e' : (VL.bools ds).map (b :: ·) = some _ := e
      cases e1 : VL.bools ds with
      | none => rw [e1] at e'; cases e'
      | some cs =>
        rw [e1] at e'
        cases e'
        rw [RpA.bools r e1]
        rfl
    | _ => cases e
def allG : List D → M D := fun xs => match xs with
  | [.lst ds] => (match bools ds with | some bs => .ok (.bl (bs.all id)) | none => .er)
  | _ => .er
theorem cg_all : CallG X W S0 H0 m (rAll X.K) allG := by
  intro ρ σ own H Q vs ds R r k
  unfold allG at k
  split at k
  · split at k
    · next bs e =>
      obtain ⟨v, rfl, r1⟩ := pair1 r
      obtain ⟨a, xs, rfl, h1, h2⟩ := r1.isLst
      exact ⟨a, bs, rfl, by rw [← h2.bools e]; exact .inl h1, k _ H (Same.refl H) (.ofBl _)⟩
    · exact k.elim
  · exact k.elim
/-! ### zip, enumerate of lists -/
def zipD : List D → List D → List D
  | x :: xs, y :: ys => .tup [x, y] :: zipD xs ys
  | _, _ => []
theorem zipD_len : ∀ xs ys : List D, (zipD xs ys).length = min xs.length ys.length
  | [], ys => by simp [zipD]
  | x :: xs, [] => by simp [zipD]
  | x :: xs, y :: ys => by simp [zipD, zipD_len xs ys]
theorem zipD_get : ∀ (xs ys : List D) (i : Nat) (a b : D), xs[i]? = some a → ys[i]? = some b → (zipD xs ys)[i]? = some (.tup [a, b])
  | [], _, _, _, _, h, _ => by simp at h
  | _ :: _, [], _, _, _, _, h => by simp at h
  | x :: xs, y :: ys, 0, a, b, h1, h2 => by
    simp at h1 h2
    subst h1 h2
    rfl
  | x :: xs, y :: ys, i + 1, a, b, h1, h2 => by
    simp at h1 h2
    exact zipD_get xs ys i a b h1 h2
def tupD : D → Option (List D)
  | .tup ds => some ds
  | .kt ds => some ds
  | _ => none
def zipG : List D → M (List D) := fun ds => match ds with
  | [.lst xs, .lst ys] => .ok (zipD xs ys)
  | [x, y] => (match tupD x, tupD y with
    | some xs, some ys => .ok (zipD xs ys)
    | _, _ => .er)
  | _ => .er
def eZip (f : Rho → M (List D)) : Rho → M (List D) := fun ρ => M.bind (f ρ) zipG
theorem tup_items {K : PySem.W.Frag} {own : List Addr} {H1 Hb : Hp} {v : V} {d : D} {ds : List D} (own0 : ∀ a, a ∈ own → H0 a = none ∧ Mt (H1 a)) (r : RM K S0 H0 own .E Hb H1 v d) (h : tupD d = some ds) :
    ∃ a xs, v = .ref a ∧ SqT K H1 a xs ∧ (∀ own' H', Fra own H1 own' H' → SqT K H' a xs) ∧ RpA K (SA S0 H0 own) H1 xs ds := by
  cases d <;> try (cases h; done)
  · cases h
    cases r with
    | tup h r => exact ⟨_, _, rfl, SqT.of h, fun own' H' F => SqT.of (F.k _ _ h fun hm => by
        have := (own0 _ hm).2
        rw [h] at this; exact this), r⟩
  · cases h
    cases r with
    | kt h r => exact ⟨_, _, rfl, .inr h, fun own' H' F => .inr h, r⟩
theorem up2 {K : PySem.W.Frag} {S : Addr → Prop} {H : Hp} {T : Addr} {x y : V} {a b : D} (hT : H T = none) (h1 : Rp K S H x a) (h2 : Rp K S H y b) : Rp K S (upd H T (.tup [x, y])) (.ref T) (.tup [a, b]) :=
  .tup upd_same (.cons (h1.keep (.same (same_upd hT))) (.cons (h2.keep (.same (same_upd hT))) .nil))
theorem vi_zip {elts : List Expr} {kk : Nat} {tpos : Pos} (hm : X.mg "zip" = none) (ha : VA X W S0 H0 .E [e, e2] fa) (hg : Gl X "zip" := by rfl) (hs1 : starEach (e :: [e2]) X.env = (false, eval e X.env) :: starEach [e2] X.env := by rfl) (hpl : (backTo pos (starEach [e2] X.env)).any (·.1) = false := by rfl)
    (hf : ∀ x, foldedSetIterable (.Call (.Name "zip" p) [e, e2] [] pos) X.env x = pure x := by intro _; rfl) : VI X W S0 H0 (.Tuple elts kk tpos) (.Call (.Name "zip" p) [e, e2] [] pos) (eZip fa) := by
  obtain ⟨te, pa, q⟩ := ha.p
  refine ⟨⟨_, RZ.pi_zipA hg hm pa hs1 hpl, fun ρ σ own H Rk R k => q ρ σ own H _ R ?_⟩, hf⟩
  unfold eZip at k
  revert k
  cases fa ρ with
  | er => exact id
  | ex c => exact id
  | ok ds =>
    intro k vs H1 s1 r1
    rw [bind_ok] at k
    unfold zipG at k
    split at k
    · next xs ys =>
      obtain ⟨v, w, rfl, r2, r3⟩ := pair2 r1
      have R1 := R.grow s1
      cases r2 with
      | lst sa ha ra =>
        cases r3 with
        | lst sb hb rb =>
          rename_i a vs b ws
          refine ⟨a, b, _, _, rfl, .inl ⟨SqL.of ha, SqL.of hb, k _ H1 s1 ?_⟩⟩
          intro own' H' F hsm ho i
          have ha' : SqL X.K H' a vs := .inl (fra_rd F R1.own0 sa.1 (.inl ha))
          have hb' : SqL X.K H' b ws := .inl (fra_rd F R1.own0 sb.1 (.inl hb))
          have ra' := ra.keep (F.keepA (S0 := S0) (H0 := H0) R1.own0)
          have rb' := rb.keep (F.keepA (S0 := S0) (H0 := H0) R1.own0)
          rw [zipD_len]
          refine ⟨fun hi => ?_, fun hi => ⟨vs, ws, ha', hb', ?_⟩, fun y H2 hi ⟨T, x1, x2, ey, nT, eH, f1, f2⟩ => ?_⟩
          · obtain ⟨v1, e1, _⟩ := ra.get (List.getElem?_eq_getElem (show i < xs.length by omega))
            obtain ⟨v2, e2, _⟩ := rb.get (List.getElem?_eq_getElem (show i < ys.length by omega))
            exact ⟨vs, ws, v1, v2, ha', hb', e1, e2⟩
          · rw [ra.length, rb.length]; omega
          · obtain ⟨d1, g1, h1⟩ := ra'.getV (f1 vs ha')
            obtain ⟨d2, g2, h2⟩ := rb'.getV (f2 ws hb')
            subst ey eH
            exact ⟨same_upd nT, .tup [d1, d2], zipD_get xs ys i d1 d2 g1 g2, up2 nT h1 h2⟩
    · split at k
      · next xs ys ex ey =>
        obtain ⟨v, w, rfl, r2, r3⟩ := pair2 r1
        have R1 := R.grow s1
        obtain ⟨a, vs, rfl, ha, hka, ra⟩ := tup_items R1.own0 r2 ex
        obtain ⟨b, ws, rfl, hb, hkb, rb⟩ := tup_items R1.own0 r3 ey
        refine ⟨a, b, _, _, rfl, .inr ⟨ha, hb, k _ H1 s1 ?_⟩⟩
        intro own' H' F hsm ho i
        have ha' := hka own' H' F
        have hb' := hkb own' H' F
        have ra' := ra.keep (F.keepA (S0 := S0) (H0 := H0) R1.own0)
        have rb' := rb.keep (F.keepA (S0 := S0) (H0 := H0) R1.own0)
        rw [zipD_len]
        refine ⟨fun hi => ?_, fun hi => ⟨vs, ws, ha', hb', ?_⟩, fun y H2 hi ⟨T, x1, x2, ey, nT, eH, f1, f2⟩ => ?_⟩
        · obtain ⟨v1, e1, _⟩ := ra.get (List.getElem?_eq_getElem (show i < xs.length by omega))
          obtain ⟨v2, e2, _⟩ := rb.get (List.getElem?_eq_getElem (show i < ys.length by omega))
          exact ⟨vs, ws, v1, v2, ha', hb', e1, e2⟩
        · rw [ra.length, rb.length]; omega
        · obtain ⟨d1, g1, h1⟩ := ra'.getV (f1 vs ha')
          obtain ⟨d2, g2, h2⟩ := rb'.getV (f2 ws hb')
          subst ey eH
          exact ⟨same_upd nT, .tup [d1, d2], zipD_get xs ys i d1 d2 g1 g2, up2 nT h1 h2⟩
      · exact k.elim
    · exact k.elim
def enumD : Nat → List D → List D
  | _, [] => []
  | i, x :: xs => .tup [.int (i : Nat), x] :: enumD (i + 1) xs
theorem enumD_len : ∀ (i : Nat) (xs : List D), (enumD i xs).length = xs.length
  | _, [] => rfl
  | i, x :: xs => congrArg (· + 1) (enumD_len (i + 1) xs)
theorem enumD_get : ∀ (xs : List D) (j i : Nat) (a : D), xs[i]? = some a → (enumD j xs)[i]? = some (.tup [.int ((j + i : Nat) : Int), a])
  | [], _, _, _, h => by simp at h
  | x :: xs, j, 0, a, h => by
    simp at h
    subst h
    rfl
  | x :: xs, j, i + 1, a, h => by
    simp at h
    have := enumD_get xs (j + 1) i a h
    rw [show j + (i + 1) = j + 1 + i by omega]
    exact this
def eEnum (f : Rho → M (List D)) : Rho → M (List D) := fun ρ => M.bind (f ρ) fun ds => match ds with
  | [.lst xs] => .ok (enumD 0 xs)
  | _ => .er
theorem vi_enum {elts : List Expr} {kk : Nat} {tpos : Pos} (hm : X.mg "enumerate" = none) (ha : VA X W S0 H0 .E [e] fa) (hg : Gl X "enumerate" := by rfl) (hs1 : starEach (e :: []) X.env = (false, eval e X.env) :: starEach [] X.env := by rfl)
    (hf : ∀ x, foldedSetIterable (.Call (.Name "enumerate" p) [e] [] pos) X.env x = pure x := by intro _; rfl) : VI X W S0 H0 (.Tuple elts kk tpos) (.Call (.Name "enumerate" p) [e] [] pos) (eEnum fa) := by
  obtain ⟨te, pa, q⟩ := ha.p
  refine ⟨⟨_, pi_enum hg hm pa hs1, fun ρ σ own H Rk R k => q ρ σ own H _ R ?_⟩, hf⟩
  unfold eEnum at k
  revert k
  cases fa ρ with
  | er => exact id
  | ex c => exact id
  | ok ds =>
    intro k vs H1 s1 r1
    rw [bind_ok] at k
    split at k
    · next xs =>
      obtain ⟨v, rfl, r2⟩ := pair1 r1
      have R1 := R.grow s1
      cases r2 with
      | lst sa ha ra =>
        rename_i a vs
        refine ⟨a, _, rfl, SqL.of ha, k _ H1 s1 ?_⟩
        intro own' H' F hsm ho i
        have ha' : SqL X.K H' a vs := .inl (fra_rd F R1.own0 sa.1 (.inl ha))
        have ra' := ra.keep (F.keepA (S0 := S0) (H0 := H0) R1.own0)
        rw [enumD_len]
        refine ⟨fun hi => ?_, fun hi => ⟨vs, ha', by rw [ra.length]; exact hi⟩, fun y H2 hi ⟨T, x1, ey, nT, eH, f1⟩ => ?_⟩
        · obtain ⟨v1, e1, _⟩ := ra.get (List.getElem?_eq_getElem hi)
          exact ⟨vs, v1, ha', e1⟩
        · obtain ⟨d1, g1, h1⟩ := ra'.getV (f1 vs ha')
          subst ey eH
          refine ⟨same_upd nT, .tup [.int (i : Nat), d1], ?_, up2 nT (.int _) h1⟩
          have := enumD_get xs 0 i d1 g1
          rw [Nat.zero_add] at this
          exact this
    · exact k.elim
/-! ### slices -/
section
variable (X : Cx) (W : WX) (H : Hp) (σ : Sg)
def PXO (Q : Option Int → Hp → Prop) : M (Option Int) → Prop
  | .ok o => ∀ H', Same H H' → Q o H'
  | .ex c => ∀ cv d H', IsCls X.mg c cv d → Same H H' → W cv d σ H'
  | .er => False
end
structure VO (X : Cx) (W : WX) (S0 : Addr → Prop) (H0 : Hp) (e : Option Expr) (f : Rho → M (Option Int)) : Prop where
  p : ∃ te, PO X e te ∧ ∀ ρ σ own H Q, Rel X.K S0 H0 ρ σ own H → PXO X W H σ Q (f ρ) → te σ H Q
/-- a, b = e: a tuple taken apart -/
def sUnp (f : Rho → M D) (tg : D → Rho → Option Rho) : Rho → Res := fun ρ => ofM ρ (fun d => match tg d ρ with | some ρ' => .nx ρ' | none => .er) (f ρ)
theorem vs_unp {ks : List Nat} {tg : Expr} {ft : D → Rho → Option Rho} (h : VX X W S0 H0 .E e fe) (hg : VG X S0 H0 ks tg ft) (hs : swapsWithSole [tg] e pos.line X.env = pure false := by rfl) (hw : swappedStores [tg] e X.env = pure none := by rfl)
    (h1 : (assignEach [tg] X.env).map (·.2) = [assign tg X.env] := by rfl) : VS X W S0 H0 rm (.Assign [tg] e pos) (sUnp fe ft) := by
  obtain ⟨te, pe, qe⟩ := h.p
  obtain ⟨g, pg, qg⟩ := hg.p
  refine ⟨_, ps_asg pe pg hs hw h1, fun ρ σ own H D R k => qe ρ σ own H _ R ?_⟩
  unfold sUnp at k
  revert k
  cases fe ρ with
  | er => exact id
  | ex c => exact fun k cv d H' i s => k cv d σ own H' i (R.grow s) (.same s)
  | ok d =>
    intro k v H1 s1 r1
    rw [ofM_ok] at k
    split at k
    · next ρ' e1 => exact qg v d ρ ρ' σ own H1 _ (R.grow s1) r1 e1 fun σ' R' _ => k σ' own H1 R' (.same s1)
    · exact k.elim
end
end VL
set_option Elab.async false
set_option linter.all false
set_option maxRecDepth 100000
/-! VL: the law's end. -/
namespace VL
open PySem L2 PySem.Spec PyProof.Rows
/-- a module's constant -/
structure GI (mg : Str → Option Value) (x : Str) (i : Int) : Prop where
  p : ∃ t, mg x = some (.int i t)
structure GS (mg : Str → Option Value) (x : Str) (i : Str) : Prop where
  p : ∃ t, mg x = some (.str i t)
section
variable {X : Cx} {W : WX} {S0 : Addr → Prop} {H0 : Hp} {rm m : Md} {pos : Pos} {e : Expr} {fe : Rho → M D}
theorem vx_gi {x : Str} {i : Int} (h : GI X.mg x i) (hg : Gl X x := by rfl) (hd : (x == ("__debug__" : Str)) = false := by decide) : VX X W S0 H0 m (.Name x pos) (eC (.int i)) := by
  obtain ⟨t, h⟩ := h.p
  exact vx_gint h ⟨t, rfl⟩ hg hd
theorem vx_gs {x : Str} {i : Str} (h : GS X.mg x i) (hg : Gl X x := by rfl) (hd : (x == ("__debug__" : Str)) = false := by decide) : VX X W S0 H0 m (.Name x pos) (eC (.str i)) := by
  obtain ⟨t, h⟩ := h.p
  exact vx_gstr h ⟨t, rfl⟩ hg hd
theorem hu65 {A : Around} {k : Nat} (hr : Room k A) : A.units + 65 < cLine := by have := hr.un; omega
end
/-- the law gives True of every script -/
def spLaw (K : PySem.W.Frag) : Sp := fun vs H Q _ => ∃ (a : Addr) (ns : List Int), vs = [.ref a] ∧ FzL K H a (ns.map V.int) ∧ ns.length ≤ 63 ∧ ∀ H', Q (.bl true) H'
theorem law_imp {P : Program} {w : World} {K : PySem.W.Frag} {mg : Str → Option Value} {base : Heap} {CX : CXT} {k : Nat} {f : Addr} {fd : FuncData} {ps : List Str} {g : List D → M D} (F : FnOk P w K mg base CX k f fd ps (spN mg K g))
    (h : ∀ ns : List Int, ns.length ≤ 63 → g [.fz (ns.map .int)] = .ok (.bl true)) : FnOk P w K mg base CX k f fd ps (spLaw K) := F.imp fun vs H Q E ⟨a, ns, ev, hs, hl, q⟩ => by
  subst ev
  refine ⟨[.fz (ns.map .int)], .cons (.fz hs (RpA.ints ns)) .nil, ?_⟩
  rw [h ns hl]
  intro v H' s r
  cases r
  exact q H'
theorem fz_of {K : PySem.W.Frag} {H : Hp} {a : Addr} {xs : List V} (hO : Only H) (h : SqL K H a xs) : FzL K H a xs := by
  rcases h with (h | h) | h
  · rcases hO a with z | ⟨o, ys, z⟩
    · rw [z] at h; cases h
    · rw [z] at h; cases h
  · exact .inl h
  · exact .inr h
theorem law_walk {l : PySem.W.OpenLaw} {k : Nat} {q : Program} {loose : List Str} {XP : (Str → Option Value) → Heap → Prop} {YP : World → Heap → Prop} {d : DefRec} {K : Params → PySem.W.Frag} {x : Str} (hn : l.most = some 63) (hdf : d.params.defaults = []) (hr : Room k callerA)
    (hY : ∀ (w : World) (h : Heap), YP w h → (K w.params).In h)
    (F : ∀ (w : World) (mg : Str → Option Value) (fa : Addr) (h : Heap), (K w.params).In h → h.Ns mainGlobals mg → mg d.name = some (.ref fa) →
      ∃ fd : FuncData, (∀ (s : Shared) (u : Value), BindsTo s fd ⟨[u], []⟩ [(x, u)]) ∧ ∀ base : Heap, (K w.params).In base → base.Ns mainGlobals mg → FnOk l.prog w (K w.params) mg base (L2.CX l.prog w) k fa fd [x] (spLaw (K w.params))) :
    PySem.W.WalkO q loose XP YP l.row.toRowW d [] (fun f vs => PySem.call f vs) :=
  walk_of (K := K) (CX := fun w => L2.CX l.prog w) (sp := fun w => spLaw (K w.params)) hn (by decide) hdf hr hY F (fun w H a ns h1 hO h3 => ⟨a, ns, rfl, fz_of hO h3, h1, fun _ => rfl⟩) fun w H s e s' h => by
    obtain ⟨_, _, _, _, _, _, _, _, _, _, _, _, z⟩ := h
    exact z.elim
end VL
set_option Elab.async false
set_option linter.all false
set_option maxRecDepth 100000
/-! VL9: x in d, d.get, not by truth, += , join, list.clear and the like. -/
namespace VL
open PySem L2 PySem.Spec PyProof.Rows
section
variable {X : Cx} {W : WX} {S0 : Addr → Prop} {H0 : Hp} {rm m ma mb mc : Md} {pos apos cpos px : Pos} {e e2 a b c o : Expr} {es : List Expr} {fe f2 fa fb fc : Rho → M D} {fas : Rho → M (List D)} {x : Str}
/-! ### what a dict holds at a key -/
def lookD (x y : D) : Option (Option D) := match y with
  | .dct kvs => (match x with | .tup ds => (keyOf ds).map (lookT kvs) | _ => none)
  | .dk kvs => (keyOf1 x).map (lookK kvs)
  | _ => none
theorem dget_of {own : List Addr} {H : Hp} {vx vy : V} {x y : D} {o : Option D} (rx : RM X.K S0 H0 own .O H H vx x) (ry : RM X.K S0 H0 own .O H H vy y) (h : lookD x y = some o) :
    ∃ a ov, vy = .ref a ∧ DGet H a vx ov ∧ ov.isSome = o.isSome ∧ (∀ d, o = some d → ∃ v, ov = some v ∧ Rp X.K (SA S0 H0 own) H v d) := by
  have fin (ov : Option V) (h1 : ∀ d, o = some d → ∃ v, ov = some v ∧ Rp X.K (SA S0 H0 own) H v d) (h2 : o = none → ov = none) : ov.isSome = o.isSome ∧ (∀ d, o = some d → ∃ v, ov = some v ∧ Rp X.K (SA S0 H0 own) H v d) := by
    refine ⟨?_, h1⟩
    cases o with
    | none => rw [h2 rfl]; rfl
    | some d => obtain ⟨v, e, _⟩ := h1 d rfl; rw [e]; rfl
  unfold lookD at h
  split at h
  · next kvs =>
    split at h
    · next ds =>
      obtain ⟨a, xs, rfl, h1, h2⟩ := ry.isDct
      obtain ⟨b, ys, rfl, h3, h4⟩ := rx.isTup
      cases hk : keyOf ds with
      | none => rw [hk] at h; cases h
      | some ks =>
        rw [hk] at h
        cases h
        obtain ⟨p, q⟩ := h2.look ks
        obtain ⟨f1, f2⟩ := fin (valV xs ks) p q
        refine ⟨a, valV xs ks, rfl, .inr ⟨xs, ks, b, h1, rfl, ?_, rfl⟩, f1, f2⟩
        rw [← h4.keys hk]
        exact h3
    · cases h
  · next kvs =>
    obtain ⟨a, xs, rfl, h1, h2⟩ := ry.isDk
    cases hk : keyOf1 x with
    | none => rw [hk] at h; cases h
    | some k =>
      rw [hk] at h
      cases h
      obtain ⟨p, q⟩ := h2.look k
      obtain ⟨f1, f2⟩ := fin (valV xs k) p q
      exact ⟨a, valV xs k, rfl, .inl ⟨xs, k, h1, key_v rx hk, rfl⟩, f1, f2⟩
  · cases h
/-! ### x in y -/
def itsD : D → Option (List D)
  | .lst ds => some ds
  | .fz ds => some ds
  | _ => none
def itsT : D → Option (List D)
  | .tup ds => some ds
  | .kt ds => some ds
  | _ => none
def inB_ (x y : D) : M Bool := match lookD x y with
  | some o => .ok o.isSome
  | none => match itsD y with
    | some ds => if SeqAt.shaped (toP x) = true ∧ SeqAt.shaped (toP y) = true then .ok (ds.any fun z => PyData.eqv (toP z) (toP x)) else .er
    | none => match itsT y with
      | some ds => if SeqAt.shaped (toP x) = true ∧ SeqAt.shaped (toP y) = true then .ok (ds.any fun z => PyData.eqv (toP z) (toP x)) else .er
      | none => match x, y with
      | .str s, .str z => (match s.cps.toList with | [c] => .ok (decide (c ∈ z.cps.toList)) | _ => .er)
      | _, _ => .er
def inG (x y : D) : M D := M.bind (inB_ x y) fun b => .ok (.bl b)
def ninG (x y : D) : M D := M.bind (inB_ x y) fun b => .ok (.bl (!b))
def rInD1 : R2 := fun x y H Q => ∃ a o, y = .ref a ∧ DGet H a x o ∧ Q (.bl o.isSome) H
def rNinD1 : R2 := fun x y H Q => ∃ a o, y = .ref a ∧ DGet H a x o ∧ Q (.bl (!o.isSome)) H
theorem op_inD1 (hu : X.A.units + 65 < cLine) : OpR X (compareOp .In) rInD1 := by
  intro pins s σ H x y v u Q I rx ry h
  obtain ⟨a, o, rfl, g, q⟩ := h
  cases ry
  exact d_in (by omega) I g rx fun s' I' => ⟨.bl _, H, I', rfl, q⟩
theorem op_ninD1 (hu : X.A.units + 65 < cLine) : OpR X (compareOp .NotIn) rNinD1 := by
  intro pins s σ H x y v u Q I rx ry h
  obtain ⟨a, o, rfl, g, q⟩ := h
  cases ry
  exact d_notIn (by omega) I g rx fun s' I' => ⟨.bl _, H, I', rfl, q⟩
def rInT (K : PySem.W.Frag) : R2 := fun x y H Q => ∃ d ds, Dp K H x d ∧ Dp K H y (.tuple ds) ∧ SeqAt.shaped d = true ∧ SeqAt.shaped (.tuple ds) = true ∧ Q (.bl (ds.any fun z => PyData.eqv z d)) H
def rNotInT (K : PySem.W.Frag) : R2 := fun x y H Q => ∃ d ds, Dp K H x d ∧ Dp K H y (.tuple ds) ∧ SeqAt.shaped d = true ∧ SeqAt.shaped (.tuple ds) = true ∧ Q (.bl (!ds.any fun z => PyData.eqv z d)) H
theorem room_inT {ds : List PyData} {d : PyData} (sd : SeqAt.shaped d = true) (hu : X.A.units + 65 < cLine) : X.A.units + 1 + min (PyData.depthAll ds) d.depth < cLine := room_in_shaped sd hu
theorem op_inT (hu : X.A.units + 65 < cLine) : OpR X (compareOp .In) (rInT X.K) := by
  intro pins s σ H x y v u Q I rx ry h
  obtain ⟨d, ds, hd, he, sd, se, q⟩ := h
  obtain ⟨as, r1⟩ := Dp.reads I d x v hd rx
  obtain ⟨bs, r2⟩ := Dp.reads I (.tuple ds) y u he ry
  exact SeqAt.in_tuple_reads r2 r1 (SeqAt.canLay_of_shaped se) (SeqAt.canLay_of_shaped sd) (room_inT sd hu) ⟨.bl _, H, I, rfl, q⟩
theorem op_notInT (hu : X.A.units + 65 < cLine) : OpR X (compareOp .NotIn) (rNotInT X.K) := by
  intro pins s σ H x y v u Q I rx ry h
  obtain ⟨d, ds, hd, he, sd, se, q⟩ := h
  obtain ⟨as, r1⟩ := Dp.reads I d x v hd rx
  obtain ⟨bs, r2⟩ := Dp.reads I (.tuple ds) y u he ry
  exact SeqAt.notIn_tuple_reads r2 r1 (SeqAt.canLay_of_shaped se) (SeqAt.canLay_of_shaped sd) (room_inT sd hu) ⟨.bl _, H, I, rfl, q⟩
def rInA (K : PySem.W.Frag) : R2 := fun x y H Q => rInD K x y H Q ∨ rInD1 x y H Q ∨ rInS x y H Q ∨ rInT K x y H Q
def rNinA (K : PySem.W.Frag) : R2 := fun x y H Q => rNotInD K x y H Q ∨ rNinD1 x y H Q ∨ rNotInS x y H Q ∨ rNotInT K x y H Q
theorem op_inA (hu : X.A.units + 65 < cLine) : OpR X (compareOp .In) (rInA X.K) := (op_inD hu).or ((op_inD1 hu).or (op_inS.or (op_inT hu)))
theorem op_ninA (hu : X.A.units + 65 < cLine) : OpR X (compareOp .NotIn) (rNinA X.K) := (op_notInD hu).or ((op_ninD1 hu).or (op_notInS.or (op_notInT hu)))
theorem toPA_any (ds : List D) (p : PyData → Bool) : ((toPA ds).any p) = ds.any fun z => p (toP z) := by
  induction ds with
  | nil => rfl
  | cons d ds ih => simp [toPA, ih]
theorem toP_its {y : D} {ds : List D} (h : itsD y = some ds) : toP y = .list (toPA ds) := by
  cases y <;> cases h <;> simp [toP]
theorem toP_itsT {y : D} {ds : List D} (h : itsT y = some ds) : toP y = .tuple (toPA ds) := by
  cases y <;> cases h <;> simp [toP]
theorem in_cases {ρ : Rho} {σ : Sg} {own : List Addr} {H : Hp} {vx vy : V} {x y : D} {b : Bool} (R : Rel X.K S0 H0 ρ σ own H) (rx : RM X.K S0 H0 own .O H H vx x) (ry : RM X.K S0 H0 own .O H H vy y) (h : inB_ x y = .ok b) :
    (∃ a ov, vy = .ref a ∧ DGet H a vx ov ∧ ov.isSome = b) ∨ (∃ d ds, Dp X.K H vx d ∧ Dp X.K H vy (.list ds) ∧ SeqAt.shaped d = true ∧ SeqAt.shaped (.list ds) = true ∧ (ds.any fun z => PyData.eqv z d) = b) ∨ (∃ c z, vx = .str ⟨#[c]⟩ ∧ vy = .str z ∧ decide (c ∈ z.cps.toList) = b) ∨
      (∃ d ds, Dp X.K H vx d ∧ Dp X.K H vy (.tuple ds) ∧ SeqAt.shaped d = true ∧ SeqAt.shaped (.tuple ds) = true ∧ (ds.any fun z => PyData.eqv z d) = b) := by
  unfold inB_ at h
  split at h
  · next o ho =>
    obtain ⟨a, ov, e1, e2, e3, _⟩ := dget_of rx ry ho
    cases h
    exact .inl ⟨a, ov, e1, e2, e3⟩
  · split at h
    · next ds hd =>
      split at h
      · next hs =>
        cases h
        have e := toP_its hd
        have r2 := ry.dp hs.2
        rw [e] at r2
        refine .inr (.inl ⟨_, _, rx.dp hs.1, r2, hs.1, by rw [← e]; exact hs.2, ?_⟩)
        rw [toPA_any]
      · cases h
    · split at h
      · next ds hd =>
        split at h
        · next hs =>
          cases h
          have e := toP_itsT hd
          have r2 := ry.dp hs.2
          rw [e] at r2
          refine .inr (.inr (.inr ⟨_, _, rx.dp hs.1, r2, hs.1, by rw [← e]; exact hs.2, ?_⟩))
          rw [toPA_any]
        · cases h
      · split at h
        · next s z _ _ _ =>
          split at h
          · next c hc =>
            cases h
            refine .inr (.inr (.inl ⟨c, z, ?_, ry.isStr, rfl⟩))
            rw [rx.isStr]
            obtain ⟨⟨l⟩⟩ := s
            simp only at hc
            subst hc
            rfl
          · cases h
        · cases h
theorem og_in : OpG X W S0 H0 m (rInA X.K) inG := by
  intro ρ σ own H Q vx vy x y R rx ry k
  unfold inG at k
  cases h : inB_ x y with
  | er => rw [h] at k; exact k.elim
  | ex c =>
    exfalso
    revert h
    unfold inB_
    split <;> (try split) <;> (try split) <;> (try split) <;> (try split) <;> intro h <;> cases h
  | ok b =>
    rw [h] at k
    have k' : PX X W S0 H0 own m H σ Q (.ok (.bl b)) := k
    have q := k' _ H (Same.refl H) (.ofBl _)
    rcases in_cases R rx ry h with ⟨a, ov, e1, e2, e3⟩ | ⟨d, ds, e1, e2, e3, e4, e5⟩ | ⟨c, z, e1, e2, e3⟩ | ⟨d, ds, e1, e2, e3, e4, e5⟩
    · exact .inr (.inl ⟨a, ov, e1, e2, by rw [e3]; exact q⟩)
    · exact .inl ⟨d, ds, e1, e2, e3, e4, by rw [e5]; exact q⟩
    · exact .inr (.inr (.inl ⟨c, z, e1, e2, by rw [e3]; exact q⟩))
    · exact .inr (.inr (.inr ⟨d, ds, e1, e2, e3, e4, by rw [e5]; exact q⟩))
theorem og_nin : OpG X W S0 H0 m (rNinA X.K) ninG := by
  intro ρ σ own H Q vx vy x y R rx ry k
  unfold ninG at k
  cases h : inB_ x y with
  | er => rw [h] at k; exact k.elim
  | ex c =>
    exfalso
    revert h
    unfold inB_
    split <;> (try split) <;> (try split) <;> (try split) <;> (try split) <;> intro h <;> cases h
  | ok b =>
    rw [h] at k
    have k' : PX X W S0 H0 own m H σ Q (.ok (.bl (!b))) := k
    have q := k' _ H (Same.refl H) (.ofBl _)
    rcases in_cases R rx ry h with ⟨a, ov, e1, e2, e3⟩ | ⟨d, ds, e1, e2, e3, e4, e5⟩ | ⟨c, z, e1, e2, e3⟩ | ⟨d, ds, e1, e2, e3, e4, e5⟩
    · exact .inr (.inl ⟨a, ov, e1, e2, by rw [e3]; exact q⟩)
    · exact .inl ⟨d, ds, e1, e2, e3, e4, by rw [e5]; exact q⟩
    · exact .inr (.inr (.inl ⟨c, z, e1, e2, by rw [e3]; exact q⟩))
    · exact .inr (.inr (.inr ⟨d, ds, e1, e2, e3, e4, by rw [e5]; exact q⟩))
/-! ### d.get -/
/-! ### not e, by truth -/
/-! ### name += e, of ints -/
/-! ### list.clear, reverse, insert, extend -/
end
end VL
set_option Elab.async false
set_option linter.all false
set_option maxRecDepth 100000
/-! VL10: divmod. -/
namespace VL
open PySem L2 PySem.Spec PyProof.Rows
section
variable {X : Cx} {W : WX} {S0 : Addr → Prop} {H0 : Hp} {rm m ma mb mc : Md} {pos apos cpos px : Pos} {e e2 a b c o : Expr} {es : List Expr} {fe f2 fa fb fc : Rho → M D} {fas : Rho → M (List D)} {x : Str}
/-! ### a, b = x, y -/
def sPar2 (i j : Nat) (fa : Rho → M (List D)) : Rho → Res := fun ρ => match fa ρ with
  | .ok [x, y] => .nx ((ρ.set i (.sh x)).set j (.sh y))
  | .ex c => .ex c ρ
  | _ => .er
theorem par_p2 {Q : V → D → Prop} {vs : List V} {x y : D} (r : Paired Q vs [x, y]) : ∃ v w, vs = [v, w] ∧ Q v x ∧ Q w y := by
  cases r with
  | cons r1 t =>
    cases t with
    | cons r2 t =>
      cases t
      exact ⟨_, _, rfl, r1, r2⟩
theorem vs_par2 {i j : Nat} {x y : Str} {p1 p2 pt : Pos} {kt k2 : Nat} {pt2 : Pos} (hc : X.calm = true) (hN : X.N.Nodup) (h : VA X W S0 H0 .E [a, b] fas) (hi : X.N[i]? = some x := by rfl) (hj : X.N[j]? = some y := by rfl) (hij : i ≠ j := by decide)
    (hx : X.env.scope.names.lookup x = some .local := by rfl) (hy : X.env.scope.names.lookup y = some .local := by rfl)
    (hw : swappedStores [.Tuple [.Name x p1, .Name y p2] kt pt] (.Tuple [a, b] k2 pt2) X.env = pure (some [x, y]) := by rfl)
    (hs : swapsWithSole [.Tuple [.Name x p1, .Name y p2] kt pt] (.Tuple [a, b] k2 pt2) pos.line X.env = pure false := by rfl) : VS X W S0 H0 rm (.Assign [.Tuple [.Name x p1, .Name y p2] kt pt] (.Tuple [a, b] k2 pt2) pos) (sPar2 i j fas) := by
  obtain ⟨ta, pa, qa⟩ := h.p
  refine ⟨_, ps_par hc hN hi hj hij hx hy pa hw hs, fun ρ σ own H D R k => qa ρ σ own H _ R ?_⟩
  unfold sPar2 at k
  revert k
  cases fas ρ with
  | er => exact id
  | ex c => exact fun k cv d H' i s => k cv d σ own H' i (R.grow s) (.same s)
  | ok ds =>
    intro k vs H1 s1 r1
    split at k
    · next u w e =>
      cases e
      obtain ⟨v1, v2, rfl, r2, r3⟩ := par_p2 r1
      exact ⟨_, _, rfl, k _ own H1 (((R.grow s1).setSh r2).setSh r3) (.same s1)⟩
    · next e => cases e
    · exact k.elim
/-! ### s.join(l) -/
end
end VL
set_option Elab.async false
set_option linter.all false
set_option maxRecDepth 100000
set_option maxHeartbeats 1000000
/-! VL11: zip and enumerate whose source is a text. -/
namespace VL
open PySem L2 PySem.Spec PyProof.Rows
open PySem.Sem (wp)
section
variable {prog : Program} {w : World} {A : Around} {E : Value → Shared → Prop} {s : Shared}
/-- which address is which: the zip, its two tuples, its two sources, what the sources lean on -/
structure ZA (z TI TO i1 i2 : Addr) (f1 f2 : List Addr) : Prop where
  a : TI ≠ z ∧ TO ≠ z ∧ i1 ≠ z ∧ i2 ≠ z ∧ TI ≠ TO ∧ TI ≠ i1 ∧ TI ≠ i2 ∧ TO ≠ i1 ∧ TO ≠ i2 ∧ i1 ≠ i2
  b : z ∉ f1 ∧ TO ∉ f1 ∧ i2 ∉ f1
  c : z ∉ f2 ∧ TO ∉ f2 ∧ i1 ∉ f2
theorem dr_up {it : Addr} {fp : List Addr} {n i : Nat} {P : Nat → Value → Prop} {St : Nat → Heap → Prop} (D : Draws prog w A it fp n P St) {h h' : Heap} {b : Addr} (st : St i h) (hb : b ∉ fp) (k : Heap.SameBut b h h') : St i h' :=
  D.frame i h h' st fun c hc o e => k.extBut c o (fun q => hb (q ▸ hc)) e
variable {z TI TO i1 i2 : Addr} {f1 f2 : List Addr} {n1 n2 i : Nat} {P1 P2 : Nat → Value → Prop} {S1 S2 : Nat → Heap → Prop} {a b : Value}
theorem zx_item {Q : Value → Shared → Prop} (D1 : Draws prog w A i1 f1 n1 P1 S1) (D2 : Draws prog w A i2 f2 n2 P2 S2) (D : ZA z TI TO i1 i2 f1 f2)
    (gz : IsZip s.heap z TI TO .none) (gI : IsPair s.heap TI (.ref i1) (.ref i2)) (gO : IsPair s.heap TO a b) (m1 : S1 i s.heap) (m2 : S2 i s.heap) (l1 : i < n1) (l2 : i < n2)
    (kQ : ∀ x y h' tk, P1 i x → P2 i y → IsZip h' z TI TO (rawInt s.heap.objs.size) → IsPair h' TO x y → S1 (i + 1) h' → S2 (i + 1) h' → IsPair h' s.heap.objs.size x y →
      (∀ c o, c ≠ z → c ≠ TO → c ≠ i1 → c ≠ i2 → s.heap.get? c = some o → h'.get? c = some o) → Q (.ref s.heap.objs.size) { s with heap := h', toks := tk }) :
    wpAny (model prog w) A (Builtin.«zip.__next__» ⟨[.ref z], []⟩) (fun fin s' => ∃ v, fin = .done (.ret v) ∧ Q v s') E s := by
  obtain ⟨hp, gg, dd, tk0, os⟩ := s
  obtain ⟨q1, q2, q3, q4, q5, q6, q7, q8, q9, q10⟩ := D.a
  obtain ⟨p1, p2, p3⟩ := D.b
  obtain ⟨r1, r2, r3⟩ := D.c
  show wpAny (model prog w) A (field (.ref z) 2 >>= _) _ E _
  refine wpAny_bind (wpAny_field gz rfl (x := .bool false) rfl ?_); show wpAny (model prog w) A (field (.ref z) 3 >>= _) _ E _
  refine wpAny_bind (wpAny_field gz rfl (x := .ref TI) rfl (wpAny_bind (wpAny_seqItems gI rfl ?_)))
  show wpAny (model prog w) A (Builtin.SmallTypes.ownedTupleIsFree (.ref z) >>= _) _ E _
  refine wpAny_bind ?_; unfold Builtin.SmallTypes.ownedTupleIsFree
  refine wpAny_bind (wpAny_field gz rfl (x := .none) rfl (wpAny_pure ?_)); simp only [if_true]
  refine wpAny_bind (wpAny_rule (wpAny_bind (wpAny_field gz rfl (x := .ref TO) rfl (wpAny_bind (wpAny_setField_rec gz (by simp) fun j1 y1 k1 => ?_)))))
  replace y1 : IsZip j1 z TI TO .ellipsis := y1
  replace k1 : Heap.SameBut z hp j1 := k1
  refine wpAny_bind ?_; simp only [List.zipIdx_cons, List.zipIdx_nil, List.forIn_cons, List.forIn_nil]
  -- the first source
  refine wpAny_bind (wpAny_bind (wpAny_onRaise ?_)); show wpAny (model prog w) A (Builtin.SmallTypes.nextOf (.ref i1) >>= _) _ _ _
  refine wpAny_bind (D1.item i _ _ _ l1 (dr_up D1 m1 p1 k1) fun x j2 t2 px x1 k2 => wpAny_pure ?_)
  replace k2 : Heap.SameBut i1 j1 j2 := k2
  have o2 : IsPair j2 TO a b := k2.extBut _ _ q8 (k1.extBut _ _ q2 gO)
  refine wpAny_bind (wpAny_seqItems o2 rfl (wpAny_bind (wpAny_updateSeq_pair o2 fun j3 o3 k3 => ?_)))
  replace o3 : IsPair j3 TO x b := o3
  replace k3 : Heap.SameBut TO j2 j3 := k3
  refine wpAny_bind (wpAny_letGo (wpAny_pure ?_))
  -- the second
  refine wpAny_bind (wpAny_bind (wpAny_onRaise ?_)); show wpAny (model prog w) A (Builtin.SmallTypes.nextOf (.ref i2) >>= _) _ _ _
  refine wpAny_bind (D2.item i _ _ _ l2 (dr_up D2 (dr_up D2 (dr_up D2 m2 r1 k1) r3 k2) r2 k3) fun y j4 t4 py x2 k4 => wpAny_pure ?_)
  replace k4 : Heap.SameBut i2 j3 j4 := k4
  have o4 : IsPair j4 TO x b := k4.extBut _ _ q9 o3
  refine wpAny_bind (wpAny_seqItems o4 rfl (wpAny_bind (wpAny_updateSeq_pair o4 fun j5 o5 k5 => ?_)))
  replace o5 : IsPair j5 TO x y := o5
  replace k5 : Heap.SameBut TO j4 j5 := k5
  refine wpAny_bind (wpAny_letGo (wpAny_pure (wpAny_pure ?_)))
  refine wpAny_bind (wpAny_seqItems o5 rfl (wpAny_bind (wpAny_newTuple ?_)))
  have zs : j5.objs.size = hp.objs.size := by rw [k5.1, k4.1, k3.1, k2.1, k1.1]
  have y5 : IsZip j5 z TI TO .ellipsis := k5.extBut _ _ q2.symm (k4.extBut _ _ q4.symm (k3.extBut _ _ q2.symm (k2.extBut _ _ q3.symm y1)))
  have keep : ∀ c o, c ≠ z → c ≠ TO → c ≠ i1 → c ≠ i2 → hp.get? c = some o → j5.get? c = some o := fun c o c1 c2 c3 c4 e =>
    k5.extBut _ _ c2 (k4.extBut _ _ c4 (k3.extBut _ _ c2 (k2.extBut _ _ c3 (k1.extBut _ _ c1 e))))
  have w1 : S1 (i + 1) j5 := dr_up D1 (dr_up D1 (dr_up D1 x1 p2 k3) p3 k4) p2 k5
  have w2 : S2 (i + 1) j5 := dr_up D2 x2 r2 k5
  have zl : z < j5.objs.size := Heap.lt_size y5
  show wpAny (model prog w) A (Builtin.SmallTypes.ownedTupleHandOut (.ref z) (.ref j5.objs.size) >>= _) _ E _
  refine wpAny_bind ?_; unfold Builtin.SmallTypes.ownedTupleHandOut
  have y6 : IsZip (j5.push { cls := .type "tuple", data := .seq #[x, y] }) z TI TO .ellipsis := Heap.get?_push_of_some _ y5
  refine wpAny_bind (wpAny_setField_rec y6 (by simp) fun j7 y7 k7 => ?_)
  replace y7 : IsZip j7 z TI TO (rawInt j5.objs.size) := y7
  refine wpAny_setField_rec y7 (by simp) fun j8 y8 k8 => ?_
  replace y8 : IsZip j8 z TI TO (rawInt j5.objs.size) := y8
  have up : ∀ c o, c ≠ z → j5.get? c = some o → j8.get? c = some o := fun c o c1 e => k8.extBut _ _ c1 (k7.extBut _ _ c1 (Heap.get?_push_of_some _ e))
  have t8 : IsPair j8 j5.objs.size x y := k8.extBut _ _ (Nat.ne_of_gt zl) (k7.extBut _ _ (Nat.ne_of_gt zl) (Heap.get?_push_size _ rfl))
  rw [zs] at y8 t8
  refine wpAny_pure ⟨_, rfl, ?_⟩
  show Q (.ref j5.objs.size) _
  rw [zs]
  exact kQ x y j8 t4 px py y8 (up _ _ q2 o5) (D1.frame _ _ _ w1 fun c hc o e => up c o (fun q => p1 (q ▸ hc)) e) (D2.frame _ _ _ w2 fun c hc o e => up c o (fun q => r1 (q ▸ hc)) e) t8 fun c o c1 c2 c3 c4 e => up c o c1 (keep c o c1 c2 c3 c4 e)
/-- nothing more comes -/
def Stops (prog : Program) (w : World) (A : Around) (it : Addr) (S : Heap → Prop) : Prop := ∀ (s : Shared) (Q : Value → Shared → Prop) (E : Value → Shared → Prop), S s.heap →
  (∀ h' e, Heap.ExtBut it s.heap h' → (∃ o, h'.get? e = some o ∧ o.cls = .type "StopIteration") → E (.ref e) { s with heap := h' }) → wpAny (model prog w) A (Builtin.SmallTypes.nextOf (.ref it)) Q E s
theorem zx_end {Q : Fin → Shared → Prop} (D1 : Draws prog w A i1 f1 n1 P1 S1) (D2 : Draws prog w A i2 f2 n2 P2 S2) (D : ZA z TI TO i1 i2 f1 f2)
    (gz : IsZip s.heap z TI TO .none) (gI : IsPair s.heap TI (.ref i1) (.ref i2)) (gO : IsPair s.heap TO a b) (m1 : S1 i s.heap) (m2 : S2 i s.heap) (hn : Stops prog w A i1 (S1 i) ∨ (i < n1 ∧ Stops prog w A i2 (S2 i)))
    (kE : ∀ h' e tk, (∀ c o, c ≠ z → c ≠ TO → c ≠ i1 → c ≠ i2 → s.heap.get? c = some o → h'.get? c = some o) → (∃ o, h'.get? e = some o ∧ o.cls = .type "StopIteration") → E (.ref e) { s with heap := h', toks := tk }) :
    wpAny (model prog w) A (Builtin.«zip.__next__» ⟨[.ref z], []⟩) Q E s := by
  obtain ⟨hp, gg, dd, tk0, os⟩ := s
  obtain ⟨q1, q2, q3, q4, q5, q6, q7, q8, q9, q10⟩ := D.a
  obtain ⟨p1, p2, p3⟩ := D.b
  obtain ⟨r1, r2, r3⟩ := D.c
  show wpAny (model prog w) A (field (.ref z) 2 >>= _) _ E _
  refine wpAny_bind (wpAny_field gz rfl (x := .bool false) rfl ?_); show wpAny (model prog w) A (field (.ref z) 3 >>= _) _ E _
  refine wpAny_bind (wpAny_field gz rfl (x := .ref TI) rfl (wpAny_bind (wpAny_seqItems gI rfl ?_)))
  show wpAny (model prog w) A (Builtin.SmallTypes.ownedTupleIsFree (.ref z) >>= _) _ E _
  refine wpAny_bind ?_; unfold Builtin.SmallTypes.ownedTupleIsFree
  refine wpAny_bind (wpAny_field gz rfl (x := .none) rfl (wpAny_pure ?_)); simp only [if_true]
  refine wpAny_bind (wpAny_rule (wpAny_bind (wpAny_field gz rfl (x := .ref TO) rfl (wpAny_bind (wpAny_setField_rec gz (by simp) fun j1 y1 k1 => ?_)))))
  replace y1 : IsZip j1 z TI TO .ellipsis := y1
  replace k1 : Heap.SameBut z hp j1 := k1
  refine wpAny_bind ?_; simp only [List.zipIdx_cons, List.zipIdx_nil, List.forIn_cons, List.forIn_nil]
  refine wpAny_bind (wpAny_bind (wpAny_onRaise ?_)); show wpAny (model prog w) A (Builtin.SmallTypes.nextOf (.ref i1) >>= _) _ _ _
  rcases hn with hn | ⟨l1, hn⟩
  · refine wpAny_bind (hn _ _ _ (dr_up D1 m1 p1 k1) fun j2 e k2 he => ?_)
    replace k2 : Heap.ExtBut i1 j1 j2 := k2
    obtain ⟨oe, o1, o2⟩ := he
    have y2 : IsZip j2 z TI TO .ellipsis := k2 _ _ q3.symm y1
    have ne : e ≠ z := fun q => by subst q; rw [y2] at o1; cases o1; simp at o2
    exact wpAny_setField_rec y2 (by simp) fun j3 _ k3 => kE j3 e _ (fun c o c1 _ c3 _ g => k3.extBut _ _ c1 (k2 _ _ c3 (k1.extBut _ _ c1 g))) ⟨oe, k3.extBut _ _ ne o1, o2⟩
  · refine wpAny_bind (D1.item i _ _ _ l1 (dr_up D1 m1 p1 k1) fun x j2 t2 px x1 k2 => wpAny_pure ?_)
    replace k2 : Heap.SameBut i1 j1 j2 := k2
    have o2 : IsPair j2 TO a b := k2.extBut _ _ q8 (k1.extBut _ _ q2 gO)
    refine wpAny_bind (wpAny_seqItems o2 rfl (wpAny_bind (wpAny_updateSeq_pair o2 fun j3 o3 k3 => ?_)))
    replace k3 : Heap.SameBut TO j2 j3 := k3
    refine wpAny_bind (wpAny_letGo (wpAny_pure ?_))
    refine wpAny_bind (wpAny_bind (wpAny_onRaise ?_)); show wpAny (model prog w) A (Builtin.SmallTypes.nextOf (.ref i2) >>= _) _ _ _
    refine wpAny_bind (hn _ _ _ (dr_up D2 (dr_up D2 (dr_up D2 m2 r1 k1) r3 k2) r2 k3) fun j4 e k4 he => ?_)
    replace k4 : Heap.ExtBut i2 j3 j4 := k4
    obtain ⟨oe, o5, o6⟩ := he
    have y4 : IsZip j4 z TI TO .ellipsis := k4 _ _ q4.symm (k3.extBut _ _ q2.symm (k2.extBut _ _ q3.symm y1))
    have ne : e ≠ z := fun q => by subst q; rw [y4] at o5; cases o5; simp at o6
    exact wpAny_setField_rec y4 (by simp) fun j5 _ k5 => kE j5 e _ (fun c o c1 c2 c3 c4 g => k5.extBut _ _ c1 (k4 _ _ c4 (k3.extBut _ _ c2 (k2.extBut _ _ c3 (k1.extBut _ _ c1 g))))) ⟨oe, k5.extBut _ _ ne o5, o6⟩
theorem zx_next {Q : Option Value → Shared → Prop} (D1 : Draws prog w A.in1 i1 f1 n1 P1 S1) (D2 : Draws prog w A.in1 i2 f2 n2 P2 S2) (D : ZA z TI TO i1 i2 f1 f2)
    (gz : IsZip s.heap z TI TO .none) (gI : IsPair s.heap TI (.ref i1) (.ref i2)) (gO : IsPair s.heap TO a b) (m1 : S1 i s.heap) (m2 : S2 i s.heap) (l1 : i < n1) (l2 : i < n2)
    (kQ : ∀ x y h' tk, P1 i x → P2 i y → IsZip h' z TI TO (rawInt s.heap.objs.size) → IsPair h' TO x y → S1 (i + 1) h' → S2 (i + 1) h' → IsPair h' s.heap.objs.size x y →
      (∀ c o, c ≠ z → c ≠ TO → c ≠ i1 → c ≠ i2 → s.heap.get? c = some o → h'.get? c = some o) → Q (some (.ref s.heap.objs.size)) { s with heap := h', toks := tk }) :
    wpAny (model prog w) A (pyNext (.ref z)) Q E s := by
  have T : s.TypeIs (.ref z) "zip" := ⟨_, gz, rfl⟩
  unfold pyNext
  refine wpAny_bind (wpAny_attempt (wpAny_callSpecial?_slot (name := Str.ofString "__next__") T F.slot_zip_next (wpAny_call_entry F.slot_zip_next T F.entry_zip_next ?_ (F.args_zip_next_1 _))))
  exact zx_item D1 D2 D gz gI gO m1 m2 l1 l2 fun x y h' tk g1 g2 g3 g4 g5 g6 g7 g8 => wpAny_pure (kQ x y h' tk g1 g2 g3 g4 g5 g6 g7 g8)
theorem zx_stop {Q : Option Value → Shared → Prop} (D1 : Draws prog w A.in1 i1 f1 n1 P1 S1) (D2 : Draws prog w A.in1 i2 f2 n2 P2 S2) (D : ZA z TI TO i1 i2 f1 f2)
    (gz : IsZip s.heap z TI TO .none) (gI : IsPair s.heap TI (.ref i1) (.ref i2)) (gO : IsPair s.heap TO a b) (m1 : S1 i s.heap) (m2 : S2 i s.heap) (hn : Stops prog w A.in1 i1 (S1 i) ∨ (i < n1 ∧ Stops prog w A.in1 i2 (S2 i)))
    (kQ : ∀ h' tk, (∀ c o, c ≠ z → c ≠ TO → c ≠ i1 → c ≠ i2 → s.heap.get? c = some o → h'.get? c = some o) → Q none { s with heap := h', toks := tk }) :
    wpAny (model prog w) A (pyNext (.ref z)) Q E s := by
  have T : s.TypeIs (.ref z) "zip" := ⟨_, gz, rfl⟩
  unfold pyNext
  refine wpAny_bind (wpAny_attempt (wpAny_callSpecial?_slot (name := Str.ofString "__next__") T F.slot_zip_next (wpAny_call_entry F.slot_zip_next T F.entry_zip_next ?_ (F.args_zip_next_1 _))))
  refine zx_end D1 D2 D gz gI gO m1 m2 hn fun h' e tk g ⟨o, o1, o2⟩ => ?_
  exact wpAny_bind (wpAny_isInstance (T := "StopIteration") (b := true) ⟨o, o1, o2⟩ isSubtype_stop (wpAny_pure (kQ h' tk g)))
/-! ### zip(list, text) -/
def sigD (x : Str) : Nat → Value → Prop := fun i v => ∃ c u, x.cps[i]? = some c ∧ v = .str ⟨#[c]⟩ u
theorem dr_str {prog : Program} {w : World} {A : Around} (hh : A.handled = none) (it : Addr) (x : Str) (t : Tok) : Draws prog w A it [it] x.cps.size (sigD x) (fun i h => h.IsStrIter it (strIterType x) x t i) := by
  unfold strIterType
  split
  · exact Draws.strAscii hh it x t
  · exact Draws.strWide hh it x t
theorem pyIter_sig {x : Str} {t : Tok} {Q : Value → Shared → Prop} (h : Q (.ref s.heap.objs.size) { s with heap := s.heap.push { cls := .type (strIterType x), data := .fields #[.str x t, .int 0 0] } }) : wpAny (model prog w) A (pyIter (.str x t)) Q E s := by
  unfold strIterType at h
  split at h
  · next c => exact wpAny_pyIter_ascii (by simpa using c) h
  · next c => exact wpAny_pyIter_wide (by simpa using c) h
abbrev zx1 (h : Heap) (l : Addr) : Heap := h.push { cls := .type "list_iterator", data := .fields #[.ref l, .int 0 0] }
abbrev zx2 (h : Heap) (l : Addr) (x : Str) (t : Tok) : Heap := (zx1 h l).push { cls := .type (strIterType x), data := .fields #[.str x t, .int 0 0] }
abbrev zx3 (h : Heap) (l : Addr) (x : Str) (t : Tok) : Heap := (zx2 h l x t).push { cls := .type "tuple", data := .seq #[.ref h.objs.size, .ref (zx1 h l).objs.size] }
abbrev zx4 (h : Heap) (l : Addr) (x : Str) (t : Tok) : Heap := (zx3 h l x t).push { cls := .type "tuple", data := .seq #[.none, .none] }
abbrev zx5 (h : Heap) (l : Addr) (x : Str) (t : Tok) : Heap := (zx4 h l x t).push { cls := .type "zip", data := .fields #[.none, .bool false, .bool false, .ref (zx2 h l x t).objs.size, .ref (zx3 h l x t).objs.size] }
theorem zx_new (l : Addr) (xs : Array Value) (x : Str) (t : Tok) :
    Meets (Builtin.«zip.__new__» ⟨[.type "zip", .ref l, .str x t], []⟩) (fun _ R s => s.heap.IsList l xs ∧ R (.ok (.ret (.ref (zx4 s.heap l x t).objs.size))) { s with heap := zx5 s.heap l x t }) :=
  .of_wp fun prog w A R s ⟨hl, h⟩ => by
    obtain ⟨hp, g, d, tk, os⟩ := s
    have sb := sub_zip
    have L : Heap.IsList (Shared.heap ⟨hp, g, d, tk, os⟩) l xs := hl
    wp_walk using wpAny_pyIter_list L, pyIter_sig
    exact ⟨_, rfl, h⟩
theorem call_zx {l : Addr} {xs : Array Value} {x : Str} {t : Tok} {Q : Value → Shared → Prop} (hl : s.heap.IsList l xs)
    (h : ∀ h' n, n = s.heap.objs.size → IsZip h' (n + 4) (n + 2) (n + 3) .none → IsPair h' (n + 2) (.ref n) (.ref (n + 1)) → IsPair h' (n + 3) .none .none → h'.IsListIter n l 0 → h'.IsStrIter (n + 1) (strIterType x) x t 0 →
      (∀ c o, s.heap.get? c = some o → h'.get? c = some o) → Q (.ref (n + 4)) { s with heap := h' }) :
    wpAny (model prog w) A (call (.type "zip") [.ref l, .str x t]) Q E s := by
  refine callType_new F.called_zip (by decide) (F.typeCall_zip_2 _ _) (F.newCall_zip_2 _ _) (fun obj => F.args_object_init_3 obj _ _) F.entry_zip_new (zx_new l xs x t) ⟨hl, ?_⟩
  have e1 : (zx1 s.heap l).objs.size = s.heap.objs.size + 1 := Heap.size_push ..
  have e2 : (zx2 s.heap l x t).objs.size = s.heap.objs.size + 2 := by rw [Heap.size_push, e1]
  have e3 : (zx3 s.heap l x t).objs.size = s.heap.objs.size + 3 := by rw [Heap.size_push, e2]
  have e4 : (zx4 s.heap l x t).objs.size = s.heap.objs.size + 4 := by rw [Heap.size_push, e3]
  have g5 : (zx5 s.heap l x t).get? (zx4 s.heap l x t).objs.size = some _ := Heap.get?_push_size _ rfl
  have g4 : (zx5 s.heap l x t).get? (zx3 s.heap l x t).objs.size = some _ := Heap.get?_push_of_some _ (Heap.get?_push_size _ rfl)
  have g3 : (zx5 s.heap l x t).get? (zx2 s.heap l x t).objs.size = some _ := Heap.get?_push_of_some _ (Heap.get?_push_of_some _ (Heap.get?_push_size _ rfl))
  have g2 : (zx5 s.heap l x t).get? (zx1 s.heap l).objs.size = some _ := Heap.get?_push_of_some _ (Heap.get?_push_of_some _ (Heap.get?_push_of_some _ (Heap.get?_push_size _ rfl)))
  have g1 : (zx5 s.heap l x t).get? s.heap.objs.size = some _ := Heap.get?_push_of_some _ (Heap.get?_push_of_some _ (Heap.get?_push_of_some _ (Heap.get?_push_of_some _ (Heap.get?_push_size _ rfl))))
  show (∃ o, (zx5 s.heap l x t).get? (zx4 s.heap l x t).objs.size = some o ∧ _) ∧ _
  rw [e2, e3, e4] at g5
  rw [e1, e2] at g3
  rw [e3] at g4
  rw [e1] at g2
  rw [e4]
  exact ⟨⟨_, g5, rfl⟩, h _ _ rfl g5 g3 g4 ⟨_, g1, rfl, rfl⟩ ⟨_, g2, rfl, rfl⟩ fun c o e => Heap.get?_push_of_some _ (Heap.get?_push_of_some _ (Heap.get?_push_of_some _ (Heap.get?_push_of_some _ (Heap.get?_push_of_some _ e))))⟩
end
/-- the list at a and the text x, in new pairs -/
def ItzX (K : PySem.W.Frag) (a : Addr) (x : Str) : It :=
  ⟨fun i H => ∃ (xs : List V) (v : V), SqL K H a xs ∧ xs[i]? = some v ∧ i < x.cps.size,
    fun i H v H' => ∃ T y c, v = .ref T ∧ H T = none ∧ H' = upd H T (.tup [y, .str ⟨#[c]⟩]) ∧ (∀ xs, SqL K H a xs → xs[i]? = some y) ∧ x.cps[i]? = some c,
    fun i H => ∃ xs : List V, SqL K H a xs ∧ (xs.length ≤ i ∨ x.cps.size ≤ i)⟩
theorem turn_zx {P : Program} {w : World} {K : PySem.W.Frag} {elts : List Expr} {kk : Nat} {tpos : Pos} {a z TI TO i1 i2 : Addr} {x : Str} {t : Tok} (D : ZA z TI TO i1 i2 [i1, a] [i2]) :
    Turn P w K (.Tuple elts kk tpos) (ItzX K a x) [z, TI, TO, i1, i2] z (fun i h => IsZip h z TI TO .none ∧ IsPair h TI (.ref i1) (.ref i2) ∧ (∃ p q, IsPair h TO p q) ∧ h.IsListIter i1 a i ∧ h.IsStrIter i2 (strIterType x) x t i) where
  mem := by simp
  obj := fun i h st c hc => by
    obtain ⟨gz, gI, ⟨p, q, gO⟩, ⟨o1, e1, _, d1⟩, ⟨o2, e2, _, d2⟩⟩ := st
    simp only [List.mem_cons, List.not_mem_nil, or_false] at hc
    rcases hc with q | q | q | q | q <;> rw [q]
    · exact ⟨_, gz, fun v q => nomatch q⟩
    · exact ⟨_, gI, fun v q => nomatch q⟩
    · exact ⟨_, gO, fun v q => nomatch q⟩
    · exact ⟨o1, e1, fun v q => by rw [d1] at q; cases q⟩
    · exact ⟨o2, e2, fun v q => by rw [d2] at q; cases q⟩
  keep := fun i h h' st k => by
    obtain ⟨gz, gI, ⟨p, q, gO⟩, m1, ⟨o2, e2, d2⟩⟩ := st
    exact ⟨k z (by simp) _ gz, k TI (by simp) _ gI, ⟨p, q, k TO (by simp) _ gO⟩, m1.at fun o q => k i1 (by simp) o q, ⟨o2, k i2 (by simp) _ e2, d2⟩⟩
  item := by
    intro X hP hw hK hc i pins s σ H E I hf st hg
    subst hP hw hK
    obtain ⟨gz, gI, ⟨p0, q0, gO⟩, m1, m2⟩ := st
    obtain ⟨xs, y, hq, hy, hl⟩ := hg
    obtain ⟨its, rv, p, _⟩ := I.list hq
    obtain ⟨u, hu, ru⟩ := rv.get hy
    have zl : z < s.heap.objs.size := Heap.lt_size gz
    have hd1 : i < its.toArray.size := by rw [List.size_toArray]; exact (List.getElem?_eq_some_iff.mp hu).1
    obtain ⟨q1, q2, q3, q4, q5, q6, q7, q8, q9, q10⟩ := D.a
    have ha1 : a ≠ i1 := fun e => by
      obtain ⟨o, e1, c1, _⟩ := m1
      obtain ⟨o', e2, c2, _⟩ := p.isList
      rw [← e, e2] at e1
      cases e1
      rw [c2] at c1
      exact absurd (Value.type.inj c1) (by decide)
    have D1 : Draws X.prog X.w X.A.in1 i1 [i1, a] its.toArray.size (fun i v => its.toArray[i]? = some v) (fun i h => h.IsListIter i1 a i ∧ h.IsList a its.toArray) := Draws.list (A := X.A.in1) (show X.A.in1.handled = none from I.ok.hd hc) i1 a ha1 its.toArray
    have D2 : Draws X.prog X.w X.A.in1 i2 [i2] x.cps.size (sigD x) (fun i h => h.IsStrIter i2 (strIterType x) x t i) := dr_str (A := X.A.in1) (show X.A.in1.handled = none from I.ok.hd hc) i2 x t
    refine zx_next (i := i) D1 D2 D gz gI gO ⟨m1, p.isList⟩ m2 hd1 hl fun v1 v2 h' tk w1 w2 g1 g2 g3 g4 g5 g6 => ?_
    obtain ⟨c, tc, hcx, rfl⟩ := w2
    have e1 : v1 = u := by
      rw [List.getElem?_toArray, hu] at w1
      exact (Option.some.inj w1).symm
    subst e1
    refine ⟨_, rfl, wpAny_letOwnedTupleGo_zip (s := { s with heap := h', toks := tk }) g1 fun h2 g1' sb => ?_⟩
    have hT2 : h2.get? s.heap.objs.size = some { cls := .type "tuple", data := .seq #[v1, .str ⟨#[c]⟩ tc] } := (sb.2 _ (Nat.ne_of_gt zl)).trans g5
    have new : ObjOk X.prog X.w (upd H s.heap.objs.size (.tup [y, .str ⟨#[c]⟩])) h2 s.heap.objs.size (.tup [y, .str ⟨#[c]⟩]) :=
      ⟨show 2 ≤ sizeLine by rw [sizeLine_eq]; decide, [v1, .str ⟨#[c]⟩ tc], .cons ru (.cons ⟨tc, rfl⟩ .nil), ⟨_, hT2, rfl, _, rfl⟩⟩
    have nin {c : Addr} (hb : c ∉ [z, TI, TO, i1, i2]) : c ≠ z ∧ c ≠ TI ∧ c ≠ TO ∧ c ≠ i1 ∧ c ≠ i2 := by
      simp only [List.mem_cons, List.not_mem_nil, or_false, not_or] at hb
      exact hb
    have I1 : Inv X pins σ (upd H s.heap.objs.size (.tup [y, .str ⟨#[c]⟩])) { s with heap := h2, toks := tk } :=
      I.turnedNew (t' := tk) (ch := [z, TI, TO, i1, i2]) (fun c o hb q => by
        obtain ⟨b1, b2, b3, b4, b5⟩ := nin hb
        exact (sb.2 c b1).trans (g6 c o b1 b3 b4 b5 q)) hf (Nat.le_refl _) new
    refine ⟨.ref s.heap.objs.size, _, I1, rfl, ⟨_, y, c, rfl, I.hok.fresh (Nat.le_refl _), rfl, fun l hl => by rw [I.list_inj hl hq]; exact hy, hcx⟩, ⟨g1', ?_, ⟨v1, .str ⟨#[c]⟩ tc, ?_⟩, ?_, ?_⟩, fun c hcm => ?_⟩
    · exact (sb.2 _ q1).trans (g6 _ _ q1 q5 q6 q7 gI)
    · exact (sb.2 _ q2).trans g2
    · exact g3.1.at fun o q => (sb.2 _ q3).trans q
    · obtain ⟨o, e, r⟩ := g4
      exact ⟨o, (sb.2 _ q4).trans e, r⟩
    · have hlt : c < s.heap.objs.size := by
        simp only [List.mem_cons, List.not_mem_nil, or_false] at hcm
        rcases hcm with q | q | q | q | q <;> rw [q]
        · exact zl
        · exact Heap.lt_size gI
        · exact Heap.lt_size gO
        · obtain ⟨_, e1, _⟩ := m1; exact Heap.lt_size e1
        · obtain ⟨_, e2, _⟩ := m2; exact Heap.lt_size e2
      rw [upd_ne (Nat.ne_of_lt hlt)]
      exact (hf c hcm).1
  done := by
    intro X hP hw hK hc i pins s σ H E I hf st hg
    subst hP hw hK
    obtain ⟨gz, gI, ⟨p0, q0, gO⟩, m1, m2⟩ := st
    obtain ⟨xs, hq, h3⟩ := hg
    obtain ⟨its, rv, p, _⟩ := I.list hq
    have hlen := rv.length
    have ha1 : a ≠ i1 := fun e => by
      obtain ⟨o, e1, c1, _⟩ := m1
      obtain ⟨o', e2, c2, _⟩ := p.isList
      rw [← e, e2] at e1
      cases e1
      rw [c2] at c1
      exact absurd (Value.type.inj c1) (by decide)
    have D1 : Draws X.prog X.w X.A.in1 i1 [i1, a] its.toArray.size (fun i v => its.toArray[i]? = some v) (fun i h => h.IsListIter i1 a i ∧ h.IsList a its.toArray) := Draws.list (A := X.A.in1) (show X.A.in1.handled = none from I.ok.hd hc) i1 a ha1 its.toArray
    have D2 : Draws X.prog X.w X.A.in1 i2 [i2] x.cps.size (sigD x) (fun i h => h.IsStrIter i2 (strIterType x) x t i) := dr_str (A := X.A.in1) (show X.A.in1.handled = none from I.ok.hd hc) i2 x t
    have stops : Stops X.prog X.w X.A.in1 i1 (fun h => h.IsListIter i1 a i ∧ h.IsList a its.toArray) ∨ (i < its.toArray.size ∧ Stops X.prog X.w X.A.in1 i2 fun h => h.IsStrIter i2 (strIterType x) x t i) := by
      by_cases hl : its.toArray.size ≤ i
      · exact .inl fun s Q E st k => wpAny_nextOf_list_end (A := X.A.in1) (show X.A.in1.handled = none from I.ok.hd hc) st.1 st.2 (Array.getElem?_eq_none hl) k
      · refine .inr ⟨by omega, fun s Q E st k => ?_⟩
        have hx : x.cps[i]? = none := Array.getElem?_eq_none (by rw [List.size_toArray] at hl; omega)
        unfold strIterType at st
        split at st
        · exact wpAny_nextOf_ascii_end (A := X.A.in1) (show X.A.in1.handled = none from I.ok.hd hc) st hx k
        · exact wpAny_nextOf_wide_end (A := X.A.in1) (show X.A.in1.handled = none from I.ok.hd hc) st hx k
    refine zx_stop (i := i) D1 D2 D gz gI gO ⟨m1, p.isList⟩ m2 stops fun h' tk g => ⟨rfl, ?_⟩
    refine I.turnedL (t' := tk) (ch := [z, TI, TO, i1, i2]) (fun c o hb q => ?_) hf
    simp only [List.mem_cons, List.not_mem_nil, or_false, not_or] at hb
    exact g c o hb.1 hb.2.2.1 hb.2.2.2.1 hb.2.2.2.2 q
  self := fun A i s Q E st h => wpAny_pyIter_zip st.1 h
def iZx (K : PySem.W.Frag) (ta : TA) : TI := fun σ H R => ta σ H fun vs H1 => ∃ a xs x, vs = [V.ref a, .str x] ∧ SqL K H1 a xs ∧ R (ItzX K a x) H1
theorem pi_zx {X : Cx} {e e2 : Expr} {ta : TA} {p pos tpos : Pos} {elts : List Expr} {kk : Nat} (hg : Gl X "zip") (hm : X.mg "zip" = none) (ha : PA X [e, e2] ta)
    (hs : starEach [e, e2] X.env = (false, eval e X.env) :: starEach [e2] X.env := by rfl) (hpl : (backTo pos (starEach [e2] X.env)).any (·.1) = false := by rfl) :
    PI X (.Tuple elts kk tpos) (.Call (.Name "zip" p) [e, e2] [] pos) (iZx X.K ta) := by
  constructor
  intro pins s σ H R I h
  refine Call_ (ld_blt I hg hm PyProof.Rows.boot_zip (PyProof.Rows.callWith_type1 (thn (ha.run pos pins s σ H _ I h) fun us s1 ⟨vs, H1, I1, r1, a, xs, x, ev, hq, q⟩ => ?_) hs hpl))
  subst ev
  obtain ⟨v1, v2, rfl, rv1, rv2⟩ := vals2 r1
  cases rv1
  obtain ⟨t, rfl⟩ := rv2
  obtain ⟨its, rv, p1, _⟩ := I1.list hq
  have la : a < s1.heap.objs.size := p1.lt
  refine call_zx p1.isList fun h' n en gz gI gO m1 m2 kp => wpAny_pyIter_zip gz ?_
  have D : ZA (n + 4) (n + 2) (n + 3) n (n + 1) [n, a] [n + 1] := by
    rw [← en] at la
    have ne : ∀ k : Nat, (n + k : Nat) ≠ a := fun k => Nat.ne_of_gt (Nat.lt_of_lt_of_le la (Nat.le_add_right n k))
    have ap : ∀ j k : Nat, j ≠ k → (n + j : Nat) ≠ (n + k : Nat) := fun j k h e => h (Nat.add_left_cancel e)
    have a0 : ∀ k : Nat, k ≠ 0 → (n + k : Nat) ≠ n := fun k h e => h (by omega)
    refine ⟨⟨ap 2 4 (by decide), ap 3 4 (by decide), (a0 4 (by decide)).symm, ap 1 4 (by decide), ap 2 3 (by decide), a0 2 (by decide), ap 2 1 (by decide), a0 3 (by decide), ap 3 1 (by decide), (a0 1 (by decide)).symm⟩, ⟨?_, ?_, ?_⟩, ⟨?_, ?_, ?_⟩⟩
    · exact fun h => (List.mem_cons.mp h).elim (a0 4 (by decide)) fun h => ne 4 (List.mem_singleton.mp h)
    · exact fun h => (List.mem_cons.mp h).elim (a0 3 (by decide)) fun h => ne 3 (List.mem_singleton.mp h)
    · exact fun h => (List.mem_cons.mp h).elim (a0 1 (by decide)) fun h => ne 1 (List.mem_singleton.mp h)
    · exact fun h => ap 4 1 (by decide) (List.mem_singleton.mp h)
    · exact fun h => ap 3 1 (by decide) (List.mem_singleton.mp h)
    · exact fun h => (a0 1 (by decide)).symm (List.mem_singleton.mp h)
  refine ⟨n + 4, [n + 4, n + 2, n + 3, n, n + 1], _, _, H1, rfl, I1.kept (t' := s1.toks) kp, turn_zx (t := t) D, ⟨gz, gI, ⟨_, _, gO⟩, m1, m2⟩, fun b hb => ?_, q⟩
  have hle : s1.heap.objs.size ≤ b := by
    simp only [List.mem_cons, List.not_mem_nil, or_false] at hb
    rw [← en]
    rcases hb with e | e | e | e | e <;> rw [e]
    · exact Nat.le_add_right _ _
    · exact Nat.le_add_right _ _
    · exact Nat.le_add_right _ _
    · exact Nat.le_refl _
    · exact Nat.le_add_right _ _
  exact I1.fpOk hle (I1.hok.fresh hle)
/-! ### as a thing walked -/
def zipS : List D → List Nat → List D
  | x :: xs, c :: cs => .tup [x, .str ⟨#[c]⟩] :: zipS xs cs
  | _, _ => []
theorem zipS_len : ∀ (xs : List D) (cs : List Nat), (zipS xs cs).length = min xs.length cs.length
  | [], cs => by simp [zipS]
  | x :: xs, [] => by simp [zipS]
  | x :: xs, c :: cs => by simp [zipS, zipS_len xs cs]
theorem zipS_get : ∀ (xs : List D) (cs : List Nat) (i : Nat) (a : D) (c : Nat), xs[i]? = some a → cs[i]? = some c → (zipS xs cs)[i]? = some (.tup [a, .str ⟨#[c]⟩])
  | [], _, _, _, _, h, _ => by simp at h
  | _ :: _, [], _, _, _, _, h => by simp at h
  | x :: xs, y :: ys, 0, a, b, h1, h2 => by
    simp at h1 h2
    subst h1 h2
    rfl
  | x :: xs, y :: ys, i + 1, a, b, h1, h2 => by
    simp at h1 h2
    exact zipS_get xs ys i a b h1 h2
def zipLSG : List D → M (List D) := fun ds => match ds with
  | [.lst xs, .str z] => .ok (zipS xs z.cps.toList)
  | _ => .er
def eZipLS (f : Rho → M (List D)) : Rho → M (List D) := fun ρ => M.bind (f ρ) zipLSG
theorem vi_zipLS {X : Cx} {W : WX} {S0 : Addr → Prop} {H0 : Hp} {pos p tpos : Pos} {e e2 : Expr} {fa : Rho → M (List D)} {elts : List Expr} {kk : Nat} (hm : X.mg "zip" = none) (ha : VA X W S0 H0 .E [e, e2] fa) (hg : Gl X "zip" := by rfl) (hs1 : starEach (e :: [e2]) X.env = (false, eval e X.env) :: starEach [e2] X.env := by rfl) (hpl : (backTo pos (starEach [e2] X.env)).any (·.1) = false := by rfl)
    (hf : ∀ x, foldedSetIterable (.Call (.Name "zip" p) [e, e2] [] pos) X.env x = pure x := by intro _; rfl) : VI X W S0 H0 (.Tuple elts kk tpos) (.Call (.Name "zip" p) [e, e2] [] pos) (eZipLS fa) := by
  obtain ⟨te, pa, q⟩ := ha.p
  refine ⟨⟨_, pi_zx hg hm pa hs1 hpl, fun ρ σ own H Rk R k => q ρ σ own H _ R ?_⟩, hf⟩
  unfold eZipLS at k
  revert k
  cases fa ρ with
  | er => exact id
  | ex c => exact id
  | ok ds =>
    intro k vs H1 s1 r1
    rw [bind_ok] at k
    unfold zipLSG at k
    split at k
    · next xs z =>
      obtain ⟨v, w, rfl, r2, r3⟩ := pair2 r1
      have R1 := R.grow s1
      cases r3
      cases r2 with
      | lst sa ha ra =>
        rename_i a vs
        refine ⟨a, _, z, rfl, SqL.of ha, k _ H1 s1 ?_⟩
        intro own' H' F hsm ho i
        have ha' : SqL X.K H' a vs := .inl (fra_rd F R1.own0 sa.1 (.inl ha))
        have ra' := ra.keep (F.keepA (S0 := S0) (H0 := H0) R1.own0)
        rw [zipS_len]
        have hzz : z.cps.toList.length = z.cps.size := Array.length_toList
        refine ⟨fun hi => ?_, fun hi => ⟨vs, ha', ?_⟩, fun y H2 hi ⟨T, x1, c, ey, nT, eH, f1, f2⟩ => ?_⟩
        · obtain ⟨v1, e1, _⟩ := ra.get (List.getElem?_eq_getElem (show i < xs.length by omega))
          exact ⟨vs, v1, ha', e1, by omega⟩
        · rw [ra.length]; omega
        · obtain ⟨d1, g1, h1⟩ := ra'.getV (f1 vs ha')
          subst ey eH
          exact ⟨same_upd nT, .tup [d1, .str ⟨#[c]⟩], zipS_get xs _ i d1 c g1 (by rw [Array.getElem?_toList]; exact f2), up2 nT h1 (.str _)⟩
    · exact k.elim
/-! ### enumerate(text) -/
end VL
set_option Elab.async false
set_option linter.all false
set_option maxRecDepth 100000
/-! VL12: defs that may give back what they were handed; list.remove of data. -/
namespace VL
open PySem L2 PySem.Spec PyProof.Rows
section
variable {P : Program} {w : World} {K : PySem.W.Frag} {mg : Str → Option Value} {base : Heap}
def PFE (mg : Str → Option Value) (K : PySem.W.Frag) (S : Addr → Prop) (H : Hp) (Q : VK) (E : XK) : M D → Prop
  | .ok d => ∀ v H', Same H H' → Rp K (fun a => S a ∨ H a = none) H' v d → Q v H'
  | .ex c => ∀ cv dd H', IsCls mg c cv dd → Same H H' → E cv dd H'
  | .er => False
/-- the def gives g of its arguments' data, made by it or handed to it -/
def spE (mg : Str → Option Value) (K : PySem.W.Frag) (g : List D → M D) : Sp := fun vs H Q E => ∃ (ds : List D) (S : Addr → Prop), RpA K S H vs ds ∧ PFE mg K S H Q E (g ds)
structure CalE (P : Program) (w : World) (K : PySem.W.Frag) (mg : Str → Option Value) (base : Heap) (k : Nat) (x : Str) (g : List D → M D) : Prop where
  p : ∃ (f : Addr) (fd : FuncData) (ps : List Str), FnOk P w K mg base (L2.CX P w) k f fd ps (spE mg K g) ∧ mg x = some (.ref f) ∧ PySem.W.keepIn K (.ref f) = true ∧ Binds K fd ps []
theorem CalE.mk' {k : Nat} {x qual : Str} {st : Stmt} {f : Addr} {fd : FuncData} {ps : List Str} {g : List D → M D} (F : FnOk P w K mg base (L2.CX P w) k f fd ps (spE mg K g)) (Fn : Fun K x qual st f fd) (hm : mg x = some (.ref f)) (hb : Binds K fd ps []) : CalE P w K mg base k x g := ⟨f, fd, ps, F, hm, Fn.kp, hb⟩
end
section
variable {X : Cx} {W : WX} {S0 : Addr → Prop} {H0 : Hp} {rm m : Md} {pos p : Pos} {e : Expr} {es : List Expr} {fa : Rho → M (List D)} {x : Str} {j k : Nat} {g : List D → M D}
theorem RpA.ofE {K : PySem.W.Frag} {own : List Addr} {Hb H : Hp} {vs : List V} {ds : List D} (r : Paired (RM K S0 H0 own .E Hb H) vs ds) : RpA K (SA S0 H0 own) H vs ds := by
  induction r with
  | nil => exact .nil
  | cons a _ ih => exact .cons a ih
end
/-! ### list.remove of data -/
section
variable {X : Cx} {W : WX} {S0 : Addr → Prop} {H0 : Hp}
/-- l.remove(x): the first equal one goes -/
def rRemoveD (K : PySem.W.Frag) : V → List V → Hp → VK → Prop := fun x xs H Q => ∃ (a : Addr) (us : List V) (y : V) (d : PyData) (ds : List PyData) (j : Nat) (z : PyData), x = V.ref a ∧ xs = [y] ∧ H a = some (.lst us) ∧ DpAll K H us ds ∧ Dp K H y d ∧
  SeqAt.shaped (.list ds) = true ∧ SeqAt.shaped d = true ∧ ds[j]? = some z ∧ PyData.eqv z d = true ∧ (∀ (m : Nat) (z' : PyData), m < j → ds[m]? = some z' → PyData.eqv z' d = false) ∧ Q .non (upd H a (.lst (us.eraseIdx j)))
theorem mt_removeD (hu : X.A.units + 65 < cLine) : MtR X "list.remove" (rRemoveD X.K) := by
  intro pins s σ H x xs v us' Q I rx rxs h
  obtain ⟨a, us, y, d, ds, j, z, rfl, rfl, hH, ha, hy, sl, sd, hz, hzj, hno, q⟩ := h
  cases rx
  cases rxs with
  | cons ry rt =>
    rename_i uy ut
    cases rt
    obtain ⟨bs, r1⟩ := Dp.reads I d y uy hy ry
    have hxs : PyData.canLayAll0 ds = true := SeqAt.canLay_of_shaped sl
    have hroom : X.A.units + 1 + min (PyData.depthAll ds) d.depth < cLine := room_in_shaped sd hu
    obtain ⟨z0, its, n, rv, hl, e0⟩ := I.lstM hH
    obtain ⟨as, h4⟩ := Dp.readsAll I ds _ its ha rv
    have hn : its.length = ds.length := SeqAt.ReadsAll.length ds its as h4
    have hmap : its.map (SeqAt.readOf s.heap) = ds := SeqAt.readsAll_map ds its as hxs h4
    obtain ⟨hjd, _⟩ := List.getElem?_eq_some_iff.mp hz
    have hjl : j < its.length := by omega
    have hj : j < its.toArray.size := by simpa using hjl
    have at_ : ∀ (m : Nat) (hm : m < its.toArray.size) (z' : PyData), ds[m]? = some z' → SeqAt.readOf s.heap its.toArray[m] = z' := by
      intro m hm z' hz'
      have hml : m < its.length := by simpa using hm
      rw [← hmap, List.getElem?_map, List.getElem?_eq_getElem hml] at hz'
      have e1 : SeqAt.readOf s.heap its[m] = z' := Option.some.inj (show some (SeqAt.readOf s.heap its[m]) = some z' from hz')
      simpa using e1
    refine call_meets PySem.F.slot_list_remove ⟨_, e0, rfl⟩ PySem.F.entry_list_remove (PySem.F.args_list_remove_2 _ _)
      (SeqAt.list_removeAt a its.toArray n _ _ uy (fun u => PyData.eqv (SeqAt.readOf s.heap u) d) j hj ?_ ?_ (by rw [List.size_toArray]; omega)) ⟨e0, SeqAt.items_eqAt (vs := its.toArray) (show ReadsAll s.heap its.toArray.toList ds as from h4) r1 hxs (SeqAt.canLay_of_shaped sd) hroom, ?_⟩
    · show PyData.eqv (SeqAt.readOf s.heap its.toArray[j]) d = true
      rw [at_ j hj z hz]
      exact hzj
    · intro m hm hmj
      have hmd : m < ds.length := by omega
      have hz' : ds[m]? = some ds[m] := List.getElem?_eq_getElem hmd
      show PyData.eqv (SeqAt.readOf s.heap its.toArray[m]) d = false
      rw [at_ m hm _ hz']
      exact hno m _ hmj hz'
    · have rr := rv.eraseIdx j
      refine ⟨.non, _, I.lset (its' := its.eraseIdx j) hH e0 ?_ rr ?_, rfl, q⟩
      · show its.toArray.eraseIdxIfInBounds j = (its.eraseIdx j).toArray
        rw [List.eraseIdxIfInBounds_toArray]
      · have := List.length_eraseIdx_le us j
        omega
/-- which item goes -/
def findP (d : PyData) : List D → Option Nat
  | [] => none
  | x :: xs => if PyData.eqv (toP x) d = true then some 0 else (findP d xs).map (· + 1)
theorem findP_spec {d : PyData} : ∀ {xs : List D} {j : Nat}, findP d xs = some j → ∃ z, (toPA xs)[j]? = some z ∧ PyData.eqv z d = true ∧ ∀ (m : Nat) (z' : PyData), m < j → (toPA xs)[m]? = some z' → PyData.eqv z' d = false
  | [], _, h => nomatch h
  | x :: xs, j, h => by
    rw [findP] at h
    split at h
    · next c =>
      cases h
      exact ⟨toP x, rfl, c, fun m z' hm => absurd hm (Nat.not_lt_zero m)⟩
    · next c =>
      cases hf : findP d xs with
      | none => rw [hf] at h; cases h
      | some i =>
        rw [hf] at h
        cases h
        obtain ⟨z, h1, h2, h3⟩ := findP_spec hf
        refine ⟨z, by simpa [toPA] using h1, h2, fun m z' hm hz' => ?_⟩
        have hm : m < i + 1 := hm
        cases m with
        | zero =>
          simp [toPA] at hz'
          subst hz'
          simpa using c
        | succ m => exact h3 m z' (Nat.lt_of_succ_lt_succ hm) (by simpa [toPA] using hz')
def remE : List D → List D → M (List D) := fun ds as => match as with
  | [d] => if SeqAt.shaped (.list (toPA ds)) = true ∧ SeqAt.shaped (toP d) = true then (match findP (toP d) ds with | some j => .ok (ds.eraseIdx j) | none => .er) else .er
  | _ => .er
theorem RpA.eraseIdx {K : PySem.W.Frag} {S : Addr → Prop} {H : Hp} : ∀ {vs : List V} {ds : List D} (j : Nat), RpA K S H vs ds → RpA K S H (vs.eraseIdx j) (ds.eraseIdx j)
  | _, _, _, .nil => .nil
  | _, _, 0, .cons _ t => t
  | _, _, j + 1, .cons r t => .cons r (RpA.eraseIdx j t)
theorem mg_rem : MutG X (rRemoveD X.K) remE := by
  intro S H a xs vs ds as ds' Q h r r2 e k
  unfold remE at e
  split at e
  · next d =>
    split at e
    · next hl =>
      split at e
      · next j hj =>
        cases e
        cases r2 with
        | cons r3 r4 =>
          cases r4
          obtain ⟨z, h1, h2, h3⟩ := findP_spec hj
          exact ⟨a, xs, _, toP d, toPA ds, j, z, rfl, rfl, h, r.dp (SeqAt.canLay_of_shaped hl.1), r3.dp (SeqAt.canLay_of_shaped hl.2), hl.1, hl.2, h1, h2, h3, k _ _ (r.eraseIdx j)⟩
      · cases e
    · cases e
  · cases e
end
end VL
set_option Elab.async false
set_option linter.all false
set_option maxRecDepth 100000
set_option maxHeartbeats 1000000
/-! VL13: sorted of lists of triples of ints and of dicts whose keys are such. -/
namespace VL
open PySem L2 PySem.Spec PyProof.Rows
open SrtO (Srtd Stb Swo)
section
variable {prog : Program} {w : World} {A : Around} {E : Value → Shared → Prop} {s : Shared}
/-! ### triples of ints -/
abbrev T3 := Int × Int × Int
def IsTri (h : Heap) (v : Value) (k : T3) : Prop := ∃ a o t1 t2 t3 n, v = .ref a ∧ h.get? a = some o ∧ o.cls = .type "tuple" ∧ o.data = .seq #[.int k.1 t1, .int k.2.1 t2, .int k.2.2 t3] n
theorem IsTri.keeps {h h' : Heap} {v : Value} {k : T3} (p : IsTri h v k) (kp : ∀ b o, h.get? b = some o → o.cls = .type "tuple" → h'.get? b = some o) : IsTri h' v k := by
  obtain ⟨a, o, t1, t2, t3, n, e, ho, hc, hd⟩ := p
  exact ⟨a, o, t1, t2, t3, n, e, kp _ _ ho hc, hc, hd⟩
end
/-! ### as a rule -/
section
variable {X : Cx}
end
/-! ### sorted, of data -/
def eT (k : T3) : D := .tup [.int k.1, .int k.2.1, .int k.2.2]
section
variable {X : Cx} {W : WX} {S0 : Addr → Prop} {H0 : Hp}
end
end VL
set_option Elab.async false
set_option linter.all false
set_option maxRecDepth 100000
set_option maxHeartbeats 1000000
/-! VL14: zip of two texts; list(text); text * int; ranges with a step, as lists. -/
namespace VL
open PySem L2 PySem.Spec PyProof.Rows
open PySem.Sem (wp)
section
variable {prog : Program} {w : World} {A : Around} {E : Value → Shared → Prop} {s : Shared}
end
end VL
set_option Elab.async false
set_option linter.all false
set_option maxRecDepth 100000
set_option maxHeartbeats 1000000
/-! VL15: list(text); a sign * int; ranges downwards, as lists; dict.update, dict.pop; list.pop, list.insert, list.index. -/
namespace VL
open PySem L2 PySem.Spec PyProof.Rows
section
variable {X : Cx} {W : WX} {S0 : Addr → Prop} {H0 : Hp} {rm m ma mb : Md} {pos p apos cpos : Pos} {a b e : Expr} {fa fb : Rho → M D} {fas : Rho → M (List D)} {tg : Expr}
/-! ### list(text) -/
/-! ### a text * int -/
def repS (z : Str) (n : Int) : Str := if n < 1 then Str.empty else if (n == 1 || z.length == 0) = true then z else ⟨(List.replicate n.toNat z.cps).foldl (· ++ ·) #[]⟩
def rMulS : R2 := fun x y H Q => ∃ z n, x = .str z ∧ y = .int n ∧ z.length = 1 ∧ 0 ≤ n ∧ n ≤ 1000000 ∧ Q (.str (repS z n)) H
theorem fold_size : ∀ (n : Nat) (c : Array Nat) (acc : Array Nat), ((List.replicate n c).foldl (· ++ ·) acc).size = acc.size + n * c.size
  | 0, c, acc => by simp
  | n + 1, c, acc => by
    rw [List.replicate_succ, List.foldl_cons, fold_size n c, Array.size_append, Nat.add_mul]
    omega
theorem op_mulS : OpR X (binaryOp .Mult) rMulS := by
  intro pins s σ H x y v u Q I rx ry h
  obtain ⟨z, n, rfl, rfl, h1, h2, h3, q⟩ := h
  obtain ⟨t, rfl⟩ := rx
  obtain ⟨t', rfl⟩ := ry
  refine PySem.P.mul_str ?_ (fun g1 g2 => ?_) (fun g1 g2 => ?_) ?_
  · rw [decide_eq_false (by omega), decide_eq_false (by omega)]; rfl
  · rw [h1]
    have : (1 : Int) ≤ (2 ^ 63 - 1) / n := by
      refine Int.le_ediv_of_mul_le (by omega) (by omega)
    omega
  · rw [h1, Nat.one_mul]
    unfold Builtin.Str.tooLong
    rw [sizeLine_eq]
    simp only [decide_eq_false_iff_not]
    omega
  · have q' : Q (.str (repS z n)) H := q
    unfold repS at q'
    split
    · next g => rw [if_pos g] at q'; exact ⟨Nat.zero_le _, .str Str.empty, H, I.tok _, ⟨_, rfl⟩, q'⟩
    · next g =>
      rw [if_neg g] at q'
      split
      · next g2 => rw [if_pos g2] at q'; exact ⟨.str z, H, I, ⟨t, rfl⟩, q'⟩
      · next g2 =>
        rw [if_neg g2] at q'
        refine ⟨?_, .str _, H, I.tok _, ⟨_, rfl⟩, q'⟩
        show ((List.replicate n.toNat z.cps).foldl (· ++ ·) #[]).size ≤ sizeLine
        have h1' : z.cps.size = 1 := h1
        rw [fold_size, h1', sizeLine_eq]
        simp only [List.size_toArray, List.length_nil]
        omega
def mulSG : D → D → M D := fun x y => match x, y with
  | .str z, .int n => if z.length = 1 ∧ 0 ≤ n ∧ n ≤ 1000000 then .ok (.str (repS z n)) else .er
  | _, _ => .er
theorem og_mulS : OpG X W S0 H0 m rMulS mulSG := by
  intro ρ σ own H Q vx vy x y R rx ry k
  unfold mulSG at k
  split at k
  · next z n =>
    split at k
    · next hz => exact ⟨z, n, rx.isStr, ry.isInt, hz.1, hz.2.1, hz.2.2, k _ H (Same.refl H) (.ofStr _)⟩
    · exact k.elim
  · exact k.elim
theorem vx_mulS (ha : VX X W S0 H0 ma a fa) (hb : VX X W S0 H0 mb b fb) : VX X W S0 H0 m (.BinOp a .Mult b pos) (eOp mulSG fa fb) := vx_op op_mulS og_mulS ha hb
/-! ### ranges downwards -/
/-! ### list(range(n)) -/
end
/-! ### a new tuple taken apart: its items are new -/
section
variable (X : Cx) (S0 : Addr → Prop) (H0 : Hp)
structure VGF (ks : List Nat) (tg : Expr) (f : D → Rho → Option Rho) : Prop where
  p : ∃ g, PG X tg g ∧ ∀ v d ρ ρ' σ own H Q, Rel X.K S0 H0 ρ σ own H → Rp X.K (SF H0 own) H v d → f d ρ = some ρ' → (∀ σ', Rel X.K S0 H0 ρ' σ' own H → OnlyS ks σ σ' → Q σ' H) → g v σ H Q
structure VGFs (ks : List Nat) (tg : List Expr) (f : List D → Rho → Option Rho) : Prop where
  p : ∃ g, PGs X tg g ∧ ∀ vs ds ρ ρ' σ own H Q, Rel X.K S0 H0 ρ σ own H → RpA X.K (SF H0 own) H vs ds → f ds ρ = some ρ' → (∀ σ', Rel X.K S0 H0 ρ' σ' own H → OnlyS ks σ σ' → Q σ' H) → g vs σ H Q
end
def tgF (i : Nat) : D → Rho → Option Rho := fun d ρ => some (ρ.set i (.fr d))
section
variable {X : Cx} {W : WX} {S0 : Addr → Prop} {H0 : Hp} {rm m : Md} {pos : Pos} {tg e : Expr} {ft : D → Rho → Option Rho} {fe : Rho → M D}
theorem vgf_name {i : Nat} {x : Str} (hN : X.N.Nodup) (hi : X.N[i]? = some x := by rfl) (hx : Loc X.env.scope x := by first | exact Or.inl rfl | exact Or.inr rfl) (hf : X.fn x = true ∨ X.env.scope.names.lookup x = some .local := by first | exact .inl rfl | exact .inr rfl) : VGF X S0 H0 [i] (.Name x pos) (tgF i) := by
  refine ⟨_, pg_name hN hi hx hf, fun v d ρ ρ' σ own H Q R r e k => ?_⟩
  cases e
  exact k _ (R.setFr r) ⟨List.length_set, fun j hj => List.getElem?_set_ne (fun z => hj (by rw [← z]; exact List.mem_cons_self))⟩
theorem vgfs_nil : VGFs X S0 H0 [] [] tgNil := by
  refine ⟨_, pgs_nil, fun vs ds ρ ρ' σ own H Q R r e k => ?_⟩
  cases r with
  | nil => cases e; exact ⟨rfl, k _ R ⟨rfl, fun _ _ => rfl⟩⟩
  | cons _ _ => cases e
theorem vgfs_cons {k1 k2 : List Nat} {es : List Expr} {fs : List D → Rho → Option Rho} (h : VGF X S0 H0 k1 e ft) (h2 : VGFs X S0 H0 k2 es fs) (hs : (assignEach (e :: es) X.env).map (·.2) = assign e X.env :: (assignEach es X.env).map (·.2) := by rfl) : VGFs X S0 H0 (k1 ++ k2) (e :: es) (tgCons ft fs) := by
  obtain ⟨g, p, q⟩ := h.p
  obtain ⟨g2, p2, q2⟩ := h2.p
  refine ⟨_, pgs_cons p p2 hs, fun vs ds ρ ρ' σ own H Q R r e k => ?_⟩
  cases r with
  | nil => cases e
  | cons r1 r2 =>
    rename_i v d vs ds
    unfold tgCons at e
    cases e1 : ft d ρ with
    | none => simp [e1] at e
    | some ρ1 =>
      simp [e1] at e
      exact ⟨_, _, rfl, q _ _ _ _ _ _ _ _ R r1 e1 fun σ' R' o1 => q2 _ _ _ _ _ _ _ _ R' r2 e fun σ2 R2 o2 => k σ2 R2 ⟨o2.1.trans o1.1, fun j hj => (o2.2 j fun z => hj (List.mem_append_right _ z)).trans (o1.2 j fun z => hj (List.mem_append_left _ z))⟩⟩
theorem vgf_tup {ks : List Nat} {es : List Expr} {j n : Nat} {fs : List D → Rho → Option Rho} (hc : X.calm = true) (h : VGFs X S0 H0 ks es fs) (hn : (assignEach es X.env).length = n := by rfl) (hst : (assignEach es X.env).findIdx? (·.1) = none := by rfl) : VGF X S0 H0 ks (.Tuple es j pos) (tgT n fs) := by
  obtain ⟨g, p, q⟩ := h.p
  refine ⟨_, pg_tup hc p hn hst, fun v d ρ ρ' σ own H Q R r e k => ?_⟩
  unfold tgT at e
  split at e
  · next ds =>
    split at e
    · next hl =>
      cases r with
      | tup h1 r1 => exact ⟨_, _, rfl, SqT.of h1, by rw [r1.length]; exact hl, q _ _ _ _ _ _ _ _ R r1 e k⟩
    · cases e
  · next ds =>
    split at e
    · next hl =>
      cases r with
      | kt h1 r1 => exact ⟨_, _, rfl, .inr h1, by rw [r1.length]; exact hl, q _ _ _ _ _ _ _ _ R r1 e k⟩
    · cases e
  · cases e
theorem vs_unpF {ks : List Nat} {tg : Expr} {ft : D → Rho → Option Rho} (h : VX X W S0 H0 .F e fe) (hg : VGF X S0 H0 ks tg ft) (hs : swapsWithSole [tg] e pos.line X.env = pure false := by rfl) (hw : swappedStores [tg] e X.env = pure none := by rfl)
    (h1 : (assignEach [tg] X.env).map (·.2) = [assign tg X.env] := by rfl) : VS X W S0 H0 rm (.Assign [tg] e pos) (sUnp fe ft) := by
  obtain ⟨te, pe, qe⟩ := h.p
  obtain ⟨g, pg, qg⟩ := hg.p
  refine ⟨_, ps_asg pe pg hs hw h1, fun ρ σ own H D R k => qe ρ σ own H _ R ?_⟩
  unfold sUnp at k
  revert k
  cases fe ρ with
  | er => exact id
  | ex c => exact fun k cv d H' i s => k cv d σ own H' i (R.grow s) (.same s)
  | ok d =>
    intro k v H1 s1 r1
    rw [ofM_ok] at k
    split at k
    · next ρ' e1 => exact qg v d ρ ρ' σ own H1 _ (R.grow s1) r1 e1 fun σ' R' _ => k σ' own H1 R' (.same s1)
    · exact k.elim
end
end VL
set_option Elab.async false
set_option linter.all false
set_option maxRecDepth 100000
set_option maxHeartbeats 1000000
/-! VL16: d.update(d2), d.pop(k) of dicts whose keys are tuples. -/
namespace VL
open PySem L2 PySem.Spec PyProof.Rows
/-! ### hashes of small triples -/
def smallK : List Key → Bool
  | [.inl a, .inl b, .inl c] => decide (0 ≤ a) && decide (a < 6) && (decide (0 ≤ b) && decide (b < 6)) && (decide (0 ≤ c) && decide (c < 6))
  | _ => false
/-! ### d.update(d2) -/
def putsK (kvs more : List (List Key × V)) : List (List Key × V) := more.foldl (fun acc kv => putK acc kv.1 kv.2) kvs
section
variable {X : Cx}
end
/-! ### d.pop(k), k in d -/
section
variable {prog : Program} {w : World} {K : Type} [DecidableEq K] {knd : HeapKind prog w K}
end
section
variable {X : Cx}
end
/-! ### as statements -/
def putsT (kvs more : List (List Key × D)) : List (List Key × D) := more.foldl (fun acc kv => putT acc kv.1 kv.2) kvs
theorem RpT.puts {K : PySem.W.Frag} {S : Addr → Prop} {H : Hp} : ∀ {ms : List (List Key × V)} {ds : List (List Key × D)} {vs : List (List Key × V)} {es : List (List Key × D)}, RpT K S H ms ds → RpT K S H vs es → RpT K S H (putsK vs ms) (putsT es ds)
  | _, _, _, _, .nil, r => r
  | (k, v) :: ms, (_, d) :: ds, vs, es, .cons h t, r => by
    have := RpT.puts t (r.put k h)
    unfold putsK putsT at this ⊢
    rw [List.foldl_cons, List.foldl_cons]
    exact this
def smallAll (kvs : List (List Key × D)) : Bool := kvs.all fun kv => smallK kv.1
theorem RpT.small {K : PySem.W.Frag} {S : Addr → Prop} {H : Hp} : ∀ {ms : List (List Key × V)} {ds : List (List Key × D)}, RpT K S H ms ds → smallAll ds = true → ∀ kv ∈ ms, smallK kv.1 = true
  | _, _, .nil, _ => fun kv h => by simp at h
  | (k, v) :: ms, (_, d) :: ds, .cons h t, e => by
    unfold smallAll at e
    rw [List.all_cons, Bool.and_eq_true] at e
    intro kv hk
    rcases List.mem_cons.mp hk with rfl | hk
    · exact e.1
    · exact RpT.small t e.2 kv hk
def dropT (kvs : List (List Key × D)) (k : List Key) : List (List Key × D) := kvs.filter fun kv => decide (kv.1 ≠ k)
theorem RpT.drop {K : PySem.W.Frag} {S : Addr → Prop} {H : Hp} (k : List Key) : ∀ {vs : List (List Key × V)} {es : List (List Key × D)}, RpT K S H vs es → RpT K S H (dropK vs k) (dropT es k)
  | _, _, .nil => .nil
  | (k1, v) :: vs, (_, d) :: es, .cons h t => by
    have ih := RpT.drop k t
    unfold dropK dropT at ih ⊢
    by_cases e : k1 = k
    · rw [List.filter_cons_of_neg (by simp [e]), List.filter_cons_of_neg (by simp [e])]
      exact ih
    · rw [List.filter_cons_of_pos (by simp [e]), List.filter_cons_of_pos (by simp [e])]
      exact .cons h ih
section
variable {X : Cx} {W : WX} {S0 : Addr → Prop} {H0 : Hp} {rm : Md} {pos apos cpos : Pos} {e : Expr} {fa : Rho → M (List D)}
end
end VL
set_option Elab.async false
set_option linter.all false
set_option maxRecDepth 100000
/-! VL: own exceptions: raise C(); try .. except C as e. -/
namespace VL
open PySem L2 PySem.Spec PyProof.Rows

theorem pmk_own0 {X : Cx} {C : Addr} {bmB : List Value} {B newId initId : String} {x : Str} {p pos : Pos} (F : ExcBaseFacts B newId initId bmB) (q : PySem.W.excIn X.K C bmB newId = true) (gC : X.mg x = some (.ref C)) (kC : PySem.W.keepIn X.K (.ref C) = true)
    (r : Raises X (.ref C)) (hg : Gl X x) (hd : (x == ("__debug__" : Str)) = false := by decide) : PMk X (.Call (.Name x p) [] [] pos) fun _ H Q => Q (.ref C) none H := by
  intro pins s σ H Q I k
  refine wpAny_Call_Name_kw (ld_glob I hg gC ?_ hd)
  refine PySem.W.callWith_K0 I.kIn kC ?_
  obtain ⟨bm, N, nm, qn, bs, hdct, sn, sub, ab, col, dd, k0, k1, k2, k3, k5, mN, hC, hN, hi, ot⟩ := exc_obj I.kIn q
  obtain ⟨h, g, d, t, os⟩ := s
  exact wpAny_call_exc_subT F ot hC hN hi (fun h' e M => mk_of I M r k (I.hok.gone M.new)) (by simp)

/-- an own class of errors under ValueError, without __init__ -/
structure OwnX (K : PySem.W.Frag) (mg : Str → Option Value) (c : Str) : Prop where
  p : ∃ C, mg c = some (.ref C) ∧ PySem.W.excIn K C [.type "ValueError", .type "Exception", .type "BaseException", .type "object"] "ValueError.__new__" = true ∧ PySem.W.keepIn K (.ref C) = true ∧
    PySem.W.subIn K (.ref C) (.type "BaseException") = some true ∧ PySem.W.typeIn K (.ref C) = some (.type "type")
section
variable {X : Cx} {W : WX} {S0 : Addr → Prop} {H0 : Hp} {rm m : Md} {own own' : List Addr} {H H' : Hp} {pos p : Pos} {st : Stmt} {sts body : List Stmt} {f g fb : Rho → Res}
def sRaise (c : Str) : Rho → Res := fun ρ => .ex (.own c) ρ
theorem vs_raise {x : Str} {pos' : Pos} (o : OwnX X.K X.mg x) (tk : Takes X W) (hc : X.calm = true := by rfl) (hg : Gl X x := by rfl) (hd : (x == ("__debug__" : Str)) = false := by decide) :
    VS X W S0 H0 rm (.Raise (some (.Call (.Name x p) [] [] pos)) none pos') (sRaise x) := by
  obtain ⟨C, g, q, k, b, t⟩ := o.p
  exact ⟨_, ps_raise hc tk (pmk_own0 PySem.F.excBase_ValueError q g k (raises_own b t) hg hd), fun ρ σ own H D R z => z (.ref C) none σ own H ⟨g, rfl⟩ R .refl⟩

/-! ### slots that leave -/
theorem Rel.setNo {K : PySem.W.Frag} {ρ : Rho} {σ : Sg} {i : Nat} {x : Option V} (R : Rel K S0 H0 ρ σ own H) : Rel K S0 H0 (ρ.set i .no) (σ.set i x) own H where
  sh := fun j e q => by
    rcases get_set q with ⟨rfl, z, hl⟩ | ⟨hj, z⟩
    · cases z
    · rw [List.getElem?_set_ne (Ne.symm hj)]
      exact R.sh j e z
  fr := fun j e q => by
    rcases get_set q with ⟨rfl, z, hl⟩ | ⟨hj, z⟩
    · cases z
    · rw [List.getElem?_set_ne (Ne.symm hj)]
      exact R.fr j e z
  ow := fun j e q => by
    rcases get_set q with ⟨rfl, z, hl⟩ | ⟨hj, z⟩
    · cases z
    · rw [List.getElem?_set_ne (Ne.symm hj)]
      exact R.ow j e z
  dis := fun j k d' e' a b q => by
    rcases get_set a with ⟨rfl, z, hl⟩ | ⟨hj, z⟩
    · cases z
    · rcases get_set b with ⟨rfl, y, hl⟩ | ⟨hk, y⟩
      · cases y
      · rw [List.getElem?_set_ne (Ne.symm hj), List.getElem?_set_ne (Ne.symm hk)] at q
        exact R.dis j k d' e' z y q
  sub := fun j d' a e1 e2 x hx => by
    rcases get_set e1 with ⟨rfl, z, hl⟩ | ⟨hj, z⟩
    · cases z
    · rw [List.getElem?_set_ne (Ne.symm hj)] at e2
      obtain ⟨h1, h2⟩ := R.sub j d' a z e2 x hx
      refine ⟨h1, fun k e b g1 g2 => ?_⟩
      rcases get_set g1 with ⟨rfl, y, hl⟩ | ⟨hk, y⟩
      · cases y
      · rw [List.getElem?_set_ne (Ne.symm hk)] at g2
        exact h2 k e b y g2
  own0 := R.own0
  same := R.same
  len := by simp [R.len]

/-! ### try -/
/-- a name of a class: the program's own, or a built-in one -/
inductive NmCls (mg : Str → Option Value) (x : Str) : Value → Prop
  | own {D : Addr} : mg x = some (.ref D) → NmCls mg x (.ref D)
  | bi {T : String} : mg x = none → bootBuiltins x = some (.type T) → x ≠ "__name__" → NmCls mg x (.type T)
theorem NmCls.pe {mg : Str → Option Value} {x : Str} {cv : Value} (h : NmCls mg x cv) : ∃ c, RelV c cv ∧ (∀ u, RelV c u → u = cv) ∧ ∀ {X : Cx} {p : Pos}, X.mg = mg → Gl X x → (x == ("__debug__" : Str)) = false → PE X (.Name x p) (tC c) := by
  cases h with
  | @own D h => exact ⟨.ref D, rfl, fun u e => e, fun e g d => pe_glob g (by rw [e]; exact h) rfl d⟩
  | @bi T h b n => exact ⟨.ty T, rfl, fun u e => e, fun e g d => pe_bltn g (by rw [e]; exact h) b rfl n d⟩
/-- what is known of a raised class c: what the clause's class says of it, and what isinstance answers of three classes -/
structure Kn3 (K : PySem.W.Frag) (mg : Str → Option Value) (top : Value) (c : Str) (v1 v2 v3 : Value) (b1 b2 b3 : Bool) : Prop where
  p : ∃ D, mg c = some (.ref D) ∧ ExcC K D ∧ PySem.W.exmOne K (.ref D) top = some true ∧ PySem.W.kitOne K (.ref D) v1 = some b1 ∧ PySem.W.kitOne K (.ref D) v2 = some b2 ∧ PySem.W.kitOne K (.ref D) v3 = some b3
/-- what is known of a try: the clause's class, the three classes that are asked, the class that may be raised -/
structure TryF (K : PySem.W.Frag) (mg : Str → Option Value) (x x1 x2 x3 c : Str) (b1 b2 b3 : Bool) : Prop where
  p : ∃ top v1 v2 v3, mg x = some top ∧ NmCls mg x1 v1 ∧ NmCls mg x2 v2 ∧ NmCls mg x3 v3 ∧ Kn3 K mg top c v1 v2 v3 b1 b2 b3
/-! ### the facts of an error's class, by the names of the kit -/
theorem excC_mk {K : PySem.W.Frag} {D : Addr} (hg : PySem.W.findIn K (.ref D) "__getattribute__" = some (some (.builtin "BaseException.__getattribute__"))) (hk : PySem.W.findIn K (.ref D) "__getattr__" = some none) (hs : PySem.W.subIn K (.ref D) (.type "BaseException") = some true)
    (hd : PySem.W.hasDictIn K D = true) (ha : PySem.W.findIn K (.ref D) "__class__" = some (some (.builtin "object.__class__"))) (hn : PySem.W.specialIn K (.builtin "object.__class__") "__get__" = some (some (.builtin "getset_descriptor.__get__"))) (ht : PySem.W.takesIn K (.builtin "object.__class__") = some true)
    (hm : PySem.W.mroIn K D (.type "object") = some true) : ExcC K D := ⟨hg, hk, hs, hd, ha, hn, ht, hm⟩
theorem exm_mk {K : PySem.W.Frag} {D T : Addr} (b : PySem.W.subIn K (.ref T) (.type "BaseException") = some true) (i : PySem.W.isClsIn K T = true) (t : PySem.W.typeIn K (.ref T) = some (.type "type")) (s : PySem.W.subIn K (.ref D) (.ref T) = some true) : PySem.W.exmOne K (.ref D) (.ref T) = some true := by
  have i' : (PySem.W.clsIn K T).isSome = true := i
  simp [PySem.W.exmOne, PySem.W.kitCls, b, i', t, s]
theorem kit_own {K : PySem.W.Frag} {D T : Addr} {b : Bool} (i : PySem.W.isClsIn K T = true) (t : PySem.W.typeIn K (.ref T) = some (.type "type")) (s : PySem.W.subIn K (.ref D) (.ref T) = some b) (h : b = true ∨ (Value.ref D == Value.ref T) = false) : PySem.W.kitOne K (.ref D) (.ref T) = some b := by
  have i' : (PySem.W.clsIn K T).isSome = true := i
  unfold PySem.W.kitOne
  rcases h with h | h
  · subst h
    split
    · rfl
    · simp [PySem.W.kitCls, i', t, s]
  · rw [h, if_neg (by decide)]
    simp [PySem.W.kitCls, i', t, s]
theorem kit_bi {K : PySem.W.Frag} {D : Addr} {T : String} (m : PySem.W.kitMeta T = true) (s : PySem.W.subIn K (.ref D) (.type T) = some true) : PySem.W.kitOne K (.ref D) (.type T) = some true := by
  unfold PySem.W.kitOne
  split
  · rfl
  · simp [PySem.W.kitCls, m, s]
end
end VL
set_option Elab.async false
set_option linter.all false
set_option maxRecDepth 100000
/-! VL: xs.index(e); a.append(b.pop(e)). -/
namespace VL
open PySem L2 PySem.Spec PyProof.Rows
section
variable {X : Cx} {W : WX} {S0 : Addr → Prop} {H0 : Hp} {rm m ma mb : Md} {own own' : List Addr} {H H' : Hp} {pos p : Pos} {o e : Expr} {fo fe : Rho → M D}
end
end VL
set_option Elab.async false
set_option linter.all false
set_option maxRecDepth 100000
/-! VL: zip(text, list). -/
namespace VL
open PySem L2 PySem.Spec PyProof.Rows
open PySem.Sem (wp)
section
variable {prog : Program} {w : World} {A : Around} {E : Value → Shared → Prop} {s : Shared}
end
end VL
set_option Elab.async false
set_option linter.all false
set_option maxRecDepth 100000
/-! VL: a chain of three comparisons. -/
namespace VL
open PySem L2 PySem.Spec PyProof.Rows
section
variable {X : Cx} {W : WX} {S0 : Addr → Prop} {H0 : Hp} {m ma mb mc md : Md} {own : List Addr} {H H1 : Hp} {σ : Sg} {a b c d : Expr} {fa fb fc fd : Rho → M D} {pos : Pos} {op1 op2 op3 : CmpOp} {r1 r2 r3 : R2} {g1 g2 g3 : D → D → M D}
end
end VL
set_option Elab.async false
set_option linter.all false
set_option maxRecDepth 100000
/-! VL: defs with default values. -/
namespace VL
open PySem L2 PySem.Spec PyProof.Rows
section
variable {P : Program} {w : World} {K : PySem.W.Frag} {mg : Str → Option Value} {base : Heap}
/-- a def that may be called without its last arguments: their data is extra -/
structure CalD (P : Program) (w : World) (K : PySem.W.Frag) (mg : Str → Option Value) (base : Heap) (k : Nat) (x : Str) (g : List D → M D) (extra : List D) : Prop where
  p : ∃ (f : Addr) (fd : FuncData) (ps : List Str) (dvs : List V) (ds : List Value), FnOk P w K mg base (L2.CX P w) k f fd ps (spN mg K g) ∧ mg x = some (.ref f) ∧ PySem.W.keepIn K (.ref f) = true ∧ Binds K fd ps ds ∧ Vals dvs ds ∧ ∀ H : Hp, RpA K (fun _ => True) H dvs extra
theorem CalD.mk' {k : Nat} {x qual z : Str} {st : Stmt} {f : Addr} {fd : FuncData} {ps : List Str} {g : List D → M D} (F : FnOk P w K mg base (L2.CX P w) k f fd ps (spN mg K g)) (Fn : FunD K x qual (defArgs st) (defBody st) (defScope st) [V.str z] [] f fd) (hm : mg x = some (.ref f)) (hb : ∃ ds, Vals [V.str z] ds ∧ Binds K fd ps ds) : CalD P w K mg base k x g [.str z] := by
  obtain ⟨ds, h1, h2⟩ := hb
  exact ⟨f, fd, ps, _, ds, F, hm, Fn.kp, h2, h1, fun H => .cons (.str z) .nil⟩
end
section
variable {X : Cx} {W : WX} {S0 : Addr → Prop} {H0 : Hp} {pos p : Pos} {e : Expr} {es : List Expr} {fa : Rho → M (List D)} {x : Str} {j k : Nat} {g : List D → M D} {extra : List D}
end
end VL
set_option Elab.async false
set_option linter.all false
set_option maxRecDepth 100000
/-! VL: x or y, x and y by truth. -/
namespace VL
open PySem L2 PySem.Spec PyProof.Rows
section
variable {X : Cx} {W : WX} {S0 : Addr → Prop} {H0 : Hp} {m : Md} {pos : Pos} {a : Expr} {fa fb : Rho → M D}
end
end VL
set_option Elab.async false
set_option linter.all false
set_option maxRecDepth 100000
/-! VL: a module's constant tuple of tuples of ints. -/
namespace VL
open PySem L2 PySem.Spec PyProof.Rows
structure GK (K : PySem.W.Frag) (mg : Str → Option Value) (x : Str) (d : D) : Prop where
  p : ∃ a, mg x = some (.ref a) ∧ ∀ (S : Addr → Prop) (H : Hp), Rp K S H (.ref a) d
section
variable {K : PySem.W.Frag} {mg : Str → Option Value}
end
section
variable {X : Cx} {W : WX} {S0 : Addr → Prop} {H0 : Hp} {m : Md} {pos : Pos}
end
end VL
set_option Elab.async false
set_option linter.all false
set_option maxRecDepth 100000
/-! VL: x < y of nested data. -/
namespace VL
open PySem L2 PySem.Spec PyProof.Rows
section
variable {X : Cx} {W : WX} {S0 : Addr → Prop} {H0 : Hp} {m : Md}
end
end VL
set_option Elab.async false
set_option linter.all false
set_option maxRecDepth 100000
/-! VL: x = e, a test that may return, then lists within the new tuple x are changed; x is forgotten. -/
namespace VL
open PySem L2 PySem.Spec PyProof.Rows
/-- a list within a tuple, both new since Hs -/
def Wk (Hs H : Hp) (v : V) (n k : Nat) : Prop := ∃ a xs b ys, v = .ref a ∧ H a = some (.tup xs) ∧ xs[k]? = some (.ref b) ∧ Hs b = none ∧ H b = some (.lst ys) ∧ ys.length ≤ n
theorem Wk.step {Hs H : Hp} {v : V} {n n' k : Nat} {b : Addr} {ys : List V} (h : Wk Hs H v n k) (hb : ∃ zs, H b = some (.lst zs)) (hl : ys.length ≤ n') (hn : n ≤ n') : Wk Hs (upd H b (.lst ys)) v n' k := by
  obtain ⟨a, xs, c, zs, h1, h2, h3, h4, h5, h6⟩ := h
  obtain ⟨ws, hb⟩ := hb
  have hab : a ≠ b := fun e => by rw [e, hb] at h2; cases h2
  by_cases e : c = b
  · subst e
    exact ⟨a, xs, c, ys, h1, by rw [upd_ne hab]; exact h2, h3, h4, upd_same, hl⟩
  · exact ⟨a, xs, c, zs, h1, by rw [upd_ne hab]; exact h2, h3, h4, by rw [upd_ne e]; exact h5, Nat.le_trans h6 hn⟩
/-- a statement that changes a list within the tuple in slot i -/
structure VU (X : Cx) (i : Nat) (Ks : List Nat) (st : Stmt) (m : Nat) : Prop where
  p : ∃ ts, PS X st ts ∧ ∀ (σ : Sg) (H Hs : Hp) (v : V) (n : Nat) (D : Ends), σ[i]? = some (some v) → Same Hs H → (∀ k, k ∈ Ks → Wk Hs H v n k) → n + m ≤ sizeLine → (∀ H', Same Hs H' → (∀ k, k ∈ Ks → Wk Hs H' v (n + m) k) → D.nx σ H') → ts D σ H
/-- such statements, then what follows -/
structure VQ (X : Cx) (W : WX) (S0 : Addr → Prop) (H0 : Hp) (rm : Md) (i : Nat) (Ks : List Nat) (st : List Stmt) (m : Nat) (g : Rho → Res) : Prop where
  p : ∃ ts, PSs X st ts ∧ ∀ ρ σ own Hs H v n D, Rel X.K S0 H0 ρ σ own Hs → σ[i]? = some (some v) → Same Hs H → (∀ k, k ∈ Ks → Wk Hs H v n k) → n + m ≤ sizeLine → PSt X W S0 H0 rm own Hs D (g ρ) → ts D σ H
theorem same_out {Hs H : Hp} {b : Addr} {o : HO} (s : Same Hs H) (hb : Hs b = none) : Same Hs (upd H b o) := fun a u e => by
  have : a ≠ b := fun z => by rw [z, hb] at e; cases e
  rw [upd_ne this]
  exact s a u e
section
variable {X : Cx} {W : WX} {S0 : Addr → Prop} {H0 : Hp} {rm : Md} {i : Nat} {Ks : List Nat} {px pc apos cpos pos ps pos' : Pos} {x name : Str} {z : Str} {jc jk : Nat} {g : Rho → Res}
end
end VL
set_option Elab.async false
set_option linter.all false
set_option maxRecDepth 100000
/-! VL: walks over dicts whose keys are tuples: items of a new one in a for, keys of one's own in a comprehension. -/
namespace VL
open PySem L2 PySem.Spec PyProof.Rows
/-! ### the items, turn by turn -/
section
variable {P : Program} {w : World} {K : PySem.W.Frag} {d : Addr} {o : Obj} {es : Array DictEntry} {ep : Nat} {X : Cx} {pins : List (Addr × Obj)} {σ : L2.St} {H : Hp} {s : Shared}
end
/-! ### keys as data -/
theorem RpT.getV {K : PySem.W.Frag} {S : Addr → Prop} {H : Hp} : ∀ {vs : List (List Key × V)} {ds : List (List Key × D)} {i : Nat} {k : List Key} {v : V}, RpT K S H vs ds → vs[i]? = some (k, v) → ∃ d, ds[i]? = some (k, d) ∧ Rp K S H v d
  | _, _, _, _, _, .nil, e => by simp at e
  | _, _, 0, _, _, .cons r _, e => by simp at e; obtain ⟨rfl, rfl⟩ := e; exact ⟨_, rfl, r⟩
  | _, _, i + 1, k, v, .cons _ t, e => by
    obtain ⟨u, h1, h2⟩ := RpT.getV (i := i) (k := k) (v := v) t (by simpa using e)
    exact ⟨u, by simpa using h1, h2⟩
section
variable {X : Cx} {W : WX} {S0 : Addr → Prop} {H0 : Hp} {apos cpos tpos : Pos} {e : Expr} {fe : Rho → M D} {elts : List Expr} {kk : Nat}
end
end VL
set_option Elab.async false
set_option linter.all false
set_option maxRecDepth 100000
/-! VL: a call with one keyword, behind the positional values. -/
namespace VL
open PySem L2 PySem.Spec PyProof.Rows
section
variable {P : Program} {w : World} {K : PySem.W.Frag} {mg : Str → Option Value} {base : Heap}
/-- a def that may be called with keywords ks behind n values -/
structure CalK (P : Program) (w : World) (K : PySem.W.Frag) (mg : Str → Option Value) (base : Heap) (k : Nat) (x : Str) (n : Nat) (y : Str) (g : List D → M D) : Prop where
  p : ∃ (f : Addr) (fd : FuncData) (ps : List Str), FnOk P w K mg base (L2.CX P w) k f fd ps (spN mg K g) ∧ mg x = some (.ref f) ∧ PySem.W.keepIn K (.ref f) = true ∧ KBn K fd ps n [y] (fun us ws => us ++ ws) (fun vs zs => vs ++ zs)
end
section
variable {X : Cx} {W : WX} {S0 : Addr → Prop} {H0 : Hp} {pos p kpos : Pos} {e e2 : Expr} {es : List Expr} {fa : Rho → M (List D)} {fb : Rho → M D} {x y : Str} {j k n : Nat} {g : List D → M D}
end
end VL
set_option Elab.async false
set_option linter.all false
set_option maxRecDepth 100000
/-! VL: comprehensions over a dict of one's own (its keys, its values): it is locked meanwhile, and its slot forgotten. -/
namespace VL
open PySem L2 PySem.Spec PyProof.Rows
section
variable {K : PySem.W.Frag} {S0 : Addr → Prop} {H0 H : Hp} {ρ : Rho} {σ : Sg} {own : List Addr}
end
section
variable {X : Cx} {W : WX} {S0 : Addr → Prop} {H0 : Hp} {m : Md} {pos : Pos} {elt tg iter : Expr} {ifs : List Expr} {scope : Scope} {own : List (Str × Nat)} {fi : Rho → M (List D)} {ft : D → Rho → Option Rho} {fc : Rho → M Bool} {fe : Rho → M D} {k1 : List Nat}
end
end VL
set_option Elab.async false
set_option linter.all false
set_option maxRecDepth 100000
/-! VL: the values of a dict of one's own whose keys are tuples, in a comprehension. -/
namespace VL
open PySem L2 PySem.Spec PyProof.Rows
section
variable {P : Program} {w : World} {K : PySem.W.Frag} {tg : Expr} {d : Addr} {o : Obj} {X : Cx} {pins : List (Addr × Obj)} {σ : L2.St} {H : Hp} {s : Shared}
end
section
variable {X : Cx} {W : WX} {S0 : Addr → Prop} {H0 : Hp} {m : Md} {pos : Pos} {elt tg iter : Expr} {ifs : List Expr} {scope : Scope} {own : List (Str × Nat)} {ft : D → Rho → Option Rho} {fc : Rho → M Bool} {fe : Rho → M D} {k1 : List Nat}
end
end VL
set_option Elab.async false
set_option linter.all false
set_option maxRecDepth 100000
/-! VL30: + and slices over lists whose items are no leaves (what they give is shared). -/
namespace VL
open PySem L2 PySem.Spec PyProof.Rows
section
variable {X : Cx} {W : WX} {S0 : Addr → Prop} {H0 : Hp} {ma mb : Md} {a b e : Expr} {fa fb fe : Rho → M D} {pos p2 : Pos}
def addE : D → D → M D := fun x y => match x, y with
  | .lst xs, .lst ys => if xs.length + ys.length ≤ sizeLine then .ok (.lst (xs ++ ys)) else .er
  | _, _ => .er
end
end VL
set_option Elab.async false
set_option linter.all false
set_option maxRecDepth 100000
/-! VL31: a list of one's own whose items are no leaves. -/
namespace VL
open PySem L2 PySem.Spec PyProof.Rows
section
variable {X : Cx} {W : WX} {S0 : Addr → Prop} {H0 : Hp} {rm : Md} {es : List Expr} {fa : Rho → M (List D)} {x : Str} {i : Nat} {pos pos' p2 : Pos}
end
end VL
set_option Elab.async false
set_option linter.all false
set_option maxRecDepth 100000
/-! VL32: a dict display of one pair, its key a tuple. -/
namespace VL
open PySem L2 PySem.Spec PyProof.Rows
section
variable {prog : Program} {w : World} {K : Type} [DecidableEq K] {knd : HeapKind prog w K} {A : Around} {E : Value → Shared → Prop} {s : Shared}
theorem wp_dict_stored {env : Env} {keys : List (Option Expr)} {values : List Expr} {pos : Pos} {pairs : List (Sem Value × Sem Value)} {Q : Value → Shared → Prop} (hu : knd.room A)
    (hshape : (evalEachOpt keys env).zip ((evalEach values env).map fun v => do let x ← v; standAt pos; pure x) = pairs.map fun p => (some p.1, p.2)) (h0 : pairs ≠ []) (hlen : pairs.length ≤ 15)
    (h : wpAny (model prog w) A (evalPairs pairs) (fun vs s₁ => ∃ ps, CarriesH knd s₁.heap vs ps ∧ s₁.heap.DictOfH knd s.heap.objs.size [] ∧
      ∀ h' tk, h'.DictOfH knd s.heap.objs.size (storedAllH [] ps) → Heap.SameBut s.heap.objs.size s₁.heap h' → Q (.ref s.heap.objs.size) { s₁ with heap := h', toks := tk }) E
      { s with heap := s.heap.push { cls := .type "dict", data := .dict #[] } }) :
    wpAny (model prog w) A (eval (.Dict keys values pos) env) Q E s := by
  rw [arm_eval_Dict, hshape, dictDisplay_pairs pairs h0 (by omega)]
  exact wpAny_bind (wpAny_standAt (wpAny_bind (wpAny_subDictH (knd := knd) (Q := fun d s' => wpAny (model prog w) A (pure (Value.ref d)) Q E s') hu hlen
    (wpAny_mono h (fun vs s₁ h₁ => by obtain ⟨ps, hc, hm, hq⟩ := h₁; exact ⟨ps, hc, hm, fun h' tk a b => wpAny_pure (hq h' tk a b)⟩) fun _ _ e => e))))
end
/-- {k: v} with k a tuple -/
def tDisp1 (tk tv : TE) : TE := fun σ H Q => ∀ p, H p = none → tk σ (upd H p (.dT [])) fun x H1 => tv σ H1 fun y H2 => H2 p = some (.dT []) ∧ ∃ (ks : List Key) (b : Addr), x = .ref b ∧ H2 b = some (.tup (ks.map kV)) ∧ Q (.ref p) (upd H2 p (.dT [(ks, y)]))
theorem pe_disp1 {X : Cx} {pos : Pos} {k v : Expr} {tk tv : TE} (hu : X.A.units + 1 < cLine) (hk : PE X k tk) (hv : PE X v tv) : PE X (.Dict [some k] [v] pos) (tDisp1 tk tv) := by
  have h := pps_cons (pos := pos) hk hv (pps_nil (X := X) (pos := pos))
  refine ⟨fun pins s σ H Q I q => ?_⟩
  have hn := I.hok.fresh (Nat.le_refl s.heap.objs.size)
  have I1 := I.laid (a := s.heap.objs.size) (o := .dT []) (h' := s.heap.push { cls := .type "dict", data := .dict #[] }) (t' := s.toks) (fun _ _ q => Heap.get?_push_of_some _ q) (Nat.le_refl _) (dt_empty s.heap I.big)
  let Q' : List (V × V) → Hp → Prop := fun ps H2 => match ps with
    | [(x, y)] => H2 s.heap.objs.size = some (.dT []) ∧ ∃ (ks : List Key) (b : Addr), x = .ref b ∧ H2 b = some (.tup (ks.map kV)) ∧ Q (.ref s.heap.objs.size) (upd H2 s.heap.objs.size (.dT [(ks, y)]))
    | _ => False
  refine wp_dict_stored (knd := tupleKind (mixKind X.prog X.w)) (show X.A.units < cLine by omega) (zip_pairTrees [some k] [v] X.env pos rfl rfl) (by
    intro e
    have := pairTrees_length [some k] [v] X.env pos rfl rfl
    rw [e] at this
    cases this) (by rw [pairTrees_length [some k] [v] X.env pos rfl rfl]; simp) (thn (h.run pins _ σ _ Q' I1 (q _ hn)) fun ws s2 ⟨ps, H2, I2, rel, q2⟩ => ?_)
  match ps, rel, q2 with
  | [], _, q2 => exact q2.elim
  | _ :: _ :: _, _, q2 => exact q2.elim
  | [(x, y)], rel, q2 =>
    obtain ⟨e, ks, b, ex, eb, q3⟩ := (show H2 s.heap.objs.size = some (.dT []) ∧ ∃ (ks : List Key) (b : Addr), x = .ref b ∧ H2 b = some (.tup (ks.map kV)) ∧ Q (.ref s.heap.objs.size) (upd H2 s.heap.objs.size (.dT [(ks, y)])) from q2)
    subst ex
    cases rel with
    | @cons _ q0 _ qs hq t =>
      cases t
      obtain ⟨kv, vv⟩ := q0
      obtain ⟨r1, r2⟩ := hq
      obtain rfl : kv = Value.ref b := r1
      obtain ⟨z, hd, xs, rl, dd⟩ := dt_of I2.hok e
      cases rl
      refine ⟨[(ks, b, vv)], ⟨rfl, rfl, key_of I2.hok eb, trivial⟩, dd, fun h' tk dd' hs => ⟨.ref s.heap.objs.size, _, ?_, rfl, q3⟩⟩
      obtain ⟨q, es, ep, hq, h2, h3, h4, _, h5⟩ := dd'
      refine d_write I2 (by rw [e]; exact True.intro) hs ⟨q, hq⟩ ⟨by simp [sizeLine_eq], hd, _, ((show KT H2 [] [] from .nil).put ks eb r2).keeps fun c ys ec => ?_, q, es, ep, hq, h2, h3, h4, h5⟩
      rw [upd_ne (ne_of ec e (fun z => nomatch z))]
      exact ec
section
variable {X : Cx} {W : WX} {S0 : Addr → Prop} {H0 : Hp} {mk : Md} {pos : Pos} {k v : Expr} {fk fv : Rho → M D}
def eDct1 (fk fv : Rho → M D) : Rho → M D := fun ρ => M.bind (fk ρ) fun kd => M.bind (fv ρ) fun d => match kd with
  | .tup ks0 => (match keyOf ks0 with
    | some ks => .ok (.dct [(ks, d)])
    | none => .er)
  | _ => .er
theorem vx_dct1 (hu : X.A.units + 1 < cLine) (hk : VX X W S0 H0 mk k fk) (hv : VX X W S0 H0 .N v fv) : VX X W S0 H0 .N (.Dict [some k] [v] pos) (eDct1 fk fv) := by
  obtain ⟨tk, pk, qk⟩ := hk.p
  obtain ⟨tv, pv, qv⟩ := hv.p
  refine ⟨_, pe_disp1 hu pk pv, fun ρ σ own H Q R k p hp => ?_⟩
  have s0 : Same H (upd H p (.dT [])) := same_upd hp
  refine qk ρ σ own _ _ (R.grow s0) ?_
  unfold eDct1 at k
  revert k
  cases fk ρ with
  | er => exact id
  | ex c => exact fun k cv d H' i s => k cv d H' i (s0.trans s)
  | ok kd =>
    intro k x H1 s1 r1
    refine qv ρ σ own H1 _ ((R.grow s0).grow s1) ?_
    rw [bind_ok] at k
    revert k
    cases fv ρ with
    | er => exact id
    | ex c => exact fun k cv d H' i s => k cv d H' i ((s0.trans s1).trans s)
    | ok d =>
      intro k y H2 s2 r2
      rw [bind_ok] at k
      cases kd with
      | tup ks0 =>
        dsimp only at k
        split at k
        · next ks ek =>
          obtain ⟨b, ys, rfl, h5, h6⟩ := r1.isTup
          have e2 : H2 p = some (.dT []) := s2 p _ (s1 p _ upd_same)
          refine ⟨e2, ks, b, rfl, by rw [← h6.keys ek]; exact s2 b _ h5, ?_⟩
          have hb : ∀ c o, H c = some o → (upd H2 p (.dT [(ks, y)])) c = some o := fun c o e => by
            rw [upd_ne (fun z => by rw [z, hp] at e; cases e)]
            exact ((s0.trans s1).trans s2) c o e
          refine k _ _ hb ?_
          have e1 : H1 p = some (.dT []) := s1 p _ upd_same
          have kp : Keep (SN H1 H0 own) (SN H H0 own) H2 (upd H2 p (.dT [(ks, y)])) := ⟨fun a o sa e => by
              have hne : a ≠ p := fun z => by
                have z1 := sa.1
                rw [z, e1] at z1
                cases z1
              exact ⟨⟨(s0.trans s1).free sa.1, sa.2⟩, by rw [upd_ne hne]; exact e⟩, fun a xs e => by
              have hne : a ≠ p := fun z => by rw [z, e2] at e; cases e
              rw [upd_ne hne]
              exact e, fun a o u e => by
              have hne : a ≠ p := fun z => by rw [z, e2] at e; cases e
              rw [upd_ne hne]
              exact e⟩
          have r3 : Rp X.K (SN H1 H0 own) H2 y d := r2
          exact Rp.dct ⟨hp, sf_new R hp⟩ upd_same (.cons (r3.keep kp) .nil)
        · exact k.elim
      | _ => exact k.elim
end
end VL
set_option Elab.async false
set_option linter.all false
set_option maxRecDepth 100000
/-! VL33: for x in reversed(a list). -/
namespace VL
open PySem L2 PySem.Spec PyProof.Rows
section
variable {X : Cx} {W : WX} {S0 : Addr → Prop} {H0 : Hp} {e : Expr} {fe : Rho → M D} {p pos : Pos} {tg : Expr}
def eRev (f : Rho → M D) : Rho → M (List D) := fun ρ => M.bind (f ρ) fun d => match d with
  | .lst ds => .ok ds.reverse
  | _ => .er
theorem vi_rev (hm : X.mg "reversed" = none) (h : VX X W S0 H0 .E e fe) (hg : Gl X "reversed" := by rfl) (hs1 : starEach [e] X.env = (false, eval e X.env) :: starEach [] X.env := by rfl)
    (hf : ∀ x, foldedSetIterable (.Call (.Name "reversed" p) [e] [] pos) X.env x = pure x := by intro _; rfl) : VI X W S0 H0 tg (.Call (.Name "reversed" p) [e] [] pos) (eRev fe) := by
  obtain ⟨te, pa, q⟩ := h.p
  refine ⟨⟨_, RT.pi_revA hg hm pa hs1, fun ρ σ own H Rk R k => q ρ σ own H _ R ?_⟩, hf⟩
  unfold eRev at k
  revert k
  cases fe ρ with
  | er => exact id
  | ex c => exact id
  | ok d =>
    intro k v H1 s1 r1
    have R1 := R.grow s1
    cases d with
    | lst ds =>
      cases r1 with
      | lst sa ha ra =>
        rename_i a vs
        refine ⟨a, vs, rfl, .inl ⟨SqL.of ha, k _ H1 s1 ?_⟩⟩
        intro own' H' F hsm ho i
        have ha' : SqL X.K H' a vs := .inl (fra_rd F R1.own0 sa.1 (.inl ha))
        have ra' := ra.keep (F.keepA (S0 := S0) (H0 := H0) R1.own0)
        rw [List.length_reverse]
        refine ⟨fun hi => ?_, fun hi => (by rw [ra.length]; exact hi), fun y H2 hi ⟨eH, f1⟩ => ?_⟩
        · have hj : vs.length - 1 - i < ds.length := by rw [ra.length]; omega
          obtain ⟨v1, e1, _⟩ := ra.get (List.getElem?_eq_getElem hj)
          exact ⟨by rw [ra.length]; exact hi, vs, v1, ha', e1⟩
        · obtain ⟨d1, g1, h1⟩ := ra'.getV (f1 vs ha')
          subst eH
          refine ⟨Same.refl _, d1, ?_, h1⟩
          rw [List.getElem?_reverse (by omega), ← ra.length]
          exact g1
    | _ => exact k.elim
end
end VL
set_option Elab.async false
set_option linter.all false
set_option maxRecDepth 100000
/-! VL34: x.reverse(). -/
namespace VL
open PySem L2 PySem.Spec PyProof.Rows
section
variable {X : Cx}
def rvsE : List D → List D → M (List D) := fun ds as => match as with | [] => .ok ds.reverse | _ => .er
theorem mg_rev : MutG X rReverse rvsE := by
  intro S H a xs vs ds as ds' Q h r r2 e k
  unfold rvsE at e
  cases as with
  | nil =>
    cases r2
    cases e
    exact ⟨a, xs, rfl, rfl, h, k _ _ r.reverse⟩
  | cons _ _ => cases e
end
end VL
set_option Elab.async false
set_option linter.all false
set_option maxRecDepth 100000
/-! VL35: str(i), int(b), sum of a tuple of whole numbers. -/
namespace VL
open PySem L2 PySem.Spec PyProof.Rows
section
variable {X : Cx} {W : WX} {S0 : Addr → Prop} {H0 : Hp} {m : Md}
end
end VL
set_option Elab.async false
set_option linter.all false
set_option maxRecDepth 100000
/-! VO1: objects of one's own classes: fields are read, methods that change nothing are called. -/
namespace VL
open PySem L2 PySem.Spec PyProof.Rows
/-! ### fields -/
def lookF (f : Str) : List Str → List D → Option D
  | n :: ns, d :: ds => if n = f then some d else lookF f ns ds
  | _, _ => none
section
variable {K : PySem.W.Frag} {S : Addr → Prop} {H : Hp} {f : Str}
theorem look_rp : ∀ {vs : List (Str × V)} {ns : List Str} {ds : List D} {d : D}, vs.map (·.1) = ns → RpA K S H (vs.map (·.2)) ds → lookF f ns ds = some d → ∃ v, vs.lookup f = some v ∧ Rp K S H v d
  | [], ns, ds, d, hn, r, h => by
    subst hn
    cases r
    cases h
  | (n, v) :: vs, ns, ds, d, hn, r, h => by
    subst hn
    cases r with
    | @cons _ d0 _ ds r1 r2 =>
      simp only [List.map_cons, lookF] at h
      by_cases e : n = f
      · rw [if_pos e] at h
        cases h
        exact ⟨v, by rw [List.lookup_cons]; simp [e], r1⟩
      · rw [if_neg e] at h
        obtain ⟨w, h1, h2⟩ := look_rp (vs := vs) rfl r2 h
        refine ⟨w, ?_, h2⟩
        rw [List.lookup_cons]
        have : (f == n) = false := by simpa using fun z => e z.symm
        rw [this]
        exact h1
theorem look_own : ∀ {vs : List (Str × V)} {ns : List Str} {ds : List D} {d : D}, vs.map (·.1) = ns → OwnF K S H vs ds → lookF f ns ds = some d →
    ∃ v, vs.lookup f = some v ∧ if ownF f = true then ∃ b xs es, v = .ref b ∧ d = .lst es ∧ H b = some (.lst xs) ∧ RpA K S H xs es ∧ b ∈ subs vs else Rp K S H v d
  | [], ns, ds, d, hn, r, h => by
    subst hn
    cases ds with
    | nil => cases h
    | cons _ _ => cases h
  | (n, v) :: vs, ns, [], d, hn, r, h => r.elim
  | (n, v) :: vs, ns, d0 :: ds, d, hn, r, h => by
    subst hn
    simp only [List.map_cons, lookF] at h
    obtain ⟨r1, r2⟩ := r
    by_cases e : n = f
    · rw [if_pos e] at h
      cases h
      refine ⟨v, by rw [List.lookup_cons]; simp [e], ?_⟩
      subst e
      by_cases c : ownF n = true
      · rw [if_pos c] at r1 ⊢
        obtain ⟨b, xs, es, rfl, h2, h3, h4⟩ := r1
        refine ⟨b, xs, es, rfl, h2, h3, h4, ?_⟩
        unfold subs
        rw [if_pos c]
        exact List.mem_cons_self
      · rw [if_neg c] at r1 ⊢
        exact r1
    · rw [if_neg e] at h
      obtain ⟨w, h1, h2⟩ := look_own (vs := vs) rfl r2 h
      refine ⟨w, ?_, ?_⟩
      · rw [List.lookup_cons]
        have : (f == n) = false := by simpa using fun z => e z.symm
        rw [this]
        exact h1
      · by_cases c : ownF f = true
        · rw [if_pos c] at h2 ⊢
          obtain ⟨b, xs, es, h3, h4, h5, h6, h7⟩ := h2
          refine ⟨b, xs, es, h3, h4, h5, h6, ?_⟩
          cases v with
          | ref x =>
            unfold subs
            by_cases c2 : ownF n = true
            · rw [if_pos c2]; exact List.mem_cons_of_mem _ h7
            · rw [if_neg c2]; exact h7
          | _ => exact h7
        · rw [if_neg c] at h2 ⊢
          exact h2
theorem look_none : ∀ {vs : List (Str × V)} {ns : List Str}, vs.map (·.1) = ns → f ∉ ns → vs.lookup f = none
  | [], _, _, _ => rfl
  | (n, v) :: vs, ns, hn, h => by
    subst hn
    rw [List.lookup_cons]
    have : (f == n) = false := by
      have : ¬ f = n := fun z => h (by rw [z]; exact List.mem_cons_self)
      simpa using this
    rw [this]
    exact look_none rfl fun hm => h (List.mem_cons_of_mem _ hm)
end
/-- what is known of a class by its name -/
structure ClsK (K : PySem.W.Frag) (c : Str) : Prop where
  p : ∃ C, ClsAt K c C ∧ Cls K C
theorem ClsAt.one {K : PySem.W.Frag} {c : Str} {C D : Addr} (h : ClsAt K c C) (g : ClsAt K c D) : C = D := by
  unfold ClsAt at h g
  rw [h] at g
  cases g
  rfl
/-- the class has no attribute of that name -/
def NoF (K : PySem.W.Frag) (c f : Str) : Prop := ∀ C, ClsAt K c C → NoAttr K C f
section
variable {X : Cx} {W : WX} {S0 : Addr → Prop} {H0 : Hp} {m ma : Md} {pos px apos : Pos} {x f c : Str} {i : Nat}
/-- x.f: as it stands -/
def eFld (i : Nat) (c f : Str) : Rho → M D := fun ρ => match ρ[i]? with
  | some (.sh (.obj _ c' ns ds)) => (match lookF f ns ds with | some d => if c' = c then .ok d else .er | none => .er)
  | some (.fr (.obj _ c' ns ds)) => (match lookF f ns ds with | some d => if c' = c then .ok d else .er | none => .er)
  | some (.ow (.obj _ c' ns ds)) => (match lookF f ns ds with | some d => if c' = c then .ok d else .er | none => .er)
  | _ => .er
theorem vx_fld (hc : ClsK X.K c) (hn : NoF X.K c f) (hN : X.N[i]? = some x := by rfl) (hv : Vis X.env.scope x := by first | exact Or.inl rfl | exact Or.inr (Or.inl rfl) | exact Or.inr (Or.inr rfl)) (hd : (x == ("__debug__" : Str)) = false := by decide)
    (hcd : (x == ("__classdict__" : Str)) = false := by decide) (hb : attributeBase (.Name x px) f X.env (eval (.Name x px) X.env) = eval (.Name x px) X.env := by rfl) : VX X W S0 H0 .O (.Attribute (.Name x px) f pos) (eFld i c f) := by
  obtain ⟨C, h1, h2⟩ := hc.p
  refine ⟨_, pe_fld (pe_var hN hv hd hcd) hb, fun ρ σ own H Q R k => ?_⟩
  have data : ∀ {S : Addr → Prop} {v : V} {p : Addr} {c' : Str} {ns : List Str} {ds : List D} {d : D}, Rp X.K S H v (.obj p c' ns ds) → lookF f ns ds = some d → c' = c → (∀ w, Rp X.K S H w d → Q w H) → ∃ a C dx fs w, v = .ref a ∧ H a = some (.ins C dx fs) ∧ Cls X.K C ∧ NoAttr X.K C f ∧ fs.lookup f = some w ∧ Q w H := by
    intro S v p c' ns ds d r hl e q
    subst e
    cases r with
    | obj s h hC hns hxs r =>
      subst hxs
      cases h1.one hC
      obtain ⟨w, hw, rw'⟩ := look_rp hns r hl
      exact ⟨_, _, _, _, w, rfl, h, h2, hn _ hC, hw, q w rw'⟩
  unfold eFld at k
  split at k
  · next p c' ns ds e =>
    obtain ⟨v, hv, r⟩ := R.sh i _ e
    refine ⟨v, hv, ?_⟩
    cases hl : lookF f ns ds with
    | none => rw [hl] at k; exact k.elim
    | some d =>
      rw [hl] at k
      simp only at k
      split at k
      · next hcc => exact data r hl hcc fun w rw' => k w H (Same.refl H) (.inl rw')
      · exact k.elim
  · next p c' ns ds e =>
    obtain ⟨v, hv, r⟩ := R.fr i _ e
    refine ⟨v, hv, ?_⟩
    cases hl : lookF f ns ds with
    | none => rw [hl] at k; exact k.elim
    | some d =>
      rw [hl] at k
      simp only at k
      split at k
      · next hcc => exact data r hl hcc fun w rw' => k w H (Same.refl H) (.inl (rw'.keep (.wide SF.sa)))
      · exact k.elim
  · next p c' ns ds e =>
    obtain ⟨a, ha, ma, hap, C', dx, vs, hH, hC, hns, ro, nd⟩ := R.ow i _ e
    refine ⟨.ref a, ha, ?_⟩
    cases hl : lookF f ns ds with
    | none => rw [hl] at k; exact k.elim
    | some d =>
      rw [hl] at k
      simp only at k
      split at k
      · next hcc =>
        subst hcc
        cases h1.one hC
        obtain ⟨w, hw, hr⟩ := look_own hns ro hl
        refine ⟨a, C, dx, vs, w, rfl, hH, h2, hn C h1, hw, k w H (Same.refl H) ?_⟩
        split at hr
        · obtain ⟨b, xs, es, rfl, rfl, hb', rb, hsb⟩ := hr
          exact .inr ⟨b, rfl, ((R.sub i _ a e ha) b (by rw [sb_ins hH]; exact hsb)).1, xs, hb', rb⟩
        · exact .inl (hr.keep (.wide SF.sa))
      · exact k.elim
  · exact k.elim
/-- x.f of an object of one's own, not changed in place: new data -/
def eFldF (i : Nat) (c f : Str) : Rho → M D := fun ρ => match ρ[i]? with
  | some (.ow (.obj _ c' ns ds)) => (match lookF f ns ds with | some d => if c' = c then .ok d else .er | none => .er)
  | _ => .er
theorem vx_fldF (hc : ClsK X.K c) (hn : NoF X.K c f) (ho : ownF f = false := by decide) (hN : X.N[i]? = some x := by rfl) (hv : Vis X.env.scope x := by first | exact Or.inl rfl | exact Or.inr (Or.inl rfl) | exact Or.inr (Or.inr rfl)) (hd : (x == ("__debug__" : Str)) = false := by decide)
    (hcd : (x == ("__classdict__" : Str)) = false := by decide) (hb : attributeBase (.Name x px) f X.env (eval (.Name x px) X.env) = eval (.Name x px) X.env := by rfl) : VX X W S0 H0 .F (.Attribute (.Name x px) f pos) (eFldF i c f) := by
  obtain ⟨C, h1, h2⟩ := hc.p
  refine ⟨_, pe_fld (pe_var hN hv hd hcd) hb, fun ρ σ own H Q R k => ?_⟩
  unfold eFldF at k
  split at k
  · next p c' ns ds e =>
    obtain ⟨a, ha, ma, hap, C', dx, vs, hH, hC, hns, ro, nd⟩ := R.ow i _ e
    refine ⟨.ref a, ha, ?_⟩
    cases hl : lookF f ns ds with
    | none => rw [hl] at k; exact k.elim
    | some d =>
      rw [hl] at k
      simp only at k
      split at k
      · next hcc =>
        subst hcc
        cases h1.one hC
        obtain ⟨w, hw, hr⟩ := look_own hns ro hl
        rw [if_neg (by rw [ho]; decide)] at hr
        exact ⟨a, C, dx, vs, w, rfl, hH, h2, hn C h1, hw, k w H (Same.refl H) hr⟩
      · exact k.elim
  · exact k.elim
/-- x.f of shared data -/
def eFldE (i : Nat) (c f : Str) : Rho → M D := fun ρ => match ρ[i]? with
  | some (.sh (.obj _ c' ns ds)) => (match lookF f ns ds with | some d => if c' = c then .ok d else .er | none => .er)
  | _ => .er
theorem vx_fldE (hc : ClsK X.K c) (hn : NoF X.K c f) (hN : X.N[i]? = some x := by rfl) (hv : Vis X.env.scope x := by first | exact Or.inl rfl | exact Or.inr (Or.inl rfl) | exact Or.inr (Or.inr rfl)) (hd : (x == ("__debug__" : Str)) = false := by decide)
    (hcd : (x == ("__classdict__" : Str)) = false := by decide) (hb : attributeBase (.Name x px) f X.env (eval (.Name x px) X.env) = eval (.Name x px) X.env := by rfl) : VX X W S0 H0 .E (.Attribute (.Name x px) f pos) (eFldE i c f) := by
  obtain ⟨C, h1, h2⟩ := hc.p
  refine ⟨_, pe_fld (pe_var hN hv hd hcd) hb, fun ρ σ own H Q R k => ?_⟩
  unfold eFldE at k
  split at k
  · next p c' ns ds e =>
    obtain ⟨v, hv, r⟩ := R.sh i _ e
    refine ⟨v, hv, ?_⟩
    cases hl : lookF f ns ds with
    | none => rw [hl] at k; exact k.elim
    | some d =>
      rw [hl] at k
      simp only at k
      split at k
      · next hcc =>
        subst hcc
        cases r with
        | obj s h hC hns hxs r =>
          subst hxs
          cases h1.one hC
          obtain ⟨w, hw, rw'⟩ := look_rp hns r hl
          exact ⟨_, _, _, _, w, rfl, h, h2, hn _ hC, hw, k w H (Same.refl H) rw'⟩
      · exact k.elim
  · exact k.elim
end
end VL
set_option Elab.async false
set_option linter.all false
set_option maxRecDepth 100000
/-! VO2: methods that change nothing. -/
namespace VL
open PySem L2 PySem.Spec PyProof.Rows
section
variable {X : Cx} {CX : CXT} {k : Nat} {f C : Addr} {fd : FuncData} {ps : List Str} {sp : Sp} {E : L2.St → XK} {x m : Str} {p pos apos : Pos} {e o : Expr} {es : List Expr} {ta : TE} {t : TA}
def tMethX (C : Addr) (m : Str) (sp : Sp) (E : L2.St → XK) (ta : TE) (t : TA) : TE := fun σ H Q => ta σ H fun x H1 => ∃ a dx fs, x = .ref a ∧ H1 a = some (.ins C dx fs) ∧ fs.lookup m = none ∧
  t σ H1 fun vs H2 => sp (x :: vs) H2 Q (E σ)
theorem pe_methX {pl : Sem Bool} (he : PE X o ta) (c : Cls X.K C) (hm : Meth X.K C m f) (F : FnOk X.prog X.w X.K X.mg X.base CX k f fd ps sp) (hr : Room k X.A) (hb : Binds X.K fd ps []) (hx : ∀ σ, PassesAt CX X σ (E σ)) (ha : PA X (e :: es) t)
    (hst : starEach (e :: es) X.env = (false, eval e X.env) :: starEach es X.env := by rfl) (hpl : (backTo pos (starEach es X.env)).any (·.1) = false := by rfl)
    (ht : eval (.Call (.Attribute o m apos) (e :: es) [] pos) X.env = (do
      let ov ← eval o X.env
      standAt apos.atName
      let (f, first) ← holding [ov] (getMethod ov m pl)
      callWith pos f first (backTo pos (starEach (e :: es) X.env)) (backToKw pos (keywordEach [] X.env))) := by rfl) :
    PE X (.Call (.Attribute o m apos) (e :: es) [] pos) (tMethX C m sp E ta t) := by
  refine ⟨fun pins s σ H Q I h => ?_⟩
  refine PySem.W.methodCall_KW (pl := pl) (thn (he.run pins s σ H _ I h) fun u s1 ⟨x, H1, I1, rx, a, dx, fs, ex, ea, l, q⟩ => ?_) ht
  subst ex
  obtain rfl : u = Value.ref a := rx
  refine getmeth_ok I1 ea c hm l ?_
  refine PySem.W.callWith_K (first := [.ref a]) (h₀ := X.base) I.ok.mod.kin hm.kp (thn (ha.run pos pins s1 σ H1 _ I1 q) fun us s2 ⟨vs, H2, I2, r, q2⟩ => ⟨I2.kIn, ?_⟩) hst hpl
  exact run_fnS (us := .ref a :: us) (vs := .ref a :: vs) F hr hb (hx σ) I2 (.cons rfl r) q2
theorem pe_methX0 {pl : Sem Bool} (he : PE X o ta) (c : Cls X.K C) (hm : Meth X.K C m f) (F : FnOk X.prog X.w X.K X.mg X.base CX k f fd ps sp) (hr : Room k X.A) (hb : Binds X.K fd ps []) (hx : ∀ σ, PassesAt CX X σ (E σ))
    (ht : eval (.Call (.Attribute o m apos) [] [] pos) X.env = (do
      let ov ← eval o X.env
      standAt apos.atName
      let (f, first) ← holding [ov] (getMethod ov m pl)
      callWith pos f first (backTo pos (starEach [] X.env)) (backToKw pos (keywordEach [] X.env))) := by rfl) :
    PE X (.Call (.Attribute o m apos) [] [] pos) (tMethX C m sp E ta tNil) := by
  refine ⟨fun pins s σ H Q I h => ?_⟩
  refine PySem.W.methodCall_KW (pl := pl) (thn (he.run pins s σ H _ I h) fun u s1 ⟨x, H1, I1, rx, a, dx, fs, ex, ea, l, q⟩ => ?_) ht
  subst ex
  obtain rfl : u = Value.ref a := rx
  refine getmeth_ok I1 ea c hm l ?_
  exact PySem.W.callWith_K0 (first := [.ref a]) I1.kIn hm.kp (run_fnS (us := [.ref a]) (vs := [.ref a]) F hr hb (hx σ) I1 (.cons rfl .nil) q)
end
/-- a method that may be called: it gives g of the object and the arguments -/
structure CalM (P : Program) (w : World) (K : PySem.W.Frag) (mg : Str → Option Value) (base : Heap) (k : Nat) (c m : Str) (g : List D → M D) : Prop where
  p : ∃ (C f : Addr) (fd : FuncData) (ps : List Str), ClsAt K c C ∧ Cls K C ∧ Meth K C m f ∧ FnOk P w K mg base (L2.CX P w) k f fd ps (spN mg K g) ∧ Binds K fd ps []
section
variable {X : Cx} {W : WX} {S0 : Addr → Prop} {H0 : Hp} {mo : Md} {pos apos : Pos} {o e : Expr} {es : List Expr} {fo : Rho → M D} {fa : Rho → M (List D)} {c m : Str} {j k : Nat} {g : List D → M D}
theorem obj_at {K : PySem.W.Frag} {own : List Addr} {Hb H : Hp} {v : V} {p : Addr} {c : Str} {ns : List Str} {ds : List D} (r : RM K S0 H0 own mo Hb H v (.obj p c ns ds)) : ∃ a C dx vs, v = .ref a ∧ H a = some (.ins C dx vs) ∧ ClsAt K c C ∧ vs.map (·.1) = ns := by
  rcases r.toO (Hc := Hb) with r | ⟨a, rfl, hm, e0, C, dx, vs, e, hc, hn, _⟩
  · cases r with
    | obj s h hC hns hxs r => exact ⟨_, _, _, _, rfl, h, hC, hns⟩
  · exact ⟨a, C, dx, vs, rfl, e, hc, hn⟩
def eMeth (c m : Str) (g : List D → M D) (fo : Rho → M D) (fa : Rho → M (List D)) : Rho → M D := fun ρ => M.bind (fo ρ) fun d => match d with
  | .obj p c' ns ds => if c' = c ∧ m ∉ ns then M.bind (fa ρ) fun as => g (.obj p c' ns ds :: as) else .er
  | _ => .er
theorem vx_meth {pl : Sem Bool} (cm : CalM X.prog X.w X.K X.mg X.base k c m g) (tk : Takes X W) (hr : Room j X.A) (hk : k ≤ j) (ho : VX X W S0 H0 mo o fo) (ha : VA X W S0 H0 .O (e :: es) fa)
    (hst : starEach (e :: es) X.env = (false, eval e X.env) :: starEach es X.env := by rfl) (hpl : (backTo pos (starEach es X.env)).any (·.1) = false := by rfl)
    (ht : eval (.Call (.Attribute o m apos) (e :: es) [] pos) X.env = (do
      let ov ← eval o X.env
      standAt apos.atName
      let (f, first) ← holding [ov] (getMethod ov m pl)
      callWith pos f first (backTo pos (starEach (e :: es) X.env)) (backToKw pos (keywordEach [] X.env))) := by rfl) : VX X W S0 H0 .N (.Call (.Attribute o m apos) (e :: es) [] pos) (eMeth c m g fo fa) := by
  obtain ⟨C, f, fd, ps, h1, h2, h3, F, h5⟩ := cm.p
  obtain ⟨to', po, qo⟩ := ho.p
  obtain ⟨ta, pa, qa⟩ := ha.p
  refine ⟨_, pe_methX po h2 h3 F (hr.mono hk) h5 (fun σ => passAt tk σ) pa hst hpl ht, fun ρ σ own H Q R k => qo ρ σ own H _ R ?_⟩
  unfold eMeth at k
  revert k
  cases fo ρ with
  | er => exact id
  | ex c => exact id
  | ok d =>
    intro k v H1 s1 r1
    rw [bind_ok] at k
    split at k
    · next p c' ns ds =>
      split at k
      · next hcm =>
        obtain ⟨rfl, hm⟩ := hcm
        obtain ⟨a, C', dx, vs, rfl, hH, hC, hns⟩ := obj_at r1
        cases h1.one hC
        refine ⟨a, dx, vs, rfl, hH, look_none hns hm, qa ρ σ own H1 _ (R.grow s1) ?_⟩
        revert k
        cases fa ρ with
        | er => exact id
        | ex c => exact fun k cv dd H' i s => k cv dd H' i (s1.trans s)
        | ok as =>
          intro k ws H2 s2 r2
          rw [bind_ok] at k
          refine ⟨_, .cons (Rp.ofO (r1.grow s2)) (RpA.ofO r2), ?_⟩
          revert k
          cases g (.obj p c' ns ds :: as) with
          | er => exact id
          | ex c => exact fun k cv dd H' i s => k cv dd H' i (s1.trans (s2.trans s))
          | ok d => exact fun k v H' s r => k v H' (s1.trans (s2.trans s)) (r.keep (.wide fun a ha => ⟨(s1.trans s2).free ha, sf_new (R.grow (s1.trans s2)) ha⟩))
      · exact k.elim
    · exact k.elim
theorem vx_meth0 {pl : Sem Bool} (cm : CalM X.prog X.w X.K X.mg X.base k c m g) (tk : Takes X W) (hr : Room j X.A) (hk : k ≤ j) (ho : VX X W S0 H0 mo o fo)
    (ht : eval (.Call (.Attribute o m apos) [] [] pos) X.env = (do
      let ov ← eval o X.env
      standAt apos.atName
      let (f, first) ← holding [ov] (getMethod ov m pl)
      callWith pos f first (backTo pos (starEach [] X.env)) (backToKw pos (keywordEach [] X.env))) := by rfl) : VX X W S0 H0 .N (.Call (.Attribute o m apos) [] [] pos) (eMeth c m g fo aNil) := by
  obtain ⟨C, f, fd, ps, h1, h2, h3, F, h5⟩ := cm.p
  obtain ⟨to', po, qo⟩ := ho.p
  refine ⟨_, pe_methX0 po h2 h3 F (hr.mono hk) h5 (fun σ => passAt tk σ) ht, fun ρ σ own H Q R k => qo ρ σ own H _ R ?_⟩
  unfold eMeth at k
  revert k
  cases fo ρ with
  | er => exact id
  | ex c => exact id
  | ok d =>
    intro k v H1 s1 r1
    rw [bind_ok] at k
    split at k
    · next p c' ns ds =>
      split at k
      · next hcm =>
        obtain ⟨rfl, hm⟩ := hcm
        obtain ⟨a, C', dx, vs, rfl, hH, hC, hns⟩ := obj_at r1
        cases h1.one hC
        refine ⟨a, dx, vs, rfl, hH, look_none hns hm, ?_⟩
        refine ⟨_, .cons (Rp.ofO r1) .nil, ?_⟩
        have k : PX X W S0 H0 own .N H σ Q (g [.obj p c' ns ds]) := k
        revert k
        cases g [.obj p c' ns ds] with
        | er => exact id
        | ex c => exact fun k cv dd H' i s => k cv dd H' i (s1.trans s)
        | ok d => exact fun k v H' s r => k v H' (s1.trans s) (r.keep (.wide fun a ha => ⟨s1.free ha, sf_new (R.grow s1) ha⟩))
      · exact k.elim
    · exact k.elim
end
end VL
set_option Elab.async false
set_option linter.all false
set_option maxRecDepth 100000
/-! VO3: what becomes of objects of one's own. -/
namespace VL
open PySem L2 PySem.Spec PyProof.Rows
section
variable {K : PySem.W.Frag} {S0 : Addr → Prop} {H0 H : Hp} {ρ : Rho} {σ : Sg} {own : List Addr}
/-- what belongs to a slot of one's own changes: the thing itself, or a list of its own -/
theorem Rel.chgX {i : Nat} {a y : Addr} {d d' : D} {o : HO} (R : Rel K S0 H0 ρ σ own H) (hi : ρ[i]? = some (.ow d)) (ha : σ[i]? = some (some (.ref a))) (hy : y = a ∨ y ∈ sb H a) (mo : Mt (some o))
    (r : Own K (SF H0 own) (upd H y o) a d') (hs : ∀ x, x ∈ sb (upd H y o) a → x ∈ sb H a ∨ (x ∈ own ∧ ∀ (j : Nat) (e : D) (b : Addr), ρ[j]? = some (.ow e) → σ[j]? = some (some (.ref b)) → x ≠ b ∧ x ∉ sb H b)) :
    Rel K S0 H0 (ρ.set i (.ow d')) σ own (upd H y o) ∧ Fra own H own (upd H y o) := by
  obtain ⟨a', h1, ham, hown⟩ := R.ow i d hi
  rw [ha] at h1
  cases h1
  have hyo : y ∈ own := by
    rcases hy with rfl | hy
    · exact ham
    · exact (R.sub i d a hi ha y hy).1
  have f : Fra own H own (upd H y o) := ⟨fun b u e hn => by rw [upd_ne (fun z => hn (by rw [z]; exact hyo))]; exact e, fun _ h => .inl h⟩
  have hil : i < ρ.length := (List.getElem?_eq_some_iff.mp hi).1
  -- another slot's things are others
  have oth : ∀ (j : Nat) (e : D) (b : Addr), j ≠ i → ρ[j]? = some (.ow e) → σ[j]? = some (some (.ref b)) → b ≠ y ∧ y ∉ sb H b := fun j e b hj g1 g2 => by
    rcases hy with rfl | hy
    · refine ⟨fun z => hj (R.dis j i e d g1 hi (by rw [g2, ha, z])), fun z => ?_⟩
      exact ((R.sub j e b g1 g2 y z).2 i d y hi ha).1 rfl
    · obtain ⟨_, h2⟩ := R.sub i d a hi ha y hy
      obtain ⟨h3, h4⟩ := h2 j e b g1 g2
      exact ⟨fun z => h3 z.symm, h4 hj⟩
  have sbo : ∀ (j : Nat) (e : D) (b : Addr), j ≠ i → ρ[j]? = some (.ow e) → σ[j]? = some (some (.ref b)) → sb (upd H y o) b = sb H b := fun j e b hj g1 g2 => sb_eq (upd_ne (oth j e b hj g1 g2).1)
  have g : ∀ (j : Nat) (d1 : D), (ρ.set i (.ow d'))[j]? = some (.ow d1) → ∃ d2, ρ[j]? = some (.ow d2) := fun j d1 z => by
    rcases get_set z with ⟨rfl, _, _⟩ | ⟨_, z⟩
    · exact ⟨_, hi⟩
    · exact ⟨_, z⟩
  refine ⟨⟨fun j e q => ?_, fun j e q => ?_, fun j e q => ?_, fun j k d1 e1 x y q => ?_, fun j d1 b e1 e2 x hx => ?_, fun b hm => ⟨(R.own0 b hm).1, ?_⟩, fun b u e => ?_, by simp [R.len]⟩, f⟩
  · rcases get_set q with ⟨rfl, z, hl⟩ | ⟨hj, z⟩
    · cases z
    · obtain ⟨v, h1, h2⟩ := R.sh j e z
      exact ⟨v, h1, h2.keep (f.keepA R.own0)⟩
  · rcases get_set q with ⟨rfl, z, hl⟩ | ⟨hj, z⟩
    · cases z
    · obtain ⟨v, h1, h2⟩ := R.fr j e z
      exact ⟨v, h1, h2.keep (f.keepF R.own0)⟩
  · rcases get_set q with ⟨rfl, z, hl⟩ | ⟨hj, z⟩
    · cases z
      exact ⟨a, ha, ham, r⟩
    · obtain ⟨b, h1, h2, h3⟩ := R.ow j e z
      refine ⟨b, h1, h2, h3.keep (f.keepF R.own0) fun x hx u eu => ?_⟩
      obtain ⟨o1, o2⟩ := oth j e b hj z h1
      have hxy : x ≠ y := by
        rcases hx with rfl | hx
        · exact o1
        · exact fun q => o2 (q ▸ hx)
      rw [upd_ne hxy]; exact eu
  · obtain ⟨d2, z2⟩ := g j d1 x
    obtain ⟨d3, z3⟩ := g k e1 y
    exact R.dis j k d2 d3 z2 z3 q
  · obtain ⟨d2, z2⟩ := g j d1 e1
    by_cases hj : j = i
    · subst hj
      rw [ha] at e2
      cases e2
      rcases hs x hx with hx | ⟨hx1, hx2⟩
      · obtain ⟨h1, h2⟩ := R.sub j d a hi ha x hx
        refine ⟨h1, fun k e c g1 g2 => ?_⟩
        obtain ⟨d3, z3⟩ := g k e g1
        obtain ⟨h3, h4⟩ := h2 k d3 c z3 g2
        refine ⟨h3, fun hk => ?_⟩
        rw [sbo k d3 c hk z3 g2]
        exact h4 hk
      · refine ⟨hx1, fun k e c g1 g2 => ?_⟩
        obtain ⟨d3, z3⟩ := g k e g1
        obtain ⟨h3, h4⟩ := hx2 k d3 c z3 g2
        refine ⟨h3, fun hk => ?_⟩
        rw [sbo k d3 c hk z3 g2]
        exact h4
    · rw [sbo j d2 b hj z2 e2] at hx
      obtain ⟨h1, h2⟩ := R.sub j d2 b z2 e2 x hx
      refine ⟨h1, fun k e c g1 g2 => ?_⟩
      obtain ⟨d3, z3⟩ := g k e g1
      obtain ⟨h3, h4⟩ := h2 k d3 c z3 g2
      refine ⟨h3, fun hk => ?_⟩
      by_cases hki : k = i
      · subst hki
        rw [ha] at g2
        cases g2
        intro hxs
        rcases hs x hxs with hxs | ⟨_, hx2⟩
        · exact h4 hk hxs
        · exact (hx2 j d2 b z2 e2).2 hx
      · rw [sbo k d3 c hki z3 g2]
        exact h4 hk
  · by_cases hb : b = y
    · subst hb; rw [upd_same]; exact mo
    · rw [upd_ne hb]; exact (R.own0 b hm).2
  · have hb : b ≠ y := fun z => by
      have := (R.own0 y hyo).1
      rw [← z, e] at this; cases this
    rw [upd_ne hb]
    exact R.same b u e
end
/-! ### fields are set -/
def putN (f : Str) : List Str → List Str
  | [] => [f]
  | n :: ns => if n = f then n :: ns else n :: putN f ns
def putDs (f : Str) (d : D) : List Str → List D → List D
  | n :: ns, x :: ds => if n = f then d :: ds else x :: putDs f d ns ds
  | _, _ => [d]
section
variable {K : PySem.W.Frag} {S : Addr → Prop} {H : Hp} {f : Str} {d : D} {v : V}
theorem putF_names : ∀ vs : List (Str × V), (putF f v vs).map (·.1) = putN f (vs.map (·.1))
  | [] => rfl
  | (n, x) :: vs => by
    simp only [putF, putN, List.map_cons]
    by_cases e : n = f
    · rw [if_pos e, if_pos e]; rfl
    · rw [if_neg e, if_neg e, List.map_cons, putF_names vs]
/-- what the field holds -/
def FOk (K : PySem.W.Frag) (S : Addr → Prop) (H : Hp) (f : Str) (v : V) (d : D) : Prop := if ownF f = true then ∃ b xs es, v = .ref b ∧ d = .lst es ∧ H b = some (.lst xs) ∧ RpA K S H xs es else Rp K S H v d
theorem putF_own (h : FOk K S H f v d) : ∀ {vs : List (Str × V)} {ds : List D}, OwnF K S H vs ds → OwnF K S H (putF f v vs) (putDs f d (vs.map (·.1)) ds)
  | [], [], _ => ⟨h, trivial⟩
  | [], _ :: _, r => r.elim
  | _ :: _, [], r => r.elim
  | (n, x) :: vs, y :: ds, r => by
    simp only [putF, putDs, List.map_cons]
    by_cases e : n = f
    · rw [if_pos e, if_pos e]
      subst e
      exact ⟨h, r.2⟩
    · rw [if_neg e, if_neg e]
      exact ⟨r.1, putF_own h r.2⟩
theorem subs_cons (n : Str) (x : V) (vs : List (Str × V)) : (∃ b, x = .ref b ∧ ownF n = true ∧ subs ((n, x) :: vs) = b :: subs vs) ∨ subs ((n, x) :: vs) = subs vs := by
  cases x with
  | ref b =>
    by_cases c : ownF n = true
    · exact .inl ⟨b, rfl, c, if_pos c⟩
    · exact .inr (if_neg c)
  | _ => exact .inr rfl
theorem subs_not {n : Str} (h : ownF n = false) (x : V) (vs : List (Str × V)) : subs ((n, x) :: vs) = subs vs := by
  rcases subs_cons n x vs with ⟨b, _, c, _⟩ | e
  · rw [h] at c; cases c
  · exact e
theorem putF_subs (h : ownF f = false) : ∀ vs : List (Str × V), subs (putF f v vs) = subs vs
  | [] => subs_not h _ _
  | (n, x) :: vs => by
    simp only [putF]
    by_cases e : n = f
    · rw [if_pos e]
      subst e
      rw [subs_not h, subs_not h]
    · rw [if_neg e]
      rcases subs_cons n x vs with ⟨b, rfl, c, e2⟩ | e2
      · rw [e2]
        show (if ownF n = true then b :: subs (putF f v vs) else subs (putF f v vs)) = _
        rw [if_pos c, putF_subs h vs]
      · rw [e2]
        rcases subs_cons n x (putF f v vs) with ⟨b, rfl, c, e3⟩ | e3
        · exfalso
          have : subs ((n, V.ref b) :: vs) = b :: subs vs := if_pos c
          rw [this] at e2
          have := congrArg List.length e2
          simp at this
        · rw [e3, putF_subs h vs]
theorem putF_subs_new {b : Addr} : ∀ vs : List (Str × V), (∀ x, x ∈ subs (putF f (.ref b) vs) → x = b ∨ x ∈ subs vs) ∧ (b ∉ subs vs → (subs vs).Nodup → (subs (putF f (.ref b) vs)).Nodup)
  | [] => by
    simp only [putF]
    rcases subs_cons f (.ref b) [] with ⟨b', e1, c, e2⟩ | e2
    · cases e1
      rw [e2]
      exact ⟨fun x hx => .inl (by simpa [subs] using hx), fun _ _ => by simp [subs]⟩
    · rw [e2]
      exact ⟨fun x hx => .inr hx, fun _ h => h⟩
  | (n, x) :: vs => by
    obtain ⟨i1, i2⟩ := putF_subs_new vs
    simp only [putF]
    by_cases e : n = f
    · rw [if_pos e]
      have hsub : ∀ z, z ∈ subs vs → z ∈ subs ((n, x) :: vs) := fun z hz => by
        rcases subs_cons n x vs with ⟨c, _, _, e2⟩ | e2
        · rw [e2]; exact List.mem_cons_of_mem _ hz
        · rw [e2]; exact hz
      have hnd : (subs ((n, x) :: vs)).Nodup → (subs vs).Nodup := fun h => by
        rcases subs_cons n x vs with ⟨c, _, _, e2⟩ | e2
        · rw [e2] at h; exact (List.nodup_cons.mp h).2
        · rw [e2] at h; exact h
      rcases subs_cons n (.ref b) vs with ⟨b', e1, c, e2⟩ | e2
      · cases e1
        rw [e2]
        refine ⟨fun z hz => (List.mem_cons.mp hz).imp id (hsub z), fun h1 h2 => List.nodup_cons.mpr ⟨fun hm => h1 (hsub b hm), hnd h2⟩⟩
      · rw [e2]
        exact ⟨fun z hz => .inr (hsub z hz), fun _ h2 => hnd h2⟩
    · rw [if_neg e]
      rcases subs_cons n x vs with ⟨c, rfl, hc, e2⟩ | e2
      · have e3 : subs ((n, V.ref c) :: putF f (.ref b) vs) = c :: subs (putF f (.ref b) vs) := if_pos hc
        rw [e2, e3]
        refine ⟨fun z hz => ?_, fun h1 h2 => ?_⟩
        · rcases List.mem_cons.mp hz with rfl | hz
          · exact .inr List.mem_cons_self
          · exact (i1 z hz).imp id (List.mem_cons_of_mem _)
        · obtain ⟨n1, n2⟩ := List.nodup_cons.mp h2
          refine List.nodup_cons.mpr ⟨fun hm => ?_, i2 (fun hm => h1 (List.mem_cons_of_mem _ hm)) n2⟩
          rcases i1 c hm with rfl | hm
          · exact h1 List.mem_cons_self
          · exact n1 hm
      · have e3 : subs ((n, x) :: putF f (.ref b) vs) = subs (putF f (.ref b) vs) := by
          rcases subs_cons n x (putF f (.ref b) vs) with ⟨c, rfl, hc, e3⟩ | e3
          · exfalso
            have : subs ((n, V.ref c) :: vs) = c :: subs vs := if_pos hc
            rw [this] at e2
            have := congrArg List.length e2
            simp at this
          · exact e3
        rw [e2, e3]
        exact ⟨i1, i2⟩
end
end VL
set_option Elab.async false
set_option linter.all false
set_option maxRecDepth 100000
/-! VO4: statements that change an object of one's own. -/
namespace VL
open PySem L2 PySem.Spec PyProof.Rows
section
variable {X : Cx} {W : WX} {S0 : Addr → Prop} {H0 : Hp} {rm : Md} {pos px pos' : Pos} {x f c : Str} {i : Nat} {e : Expr} {fe : Rho → M D}
/-- x.f = e -/
def sSetF (i : Nat) (c f : Str) (fe : Rho → M D) : Rho → Res := fun ρ => match ρ[i]? with
  | some (.ow (.obj p c' ns ds)) => ofM ρ (fun d => if c' = c ∧ ns.length < 1000 then .nx (ρ.set i (.ow (.obj p c' (putN f ns) (putDs f d ns ds)))) else .er) (fe ρ)
  | _ => .er
theorem vs_setF (hc : ClsK X.K c) (hn : NoF X.K c f) (h : VX X W S0 H0 .F e fe) (ho : ownF f = false := by decide) (hN : X.N[i]? = some x := by rfl) (hv : Vis X.env.scope x := by first | exact Or.inl rfl | exact Or.inr (Or.inl rfl) | exact Or.inr (Or.inr rfl)) (hd : (x == ("__debug__" : Str)) = false := by decide)
    (hcd : (x == ("__classdict__" : Str)) = false := by decide) (hs : swapsWith e (some (.Attribute (.Name x px) f pos')) pos.line X.env = pure false := by rfl) : VS X W S0 H0 rm (.Assign [.Attribute (.Name x px) f pos'] e pos) (sSetF i c f fe) := by
  obtain ⟨C, h1, h2⟩ := hc.p
  obtain ⟨te, pe, qe⟩ := h.p
  refine ⟨_, ps_fld (pe_var hN hv hd hcd) pe hs, fun ρ σ own H D R k => ?_⟩
  unfold sSetF at k
  split at k
  · next p c' ns ds eq =>
    refine qe ρ σ own H _ R ?_
    revert k
    cases fe ρ with
    | er => exact id
    | ex c => exact fun k cv d H' i s => k cv d σ own H' i (R.grow s) (.same s)
    | ok d =>
      intro k v H1 s1 r1
      rw [ofM_ok] at k
      split at k
      · next hcc =>
        obtain ⟨rfl, hl⟩ := hcc
        have R1 := R.grow s1
        obtain ⟨a, ha, ma, hap, C', dx, vs, hH, hC, hns, ro, nd⟩ := R1.ow i _ eq
        cases h1.one hC
        have hvl : vs.length = ns.length := by rw [← hns, List.length_map]
        refine ⟨.ref a, ha, a, C, dx, vs, rfl, hH, h2, hn C h1, by omega, ?_⟩
        have kp := keep_upd (o := .ins C dx (putF f v vs)) R1 ma
        have hsub := putF_subs (v := v) ho vs
        have stay : ∀ b, b ∈ subs vs → ∀ o, H1 b = some o → upd H1 a (.ins C dx (putF f v vs)) b = some o := fun b hb o e => by
          have := ((R1.sub i _ a eq ha b (by rw [sb_ins hH]; exact hb)).2 i _ a eq ha).1
          rw [upd_ne this]; exact e
        have hfok : FOk X.K (SF H0 own) (upd H1 a (.ins C dx (putF f v vs))) f v d := by
          unfold FOk
          rw [if_neg (by rw [ho]; decide)]
          exact Rp.keep kp r1
        obtain ⟨R2, F2⟩ := R1.chgX (d' := .obj p c' (putN f ns) (putDs f d ns ds)) (o := .ins C dx (putF f v vs)) eq ha (.inl rfl) trivial
          ⟨hap, C, dx, _, upd_same, hC, by rw [putF_names, hns], by rw [← hns]; exact putF_own hfok (ro.keep kp stay), by rw [hsub]; exact nd⟩
          (fun x hx => .inl (by rw [sb_ins upd_same, hsub] at hx; rw [sb_ins hH]; exact hx))
        exact k σ own _ R2 ((Fra.same s1).trans F2)
      · exact k.elim
  · exact k.elim
/-- x.f = e, a new list of leaves that becomes the object's own -/
def sSetL (i : Nat) (c f : Str) (fe : Rho → M D) : Rho → Res := fun ρ => match ρ[i]? with
  | some (.ow (.obj p c' ns ds)) => ofM ρ (fun d => match d with
    | .lst es => if c' = c ∧ ns.length < 1000 ∧ lfA es = true then .nx (ρ.set i (.ow (.obj p c' (putN f ns) (putDs f (.lst es) ns ds)))) else .er
    | _ => .er) (fe ρ)
  | _ => .er
theorem vs_setL (hc : ClsK X.K c) (hn : NoF X.K c f) (h : VX X W S0 H0 .N e fe) (ho : ownF f = true := by decide) (hN : X.N[i]? = some x := by rfl) (hv : Vis X.env.scope x := by first | exact Or.inl rfl | exact Or.inr (Or.inl rfl) | exact Or.inr (Or.inr rfl)) (hd : (x == ("__debug__" : Str)) = false := by decide)
    (hcd : (x == ("__classdict__" : Str)) = false := by decide) (hs : swapsWith e (some (.Attribute (.Name x px) f pos')) pos.line X.env = pure false := by rfl) : VS X W S0 H0 rm (.Assign [.Attribute (.Name x px) f pos'] e pos) (sSetL i c f fe) := by
  obtain ⟨C, h1, h2⟩ := hc.p
  obtain ⟨te, pe, qe⟩ := h.p
  refine ⟨_, ps_fld (pe_var hN hv hd hcd) pe hs, fun ρ σ own H D R k => ?_⟩
  unfold sSetL at k
  split at k
  · next p c' ns ds eq =>
    refine qe ρ σ own H _ R ?_
    revert k
    cases fe ρ with
    | er => exact id
    | ex c => exact fun k cv d H' i s => k cv d σ own H' i (R.grow s) (.same s)
    | ok d =>
      intro k v H1 s1 r1
      rw [ofM_ok] at k
      split at k
      · next d' es =>
        split at k
        · next hcc =>
          obtain ⟨rfl, hl, hlf⟩ := hcc
          cases r1 with
          | @lst b xs _ sb1 hb1 rb =>
            obtain ⟨hbn, hbo, hb0⟩ := sb1
            have R1 := R.plus s1 hbn (by rw [hb1]; trivial)
            have F1 : Fra own H (b :: own) H1 := ⟨fun z o e _ => s1 z o e, fun z hz => (List.mem_cons.mp hz).elim (fun q => .inr (by rw [q]; exact hbn)) .inl⟩
            obtain ⟨a, ha, ma, hap, C', dx, vs, hH, hC, hns, ro, nd⟩ := R1.ow i _ eq
            obtain ⟨a0, ha0, ma0, _⟩ := R.ow i _ eq
            rw [ha] at ha0
            cases ha0
            cases h1.one hC
            have hvl : vs.length = ns.length := by rw [← hns, List.length_map]
            refine ⟨.ref a, ha, a, C, dx, vs, rfl, hH, h2, hn C h1, by omega, ?_⟩
            have live : ∀ z, z ∈ own → z ≠ b := fun z hz q => by
              obtain ⟨u, e⟩ := mt_some (R.own0 z hz).2
              rw [q, hbn] at e; cases e
            have hba : b ≠ a := fun q => live a ma0 q.symm
            have RG := R.grow s1
            have nsb : ∀ (j : Nat) (e : VL.D) (b' : Addr), ρ[j]? = some (.ow e) → σ[j]? = some (some (.ref b')) → b ≠ b' ∧ b ∉ sb H1 b' := fun j e b' g1 g2 => by
              obtain ⟨c0, g3, g4, _⟩ := R.ow j e g1
              rw [g2] at g3
              cases g3
              exact ⟨fun q => live _ g4 q.symm, fun hm => live b (RG.sub j e b' g1 g2 b hm).1 rfl⟩
            have kp := keep_upd (o := .ins C dx (putF f (.ref b) vs)) R1 ma
            obtain ⟨n1, n2⟩ := putF_subs_new (f := f) (b := b) vs
            have hbs : b ∉ subs vs := by
              have := (nsb i _ a eq ha).2
              rw [sb_ins hH] at this
              exact this
            have stay : ∀ z, z ∈ subs vs → ∀ o, H1 z = some o → upd H1 a (.ins C dx (putF f (.ref b) vs)) z = some o := fun z hz o e => by
              have := ((R1.sub i _ a eq ha z (by rw [sb_ins hH]; exact hz)).2 i _ a eq ha).1
              rw [upd_ne this]; exact e
            have hfok : FOk X.K (SF H0 (b :: own)) (upd H1 a (.ins C dx (putF f (.ref b) vs))) f (.ref b) (.lst es) := by
              unfold FOk
              rw [if_pos ho]
              exact ⟨b, xs, es, rfl, rfl, by rw [upd_ne hba]; exact hb1, (rb.lf hlf).keep kp⟩
            obtain ⟨R2, F2⟩ := R1.chgX (d' := .obj p c' (putN f ns) (putDs f (.lst es) ns ds)) (o := .ins C dx (putF f (.ref b) vs)) eq ha (.inl rfl) trivial
              ⟨hap, C, dx, _, upd_same, hC, by rw [putF_names, hns], by rw [← hns]; exact putF_own hfok (ro.keep kp stay), n2 hbs nd⟩
              (fun x hx => by
                rw [sb_ins upd_same] at hx
                rcases n1 x hx with rfl | hx
                · exact .inr ⟨List.mem_cons_self, fun j e b' g1 g2 => nsb j e b' g1 g2⟩
                · exact .inl (by rw [sb_ins hH]; exact hx))
            exact k σ _ _ R2 (F1.trans F2)
        · exact k.elim
      · exact k.elim
  · exact k.elim
end
end VL
set_option Elab.async false
set_option linter.all false
set_option maxRecDepth 100000
/-! VO5: the lists of an object's own are changed in place. -/
namespace VL
open PySem L2 PySem.Spec PyProof.Rows
section
variable {K : PySem.W.Frag} {S : Addr → Prop} {H H' : Hp} {f : Str} {b : Addr}
theorem lookup_subs (hof : ownF f = true) : ∀ {vs : List (Str × V)}, vs.lookup f = some (.ref b) → b ∈ subs vs
  | [], h => by cases h
  | (n, x) :: vs, h => by
    rw [List.lookup_cons] at h
    by_cases e : f = n
    · subst e
      have h2 : x = .ref b := by simpa using h
      subst h2
      have : subs ((f, V.ref b) :: vs) = b :: subs vs := if_pos hof
      rw [this]
      exact List.mem_cons_self
    · have e2 : (f == n) = false := by simpa using e
      rw [e2] at h
      have ih := lookup_subs hof (vs := vs) h
      rcases subs_cons n x vs with ⟨c, _, _, e3⟩ | e3
      · rw [e3]; exact List.mem_cons_of_mem _ ih
      · rw [e3]; exact ih
theorem own_upd {xs' : List V} {es' : List D} (kp : Keep S S H H') (hH : ∀ z, z ≠ b → H' z = H z) (hb : H' b = some (.lst xs')) (r' : RpA K S H' xs' es') (hof : ownF f = true) : ∀ {vs : List (Str × V)} {ds : List D}, OwnF K S H vs ds → vs.lookup f = some (.ref b) → (subs vs).Nodup → OwnF K S H' vs (putDs f (.lst es') (vs.map (·.1)) ds)
  | [], ds, _, h, _ => by cases h
  | (n, x) :: vs, [], r, _, _ => r.elim
  | (n, x) :: vs, d :: ds, r, h, nd => by
    rw [List.lookup_cons] at h
    simp only [putDs, List.map_cons]
    by_cases e : n = f
    · rw [if_pos e]
      subst e
      have h2 : x = .ref b := by simpa using h
      subst h2
      have e3 : subs ((n, V.ref b) :: vs) = b :: subs vs := if_pos hof
      rw [e3] at nd
      have nb := (List.nodup_cons.mp nd).1
      refine ⟨?_, r.2.keep kp fun z hz o e => by rw [hH z (fun q => nb (q ▸ hz))]; exact e⟩
      rw [if_pos hof]
      exact ⟨b, xs', es', rfl, rfl, hb, r'⟩
    · rw [if_neg e]
      have e2 : (f == n) = false := by simpa using fun q => e q.symm
      rw [e2] at h
      have hm := lookup_subs hof (vs := vs) h
      rcases subs_cons n x vs with ⟨c, rfl, hc, e3⟩ | e3
      · rw [e3] at nd
        obtain ⟨n1, n2⟩ := List.nodup_cons.mp nd
        refine ⟨?_, own_upd kp hH hb r' hof r.2 h n2⟩
        have r1 := r.1
        rw [if_pos hc] at r1 ⊢
        obtain ⟨b2, xs, es, h1, h2, h3, h4⟩ := r1
        cases h1
        exact ⟨c, xs, es, rfl, h2, by rw [hH c (fun q => n1 (q ▸ hm))]; exact h3, h4.keep kp⟩
      · rw [e3] at nd
        refine ⟨?_, own_upd kp hH hb r' hof r.2 h nd⟩
        have r1 := r.1
        by_cases hc : ownF n = true
        · rw [if_pos hc] at r1 ⊢
          obtain ⟨b2, xs, es, rfl, h2, h3, h4⟩ := r1
          exfalso
          have : subs ((n, V.ref b2) :: vs) = b2 :: subs vs := if_pos hc
          rw [this] at e3
          have := congrArg List.length e3
          simp at this
        · rw [if_neg hc] at r1 ⊢
          exact r1.keep kp
end
section
variable {X : Cx} {W : WX} {S0 : Addr → Prop} {H0 : Hp} {rm : Md} {pos px pf pos' apos cpos : Pos} {x f c : Str} {i : Nat} {e : Expr} {es : List Expr} {fa : Rho → M (List D)}
/-- x.f.name(args), a list of the object's own -/
def sFbm (i : Nat) (c f : Str) (eff : List D → List D → M (List D)) (fa : Rho → M (List D)) : Rho → Res := fun ρ => match ρ[i]? with
  | some (.ow (.obj p c' ns ds)) => (match lookF f ns ds with
    | some (.lst es) => if c' = c then (match fa ρ with
      | .ok as => (match eff es as with | .ok es' => .nx (ρ.set i (.ow (.obj p c' ns (putDs f (.lst es') ns ds)))) | _ => .er)
      | .ex c => .ex c ρ
      | .er => .er) else .er
    | _ => .er)
  | _ => .er
theorem vs_fbm {r : V → List V → Hp → VK → Prop} {eff : List D → List D → M (List D)} {name : Str} {idn : String} (hc : ClsK X.K c) (hn : NoF X.K c f) (slot : Slot "list" name idn) (hty : typeOf (.builtin idn) = pure (.type "method_descriptor")) (hm : MtR X idn r) (hg : MutG X r eff) (h : VA X W S0 H0 .F (e :: es) fa)
    (ho : ownF f = true := by decide) (hN : X.N[i]? = some x := by rfl) (hv : Vis X.env.scope x := by first | exact Or.inl rfl | exact Or.inr (Or.inl rfl) | exact Or.inr (Or.inr rfl)) (hd : (x == ("__debug__" : Str)) = false := by decide) (hcd : (x == ("__classdict__" : Str)) = false := by decide)
    (hbf : attributeBase (.Name x px) f X.env (eval (.Name x px) X.env) = eval (.Name x px) X.env := by rfl)
    (hbase : attributeBase (.Attribute (.Name x px) f pf) name X.env (eval (.Attribute (.Name x px) f pf) X.env) = eval (.Attribute (.Name x px) f pf) X.env := by rfl)
    (hfew : ((backTo cpos (starEach (e :: es) X.env)).all (fun x => !x.1) && (backToKw cpos (keywordEach [] X.env)).all (fun x => x.1.isSome)
      && decide ((e :: es).length + ([] : List Keyword).length + (if ([] : List Keyword).isEmpty then 0 else 1) < 30)) = true := by rfl)
    (hline : (apos.endLine == cpos.line) = true := by rfl) (hs : starEach (e :: es) X.env = (false, eval e X.env) :: starEach es X.env := by rfl) (hplain : (backTo cpos (starEach es X.env)).any (·.1) = false := by rfl)
    (hsw : swapsWith (.Call (.Attribute (.Attribute (.Name x px) f pf) name apos) (e :: es) [] cpos) none pos.line X.env = pure false := by rfl) :
    VS X W S0 H0 rm (.Expr (.Call (.Attribute (.Attribute (.Name x px) f pf) name apos) (e :: es) [] cpos) pos) (sFbm i c f eff fa) := by
  obtain ⟨C, h1, h2⟩ := hc.p
  obtain ⟨te, p, q⟩ := h.p
  refine ⟨_, ps_expr (pe_bm PySem.F.plainAttrs_list slot hty hm (pe_fld (pe_var hN hv hd hcd) hbf) p hbase hfew hline hs hplain) hsw, fun ρ σ own H D R k => ?_⟩
  unfold sFbm at k
  split at k
  · next p' c' ns ds eq =>
    split at k
    · next es0 hl =>
      split at k
      · next hcc =>
        subst hcc
        obtain ⟨a, ha, ma, hap, C', dx, vs, hH, hC, hns, ro, nd⟩ := R.ow i _ eq
        cases h1.one hC
        obtain ⟨w, hw, hr⟩ := look_own hns ro hl
        rw [if_pos ho] at hr
        obtain ⟨b, xs, es1, rfl, e1, hb, rb, hsb⟩ := hr
        cases e1
        refine ⟨.ref a, ha, a, C, dx, vs, .ref b, rfl, hH, h2, hn C h1, hw, .inl ⟨rfl, xs, SqL.of hb⟩, q ρ σ own H _ R ?_⟩
        revert k
        cases fa ρ with
        | er => exact id
        | ex c => exact fun k cv d H' i s => k cv d σ own H' i (R.grow s) (.same s)
        | ok as =>
          intro k ws H' s r
          dsimp only at k
          split at k
          · next es' ee =>
            have R' := R.grow s
            have hH' := s a _ hH
            have hmem : b ∈ sb H' a := by rw [sb_ins hH']; exact hsb
            have hbo := (R'.sub i _ a eq ha b hmem).1
            have hba : b ≠ a := ((R'.sub i _ a eq ha b hmem).2 i _ a eq ha).1
            refine hg (SF H0 own) H' b xs ws es0 as es' _ (s b _ hb) (rb.keep (.same s)) (RpA.ofP r) ee fun v xs' r' => ?_
            have kp := keep_upd (o := .lst xs') R' hbo
            have ro' := ro.keep (.same s) (fun z _ o e => s z o e)
            obtain ⟨R2, F2⟩ := R'.chgX (d' := .obj p' c' ns (putDs f (.lst es') ns ds)) (o := .lst xs') eq ha (.inr hmem) trivial
              ⟨hap, C, dx, vs, by rw [upd_ne (Ne.symm hba)]; exact hH', hC, hns, by rw [← hns]; exact own_upd kp (fun z hz => upd_ne hz) upd_same (r'.keep kp) ho ro' hw nd, nd⟩
              (fun z hz => .inl (by rw [sb_eq (upd_ne (Ne.symm hba))] at hz; exact hz))
            exact k σ own _ R2 ((Fra.same s).trans F2)
          · exact k.elim
      · exact k.elim
    · exact k.elim
  · exact k.elim
end
end VL
set_option Elab.async false
set_option linter.all false
set_option maxRecDepth 100000
/-! VO6: defs that change the object that they are given first. -/
namespace VL
open PySem L2 PySem.Spec PyProof.Rows
/-- what such a def gives: its answer, and the object behind it -/
inductive MO where
  | ok (d o : D) | ex (c : Xc) (o : D) | er
def pinD : D → Option Addr
  | .obj p _ _ _ => some p
  | _ => none
def objOf (d0 : D) (k : D → MO) (ρ : Rho) : MO := match ρ[(0 : Nat)]? with
  | some (.ow o) => if isObj o = true ∧ pinD o = pinD d0 then k o else .er
  | _ => .er
def finO (d0 : D) : Res → MO
  | .rs d ρ => objOf d0 (.ok d) ρ
  | .nx ρ => objOf d0 (.ok .non) ρ
  | .ex c ρ => objOf d0 (.ex c) ρ
  | _ => .er
def runO (n N : Nat) (F : Rho → Res) : List D → MO
  | d0 :: ds => if ds.length + 1 = n ∧ isObj d0 = true then finO d0 (F (.ow d0 :: (ds.map .sh ++ List.replicate (N - n) .no))) else .er
  | [] => .er
/-- where the object's data may lie behind it -/
def RO (S1 : Addr → Prop) (H : Hp) (p : Addr) (own' : List Addr) : Addr → Prop := fun a => a ∉ own' ∧ (S1 a ∨ H a = none ∨ a = p ∨ a ∈ sb H p)
structure CK (K : PySem.W.Frag) (S1 : Addr → Prop) (H : Hp) (p : Addr) (own' : List Addr) (H' : Hp) (o : D) : Prop where
  stand : ∀ a u, H a = some u → a ≠ p → a ∉ sb H p → H' a = some u
  mem : p ∈ own'
  new : ∀ a, a ∈ own' → a = p ∨ a ∈ sb H p ∨ H a = none
  mt : ∀ a, a ∈ own' → Mt (H' a)
  ob : isObj o = true
  own : Own K (RO S1 H p own') H' p o
  sub : ∀ x, x ∈ sb H' p → x ∈ own' ∧ x ≠ p
def PFO (mg : Str → Option Value) (K : PySem.W.Frag) (S1 : Addr → Prop) (H : Hp) (p : Addr) (Q : VK) (E : XK) : MO → Prop
  | .ok d o => ∀ v own' H', CK K S1 H p own' H' o → Rp K (RO S1 H p own') H' v d → Q v H'
  | .ex c o => ∀ cv dd own' H', IsCls mg c cv dd → CK K S1 H p own' H' o → E cv dd H'
  | .er => False
def spO (mg : Str → Option Value) (K : PySem.W.Frag) (G : List D → MO) : Sp := fun vs H Q E => ∃ (p : Addr) (ws : List V) (d0 : D) (ds : List D) (S1 : Addr → Prop), vs = .ref p :: ws ∧ isObj d0 = true ∧ Own K S1 H p d0 ∧ p ∉ sb H p ∧ (∀ a, S1 a → a ≠ p ∧ a ∉ sb H p) ∧
  (∀ x, x ∈ sb H p → Mt (H x)) ∧ RpA K (fun a => a ≠ p ∧ a ∉ sb H p) H ws ds ∧ PFO mg K S1 H p Q E (G (d0 :: ds))
section
variable {P : Program} {w : World} {K : PySem.W.Frag} {mg : Str → Option Value} {base : Heap}
/-- the callee's ground -/
noncomputable def ground (S1 : Addr → Prop) (H : Hp) (p : Addr) : Hp := fun a => open Classical in if S1 a ∨ a = p ∨ a ∈ sb H p then none else H a
theorem ground_none {S1 : Addr → Prop} {H : Hp} {p a : Addr} : ground S1 H p a = none ↔ (S1 a ∨ a = p ∨ a ∈ sb H p) ∨ H a = none := by
  unfold ground
  split
  · next h => exact ⟨fun _ => .inl h, fun _ => rfl⟩
  · next h => exact ⟨fun e => .inr e, fun e => e.elim (fun z => absurd z h) id⟩
theorem rel_startO {S1 : Addr → Prop} {H : Hp} {p : Addr} {d0 : D} {ws : List V} {ds : List D} (ho : Own K S1 H p d0) (hp : p ∉ sb H p) (hS : ∀ a, S1 a → a ≠ p ∧ a ∉ sb H p) (hm : ∀ x, x ∈ sb H p → Mt (H x)) (r : RpA K (fun a => a ≠ p ∧ a ∉ sb H p) H ws ds) (k : Nat) :
    Rel K (fun _ => True) (ground S1 H p) (.ow d0 :: (ds.map .sh ++ List.replicate k .no)) (some (.ref p) :: (ws.map some ++ List.replicate k none)) (p :: sb H p) H := by
  have hl : ws.length = ds.length := r.length
  have no : ∀ (i : Nat) (s : Sl), (ds.map Sl.sh ++ List.replicate k Sl.no)[i]? = some s → (∃ d, ds[i]? = some d ∧ s = .sh d) ∨ s = .no := fun i s e => by
    by_cases hi : i < (ds.map Sl.sh).length
    · rw [List.getElem?_append_left hi, List.getElem?_map] at e
      cases h : ds[i]? with
      | none => rw [h] at e; cases e
      | some d => rw [h] at e; cases e; exact .inl ⟨d, rfl, rfl⟩
    · rw [List.getElem?_append_right (by omega)] at e
      have := List.mem_of_getElem? e
      exact .inr (List.eq_of_mem_replicate this)
  have zero : ∀ (i : Nat) (d : D), (Sl.ow d0 :: (ds.map Sl.sh ++ List.replicate k Sl.no))[i]? = some (.ow d) → i = 0 ∧ d = d0 := fun i d e => by
    cases i with
    | zero => simp at e; exact ⟨rfl, e.symm⟩
    | succ i =>
      rcases no i _ (by simpa using e) with ⟨d', _, z⟩ | z <;> cases z
  have hmt : Mt (H p) := ho.mt
  refine ⟨fun i d e => ?_, fun i d e => ?_, fun i d e => ?_, fun i j d e a b q => ?_, fun i d a e1 e2 x hx => ?_, fun a h => ?_, fun a o e => ?_, by simp [hl]⟩
  · cases i with
    | zero => simp at e
    | succ i =>
      rcases no i _ (by simpa using e) with ⟨d', h, z⟩ | z
      · cases z
        obtain ⟨v, h1, h2⟩ := r.get h
        have hi : i < ws.length := (List.getElem?_eq_some_iff.mp h1).1
        refine ⟨v, ?_, h2.keep (.wide fun a s => ⟨by simp [s.1, s.2], .inl trivial⟩)⟩
        rw [List.getElem?_cons_succ, List.getElem?_append_left (by simpa using hi), List.getElem?_map, h1]
        rfl
      · cases z
  · cases i with
    | zero => simp at e
    | succ i =>
      rcases no i _ (by simpa using e) with ⟨d', h, z⟩ | z <;> cases z
  · obtain ⟨rfl, rfl⟩ := zero i d e
    refine ⟨p, rfl, List.mem_cons_self, ho.keep (.wide fun a s => ?_) fun _ _ _ q => q⟩
    obtain ⟨h1, h2⟩ := hS a s
    exact ⟨by simp [h1, h2], ground_none.mpr (.inl (.inl s))⟩
  · rw [(zero i d a).1, (zero j e b).1]
  · obtain ⟨rfl, rfl⟩ := zero i d e1
    have : a = p := by simpa using e2.symm
    subst this
    refine ⟨List.mem_cons_of_mem _ hx, fun j e b g1 g2 => ?_⟩
    obtain ⟨rfl, rfl⟩ := zero j e g1
    have : b = a := by simpa using g2.symm
    subst this
    exact ⟨fun z => hp (z ▸ hx), fun z => absurd rfl z⟩
  · rcases List.mem_cons.mp h with rfl | h
    · exact ⟨ground_none.mpr (.inl (.inr (.inl rfl))), hmt⟩
    · exact ⟨ground_none.mpr (.inl (.inr (.inr h))), hm a h⟩
  · unfold ground at e
    split at e
    · cases e
    · exact e
theorem ck_of {S1 : Addr → Prop} {H H' : Hp} {p : Addr} {d0 o : D} {ρ' : Rho} {σ' : Sg} {own' : List Addr} (h0 : isObj d0 = true) (ho : Own K S1 H p d0) (R : Rel K (fun _ => True) (ground S1 H p) ρ' σ' own' H') (F : Fra (p :: sb H p) H own' H') (e : ρ'[0]? = some (.ow o)) (hob : isObj o = true) (hpin : pinD o = pinD d0) :
    CK K S1 H p own' H' o ∧ ∀ v d, Rp K (SF (ground S1 H p) own') H' v d → Rp K (RO S1 H p own') H' v d := by
  obtain ⟨a, h1, h2, h3⟩ := R.ow 0 o e
  have wide : ∀ a, SF (ground S1 H p) own' a → RO S1 H p own' a := fun a s => ⟨s.1, by
    rcases ground_none.mp s.2 with (h | h | h) | h
    · exact .inl h
    · exact .inr (.inr (.inl h))
    · exact .inr (.inr (.inr h))
    · exact .inr (.inl h)⟩
  cases o with
  | obj p' c ns ds =>
    cases d0 with
    | obj p0 c0 ns0 ds0 =>
      have e1 : a = p' := h3.1
      have e2 : p = p0 := ho.1
      have e3 : p' = p0 := Option.some.inj hpin
      have ea : a = p := by rw [e1, e3, e2]
      subst ea
      refine ⟨⟨fun b u hb n1 n2 => F.k b u hb (by simp [n1, n2]), h2, fun b hb => ?_, fun b hb => (R.own0 b hb).2, rfl, h3.keep (.wide wide) fun _ _ _ q => q, fun x hx => ?_⟩, fun v d r => r.keep (.wide wide)⟩
      · rcases F.n b hb with h | h
        · rcases List.mem_cons.mp h with h | h
          · exact .inl h
          · exact .inr (.inl h)
        · exact .inr (.inr h)
      · obtain ⟨g1, g2⟩ := R.sub 0 _ a e h1 x hx
        exact ⟨g1, (g2 0 _ a e h1).1⟩
    | _ => cases h0
  | _ => cases hob
theorem fn_okO {x qual : Str} {st : Stmt} {f : Addr} {fd : FuncData} {N ps : List Str} {k : Nat} {F : Rho → Res} (Fn : Fun K x qual st f fd) (S : FnScope N ps (defScope st))
    (hb : ∀ (cdv : Value) (A : Around) (outer : List Env) (s : Shared) (H : Hp) (E : XK) (S0 : Addr → Prop) (H0 : Hp), Room k (A.deeper (envOfC qual (defScope st) s.heap.objs.size f cdv)) →
      VSs (cxOf (L2.CX P w) P w K mg base N qual (defScope st) f cdv A outer s H E) (fun cls d _ H => E cls d H) S0 H0 .F (defBody st) F) :
    FnOk P w K mg base (L2.CX P w) (k + 1) f fd ps (spO mg K (runO ps.length N.length F)) := by
  refine Fn.okX S (fun vs H Q E h => ?_) (fun cdv A outer s H vs Q E hr h => ?_)
  · obtain ⟨p, ws, d0, ds, S1, rfl, _, _, _, _, _, r, k⟩ := h
    simp only [runO] at k
    split at k
    · next hl => rw [List.length_cons, r.length, hl.1]
    · exact k.elim
  · obtain ⟨p, ws, d0, ds, S1, rfl, h0, ho, hp, hS, hm, r, k⟩ := h
    obtain ⟨t, pt, q⟩ := (hb cdv A outer s H E (fun _ => True) (ground S1 H p) hr).p
    refine ⟨t, pt, ?_⟩
    simp only [runO] at k
    split at k
    · next hl =>
      have hv : ws.length + 1 = ps.length := by rw [r.length, hl.1]
      have R := rel_startO ho hp hS hm r (N.length - ps.length)
      have e : L2.start N (.ref p :: ws) = some (.ref p) :: (ws.map some ++ List.replicate (N.length - ps.length) none) := by
        unfold L2.start
        rw [List.length_cons, hv]
        rfl
      rw [e]
      refine q _ _ _ H _ R ?_
      revert k
      generalize F (.ow d0 :: (ds.map Sl.sh ++ List.replicate (N.length - ps.length) Sl.no)) = rr
      intro k
      cases rr with
      | nx ρ' =>
        intro σ' own' H' R' F'
        simp only [finO, objOf] at k
        split at k
        · next o eo =>
          split at k
          · next hc =>
            obtain ⟨c1, c2⟩ := ck_of h0 ho R' F' eo hc.1 hc.2
            exact k .non own' H' c1 .non
          · exact k.elim
        · exact k.elim
      | rs d ρ' =>
        intro v σ' own' H' rv R' F'
        simp only [finO, objOf] at k
        split at k
        · next o eo =>
          split at k
          · next hc =>
            obtain ⟨c1, c2⟩ := ck_of h0 ho R' F' eo hc.1 hc.2
            exact k v own' H' c1 (c2 v d rv)
          · exact k.elim
        · exact k.elim
      | ex c ρ' =>
        intro cv dd σ' own' H' ic R' F'
        simp only [finO, objOf] at k
        split at k
        · next o eo =>
          split at k
          · next hc =>
            obtain ⟨c1, c2⟩ := ck_of h0 ho R' F' eo hc.1 hc.2
            exact k cv dd own' H' ic c1
          · exact k.elim
        · exact k.elim
      | rt d => exact k.elim
      | bk ρ' => exact k.elim
      | ct ρ' => exact k.elim
      | er => exact k.elim
    · exact k.elim
end
end VL
set_option Elab.async false
set_option linter.all false
set_option maxRecDepth 100000
/-! VO7: calls of defs that change an object of the caller's own. -/
namespace VL
open PySem L2 PySem.Spec PyProof.Rows
section
variable {K : PySem.W.Frag} {S0 : Addr → Prop} {H0 H H' : Hp} {ρ : Rho} {σ : Sg} {own own' : List Addr} {p : Addr}
open Classical in
noncomputable def ownB (own : List Addr) (H : Hp) (p : Addr) (own' : List Addr) : List Addr := (own.filter fun b => decide (b ≠ p ∧ b ∉ sb H p)) ++ own'
theorem mem_ownB {b : Addr} : b ∈ ownB own H p own' ↔ (b ∈ own ∧ b ≠ p ∧ b ∉ sb H p) ∨ b ∈ own' := by
  unfold ownB
  rw [List.mem_append, List.mem_filter, decide_eq_true_eq]
/-- the object comes back -/
theorem Rel.back {i : Nat} {d0 o : D} (R : Rel K S0 H0 ρ σ own H) (hi : ρ[i]? = some (.ow d0)) (hp : σ[i]? = some (some (.ref p))) (ck : CK K (SF H0 own) H p own' H' o) :
    Rel K S0 H0 (ρ.set i (.ow o)) σ (ownB own H p own') H' ∧ Fra own H (ownB own H p own') H' ∧ ∀ a, RO (SF H0 own) H p own' a → SF H0 (ownB own H p own') a := by
  obtain ⟨p', h1, hpo, hown⟩ := R.ow i d0 hi
  rw [hp] at h1
  cases h1
  have hsub := R.sub i d0 p hi hp
  have live : ∀ b, b ∈ own → H b ≠ none := fun b hb e => by
    obtain ⟨u, eu⟩ := mt_some (R.own0 b hb).2
    rw [e] at eu; cases eu
  -- what of own' is not of the object is new
  have outN : ∀ b, b ∈ own' → b ≠ p → b ∉ sb H p → H b = none := fun b hb n1 n2 => by
    rcases ck.new b hb with h | h | h
    · exact absurd h n1
    · exact absurd h n2
    · exact h
  have out : ∀ b, b ∉ own → b ≠ p ∧ b ∉ sb H p := fun b hb => ⟨fun z => hb (z ▸ hpo), fun z => hb (hsub b z).1⟩
  have kL : ∀ b u, H b = some u → b ∉ own → b ∉ ownB own H p own' ∧ H' b = some u := fun b u e hb => by
    obtain ⟨n1, n2⟩ := out b hb
    refine ⟨fun hm => ?_, ck.stand b u e n1 n2⟩
    rcases mem_ownB.mp hm with h | h
    · exact hb h.1
    · rw [outN b h n1 n2] at e; cases e
  have kM : ∀ b u, H b = some u → ¬ Mt (some u) → H' b = some u := fun b u e hm => by
    refine ck.stand b u e (fun z => ?_) (fun z => ?_)
    · have := (R.own0 p hpo).2
      rw [← z, e] at this; exact hm this
    · have := (R.own0 b (hsub b z).1).2
      rw [e] at this; exact hm this
  have kA : Keep (SA S0 H0 own) (SA S0 H0 (ownB own H p own')) H H' := ⟨fun b u s e => ⟨⟨(kL b u e s.1).1, s.2⟩, (kL b u e s.1).2⟩, fun b xs e => kM b _ e id, fun b o u e => kM b _ e id⟩
  have kF : Keep (SF H0 own) (SF H0 (ownB own H p own')) H H' := ⟨fun b u s e => ⟨⟨(kL b u e s.1).1, s.2⟩, (kL b u e s.1).2⟩, fun b xs e => kM b _ e id, fun b o u e => kM b _ e id⟩
  have reg : ∀ a, RO (SF H0 own) H p own' a → SF H0 (ownB own H p own') a := fun a s => by
    obtain ⟨s1, s2⟩ := s
    refine ⟨fun hm => ?_, ?_⟩
    · rcases mem_ownB.mp hm with ⟨g1, g2, g3⟩ | h
      · rcases s2 with h | h | h | h
        · exact h.1 g1
        · exact live a g1 h
        · exact g2 h
        · exact g3 h
      · exact s1 h
    · rcases s2 with h | h | h | h
      · exact h.2
      · exact R.same.free h
      · rw [h]; exact (R.own0 p hpo).1
      · exact (R.own0 a (hsub a h).1).1
  -- the other slots
  have oth : ∀ (j : Nat) (e : D) (b : Addr), j ≠ i → ρ[j]? = some (.ow e) → σ[j]? = some (some (.ref b)) → b ∈ own ∧ b ≠ p ∧ b ∉ sb H p ∧ H' b = H b ∧ ∀ x, x ∈ sb H b → x ∈ own ∧ x ≠ p ∧ x ∉ sb H p ∧ H' x = H x := fun j e b hj g1 g2 => by
    obtain ⟨b', g3, g4, _⟩ := R.ow j e g1
    rw [g2] at g3
    cases g3
    have n1 : b ≠ p := fun z => hj (R.dis j i e d0 g1 hi (by rw [g2, hp, z]))
    have n2 : b ∉ sb H p := fun z => ((hsub b z).2 j e b g1 g2).1 rfl
    have st : ∀ x, x ∈ own → x ≠ p → x ∉ sb H p → H' x = H x := fun x hx m1 m2 => by
      obtain ⟨u, eu⟩ := mt_some (R.own0 x hx).2
      rw [eu]
      exact ck.stand x u eu m1 m2
    refine ⟨g4, n1, n2, st b g4 n1 n2, fun x hx => ?_⟩
    obtain ⟨m0, m⟩ := R.sub j e b g1 g2 x hx
    obtain ⟨m1, m2⟩ := m i d0 p hi hp
    have m2 := m2 (Ne.symm hj)
    exact ⟨m0, m1, m2, st x m0 m1 m2⟩
  refine ⟨⟨fun j e q => ?_, fun j e q => ?_, fun j e q => ?_, fun j k d1 e1 x y q => ?_, fun j d1 b e1 e2 x hx => ?_, fun b hm => ?_, fun b u e => ?_, by simp [R.len]⟩, ⟨fun b u e hb => (kL b u e hb).2, fun b hm => ?_⟩, reg⟩
  · rcases get_set q with ⟨rfl, z, hl⟩ | ⟨hj, z⟩
    · cases z
    · obtain ⟨v, h1, h2⟩ := R.sh j e z
      exact ⟨v, h1, h2.keep kA⟩
  · rcases get_set q with ⟨rfl, z, hl⟩ | ⟨hj, z⟩
    · cases z
    · obtain ⟨v, h1, h2⟩ := R.fr j e z
      exact ⟨v, h1, h2.keep kF⟩
  · rcases get_set q with ⟨rfl, z, hl⟩ | ⟨hj, z⟩
    · cases z
      exact ⟨p, hp, mem_ownB.mpr (.inr ck.mem), ck.own.keep (.wide reg) fun _ _ _ q => q⟩
    · obtain ⟨b, h1, h2, h3⟩ := R.ow j e z
      obtain ⟨g1, g2, g3, g4, g5⟩ := oth j e b hj z h1
      refine ⟨b, h1, mem_ownB.mpr (.inl ⟨g1, g2, g3⟩), h3.keep kF fun x hx u eu => ?_⟩
      rcases hx with rfl | hx
      · rw [g4]; exact eu
      · rw [(g5 x hx).2.2.2]; exact eu
  · have g : ∀ (j : Nat) (d1 : D), (ρ.set i (.ow o))[j]? = some (.ow d1) → ∃ d2, ρ[j]? = some (.ow d2) := fun j d1 z => by
      rcases get_set z with ⟨rfl, _, _⟩ | ⟨_, z⟩
      · exact ⟨_, hi⟩
      · exact ⟨_, z⟩
    obtain ⟨d2, z2⟩ := g j d1 x
    obtain ⟨d3, z3⟩ := g k e1 y
    exact R.dis j k d2 d3 z2 z3 q
  · have newx : ∀ x, x ∈ own' → ∀ y, y ∈ own → y ≠ p → y ∉ sb H p → x ≠ y := fun x hx y hy n1 n2 z => live y hy (outN y (z ▸ hx) n1 n2)
    rcases get_set e1 with ⟨rfl, _, _⟩ | ⟨hj, z⟩
    · rw [hp] at e2
      cases e2
      obtain ⟨g1, g2⟩ := ck.sub x hx
      refine ⟨mem_ownB.mpr (.inr g1), fun k e c g3 g4 => ?_⟩
      rcases get_set g3 with ⟨rfl, _, _⟩ | ⟨hk, y⟩
      · rw [hp] at g4
        cases g4
        exact ⟨g2, fun z => absurd rfl z⟩
      · obtain ⟨f1, f2, f3, f4, f5⟩ := oth k e c hk y g4
        refine ⟨newx x g1 c f1 f2 f3, fun _ hm => ?_⟩
        rw [sb_eq f4] at hm
        obtain ⟨q1, q2, q3, _⟩ := f5 x hm
        exact newx x g1 x q1 q2 q3 rfl
    · obtain ⟨f1, f2, f3, f4, f5⟩ := oth j d1 b hj z e2
      rw [sb_eq f4] at hx
      obtain ⟨q1, q2, q3, _⟩ := f5 x hx
      refine ⟨mem_ownB.mpr (.inl ⟨q1, q2, q3⟩), fun k e c g3 g4 => ?_⟩
      rcases get_set g3 with ⟨rfl, _, _⟩ | ⟨hk, y⟩
      · rw [hp] at g4
        cases g4
        exact ⟨q2, fun _ hm => newx x (ck.sub x hm).1 x q1 q2 q3 rfl⟩
      · obtain ⟨f1', f2', f3', f4', f5'⟩ := oth k e c hk y g4
        rw [sb_eq f4']
        exact (R.sub j d1 b z e2 x hx).2 k e c y g4
  · rcases mem_ownB.mp hm with ⟨g1, g2, g3⟩ | h
    · refine ⟨(R.own0 b g1).1, ?_⟩
      obtain ⟨u, eu⟩ := mt_some (R.own0 b g1).2
      have m := (R.own0 b g1).2
      rw [ck.stand b u eu g2 g3, ← eu]
      exact m
    · refine ⟨?_, ck.mt b h⟩
      rcases ck.new b h with q | q | q
      · rw [q]; exact (R.own0 p hpo).1
      · exact (R.own0 b (hsub b q).1).1
      · exact R.same.free q
  · have hb : b ∉ own := fun hb => by
      have := (R.own0 b hb).1
      rw [e] at this; cases this
    exact (kL b u (R.same b u e) hb).2
  · rcases mem_ownB.mp hm with h | h
    · exact .inl h.1
    · rcases ck.new b h with q | q | q
      · rw [q]; exact .inl hpo
      · exact .inl (hsub b q).1
      · exact .inr q
end
end VL
set_option Elab.async false
set_option linter.all false
set_option maxRecDepth 100000
/-! VO8: expressions that change an object, and the statements over them. -/
namespace VL
open PySem L2 PySem.Spec PyProof.Rows
inductive MR where
  | ok (d : D) (ρ : Rho) | ex (c : Xc) (ρ : Rho) | er
section
variable (X : Cx) (W : WX) (S0 : Addr → Prop) (H0 : Hp) (own : List Addr) (H : Hp) (σ : Sg)
def PXM (Q : VK) : MR → Prop
  | .ok d ρ' => ∀ v own' H', Rel X.K S0 H0 ρ' σ own' H' → Fra own H own' H' → Rp X.K (SF H0 own') H' v d → Q v H'
  | .ex c ρ' => ∀ cv d own' H', IsCls X.mg c cv d → Rel X.K S0 H0 ρ' σ own' H' → Fra own H own' H' → W cv d σ H'
  | .er => False
end
structure VXM (X : Cx) (W : WX) (S0 : Addr → Prop) (H0 : Hp) (e : Expr) (f : Rho → MR) : Prop where
  p : ∃ te, PE X e te ∧ ∀ ρ σ own H Q, Rel X.K S0 H0 ρ σ own H → PXM X W S0 H0 own H σ Q (f ρ) → te σ H Q
def moR (i : Nat) (ρ : Rho) : MO → MR
  | .ok d o => .ok d (ρ.set i (.ow o))
  | .ex c o => .ex c (ρ.set i (.ow o))
  | .er => .er
/-- a method that changes its object -/
structure CalMO (P : Program) (w : World) (K : PySem.W.Frag) (mg : Str → Option Value) (base : Heap) (k : Nat) (c m : Str) (G : List D → MO) : Prop where
  p : ∃ (C f : Addr) (fd : FuncData) (ps : List Str), ClsAt K c C ∧ Cls K C ∧ Meth K C m f ∧ FnOk P w K mg base (L2.CX P w) k f fd ps (spO mg K G) ∧ Binds K fd ps []
/-- a def that changes its first argument -/
structure CalO (P : Program) (w : World) (K : PySem.W.Frag) (mg : Str → Option Value) (base : Heap) (k : Nat) (x : Str) (G : List D → MO) : Prop where
  p : ∃ (f : Addr) (fd : FuncData) (ps : List Str), FnOk P w K mg base (L2.CX P w) k f fd ps (spO mg K G) ∧ mg x = some (.ref f) ∧ PySem.W.keepIn K (.ref f) = true ∧ Binds K fd ps []
section
variable {X : Cx} {W : WX} {S0 : Addr → Prop} {H0 : Hp} {rm : Md} {pos p px apos : Pos} {e : Expr} {es : List Expr} {fa : Rho → M (List D)} {x c m : Str} {i j k : Nat} {G : List D → MO}
theorem PXM.weak {own own' : List Addr} {H H' : Hp} {σ : Sg} {Q : VK} {r : MR} (h : PXM X W S0 H0 own H σ Q r) (f : Fra own H own' H') : PXM X W S0 H0 own' H' σ Q r := by
  cases r with
  | ok d ρ => exact fun v o2 H2 a b r => h v o2 H2 a (f.trans b) r
  | ex c ρ => exact fun cv d o2 H2 ic a b => h cv d o2 H2 ic a (f.trans b)
  | er => exact h
theorem call_O {ρ : Rho} {σ : Sg} {own : List Addr} {H : Hp} {Q : VK} {a : Addr} {d0 : D} {ws : List V} {ds : List D} (R : Rel X.K S0 H0 ρ σ own H) (hi : ρ[i]? = some (.ow d0)) (hp : σ[i]? = some (some (.ref a))) (h0 : isObj d0 = true) (r : RpA X.K (SA S0 H0 own) H ws ds)
    (k : PXM X W S0 H0 own H σ Q (moR i ρ (G (d0 :: ds)))) : spO X.mg X.K G (.ref a :: ws) H Q (WE W σ) := by
  obtain ⟨a', h1, hao, hown⟩ := R.ow i d0 hi
  rw [hp] at h1
  cases h1
  have hsub := R.sub i d0 a hi hp
  refine ⟨a, ws, d0, ds, SF H0 own, rfl, h0, hown, fun hm => (hsub a hm).2 i d0 a hi hp |>.1 rfl, fun b s => ⟨fun z => s.1 (z ▸ hao), fun z => s.1 (hsub b z).1⟩, fun b hb => (R.own0 b (hsub b hb).1).2, r.keep (.wide fun b s => ⟨fun z => s.1 (z ▸ hao), fun z => s.1 (hsub b z).1⟩), ?_⟩
  revert k
  cases G (d0 :: ds) with
  | er => exact id
  | ok d o =>
    intro k v own' H' ck rv
    obtain ⟨R2, F2, reg⟩ := R.back hi hp ck
    exact k v _ H' R2 F2 (rv.keep (.wide reg))
  | ex c o =>
    intro k cv dd own' H' ic ck
    obtain ⟨R2, F2, reg⟩ := R.back hi hp ck
    exact k cv dd _ H' ic R2 F2
/-- x.m(args) -/
def eMethO (i : Nat) (c m : Str) (G : List D → MO) (fa : Rho → M (List D)) : Rho → MR := fun ρ => match ρ[i]? with
  | some (.ow (.obj p c' ns ds)) => if c' = c ∧ m ∉ ns then (match fa ρ with
    | .ok as => moR i ρ (G (.obj p c' ns ds :: as))
    | .ex c => .ex c ρ
    | .er => .er) else .er
  | _ => .er
theorem vxm_meth0 {pl : Sem Bool} (cm : CalMO X.prog X.w X.K X.mg X.base k c m G) (tk : Takes X W) (hr : Room j X.A) (hk : k ≤ j) (hN : X.N[i]? = some x := by rfl)
    (hv : Vis X.env.scope x := by first | exact Or.inl rfl | exact Or.inr (Or.inl rfl) | exact Or.inr (Or.inr rfl)) (hd : (x == ("__debug__" : Str)) = false := by decide) (hcd : (x == ("__classdict__" : Str)) = false := by decide)
    (ht : eval (.Call (.Attribute (.Name x px) m apos) [] [] pos) X.env = (do
      let ov ← eval (.Name x px) X.env
      standAt apos.atName
      let (f, first) ← holding [ov] (getMethod ov m pl)
      callWith pos f first (backTo pos (starEach [] X.env)) (backToKw pos (keywordEach [] X.env))) := by rfl) : VXM X W S0 H0 (.Call (.Attribute (.Name x px) m apos) [] [] pos) (eMethO i c m G aNil) := by
  obtain ⟨C, f, fd, ps, h1, h2, h3, F, h5⟩ := cm.p
  refine ⟨_, pe_methX0 (pe_var hN hv hd hcd) h2 h3 F (hr.mono hk) h5 (fun σ => passAt tk σ) ht, fun ρ σ own H Q R k => ?_⟩
  unfold eMethO at k
  split at k
  · next p c' ns ds eq =>
    split at k
    · next hcm =>
      obtain ⟨rfl, hm⟩ := hcm
      obtain ⟨a, ha', hao, hap, C', dx, vs, hH, hC, hns, _⟩ := R.ow i _ eq
      cases h1.one hC
      exact ⟨.ref a, ha', a, dx, vs, rfl, hH, look_none hns hm, call_O R eq ha' rfl .nil k⟩
    · exact k.elim
  · exact k.elim
end
section
variable {X : Cx} {W : WX} {S0 : Addr → Prop} {H0 : Hp} {rm : Md} {pos : Pos} {e : Expr} {f : Rho → MR}
/-- e as a statement -/
def sExO (f : Rho → MR) : Rho → Res := fun ρ => match f ρ with
  | .ok _ ρ' => .nx ρ'
  | .ex c ρ' => .ex c ρ'
  | .er => .er
theorem vs_exO (h : VXM X W S0 H0 e f) (hsw : swapsWith e none pos.line X.env = pure false := by rfl) : VS X W S0 H0 rm (.Expr e pos) (sExO f) := by
  obtain ⟨te, p, q⟩ := h.p
  refine ⟨_, ps_expr p hsw, fun ρ σ own H D R k => q ρ σ own H _ R ?_⟩
  unfold sExO at k
  revert k
  cases f ρ with
  | er => exact id
  | ex c ρ' => exact fun k cv d own' H' ic a b => k cv d σ own' H' ic a b
  | ok d ρ' => exact fun k v own' H' a b r => k σ own' H' a b
end
end VL
set_option Elab.async false
set_option linter.all false
set_option maxRecDepth 100000
/-! VO9: changing defs called by their names; assignment and return over changing calls. -/
namespace VL
open PySem L2 PySem.Spec PyProof.Rows
section
variable {X : Cx} {W : WX} {S0 : Addr → Prop} {H0 : Hp} {rm : Md} {pos pos' p px : Pos} {e : Expr} {es : List Expr} {fa : Rho → M (List D)} {x y : Str} {i j k : Nat} {G : List D → MO} {f : Rho → MR}
/-- y(x, args), the object in slot i -/
def eCallO (i : Nat) (G : List D → MO) (fa : Rho → M (List D)) : Rho → MR := fun ρ => match ρ[i]? with
  | some (.ow d0) => if isObj d0 = true then (match fa ρ with
    | .ok as => moR i ρ (G (d0 :: as))
    | .ex c => .ex c ρ
    | .er => .er) else .er
  | _ => .er
theorem vxm_call (c : CalO X.prog X.w X.K X.mg X.base k y G) (tk : Takes X W) (hr : Room j X.A) (hk : k ≤ j) (ha : VA X W S0 H0 .E es fa) (hN : X.N[i]? = some x := by rfl)
    (hv : Vis X.env.scope x := by first | exact Or.inl rfl | exact Or.inr (Or.inl rfl) | exact Or.inr (Or.inr rfl)) (hd : (x == ("__debug__" : Str)) = false := by decide) (hcd : (x == ("__classdict__" : Str)) = false := by decide)
    (hg : Gl X y := by rfl) (hdb : (y == ("__debug__" : Str)) = false := by decide)
    (he : starEach (.Name x px :: es) X.env = (false, eval (.Name x px) X.env) :: starEach es X.env := by rfl) (hpl : (backTo pos (starEach es X.env)).any (·.1) = false := by rfl) : VXM X W S0 H0 (.Call (.Name y p) (.Name x px :: es) [] pos) (eCallO i G fa) := by
  obtain ⟨fn, fd, ps, F, h1, h2, h3⟩ := c.p
  obtain ⟨ta, pa, qa⟩ := ha.p
  refine ⟨_, pe_callS F (hr.mono hk) hg h1 h2 h3 (fun σ => passAt tk σ) (pa_cons (pe_var hN hv hd hcd) pa he) hdb he hpl, fun ρ σ own H Q R k => ?_⟩
  unfold eCallO at k
  split at k
  · next d0 eq =>
    split at k
    · next h0 =>
      obtain ⟨a, ha', hao, _⟩ := R.ow i _ eq
      refine ⟨.ref a, ha', qa ρ σ own H _ R ?_⟩
      revert k
      cases fa ρ with
      | er => exact id
      | ex c => exact fun k cv dd H' ic s => k cv dd own H' ic (R.grow s) (.same s)
      | ok as => exact fun k ws H2 s2 r2 => call_O (R.grow s2) eq ha' h0 (RpA.ofE r2) (PXM.weak k (.same s2))
    · exact k.elim
  · exact k.elim
/-- return e, the state with it -/
def sRetS (f : Rho → M D) : Rho → Res := fun ρ => ofM ρ (fun d => .rs d ρ) (f ρ)
theorem vs_retS {fe : Rho → M D} (h : VX X W S0 H0 .F e fe) : VS X W S0 H0 .F (.Return (some e) pos) (sRetS fe) := by
  obtain ⟨te, p, q⟩ := h.p
  refine ⟨_, ps_ret p, fun ρ σ own H D R k => q ρ σ own H _ R ?_⟩
  unfold sRetS at k
  revert k
  cases fe ρ with
  | er => exact id
  | ex c => exact fun k cv d H' i s => k cv d σ own H' i (R.grow s) (.same s)
  | ok d => exact fun k v H' s r => k v σ own H' r (R.grow s) (.same s)
end
end VL
set_option Elab.async false
set_option linter.all false
set_option maxRecDepth 100000
/-! VO10: tests that change an object. -/
namespace VL
open PySem L2 PySem.Spec PyProof.Rows
inductive MT where
  | ok (b : Bool) (ρ : Rho) | ex (c : Xc) (ρ : Rho) | er
section
variable (X : Cx) (W : WX) (S0 : Addr → Prop) (H0 : Hp) (own : List Addr) (H : Hp) (σ : Sg)
def PXN (Q : Bool → Hp → Prop) : MT → Prop
  | .ok b ρ' => ∀ own' H', Rel X.K S0 H0 ρ' σ own' H' → Fra own H own' H' → Q b H'
  | .ex c ρ' => ∀ cv d own' H', IsCls X.mg c cv d → Rel X.K S0 H0 ρ' σ own' H' → Fra own H own' H' → W cv d σ H'
  | .er => False
end
structure VTM (X : Cx) (W : WX) (S0 : Addr → Prop) (H0 : Hp) (e : Expr) (f : Rho → MT) : Prop where
  p : ∃ te, PT X e te ∧ ∀ ρ σ own H Q, Rel X.K S0 H0 ρ σ own H → PXN X W S0 H0 own H σ Q (f ρ) → te σ H Q
section
variable {X : Cx} {W : WX} {S0 : Addr → Prop} {H0 : Hp} {rm ma mb : Md} {pos : Pos} {e a b : Expr} {f : Rho → MR} {ft : Rho → MT} {fb : Rho → M D} {r : R2} {g : D → D → M D}
end
end VL
set_option Elab.async false
set_option linter.all false
set_option maxRecDepth 100000
/-! VO11: x.f = x.g.pop(), and what is popped as a statement. -/
namespace VL
open PySem L2 PySem.Spec PyProof.Rows
section
variable {X : Cx} {W : WX} {S0 : Addr → Prop} {H0 : Hp} {rm : Md} {pos px py pg pos' apos cpos : Pos} {x f g c : Str} {i : Nat}
/-- the last of a list -/
def lastD : List D → Option (List D × D)
  | [] => none
  | d :: ds => some ((d :: ds).dropLast, (d :: ds).getLast (by simp))
/-- x.f = x.g.pop() -/
def sPopF (i : Nat) (c f g : Str) : Rho → Res := fun ρ => match ρ[i]? with
  | some (.ow (.obj p c' ns ds)) => (match lookF g ns ds with
    | some (.lst es) => (match lastD es with
      | some (es', d) => if c' = c ∧ ns.length < 1000 then .nx (ρ.set i (.ow (.obj p c' (putN f ns) (putDs f d ns (putDs g (.lst es') ns ds))))) else .er
      | none => .er)
    | _ => .er)
  | _ => .er
theorem rpa_last {K : PySem.W.Frag} {S : Addr → Prop} {H : Hp} {vs : List V} {ds es' : List D} {d : D} (r : RpA K S H vs ds) (h : lastD ds = some (es', d)) : ∃ ws v, vs = ws ++ [v] ∧ RpA K S H ws es' ∧ Rp K S H v d := by
  cases ds with
  | nil => cases h
  | cons d0 ds =>
    cases h
    have hl : vs.length = (d0 :: ds).length := r.length
    have hne : vs ≠ [] := fun e => by rw [e] at hl; simp at hl
    refine ⟨vs.dropLast, vs.getLast hne, (List.dropLast_concat_getLast hne).symm, ?_, ?_⟩
    · have := RpA.take (vs.length - 1) r
      rw [List.dropLast_eq_take, List.dropLast_eq_take, ← hl]
      exact this
    · obtain ⟨w, h1, h2⟩ := r.get (i := (d0 :: ds).length - 1) (d := (d0 :: ds).getLast (by simp)) (by rw [List.getLast_eq_getElem, List.getElem?_eq_getElem (by simp)])
      rw [List.getLast_eq_getElem]
      rw [← hl] at h1
      have hlt : vs.length - 1 < vs.length := by rw [hl]; simp
      rw [List.getElem?_eq_getElem hlt] at h1
      rw [Option.some.inj h1]
      exact h2
theorem vs_popF (hc : ClsK X.K c) (hn : NoF X.K c f) (hng : NoF X.K c g) (hof : ownF f = false := by decide) (hog : ownF g = true := by decide) (hN : X.N[i]? = some x := by rfl) (hv : Vis X.env.scope x := by first | exact Or.inl rfl | exact Or.inr (Or.inl rfl) | exact Or.inr (Or.inr rfl)) (hd : (x == ("__debug__" : Str)) = false := by decide)
    (hcd : (x == ("__classdict__" : Str)) = false := by decide) (hbf : attributeBase (.Name x py) g X.env (eval (.Name x py) X.env) = eval (.Name x py) X.env := by rfl)
    (hbase : attributeBase (.Attribute (.Name x py) g pg) "pop" X.env (eval (.Attribute (.Name x py) g pg) X.env) = eval (.Attribute (.Name x py) g pg) X.env := by rfl) (hline : (apos.endLine == cpos.line) = true := by rfl)
    (hs : swapsWith (.Call (.Attribute (.Attribute (.Name x py) g pg) "pop" apos) [] [] cpos) (some (.Attribute (.Name x px) f pos')) pos.line X.env = pure false := by rfl) :
    VS X W S0 H0 rm (.Assign [.Attribute (.Name x px) f pos'] (.Call (.Attribute (.Attribute (.Name x py) g pg) "pop" apos) [] [] cpos) pos) (sPopF i c f g) := by
  obtain ⟨C, h1, h2⟩ := hc.p
  refine ⟨_, ps_fld (pe_var hN hv hd hcd) (pe_bm0 PySem.F.plainAttrs_list PySem.F.slot_list_pop PySem.F.type_list_pop mt_pop (pe_fld (pe_var hN hv hd hcd) hbf) hbase hline) hs, fun ρ σ own H D R k => ?_⟩
  unfold sPopF at k
  split at k
  · next p c' ns ds eq =>
    split at k
    · next es hl =>
      split at k
      · next es' d hla =>
        split at k
        · next hcc =>
          obtain ⟨rfl, hlen⟩ := hcc
          obtain ⟨a, ha, ma, hap, C', dx, vs, hH, hC, hns, ro, nd⟩ := R.ow i _ eq
          cases h1.one hC
          obtain ⟨w, hw, hr⟩ := look_own hns ro hl
          rw [if_pos hog] at hr
          obtain ⟨b, xs, es1, rfl, e1, hb, rb, hsb⟩ := hr
          cases e1
          obtain ⟨ws, v, rfl, rws, rv⟩ := rpa_last rb hla
          refine ⟨.ref a, ha, a, C, dx, vs, .ref b, rfl, hH, h2, hng C h1, hw, .inl ⟨rfl, _, SqL.of hb⟩, b, _, v, rfl, rfl, hb, by simp, ?_⟩
          have hmem : b ∈ sb H a := by rw [sb_ins hH]; exact hsb
          have hbo := (R.sub i _ a eq ha b hmem).1
          have hba : b ≠ a := ((R.sub i _ a eq ha b hmem).2 i _ a eq ha).1
          rw [List.dropLast_concat]
          have kp := keep_upd (o := .lst ws) R hbo
          obtain ⟨R1, F1⟩ := R.chgX (d' := .obj p c' ns (putDs g (.lst es') ns ds)) (o := .lst ws) eq ha (.inr hmem) trivial
            ⟨hap, C, dx, vs, by rw [upd_ne (Ne.symm hba)]; exact hH, hC, hns, by rw [← hns]; exact own_upd kp (fun z hz => upd_ne hz) upd_same (rws.keep kp) hog ro hw nd, nd⟩
            (fun z hz => .inl (by rw [sb_eq (upd_ne (Ne.symm hba))] at hz; exact hz))
          have eq1 : (ρ.set i (.ow (.obj p c' ns (putDs g (.lst es') ns ds))))[i]? = some (.ow (.obj p c' ns (putDs g (.lst es') ns ds))) := List.getElem?_set_self (List.getElem?_eq_some_iff.mp eq).1
          obtain ⟨a2, ha2, ma2, hap2, C2, dx2, vs2, hH2, hC2, hns2, ro2, nd2⟩ := R1.ow i _ eq1
          rw [ha] at ha2
          cases ha2
          rw [upd_ne (Ne.symm hba), hH] at hH2
          cases hH2
          have hvl : vs.length = ns.length := by rw [← hns, List.length_map]
          have hH3 : (upd H b (.lst ws)) a = some (.ins C dx vs) := by rw [upd_ne (Ne.symm hba)]; exact hH
          refine ⟨.ref a, ha, a, C, dx, vs, rfl, hH3, h2, hn C h1, by omega, ?_⟩
          have kp2 := keep_upd (o := .ins C dx (putF f v vs)) R1 ma
          have hsub := putF_subs (v := v) hof vs
          have stay : ∀ z, z ∈ subs vs → ∀ o, (upd H b (.lst ws)) z = some o → upd (upd H b (.lst ws)) a (.ins C dx (putF f v vs)) z = some o := fun z hz o e => by
            have := ((R1.sub i _ a eq1 ha z (by rw [sb_ins hH3]; exact hz)).2 i _ a eq1 ha).1
            rw [upd_ne this]; exact e
          have hfok : FOk X.K (SF H0 own) (upd (upd H b (.lst ws)) a (.ins C dx (putF f v vs))) f v d := by
            unfold FOk
            rw [if_neg (by rw [hof]; decide)]
            exact (rv.keep kp).keep kp2
          obtain ⟨R2, F2⟩ := R1.chgX (d' := .obj p c' (putN f ns) (putDs f d ns (putDs g (.lst es') ns ds))) (o := .ins C dx (putF f v vs)) eq1 ha (.inl rfl) trivial
            ⟨hap, C, dx, _, upd_same, hC, by rw [putF_names, hns], by rw [← hns]; rw [← hns] at ro2; exact putF_own hfok (ro2.keep kp2 stay), by rw [hsub]; exact nd⟩
            (fun z hz => .inl (by rw [sb_ins upd_same, hsub] at hz; rw [sb_ins hH3]; exact hz))
          rw [List.set_set] at R2
          exact k σ own _ R2 (F1.trans F2)
        · exact k.elim
      · exact k.elim
    · exact k.elim
  · exact k.elim
end
end VL
set_option Elab.async false
set_option linter.all false
set_option maxRecDepth 100000
/-! VO12: a new object, the rest of the body for every address. -/
namespace VL
open PySem L2 PySem.Spec PyProof.Rows
section
variable {K : PySem.W.Frag} {S0 : Addr → Prop} {H0 H : Hp} {ρ : Rho} {σ : Sg} {own : List Addr}
theorem Rel.setOwB {i : Nat} {a : Addr} {d : D} {Hb : Hp} (Rb : Rel K S0 H0 ρ σ own Hb) (hs : Same Hb H) (hb : Hb a = none) (r : Own K (SF H0 (a :: own)) H a d) (hsb : sb H a = []) : Rel K S0 H0 (ρ.set i (.ow d)) (σ.set i (some (.ref a))) (a :: own) H := by
  have f : Fra own Hb (a :: own) H := ⟨fun b o e _ => hs b o e, fun b hm => (List.mem_cons.mp hm).elim (fun z => .inr (by rw [z]; exact hb)) .inl⟩
  have h0 : H0 a = none := Rb.same.free hb
  refine ⟨fun j e q => ?_, fun j e q => ?_, fun j e q => ?_, fun j k d' e' x y q => ?_, fun j d' b e1 e2 x hx => ?_, fun b hm => ?_, Rb.same.trans hs, by simp [Rb.len]⟩
  · rcases get_set q with ⟨rfl, z, hl⟩ | ⟨hj, z⟩
    · cases z
    · rw [List.getElem?_set_ne (Ne.symm hj)]
      obtain ⟨v, h1, h2⟩ := Rb.sh j e z
      exact ⟨v, h1, h2.keep (f.keepA Rb.own0)⟩
  · rcases get_set q with ⟨rfl, z, hl⟩ | ⟨hj, z⟩
    · cases z
    · rw [List.getElem?_set_ne (Ne.symm hj)]
      obtain ⟨v, h1, h2⟩ := Rb.fr j e z
      exact ⟨v, h1, h2.keep (f.keepF Rb.own0)⟩
  · rcases get_set q with ⟨rfl, z, hl⟩ | ⟨hj, z⟩
    · cases z
      exact ⟨a, List.getElem?_set_self (by rw [Rb.len]; exact hl), List.mem_cons_self, r⟩
    · rw [List.getElem?_set_ne (Ne.symm hj)]
      obtain ⟨b, h1, h2, h3⟩ := Rb.ow j e z
      exact ⟨b, h1, List.mem_cons_of_mem _ h2, h3.keep (f.keepF Rb.own0) fun x _ o q => hs _ o q⟩
  · have old : ∀ (j : Nat) (d : D), j ≠ i → ρ[j]? = some (.ow d) → (σ.set i (some (.ref a)))[j]? ≠ some (some (.ref a)) := fun j d hj z w => by
      rw [List.getElem?_set_ne (Ne.symm hj)] at w
      obtain ⟨b, h1, h2, h3⟩ := Rb.ow j d z
      rw [w] at h1
      cases h1
      obtain ⟨u, e⟩ := mt_some (Rb.own0 a h2).2
      rw [hb] at e; cases e
    rcases get_set x with ⟨rfl, z, hl⟩ | ⟨hj, z⟩
    · rcases get_set y with ⟨rfl, z2, hl2⟩ | ⟨hk, z2⟩
      · rfl
      · refine absurd ?_ (old k e' hk z2)
        rw [← q]
        exact List.getElem?_set_self (by rw [Rb.len]; exact hl)
    · rcases get_set y with ⟨rfl, z2, hl2⟩ | ⟨hk, z2⟩
      · refine absurd ?_ (old j d' hj z)
        rw [q]
        exact List.getElem?_set_self (by rw [Rb.len]; exact hl2)
      · rw [List.getElem?_set_ne (Ne.symm hj), List.getElem?_set_ne (Ne.symm hk)] at q
        exact Rb.dis j k d' e' z z2 q
  · have stay : ∀ (j : Nat) (e : D) (b : Addr), ρ[j]? = some (.ow e) → σ[j]? = some (some (.ref b)) → sb H b = sb Hb b ∧ b ∈ own := fun j e b g1 g2 => by
      obtain ⟨c, g3, g4, _⟩ := Rb.ow j e g1
      rw [g2] at g3
      cases g3
      obtain ⟨u, eu⟩ := mt_some (Rb.own0 b g4).2
      exact ⟨sb_eq (by rw [eu, hs b u eu]), g4⟩
    rcases get_set e1 with ⟨rfl, z, hl⟩ | ⟨hj, z⟩
    · rw [List.getElem?_set_self (by rw [Rb.len]; exact hl)] at e2
      cases e2
      rw [hsb] at hx
      cases hx
    · rw [List.getElem?_set_ne (Ne.symm hj)] at e2
      rw [(stay j d' b z e2).1] at hx
      obtain ⟨h1, h2⟩ := Rb.sub j d' b z e2 x hx
      refine ⟨List.mem_cons_of_mem _ h1, fun k e c g1 g2 => ?_⟩
      rcases get_set g1 with ⟨rfl, y, hl⟩ | ⟨hk, y⟩
      · rw [List.getElem?_set_self (by rw [Rb.len]; exact hl)] at g2
        cases g2
        refine ⟨fun z => ?_, fun _ => by rw [hsb]; simp⟩
        rw [z] at h1
        obtain ⟨u, e⟩ := mt_some (Rb.own0 a h1).2
        rw [hb] at e; cases e
      · rw [List.getElem?_set_ne (Ne.symm hk)] at g2
        rw [(stay k e c y g2).1]
        exact h2 k e c y g2
  · rcases List.mem_cons.mp hm with rfl | hm
    · exact ⟨h0, r.mt⟩
    · refine ⟨(Rb.own0 b hm).1, ?_⟩
      obtain ⟨u, e⟩ := mt_some (Rb.own0 b hm).2
      have m := (Rb.own0 b hm).2
      rw [hs b u e, ← e]
      exact m
end
/-- a class that may be made; __init__ changes its object -/
structure CalMk (P : Program) (w : World) (K : PySem.W.Frag) (mg : Str → Option Value) (base : Heap) (k : Nat) (c : Str) (G : List D → MO) : Prop where
  p : ∃ (C f : Addr) (fd : FuncData) (ps : List Str), ClsAt K c C ∧ mg c = some (.ref C) ∧ Mk K C f ∧ FnOk P w K mg base (L2.CX P w) k f fd ps (spO mg K G) ∧ Binds K fd ps []
/-- the new object and its own Rel -/
theorem Rel.made {K : PySem.W.Frag} {S0 : Addr → Prop} {H0 H : Hp} {ρ : Rho} {σ : Sg} {own : List Addr} {j : Nat} {x dx C : Addr} {c : Str} (R : Rel K S0 H0 ρ σ own H) (hx : H x = none) (hd : H dx = none) (hn : dx ≠ x) (hc : ClsAt K c C) :
    Rel K S0 H0 (ρ.set j (.ow (.obj x c [] []))) (σ.set j (some (.ref x))) (x :: own) (upd (upd H dx (.own x)) x (.ins C dx [])) := by
  have hs : Same H (upd (upd H dx (.own x)) x (.ins C dx [])) := fun b u e => by
    rw [upd_ne (ne_of_none e hx), upd_ne (ne_of_none e hd)]
    exact e
  exact R.setOwB hs hx ⟨rfl, C, dx, [], upd_same, hc, rfl, trivial, List.nodup_nil⟩ (by rw [sb_ins upd_same]; rfl)
end VL
set_option Elab.async false
set_option linter.all false
set_option maxRecDepth 100000
/-! VO13: y = C(args), then the rest, which must give the same for every address. -/
namespace VL
open PySem L2 PySem.Spec PyProof.Rows
section
variable {X : Cx} {CX : CXT} {k : Nat} {f C : Addr} {fd : FuncData} {ps : List Str} {sp : Sp} {E : L2.St → XK} {x : Str} {p pos : Pos} {e : Expr} {es : List Expr} {t : TA}
theorem run_makeX {pins : List (Addr × Obj)} {σ : L2.St} {H : Hp} {s : Shared} {Q : VK} {us : List Value} {vs : List V} (M : Mk X.K C f) (F : FnOk X.prog X.w X.K X.mg X.base CX k f fd ps sp) (hr : Room (k + 1) X.A) (hb : Binds X.K fd ps [])
    (hx : PassesAt CX X σ (E σ)) (I : Inv X pins σ H s) (r : Vals vs us)
    (h : ∀ x dx, H x = none → H dx = none → dx ≠ x → sp (.ref x :: vs) (upd (upd H dx (.own x)) x (.ins C dx [])) (fun v H2 => v = .non ∧ Q (.ref x) H2) (E σ)) :
    wpAny (model X.prog X.w) X.A (call (.ref C) us) (EP X pins σ Q) X.xe s := by
  have hq := h (s.heap.objs.size + 1) s.heap.objs.size (I.hok.fresh (Nat.le_succ _)) (I.hok.fresh (Nat.le_refl _)) (Nat.ne_of_lt (Nat.lt_succ_self _))
  have I2 := Inv.made (C := C) I
  have r2 : Vals (V.ref (s.heap.objs.size + 1) :: vs) (Value.ref (s.heap.objs.size + 1) :: us) := .cons rfl r
  have hl : (Value.ref (s.heap.objs.size + 1) :: us ++ []).length = ps.length := by
    have e := r2.length
    rw [F.len _ _ _ _ hq] at e
    rw [List.append_nil]
    exact e.symm
  have b := hb _ (Value.ref (s.heap.objs.size + 1) :: us) I2.kIn hl
  rw [List.append_nil] at b
  refine wpAny_call (make_map (f := f) I.kIn M.makes M.init (beq_iff_eq.mp M.fn) (codeAny_mono (F.run _ X.stack _ _ ⟨Value.ref (s.heap.objs.size + 1) :: us, []⟩ (Value.ref (s.heap.objs.size + 1) :: us) _ _ (E σ) (hr.make C us [])
    (I2.env0.make C us []) b r2 hq) fun r s' hq' => ?_))
  cases r with
  | error e => exact hx pins _ _ e s' I2 hq'
  | ok fl =>
    cases fl with
    | ret u =>
      obtain ⟨v, H', I3, rv, ev, q3⟩ := I2.after hq'
      subst ev
      exact ⟨rv, ⟨V.ref (s.heap.objs.size + 1), H', I3, rfl, q3⟩⟩
    | next => exact False.elim hq'
    | brk => exact False.elim hq'
    | cont => exact False.elim hq'
def tMakeX (C : Addr) (sp : Sp) (E : L2.St → XK) (t : TA) : TE := fun σ H Q => t σ H fun vs H1 => ∀ x dx, H1 x = none → H1 dx = none → dx ≠ x →
  sp (.ref x :: vs) (upd (upd H1 dx (.own x)) x (.ins C dx [])) (fun v H2 => v = .non ∧ Q (.ref x) H2) (E σ)
theorem pe_makeX (M : Mk X.K C f) (F : FnOk X.prog X.w X.K X.mg X.base CX k f fd ps sp) (hr : Room (k + 1) X.A) (hg : Gl X x) (hm : X.mg x = some (.ref C)) (hb : Binds X.K fd ps []) (hx : ∀ σ, PassesAt CX X σ (E σ))
    (ha : PA X (e :: es) t) (hdb : (x == ("__debug__" : Str)) = false := by decide) (he : starEach (e :: es) X.env = (false, eval e X.env) :: starEach es X.env := by rfl) (hpl : (backTo pos (starEach es X.env)).any (·.1) = false := by rfl) :
    PE X (.Call (.Name x p) (e :: es) [] pos) (tMakeX C sp E t) := by
  refine ⟨fun pins s σ H Q I h => ?_⟩
  refine wpAny_Call_Name_kw (ld_glob I hg hm ?_ hdb)
  refine PySem.W.callWith_K (h₀ := X.base) I.ok.mod.kin M.kp (thn (ha.run pos pins s σ H _ I h) fun us s1 ⟨vs, H1, I1, r, q⟩ => ⟨I1.kIn, ?_⟩) he hpl
  exact run_makeX M F hr hb (hx σ) I1 r q
end
end VL
set_option Elab.async false
set_option linter.all false
set_option maxRecDepth 100000
/-! VO14: y = C(args) :: the rest. -/
namespace VL
open PySem L2 PySem.Spec PyProof.Rows
section
variable {X : Cx} {W : WX} {S0 : Addr → Prop} {H0 : Hp} {rm : Md} {k l j : Nat} {c y : Str} {G : List D → MO} {p pos pos' pos2 : Pos} {e : Expr} {es : List Expr} {sts : List Stmt} {fa : Rho → M (List D)} {g : Rho → Res}
end
end VL
set_option Elab.async false
set_option linter.all false
set_option maxRecDepth 100000
/-! VO15: C() without arguments. -/
namespace VL
open PySem L2 PySem.Spec PyProof.Rows
section
variable {X : Cx} {CX : CXT} {k : Nat} {f C : Addr} {fd : FuncData} {ps : List Str} {sp : Sp} {E : L2.St → XK} {x : Str} {p pos : Pos}
end
section
variable {X : Cx} {W : WX} {S0 : Addr → Prop} {H0 : Hp} {rm : Md} {k l j : Nat} {c y : Str} {G : List D → MO} {p pos pos' pos2 : Pos} {sts : List Stmt} {g : Rho → Res}
end
end VL
set_option Elab.async false
set_option linter.all false
set_option maxRecDepth 100000
/-! VO16: try with several except clauses. -/
namespace VL
open PySem L2 PySem.Spec PyProof.Rows
/-- what is known of a clause's class: of each class that may be raised, whether it is caught -/
structure HdF (K : PySem.W.Frag) (mg : Str → Option Value) (x : Str) (tb : List (Str × Bool)) : Prop where
  p : ∃ top, mg x = some top ∧ ∀ c b, tb.lookup c = some b → ∃ D, mg c = some (.ref D) ∧ PySem.W.exmOne K (.ref D) top = some b
abbrev Hd := List (Str × Bool) × (Rho → Res)
inductive VHs (X : Cx) (S0 : Addr → Prop) (H0 : Hp) (rm : Md) : List ExceptHandler → List Hd → Prop
  | nil : VHs X S0 H0 rm [] []
  | cons {x : Str} {tb : List (Str × Bool)} {f : Rho → Res} {b0 : Stmt} {suite : List Stmt} {np pos' : Pos} {hds : List ExceptHandler} {l : List Hd} (hk : HdF X.K X.mg x tb) (g : Gl X x) (d : (x == ("__debug__" : Str)) = false)
      (hsu : ∀ (a : Addr) (oe : Obj) (pn : List (Addr × Obj)), VSs (X.suite a ((a, oe) :: pn)) (fun _ _ _ _ => False) S0 H0 rm (b0 :: suite) f) (r : VHs X S0 H0 rm hds l) :
      VHs X S0 H0 rm (.ExceptHandler (some (.Name x np)) none (b0 :: suite) pos' :: hds) ((tb, f) :: l)
section
variable {X : Cx} {W : WX} {S0 : Addr → Prop} {H0 : Hp} {rm : Md} {pos : Pos} {body : List Stmt} {h₀ : ExceptHandler} {hds : List ExceptHandler} {l : List Hd} {fb : Rho → Res}
end
end VL
set_option Elab.async false
set_option linter.all false
set_option maxRecDepth 100000
/-! VO17: changing calls as arguments, in comparisons, under and / or. -/
namespace VL
open PySem L2 PySem.Spec PyProof.Rows
section
variable {X : Cx} {W : WX} {S0 : Addr → Prop} {H0 : Hp} {rm ma mb m : Md} {pos p : Pos} {e a b : Expr} {es : List Expr} {fm f : Rho → MR} {fa : Rho → M (List D)} {fe fb : Rho → M D} {x : Str} {i j k : Nat} {q : List D → M D} {r : R2} {g : D → D → M D} {t t2 : Rho → MT} {ft : Rho → M Bool}
/-- a changing call, compared with a value -/
def eCmpM (g : D → D → M D) (f : Rho → MR) (fb : Rho → M D) : Rho → MR := fun ρ => match f ρ with
  | .ok d ρ' => (match fb ρ' with
    | .ok y => (match g d y with | .ok (.bl b) => .ok (.bl b) ρ' | _ => .er)
    | .ex c => .ex c ρ'
    | .er => .er)
  | .ex c ρ' => .ex c ρ'
  | .er => .er
theorem vxm_cmp {op : CmpOp} (ho : OpR X (compareOp op) r) (hg : OpG X W S0 H0 .N r g) (ha : VXM X W S0 H0 a f) (hb : VX X W S0 H0 mb b fb) (hm : behindInMarks op b = false := by first | exact nomark _ | rfl) : VXM X W S0 H0 (.Compare a [op] [b] pos) (eCmpM g f fb) := by
  obtain ⟨ta, pa, qa⟩ := ha.p
  obtain ⟨tb, pb, qb⟩ := hb.p
  refine ⟨_, pe_cmpR ho pa pb hm, fun ρ σ own H Q R k => qa ρ σ own H _ R ?_⟩
  unfold eCmpM at k
  revert k
  cases f ρ with
  | er => exact id
  | ex c ρ' => exact id
  | ok d ρ' =>
    intro k v own' H' R' F' rv
    dsimp only at k
    refine qb ρ' σ own' H' _ R' ?_
    revert k
    cases fb ρ' with
    | er => exact id
    | ex c => exact fun k cv dd H2 ic s => k cv dd own' H2 ic (R'.grow s) (F'.trans (.same s))
    | ok y =>
      intro k w H2 s2 rw'
      dsimp only at k
      refine hg ρ' σ own' H2 _ v w d y (R'.grow s2) (.inl ((rv.keep (.same s2)).keep (.wide SF.sa))) (rw'.toO (Hc := H2)) ?_
      revert k
      cases hgd : g d y with
      | er => exact id
      | ex c => exact fun k => k.elim
      | ok z =>
        cases z with
        | bl b2 =>
          intro k u H3 s3 ru
          have hu := ru.isBl
          subst hu
          exact k (.bl b2) own' H3 (R'.grow (s2.trans s3)) (F'.trans (.same (s2.trans s3))) (.bl b2)
        | _ => exact fun k => k.elim
/-! ### tests -/
theorem PXN.weak {own own' : List Addr} {H H' : Hp} {σ : Sg} {Q : Bool → Hp → Prop} {r : MT} (h : PXN X W S0 H0 own H σ Q r) (f : Fra own H own' H') : PXN X W S0 H0 own' H' σ Q r := by
  cases r with
  | er => exact h
  | ex c ρ => exact fun cv d o2 H2 ic R F => h cv d o2 H2 ic R (f.trans F)
  | ok b ρ => exact fun o2 H2 R F => h o2 H2 R (f.trans F)
end
structure VWM (X : Cx) (W : WX) (S0 : Addr → Prop) (H0 : Hp) (e : Expr) (f : Rho → MT) : Prop where
  p : ∃ te, PW X e te ∧ ∀ ρ σ own H Q, Rel X.K S0 H0 ρ σ own H → PXN X W S0 H0 own H σ Q (f ρ) → te σ H Q
section
variable {X : Cx} {W : WX} {S0 : Addr → Prop} {H0 : Hp} {pos : Pos} {e : Expr} {t t2 : Rho → MT}
theorem VWM.tt (h : VWM X W S0 H0 e t) : VTM X W S0 H0 e t := by
  obtain ⟨ta, pa, qa⟩ := h.p
  exact ⟨ta, pa.pt, qa⟩
end
end VL
set_option Elab.async false
set_option linter.all false
set_option maxRecDepth 100000
/-! VO18: changing defs that are handed new data: it may become the object's own. -/
namespace VL
open PySem L2 PySem.Spec PyProof.Rows
def spOF (mg : Str → Option Value) (K : PySem.W.Frag) (G : List D → MO) : Sp := fun vs H Q E => ∃ (p : Addr) (ws : List V) (d0 : D) (ds : List D) (S1 : Addr → Prop), vs = .ref p :: ws ∧ isObj d0 = true ∧ Own K S1 H p d0 ∧ p ∉ sb H p ∧ (∀ a, S1 a → a ≠ p ∧ a ∉ sb H p) ∧
  (∀ x, x ∈ sb H p → Mt (H x)) ∧ RpA K S1 H ws ds ∧ PFO mg K S1 H p Q E (G (d0 :: ds))
section
variable {P : Program} {w : World} {K : PySem.W.Frag} {mg : Str → Option Value} {base : Heap}
end
structure CalMOF (P : Program) (w : World) (K : PySem.W.Frag) (mg : Str → Option Value) (base : Heap) (k : Nat) (c m : Str) (G : List D → MO) : Prop where
  p : ∃ (C f : Addr) (fd : FuncData) (ps : List Str), ClsAt K c C ∧ Cls K C ∧ Meth K C m f ∧ FnOk P w K mg base (L2.CX P w) k f fd ps (spOF mg K G) ∧ Binds K fd ps []
section
variable {X : Cx} {W : WX} {S0 : Addr → Prop} {H0 : Hp} {rm : Md} {pos p px apos : Pos} {e : Expr} {es : List Expr} {fa : Rho → M (List D)} {x c m : Str} {i j k : Nat} {G : List D → MO}
end
end VL
set_option Elab.async false
set_option linter.all false
set_option maxRecDepth 100000
/-! VO19: defs that make an object and give it. -/
namespace VL
open PySem L2 PySem.Spec PyProof.Rows
inductive MB where
  | ok (c : Str) (ns : List Str) (ds : List D) | okp (p : Addr) (c : Str) (ns : List Str) (ds : List D) | ex (c : Xc) (ρ : Rho) | er
/-- a new object of one's own at p -/
structure Mad (K : PySem.W.Frag) (H0 : Hp) (p : Addr) (own' : List Addr) (H' : Hp) (c : Str) (ns : List Str) (ds : List D) : Prop where
  own : Own K (SF H0 own') H' p (.obj p c ns ds)
  mem : p ∈ own'
  sub : ∀ x, x ∈ sb H' p → x ∈ own' ∧ x ≠ p
  own0 : ∀ b, b ∈ own' → H0 b = none ∧ Mt (H' b)
  same : Same H0 H'
section
variable (X : Cx) (W : WX) (S0 : Addr → Prop) (H0 : Hp) (own : List Addr) (H : Hp)
def PSB (D : Ends) : MB → Prop
  | .ok c ns ds => ∀ p own' H', Mad X.K H0 p own' H' c ns ds → Fra own H own' H' → D.rt (.ref p) H'
  | .okp p c ns ds => ∀ own' H', Mad X.K H0 p own' H' c ns ds → Fra own H own' H' → D.rt (.ref p) H'
  | .ex c ρ' => ∀ cv d σ' own' H', IsCls X.mg c cv d → Rel X.K S0 H0 ρ' σ' own' H' → Fra own H own' H' → W cv d σ' H'
  | .er => False
end
structure VSB (X : Cx) (W : WX) (S0 : Addr → Prop) (H0 : Hp) (sts : List Stmt) (f : Rho → MB) : Prop where
  p : ∃ ts, PSs X sts ts ∧ ∀ ρ σ own H D, Rel X.K S0 H0 ρ σ own H → PSB X W S0 H0 own H D (f ρ) → ts D σ H
section
variable {X : Cx} {W : WX} {S0 : Addr → Prop} {H0 : Hp} {rm : Md} {own own' : List Addr} {H H' : Hp} {k l j i : Nat} {c x y : Str} {G : List D → MO} {p px pos pos' pos2 : Pos} {e : Expr} {es : List Expr} {st : Stmt} {sts : List Stmt} {fa : Rho → M (List D)} {f : Rho → Res} {g : Rho → MB}
theorem PSB.weak {D : Ends} {r : MB} (h : PSB X W S0 H0 own H D r) (f : Fra own H own' H') : PSB X W S0 H0 own' H' D r := by
  cases r with
  | ok c ns ds => exact fun p o2 H2 a b => h p o2 H2 a (f.trans b)
  | okp p c ns ds => exact fun o2 H2 a b => h o2 H2 a (f.trans b)
  | ex c ρ => exact fun cv d σ' o2 H2 i a b => h cv d σ' o2 H2 i a (f.trans b)
  | er => exact h
end
/-! ### such a def -/
def PFB (mg : Str → Option Value) (K : PySem.W.Frag) (H : Hp) (Q : VK) (E : XK) : MB → Prop
  | .ok c ns ds => ∀ p own' H', Mad K H p own' H' c ns ds → Q (.ref p) H'
  | .ex c _ => ∀ cv d H', IsCls mg c cv d → Same H H' → E cv d H'
  | _ => False
def spB (mg : Str → Option Value) (K : PySem.W.Frag) (q : List D → MB) : Sp := fun vs H Q E => ∃ ds, RpA K (fun _ => True) H vs ds ∧ PFB mg K H Q E (q ds)
section
variable {P : Program} {w : World} {K : PySem.W.Frag} {mg : Str → Option Value} {base : Heap}
end
/-- a def that makes an object -/
structure CalB (P : Program) (w : World) (K : PySem.W.Frag) (mg : Str → Option Value) (base : Heap) (k : Nat) (x : Str) (q : List D → MB) : Prop where
  p : ∃ (f : Addr) (fd : FuncData) (ps : List Str), FnOk P w K mg base (L2.CX P w) k f fd ps (spB mg K q) ∧ mg x = some (.ref f) ∧ PySem.W.keepIn K (.ref f) = true ∧ Binds K fd ps []
section
variable {X : Cx} {W : WX} {S0 : Addr → Prop} {H0 : Hp} {rm : Md} {k l j : Nat} {x y : Str} {q : List D → MB} {p pos pos' pos2 : Pos} {e : Expr} {es : List Expr} {sts : List Stmt} {fa : Rho → M (List D)} {g : Rho → Res}
end
end VL
set_option Elab.async false
set_option linter.all false
set_option maxRecDepth 100000
/-! VO20: methods that give parts of what they are handed; unpacking of lists; return over a changing call. -/
namespace VL
open PySem L2 PySem.Spec PyProof.Rows
def PFF (mg : Str → Option Value) (K : PySem.W.Frag) (S1 : Addr → Prop) (H : Hp) (Q : VK) (E : XK) : M D → Prop
  | .ok d => ∀ v H', Same H H' → Rp K (fun a => S1 a ∨ H a = none) H' v d → Q v H'
  | .ex c => ∀ cv d H', IsCls mg c cv d → Same H H' → E cv d H'
  | .er => False
def spNF (mg : Str → Option Value) (K : PySem.W.Frag) (g : List D → M D) : Sp := fun vs H Q E => ∃ (v0 : V) (ws : List V) (d0 : D) (ds : List D) (S1 : Addr → Prop), vs = v0 :: ws ∧ Rp K (fun _ => True) H v0 d0 ∧ RpA K S1 H ws ds ∧ PFF mg K S1 H Q E (g (d0 :: ds))
section
variable {P : Program} {w : World} {K : PySem.W.Frag} {mg : Str → Option Value} {base : Heap}
end
structure CalMF (P : Program) (w : World) (K : PySem.W.Frag) (mg : Str → Option Value) (base : Heap) (k : Nat) (c m : Str) (g : List D → M D) : Prop where
  p : ∃ (C f : Addr) (fd : FuncData) (ps : List Str), ClsAt K c C ∧ Cls K C ∧ Meth K C m f ∧ FnOk P w K mg base (L2.CX P w) k f fd ps (spNF mg K g) ∧ Binds K fd ps []
section
variable {X : Cx} {W : WX} {S0 : Addr → Prop} {H0 : Hp} {mo rm : Md} {pos apos : Pos} {o e : Expr} {es : List Expr} {fo fe : Rho → M D} {fa : Rho → M (List D)} {c m : Str} {j k : Nat} {g : List D → M D} {fm : Rho → MR}
/-! ### unpacking of a list -/
/-! ### return e, e changes an object, the state left behind -/
def sRetM (f : Rho → MR) : Rho → Res := fun ρ => match f ρ with
  | .ok d _ => .rt d
  | .ex c ρ' => .ex c ρ'
  | .er => .er
theorem vs_retM (h : VXM X W S0 H0 e fm) : VS X W S0 H0 .F (.Return (some e) pos) (sRetM fm) := by
  obtain ⟨te, p, q⟩ := h.p
  refine ⟨_, ps_ret p, fun ρ σ own H D R k => q ρ σ own H _ R ?_⟩
  unfold sRetM at k
  revert k
  cases fm ρ with
  | er => exact id
  | ex c ρ' => exact fun k cv d own' H' i a b => k cv d σ own' H' i a b
  | ok d ρ' => exact fun k v own' H' a b r => k v own' H' r b
end
end VL
set_option Elab.async false
set_option linter.all false
set_option maxRecDepth 100000
/-! VO21: a part of new data; facts of classes by the names of the kit. -/
namespace VL
open PySem L2 PySem.Spec PyProof.Rows
section
variable {X : Cx} {W : WX} {S0 : Addr → Prop} {H0 : Hp} {mb : Md} {pos : Pos} {a b : Expr} {fa fb : Rho → M D}
end
theorem noF_mk {K : PySem.W.Frag} {c f : Str} {C : Addr} (h : ClsAt K c C) (n : NoAttr K C f) : NoF K c f := fun D g => by
  cases h.one g
  exact n
end VL
set_option Elab.async false
set_option linter.all false
set_option maxRecDepth 100000
/-! VO22: max, min of one list or tuple of whole numbers. -/
namespace VL
open PySem L2 PySem.Spec PyProof.Rows
section
variable {X : Cx}
variable {W : WX} {S0 : Addr → Prop} {H0 : Hp} {m : Md}
end
end VL
set_option Elab.async false
set_option linter.all false
set_option maxRecDepth 100000
/-! VO23: a list of one's own is walked by an expression that gives new data: it stays one's own. -/
namespace VL
open PySem L2 PySem.Spec PyProof.Rows
section
variable {X : Cx} {W : WX} {S0 : Addr → Prop} {H0 : Hp} {e : Expr} {f : Rho → M D} {t : Rho → M Bool}
def eSh (i : Nat) (f : Rho → M D) : Rho → M D := fun ρ => f (shareR i ρ)
end
end VL
set_option Elab.async false
set_option linter.all false
set_option maxRecDepth 100000
/-! VO24: defs that look at an object and give parts of what else they are handed. -/
namespace VL
open PySem L2 PySem.Spec PyProof.Rows
structure CalNF (P : Program) (w : World) (K : PySem.W.Frag) (mg : Str → Option Value) (base : Heap) (k : Nat) (x : Str) (g : List D → M D) : Prop where
  p : ∃ (f : Addr) (fd : FuncData) (ps : List Str), FnOk P w K mg base (L2.CX P w) k f fd ps (spNF mg K g) ∧ mg x = some (.ref f) ∧ PySem.W.keepIn K (.ref f) = true ∧ Binds K fd ps []
section
variable {X : Cx} {W : WX} {S0 : Addr → Prop} {H0 : Hp} {mo : Md} {pos p : Pos} {e : Expr} {es : List Expr} {fo : Rho → M D} {fa : Rho → M (List D)} {x : Str} {j k : Nat} {g : List D → M D}
end
end VL
set_option Elab.async false
set_option linter.all false
set_option maxRecDepth 100000
/-! VO25: a choice between expressions that change an object. -/
namespace VL
open PySem L2 PySem.Spec PyProof.Rows
section
variable {X : Cx} {W : WX} {S0 : Addr → Prop} {H0 : Hp} {pos : Pos} {c a b : Expr} {fc : Rho → M Bool} {fa fb : Rho → MR}
end
end VL
set_option Elab.async false
set_option linter.all false
set_option maxRecDepth 100000
/-! VO26: lists that are handed to a def that changes them: pinned at their place. -/
namespace VL
open PySem L2 PySem.Spec PyProof.Rows
section
variable {X : Cx} {W : WX} {S0 : Addr → Prop} {H0 : Hp} {rm m mi mb : Md} {pos apos cpos pos' : Pos} {e ei : Expr} {es : List Expr} {fe fi : Rho → M D} {fa : Rho → M (List D)}
end
end VL
set_option Elab.async false
set_option linter.all false
set_option maxRecDepth 100000
/-! VO27: defs that change several of the things that they are handed. -/
namespace VL
open PySem L2 PySem.Spec PyProof.Rows
def pinA : D → Option Addr
  | .obj p _ _ _ => some p
  | .pls p _ => some p
  | _ => none
inductive ML where
  | ok (d : D) (os : List D) | ex (c : Xc) (os : List D) | er
def putP : List (Option Nat) → List D → Rho → Rho
  | some i :: as, o :: os, ρ => putP as os (ρ.set i (.ow o))
  | none :: as, _ :: os, ρ => putP as os ρ
  | _, _, ρ => ρ
/-- what is handed: to each argument the caller's slot, where it is the caller's own -/
structure ArgsP (K : PySem.W.Frag) (S0 : Addr → Prop) (H0 : Hp) (own : List Addr) (ρ : Rho) (σ : Sg) (H : Hp) (as : List (Option Nat)) (vs : List V) (ds : List D) : Prop where
  l1 : vs.length = as.length
  l2 : ds.length = as.length
  sh : ∀ (j : Nat) (v : V) (d : D), as[j]? = some none → vs[j]? = some v → ds[j]? = some d → Rp K (SA S0 H0 own) H v d
  ow : ∀ (j i : Nat) (d : D), as[j]? = some (some i) → ds[j]? = some d → ∃ p, vs[j]? = some (.ref p) ∧ pinA d = some p ∧ ρ[i]? = some (.ow d) ∧ σ[i]? = some (some (.ref p))
  inj : ∀ (j k i : Nat), as[j]? = some (some i) → as[k]? = some (some i) → j = k
section
variable {K : PySem.W.Frag} {S0 : Addr → Prop} {H0 H H' : Hp} {ρ ρ' : Rho} {σ σ' : Sg} {own own' : List Addr} {as : List (Option Nat)} {vs : List V} {ds os : List D}
end
end VL
set_option Elab.async false
set_option linter.all false
set_option maxRecDepth 100000
/-! VO28: the contract of such defs, and their calls. -/
namespace VL
open PySem L2 PySem.Spec PyProof.Rows
def PXP (mg : Str → Option Value) (K : PySem.W.Frag) (S0 : Addr → Prop) (H0 : Hp) (ρ : Rho) (σ : Sg) (own : List Addr) (H : Hp) (as : List (Option Nat)) (Q : VK) (E : XK) : ML → Prop
  | .ok d os => ∀ v own' H', Rel K S0 H0 (putP as os ρ) σ own' H' → Fra own H own' H' → Rp K (SF H0 own') H' v d → Q v H'
  | .ex c os => ∀ cv dd own' H', IsCls mg c cv dd → Rel K S0 H0 (putP as os ρ) σ own' H' → Fra own H own' H' → E cv dd H'
  | .er => False
def spP (mg : Str → Option Value) (K : PySem.W.Frag) (ks : List Bool) (G : List D → ML) : Sp := fun vs H Q E => ∃ (S0 : Addr → Prop) (H0 : Hp) (ρ : Rho) (σ : Sg) (own : List Addr) (as : List (Option Nat)) (ds : List D),
  as.map Option.isSome = ks ∧ Rel K S0 H0 ρ σ own H ∧ ArgsP K S0 H0 own ρ σ H as vs ds ∧ PXP mg K S0 H0 ρ σ own H as Q E (G ds)
section
variable {P : Program} {w : World} {K : PySem.W.Frag} {mg : Str → Option Value} {base : Heap}
end
/-! ### the arguments of a call -/
structure ArgsQ (K : PySem.W.Frag) (S0 : Addr → Prop) (H0 : Hp) (own : List Addr) (ρ : Rho) (σ : Sg) (H : Hp) (as : List (Option Nat)) (vs : List V) (ds : List D) : Prop where
  l1 : vs.length = as.length
  l2 : ds.length = as.length
  sh : ∀ (j : Nat) (v : V) (d : D), as[j]? = some none → vs[j]? = some v → ds[j]? = some d → Rp K (SA S0 H0 own) H v d
  ow : ∀ (j i : Nat) (d : D), as[j]? = some (some i) → ds[j]? = some d → ∃ p, vs[j]? = some (.ref p) ∧ pinA d = some p ∧ ρ[i]? = some (.ow d) ∧ σ[i]? = some (some (.ref p))
structure VAP (X : Cx) (W : WX) (S0 : Addr → Prop) (H0 : Hp) (as : List (Option Nat)) (es : List Expr) (f : Rho → M (List D)) : Prop where
  p : ∃ te, PA X es te ∧ ∀ ρ σ own H (Q : List V → Hp → Prop), Rel X.K S0 H0 ρ σ own H → (match f ρ with
    | .ok ds => ∀ vs H', Same H H' → ArgsQ X.K S0 H0 own ρ σ H' as vs ds → Q vs H'
    | .ex c => ∀ cv d H', IsCls X.mg c cv d → Same H H' → W cv d σ H'
    | .er => False) → te σ H Q
structure CalP (P : Program) (w : World) (K : PySem.W.Frag) (mg : Str → Option Value) (base : Heap) (k : Nat) (x : Str) (ks : List Bool) (G : List D → ML) : Prop where
  p : ∃ (f : Addr) (fd : FuncData) (ps : List Str), FnOk P w K mg base (L2.CX P w) k f fd ps (spP mg K ks G) ∧ mg x = some (.ref f) ∧ PySem.W.keepIn K (.ref f) = true ∧ Binds K fd ps []
section
variable {X : Cx} {W : WX} {S0 : Addr → Prop} {H0 : Hp} {m : Md} {pos p px : Pos} {e : Expr} {es : List Expr} {f : Rho → M D} {g fa : Rho → M (List D)} {as : List (Option Nat)} {x y : Str} {i j k : Nat} {G : List D → ML} {ks : List Bool}
end
end VL
set_option Elab.async false
set_option linter.all false
set_option maxRecDepth 100000
/-! VO29: a list of one's own is pinned while a statement hands it on. -/
namespace VL
open PySem L2 PySem.Spec PyProof.Rows
open Classical in
noncomputable def allA (f : Addr → Res) : Res := if ∀ p, f p = f 0 then f 0 else .er
theorem allA_eq {f : Addr → Res} {r : Res} (h : ∀ p, f p = r) : allA f = r := by
  unfold allA
  rw [if_pos fun p => by rw [h p, h 0], h 0]
section
variable {X : Cx} {W : WX} {S0 : Addr → Prop} {H0 : Hp} {rm : Md} {st : Stmt} {F : Rho → Res} {i : Nat}
end
end VL
set_option Elab.async false
set_option linter.all false
set_option maxRecDepth 100000
/-! VO30: a list that no other data can hold, by its items, becomes one's own. -/
namespace VL
open PySem L2 PySem.Spec PyProof.Rows
mutual
/-- data that no one value is -/
def clash : D → D → Bool
  | .tup xs, .tup ys => !decide (xs.length = ys.length) || clashA xs ys
  | .int _, .tup _ => true
  | .tup _, .int _ => true
  | .str _, .tup _ => true
  | .tup _, .str _ => true
  | .int _, .str _ => true
  | .str _, .int _ => true
  | _, _ => false
def clashA : List D → List D → Bool
  | x :: xs, y :: ys => clash x y || clashA xs ys
  | _, _ => false
end
mutual
/-- d holds no list that could have the items es -/
def noL (es : List D) : D → Bool
  | .lst ds => (!decide (ds.length = es.length) || clashA ds es) && noLA es ds
  | .pls _ ds => (!decide (ds.length = es.length) || clashA ds es) && noLA es ds
  | .tup ds => noLA es ds
  | .kt ds => noLA es ds
  | .fz ds => noLA es ds
  | .obj _ _ _ ds => noLA es ds
  | .dct kvs => noLT es kvs
  | .dk kvs => noLK es kvs
  | _ => true
def noLA (es : List D) : List D → Bool
  | [] => true
  | d :: ds => noL es d && noLA es ds
def noLT (es : List D) : List (List Key × D) → Bool
  | [] => true
  | d :: ds => noL es d.2 && noLT es ds
def noLK (es : List D) : List (Key × D) → Bool
  | [] => true
  | d :: ds => noL es d.2 && noLK es ds
end
section
variable {K : PySem.W.Frag} {S S' : Addr → Prop} {H : Hp} {a : Addr} {xs : List V} {es : List D}
mutual
theorem clash_no : ∀ {d e : D} {v : V}, Rp K S H v d → Rp K S' H v e → clash d e = true → False
  | .tup ds, e, _, .tup h r, r2, c => by
    cases e with
    | tup es =>
      cases r2 with
      | tup h2 r3 =>
        rw [h] at h2
        cases h2
        simp only [clash, Bool.or_eq_true, Bool.not_eq_true', decide_eq_false_iff_not] at c
        rcases c with c | c
        · exact c (by rw [← r.length, ← r3.length])
        · exact clashA_no r r3 c
    | int i => cases r2
    | str x => cases r2
    | _ => simp [clash] at c
  | .int i, e, _, .int _, r2, c => by
    cases e with
    | tup es => cases r2
    | str x => cases r2
    | _ => simp [clash] at c
  | .str x, e, _, .str _, r2, c => by
    cases e with
    | tup es => cases r2
    | int i => cases r2
    | _ => simp [clash] at c
  | .non, _, _, _, _, c => by simp [clash] at c
  | .bl _, _, _, _, _, c => by simp [clash] at c
  | .kt _, _, _, _, _, c => by simp [clash] at c
  | .lst _, _, _, _, _, c => by simp [clash] at c
  | .fz _, _, _, _, _, c => by simp [clash] at c
  | .dct _, _, _, _, _, c => by simp [clash] at c
  | .dk _, _, _, _, _, c => by simp [clash] at c
  | .obj _ _ _ _, _, _, _, _, c => by simp [clash] at c
  | .pls _ _, _, _, _, _, c => by simp [clash] at c
  | .raw _, _, _, _, _, c => by simp [clash] at c
theorem clashA_no : ∀ {ds es : List D} {vs : List V}, RpA K S H vs ds → RpA K S' H vs es → clashA ds es = true → False
  | [], _, _, _, _, c => by simp [clashA] at c
  | d :: ds, [], _, _, _, c => by simp [clashA] at c
  | d :: ds, e :: es, _, .cons h r, .cons h2 r2, c => by
    simp only [clashA, Bool.or_eq_true] at c
    rcases c with c | c
    · exact clash_no h h2 c
    · exact clashA_no r r2 c
end
theorem no_alias {ds : List D} {b : Addr} {ys : List V} (ha : H a = some (.lst xs)) (hx : RpA K S' H xs es) (hb : H b = some (.lst ys)) (r : RpA K S H ys ds) (c : (!decide (ds.length = es.length) || clashA ds es) = true) : b ≠ a := fun e => by
  subst e
  rw [ha] at hb
  cases hb
  simp only [Bool.or_eq_true, Bool.not_eq_true', decide_eq_false_iff_not] at c
  rcases c with c | c
  · exact c (by rw [← r.length, ← hx.length])
  · exact clashA_no r hx c
mutual
theorem Rp.out (ha : H a = some (.lst xs)) (hx : RpA K S' H xs es) : ∀ {v : V} {d : D}, Rp K S H v d → noL es d = true → Rp K (fun b => b ≠ a ∧ S b) H v d
  | _, _, .non, _ => .non
  | _, _, .bl b, _ => .bl b
  | _, _, .int i, _ => .int i
  | _, _, .str x, _ => .str x
  | _, _, .tup h r, c => .tup h (RpA.out ha hx r (by simpa [noL] using c))
  | _, _, .kt h r, c => .kt h (RpA.out ha hx r (by simpa [noL] using c))
  | _, _, .lst s h r, c => by
    simp only [noL, Bool.and_eq_true] at c
    exact .lst ⟨no_alias ha hx h r c.1, s⟩ h (RpA.out ha hx r c.2)
  | _, _, .fz h r, c => .fz h (RpA.out ha hx r (by simpa [noL] using c))
  | _, _, .dct s h r, c => .dct ⟨(fun e => by rw [e, ha] at h; cases h), s⟩ h (RpT.out ha hx r (by simpa [noL] using c))
  | _, _, .dk s h r, c => .dk ⟨(fun e => by rw [e, ha] at h; cases h), s⟩ h (RpK.out ha hx r (by simpa [noL] using c))
  | _, _, .obj s h k n x r, c => .obj ⟨(fun e => by rw [e, ha] at h; cases h), s⟩ h k n x (RpA.out ha hx r (by simpa [noL] using c))
  | _, _, .raw a, _ => .raw a
  | _, _, .pls s h r, c => by
    simp only [noL, Bool.and_eq_true] at c
    exact .pls ⟨no_alias ha hx h r c.1, s⟩ h (RpA.out ha hx r c.2)
theorem RpA.out (ha : H a = some (.lst xs)) (hx : RpA K S' H xs es) : ∀ {v : List V} {d : List D}, RpA K S H v d → noLA es d = true → RpA K (fun b => b ≠ a ∧ S b) H v d
  | _, _, .nil, _ => .nil
  | _, _, .cons h r, c => by
    simp only [noLA, Bool.and_eq_true] at c
    exact .cons (Rp.out ha hx h c.1) (RpA.out ha hx r c.2)
theorem RpT.out (ha : H a = some (.lst xs)) (hx : RpA K S' H xs es) : ∀ {v : List (List Key × V)} {d : List (List Key × D)}, RpT K S H v d → noLT es d = true → RpT K (fun b => b ≠ a ∧ S b) H v d
  | _, _, .nil, _ => .nil
  | _, _, .cons h r, c => by
    simp only [noLT, Bool.and_eq_true] at c
    exact .cons (Rp.out ha hx h c.1) (RpT.out ha hx r c.2)
theorem RpK.out (ha : H a = some (.lst xs)) (hx : RpA K S' H xs es) : ∀ {v : List (Key × V)} {d : List (Key × D)}, RpK K S H v d → noLK es d = true → RpK K (fun b => b ≠ a ∧ S b) H v d
  | _, _, .nil, _ => .nil
  | _, _, .cons h r, c => by
    simp only [noLK, Bool.and_eq_true] at c
    exact .cons (Rp.out ha hx h c.1) (RpK.out ha hx r c.2)
end
end
end VL
set_option Elab.async false
set_option linter.all false
set_option maxRecDepth 100000
/-! VO31: defs that give a pair whose second is a list of their own. -/
namespace VL
open PySem L2 PySem.Spec PyProof.Rows
inductive MU where
  | ok (d : D) (es : List D) | ex (c : Xc) (ρ : Rho) | er
section
variable (X : Cx) (W : WX) (S0 : Addr → Prop) (H0 : Hp) (own : List Addr) (H : Hp)
def PSU (D : Ends) : MU → Prop
  | .ok d1 es => ∀ t v1 a xs own' H', H' t = some (.tup [v1, .ref a]) → a ∈ own' → H0 a = none → H' a = some (.lst xs) → Rp X.K (SA S0 H0 own') H' v1 d1 → RpA X.K (SF H0 own') H' xs es → Fra own H own' H' → D.rt (.ref t) H'
  | .ex c ρ' => ∀ cv d σ' own' H', IsCls X.mg c cv d → Rel X.K S0 H0 ρ' σ' own' H' → Fra own H own' H' → W cv d σ' H'
  | .er => False
end
structure VSU (X : Cx) (W : WX) (S0 : Addr → Prop) (H0 : Hp) (sts : List Stmt) (f : Rho → MU) : Prop where
  p : ∃ ts, PSs X sts ts ∧ ∀ ρ σ own H D, Rel X.K S0 H0 ρ σ own H → PSU X W S0 H0 own H D (f ρ) → ts D σ H
section
variable {X : Cx} {W : WX} {S0 : Addr → Prop} {H0 : Hp} {rm : Md} {own own' : List Addr} {H H' : Hp} {i j k l : Nat} {x y : Str} {p px pos pos' pos2 : Pos} {e : Expr} {es : List Expr} {st : Stmt} {sts : List Stmt} {fa : Rho → M (List D)} {f : Rho → Res} {g : Rho → MU}
theorem PSU.weak {D : Ends} {r : MU} (h : PSU X W S0 H0 own H D r) (f : Fra own H own' H') : PSU X W S0 H0 own' H' D r := by
  cases r with
  | ok d es => exact fun t v1 a xs o2 H2 a1 a2 a3 a4 a5 a6 b => h t v1 a xs o2 H2 a1 a2 a3 a4 a5 a6 (f.trans b)
  | ex c ρ => exact fun cv d σ' o2 H2 i a b => h cv d σ' o2 H2 i a (f.trans b)
  | er => exact h
end
def PFU (mg : Str → Option Value) (K : PySem.W.Frag) (S : Addr → Prop) (H : Hp) (Q : VK) (E : XK) : MU → Prop
  | .ok d1 es => ∀ t v1 a xs H', Same H H' → H' t = some (.tup [v1, .ref a]) → H a = none → H' a = some (.lst xs) → Rp K (fun b => b ≠ a ∧ (S b ∨ H b = none)) H' v1 d1 → RpA K (fun b => b ≠ a ∧ H b = none) H' xs es → Q (.ref t) H'
  | .ex c _ => ∀ cv d H', IsCls mg c cv d → Same H H' → E cv d H'
  | .er => False
def spU (mg : Str → Option Value) (K : PySem.W.Frag) (q : List D → MU) : Sp := fun vs H Q E => ∃ (ds : List D) (S : Addr → Prop), RpA K S H vs ds ∧ PFU mg K S H Q E (q ds)
section
variable {P : Program} {w : World} {K : PySem.W.Frag} {mg : Str → Option Value} {base : Heap}
end
structure CalU (P : Program) (w : World) (K : PySem.W.Frag) (mg : Str → Option Value) (base : Heap) (k : Nat) (x : Str) (q : List D → MU) : Prop where
  p : ∃ (f : Addr) (fd : FuncData) (ps : List Str), FnOk P w K mg base (L2.CX P w) k f fd ps (spU mg K q) ∧ mg x = some (.ref f) ∧ PySem.W.keepIn K (.ref f) = true ∧ Binds K fd ps []
section
variable {X : Cx} {W : WX} {S0 : Addr → Prop} {H0 : Hp} {rm : Md} {i j k l : Nat} {x y z : Str} {q : List D → MU} {p px py pos pos2 post : Pos} {e : Expr} {es : List Expr} {fa : Rho → M (List D)}
end
end VL
set_option Elab.async false
set_option linter.all false
set_option maxRecDepth 100000
/-! VO32: blocks: what is made in a block is changed at its end (lists are cleared) and forgotten; all that stood ahead of it stands. -/
namespace VL
open PySem L2 PySem.Spec PyProof.Rows
def PK (X : Cx) (S0 : Addr → Prop) (H0 : Hp) (ks : List Nat) (own : List Addr) (H : Hp) (σ : Sg) (D : Ends) : Res → Prop
  | .nx ρ' => ∀ σ' own' H', OnlyS ks σ σ' → Rel X.K S0 H0 ρ' σ' own' H' → Fra own H own' H' → D.nx σ' H'
  | .rt d => lf d = true ∧ ∀ v own' H', Rp X.K (fun _ => False) H' v d → Fra own H own' H' → D.rt v H'
  | _ => False
/-- a statement that stores at the slots ks alone -/
structure VK1 (X : Cx) (W : WX) (S0 : Addr → Prop) (H0 : Hp) (ks : List Nat) (st : Stmt) (f : Rho → Res) : Prop where
  p : ∃ ts, PS X st ts ∧ ∀ ρ σ own H D, Rel X.K S0 H0 ρ σ own H → PK X S0 H0 ks own H σ D (f ρ) → ts D σ H
theorem OnlyS.refl {ks : List Nat} {σ : Sg} : OnlyS ks σ σ := ⟨rfl, fun _ _ => rfl⟩
theorem OnlyS.set {ks : List Nat} {σ : Sg} {i : Nat} {v : Option V} (h : i ∈ ks) : OnlyS ks σ (σ.set i v) := ⟨by simp, fun j hj => List.getElem?_set_ne fun (z : i = j) => hj (z ▸ h)⟩
theorem OnlyS.trans {ks : List Nat} {a b c : Sg} (h : OnlyS ks a b) (g : OnlyS ks b c) : OnlyS ks a c := ⟨g.1.trans h.1, fun j hj => (g.2 j hj).trans (h.2 j hj)⟩
section
variable {X : Cx} {W : WX} {S0 : Addr → Prop} {H0 : Hp} {rm m : Md} {ks : List Nat} {pos pos' p2 apos cpos : Pos} {e t : Expr} {es : List Expr} {rs sts rest : List Stmt} {st : Stmt} {fe : Rho → M D} {fa : Rho → M (List D)} {ft : Rho → M Bool} {f g fr : Rho → Res} {i j : Nat} {x y : Str}
theorem vk_fr (hm : i ∈ ks) (hN : X.N.Nodup) (h : VX X W S0 H0 .F e fe) (hi : X.N[i]? = some x := by rfl) (hx : Loc X.env.scope x := by first | exact Or.inl rfl | exact Or.inr rfl) (hs : swapsWith e (some (.Name x pos')) pos.line X.env = pure false := by rfl)
    (hf : X.fn x = true ∨ X.env.scope.names.lookup x = some .local := by first | exact .inl rfl | exact .inr rfl) : VK1 X W S0 H0 ks (.Assign [.Name x pos'] e pos) (sFr i fe) := by
  obtain ⟨tc, pc, qc⟩ := h.p
  refine ⟨_, ps_set hN hi hx pc hs hf, fun ρ σ own H D R k => qc ρ σ own H _ R ?_⟩
  unfold sFr at k
  revert k
  cases fe ρ with
  | er => exact fun k => k.elim
  | ex c => exact fun k => k.elim
  | ok x => exact fun k v H' s r => k _ own H' (.set hm) ((R.grow s).setFr r) (.same s)
theorem vk_if {pos : Pos} (hc : VT X W S0 H0 t ft) (ha : VSs X W S0 H0 .F rs fr) (hnx : ∀ ρ, match fr ρ with | .rt _ => True | .er => True | _ => False) : VK1 X W S0 H0 ks (.If t rs [] pos) (sIf ft fr sNil) := by
  obtain ⟨tc, pc, qc⟩ := hc.p
  obtain ⟨ta, pa, qa⟩ := ha.p
  refine ⟨_, ps_if pc pa pss_nil, fun ρ σ own H D R k => qc ρ σ own H _ R ?_⟩
  unfold sIf at k
  revert k
  cases ft ρ with
  | er => exact fun k => k.elim
  | ex c => exact fun k => k.elim
  | ok b =>
    intro k H' s
    rw [ofMB_ok] at k
    cases b with
    | false =>
      rw [if_neg Bool.false_ne_true] at k
      exact k σ own H' .refl (R.grow s) (.same s)
    | true =>
      rw [if_pos rfl] at k
      refine qa ρ σ own H' D (R.grow s) ?_
      have hn := hnx ρ
      revert k hn
      cases fr ρ with
      | rt d => exact fun k _ v o' H2 r F => k.2 v o' H2 (Rp.lf r k.1) ((Fra.same s).trans F)
      | er => exact fun k => k.elim
      | nx ρ' => exact fun _ hn => hn.elim
      | bk ρ' => exact fun _ hn => hn.elim
      | ct ρ' => exact fun _ hn => hn.elim
      | ex c ρ' => exact fun _ hn => hn.elim
      | rs d ρ' => exact fun _ hn => hn.elim
end
theorem ps_any {X : Cx} {st : Stmt} {ι : Type} {ts : ι → TS} (h : ∀ i, PS X st (ts i)) : PS X st (fun D σ H => ∃ i, ts i D σ H) := ⟨fun pins s σ H D I ⟨i, k⟩ => (h i).run pins s σ H D I k⟩
/-- a list that is new since Hs -/
def Wl (Hs H : Hp) (v : V) : Prop := ∃ a xs, v = .ref a ∧ Hs a = none ∧ H a = some (.lst xs)
theorem Wl.step {Hs H : Hp} {v : V} {b : Addr} {ys : List V} (h : Wl Hs H v) : Wl Hs (upd H b (.lst ys)) v := by
  obtain ⟨a, xs, h1, h2, h3⟩ := h
  by_cases e : a = b
  · subst e
    exact ⟨a, ys, h1, h2, upd_same⟩
  · exact ⟨a, xs, h1, h2, by rw [upd_ne e]; exact h3⟩
/-- the rest of a block -/
structure VB (X : Cx) (W : WX) (S0 : Addr → Prop) (H0 : Hp) (rm : Md) (ks : List Nat) (sts : List Stmt) (Φ : Rho → Rho → Res) : Prop where
  p : ∃ ts, PSs X sts ts ∧ ∀ ρ σs own Hs ρi σ owni H D, Rel X.K S0 H0 ρ σs own Hs → Rel X.K (fun _ => True) Hs ρi σ owni H → OnlyS ks σs σ → PSt X W S0 H0 rm own Hs D (Φ ρ ρi) → ts D σ H
/-- its end: lists are cleared; then what follows -/
structure VE (X : Cx) (W : WX) (S0 : Addr → Prop) (H0 : Hp) (rm : Md) (ks ls : List Nat) (sts : List Stmt) (g : Rho → Res) : Prop where
  p : ∃ ts, PSs X sts ts ∧ ∀ ρ σs own Hs σ H D, Rel X.K S0 H0 ρ σs own Hs → Same Hs H → OnlyS ks σs σ → (∀ i, i ∈ ls → ∃ v, σ[i]? = some (some v) ∧ Wl Hs H v) → PSt X W S0 H0 rm own Hs D (g (wipeR ks ρ)) → ts D σ H
def bCons (f : Rho → Res) (Φ : Rho → Rho → Res) : Rho → Rho → Res := fun ρ ρi => match f ρi with
  | .nx ρ' => Φ ρ ρ'
  | .rt d => if lf d = true then .rt d else .er
  | _ => .er
theorem wipe_no : ∀ {ks : List Nat} {ρ : Rho} {i : Nat} {s : Sl}, (wipeR ks ρ)[i]? = some s → s = .no ∨ (i ∉ ks ∧ ρ[i]? = some s)
  | [], ρ, i, s, h => .inr ⟨by simp, h⟩
  | k :: ks, ρ, i, s, h => by
    unfold wipeR at h
    rcases get_set h with ⟨_, z, _⟩ | ⟨z1, z⟩
    · exact .inl z
    · rcases wipe_no z with h | ⟨h1, h2⟩
      · exact .inl h
      · exact .inr ⟨fun hm => (List.mem_cons.mp hm).elim z1 h1, h2⟩
/-- slots forgotten that may have been stored at -/
theorem Rel.only {K : PySem.W.Frag} {S0 : Addr → Prop} {H0 H : Hp} {ρ : Rho} {σ σ' : Sg} {own : List Addr} {ks : List Nat} (R : Rel K S0 H0 ρ σ own H) (h : OnlyS ks σ σ') : Rel K S0 H0 (wipeR ks ρ) σ' own H := by
  have g : ∀ {i : Nat} {s : Sl}, (wipeR ks ρ)[i]? = some s → s ≠ .no → ρ[i]? = some s ∧ σ'[i]? = σ[i]? := fun {i s} e n => by
    rcases wipe_no e with z | ⟨z1, z2⟩
    · exact absurd z n
    · exact ⟨z2, h.2 i z1⟩
  refine ⟨fun i d e => ?_, fun i d e => ?_, fun i d e => ?_, fun i j d e a b q => ?_, fun i d a e1 e2 x hx => ?_, R.own0, R.same, by rw [h.1, R.len, (wipeR_get ks ρ).1]⟩
  · obtain ⟨g1, g2⟩ := g e (fun z => by cases z)
    rw [g2]; exact R.sh i d g1
  · obtain ⟨g1, g2⟩ := g e (fun z => by cases z)
    rw [g2]; exact R.fr i d g1
  · obtain ⟨g1, g2⟩ := g e (fun z => by cases z)
    rw [g2]; exact R.ow i d g1
  · obtain ⟨g1, g2⟩ := g a (fun z => by cases z)
    obtain ⟨g3, g4⟩ := g b (fun z => by cases z)
    rw [g2, g4] at q
    exact R.dis i j d e g1 g3 q
  · obtain ⟨g1, g2⟩ := g e1 (fun z => by cases z)
    rw [g2] at e2
    obtain ⟨h1, h2⟩ := R.sub i d a g1 e2 x hx
    refine ⟨h1, fun j e b f1 f2 => ?_⟩
    obtain ⟨g3, g4⟩ := g f1 (fun z => by cases z)
    rw [g4] at f2
    exact h2 j e b g3 f2
section
variable {X : Cx} {W : WX} {S0 : Addr → Prop} {H0 : Hp} {rm m : Md} {ks ls : List Nat} {pos pos' p2 apos cpos px : Pos} {sts rest : List Stmt} {st : Stmt} {f g : Rho → Res} {Φ : Rho → Rho → Res} {i j : Nat} {x y : Str}
theorem vb_cons (h1 : ∀ S1 H1, VK1 X W S1 H1 ks st f) (h : VB X W S0 H0 rm ks sts Φ) : VB X W S0 H0 rm ks (st :: sts) (bCons f Φ) := by
  obtain ⟨t, p, q⟩ := h.p
  refine ⟨_, pss_cons (ps_any fun i : (Addr → Prop) × Hp => (h1 i.1 i.2).p.choose_spec.1) p, fun ρ σs own Hs ρi σ owni H D R Ri o k => ⟨(fun _ => True, Hs), (h1 (fun _ => True) Hs).p.choose_spec.2 ρi σ owni H _ Ri ?_⟩⟩
  unfold bCons at k
  revert k
  cases f ρi with
  | nx ρ' => exact fun k σ' o' H' os R' F => q ρ σs own Hs ρ' σ' o' H' D R R' (o.trans os) k
  | rt d =>
    dsimp only
    intro k
    split at k
    · next hl =>
      refine ⟨hl, fun v o' H' r F => ?_⟩
      have s : Same Hs H' := fun a u e => F.k a u (Ri.same a u e) fun hm => by
        have := (Ri.own0 a hm).1
        rw [e] at this; cases this
      refine k v own H' ?_ (.same s)
      cases rm with
      | O => exact .inl (r.keep (.wide fun _ z => z.elim))
      | E => exact r.keep (.wide fun _ z => z.elim)
      | F => exact r.keep (.wide fun _ z => z.elim)
      | N => exact r.keep (.wide fun _ z => z.elim)
    · exact k.elim
  | er => exact fun k => k.elim
  | bk ρ' => exact fun k => k.elim
  | ct ρ' => exact fun k => k.elim
  | ex c ρ' => exact fun k => k.elim
  | rs d ρ' => exact fun k => k.elim
/-- all that is known, as shared -/
def shAll : Rho → Rho := fun ρ => ρ.map fun s => match s with
  | .sh d => .sh d
  | .fr d => .sh d
  | .ow d => .sh d
  | .no => .no
theorem Own.rpT {K : PySem.W.Frag} {S : Addr → Prop} {H : Hp} {a : Addr} {d : D} (h : Own K S H a d) : Rp K (fun _ => True) H (.ref a) d := by
  have w : ∀ a, S a → True := fun _ _ => trivial
  cases d with
  | lst ds => obtain ⟨xs, e, r⟩ := h; exact .lst trivial e (r.keep (.wide w))
  | dct ds => obtain ⟨xs, e, r⟩ := h; exact .dct trivial e (r.keep (.wide w))
  | dk ds => obtain ⟨xs, e, r⟩ := h; exact .dk trivial e (r.keep (.wide w))
  | obj p c ns ds => exact Own.rp h
  | pls p ds => obtain ⟨e0, xs, e, r⟩ := h; exact .pls trivial e (r.keep (.wide w))
  | non => exact h.elim
  | bl _ => exact h.elim
  | int _ => exact h.elim
  | str _ => exact h.elim
  | tup _ => exact h.elim
  | kt _ => exact h.elim
  | fz _ => exact h.elim
  | raw _ => exact h.elim
theorem Rel.shAll {K : PySem.W.Frag} {ρ : Rho} {σ : Sg} {own : List Addr} {H : Hp} (R : Rel K S0 H0 ρ σ own H) : Rel K (fun _ => True) H (VL.shAll ρ) σ [] H := by
  have g : ∀ {i : Nat} {s : Sl}, (VL.shAll ρ)[i]? = some s → s = .no ∨ ∃ d, s = .sh d ∧ ∃ v, σ[i]? = some (some v) ∧ Rp K (fun _ => True) H v d := fun {i s} e => by
    unfold VL.shAll at e
    rw [List.getElem?_map] at e
    cases h : ρ[i]? with
    | none => rw [h] at e; cases e
    | some u =>
      rw [h] at e
      cases u with
      | no => cases e; exact .inl rfl
      | sh d =>
        cases e
        obtain ⟨v, h1, h2⟩ := R.sh i d h
        exact .inr ⟨d, rfl, v, h1, h2.keep (.wide fun _ _ => trivial)⟩
      | fr d =>
        cases e
        obtain ⟨v, h1, h2⟩ := R.fr i d h
        exact .inr ⟨d, rfl, v, h1, h2.keep (.wide fun _ _ => trivial)⟩
      | ow d =>
        cases e
        obtain ⟨a, h1, h2, h3⟩ := R.ow i d h
        exact .inr ⟨d, rfl, _, h1, h3.rpT⟩
  refine ⟨fun i d e => ?_, fun i d e => ?_, fun i d e => ?_, fun i j d e a b q => ?_, fun i d a e1 _ x _ => ?_, fun a h => by simp at h, Same.refl H, by unfold VL.shAll; rw [List.length_map]; exact R.len⟩
  · rcases g e with z | ⟨d', z, v, h1, h2⟩
    · cases z
    · cases z; exact ⟨v, h1, h2.keep (.wide fun _ _ => ⟨by simp, .inl trivial⟩)⟩
  · rcases g e with z | ⟨d', z, _⟩ <;> cases z
  · rcases g e with z | ⟨d', z, _⟩ <;> cases z
  · rcases g a with z | ⟨d', z, _⟩ <;> cases z
  · rcases g e1 with z | ⟨d', z, _⟩ <;> cases z
def sBlk (Φ : Rho → Rho → Res) : Rho → Res := fun ρ => Φ ρ (shAll ρ)
theorem vss_blk (h : VB X W S0 H0 rm ks sts Φ) : VSs X W S0 H0 rm sts (sBlk Φ) := by
  obtain ⟨t, p, q⟩ := h.p
  exact ⟨t, p, fun ρ σ own H D R k => q ρ σ own H (shAll ρ) σ [] H D R R.shAll .refl k⟩
end
end VL
set_option Elab.async false
set_option linter.all false
set_option maxRecDepth 100000
/-! VO33: a def that makes an object out of the object that it is given first. -/
namespace VL
open PySem L2 PySem.Spec PyProof.Rows
/-! ### x.f = a new list whose items stand -/
structure VXL (X : Cx) (W : WX) (S0 : Addr → Prop) (H0 : Hp) (e : Expr) (f : Rho → M (List D)) : Prop where
  p : ∃ te, PE X e te ∧ ∀ ρ σ own H Q, Rel X.K S0 H0 ρ σ own H → (match f ρ with
    | .ok es => ∀ (v : V) (b : Addr) (xs : List V) (Hm : Hp), Same H Hm → Hm b = none → RpA X.K (SF H0 own) Hm xs es → v = .ref b → Q v (upd Hm b (.lst xs))
    | .ex c => ∀ cv d H', IsCls X.mg c cv d → Same H H' → W cv d σ H'
    | .er => False) → te σ H Q
section
variable {X : Cx} {W : WX} {S0 : Addr → Prop} {H0 : Hp} {rm : Md} {pos px pos' p apos : Pos} {x f c : Str} {i : Nat} {e : Expr} {fe : Rho → M (List D)}
end
/-! ### an object that is one's own already, in a slot -/
/-! ### the body -/
inductive MC where
  | ok (o : D) (c : Str) (ns : List Str) (ds : List D) | okp (p : Addr) (o : D) (c : Str) (ns : List Str) (ds : List D) | ex (c : Xc) (ρ : Rho) | er
section
variable (X : Cx) (W : WX) (S0 : Addr → Prop) (H0 : Hp) (own : List Addr) (H : Hp)
def PSC (D : Ends) : MC → Prop
  | .ok o c ns ds => ∀ p i ρ' σ' own' H', Rel X.K S0 H0 ρ' σ' own' H' → ρ'[(0 : Nat)]? = some (.ow o) → ρ'[i]? = some (.ow (.obj p c ns ds)) → i ≠ 0 → Fra own H own' H' → D.rt (.ref p) H'
  | .okp p o c ns ds => ∀ i ρ' σ' own' H', Rel X.K S0 H0 ρ' σ' own' H' → ρ'[(0 : Nat)]? = some (.ow o) → ρ'[i]? = some (.ow (.obj p c ns ds)) → i ≠ 0 → Fra own H own' H' → D.rt (.ref p) H'
  | .ex c ρ' => ∀ cv d σ' own' H', IsCls X.mg c cv d → Rel X.K S0 H0 ρ' σ' own' H' → Fra own H own' H' → W cv d σ' H'
  | .er => False
end
structure VSC (X : Cx) (W : WX) (S0 : Addr → Prop) (H0 : Hp) (sts : List Stmt) (f : Rho → MC) : Prop where
  p : ∃ ts, PSs X sts ts ∧ ∀ ρ σ own H D, Rel X.K S0 H0 ρ σ own H → PSC X W S0 H0 own H D (f ρ) → ts D σ H
section
variable {X : Cx} {W : WX} {S0 : Addr → Prop} {H0 : Hp} {rm : Md} {own own' : List Addr} {H H' : Hp} {k l j i : Nat} {c x y : Str} {G : List D → MO} {p px pos pos' pos2 : Pos} {e : Expr} {es : List Expr} {st : Stmt} {sts : List Stmt} {fa : Rho → M (List D)} {f : Rho → Res} {g : Rho → MC}
theorem PSC.weak {D : Ends} {r : MC} (h : PSC X W S0 H0 own H D r) (f : Fra own H own' H') : PSC X W S0 H0 own' H' D r := by
  cases r with
  | ok o c ns ds => exact fun p i ρ' σ' o2 H2 a1 a2 a3 a4 b => h p i ρ' σ' o2 H2 a1 a2 a3 a4 (f.trans b)
  | okp p o c ns ds => exact fun i ρ' σ' o2 H2 a1 a2 a3 a4 b => h i ρ' σ' o2 H2 a1 a2 a3 a4 (f.trans b)
  | ex c ρ => exact fun cv d σ' o2 H2 i a b => h cv d σ' o2 H2 i a (f.trans b)
  | er => exact h
end
/-! ### the contract -/
inductive MT2 where
  | ok (o : D) (c : Str) (ns : List Str) (ds : List D) | ex (c : Xc) (o : D) | er
/-- a new object at p beside the one at p0 -/
structure Nw (K : PySem.W.Frag) (S1 : Addr → Prop) (H : Hp) (p0 : Addr) (own' : List Addr) (H' : Hp) (p : Addr) (d : D) : Prop where
  mem : p ∈ own'
  ne : p ≠ p0 ∧ p ∉ sb H' p0
  own : Own K (RO S1 H p0 own') H' p d
  sub : ∀ x, x ∈ sb H' p → x ∈ own' ∧ x ≠ p ∧ x ≠ p0 ∧ x ∉ sb H' p0
def PFT (mg : Str → Option Value) (K : PySem.W.Frag) (S1 : Addr → Prop) (H : Hp) (p0 : Addr) (Q : VK) (E : XK) : MT2 → Prop
  | .ok o c ns ds => ∀ p own' H', CK K S1 H p0 own' H' o → Nw K S1 H p0 own' H' p (.obj p c ns ds) → Q (.ref p) H'
  | .ex c o => ∀ cv dd own' H', IsCls mg c cv dd → CK K S1 H p0 own' H' o → E cv dd H'
  | .er => False
def spT (mg : Str → Option Value) (K : PySem.W.Frag) (G : List D → MT2) : Sp := fun vs H Q E => ∃ (p : Addr) (ws : List V) (d0 : D) (ds : List D) (S1 : Addr → Prop), vs = .ref p :: ws ∧ isObj d0 = true ∧ Own K S1 H p d0 ∧ p ∉ sb H p ∧ (∀ a, S1 a → a ≠ p ∧ a ∉ sb H p) ∧
  (∀ x, x ∈ sb H p → Mt (H x)) ∧ RpA K (fun a => a ≠ p ∧ a ∉ sb H p) H ws ds ∧ PFT mg K S1 H p Q E (G (d0 :: ds))
section
variable {P : Program} {w : World} {K : PySem.W.Frag} {mg : Str → Option Value} {base : Heap}
end
structure CalT (P : Program) (w : World) (K : PySem.W.Frag) (mg : Str → Option Value) (base : Heap) (k : Nat) (x : Str) (G : List D → MT2) : Prop where
  p : ∃ (f : Addr) (fd : FuncData) (ps : List Str), FnOk P w K mg base (L2.CX P w) k f fd ps (spT mg K G) ∧ mg x = some (.ref f) ∧ PySem.W.keepIn K (.ref f) = true ∧ Binds K fd ps []
structure CalMT (P : Program) (w : World) (K : PySem.W.Frag) (mg : Str → Option Value) (base : Heap) (k : Nat) (c m : Str) (G : List D → MT2) : Prop where
  p : ∃ (C f : Addr) (fd : FuncData) (ps : List Str), ClsAt K c C ∧ Cls K C ∧ Meth K C m f ∧ FnOk P w K mg base (L2.CX P w) k f fd ps (spT mg K G) ∧ Binds K fd ps []
end VL
set_option Elab.async false
set_option linter.all false
set_option maxRecDepth 100000
/-! VO34: what is handed on is all that is known, for the time of a call. -/
namespace VL
open PySem L2 PySem.Spec PyProof.Rows
structure VAR (X : Cx) (W : WX) (S0 : Addr → Prop) (H0 : Hp) (i : Option Nat) (es : List Expr) (f : Rho → M (List D)) : Prop where
  p : ∃ ta, PA X es ta ∧ ∀ ρ σ own H (Q : List V → Hp → Prop), Rel X.K S0 H0 ρ σ own H → (match f ρ with
    | .ok ds => ∀ vs H', Same H H' → RpA X.K (fun a => ∀ (k : Nat) (d0 : D) (p : Addr), i = some k → ρ[k]? = some (.ow d0) → σ[k]? = some (some (.ref p)) → a ≠ p ∧ a ∉ sb H' p) H' vs ds → Q vs H'
    | .ex c => ∀ cv d H', IsCls X.mg c cv d → Same H H' → W cv d σ H'
    | .er => False) → ta σ H Q
section
variable {X : Cx} {W : WX} {S0 : Addr → Prop} {H0 : Hp} {es : List Expr} {fa : Rho → M (List D)}
end
section
variable {X : Cx} {W : WX} {S0 : Addr → Prop} {H0 : Hp} {rm : Md} {pos pos' pos2 p px apos : Pos} {e : Expr} {es : List Expr} {sts : List Stmt} {fa : Rho → M (List D)} {x y c m : Str} {i j k l : Nat} {G : List D → MO} {g : Rho → Res}
end
end VL
set_option Elab.async false
set_option linter.all false
set_option maxRecDepth 100000
/-! VO35: makers called; loops whose test changes an object; more of changing calls. -/
namespace VL
open PySem L2 PySem.Spec PyProof.Rows
/-! ### y = x.m(), m makes an object out of x -/
section
variable {X : Cx} {W : WX} {S0 : Addr → Prop} {H0 : Hp} {rm m0 : Md} {k l j i : Nat} {c m x y z : Str} {G : List D → MT2} {p px pos pos' pos2 apos : Pos} {e e2 : Expr} {es : List Expr} {sts body : List Stmt} {fa : Rho → M (List D)} {f f2 : Rho → MR} {g fb : Rho → Res} {q : List D → M D} {fe fe2 : Rho → M D} {ft : Rho → MT}
/-! ### return f(x, args), in a maker -/
/-! ### f(x.m()), the object made is given to f alone -/
/-! ### f(e1, e2), both change an object -/
/-! ### while, the test changes an object -/
/-! ### + of new lists -/
theorem vx_addF (ha : VX X W S0 H0 .F e fe) (hb : VX X W S0 H0 .F e2 fe2) : VX X W S0 H0 .F (.BinOp e .Add e2 pos) (eOp addE fe fe2) := by
  obtain ⟨ta, pa, qa⟩ := ha.p
  obtain ⟨tb, pb, qb⟩ := hb.p
  refine ⟨_, pe_op op_catR pa pb, fun ρ σ own H Q R k => qa ρ σ own H _ R ?_⟩
  unfold eOp at k
  revert k
  cases fe ρ with
  | er => exact id
  | ex c => exact id
  | ok d =>
    intro k v H1 s1 r1
    rw [bind_ok] at k
    refine qb ρ σ own H1 _ (R.grow s1) ?_
    revert k
    cases fe2 ρ with
    | er => exact id
    | ex c => exact fun k cv dd H' ic s => k cv dd H' ic (s1.trans s)
    | ok d2 =>
      intro k w H2 s2 r2
      rw [bind_ok] at k
      unfold addE at k
      split at k
      · next ds es =>
        split at k
        · next hl =>
          have r1' := Rp.keep (.same s2) r1
          cases r1' with
          | lst sa ha1 ra =>
            cases r2 with
            | lst sb' hb1 rb =>
              refine ⟨_, _, _, _, rfl, rfl, .inl ha1, .inl hb1, by rw [ra.length, rb.length]; exact hl, fun p hp => ?_⟩
              have R2 := R.grow (s1.trans s2)
              exact k _ _ ((s1.trans s2).trans (same_upd hp)) (Rp.lst (sf_new R2 hp) upd_same ((ra.append rb).keep (.same (same_upd hp))))
        · exact k.elim
      · exact k.elim
/-! ### is True -/
end
end VL
set_option Elab.async false
set_option linter.all false
set_option maxRecDepth 100000
/-! VO36: isinstance(x, C) of objects; f(C(args)). -/
namespace VL
open PySem L2 PySem.Spec PyProof.Rows
structure InsK (K : PySem.W.Frag) (mg : Str → Option Value) (c : Str) : Prop where
  p : ∃ C, mg c = some (.ref C) ∧ ClsAt K c C ∧ C8.InsC K C
section
variable {X : Cx} {W : WX} {S0 : Addr → Prop} {H0 : Hp} {m : Md} {k l i j : Nat} {c x y : Str} {p px pc pos pos2 : Pos} {e : Expr} {es : List Expr} {G : List D → MO} {q : List D → M D} {fa : Rho → M (List D)}
/-! ### f(C(args)) -/
end
end VL
set_option Elab.async false
set_option linter.all false
set_option maxRecDepth 100000
/-! VO37: lists within a new list are changed, one after the other. -/
namespace VL
open PySem L2 PySem.Spec PyProof.Rows
/-- lists in the list at ax, new since Hs, apart from it -/
def WL (Hs : Hp) (ax : Addr) (xs : List V) (L : Nat) (H : Hp) : Prop :=
  Same Hs H ∧ Hs ax = none ∧ H ax = some (.lst xs) ∧ ∀ v, v ∈ xs → ∃ b ys, v = .ref b ∧ b ≠ ax ∧ Hs b = none ∧ H b = some (.lst ys) ∧ ys.length ≤ L
theorem WL.step {Hs H : Hp} {ax b : Addr} {xs zs : List V} {L L' : Nat} (h : WL Hs ax xs L H) (hb : Hs b = none) (hne : b ≠ ax) (hz : zs.length ≤ L') (hl : L ≤ L') : WL Hs ax xs L' (upd H b (.lst zs)) := by
  obtain ⟨h1, h2, h3, h4⟩ := h
  refine ⟨same_out h1 hb, h2, by rw [upd_ne (Ne.symm hne)]; exact h3, fun v hv => ?_⟩
  obtain ⟨c, ys, e1, e2, e3, e4, e5⟩ := h4 v hv
  by_cases e : c = b
  · subst e
    exact ⟨c, zs, e1, e2, e3, upd_same, hz⟩
  · exact ⟨c, ys, e1, e2, e3, by rw [upd_ne e]; exact e4, Nat.le_trans e5 hl⟩
theorem WL.grow {Hs H H' : Hp} {ax : Addr} {xs : List V} {L : Nat} (h : WL Hs ax xs L H) (s : Same H H') : WL Hs ax xs L H' := by
  obtain ⟨h1, h2, h3, h4⟩ := h
  refine ⟨h1.trans s, h2, s _ _ h3, fun v hv => ?_⟩
  obtain ⟨c, ys, e1, e2, e3, e4, e5⟩ := h4 v hv
  exact ⟨c, ys, e1, e2, e3, s _ _ e4, e5⟩
def nlD : D → Bool
  | .int _ => true
  | .str _ => true
  | .bl _ => true
  | .non => true
  | .tup _ => true
  | _ => false
/-- lists of no lists, none of them long -/
def flatL (ds : List D) : Bool := decide (ds.length ≤ 1000000) && ds.all fun d => match d with
  | .lst es => decide (es.length ≤ 1000000) && es.all nlD
  | _ => false
theorem wl_of {K : PySem.W.Frag} {S : Addr → Prop} {Hs H : Hp} {ax : Addr} {xs : List V} {ds : List D} (hs : Same Hs H) (ha : Hs ax = none) (h : H ax = some (.lst xs)) (hS : ∀ a, S a → Hs a = none) (r : RpA K S H xs ds) (hf : flatL ds = true) : WL Hs ax xs 1000000 H := by
  unfold flatL at hf
  rw [Bool.and_eq_true] at hf
  refine ⟨hs, ha, h, fun v hv => ?_⟩
  obtain ⟨i, hi⟩ := List.mem_iff_getElem?.mp hv
  obtain ⟨d, hd, rd⟩ := r.getV hi
  have hd2 := List.all_eq_true.mp hf.2 d (List.mem_of_getElem? hd)
  cases d with
  | lst es =>
    rw [Bool.and_eq_true, decide_eq_true_eq] at hd2
    cases rd with
    | @lst b ys _ sb hb rb =>
      refine ⟨b, ys, rfl, fun e => ?_, hS b sb, hb, by rw [rb.length]; exact hd2.1⟩
      subst e
      rw [h] at hb
      cases hb
      obtain ⟨e, he, re⟩ := rb.getV hi
      have hn := List.all_eq_true.mp hd2.2 e (List.mem_of_getElem? he)
      cases e with
      | int _ => cases re
      | str _ => cases re
      | bl _ => cases re
      | non => cases re
      | tup _ =>
        cases re with
        | tup h2 _ => rw [h] at h2; cases h2
      | _ => cases hn
  | _ => cases hd2
section
variable {X : Cx} {W : WX} {S0 : Addr → Prop} {H0 : Hp} {rm : Md} {ks : List Nat} {i j : Nat} {x y : Str} {px py p1 p2 a1 a2 c1 c2 q1 q2 q3 r1 r2 pos : Pos} {e t : Expr} {fe : Rho → M D} {ft : Rho → M Bool} {g : Rho → Res} {sts : List Stmt} {n : Int} {z : Str} {k1 k2 : Nat}
/-- for y in x: y.clear(), x made in the block -/
def bAll (ks : List Nat) (i j : Nat) (g : Rho → Res) : Rho → Rho → Res := fun ρ ρi => match ρi[i]? with
  | some (.fr (.lst ds)) => if flatL ds = true ∧ j < ρ.length then g (wipeR ks ρ) else .er
  | _ => .er
theorem vb_all (hp : PassesOwn (model X.prog X.w) X.A X.env X.xe) (hc : X.calm = true) (hNd : X.N.Nodup) (hj : j ∈ ks) (h : VSs X W S0 H0 rm sts g) (hNi : X.N[i]? = some x := by rfl) (hN : X.N[j]? = some y := by rfl)
    (hx : Loc X.env.scope y := by first | exact Or.inl rfl | exact Or.inr rfl) (hfl : X.fn y = true ∨ X.env.scope.names.lookup y = some .local := by first | exact .inl rfl | exact .inr rfl)
    (hvx : Vis X.env.scope x := by first | exact Or.inl rfl | exact Or.inr (Or.inl rfl) | exact Or.inr (Or.inr rfl)) (hdx : (x == ("__debug__" : Str)) = false := by decide) (hcdx : (x == ("__classdict__" : Str)) = false := by decide)
    (hv : Vis X.env.scope y := by first | exact Or.inl rfl | exact Or.inr (Or.inl rfl) | exact Or.inr (Or.inr rfl)) (hd : (y == ("__debug__" : Str)) = false := by decide) (hcd : (y == ("__classdict__" : Str)) = false := by decide)
    (hbase : attributeBase (.Name y p1) "clear" X.env (eval (.Name y p1) X.env) = eval (.Name y p1) X.env := by rfl) (hline : (a1.endLine == c1.line) = true := by rfl)
    (hsw : swapsWith (.Call (.Attribute (.Name y p1) "clear" a1) [] [] c1) none q1.line X.env = pure false := by rfl) (hst : ∀ z, foldedSetIterable (.Name x px) X.env z = pure z := by intro _; rfl) :
    VB X W S0 H0 rm ks (.For (.Name y py) (.Name x px) [.Expr (.Call (.Attribute (.Name y p1) "clear" a1) [] [] c1) q1] [] pos :: sts) (bAll ks i j g) := by
  obtain ⟨t2, p2', q2'⟩ := h.p
  refine ⟨_, pss_cons (ps_for hp hc (pi_seq (pe_var hNi hvx hdx hcdx)) (pg_name hNd hN hx hfl) (pss_one (ps_expr (pe_bm0 PySem.F.plainAttrs_list PySem.F.slot_list_clear PySem.F.type_list_clear mt_clear (pe_var hN hv hd hcd) hbase hline) hsw)) hst) p2', fun ρ σs own Hs ρi σ owni H D R Ri o k => ?_⟩
  unfold bAll at k
  split at k
  · next ds e =>
    split at k
    · next hfj =>
      obtain ⟨hfl', hjρ⟩ := hfj
      obtain ⟨v, hv', rv⟩ := Ri.fr i _ e
      cases rv with
      | @lst ax xs _ sa ha ra =>
        have w0 := wl_of Ri.same sa.2 ha (fun a s => s.2) ra hfl'
        refine ⟨_, hv', ax, rfl, .inl ⟨⟨xs, SqL.of ha⟩, fun i m σ' H' => m = xs.length - i ∧ i ≤ xs.length ∧ OnlyS ks σs σ' ∧ σ'.length = σ.length ∧ WL Hs ax xs 1000000 H', ⟨xs.length, by simp, by simp, o, rfl, w0⟩, ?_⟩⟩
        rintro i m σ' H' ⟨rfl, hi, ho, hsl, w⟩
        obtain ⟨ws, wa, wx, wl⟩ := w
        by_cases hlt : i < xs.length
        · refine .inr ⟨⟨xs, xs[i], SqL.of wx, List.getElem?_eq_getElem hlt⟩, fun σ3 H3 => OnlyS ks σs σ3 ∧ σ3.length = σ.length ∧ WL Hs ax xs 1000000 H3, fun σ3 H3 ⟨g1, g2, g3⟩ => ⟨xs.length - (i + 1), by omega, rfl, hlt, g1, g2, g3⟩, fun u H2 hy => ?_⟩
          obtain ⟨rfl, hy⟩ := hy
          have hu := hy xs (SqL.of wx)
          obtain ⟨b', ys, rfl, hne, hb0, hby, hyl⟩ := wl u (List.mem_of_getElem? hu)
          have ho2 : OnlyS ks σs (σ'.set j (some (.ref b'))) := ho.trans (.set hj)
          have hjs : (σ'.set j (some (V.ref b')))[j]? = some (some (.ref b')) := List.getElem?_set_self (by rw [ho.1, R.len]; exact hjρ)
          exact ⟨_, hjs, .inl ⟨rfl, ys, SqL.of hby⟩, b', ys, rfl, rfl, hby, ho2, by rw [List.length_set]; exact hsl, WL.step ⟨ws, wa, wx, wl⟩ hb0 hne (Nat.zero_le _) (Nat.le_refl _)⟩
        · refine .inl ⟨⟨xs, SqL.of wx, by omega⟩, ?_⟩
          exact q2' _ σ' own H' D ((R.grow ws).only ho) (PSt.weak k (.same ws))
    · exact k.elim
  · exact k.elim
end
end VL
set_option Elab.async false
set_option linter.all false
set_option maxRecDepth 100000
/-! VO38: try: .. except C as e: .., e is asked by isinstance alone. -/
namespace VL
open PySem L2 PySem.Spec PyProof.Rows
/-- what is known of a raised class c: the clause's class takes it; what isinstance answers -/
structure KnE (K : PySem.W.Frag) (mg : Str → Option Value) (top : Value) (c : Str) (tb : List (Str × Bool)) : Prop where
  p : ∃ D, mg c = some (.ref D) ∧ ExcC K D ∧ PySem.W.exmOne K (.ref D) top = some true ∧ ∀ x b, tb.lookup x = some b → ∃ v, NmCls mg x v ∧ PySem.W.kitOne K (.ref D) v = some b
theorem kne_nil {P : Str → Bool → Prop} : ∀ x b, ([] : List (Str × Bool)).lookup x = some b → P x b := fun x b h => by cases h
theorem kne_cons {P : Str → Bool → Prop} {c0 : Str} {b0 : Bool} {tb : List (Str × Bool)} (h0 : P c0 b0) (h : ∀ c b, tb.lookup c = some b → P c b) : ∀ c b, ((c0, b0) :: tb).lookup c = some b → P c b := fun c b e => by
  rw [List.lookup_cons] at e
  by_cases z : c = c0
  · subst z
    rw [show (c == c) = true by simp] at e
    cases e
    exact h0
  · rw [show (c == c0) = false by simpa using z] at e
    exact h c b e
def eIsE (i : Nat) (a : Addr) (b : Bool) : Rho → M D := fun ρ => match ρ[i]? with
  | some (.sh (.raw a')) => if a' = a then .ok (.bl b) else .er
  | _ => .er
section
variable {X : Cx} {W W1 : WX} {S0 : Addr → Prop} {H0 : Hp} {rm m : Md} {i : Nat} {n x c : Str} {tb : List (Str × Bool)} {top : Value} {b : Bool} {a : Addr} {oe : Obj} {pn : List (Addr × Obj)} {q e1 t1 p1 np hp pos : Pos} {body suite : List Stmt} {b0 : Stmt} {fb : Rho → Res}
theorem vx_isE {D : Addr} (xc : ExcC X.K D) (hz : Zc (.ref D) none oe) (hfs : ∃ vs, oe.data = .fields vs) (kt : ∀ x b, tb.lookup x = some b → ∃ v, NmCls X.mg x v ∧ PySem.W.kitOne X.K (.ref D) v = some b) (hx : tb.lookup x = some b) (hm : X.mg "isinstance" = none) (hi : X.N[i]? = some n := by rfl)
    (hv : Vis X.env.scope n := by first | exact Or.inl rfl | exact Or.inr (Or.inl rfl) | exact Or.inr (Or.inr rfl)) (hvd : (n == ("__debug__" : Str)) = false := by decide) (hvc : (n == ("__classdict__" : Str)) = false := by decide)
    (hgi : Gl X "isinstance" := by rfl) (gx : Gl X x := by rfl) (dx : (x == ("__debug__" : Str)) = false := by decide) : VX (X.suite a ((a, oe) :: pn)) W S0 H0 m (.Call (.Name "isinstance" q) [.Name n e1, .Name x t1] [] p1) (eIsE i a b) := by
  obtain ⟨v, nm, kv⟩ := kt x b hx
  obtain ⟨cv, r1, u1, pe1⟩ := nm.pe
  refine ⟨_, pe_callB (X := X.suite a ((a, oe) :: pn)) (call_isE xc hz hfs) hgi hm (by decide +kernel) (pa_cons (pe_var hi hv hvd hvc) (pa_cons (pe1 rfl gx dx) pa_nil)), fun ρ σ own H Q R k => ?_⟩
  unfold eIsE at k
  split at k
  · next a' e =>
    obtain ⟨w, h1, h2⟩ := R.sh i _ e
    split at k
    · next hc =>
      subst hc
      cases h2
      exact ⟨_, h1, _, _, b, rfl, u1, kv, k _ H (Same.refl H) (.ofBl b)⟩
    · exact k.elim
  · exact k.elim
def unE (i : Nat) : Res → Res
  | .nx ρ => .nx (ρ.set i .no)
  | .rt d => .rt d
  | _ => .er
def pickE : List (Str × (Addr → Rho → Res)) → Str → Option (Addr → Rho → Res)
  | [], _ => none
  | (c, f) :: r, c' => if c' = c then some f else pickE r c'
noncomputable def sTryE (i : Nat) (hs : List (Str × (Addr → Rho → Res))) (fb : Rho → Res) : Rho → Res := fun ρ => match fb ρ with
  | .ex (.own c) ρ' => (match pickE hs c with
    | some f => allA fun a => unE i (f a (ρ'.set i (.sh (.raw a))))
    | none => .er)
  | .ex (.bi _) _ => .er
  | r => r
/-- the clause's suite for each class that may be raised -/
inductive VEs (X : Cx) (S0 : Addr → Prop) (H0 : Hp) (rm : Md) (top : Value) (sts : List Stmt) : List (Str × (Addr → Rho → Res)) → Prop
  | nil : VEs X S0 H0 rm top sts []
  | cons {c : Str} {f : Addr → Rho → Res} {r : List (Str × (Addr → Rho → Res))} {D : Addr} : X.mg c = some (.ref D) → PySem.W.exmOne X.K (.ref D) top = some true →
      (∀ a oe pn, Zc (.ref D) none oe → (∃ vs, oe.data = .fields vs) → VSs (X.suite a ((a, oe) :: pn)) (fun _ _ _ _ => False) S0 H0 rm sts (f a)) → VEs X S0 H0 rm top sts r → VEs X S0 H0 rm top sts ((c, f) :: r)
theorem ves_cons {sts : List Stmt} {f : Addr → Rho → Res} {r : List (Str × (Addr → Rho → Res))} (kn : KnE X.K X.mg top c tb)
    (h : ∀ D, ExcC X.K D → (∀ x b, tb.lookup x = some b → ∃ v, NmCls X.mg x v ∧ PySem.W.kitOne X.K (.ref D) v = some b) → ∀ a oe pn, Zc (.ref D) none oe → (∃ vs, oe.data = .fields vs) → VSs (X.suite a ((a, oe) :: pn)) (fun _ _ _ _ => False) S0 H0 rm sts (f a)) (hr : VEs X S0 H0 rm top sts r) : VEs X S0 H0 rm top sts ((c, f) :: r) := by
  obtain ⟨D, h1, h2, h3, h4⟩ := kn.p
  exact .cons h1 h3 (h D h2 h4) hr
theorem VEs.pick {sts : List Stmt} {hs : List (Str × (Addr → Rho → Res))} (h : VEs X S0 H0 rm top sts hs) {c : Str} {f : Addr → Rho → Res} (e : pickE hs c = some f) : ∃ D, X.mg c = some (.ref D) ∧ PySem.W.exmOne X.K (.ref D) top = some true ∧
    ∀ a oe pn, Zc (.ref D) none oe → (∃ vs, oe.data = .fields vs) → VSs (X.suite a ((a, oe) :: pn)) (fun _ _ _ _ => False) S0 H0 rm sts (f a) := by
  induction h with
  | nil => cases e
  | @cons c0 f0 r D h1 h2 h3 _ ih =>
    unfold pickE at e
    split at e
    · next hc =>
      subst hc
      cases e
      exact ⟨D, h1, h2, h3⟩
    · exact ih e
theorem vs_tryE {hs : List (Str × (Addr → Rho → Res))} (hc : Names X x top) (he : VEs X S0 H0 rm top (b0 :: suite) hs) (hN : X.N.Nodup) (tk : Takes X W)
    (hb : ∀ (W' : WX) (pn : List (Addr × Obj)) (xe : Value → Shared → Prop), Takes (X.tr pn xe) W' → PassesOwn (model X.prog X.w) X.A X.env xe → VSs (X.tr pn xe) W' S0 H0 rm body fb)
    (hi : X.N[i]? = some n := by rfl) (hln : X.env.kindOf n = some .local := by rfl) (hst : X.stack = X.env :: X.outer := by rfl) (hf : X.env.frame = some X.env.locals := by rfl) :
    VS X W S0 H0 rm (.Try body [.ExceptHandler (some (.Name x np)) (some n) (b0 :: suite) hp] [] [] pos) (sTryE i hs fb) := by
  refine ⟨_, ps_try_as (tb := fun W' D σ H => ∃ ρ own, Rel X.K S0 H0 ρ σ own H ∧ PSt X W' S0 H0 rm own H D (fb ρ))
    (ts := fun a cls d D σ H => ∃ (c : Str) (f : Addr → Rho → Res) (ρ : Rho) (own : List Addr), pickE hs c = some f ∧ X.mg c = some cls ∧ d = none ∧ Rel X.K S0 H0 (ρ.set i (.sh (.raw a))) σ own H ∧ PSt X (fun _ _ _ _ => False) S0 H0 rm own H D (f a (ρ.set i (.sh (.raw a))))) hst hf hN hi hln hc tk ?_ ?_, fun ρ σ own H D R z => ⟨ρ, own, R, ?_⟩⟩
  · intro W' pn xe t po
    obtain ⟨ts, ps, qs⟩ := (hb W' pn xe t po).p
    exact ⟨fun pins s σ H D I ⟨ρ, own, R, z⟩ => ps.run pins s σ H D I (qs ρ σ own H D R z)⟩
  · intro a oe cls d pn hz hfs
    refine ⟨fun pins s σ H D I ⟨c, f, ρ, own, h1, h2, h3, R, z⟩ => ?_⟩
    obtain ⟨Dc, g1, g2, g3⟩ := he.pick h1
    rw [g1] at h2
    cases h2
    subst h3
    obtain ⟨ts, ps, qs⟩ := (g3 a oe pn hz hfs).p
    exact ps.run pins s σ H D I (qs _ σ own H D R z)
  · unfold sTryE at z
    revert z
    cases e : fb ρ with
    | nx ρ' => exact id
    | rt d => exact id
    | bk ρ' => exact id
    | ct ρ' => exact id
    | er => exact id
    | rs d ρ' => exact id
    | ex c' ρ' =>
      cases c' with
      | bi nn => intro z; exact z.elim
      | own c' =>
        intro z
        dsimp only at z
        cases hp' : pickE hs c' with
        | none => rw [hp'] at z; exact z.elim
        | some f =>
          rw [hp'] at z
          dsimp only at z
          obtain ⟨Dc, g1, g2, g3⟩ := he.pick hp'
          intro cv d σ' own' H' ⟨i1, i2⟩ R' F'
          subst i2
          have ecv : cv = .ref Dc := by rw [g1] at i1; exact (Option.some.inj i1).symm
          subst ecv
          refine ⟨true, g2, fun _ a ha => ⟨c', f, ρ', own', hp', g1, rfl, R'.setSh (.raw a), ?_⟩, fun q => nomatch q⟩
          unfold allA at z
          split at z
          · next hall =>
            have z : PSt X W S0 H0 rm own H D (unE i (f a (ρ'.set i (.sh (.raw a))))) := by
              have e2 := hall a
              rw [← e2] at z
              exact z
            have z := PSt.weak z F'
            revert z
            generalize f a (ρ'.set i (.sh (.raw a))) = r
            intro z
            cases r with
            | nx ρ2 => exact fun σ2 o2 H2 R2 F2 => z _ o2 H2 (R2.setNo (i := i) (x := none)) F2
            | rt d => exact z
            | bk ρ2 => exact z.elim
            | ct ρ2 => exact z.elim
            | ex c2 ρ2 => exact z.elim
            | er => exact z.elim
            | rs d ρ2 => exact z.elim
          · exact z.elim
end
end VL
set_option Elab.async false
set_option linter.all false
set_option maxRecDepth 100000
/-! VO39: an object made within a try whose clause names what is raised; the facts of such a clause, by index. -/
namespace VL
open PySem L2 PySem.Spec PyProof.Rows
/-- what is known of a clause's class: of each class that may be raised -/
structure TryEF (K : PySem.W.Frag) (mg : Str → Option Value) (x : Str) (tbs : List (Str × List (Str × Bool))) : Prop where
  p : ∃ top, mg x = some top ∧ ∀ (k : Nat) c tb, tbs[k]? = some (c, tb) → KnE K mg top c tb
theorem knes_nil {P : Str → List (Str × Bool) → Prop} : ∀ (k : Nat) c tb, ([] : List (Str × List (Str × Bool)))[k]? = some (c, tb) → P c tb := fun k c tb h => by cases h
theorem knes_cons {P : Str → List (Str × Bool) → Prop} {c0 : Str} {t0 : List (Str × Bool)} {tbs : List (Str × List (Str × Bool))} (h0 : P c0 t0) (h : ∀ (k : Nat) c tb, tbs[k]? = some (c, tb) → P c tb) : ∀ (k : Nat) c tb, ((c0, t0) :: tbs)[k]? = some (c, tb) → P c tb := fun k c tb e => by
  cases k with
  | zero => cases e; exact h0
  | succ k => exact h k c tb e
section
variable {X : Cx} {W : WX} {S0 : Addr → Prop} {H0 : Hp} {rm : Md} {i : Nat} {n x : Str} {tbs : List (Str × List (Str × Bool))} {np hp pos : Pos} {body suite : List Stmt} {b0 : Stmt} {fb : Rho → Res}
theorem vs_tryEF {hs : List (Str × (Addr → Rho → Res))} (T : TryEF X.K X.mg x tbs) (he : ∀ top, (∀ (k : Nat) c tb, tbs[k]? = some (c, tb) → KnE X.K X.mg top c tb) → VEs X S0 H0 rm top (b0 :: suite) hs) (hN : X.N.Nodup) (tk : Takes X W)
    (hb : ∀ (W' : WX) (pn : List (Addr × Obj)) (xe : Value → Shared → Prop), Takes (X.tr pn xe) W' → PassesOwn (model X.prog X.w) X.A X.env xe → VSs (X.tr pn xe) W' S0 H0 rm body fb)
    (g0 : Gl X x := by rfl) (d0 : (x == ("__debug__" : Str)) = false := by decide) (hi : X.N[i]? = some n := by rfl) (hln : X.env.kindOf n = some .local := by rfl) (hst : X.stack = X.env :: X.outer := by rfl) (hf : X.env.frame = some X.env.locals := by rfl) :
    VS X W S0 H0 rm (.Try body [.ExceptHandler (some (.Name x np)) (some n) (b0 :: suite) hp] [] [] pos) (sTryE i hs fb) := by
  obtain ⟨top, h0, h1⟩ := T.p
  exact vs_tryE ⟨g0, d0, .inl h0⟩ (he top h1) hN tk hb hi hln hst hf
end
/-- the rest, when the object lies at x; or the clause and the rest -/
noncomputable def outTM (i j : Nat) (hs : List (Str × (Addr → Rho → Res))) (c : Str) (G : List D → MO) (as : List D) (g : Rho → Res) (ρ : Rho) (x : Addr) : Res := match G (.obj x c [] [] :: as) with
  | .ok .non o => if j < ρ.length then g (ρ.set j (.ow o)) else .er
  | .ex (.own c') _ => (match pickE hs c' with
    | some f => allA fun a => (match f a (ρ.set i (.sh (.raw a))) with
      | .nx ρ2 => g (ρ2.set i .no)
      | .rt d => .rt d
      | _ => .er)
    | none => .er)
  | _ => .er
open Classical in
noncomputable def sTryMk (i j : Nat) (hs : List (Str × (Addr → Rho → Res))) (c : Str) (G : List D → MO) (fa : Rho → M (List D)) (g : Rho → Res) : Rho → Res := fun ρ => match fa ρ with
  | .ok as => if h : ∃ r, ∀ x, outTM i j hs c G as g ρ x = .rt r then .rt (Classical.choose h) else .er
  | _ => .er
theorem sTryMk_eq {i j : Nat} {hs : List (Str × (Addr → Rho → Res))} {c : Str} {G : List D → MO} {fa : Rho → M (List D)} {g : Rho → Res} {ρ : Rho} {as : List D} {r : D} (h1 : fa ρ = .ok as) (h2 : ∀ x, outTM i j hs c G as g ρ x = .rt r) : sTryMk i j hs c G fa g ρ = .rt r := by
  unfold sTryMk
  rw [h1]
  have h : ∃ r, ∀ x, outTM i j hs c G as g ρ x = .rt r := ⟨r, h2⟩
  simp only
  rw [dif_pos h]
  have := Classical.choose_spec h 0
  rw [h2 0] at this
  cases this
  rfl
section
variable {X : Cx} {W : WX} {S0 : Addr → Prop} {H0 : Hp} {rm : Md} {k l i j : Nat} {c y n x : Str} {G : List D → MO} {p pos pos' pos2 pos3 np hp : Pos} {e : Expr} {es : List Expr} {sts suite : List Stmt} {b0 : Stmt} {fa : Rho → M (List D)} {g : Rho → Res} {hs : List (Str × (Addr → Rho → Res))} {top : Value}
theorem vss_tryMk0 (hcn : Names X x top) (hes : VEs X S0 H0 rm top (b0 :: suite) hs) (cm : CalMk X.prog X.w X.K X.mg X.base k c G) (tk : Takes X W) (hr : Room (l + 1) X.A) (hk : k ≤ l) (hNd : X.N.Nodup)
    (ha : ∀ (W' : WX) (pn : List (Addr × Obj)) (xe : Value → Shared → Prop), Takes (X.tr pn xe) W' → PassesOwn (model X.prog X.w) X.A X.env xe → VA (X.tr pn xe) W' S0 H0 .E (e :: es) fa) (hq : VSs X W S0 H0 rm sts g)
    (hi : X.N[j]? = some y := by rfl) (hx : Loc X.env.scope y := by first | exact Or.inl rfl | exact Or.inr rfl)
    (hg : Gl X c := by rfl) (hdb : (c == ("__debug__" : Str)) = false := by decide) (he : starEach (e :: es) X.env = (false, eval e X.env) :: starEach es X.env := by rfl) (hpl : (backTo pos2 (starEach es X.env)).any (·.1) = false := by rfl)
    (hs' : swapsWith (.Call (.Name c p) (e :: es) [] pos2) (some (.Name y pos')) pos.line X.env = pure false := by rfl) (hf : X.fn y = true ∨ X.env.scope.names.lookup y = some .local := by first | exact .inl rfl | exact .inr rfl)
    (hii : X.N[i]? = some n := by rfl) (hln : X.env.kindOf n = some .local := by rfl) (hst : X.stack = X.env :: X.outer := by rfl) (hff : X.env.frame = some X.env.locals := by rfl) :
    VSs X W S0 H0 rm (.Try [.Assign [.Name y pos'] (.Call (.Name c p) (e :: es) [] pos2) pos] [.ExceptHandler (some (.Name x np)) (some n) (b0 :: suite) hp] [] [] pos3 :: sts) (sTryMk i j hs c G fa g) := by
  obtain ⟨C, f, fd, ps, h1, h2, M, F, h5⟩ := cm.p
  obtain ⟨tq, pq, qq⟩ := hq.p
  refine ⟨_, pss_cons (ps_try_as (tb := fun W' D σ H => ∃ ρ own as, Rel X.K S0 H0 ρ σ own H ∧ fa ρ = .ok as ∧ ∀ xa, (match G (.obj xa c [] [] :: as) with
      | .ok .non o => j < ρ.length ∧ ∀ own' H', Rel X.K S0 H0 (ρ.set j (.ow o)) (σ.set j (some (.ref xa))) own' H' → Fra own H own' H' → D.nx (σ.set j (some (.ref xa))) H'
      | .ex c' _ => ∀ cv d own' H', IsCls X.mg c' cv d → Rel X.K S0 H0 ρ σ own' H' → Fra own H own' H' → W' cv d σ H'
      | _ => False))
    (ts := fun a cls d D σ H => ∃ (c : Str) (f : Addr → Rho → Res) (ρ : Rho) (own : List Addr), pickE hs c = some f ∧ X.mg c = some cls ∧ d = none ∧ Rel X.K S0 H0 (ρ.set i (.sh (.raw a))) σ own H ∧ PSt X (fun _ _ _ _ => False) S0 H0 rm own H D (f a (ρ.set i (.sh (.raw a))))) hst hff hNd hii hln hcn tk ?_ ?_) pq, fun ρ σ own H D R z => ?_⟩
  · intro W' pn xe t po
    obtain ⟨ta, pa, qa⟩ := (ha W' pn xe t po).p
    have pS := pss_one (ps_set (X := X.tr pn xe) hNd hi hx (pe_makeX (X := X.tr pn xe) M F (hr.mono (Nat.succ_le_succ hk)) hg h2 h5 (fun σ => passAt t σ) pa hdb he hpl) hs' hf)
    refine ⟨fun pins s σ H D I ⟨ρ, own, as, R, hfa, z⟩ => pS.run pins s σ H D I (qa ρ σ own H _ R ?_)⟩
    rw [hfa]
    intro ws H1 s1 r1 xa dx hx0 hd0 hne
    have z := z xa
    have R1 := R.grow s1
    have R2 := R1.made (j := j) hx0 hd0 hne h1
    have hs : Same H1 (upd (upd H1 dx (.own xa)) xa (.ins C dx [])) := fun b u e => by
      rw [upd_ne (ne_of_none e hx0), upd_ne (ne_of_none e hd0)]
      exact e
    have hsb : sb (upd (upd H1 dx (.own xa)) xa (.ins C dx [])) xa = [] := by rw [sb_ins upd_same]; rfl
    have live : ∀ b, b ∈ own → b ≠ xa := fun b hb z => by
      obtain ⟨u, eu⟩ := mt_some (R1.own0 b hb).2
      rw [z, hx0] at eu; cases eu
    refine ⟨xa, ws, .obj xa c [] [], as, SF H0 (xa :: own), rfl, rfl, ⟨rfl, C, dx, [], upd_same, h1, rfl, trivial, List.nodup_nil⟩, by rw [hsb]; simp, fun b s => ⟨fun z => s.1 (by rw [z]; exact List.mem_cons_self), by rw [hsb]; simp⟩, fun b hb => (by rw [hsb] at hb; cases hb), ?_, ?_⟩
    · have r2 := (RpA.ofE r1).keep (.same hs)
      have r3 : RpA X.K (fun a => SA S0 H0 own a ∧ H1 a ≠ none) H1 ws as := (RpA.ofE r1).keep ⟨fun b u s e => ⟨⟨s, by rw [e]; simp⟩, e⟩, fun b xs e => e, fun b o u e => e⟩
      exact (r3.keep (.same hs)).keep (.wide fun b s => ⟨fun z => s.2 (by rw [z]; exact hx0), by rw [hsb]; simp⟩)
    · revert z
      cases G (.obj xa c [] [] :: as) with
      | er => intro h; exact h.elim
      | ex c' o =>
        intro z cv dd own' H' ic ck
        have hsame : Same H1 H' := fun b u e => ck.stand b u (hs b u e) (ne_of_none e hx0) (by rw [hsb]; simp)
        exact z cv dd own H' ic (R1.grow hsame) ((Fra.same (s1.trans hsame)))
      | ok d o =>
        intro z
        cases d with
        | non =>
          intro v own' H' ck rv
          cases rv
          obtain ⟨hj, z⟩ := z
          · have hi2 : (ρ.set j (.ow (.obj xa c [] [])))[j]? = some (.ow (.obj xa c [] [])) := List.getElem?_set_self hj
            have hp2 : (σ.set j (some (.ref xa)))[j]? = some (some (.ref xa)) := List.getElem?_set_self (by rw [R.len]; exact hj)
            obtain ⟨R3, F3, _⟩ := R2.back hi2 hp2 ck
            rw [List.set_set] at R3
            refine ⟨rfl, z _ H' R3 ?_⟩
            exact ⟨fun b u e hb => F3.k b u ((s1.trans hs) b u e) (fun hm => (List.mem_cons.mp hm).elim (fun z => by rw [z, s1.free hx0] at e; cases e) hb), fun b hb => by
                rcases F3.n b hb with h | h
                · rcases List.mem_cons.mp h with z | h
                  · exact .inr (by rw [z]; exact s1.free hx0)
                  · exact .inl h
                · exact .inr ((s1.trans hs).free h)⟩
        | _ => exact z.elim
  · intro a oe cls d pn hz hfs
    refine ⟨fun pins s σ H D I ⟨c, f, ρ, own, h1, h2, h3, R, z⟩ => ?_⟩
    obtain ⟨Dc, g1, g2, g3⟩ := hes.pick h1
    rw [g1] at h2
    cases h2
    subst h3
    obtain ⟨ts, ps, qs⟩ := (g3 a oe pn hz hfs).p
    exact ps.run pins s σ H D I (qs _ σ own H D R z)
  · unfold sTryMk at z
    revert z
    cases hfa : fa ρ with
    | er => intro z; exact z.elim
    | ex c => intro z; exact z.elim
    | ok as =>
      intro z
      dsimp only at z
      split at z
      · next hex =>
        have hall := Classical.choose_spec hex
        generalize Classical.choose hex = rr at z hall
        refine ⟨ρ, own, as, R, hfa, fun xa => ?_⟩
        have hout := hall xa
        unfold outTM at hout
        revert hout
        cases G (.obj xa c [] [] :: as) with
        | er => intro h; cases h
        | ok d o =>
          cases d with
          | non =>
            dsimp only
            intro hout
            split at hout
            · next hj =>
              refine ⟨hj, fun own' H' R' F' => qq _ _ _ H' D R' ?_⟩
              rw [hout]
              exact PSt.weak z F'
            · cases hout
          | _ => intro h; cases h
        | ex c' o =>
          cases c' with
          | bi nn => intro h; cases h
          | own c' =>
            dsimp only
            intro hout cv d own' H' ic R' F'
            cases hp' : pickE hs c' with
            | none => rw [hp'] at hout; cases hout
            | some f =>
              rw [hp'] at hout
              dsimp only at hout
              obtain ⟨Dc, g1, g2, g3⟩ := hes.pick hp'
              obtain ⟨i1, i2⟩ := ic
              subst i2
              have ecv : cv = .ref Dc := by rw [g1] at i1; exact (Option.some.inj i1).symm
              subst ecv
              refine ⟨true, g2, fun _ a ha => ⟨c', f, ρ, own', hp', g1, rfl, R'.setSh (.raw a), ?_⟩, fun q => nomatch q⟩
              unfold allA at hout
              split at hout
              · next hall2 =>
                rw [← hall2 a] at hout
                dsimp only at hout
                have z := PSt.weak z F'
                revert hout
                generalize f a (ρ.set i (.sh (.raw a))) = r
                intro hout
                cases r with
                | nx ρ2 =>
                  intro σ2 o2 H2 R2 F2
                  refine qq _ _ o2 H2 D (R2.setNo (i := i) (x := none)) ?_
                  have hout : g (ρ2.set i .no) = .rt rr := hout
                  rw [hout]
                  exact PSt.weak z F2
                | rt d =>
                  cases hout
                  exact z
                | bk ρ2 => cases hout
                | ct ρ2 => cases hout
                | ex c2 ρ2 => cases hout
                | er => cases hout
                | rs d ρ2 => cases hout
              · cases hout
      · exact z.elim
theorem vss_tryMk {tbs : List (Str × List (Str × Bool))} (T : TryEF X.K X.mg x tbs) (hes : ∀ top, (∀ (k : Nat) c tb, tbs[k]? = some (c, tb) → KnE X.K X.mg top c tb) → VEs X S0 H0 rm top (b0 :: suite) hs) (cm : CalMk X.prog X.w X.K X.mg X.base k c G) (tk : Takes X W) (hr : Room (l + 1) X.A) (hk : k ≤ l) (hNd : X.N.Nodup)
    (ha : ∀ (W' : WX) (pn : List (Addr × Obj)) (xe : Value → Shared → Prop), Takes (X.tr pn xe) W' → PassesOwn (model X.prog X.w) X.A X.env xe → VA (X.tr pn xe) W' S0 H0 .E (e :: es) fa) (hq : VSs X W S0 H0 rm sts g)
    (g0 : Gl X x := by rfl) (d0 : (x == ("__debug__" : Str)) = false := by decide)
    (hi : X.N[j]? = some y := by rfl) (hx : Loc X.env.scope y := by first | exact Or.inl rfl | exact Or.inr rfl)
    (hg : Gl X c := by rfl) (hdb : (c == ("__debug__" : Str)) = false := by decide) (he : starEach (e :: es) X.env = (false, eval e X.env) :: starEach es X.env := by rfl) (hpl : (backTo pos2 (starEach es X.env)).any (·.1) = false := by rfl)
    (hs' : swapsWith (.Call (.Name c p) (e :: es) [] pos2) (some (.Name y pos')) pos.line X.env = pure false := by rfl) (hf : X.fn y = true ∨ X.env.scope.names.lookup y = some .local := by first | exact .inl rfl | exact .inr rfl)
    (hii : X.N[i]? = some n := by rfl) (hln : X.env.kindOf n = some .local := by rfl) (hst : X.stack = X.env :: X.outer := by rfl) (hff : X.env.frame = some X.env.locals := by rfl) :
    VSs X W S0 H0 rm (.Try [.Assign [.Name y pos'] (.Call (.Name c p) (e :: es) [] pos2) pos] [.ExceptHandler (some (.Name x np)) (some n) (b0 :: suite) hp] [] [] pos3 :: sts) (sTryMk i j hs c G fa g) := by
  obtain ⟨top, h0, h1⟩ := T.p
  exact vss_tryMk0 ⟨g0, d0, .inl h0⟩ (hes top h1) cm tk hr hk hNd ha hq hi hx hg hdb he hpl hs' hf hii hln hst hff
end
end VL
set_option Elab.async false
set_option linter.all false
set_option maxRecDepth 100000
/-! VM: the plain law's tools: the combinators applied, loops as folds, the shared helpers of the laws. -/
namespace VL
open PySem L2 PySem.Spec PyProof.Rows
/-! ### the combinators applied -/
section
variable (ρ : Rho) (i j : Nat) (a b c : Rho → M D) (fb gb : Rho → M Bool) (fa : Rho → M (List D)) (f g : Rho → Res)
@[simp] theorem eV_ap : eV i ρ = match ρ[i]? with | some (.sh d) => .ok d | some (.fr d) => .ok d | some (.ow d) => .ok d | _ => .er := rfl
@[simp] theorem eVE_ap : eVE i ρ = match ρ[i]? with | some (.sh d) => .ok d | some (.fr d) => .ok d | _ => .er := rfl
@[simp] theorem eVF_ap : eVF i ρ = match ρ[i]? with | some (.fr d) => .ok d | _ => .er := rfl
@[simp] theorem eC_ap (d : D) : eC d ρ = .ok d := rfl
@[simp] theorem eOp_ap (h : D → D → M D) : eOp h a b ρ = M.bind (a ρ) fun x => M.bind (b ρ) fun y => h x y := rfl
@[simp] theorem eUn_ap (h : D → M D) : eUn h a ρ = M.bind (a ρ) h := rfl
@[simp] theorem eB_ap : eB a ρ = M.bind (a ρ) toB := rfl
@[simp] theorem eCh_ap (h h' : D → D → M D) : eCh h h' a b c ρ = M.bind (a ρ) fun x => M.bind (b ρ) fun y => M.bind (M.bind (h x y) toB) fun k => if k = true then M.bind (c ρ) fun z => h' y z else .ok (.bl false) := rfl
@[simp] theorem eTr_ap : eTr a ρ = M.bind (a ρ) truG := rfl
@[simp] theorem eNot_ap : eNot fb ρ = M.bind (fb ρ) fun b => .ok (!b) := rfl
@[simp] theorem eAnd_ap : eAnd fb gb ρ = M.bind (fb ρ) fun b => if b = true then gb ρ else .ok false := rfl
@[simp] theorem eOr_ap : eOr fb gb ρ = M.bind (fb ρ) fun b => if b = true then .ok true else gb ρ := rfl
@[simp] theorem eAndV_ap : eAndV a b ρ = M.bind (M.bind (a ρ) toB) fun k => if k = true then b ρ else .ok (.bl false) := rfl
@[simp] theorem eOrV_ap : eOrV a b ρ = M.bind (M.bind (a ρ) toB) fun k => if k = true then .ok (.bl true) else b ρ := rfl
@[simp] theorem eNotV_ap : eNotV a ρ = M.bind (M.bind (a ρ) toB) fun k => .ok (.bl (!k)) := rfl
@[simp] theorem aNil_ap : aNil ρ = .ok [] := rfl
@[simp] theorem aCons_ap : aCons a fa ρ = M.bind (a ρ) fun x => M.bind (fa ρ) fun xs => .ok (x :: xs) := rfl
@[simp] theorem eTup_ap : eTup fa ρ = M.bind (fa ρ) fun xs => if xs.length ≤ sizeLine then .ok (.tup xs) else .er := rfl
@[simp] theorem eLst_ap : eLst fa ρ = M.bind (fa ρ) fun xs => if xs.length ≤ sizeLine then .ok (.lst xs) else .er := rfl
@[simp] theorem eLf_ap : eLf a ρ = M.bind (a ρ) fun x => if lf x = true then .ok x else .er := rfl
@[simp] theorem eBlt_ap (h : List D → M D) : eBlt h fa ρ = M.bind (fa ρ) h := rfl
@[simp] theorem eCall_ap (h : List D → M D) : eCall h fa ρ = M.bind (fa ρ) h := rfl
@[simp] theorem eIsi_ap (n : Cn) : eIsi n a ρ = M.bind (a ρ) fun d => if isOb d = true then .er else .ok (.bl (instD n d)) := rfl
@[simp] theorem eIsi2_ap (n n2 : Cn) : eIsi2 n n2 a ρ = M.bind (a ρ) fun d => if isOb d = true then .er else .ok (.bl (instD n d || instD n2 d)) := rfl
@[simp] theorem isOb_obj (p : Addr) (c : Str) (ns : List Str) (b : List D) : isOb (.obj p c ns b) = true := rfl
@[simp] theorem isOb_non : isOb .non = false := rfl
@[simp] theorem isOb_bl (b : Bool) : isOb (.bl b) = false := rfl
@[simp] theorem isOb_int (b : Int) : isOb (.int b) = false := rfl
@[simp] theorem isOb_str (b : Str) : isOb (.str b) = false := rfl
@[simp] theorem isOb_tup (b : List D) : isOb (.tup b) = false := rfl
@[simp] theorem isOb_kt (b : List D) : isOb (.kt b) = false := rfl
@[simp] theorem isOb_lst (b : List D) : isOb (.lst b) = false := rfl
@[simp] theorem isOb_fz (b : List D) : isOb (.fz b) = false := rfl
@[simp] theorem isOb_dct (b : List (List Key × D)) : isOb (.dct b) = false := rfl
@[simp] theorem isOb_dk (b : List (Key × D)) : isOb (.dk b) = false := rfl
@[simp] theorem eZip_ap : eZip fa ρ = M.bind (fa ρ) zipG := rfl
@[simp] theorem eLL_ap : eLL a ρ = M.bind (a ρ) itemsG := rfl
@[simp] theorem eTT_ap : eTT a ρ = M.bind (a ρ) itemsG := rfl
@[simp] theorem items_lst (ds : List D) : itemsG (.lst ds) = .ok ds := rfl
@[simp] theorem items_tup (ds : List D) : itemsG (.tup ds) = .ok ds := rfl
@[simp] theorem items_fz (ds : List D) : itemsG (.fz ds) = .ok ds := rfl
@[simp] theorem items_kt (ds : List D) : itemsG (.kt ds) = .ok ds := rfl
@[simp] theorem eR1_ap : eR1 fa ρ = M.bind (fa ρ) fun d => match d with
  | [.int j] => if -(2 ^ 62) ≤ j ∧ j < 2 ^ 62 then .ok (rngD 0 j.toNat) else .er
  | _ => .er := rfl
@[simp] theorem cYes_ap : cYes ρ = .ok true := rfl
@[simp] theorem eComp_ap (ks : List Nat) (fi : Rho → M (List D)) (tg : D → Rho → Option Rho) : eComp ks fi tg fb a ρ = M.bind (fi ρ) fun ds =>
  if ds.length ≤ sizeLine then M.bind (compL tg fb a (wipeR ks ρ) ds) fun ys => .ok (.lst ys) else .er := rfl
@[simp] theorem sNil_ap : sNil ρ = .nx ρ := rfl
@[simp] theorem sSeq_ap : sSeq f g ρ = thenR (f ρ) g := rfl
@[simp] theorem sIf_ap : sIf fb f g ρ = ofMB ρ (fun b => if b = true then f ρ else g ρ) (fb ρ) := rfl
@[simp] theorem sRet_ap : sRet a ρ = ofM ρ (fun d => .rt d) (a ρ) := rfl
@[simp] theorem sDrop_ap : sDrop a ρ = ofM ρ (fun _ => .nx ρ) (a ρ) := rfl
@[simp] theorem sSh_ap : sSh i a ρ = ofM ρ (fun d => .nx (ρ.set i (.sh d))) (a ρ) := rfl
@[simp] theorem sFr_ap : sFr i a ρ = ofM ρ (fun d => .nx (ρ.set i (.fr d))) (a ρ) := rfl
@[simp] theorem sOw_ap : sOw i a ρ = ofM ρ (fun d => if isMut d = true then .nx (ρ.set i (.ow d)) else .er) (a ρ) := rfl
@[simp] theorem sShare_ap : sShare i f ρ = f (shareR i ρ) := rfl
@[simp] theorem shareR_ap : shareR i ρ = match ρ[i]? with | some (.ow d) => if isObj d = true then ρ else ρ.set i (.fr d) | _ => ρ := rfl
@[simp] theorem isObj_lst (b : List D) : isObj (.lst b) = false := rfl
@[simp] theorem isObj_dct (b : List (List Key × D)) : isObj (.dct b) = false := rfl
@[simp] theorem isObj_dk (b : List (Key × D)) : isObj (.dk b) = false := rfl
@[simp] theorem isObj_obj (p : Addr) (c : Str) (ns : List Str) (b : List D) : isObj (.obj p c ns b) = true := rfl
@[simp] theorem wipeR_nil : wipeR [] ρ = ρ := rfl
@[simp] theorem wipeR_cons (ks : List Nat) : wipeR (i :: ks) ρ = (wipeR ks ρ).set i .no := rfl
@[simp] theorem wipeS_nx (ks : List Nat) : wipeS ks (.nx ρ) = .nx (wipeR ks ρ) := rfl
@[simp] theorem wipeS_bk (ks : List Nat) : wipeS ks (.bk ρ) = .bk (wipeR ks ρ) := rfl
@[simp] theorem wipeS_ct (ks : List Nat) : wipeS ks (.ct ρ) = .ct (wipeR ks ρ) := rfl
@[simp] theorem wipeS_rt (ks : List Nat) (d : D) : wipeS ks (.rt d) = .rt d := rfl
@[simp] theorem wipeS_ex (ks : List Nat) (d : Xc) : wipeS ks (.ex d ρ) = .ex d ρ := rfl
@[simp] theorem sWipe_ap (ks : List Nat) : sWipe ks f ρ = wipeS ks (f ρ) := rfl
@[simp] theorem sFor_ap (fi : Rho → M (List D)) (tg : D → Rho → Option Rho) : sFor fi tg f ρ = match fi ρ with | .ok ds => forR tg f ds ρ | .ex c => .ex c ρ | .er => .er := rfl
@[simp] theorem sWhile_ap (n : Nat) : sWhile n fb f ρ = whileN fb f n ρ := rfl
@[simp] theorem tgN_ap (d : D) : tgN i d ρ = some (ρ.set i (.sh d)) := rfl
@[simp] theorem tgF_ap (d : D) : tgF i d ρ = some (ρ.set i (.fr d)) := rfl
@[simp] theorem tgNil_ap (ds : List D) : tgNil ds ρ = match ds with | [] => some ρ | _ => none := rfl
@[simp] theorem tgCons_ap (t : D → Rho → Option Rho) (u : List D → Rho → Option Rho) (ds : List D) : tgCons t u ds ρ = match ds with
  | d :: r => (match t d ρ with | some ρ' => u r ρ' | none => none)
  | [] => none := rfl
@[simp] theorem tgT_ap (n : Nat) (u : List D → Rho → Option Rho) (d : D) : tgT n u d ρ = match d with
  | .tup ds => if ds.length = n then u ds ρ else none
  | .kt ds => if ds.length = n then u ds ρ else none
  | _ => none := rfl
@[simp] theorem sUnp_ap (t : D → Rho → Option Rho) : sUnp a t ρ = ofM ρ (fun d => match t d ρ with | some ρ' => .nx ρ' | none => .er) (a ρ) := rfl
@[simp] theorem sBm_ap (eff : List D → List D → M (List D)) : sBm i eff fa ρ = match ρ[i]? with
  | some (.ow (.lst ds)) => (match fa ρ with
    | .ok as => (match eff ds as with | .ok ds' => .nx (ρ.set i (.ow (.lst ds'))) | _ => .er)
    | .ex c => .ex c ρ
    | .er => .er)
  | _ => .er := rfl
@[simp] theorem sPut_ap : sPut i a b ρ = match ρ[i]? with
  | some (.ow (.dct kvs)) => ofM ρ (fun v => ofM ρ (fun k => match k with
    | .tup ks => (match keyOf ks with
      | some ks => if kvs.length < sizeLine then .nx (ρ.set i (.ow (.dct (putT kvs ks v)))) else .er
      | none => .er)
    | _ => .er) (a ρ)) (b ρ)
  | _ => .er := rfl
@[simp] theorem sPar2_ap : sPar2 i j fa ρ = match fa ρ with | .ok [x, y] => .nx ((ρ.set i (.sh x)).set j (.sh y)) | .ex c => .ex c ρ | _ => .er := rfl
@[simp] theorem eZipLS_ap : eZipLS fa ρ = M.bind (fa ρ) zipLSG := rfl
@[simp] theorem zipLS_ap (xs : List D) (z : Str) : zipLSG [.lst xs, .str z] = .ok (zipS xs z.cps.toList) := rfl
@[simp] theorem eEnum_ap : eEnum fa ρ = M.bind (fa ρ) fun ds => match ds with | [.lst xs] => .ok (enumD 0 xs) | _ => .er := rfl
end
/-! ### operators at work -/
@[simp] theorem in_ap (x y : D) : inG x y = M.bind (inB_ x y) fun b => .ok (.bl b) := rfl
@[simp] theorem nin_ap (x y : D) : ninG x y = M.bind (inB_ x y) fun b => .ok (.bl (!b)) := rfl
@[simp] theorem isN_non (x : D) : isNG x .non = .ok (.bl (isNonD x)) := by cases x <;> rfl
@[simp] theorem notN_non (x : D) : notNG x .non = .ok (.bl (!isNonD x)) := by cases x <;> rfl
@[simp] theorem isNonD_non : isNonD .non = true := rfl
@[simp] theorem isNonD_int (i : Int) : isNonD (.int i) = false := rfl
@[simp] theorem isNonD_bl (i : Bool) : isNonD (.bl i) = false := rfl
@[simp] theorem isNonD_str (i : Str) : isNonD (.str i) = false := rfl
@[simp] theorem isNonD_tup (ds : List D) : isNonD (.tup ds) = false := rfl
@[simp] theorem isNonD_lst (ds : List D) : isNonD (.lst ds) = false := rfl
@[simp] theorem inst_int_int (i : Int) : instD .int (.int i) = true := rfl
@[simp] theorem inst_bool_int (i : Int) : instD .bool (.int i) = false := rfl
@[simp] theorem inst_list_int (i : Int) : instD .list (.int i) = false := rfl
@[simp] theorem inst_tuple_int (i : Int) : instD .tuple (.int i) = false := rfl
@[simp] theorem inst_str_int (i : Int) : instD .str (.int i) = false := rfl
@[simp] theorem inst_list_lst (ds : List D) : instD .list (.lst ds) = true := rfl
@[simp] theorem inst_tuple_lst (ds : List D) : instD .tuple (.lst ds) = false := rfl
@[simp] theorem inst_bool_lst (ds : List D) : instD .bool (.lst ds) = false := rfl
@[simp] theorem inst_int_lst (ds : List D) : instD .int (.lst ds) = false := rfl
@[simp] theorem inst_str_lst (ds : List D) : instD .str (.lst ds) = false := rfl
@[simp] theorem inst_list_tup (ds : List D) : instD .list (.tup ds) = false := rfl
@[simp] theorem inst_tuple_tup (ds : List D) : instD .tuple (.tup ds) = true := rfl
@[simp] theorem inst_bool_tup (ds : List D) : instD .bool (.tup ds) = false := rfl
@[simp] theorem inst_int_tup (ds : List D) : instD .int (.tup ds) = false := rfl
@[simp] theorem inst_str_tup (ds : List D) : instD .str (.tup ds) = false := rfl
@[simp] theorem inst_str_str (z : Str) : instD .str (.str z) = true := rfl
@[simp] theorem inst_list_str (z : Str) : instD .list (.str z) = false := rfl
@[simp] theorem inst_tuple_str (z : Str) : instD .tuple (.str z) = false := rfl
@[simp] theorem inst_bool_str (z : Str) : instD .bool (.str z) = false := rfl
@[simp] theorem inst_int_str (z : Str) : instD .int (.str z) = false := rfl
@[simp] theorem inst_bool_bl (z : Bool) : instD .bool (.bl z) = true := rfl
@[simp] theorem inst_int_bl (z : Bool) : instD .int (.bl z) = true := rfl
@[simp] theorem inst_list_bl (z : Bool) : instD .list (.bl z) = false := rfl
@[simp] theorem inst_tuple_bl (z : Bool) : instD .tuple (.bl z) = false := rfl
@[simp] theorem inst_str_bl (z : Bool) : instD .str (.bl z) = false := rfl
@[simp] theorem inst_bool_non : instD .bool .non = false := rfl
@[simp] theorem inst_int_non : instD .int .non = false := rfl
@[simp] theorem inst_list_non : instD .list .non = false := rfl
@[simp] theorem inst_tuple_non : instD .tuple .non = false := rfl
@[simp] theorem inst_str_non : instD .str .non = false := rfl
@[simp] theorem all_lst (ds : List D) : allG [.lst ds] = match bools ds with | some bs => .ok (.bl (bs.all id)) | none => .er := rfl
@[simp] theorem zip_ll (xs ys : List D) : zipG [.lst xs, .lst ys] = .ok (zipD xs ys) := rfl
theorem bools_map {α : Type} (f : α → Bool) : ∀ xs : List α, bools (xs.map fun x => D.bl (f x)) = some (xs.map f)
  | [] => rfl
  | x :: xs => by simp [bools, bools_map f xs]
@[simp] theorem sub_ii (i j : Int) : subG (.int i) (.int j) = .ok (.int (i - j)) := rfl
@[simp] theorem add_ii (i j : Int) : addG (.int i) (.int j) = .ok (.int (i + j)) := rfl
@[simp] theorem lt_ii (i j : Int) : ltG (.int i) (.int j) = .ok (.bl (decide (i < j))) := rfl
@[simp] theorem lt_ss (i j : Str) : ltG (.str i) (.str j) = .ok (.bl (decide (i.cps.toList < j.cps.toList))) := rfl
@[simp] theorem le_ii (i j : Int) : leG (.int i) (.int j) = .ok (.bl (decide (i ≤ j))) := rfl
@[simp] theorem gt_ii (i j : Int) : gtG (.int i) (.int j) = .ok (.bl (decide (j < i))) := rfl
@[simp] theorem ge_ii (i j : Int) : geG (.int i) (.int j) = .ok (.bl (decide (j ≤ i))) := rfl
@[simp] theorem eq_ii (i j : Int) : eqG (.int i) (.int j) = .ok (.bl (decide (i = j))) := rfl
@[simp] theorem eq_bb (i j : Bool) : eqG (.bl i) (.bl j) = .ok (.bl (decide (i = j))) := rfl
@[simp] theorem eq_ss (i j : Str) : eqG (.str i) (.str j) = .ok (.bl (decide (i = j))) := rfl
@[simp] theorem eq_nn : eqG .non .non = .ok (.bl true) := rfl
@[simp] theorem ne_ii (i j : Int) : neG (.int i) (.int j) = .ok (.bl (!decide (i = j))) := rfl
@[simp] theorem ne_bb (i j : Bool) : neG (.bl i) (.bl j) = .ok (.bl (!decide (i = j))) := rfl
@[simp] theorem ne_ss (i j : Str) : neG (.str i) (.str j) = .ok (.bl (!decide (i = j))) := rfl
@[simp] theorem toB_bl (b : Bool) : toB (.bl b) = .ok b := rfl
@[simp] theorem tru_bl (b : Bool) : truG (.bl b) = .ok b := rfl
@[simp] theorem tru_lst (ds : List D) : truG (.lst ds) = .ok (!ds.isEmpty) := rfl
@[simp] theorem tru_tup (ds : List D) : truG (.tup ds) = .ok (!ds.isEmpty) := rfl
@[simp] theorem tru_int (i : Int) : truG (.int i) = .ok (i != 0) := rfl
@[simp] theorem tru_non : truG .non = .ok false := rfl
@[simp] theorem neg_i (i : Int) : negG (.int i) = .ok (.int (-i)) := rfl
@[simp] theorem abs_i (i : Int) : absG [.int i] = .ok (.int (if i < 0 then -i else i)) := rfl
@[simp] theorem len_lst (ds : List D) : lenG [.lst ds] = .ok (.int ds.length) := rfl
@[simp] theorem len_fz (ds : List D) : lenG [.fz ds] = .ok (.int ds.length) := rfl
@[simp] theorem len_tup (ds : List D) : lenG [.tup ds] = .ok (.int ds.length) := rfl
@[simp] theorem len_kt (ds : List D) : lenG [.kt ds] = .ok (.int ds.length) := rfl
@[simp] theorem lf_int (i : Int) : lf (.int i) = true := by simp [lf]
@[simp] theorem lf_bl (i : Bool) : lf (.bl i) = true := by simp [lf]
@[simp] theorem lf_str (i : Str) : lf (.str i) = true := by simp [lf]
@[simp] theorem lf_non : lf .non = true := by simp [lf]
@[simp] theorem lf_tup (ds : List D) : lf (.tup ds) = lfA ds := by simp [lf]
@[simp] theorem lf_kt (ds : List D) : lf (.kt ds) = lfA ds := by simp [lf]
@[simp] theorem lfA_nil : lfA [] = true := by simp [lfA]
@[simp] theorem lfA_cons (d : D) (ds : List D) : lfA (d :: ds) = (lf d && lfA ds) := by simp [lfA]
@[simp] theorem lfA_ap (xs ys : List D) : lfA (xs ++ ys) = (lfA xs && lfA ys) := by
  induction xs with
  | nil => simp
  | cons x xs ih => simp [ih, Bool.and_assoc]
theorem lfA_map {α : Type} {e : α → D} (h : ∀ x, lf (e x) = true) : ∀ xs : List α, lfA (xs.map e) = true
  | [] => rfl
  | x :: xs => by simp [h, lfA_map h xs]
@[simp] theorem lfA_ints (xs : List Int) : lfA (xs.map D.int) = true := lfA_map lf_int xs
@[simp] theorem isMut_lst (ds : List D) : isMut (.lst ds) = lfA ds := rfl
@[simp] theorem isMut_dct (ds : List (List Key × D)) : isMut (.dct ds) = lfT ds := rfl
@[simp] theorem appE_1 (ds : List D) (d : D) : appE ds [d] = if ds.length < sizeLine then .ok (ds ++ [d]) else .er := rfl
@[simp] theorem idx_lst (ds : List D) (i : Int) : idxG (.lst ds) (.int i) = match atI ds i with | some d => .ok d | none => .er := rfl
@[simp] theorem idx_tup (ds : List D) (i : Int) : idxG (.tup ds) (.int i) = match atI ds i with | some d => .ok d | none => .er := rfl
@[simp] theorem idx_kt (ds : List D) (i : Int) : idxG (.kt ds) (.int i) = match atI ds i with | some d => .ok d | none => .er := rfl
@[simp] theorem idx_fz (ds : List D) (i : Int) : idxG (.fz ds) (.int i) = match atI ds i with | some d => .ok d | none => .er := rfl
@[simp] theorem tuple_lst (ds : List D) : tupleG [.lst ds] = if lfA ds = true then .ok (.tup ds) else .er := rfl
@[simp] theorem tuple_tup (ds : List D) : tupleG [.tup ds] = if lfA ds = true then .ok (.tup ds) else .er := rfl
@[simp] theorem list_lst (ds : List D) : listG [.lst ds] = if lfA ds = true then .ok (.lst ds) else .er := rfl
@[simp] theorem list_tup (ds : List D) : listG [.tup ds] = if lfA ds = true then .ok (.lst ds) else .er := rfl
theorem mul_ok {i j : Int} (h : (-(2 ^ 64) < i ∧ i < 2 ^ 64) ∨ (-(2 ^ 64) < j ∧ j < 2 ^ 64)) : mulG (.int i) (.int j) = .ok (.int (i * j)) := if_pos h
theorem fdiv_ok {i j : Int} (h : 0 < j ∧ j < 1073741824) : fdivG (.int i) (.int j) = .ok (.int (i / j)) := if_pos h
theorem fdivN_ok {i j : Int} (h : 0 < j ∧ j < 1073741824) : fdivNG (.int i) (.int j) = .ok (.int (i / j)) := by
  have e : fdivNG (.int i) (.int j) = .ok (.int (i.fdiv j)) := if_pos (show j ≠ 0 ∧ j.natAbs < 1073741824 by omega)
  rw [e, Int.fdiv_eq_ediv_of_nonneg i (by omega)]
theorem mod_ok {i j : Int} (h : 0 < j) : modG (.int i) (.int j) = .ok (.int (i % j)) := if_pos h
theorem pow_ok {i j : Int} (h : 0 ≤ j ∧ j ≤ 1000000 ∧ i.natAbs < 2 ^ 64) : powG (.int i) (.int j) = .ok (.int (i ^ j.toNat)) := if_pos h
@[simp] theorem pow_10_18 : powG (.int 10) (.int 18) = .ok (.int (10 ^ 18)) := pow_ok (by decide)
@[simp] theorem pow_10_30 : powG (.int 10) (.int 30) = .ok (.int (10 ^ 30)) := pow_ok (by decide)
/-! ### what stands at a place -/
theorem atI_ok {α : Type} {xs : List α} {i : Int} {x : α} (h0 : 0 ≤ i) (h : xs[i.toNat]? = some x) : atI xs i = some x := by
  have hl : i.toNat < xs.length := (List.getElem?_eq_some_iff.mp h).1
  unfold atI ixN
  rw [if_pos h0, if_pos (by omega)]
  exact h
@[simp] theorem atI_0 {α : Type} (x : α) (xs : List α) : atI (x :: xs) 0 = some x := atI_ok (by decide) rfl
@[simp] theorem atI_1 {α : Type} (x y : α) (xs : List α) : atI (x :: y :: xs) 1 = some y := atI_ok (by decide) rfl
@[simp] theorem atI_2 {α : Type} (x y z : α) (xs : List α) : atI (x :: y :: z :: xs) 2 = some z := atI_ok (by decide) rfl
@[simp] theorem atI_3 {α : Type} (x y z w : α) (xs : List α) : atI (x :: y :: z :: w :: xs) 3 = some w := atI_ok (by decide) rfl
@[simp] theorem atI_4 {α : Type} (x y z w u : α) (xs : List α) : atI (x :: y :: z :: w :: u :: xs) 4 = some u := atI_ok (by decide) rfl
@[simp] theorem atI_5 {α : Type} (x y z w u v : α) (xs : List α) : atI (x :: y :: z :: w :: u :: v :: xs) 5 = some v := atI_ok (by decide) rfl
/-! ### loops -/
/-- one turn -/
def turn (tg : D → Rho → Option Rho) (b : Rho → Res) (d : D) (ρ : Rho) : Res := match tg d ρ with
  | none => .er
  | some ρ1 => b ρ1
def nextR (r : Res) (g : Rho → Res) : Res := match r with
  | .nx ρ => g ρ
  | .ct ρ => g ρ
  | .bk ρ => .nx ρ
  | .rt d => .rt d
  | .ex c ρ => .ex c ρ
  | .er => .er
  | .rs d ρ => .rs d ρ
@[simp] theorem next_rs (d : D) (ρ : Rho) (g : Rho → Res) : nextR (.rs d ρ) g = .rs d ρ := rfl
@[simp] theorem next_nx (ρ : Rho) (g : Rho → Res) : nextR (.nx ρ) g = g ρ := rfl
@[simp] theorem next_ct (ρ : Rho) (g : Rho → Res) : nextR (.ct ρ) g = g ρ := rfl
@[simp] theorem next_bk (ρ : Rho) (g : Rho → Res) : nextR (.bk ρ) g = .nx ρ := rfl
@[simp] theorem next_rt (d : D) (g : Rho → Res) : nextR (.rt d) g = .rt d := rfl
@[simp] theorem next_ex (c : Xc) (ρ : Rho) (g : Rho → Res) : nextR (.ex c ρ) g = .ex c ρ := rfl
@[simp] theorem turn_N (i : Nat) (b : Rho → Res) (d : D) (ρ : Rho) : turn (tgN i) b d ρ = b (ρ.set i (.sh d)) := rfl
theorem forR_cons (tg : D → Rho → Option Rho) (b : Rho → Res) (d : D) (ds : List D) (ρ : Rho) : forR tg b (d :: ds) ρ = nextR (turn tg b d ρ) (forR tg b ds) := by
  unfold turn
  rw [forR]
  cases tg d ρ with
  | none => rfl
  | some ρ1 =>
    show (match b ρ1 with | .nx ρ2 => _ | .ct ρ2 => _ | .bk ρ2 => _ | .rt d => _ | .ex c ρ2 => _ | .er => _ | .rs d ρ2 => _) = nextR (b ρ1) _
    cases b ρ1 <;> rfl
@[simp] theorem forR_nil (tg : D → Rho → Option Rho) (b : Rho → Res) (ρ : Rho) : forR tg b [] ρ = .nx ρ := rfl
section
variable {α β : Type} {tg : D → Rho → Option Rho} {b : Rho → Res}
/-- an accumulator that grows -/
theorem forR_acc (e : β → D) (st : List D → Rho) (g : β → List D) : ∀ (xs : List β) (acc : List D) (n : Nat), acc.length + (xs.flatMap g).length ≤ n → (∀ acc x, x ∈ xs → acc.length + (g x).length ≤ n → turn tg b (e x) (st acc) = .nx (st (acc ++ g x))) →
    forR tg b (xs.map e) (st acc) = .nx (st (acc ++ xs.flatMap g))
  | [], acc, n, _, _ => by simp
  | x :: xs, acc, n, hn, h => by
    simp only [List.flatMap_cons, List.length_append] at hn
    rw [List.map_cons, forR_cons, h acc x List.mem_cons_self (by omega), next_nx, List.flatMap_cons, ← List.append_assoc]
    refine forR_acc e st g xs (acc ++ g x) n (by simp only [List.length_append]; omega) fun acc y hy => h acc y (List.mem_cons_of_mem _ hy)
theorem forR_find (e : β → D) (p : β → Bool) (r : β → D) (ρ : Rho) : ∀ (xs : List β), (∀ x, x ∈ xs → turn tg b (e x) ρ = if p x = true then .rt (r x) else .nx ρ) →
    forR tg b (xs.map e) ρ = match xs.find? p with | some x => .rt (r x) | none => .nx ρ
  | [], _ => rfl
  | x :: xs, h => by
    rw [List.map_cons, forR_cons, h x List.mem_cons_self, List.find?_cons]
    cases p x with
    | true => rfl
    | false => simpa using forR_find e p r ρ xs fun y hy => h y (List.mem_cons_of_mem _ hy)
/-- a while loop by its turns -/
theorem while_n {c : Rho → M Bool} (st : Nat → Rho) : ∀ (k n : Nat), k < n → (∀ i, i < k → c (st i) = .ok true ∧ b (st i) = .nx (st (i + 1))) → c (st k) = .ok false → whileN c b n (st 0) = .nx (st k)
  | 0, n + 1, _, _, he => by rw [whileN, he]
  | k + 1, n + 1, hk, hc, he => by
    rw [whileN, (hc 0 (Nat.succ_pos k)).1]
    simp only
    rw [(hc 0 (Nat.succ_pos k)).2]
    simp only
    exact while_n (fun i => st (i + 1)) k n (by omega) (fun i hi => hc (i + 1) (by omega)) he
  | _, 0, hk, _, _ => by omega
/-- a turn of a comprehension -/
def pickC (tg : D → Rho → Option Rho) (c : Rho → M Bool) (f : Rho → M D) (d : D) (ρ : Rho) : M (Option D) := match tg d ρ with
  | none => .er
  | some ρ1 => match c ρ1 with
    | .ok true => (match f ρ1 with | .ok y => .ok (some y) | _ => .er)
    | .ok false => .ok none
    | _ => .er
variable {c : Rho → M Bool} {f : Rho → M D}
@[simp] theorem pick_all (d : D) (ρ : Rho) : pickC tg cYes f d ρ = match tg d ρ with
  | none => .er
  | some ρ1 => (match f ρ1 with | .ok y => .ok (some y) | _ => .er) := by
  unfold pickC
  cases tg d ρ <;> rfl
theorem compL_cons (ρ : Rho) (d : D) (ds : List D) : compL tg c f ρ (d :: ds) = M.bind (pickC tg c f d ρ) fun o => match o with
    | some y => M.bind (compL tg c f ρ ds) fun ys => .ok (y :: ys)
    | none => compL tg c f ρ ds := by
  unfold pickC
  rw [compL]
  cases tg d ρ with
  | none => rfl
  | some ρ1 =>
    simp only
    cases hc : c ρ1 with
    | ok k =>
      cases k with
      | true =>
        simp only
        cases f ρ1 <;> rfl
      | false => rfl
    | ex _ => rfl
    | er => rfl
theorem compL_pick (e : β → D) (ρ : Rho) (g : β → Option D) : ∀ (xs : List β), (∀ x, x ∈ xs → pickC tg c f (e x) ρ = .ok (g x)) → compL tg c f ρ (xs.map e) = .ok (xs.filterMap g)
  | [], _ => rfl
  | x :: xs, h => by
    rw [List.map_cons, compL_cons, h x List.mem_cons_self, compL_pick e ρ g xs fun y hy => h y (List.mem_cons_of_mem _ hy), bind_ok]
    cases hg : g x with
    | none => rw [List.filterMap_cons_none hg]
    | some y => rw [List.filterMap_cons_some hg]; rfl
theorem compL_map (e : β → D) (ρ : Rho) (g : β → D) (xs : List β) (h : ∀ x, x ∈ xs → pickC tg c f (e x) ρ = .ok (some (g x))) : compL tg c f ρ (xs.map e) = .ok (xs.map g) := by
  rw [compL_pick e ρ (fun x => some (g x)) xs h]
  congr 1
  induction xs with
  | nil => rfl
  | cons x xs ih => simp only [List.filterMap_cons, ih fun y hy => h y (List.mem_cons_of_mem _ hy), List.map_cons]
theorem compL_filt (e : β → D) (ρ : Rho) (p : β → Bool) (g : β → D) (xs : List β) (h : ∀ x, x ∈ xs → pickC tg c f (e x) ρ = .ok (if p x = true then some (g x) else none)) : compL tg c f ρ (xs.map e) = .ok ((xs.filter p).map g) := by
  rw [compL_pick e ρ (fun x => if p x = true then some (g x) else none) xs h]
  congr 1
  induction xs with
  | nil => rfl
  | cons x xs ih =>
    have ih := ih fun y hy => h y (List.mem_cons_of_mem _ hy)
    cases hp : p x with
    | true => rw [List.filterMap_cons_some (by rw [hp]; rfl), List.filter_cons_of_pos hp, ih]; rfl
    | false => rw [List.filterMap_cons_none (by rw [hp]; rfl), List.filter_cons_of_neg (by rw [hp]; decide), ih]
end
@[simp] theorem rngD_len (lo : Int) (n : Nat) : (rngD lo n).length = n := by simp [rngD]
theorem rngD_map (lo : Int) (n : Nat) : rngD lo n = (List.range n).map fun i => D.int (lo + (i : Nat)) := rfl
end VL
set_option Elab.async false
set_option linter.all false
set_option maxRecDepth 100000
/-! VM2: places, ranges. -/
namespace VL
open PySem L2 PySem.Spec PyProof.Rows
abbrev P3 := Int × Int × Int
def e3 (p : P3) : D := .tup [.int p.1, .int p.2.1, .int p.2.2]
@[simp] theorem isOb_e3 (p : P3) : isOb (e3 p) = false := rfl
@[simp] theorem lf_e3 (p : P3) : lf (e3 p) = true := by simp [e3]
@[simp] theorem lfA_e3 (xs : List P3) : lfA (xs.map e3) = true := lfA_map lf_e3 xs
@[simp] theorem inst_tuple_e3 (p : P3) : instD .tuple (e3 p) = true := rfl
@[simp] theorem inst_list_e3 (p : P3) : instD .list (e3 p) = false := rfl
@[simp] theorem inst_bool_e3 (p : P3) : instD .bool (e3 p) = false := rfl
@[simp] theorem inst_int_e3 (p : P3) : instD .int (e3 p) = false := rfl
@[simp] theorem inst_str_e3 (p : P3) : instD .str (e3 p) = false := rfl
@[simp] theorem isNonD_e3 (p : P3) : isNonD (e3 p) = false := rfl
@[simp] theorem len_e3 (p : P3) : lenG [e3 p] = .ok (.int 3) := rfl
@[simp] theorem idx_e3_0 (p : P3) : idxG (e3 p) (.int 0) = .ok (.int p.1) := by simp [e3]
@[simp] theorem idx_e3_1 (p : P3) : idxG (e3 p) (.int 1) = .ok (.int p.2.1) := by simp [e3]
@[simp] theorem idx_e3_2 (p : P3) : idxG (e3 p) (.int 2) = .ok (.int p.2.2) := by simp [e3]
theorem e3_eta (p : P3) : D.tup [.int p.1, .int p.2.1, .int p.2.2] = e3 p := rfl
@[simp] theorem list_e3 (p : P3) : listG [e3 p] = .ok (.lst [.int p.1, .int p.2.1, .int p.2.2]) := by simp [e3]
@[simp] theorem tuple_e3 (p : P3) : tupleG [e3 p] = .ok (e3 p) := by simp [e3]
@[simp] theorem shaped_e3 (p : P3) : SeqAt.shaped (toP (e3 p)) = true := by simp [e3, toP, toPA, SeqAt.shaped, PyData.canLay0, PyData.canLayAll0, PyData.depth, PyData.depthAll]
theorem eqv_e3 (p q : P3) : PyData.eqv (toP (e3 p)) (toP (e3 q)) = decide (p = q) := by
  obtain ⟨a, b, c⟩ := p
  obtain ⟨x, y, z⟩ := q
  rw [Bool.eq_iff_iff]
  simp [e3, toP, toPA, PyData.eqv, PyData.eqvAll, Prod.ext_iff]
@[simp] theorem eq_e3 (p q : P3) : eqG (e3 p) (e3 q) = .ok (.bl (decide (p = q))) := by
  have h : eqG (e3 p) (e3 q) = if SeqAt.shaped (toP (e3 p)) = true ∧ SeqAt.shaped (toP (e3 q)) = true then M.ok (D.bl (PyData.eqv (toP (e3 p)) (toP (e3 q)))) else M.er := by rfl
  rw [h, if_pos ⟨shaped_e3 p, shaped_e3 q⟩, eqv_e3]
@[simp] theorem items_e3 (p : P3) : itemsG (e3 p) = .ok [.int p.1, .int p.2.1, .int p.2.2] := rfl
def rng (n : Int) : List Int := (List.range n.toNat).map fun (i : Nat) => (i : Int)
theorem rngD_0 (n : Int) : rngD 0 n.toNat = (rng n).map D.int := by
  rw [rngD_map, rng, List.map_map]
  exact List.map_congr_left fun i _ => by simp
theorem mem_rng {n x : Int} : x ∈ rng n ↔ 0 ≤ x ∧ x < n := by
  unfold rng
  rw [List.mem_map]
  constructor
  · rintro ⟨i, hi, rfl⟩
    have := List.mem_range.mp hi
    omega
  · intro h
    exact ⟨x.toNat, List.mem_range.mpr (by omega), by omega⟩
@[simp] theorem rng_len (n : Int) : (rng n).length = n.toNat := by simp [rng]
def places (s : P3) : List P3 := (rng s.1).flatMap fun x => (rng s.2.1).flatMap fun y => (rng s.2.2).map fun z => (x, y, z)
theorem mem_places {s p : P3} : p ∈ places s ↔ (0 ≤ p.1 ∧ p.1 < s.1) ∧ (0 ≤ p.2.1 ∧ p.2.1 < s.2.1) ∧ (0 ≤ p.2.2 ∧ p.2.2 < s.2.2) := by
  unfold places
  simp only [List.mem_flatMap, List.mem_map, mem_rng]
  constructor
  · rintro ⟨x, hx, y, hy, z, hz, rfl⟩
    exact ⟨hx, hy, hz⟩
  · rintro ⟨hx, hy, hz⟩
    exact ⟨p.1, hx, p.2.1, hy, p.2.2, hz, rfl⟩
theorem flatMap_len {α β : Type} (f : α → List β) (n : Nat) : ∀ xs : List α, (∀ x, x ∈ xs → (f x).length = n) → (xs.flatMap f).length = xs.length * n
  | [], _ => by simp
  | x :: xs, h => by
    rw [List.flatMap_cons, List.length_append, h x List.mem_cons_self, flatMap_len f n xs fun y hy => h y (List.mem_cons_of_mem _ hy), List.length_cons, Nat.add_mul, Nat.one_mul, Nat.add_comm]
theorem places_len (s : P3) : (places s).length = s.1.toNat * (s.2.1.toNat * s.2.2.toNat) := by
  unfold places
  rw [flatMap_len _ (s.2.1.toNat * s.2.2.toNat), rng_len]
  intro x _
  rw [flatMap_len _ s.2.2.toNat, rng_len]
  intro y _
  simp
theorem prod3_le {a b c n : Nat} (ha : a ≤ n) (hb : b ≤ n) (hc : c ≤ n) : a * (b * c) ≤ n * (n * n) := Nat.mul_le_mul ha (Nat.mul_le_mul hb hc)
/-- sizes of a block -/
def Sz (n : Int) (s : P3) : Prop := (1 ≤ s.1 ∧ s.1 ≤ n) ∧ (1 ≤ s.2.1 ∧ s.2.1 ≤ n) ∧ (1 ≤ s.2.2 ∧ s.2.2 ≤ n)
theorem Sz.len {n : Nat} {s : P3} (h : Sz n s) : (places s).length ≤ n * (n * n) := by
  rw [places_len]
  obtain ⟨h1, h2, h3⟩ := h
  exact prod3_le (by omega) (by omega) (by omega)
@[simp] theorem zipD_nil (ys : List D) : zipD [] ys = [] := by cases ys <;> rfl
@[simp] theorem rngD_01 : rngD 0 1 = [.int 0] := rfl
@[simp] theorem rngD_02 : rngD 0 2 = [.int 0, .int 1] := rfl
@[simp] theorem rngD_03 : rngD 0 3 = [.int 0, .int 1, .int 2] := rfl
@[simp] theorem rngD_06 : rngD 0 6 = [.int 0, .int 1, .int 2, .int 3, .int 4, .int 5] := rfl
def inB (s p : P3) : Bool := (decide (0 ≤ p.1) && decide (p.1 < s.1)) && ((decide (0 ≤ p.2.1) && decide (p.2.1 < s.2.1)) && (decide (0 ≤ p.2.2) && decide (p.2.2 < s.2.2)))
theorem inB_iff {s p : P3} : inB s p = true ↔ (0 ≤ p.1 ∧ p.1 < s.1) ∧ (0 ≤ p.2.1 ∧ p.2.1 < s.2.1) ∧ (0 ≤ p.2.2 ∧ p.2.2 < s.2.2) := by simp [inB]
/-! ### steps -/
def stp (p w : P3) (m : Int) : P3 := (p.1 + m * w.1, p.2.1 + m * w.2.1, p.2.2 + m * w.2.2)
def Bw (w : P3) : Prop := (-1000 < w.1 ∧ w.1 < 1000) ∧ (-1000 < w.2.1 ∧ w.2.1 < 1000) ∧ (-1000 < w.2.2 ∧ w.2.2 < 1000)
def Nz (w : P3) : Prop := w.1 ≠ 0 ∨ w.2.1 ≠ 0 ∨ w.2.2 ≠ 0
theorem stp_stp (p w : P3) (a b : Int) : stp (stp p w a) w b = stp p w (a + b) := by
  simp only [stp, Int.add_mul]
  refine Prod.ext ?_ (Prod.ext ?_ ?_) <;> simp only <;> omega
@[simp] theorem stp_0 (p w : P3) : stp p w 0 = p := by simp [stp]
/-- how far it is from the edge, against the way -/
def mu (s w p : P3) : Nat := if 0 < w.1 then p.1.toNat else if w.1 < 0 then (s.1 - p.1).toNat else if 0 < w.2.1 then p.2.1.toNat else if w.2.1 < 0 then (s.2.1 - p.2.1).toNat else if 0 < w.2.2 then p.2.2.toNat else (s.2.2 - p.2.2).toNat
theorem mu_lt {s w p : P3} (hw : Nz w) (h1 : inB s p = true) (h2 : inB s (stp p w (-1)) = true) : mu s w (stp p w (-1)) < mu s w p := by
  rw [inB_iff] at h1 h2
  unfold Nz at hw
  simp only [stp] at h2 ⊢
  unfold mu
  simp only
  repeat' split
  all_goals omega
theorem mu_le {n : Nat} {s w p : P3} (hs : Sz n s) (h1 : inB s p = true) : mu s w p ≤ n := by
  rw [inB_iff] at h1
  unfold Sz at hs
  unfold mu
  repeat' split
  all_goals omega
def back (s w : P3) : Nat → P3 → Nat
  | 0, _ => 0
  | n + 1, p => if inB s (stp p w (-1)) = true then back s w n (stp p w (-1)) + 1 else 0
theorem back_spec {s w : P3} (hw : Nz w) : ∀ (n : Nat) (p : P3), inB s p = true → mu s w p < n → (∀ i : Nat, i ≤ back s w n p → inB s (stp p w (-(i : Int))) = true) ∧ inB s (stp p w (-(back s w n p : Int) - 1)) = false ∧ back s w n p ≤ mu s w p
  | 0, _, _, h => by omega
  | n + 1, p, hp, h => by
    unfold back
    by_cases c : inB s (stp p w (-1)) = true
    · rw [if_pos c]
      have hl := mu_lt hw hp c
      obtain ⟨h1, h2, h3⟩ := back_spec hw n (stp p w (-1)) c (by omega)
      refine ⟨fun i hi => ?_, ?_, by omega⟩
      · cases i with
        | zero => simpa using hp
        | succ i =>
          have := h1 i (by omega)
          rw [stp_stp] at this
          rw [show (-((i + 1 : Nat) : Int)) = -1 + -(i : Int) by omega]
          exact this
      · rw [stp_stp] at h2
        rw [show (-((back s w n (stp p w (-1)) + 1 : Nat) : Int) - 1) = -1 + (-(back s w n (stp p w (-1)) : Int) - 1) by omega]
        exact h2
    · rw [if_neg c]
      refine ⟨fun i hi => ?_, ?_, Nat.zero_le _⟩
      · have : i = 0 := by omega
        subst this
        simpa using hp
      · simpa using c
def depth (s w p : P3) : Nat := back s w 1000 p
def door (s w p : P3) : P3 := stp p w (-(depth s w p : Int))
theorem depth_spec {s w p : P3} (hs : Sz 100 s) (hw : Nz w) (hp : inB s p = true) : (∀ i : Nat, i ≤ depth s w p → inB s (stp p w (-(i : Int))) = true) ∧ inB s (stp p w (-(depth s w p : Int) - 1)) = false ∧ depth s w p ≤ 100 := by
  have hm : mu s w p ≤ 100 := mu_le (n := 100) hs hp
  obtain ⟨h1, h2, h3⟩ := back_spec hw 1000 p hp (by omega)
  exact ⟨h1, h2, Nat.le_trans h3 hm⟩
def neg3 (w : P3) : P3 := (-w.1, -w.2.1, -w.2.2)
theorem stp_neg (p w : P3) (m : Int) : stp p (neg3 w) m = stp p w (-m) := by
  simp [stp, neg3, Int.mul_neg, Int.neg_mul]
theorem Nz.neg {w : P3} (h : Nz w) : Nz (neg3 w) := by
  unfold Nz neg3 at *
  simp only
  omega
/-- the line from a door on -/
def fore (s w d : P3) : Nat := depth s (neg3 w) d + 1
def line (s w d : P3) : List P3 := (List.range (fore s w d)).map fun i => stp d w (i : Nat)
theorem fore_spec {s w d : P3} (hs : Sz 100 s) (hw : Nz w) (hp : inB s d = true) : (∀ i : Nat, i < fore s w d → inB s (stp d w (i : Nat)) = true) ∧ inB s (stp d w (fore s w d : Nat)) = false ∧ fore s w d ≤ 101 := by
  obtain ⟨h1, h2, h3⟩ := depth_spec hs hw.neg hp
  unfold fore
  refine ⟨fun i hi => ?_, ?_, by omega⟩
  · have := h1 i (by omega)
    rw [stp_neg, Int.neg_neg] at this
    exact this
  · rw [stp_neg, show -(-(depth s (neg3 w) d : Int) - 1) = ((depth s (neg3 w) d + 1 : Nat) : Int) by omega] at h2
    exact h2
theorem canLay_e3s : ∀ xs : List P3, PyData.canLayAll0 (toPA (xs.map e3)) = true
  | [] => by simp [toPA, PyData.canLayAll0]
  | x :: xs => by simp [toPA, PyData.canLayAll0, canLay_e3s xs, e3, toP, PyData.canLay0]
theorem depth_e3s : ∀ xs : List P3, PyData.depthAll (toPA (xs.map e3)) ≤ 2
  | [] => by simp [toPA, PyData.depthAll]
  | x :: xs => by
    have := depth_e3s xs
    simp [toPA, PyData.depthAll, e3, toP, PyData.depth]
    omega
theorem shaped_e3s (xs : List P3) : SeqAt.shaped (toP (.lst (xs.map e3))) = true := by
  have h := depth_e3s xs
  simp only [toP, SeqAt.shaped, PyData.canLay0, PyData.depth, canLay_e3s, Bool.true_and, decide_eq_true_eq]
  omega
theorem in_e3s (p : P3) (xs : List P3) : inB_ (e3 p) (.lst (xs.map e3)) = .ok (decide (p ∈ xs)) := by
  have h : inB_ (e3 p) (.lst (xs.map e3)) = if SeqAt.shaped (toP (e3 p)) = true ∧ SeqAt.shaped (toP (.lst (xs.map e3))) = true then M.ok ((xs.map e3).any fun z => PyData.eqv (toP z) (toP (e3 p))) else M.er := by rfl
  rw [h, if_pos ⟨shaped_e3 p, shaped_e3s xs⟩, List.any_map]
  congr 1
  rw [Bool.eq_iff_iff, List.any_eq_true, decide_eq_true_eq]
  simp only [Function.comp, eqv_e3, decide_eq_true_eq]
  exact ⟨fun ⟨x, h1, h2⟩ => h2 ▸ h1, fun h => ⟨p, h, rfl⟩⟩
/-! ### ways -/
def Way (w : P3) : Prop := ((-3 ≤ w.1 ∧ w.1 ≤ 3) ∧ (-3 ≤ w.2.1 ∧ w.2.1 ≤ 3) ∧ (-3 ≤ w.2.2 ∧ w.2.2 ≤ 3)) ∧ Int.gcd (Int.gcd w.1 w.2.1) w.2.2 = 1
theorem Way.nz {w : P3} (h : Way w) : Nz w := by
  unfold Nz
  by_cases h1 : w.1 = 0
  · by_cases h2 : w.2.1 = 0
    · by_cases h3 : w.2.2 = 0
      · have := h.2
        rw [h1, h2, h3] at this
        exact absurd this (by decide)
      · exact .inr (.inr h3)
    · exact .inr (.inl h2)
  · exact .inl h1
theorem Way.bw {w : P3} (h : Way w) : Bw w := by
  obtain ⟨⟨h1, h2, h3⟩, _⟩ := h
  unfold Bw
  omega
theorem Sz.le {m n : Int} {s : P3} (h : Sz m s) (hm : m ≤ n) : Sz n s := by
  unfold Sz at h ⊢
  omega
end VL
set_option Elab.async false
set_option linter.all false
set_option maxRecDepth 100000
/-! VM3: what hides what. -/
namespace VL
open PySem L2 PySem.Spec PyProof.Rows
def ones : List Int := [-1, 0, 1]
end VL
set_option Elab.async false
set_option linter.all false
set_option maxRecDepth 100000
/-! VM4: dicts by places; what is seen along a line. -/
namespace VL
open PySem L2 PySem.Spec PyProof.Rows
/-! ### dicts -/
def k3 (p : P3) : List Key := [.inl p.1, .inl p.2.1, .inl p.2.2]
theorem k3_inj {p q : P3} : k3 p = k3 q ↔ p = q := by
  constructor
  · intro h
    simp only [k3, List.cons.injEq, Sum.inl.injEq, and_true] at h
    exact Prod.ext h.1 (Prod.ext h.2.1 h.2.2)
  · rintro rfl
    rfl
@[simp] theorem keyOf_e3 (p : P3) : keyOf [.int p.1, .int p.2.1, .int p.2.2] = some (k3 p) := rfl
@[simp] theorem lookD_e3 (p : P3) (kvs : List (List Key × D)) : lookD (e3 p) (.dct kvs) = some (lookT kvs (k3 p)) := rfl
@[simp] theorem lookT_nil (k : List Key) : lookT [] k = none := rfl
theorem lookT_cons (kv : List Key × D) (kvs : List (List Key × D)) (k : List Key) : lookT (kv :: kvs) k = if kv.1 = k then some kv.2 else lookT kvs k := by
  unfold lookT
  rw [List.find?_cons]
  by_cases h : kv.1 = k
  · simp [h]
  · simp [h]
theorem lookT_append (xs ys : List (List Key × D)) (k : List Key) : lookT (xs ++ ys) k = (lookT xs k).or (lookT ys k) := by
  induction xs with
  | nil => rfl
  | cons x xs ih =>
    rw [List.cons_append, lookT_cons, lookT_cons, ih]
    split <;> rfl
theorem lookT_none {kvs : List (List Key × D)} {k : List Key} : lookT kvs k = none ↔ ¬ (kvs.any fun kv => decide (kv.1 = k)) = true := by
  induction kvs with
  | nil => simp
  | cons x xs ih =>
    rw [lookT_cons, List.any_cons]
    by_cases h : x.1 = k
    · simp [h]
    · simp [h, ih]
theorem lookT_map {kvs : List (List Key × D)} {k k' : List Key} {v : D} : lookT (kvs.map fun kv => if kv.1 = k then (kv.1, v) else kv) k' = if k' = k then (lookT kvs k').map fun _ => v else lookT kvs k' := by
  induction kvs with
  | nil => simp
  | cons x xs ih =>
    rw [List.map_cons, lookT_cons, lookT_cons, ih]
    by_cases h : x.1 = k <;> by_cases h' : k' = k <;> by_cases h2 : x.1 = k'
    all_goals first
      | (simp [h, h', h2]; done)
      | (subst h'; simp_all; done)
      | (exfalso; apply h'; rw [← h2, h])
      | (rw [if_pos h, if_neg (fun z => h' (z.symm.trans h)), if_neg h', if_neg (fun z => h2 z), if_neg h'])
      | skip
theorem lookT_put (kvs : List (List Key × D)) (k k' : List Key) (v : D) : lookT (putT kvs k v) k' = if k' = k then some v else lookT kvs k' := by
  unfold putT
  by_cases h : (kvs.any fun kv => decide (kv.1 = k)) = true
  · rw [if_pos h, lookT_map]
    by_cases h' : k' = k
    · subst h'
      rw [if_pos rfl, if_pos rfl]
      cases e : lookT kvs k' with
      | none => exact absurd h (lookT_none.mp e)
      | some d => rfl
    · rw [if_neg h', if_neg h']
  · rw [if_neg h, lookT_append, lookT_cons, lookT_nil]
    by_cases h' : k' = k
    · subst h'
      rw [lookT_none.mpr h, if_pos rfl]
      simp
    · rw [if_neg h', if_neg (fun z => h' z.symm), Option.or_none]
theorem putT_len (kvs : List (List Key × D)) (k : List Key) (v : D) : (putT kvs k v).length ≤ kvs.length + 1 := by
  unfold putT
  split <;> simp
@[simp] theorem lfT_nil : lfT [] = true := by simp [lfT]
@[simp] theorem lfT_cons (x : List Key × D) (xs : List (List Key × D)) : lfT (x :: xs) = (lf x.2 && lfT xs) := by simp [lfT]
theorem lfT_append (xs ys : List (List Key × D)) : lfT (xs ++ ys) = (lfT xs && lfT ys) := by
  induction xs with
  | nil => simp
  | cons x xs ih => simp [ih, Bool.and_assoc]
theorem lfT_put {kvs : List (List Key × D)} {k : List Key} {v : D} (h : lfT kvs = true) (hv : lf v = true) : lfT (putT kvs k v) = true := by
  unfold putT
  split
  · induction kvs with
    | nil => rfl
    | cons x xs ih =>
      rw [lfT_cons, Bool.and_eq_true] at h
      rw [List.map_cons, lfT_cons]
      by_cases e : x.1 = k
      · rw [if_pos e]
        simp only [hv, Bool.true_and]
        clear ih
        have : ∀ ys : List (List Key × D), lfT ys = true → lfT (ys.map fun kv => if kv.1 = k then (kv.1, v) else kv) = true := by
          intro ys
          induction ys with
          | nil => intro _; rfl
          | cons y ys ih2 =>
            intro hy
            rw [lfT_cons, Bool.and_eq_true] at hy
            rw [List.map_cons, lfT_cons, ih2 hy.2]
            by_cases e2 : y.1 = k
            · rw [if_pos e2]; simp [hv]
            · rw [if_neg e2]; simp [hy.1]
        exact this xs h.2
      · rw [if_neg e]
        simp only [h.1, Bool.true_and]
        have : ∀ ys : List (List Key × D), lfT ys = true → lfT (ys.map fun kv => if kv.1 = k then (kv.1, v) else kv) = true := by
          intro ys
          induction ys with
          | nil => intro _; rfl
          | cons y ys ih2 =>
            intro hy
            rw [lfT_cons, Bool.and_eq_true] at hy
            rw [List.map_cons, lfT_cons, ih2 hy.2]
            by_cases e2 : y.1 = k
            · rw [if_pos e2]; simp [hv]
            · rw [if_neg e2]; simp [hy.1]
        exact this xs h.2
  · rw [lfT_append, h]
    simp [hv]
/-- the marks of a stone -/
def markD (xs : List P3) (kvs : List (List Key × D)) : List (List Key × D) := xs.foldl (fun acc p => putT acc (k3 p) (.bl true)) kvs
def marksD (xs : List P3) : List (List Key × D) := markD xs []
theorem look_markD : ∀ (xs : List P3) (kvs : List (List Key × D)) (p : P3), lookT (markD xs kvs) (k3 p) = if p ∈ xs then some (.bl true) else lookT kvs (k3 p)
  | [], kvs, p => by simp [markD]
  | x :: xs, kvs, p => by
    show lookT (markD xs (putT kvs (k3 x) (.bl true))) (k3 p) = _
    rw [look_markD xs _ p, lookT_put]
    by_cases h : p ∈ xs
    · simp [h]
    · by_cases h2 : p = x
      · subst h2; simp
      · simp [h, h2, k3_inj]
theorem look_marks (xs : List P3) (p : P3) : lookT (marksD xs) (k3 p) = if p ∈ xs then some (.bl true) else none := look_markD xs [] p
@[simp] theorem in_marks (xs : List P3) (p : P3) : inB_ (e3 p) (.dct (marksD xs)) = .ok (decide (p ∈ xs)) := by
  unfold inB_
  rw [lookD_e3, look_marks]
  by_cases h : p ∈ xs <;> simp [h]
/-! ### lists of places, told apart -/
theorem eqvAll_e3s : ∀ xs ys : List P3, PyData.eqvAll (toPA (xs.map e3)) (toPA (ys.map e3)) = decide (xs = ys)
  | [], [] => by simp [toPA, PyData.eqvAll]
  | [], y :: ys => by simp [toPA, PyData.eqvAll]
  | x :: xs, [] => by simp [toPA, PyData.eqvAll]
  | x :: xs, y :: ys => by
    simp only [List.map_cons, toPA, PyData.eqvAll, eqv_e3, eqvAll_e3s xs ys]
    rw [Bool.eq_iff_iff]
    simp
@[simp] theorem eq_e3s (xs ys : List P3) : eqG (.lst (xs.map e3)) (.lst (ys.map e3)) = .ok (.bl (decide (xs = ys))) := by
  have h : eqG (.lst (xs.map e3)) (.lst (ys.map e3)) = if SeqAt.shaped (toP (.lst (xs.map e3))) = true ∧ SeqAt.shaped (toP (.lst (ys.map e3))) = true then M.ok (D.bl (PyData.eqv (toP (.lst (xs.map e3))) (toP (.lst (ys.map e3))))) else M.er := by rfl
  rw [h, if_pos ⟨shaped_e3s xs, shaped_e3s ys⟩]
  simp only [toP, PyData.eqv, eqvAll_e3s]
@[simp] theorem ne_e3s (xs ys : List P3) : neG (.lst (xs.map e3)) (.lst (ys.map e3)) = .ok (.bl (!decide (xs = ys))) := by
  unfold neG notM
  rw [eq_e3s]
  rfl
@[simp] theorem ne_e3 (p q : P3) : neG (e3 p) (e3 q) = .ok (.bl (!decide (p = q))) := by
  unfold neG notM
  rw [eq_e3]
  rfl
/-! ### the first of a kind -/
theorem first_ex (P : Nat → Bool) : ∀ N : Nat, (∀ i, i < N → P i = false) ∨ ∃ k, k < N ∧ P k = true ∧ ∀ i, i < k → P i = false
  | 0 => .inl fun i h => absurd h (Nat.not_lt_zero i)
  | N + 1 => by
    rcases first_ex P N with h | ⟨k, h1, h2, h3⟩
    · cases hN : P N with
      | true => exact .inr ⟨N, Nat.lt_succ_self N, hN, h⟩
      | false =>
        refine .inl fun i hi => ?_
        by_cases e : i = N
        · rw [e]; exact hN
        · exact h i (by omega)
    · exact .inr ⟨k, Nat.lt_succ_of_lt h1, h2, h3⟩
/-- nothing stands ahead of p, looked at along the way -/
def seenB (s w : P3) (M : P3 → Bool) (p : P3) : Bool := (List.range (depth s w p)).all fun i => !M (stp p w (-((i : Int) + 1)))
theorem seen_cases (s w p : P3) (M : P3 → Bool) : (seenB s w M p = true ∧ ∀ i, i < depth s w p → M (stp p w (-((i : Int) + 1))) = false) ∨ (seenB s w M p = false ∧ ∃ k, k < depth s w p ∧ M (stp p w (-((k : Int) + 1))) = true ∧ ∀ i, i < k → M (stp p w (-((i : Int) + 1))) = false) := by
  rcases first_ex (fun i => M (stp p w (-((i : Int) + 1)))) (depth s w p) with h | ⟨k, h1, h2, h3⟩
  · refine .inl ⟨?_, h⟩
    unfold seenB
    rw [List.all_eq_true]
    intro i hi
    rw [h i (List.mem_range.mp hi)]
    rfl
  · refine .inr ⟨?_, k, h1, h2, h3⟩
    unfold seenB
    rw [Bool.eq_false_iff]
    intro hc
    have := List.all_eq_true.mp hc k (List.mem_range.mpr h1)
    simp only [h2] at this
    cases this
/-! ### doors and what is first on a line -/
theorem depth_unique {s w p : P3} {n : Nat} (hs : Sz 100 s) (hw : Nz w) (h1 : ∀ i : Nat, i ≤ n → inB s (stp p w (-(i : Int))) = true) (h2 : inB s (stp p w (-(n : Int) - 1)) = false) : depth s w p = n := by
  have hp : inB s p = true := by have := h1 0 (Nat.zero_le _); simpa using this
  obtain ⟨d1, d2, d3⟩ := depth_spec hs hw hp
  rcases Nat.lt_trichotomy (depth s w p) n with h | h | h
  · have := h1 (depth s w p + 1) h
    rw [show -((depth s w p + 1 : Nat) : Int) = -(depth s w p : Int) - 1 by omega, d2] at this
    cases this
  · exact h
  · have := d1 (n + 1) h
    rw [show -((n + 1 : Nat) : Int) = -(n : Int) - 1 by omega, h2] at this
    cases this
/-- a door: in the block, and what is ahead of it is not -/
def IsDoor (s w d : P3) : Prop := inB s d = true ∧ inB s (stp d w (-1)) = false
theorem door_is {s w p : P3} (hs : Sz 100 s) (hw : Nz w) (hp : inB s p = true) : IsDoor s w (door s w p) := by
  obtain ⟨d1, d2, d3⟩ := depth_spec hs hw hp
  refine ⟨d1 _ (Nat.le_refl _), ?_⟩
  rw [door, stp_stp, show -(depth s w p : Int) + -1 = -(depth s w p : Int) - 1 by omega]
  exact d2
theorem IsDoor.depth {s w d : P3} (hs : Sz 100 s) (hw : Nz w) (h : IsDoor s w d) {i : Nat} (hi : i < fore s w d) : VL.depth s w (stp d w (i : Nat)) = i ∧ VL.door s w (stp d w (i : Nat)) = d := by
  obtain ⟨f1, f2, f3⟩ := fore_spec hs hw h.1
  have e : VL.depth s w (stp d w (i : Nat)) = i := by
    refine depth_unique hs hw (fun j hj => ?_) ?_
    · rw [stp_stp, show (i : Int) + -(j : Int) = ((i - j : Nat) : Int) by omega]
      exact f1 _ (by omega)
    · rw [stp_stp, show (i : Int) + (-(i : Int) - 1) = -1 by omega]
      exact h.2
  refine ⟨e, ?_⟩
  rw [VL.door, e, stp_stp, show (i : Int) + -(i : Int) = 0 by omega, stp_0]
/-! ### order -/
def lt3 (p q : P3) : Bool := HT.lexLt [p.1, p.2.1, p.2.2] [q.1, q.2.1, q.2.2]
@[simp] theorem lt_e3 (p q : P3) : ltG (e3 p) (e3 q) = .ok (.bl (lt3 p q)) := rfl
theorem lt3_iff {p q : P3} : lt3 p q = true ↔ p.1 < q.1 ∨ (p.1 = q.1 ∧ (p.2.1 < q.2.1 ∨ (p.2.1 = q.2.1 ∧ p.2.2 < q.2.2))) := by
  unfold lt3
  simp only [HT.lexLt]
  by_cases h1 : p.1 = q.1
  · rw [if_pos h1]
    by_cases h2 : p.2.1 = q.2.1
    · rw [if_pos h2]
      by_cases h3 : p.2.2 = q.2.2
      · rw [if_pos h3]; simp only [Bool.false_eq_true, false_iff]; omega
      · rw [if_neg h3]; simp only [decide_eq_true_eq]; omega
    · rw [if_neg h2]; simp only [decide_eq_true_eq]; omega
  · rw [if_neg h1]; simp only [decide_eq_true_eq]; omega
def Up (xs : List P3) : Prop := xs.Pairwise fun p q => lt3 p q = true
theorem Up.nodup {xs : List P3} (h : Up xs) : xs.Nodup := List.Pairwise.imp (fun {a b} h e => by
  subst e
  have := lt3_iff.mp h
  omega) h
theorem Up.sub {xs ys : List P3} (h : Up ys) (hs : xs.Sublist ys) : Up xs := List.Pairwise.sublist hs h
theorem rng_up (n : Int) : (rng n).Pairwise (· < ·) := by
  unfold rng
  rw [List.pairwise_map]
  exact List.Pairwise.imp (fun {a b} (h : a < b) => Int.ofNat_lt.mpr h) (List.pairwise_lt_range (n := n.toNat))
theorem places_up (s : P3) : Up (places s) := by
  unfold Up places
  rw [List.pairwise_flatMap]
  refine ⟨fun x _ => ?_, List.Pairwise.imp (fun {a b} (h : a < b) => ?_) (rng_up s.1)⟩
  · rw [List.pairwise_flatMap]
    refine ⟨fun y _ => ?_, List.Pairwise.imp (fun {a b} (h : a < b) => ?_) (rng_up s.2.1)⟩
    · rw [List.pairwise_map]
      exact List.Pairwise.imp (fun {a b} (h : a < b) => show lt3 (x, y, a) (x, y, b) = true from lt3_iff.mpr (.inr ⟨rfl, .inr ⟨rfl, h⟩⟩)) (rng_up s.2.2)
    · intro p hp q hq
      obtain ⟨z, _, rfl⟩ := List.mem_map.mp hp
      obtain ⟨z', _, rfl⟩ := List.mem_map.mp hq
      exact lt3_iff.mpr (.inr ⟨rfl, .inl h⟩)
  · intro p hp q hq
    obtain ⟨y, _, hp⟩ := List.mem_flatMap.mp hp
    obtain ⟨z, _, rfl⟩ := List.mem_map.mp hp
    obtain ⟨y', _, hq⟩ := List.mem_flatMap.mp hq
    obtain ⟨z', _, rfl⟩ := List.mem_map.mp hq
    exact lt3_iff.mpr (by simp only; omega)
/-- seen: nothing marked behind it in the block -/
theorem seen_iff {s w p : P3} {M : P3 → Bool} : seenB s w M p = true ↔ ∀ i : Nat, i < depth s w p → M (stp p w (-((i : Int) + 1))) = false := by
  unfold seenB
  rw [List.all_eq_true]
  constructor
  · intro h i hi
    simpa using h i (List.mem_range.mpr hi)
  · intro h i hi
    rw [h i (List.mem_range.mp hi)]
    rfl
theorem between {a b n i m : Int} (ha : 0 ≤ a ∧ a < n) (hb : 0 ≤ a + -m * b ∧ a + -m * b < n) (hi : 0 ≤ i ∧ i ≤ m) : 0 ≤ a + -i * b ∧ a + -i * b < n := by
  rcases Int.lt_or_le b 0 with h | h
  · have h1 : i * b ≤ 0 := Int.mul_nonpos_of_nonneg_of_nonpos hi.1 (by omega)
    have h2 : m * b ≤ i * b := Int.mul_le_mul_of_nonpos_right hi.2 (by omega)
    rw [Int.neg_mul] at hb ⊢
    omega
  · have h1 : 0 ≤ i * b := Int.mul_nonneg hi.1 h
    have h2 : i * b ≤ m * b := Int.mul_le_mul_of_nonneg_right hi.2 h
    rw [Int.neg_mul] at hb ⊢
    omega
end VL
set_option Elab.async false
set_option linter.all false
set_option maxRecDepth 100000
/-! VM5: dicts built place by place, doors, signs, looks. -/
namespace VL
open PySem L2 PySem.Spec PyProof.Rows
/-! ### a dict built item by item -/
def putAll (kvs : List (List Key × D)) (l : List (P3 × D)) : List (List Key × D) := l.foldl (fun acc x => putT acc (k3 x.1) x.2) kvs
def mkD (l : List (P3 × D)) : List (List Key × D) := putAll [] l
theorem look_putAll (f : P3 → D) : ∀ (ps : List P3) (kvs : List (List Key × D)) (p : P3), lookT (putAll kvs (ps.map fun q => (q, f q))) (k3 p) = if p ∈ ps then some (f p) else lookT kvs (k3 p)
  | [], kvs, p => by simp [putAll]
  | x :: xs, kvs, p => by
    show lookT (putAll (putT kvs (k3 x) (f x)) (xs.map fun q => (q, f q))) (k3 p) = _
    rw [look_putAll f xs _ p, lookT_put]
    by_cases h : p ∈ xs
    · simp [h]
    · by_cases h2 : p = x
      · subst h2; simp
      · simp [h, h2, k3_inj]
theorem look_mkD (f : P3 → D) (ps : List P3) (p : P3) : lookT (mkD (ps.map fun q => (q, f q))) (k3 p) = if p ∈ ps then some (f p) else none := look_putAll f ps [] p
theorem in_mkD (f : P3 → D) (ps : List P3) (p : P3) : inB_ (e3 p) (.dct (mkD (ps.map fun q => (q, f q)))) = .ok (decide (p ∈ ps)) := by
  unfold inB_
  rw [lookD_e3, look_mkD]
  by_cases h : p ∈ ps <;> simp [h]
theorem idx_dct (p : P3) (kvs : List (List Key × D)) (d : D) (h : lookT kvs (k3 p) = some d) : idxG (.dct kvs) (e3 p) = .ok d := by
  show (match keyOf [.int p.1, .int p.2.1, .int p.2.2] with | some ks => (match lookT kvs ks with | some d => M.ok d | none => .er) | none => .er) = _
  rw [keyOf_e3]
  simp only [h]
/-- a loop that builds a dict -/
theorem forR_put {tg : D → Rho → Option Rho} {b : Rho → Res} {β : Type} (e : β → D) (st : List (List Key × D) → Rho) (g : β → P3 × D) : ∀ (xs : List β) (kvs : List (List Key × D)), kvs.length + xs.length ≤ 1000000 →
    (∀ kvs x, x ∈ xs → kvs.length < 1000000 → turn tg b (e x) (st kvs) = .nx (st (putT kvs (k3 (g x).1) (g x).2))) → forR tg b (xs.map e) (st kvs) = .nx (st (putAll kvs (xs.map g)))
  | [], _, _, _ => rfl
  | x :: xs, kvs, hl, h => by
    have h2 := putT_len kvs (k3 (g x).1) (g x).2
    rw [List.length_cons] at hl
    rw [List.map_cons, forR_cons, h kvs x List.mem_cons_self (by omega), next_nx]
    exact forR_put e st g xs _ (by omega) fun kvs y hy => h kvs y (List.mem_cons_of_mem _ hy)
/-! ### doors -/
def doors (s w : P3) : List P3 := (places s).filter fun p => !inB s (stp p w (-1))
theorem mem_doors {s w p : P3} : p ∈ doors s w ↔ IsDoor s w p := by
  unfold doors IsDoor
  rw [List.mem_filter, mem_places, inB_iff]
  simp
theorem doors_up (s w : P3) : Up (doors s w) := (places_up s).sub List.filter_sublist
theorem door_mem {s w p : P3} (hs : Sz 100 s) (hw : Nz w) (hp : inB s p = true) : door s w p ∈ doors s w := mem_doors.mpr (door_is hs hw hp)
/-! ### signs -/
def eS (c : Nat) : D := .str ⟨#[c]⟩
@[simp] theorem isOb_eS (c : Nat) : isOb (eS c) = false := rfl
@[simp] theorem lf_eS (c : Nat) : lf (eS c) = true := by simp [eS]
def sg (ds : List P3) (cs : List Nat) (p : P3) : Nat := cs.getD (ds.idxOf p) 0
theorem zip_sg : ∀ (ds : List P3) (cs : List Nat), ds.Nodup → cs.length = ds.length → ds.zip cs = ds.map fun p => (p, sg ds cs p)
  | [], cs, _, _ => by simp
  | d :: ds, [], _, h => by simp at h
  | d :: ds, c :: cs, hn, h => by
    rw [List.nodup_cons] at hn
    rw [List.zip_cons_cons, List.map_cons, zip_sg ds cs hn.2 (by simpa using h)]
    congr 1
    · simp [sg, List.idxOf_cons]
    · refine List.map_congr_left fun p hp => ?_
      have : ¬ d = p := fun e => hn.1 (e ▸ hp)
      have hb : (d == p) = false := beq_eq_false_iff_ne.mpr this
      simp [sg, List.idxOf_cons, hb]
theorem zipS_map : ∀ (ds : List P3) (cs : List Nat), zipS (ds.map e3) cs = (ds.zip cs).map fun z => D.tup [e3 z.1, eS z.2]
  | [], cs => by simp [zipS]
  | d :: ds, [] => by simp [zipS]
  | d :: ds, c :: cs => by simp [zipS, zipS_map ds cs, eS]
theorem zipS_sg {ds : List P3} {cs : List Nat} (hn : ds.Nodup) (hl : cs.length = ds.length) : zipS (ds.map e3) cs = ds.map fun p => D.tup [e3 p, eS (sg ds cs p)] := by
  rw [zipS_map, zip_sg ds cs hn hl, List.map_map]
  rfl
/-! ### looks -/
structure Lk where
  w : P3
  pic : List Nat
def eL (l : Lk) : D := .tup [e3 l.w, .str ⟨l.pic.toArray⟩]
@[simp] theorem isOb_eL (l : Lk) : isOb (eL l) = false := rfl
@[simp] theorem lf_eL (l : Lk) : lf (eL l) = true := by simp [eL]
/-- a look of the block: a way, a sign for each door -/
def LkOk (s : P3) (l : Lk) : Prop := Way l.w ∧ l.pic.length = (doors s l.w).length
/-- the sign a place meets -/
def sign (s : P3) (l : Lk) (p : P3) : Nat := sg (doors s l.w) l.pic (door s l.w p)
theorem doors_len (s w : P3) : (doors s w).length ≤ (places s).length := List.length_filter_le _ _
theorem str1_inj {a b : Nat} : (⟨#[a]⟩ : Str) = ⟨#[b]⟩ ↔ a = b := by
  constructor
  · intro h
    have h2 := congrArg (fun s : Str => s.cps.toList) h
    simpa using h2
  · rintro rfl
    rfl
theorem sky_eq : (Str.ofString ".") = ⟨#[46]⟩ := by decide +kernel
theorem veil_eq : (Str.ofString "?") = ⟨#[63]⟩ := by decide +kernel
@[simp] theorem eq_eS (a b : Nat) : eqG (eS a) (eS b) = .ok (.bl (decide (a = b))) := by
  show eqG (.str ⟨#[a]⟩) (.str ⟨#[b]⟩) = _
  rw [eq_ss]
  congr 2
  exact decide_eq_decide.mpr str1_inj
@[simp] theorem ne_eS (a b : Nat) : neG (eS a) (eS b) = .ok (.bl (!decide (a = b))) := by
  unfold neG notM
  rw [eq_eS]
  rfl
@[simp] theorem eq_sky (a : Nat) : eqG (eS a) (.str (Str.ofString ".")) = .ok (.bl (decide (a = 46))) := by rw [sky_eq]; exact eq_eS a 46
@[simp] theorem ne_veil (a : Nat) : neG (eS a) (.str (Str.ofString "?")) = .ok (.bl (!decide (a = 63))) := by rw [veil_eq]; exact ne_eS a 63
@[simp] theorem eq_veil (a : Nat) : eqG (eS a) (.str (Str.ofString "?")) = .ok (.bl (decide (a = 63))) := by rw [veil_eq]; exact eq_eS a 63
@[simp] theorem ne_sky (a : Nat) : neG (eS a) (.str (Str.ofString ".")) = .ok (.bl (!decide (a = 46))) := by rw [sky_eq]; exact ne_eS a 46
/-! ### what bars a grain -/
/-- of what each look tells: seen or not, and the sign; the looks told of so far, or the look that shows sky -/
def barL : Nat → List (Nat × Nat) → List (Bool × Nat) → Nat ⊕ List (Nat × Nat)
  | _, told, [] => .inr told
  | n, told, (sn, c) :: r => if sn = true then (if c = 46 then .inl n else if c ≠ 63 then barL (n + 1) (told ++ [(n, c)]) r else barL (n + 1) told r) else barL (n + 1) told r
def barT : List (Nat × Nat) → Option (Nat × Nat)
  | [] => none
  | t :: ts => ((t :: ts).find? fun z => !decide (z.2 = t.2)).map fun z => (t.1, z.1)
def bar (v : List (Bool × Nat)) : Option (Nat × Nat) := match barL 0 [] v with
  | .inl n => some (n, n)
  | .inr told => barT told
def encB : Option (Nat × Nat) → D
  | some z => .tup [.int (z.1 : Nat), .int (z.2 : Nat)]
  | none => .non
/-- a view: the places it tells of, and the sign at each -/
structure Vw where
  ps : List P3
  f : P3 → Nat
def eW (v : Vw) : D := .dct (mkD (v.ps.map fun p => (p, eS (v.f p))))
def entW (p : P3) (v : Vw) : Bool × Nat := (decide (p ∈ v.ps), v.f p)
theorem in_eW (p : P3) (v : Vw) : inB_ (e3 p) (eW v) = .ok (decide (p ∈ v.ps)) := in_mkD (fun p => eS (v.f p)) v.ps p
theorem idx_eW (p : P3) (v : Vw) (h : p ∈ v.ps) : idxG (eW v) (e3 p) = .ok (eS (v.f p)) := idx_dct _ _ _ (by rw [look_mkD (fun p => eS (v.f p)), if_pos h])
theorem enumD_cons (n : Nat) (x : D) (xs : List D) : enumD n (x :: xs) = .tup [.int (n : Nat), x] :: enumD (n + 1) xs := rfl
/-- those told of stand in the views -/
def ToldOk (p : P3) (vs : List Vw) (told : List (Nat × Nat)) : Prop := ∀ z, z ∈ told → ∃ v, vs[z.1]? = some v ∧ p ∈ v.ps ∧ v.f p = z.2
theorem barL_ok (p : P3) (vs : List Vw) : ∀ (rest : List Vw) (n : Nat) (told : List (Nat × Nat)), (∀ i v, rest[i]? = some v → vs[n + i]? = some v) → ToldOk p vs told → ∀ t, barL n told (rest.map (entW p)) = .inr t → ToldOk p vs t
  | [], n, told, _, ht, t, h => by cases h; exact ht
  | v :: r, n, told, hv, ht, t, h => by
    have hv' : ∀ i v', r[i]? = some v' → vs[n + 1 + i]? = some v' := fun i v' e => by
      have := hv (i + 1) v' (by simpa using e)
      rwa [show n + (i + 1) = n + 1 + i by omega] at this
    rw [List.map_cons, show entW p v = (decide (p ∈ v.ps), v.f p) from rfl, barL] at h
    by_cases c : p ∈ v.ps
    · rw [if_pos (decide_eq_true c)] at h
      by_cases c2 : v.f p = 46
      · rw [if_pos c2] at h; cases h
      · rw [if_neg c2] at h
        by_cases c3 : v.f p ≠ 63
        · rw [if_pos c3] at h
          refine barL_ok p vs r (n + 1) _ hv' (fun z hz => ?_) t h
          rcases List.mem_append.mp hz with hz | hz
          · exact ht z hz
          · rw [List.mem_singleton.mp hz]
            exact ⟨v, by have := hv 0 v rfl; simpa using this, c, rfl⟩
        · rw [if_neg c3] at h
          exact barL_ok p vs r (n + 1) told hv' ht t h
    · rw [if_neg (by simpa using c)] at h
      exact barL_ok p vs r (n + 1) told hv' ht t h
def seenL (s : P3) (l : Lk) (xs : List P3) : P3 → Bool := seenB s l.w fun q => decide (q ∈ xs)
def entL (s : P3) (xs : List P3) (p : P3) (l : Lk) : Bool × Nat := (seenL s l xs p, sign s l p)
/-! ### texts of signs -/
theorem atI_str {z : Str} {i : Int} {c : Nat} (hz : z.length ≤ sizeLine) (h : atI z.cps.toList i = some c) : idxG (.str z) (.int i) = .ok (eS c) := by
  show (if z.length ≤ sizeLine then (match atI z.cps.toList i with | some c => M.ok (D.str ⟨#[c]⟩) | none => .er) else .er) = _
  rw [if_pos hz, h]
  rfl
def abc : List Nat := [97, 98, 99, 100, 101, 102, 103, 104, 105, 106, 107, 108, 109, 110, 111, 112, 113, 114, 115, 116, 117, 118, 119, 120, 121, 122]
theorem abc_eq : (Str.ofString "abcdefghijklmnopqrstuvwxyz") = ⟨abc.toArray⟩ := by decide +kernel
/-- a sign: a letter, the sky, the veil -/
def Letter (c : Nat) : Prop := 97 ≤ c ∧ c ≤ 122
def Sgn (c : Nat) : Prop := c = 46 ∨ c = 63 ∨ Letter c
theorem abc_all : ∀ c, c ∈ abc → Letter c := by
  intro c h
  have : (abc.all fun c => decide (97 ≤ c ∧ c ≤ 122)) = true := by decide
  have h2 := of_decide_eq_true (List.all_eq_true.mp this c h)
  exact h2
/-! ### a snapped picture -/
/-- a look whose signs are signs -/
def LkSg (l : Lk) : Prop := ∀ c, c ∈ l.pic → Sgn c
end VL
set_option Elab.async false
set_option linter.all false
set_option maxRecDepth 100000
/-! VM6: rows of what is barred; carving. -/
namespace VL
open PySem L2 PySem.Spec PyProof.Rows
/-! ### lists of looks -/
abbrev BRow := P3 × Nat × Nat
def eR (r : BRow) : D := .tup [e3 r.1, .int (r.2.1 : Nat), .int (r.2.2 : Nat)]
@[simp] theorem isOb_eR (r : BRow) : isOb (eR r) = false := rfl
@[simp] theorem lf_eR (r : BRow) : lf (eR r) = true := by simp [eR]
@[simp] theorem lfA_eR (xs : List BRow) : lfA (xs.map eR) = true := lfA_map lf_eR xs
@[simp] theorem idx_eR_0 (r : BRow) : idxG (eR r) (.int 0) = .ok (e3 r.1) := by simp [eR]
@[simp] theorem idx_eR_1 (r : BRow) : idxG (eR r) (.int 1) = .ok (.int (r.2.1 : Nat)) := by simp [eR]
@[simp] theorem idx_eR_2 (r : BRow) : idxG (eR r) (.int 2) = .ok (.int (r.2.2 : Nat)) := by simp [eR]
@[simp] theorem inst_tuple_eR (r : BRow) : instD .tuple (eR r) = true := rfl
@[simp] theorem len_eR (r : BRow) : lenG [eR r] = .ok (.int 3) := rfl
def rowD (f : P3 → Option (Nat × Nat)) (p : P3) : List D := match f p with
  | some z => [eR (p, z)]
  | none => []
def rowL (f : P3 → Option (Nat × Nat)) (xs : List P3) : List BRow := xs.filterMap fun p => (f p).map fun z => (p, z)
theorem rowL_flat (f : P3 → Option (Nat × Nat)) : ∀ xs : List P3, xs.flatMap (rowD f) = (rowL f xs).map eR
  | [] => rfl
  | x :: xs => by
    rw [List.flatMap_cons, rowL_flat f xs]
    unfold rowL rowD
    cases h : f x with
    | none => rw [List.filterMap_cons_none (by rw [h]; rfl)]; rfl
    | some z => rw [List.filterMap_cons_some (b := (x, z)) (by rw [h]; rfl)]; rfl
theorem rowL_len (f : P3 → Option (Nat × Nat)) (xs : List P3) : (rowL f xs).length ≤ xs.length := List.length_filterMap_le _ _
theorem mem_rowL {f : P3 → Option (Nat × Nat)} {xs : List P3} {r : BRow} : r ∈ rowL f xs ↔ r.1 ∈ xs ∧ f r.1 = some r.2 := by
  unfold rowL
  rw [List.mem_filterMap]
  constructor
  · rintro ⟨p, hp, h⟩
    cases hf : f p with
    | none => rw [hf] at h; cases h
    | some z => rw [hf] at h; cases h; exact ⟨hp, hf⟩
  · rintro ⟨h1, h2⟩
    exact ⟨r.1, h1, by rw [h2]; rfl⟩
theorem rowL_nil {f : P3 → Option (Nat × Nat)} {xs : List P3} : rowL f xs = [] ↔ ∀ p, p ∈ xs → f p = none := by
  constructor
  · intro h p hp
    cases hf : f p with
    | none => rfl
    | some z =>
      have : (p, z) ∈ rowL f xs := mem_rowL.mpr ⟨hp, hf⟩
      rw [h] at this
      cases this
  · intro h
    rw [List.eq_nil_iff_forall_not_mem]
    intro r hr
    have := mem_rowL.mp hr
    rw [h _ this.1] at this
    cases this.2
/-! ### the bar of a grain -/
def vwOf (s : P3) (l : Lk) (xs : List P3) : Vw := ⟨xs.filter (seenL s l xs), sign s l⟩
def barP (s : P3) (ls : List Lk) (xs : List P3) (p : P3) : Option (Nat × Nat) := bar (ls.map (entL s xs p))
def brows (s : P3) (ls : List Lk) (xs : List P3) : List BRow := rowL (barP s ls xs) xs
/-- two entries that bar -/
def Bars (v : List (Bool × Nat)) : Prop := (∃ e, e ∈ v ∧ e.1 = true ∧ e.2 = 46) ∨ ∃ e e', e ∈ v ∧ e' ∈ v ∧ e.1 = true ∧ e'.1 = true ∧ e.2 ≠ 46 ∧ e.2 ≠ 63 ∧ e'.2 ≠ 46 ∧ e'.2 ≠ 63 ∧ e.2 ≠ e'.2
/-- what barL tells -/
theorem barL_spec : ∀ (v : List (Bool × Nat)) (n : Nat) (told : List (Nat × Nat)), (match barL n told v with
    | .inl m => ∃ i c, m = n + i ∧ v[i]? = some (true, c) ∧ c = 46 ∧ ∀ j e, j < i → v[j]? = some e → e.1 = true → e.2 ≠ 46
    | .inr t => (∀ e, e ∈ v → e.1 = true → e.2 ≠ 46) ∧ t = told ++ ((v.zipIdx n).filter fun z => z.1.1 && !decide (z.1.2 = 63)).map fun z => (z.2, z.1.2))
  | [], n, told => by simp [barL]
  | (sn, c) :: r, n, told => by
    rw [barL]
    cases sn with
    | false =>
      rw [if_neg Bool.false_ne_true]
      have ih := barL_spec r (n + 1) told
      revert ih
      cases barL (n + 1) told r with
      | inl m =>
        rintro ⟨i, c', h1, h2, h3, h4⟩
        refine ⟨i + 1, c', by omega, by simpa using h2, h3, fun j e hj he ht => ?_⟩
        cases j with
        | zero => simp at he; subst he; cases ht
        | succ j => exact h4 j e (by omega) (by simpa using he) ht
      | inr t =>
        rintro ⟨h1, h2⟩
        refine ⟨fun e he ht => ?_, ?_⟩
        · rcases List.mem_cons.mp he with rfl | he
          · cases ht
          · exact h1 e he ht
        · rw [h2, List.zipIdx_cons, List.filter_cons_of_neg (by simp)]
    | true =>
      rw [if_pos rfl]
      by_cases c46 : c = 46
      · rw [if_pos c46]
        exact ⟨0, c, rfl, rfl, c46, fun j e hj => absurd hj (Nat.not_lt_zero j)⟩
      · rw [if_neg c46]
        by_cases c63 : c = 63
        · rw [if_neg (by simpa using c63)]
          have ih := barL_spec r (n + 1) told
          revert ih
          cases barL (n + 1) told r with
          | inl m =>
            rintro ⟨i, c', h1, h2, h3, h4⟩
            refine ⟨i + 1, c', by omega, by simpa using h2, h3, fun j e hj he ht => ?_⟩
            cases j with
            | zero => simp at he; subst he; exact c46
            | succ j => exact h4 j e (by omega) (by simpa using he) ht
          | inr t =>
            rintro ⟨h1, h2⟩
            refine ⟨fun e he ht => ?_, ?_⟩
            · rcases List.mem_cons.mp he with rfl | he
              · exact c46
              · exact h1 e he ht
            · rw [h2, List.zipIdx_cons, List.filter_cons_of_neg (by simp [c63])]
        · rw [if_pos c63]
          have ih := barL_spec r (n + 1) (told ++ [(n, c)])
          revert ih
          cases barL (n + 1) (told ++ [(n, c)]) r with
          | inl m =>
            rintro ⟨i, c', h1, h2, h3, h4⟩
            refine ⟨i + 1, c', by omega, by simpa using h2, h3, fun j e hj he ht => ?_⟩
            cases j with
            | zero => simp at he; subst he; exact c46
            | succ j => exact h4 j e (by omega) (by simpa using he) ht
          | inr t =>
            rintro ⟨h1, h2⟩
            refine ⟨fun e he ht => ?_, ?_⟩
            · rcases List.mem_cons.mp he with rfl | he
              · exact c46
              · exact h1 e he ht
            · rw [h2, List.zipIdx_cons, List.filter_cons_of_pos (by simp [c63]), List.map_cons, List.append_assoc]
              rfl
theorem barT_some {told : List (Nat × Nat)} : (barT told).isSome = true ↔ ∃ z z', z ∈ told ∧ z' ∈ told ∧ z.2 ≠ z'.2 := by
  cases told with
  | nil => simp [barT]
  | cons t ts =>
    unfold barT
    rw [Option.isSome_map, List.find?_isSome]
    constructor
    · rintro ⟨z, hz, h⟩
      exact ⟨z, t, hz, List.mem_cons_self, by simpa using h⟩
    · rintro ⟨z, z', hz, hz', h⟩
      by_cases e : z.2 = t.2
      · exact ⟨z', hz', by simpa using fun e2 => h (e.trans e2.symm)⟩
      · exact ⟨z, hz, by simpa using e⟩
theorem bar_some {v : List (Bool × Nat)} : (bar v).isSome = true ↔ Bars v := by
  have h := barL_spec v 0 []
  unfold bar
  revert h
  cases barL 0 [] v with
  | inl m =>
    rintro ⟨i, c, h1, h2, h3, h4⟩
    simp only [Option.isSome_some, true_iff]
    exact .inl ⟨(true, c), List.mem_of_getElem? h2, rfl, h3⟩
  | inr t =>
    rintro ⟨h1, h2⟩
    simp only
    rw [barT_some, h2, List.nil_append]
    have mem (z : Nat × Nat) : z ∈ ((v.zipIdx 0).filter fun z => z.1.1 && !decide (z.1.2 = 63)).map (fun z => (z.2, z.1.2)) ↔ v[z.1]? = some (true, z.2) ∧ z.2 ≠ 63 := by
      rw [List.mem_map]
      constructor
      · rintro ⟨⟨⟨b, c⟩, i⟩, hx, rfl⟩
        obtain ⟨hx1, hx2⟩ := List.mem_filter.mp hx
        have := List.mk_mem_zipIdx_iff_getElem?.mp hx1
        simp only [Bool.and_eq_true, Bool.not_eq_true', decide_eq_false_iff_not] at hx2
        obtain ⟨rfl, hx3⟩ := hx2
        exact ⟨this, hx3⟩
      · rintro ⟨h1, h2⟩
        refine ⟨((true, z.2), z.1), List.mem_filter.mpr ⟨List.mk_mem_zipIdx_iff_getElem?.mpr h1, by simpa using h2⟩, rfl⟩
    constructor
    · rintro ⟨z, z', hz, hz', hne⟩
      obtain ⟨a1, a2⟩ := (mem z).mp hz
      obtain ⟨b1, b2⟩ := (mem z').mp hz'
      have m1 := List.mem_of_getElem? a1
      have m2 := List.mem_of_getElem? b1
      exact .inr ⟨_, _, m1, m2, rfl, rfl, h1 _ m1 rfl, a2, h1 _ m2 rfl, b2, hne⟩
    · rintro (⟨e, he, e1, e2⟩ | ⟨e, e', he, he', e1, e1', n1, n2, n3, n4, n5⟩)
      · exact absurd e2 (h1 e he e1)
      · obtain ⟨i, hi⟩ := List.mem_iff_getElem?.mp he
        obtain ⟨j, hj⟩ := List.mem_iff_getElem?.mp he'
        obtain ⟨b, c⟩ := e
        obtain ⟨b', c'⟩ := e'
        simp only at e1 e1'
        subst e1 e1'
        exact ⟨(i, c), (j, c'), (mem _).mpr ⟨hi, n2⟩, (mem _).mpr ⟨hj, n4⟩, n5⟩
/-! ### more grains hide more -/
theorem seenL_mono {s : P3} {l : Lk} {xs ys : List P3} {p : P3} (h : ∀ q, q ∈ ys → q ∈ xs) (hs : seenL s l xs p = true) : seenL s l ys p = true := by
  unfold seenL at hs ⊢
  rw [seen_iff] at hs ⊢
  intro i hi
  have := hs i hi
  simp only [decide_eq_false_iff_not] at this ⊢
  exact fun hm => this (h _ hm)
theorem Bars_mono {s : P3} {ls : List Lk} {xs ys : List P3} {p : P3} (h : ∀ q, q ∈ ys → q ∈ xs) (hb : Bars (ls.map (entL s xs p))) : Bars (ls.map (entL s ys p)) := by
  have up (e : Bool × Nat) (he : e ∈ ls.map (entL s xs p)) (h1 : e.1 = true) : e ∈ ls.map (entL s ys p) := by
    obtain ⟨l, hl, rfl⟩ := List.mem_map.mp he
    refine List.mem_map.mpr ⟨l, hl, ?_⟩
    have h1' : seenL s l xs p = true := h1
    show (seenL s l ys p, sign s l p) = (seenL s l xs p, sign s l p)
    rw [h1', seenL_mono h h1']
  rcases hb with ⟨e, he, e1, e2⟩ | ⟨e, e', he, he', e1, e1', n⟩
  · exact .inl ⟨e, up e he e1, e1, e2⟩
  · exact .inr ⟨e, e', up e he e1, up e' he' e1', e1, e1', n⟩
theorem barP_mono {s : P3} {ls : List Lk} {xs ys : List P3} {p : P3} (h : ∀ q, q ∈ ys → q ∈ xs) (hb : (barP s ls xs p).isSome = true) : (barP s ls ys p).isSome = true := bar_some.mpr (Bars_mono h (bar_some.mp hb))
/-! ### carving -/
/-- nothing in it is barred -/
def Agr (s : P3) (ls : List Lk) (xs : List P3) : Prop := ∀ p, p ∈ xs → barP s ls xs p = none
theorem agr_rows {s : P3} {ls : List Lk} {xs : List P3} : brows s ls xs = [] ↔ Agr s ls xs := rowL_nil
/-- an agreeing stone within keeps clear of what is barred -/
theorem Agr.clear {s : P3} {ls : List Lk} {xs ys : List P3} {p : P3} (ha : Agr s ls ys) (h : ∀ q, q ∈ ys → q ∈ xs) (hb : (barP s ls xs p).isSome = true) : p ∉ ys := fun hp => by
  have := barP_mono h hb
  rw [ha p hp] at this
  cases this
def carve1 (s : P3) (ls : List Lk) (xs : List P3) : List P3 := xs.filter fun p => (barP s ls xs p).isNone
def carveN (s : P3) (ls : List Lk) : Nat → List P3 → List P3
  | 0, xs => xs
  | n + 1, xs => carveN s ls n (carve1 s ls xs)
/-- what carving leaves -/
def carv (s : P3) (ls : List Lk) (xs : List P3) : List P3 := carveN s ls xs.length xs
theorem carve1_sub (s : P3) (ls : List Lk) (xs : List P3) : (carve1 s ls xs).Sublist xs := List.filter_sublist
theorem carve1_eq {s : P3} {ls : List Lk} {xs : List P3} (h : Agr s ls xs) : carve1 s ls xs = xs := by
  unfold carve1
  rw [List.filter_eq_self]
  intro p hp
  rw [h p hp]
  rfl
theorem carve1_lt {s : P3} {ls : List Lk} {xs : List P3} (h : ¬ Agr s ls xs) : (carve1 s ls xs).length < xs.length := by
  refine Nat.lt_of_not_le fun hle => h fun p hp => ?_
  have e : carve1 s ls xs = xs := (carve1_sub s ls xs).eq_of_length_le hle
  unfold carve1 at e
  rw [List.filter_eq_self] at e
  simpa using e p hp
theorem carveN_sub (s : P3) (ls : List Lk) : ∀ (n : Nat) (xs : List P3), (carveN s ls n xs).Sublist xs
  | 0, xs => List.Sublist.refl xs
  | n + 1, xs => (carveN_sub s ls n _).trans (carve1_sub s ls xs)
theorem agr_nil (s : P3) (ls : List Lk) : Agr s ls [] := fun p hp => nomatch hp
theorem carveN_agr (s : P3) (ls : List Lk) : ∀ (n : Nat) (xs : List P3), xs.length ≤ n → Agr s ls (carveN s ls n xs)
  | 0, xs, h => by
    have : xs = [] := List.length_eq_zero_iff.mp (by omega)
    subst this
    exact agr_nil s ls
  | n + 1, xs, h => by
    by_cases ha : Agr s ls xs
    · have e : ∀ n : Nat, carveN s ls n xs = xs := by
        intro n
        induction n with
        | zero => rfl
        | succ n ih => rw [carveN, carve1_eq ha, ih]
      rw [e]
      exact ha
    · have := carve1_lt ha
      exact carveN_agr s ls n _ (by omega)
theorem carv_sub (s : P3) (ls : List Lk) (xs : List P3) : (carv s ls xs).Sublist xs := carveN_sub s ls _ xs
theorem carv_agr (s : P3) (ls : List Lk) (xs : List P3) : Agr s ls (carv s ls xs) := carveN_agr s ls _ xs (Nat.le_refl _)
theorem carveN_great {s : P3} {ls : List Lk} {ys : List P3} (ha : Agr s ls ys) : ∀ (n : Nat) (xs : List P3), (∀ q, q ∈ ys → q ∈ xs) → ∀ q, q ∈ ys → q ∈ carveN s ls n xs
  | 0, xs, h, q, hq => h q hq
  | n + 1, xs, h, q, hq => carveN_great ha n (carve1 s ls xs) (fun p hp => by
    refine List.mem_filter.mpr ⟨h p hp, ?_⟩
    cases hb : barP s ls xs p with
    | none => rfl
    | some z => exact absurd hp (ha.clear h (by rw [hb]; rfl))) q hq
theorem carv_great {s : P3} {ls : List Lk} {xs ys : List P3} (ha : Agr s ls ys) (h : ∀ q, q ∈ ys → q ∈ xs) : ∀ q, q ∈ ys → q ∈ carv s ls xs := carveN_great ha _ xs h
/-- the greatest one within is the only greatest one -/
theorem carv_eq {s : P3} {ls : List Lk} {xs ys : List P3} (hn : xs.Nodup) (hsub : ys.Sublist xs) (ha : Agr s ls ys) (hg : ∀ q, q ∈ carv s ls xs → q ∈ ys) : ys = carv s ls xs := by
  have h1 : ∀ q, q ∈ ys → q ∈ carv s ls xs := carv_great ha fun q hq => hsub.subset hq
  have e (zs : List P3) (hz : zs.Sublist xs) : zs = xs.filter fun p => decide (p ∈ zs) := by
    clear h1 hg ha hsub
    induction hz with
    | slnil => rfl
    | @cons l1 l2 a h ih =>
      rw [List.nodup_cons] at hn
      rw [List.filter_cons_of_neg (by simpa using fun hm => hn.1 (h.subset hm))]
      exact ih hn.2
    | @cons_cons l1 l2 a h ih =>
      rw [List.nodup_cons] at hn
      rw [List.filter_cons_of_pos (by simp)]
      congr 1
      have := ih hn.2
      rw [this]
      refine List.filter_congr fun p hp => ?_
      have hpa : p ≠ a := fun e => hn.1 (e ▸ hp)
      rw [← this]
      exact decide_eq_decide.mpr ⟨fun h => List.mem_cons_of_mem _ h, fun h => (List.mem_cons.mp h).resolve_left hpa⟩
  rw [e ys hsub, e (carv s ls xs) (carv_sub s ls xs)]
  exact List.filter_congr fun p _ => decide_eq_decide.mpr ⟨h1 p, hg p⟩
end VL
set_option Elab.async false
set_option linter.all false
set_option maxRecDepth 100000
/-! VM7: bare doors, sole grains. -/
namespace VL
open PySem L2 PySem.Spec PyProof.Rows
/-- a letter: neither sky nor veil -/
def inkB (c : Nat) : Bool := !decide (c = 46) && !decide (c = 63)
def lacks (s : P3) (xs : List P3) (l : Lk) (d : P3) : Bool := !(line s l.w d).any fun p => decide (p ∈ xs)
theorem Sgn.lt {c : Nat} (h : Sgn c) : c < 1114112 := by
  unfold Sgn Letter at h
  omega
end VL
set_option Elab.async false
set_option linter.all false
set_option maxRecDepth 100000
/-! VM8: carving grain by grain; sorted lists of places. -/
namespace VL
open PySem L2 PySem.Spec PyProof.Rows
/-! ### list.remove of a place -/
theorem findP_e3 (p : P3) : ∀ xs : List P3, p ∈ xs → ∃ j, findP (toP (e3 p)) (xs.map e3) = some j ∧ (xs.map e3).eraseIdx j = (xs.erase p).map e3
  | [], h => nomatch h
  | x :: xs, h => by
    rw [List.map_cons, findP]
    rw [eqv_e3]
    by_cases e : x = p
    · rw [if_pos (by simpa using e)]
      exact ⟨0, rfl, by rw [e, List.erase_cons_head]; rfl⟩
    · rw [if_neg (by simpa using e)]
      have hp : p ∈ xs := (List.mem_cons.mp h).resolve_left fun z => e z.symm
      obtain ⟨j, h1, h2⟩ := findP_e3 p xs hp
      refine ⟨j + 1, by rw [h1]; rfl, ?_⟩
      rw [List.erase_cons_tail (by simpa using e), List.map_cons, ← h2]
      rfl
theorem rem_e3 (p : P3) (xs : List P3) (h : p ∈ xs) : remE (xs.map e3) [e3 p] = .ok ((xs.erase p).map e3) := by
  obtain ⟨j, h1, h2⟩ := findP_e3 p xs h
  have e : remE (xs.map e3) [e3 p] = if SeqAt.shaped (.list (toPA (xs.map e3))) = true ∧ SeqAt.shaped (toP (e3 p)) = true then (match findP (toP (e3 p)) (xs.map e3) with | some j => M.ok ((xs.map e3).eraseIdx j) | none => M.er) else M.er := rfl
  have s1 : SeqAt.shaped (.list (toPA (xs.map e3))) = true := by
    have := shaped_e3s xs
    simpa [toP] using this
  rw [e, if_pos ⟨s1, shaped_e3 p⟩, h1]
  simp only [h2]
/-! ### sorted -/
/-! ### carving grain by grain -/
def pickN (picks : List Int) (turn many : Nat) : Nat := match picks[turn]? with
  | some c => (c % (many : Nat)).toNat
  | none => 0
theorem pickN_lt {picks : List Int} {turn many : Nat} (h : 0 < many) : pickN picks turn many < many := by
  unfold pickN
  cases picks[turn]? with
  | none => exact h
  | some c =>
    have h1 := Int.emod_nonneg c (show (many : Int) ≠ 0 by omega)
    have h2 := Int.emod_lt_of_pos c (show (0 : Int) < many by omega)
    simp only
    omega
def rowAt (rs : List BRow) (k : Nat) : BRow := rs.getD k ((0, 0, 0), 0, 0)
theorem rowAt_mem {rs : List BRow} {k : Nat} (h : k < rs.length) : rs[k]? = some (rowAt rs k) ∧ rowAt rs k ∈ rs := by
  unfold rowAt
  rw [List.getD_eq_getElem?_getD, List.getElem?_eq_getElem h]
  exact ⟨rfl, List.getElem_mem h⟩
def carveS (s : P3) (ls : List Lk) (picks : List Int) : Nat → List P3 → List BRow → List P3 × List BRow
  | 0, xs, pp => (xs, pp)
  | n + 1, xs, pp => if (brows s ls xs).isEmpty = true then (xs, pp) else carveS s ls picks n (xs.erase (rowAt (brows s ls xs) (pickN picks pp.length (brows s ls xs).length)).1) (pp ++ [rowAt (brows s ls xs) (pickN picks pp.length (brows s ls xs).length)])
/-- what carve tells -/
def carveP (s : P3) (ls : List Lk) (picks : List Int) (xs : List P3) : List P3 × List BRow := carveS s ls picks xs.length xs []
/-- a paper that stands: each row is the bar of its place in the stone as it is then -/
inductive PaperOk (s : P3) (ls : List Lk) : List P3 → List BRow → List P3 → Prop
  | nil (xs : List P3) : PaperOk s ls xs [] xs
  | cons {xs ys : List P3} {r : BRow} {rs : List BRow} : r ∈ brows s ls xs → PaperOk s ls (xs.erase r.1) rs ys → PaperOk s ls xs (r :: rs) ys
theorem carveS_spec (s : P3) (ls : List Lk) (picks : List Int) : ∀ (n : Nat) (xs : List P3) (pp : List BRow), xs.length ≤ n → ∃ rs, (carveS s ls picks n xs pp).2 = pp ++ rs ∧ PaperOk s ls xs rs (carveS s ls picks n xs pp).1 ∧ Agr s ls (carveS s ls picks n xs pp).1
  | 0, xs, pp, h => by
    have : xs = [] := List.length_eq_zero_iff.mp (by omega)
    subst this
    exact ⟨[], by simp [carveS], .nil _, agr_nil s ls⟩
  | n + 1, xs, pp, h => by
    unfold carveS
    by_cases c : (brows s ls xs).isEmpty = true
    · rw [if_pos c]
      exact ⟨[], by simp, .nil _, agr_rows.mp (List.isEmpty_iff.mp c)⟩
    · rw [if_neg c]
      have hpos : 0 < (brows s ls xs).length := by
        cases hb : brows s ls xs with
        | nil => rw [hb] at c; exact absurd rfl c
        | cons a l => exact Nat.succ_pos _
      obtain ⟨h1, h2⟩ := rowAt_mem (pickN_lt (picks := picks) (turn := pp.length) hpos)
      generalize rowAt (brows s ls xs) (pickN picks pp.length (brows s ls xs).length) = r at h1 h2 ⊢
      have hin : r.1 ∈ xs := (mem_rowL.mp h2).1
      have hl := List.length_erase_of_mem hin
      have hxp : 0 < xs.length := List.length_pos_of_mem hin
      obtain ⟨rs, e1, e2, e3⟩ := carveS_spec s ls picks n (xs.erase r.1) (pp ++ [r]) (by omega)
      exact ⟨r :: rs, by rw [e1, List.append_assoc]; rfl, .cons h2 e2, e3⟩
theorem carveP_spec (s : P3) (ls : List Lk) (picks : List Int) (xs : List P3) : PaperOk s ls xs (carveP s ls picks xs).2 (carveP s ls picks xs).1 ∧ Agr s ls (carveP s ls picks xs).1 := by
  obtain ⟨rs, h1, h2, h3⟩ := carveS_spec s ls picks xs.length xs [] (Nat.le_refl _)
  unfold carveP
  rw [List.nil_append] at h1
  rw [h1]
  exact ⟨h2, h3⟩
theorem PaperOk.sub {s : P3} {ls : List Lk} {xs ys : List P3} {rs : List BRow} (h : PaperOk s ls xs rs ys) : ys.Sublist xs := by
  induction h with
  | nil => exact List.Sublist.refl _
  | cons _ _ ih => exact ih.trans List.erase_sublist
/-- the rows' places are what went -/
theorem PaperOk.perm {s : P3} {ls : List Lk} {xs ys : List P3} {rs : List BRow} (h : PaperOk s ls xs rs ys) : xs.Perm (rs.map (·.1) ++ ys) := by
  induction h with
  | nil => exact List.Perm.refl _
  | cons h1 _ ih =>
    have := (mem_rowL.mp h1).1
    exact (List.perm_cons_erase this).trans (ih.cons _)
/-- agreeing stones within stay within -/
theorem PaperOk.keeps {s : P3} {ls : List Lk} {xs ys : List P3} {rs : List BRow} (h : PaperOk s ls xs rs ys) {zs : List P3} (ha : Agr s ls zs) (hz : ∀ q, q ∈ zs → q ∈ xs) : ∀ q, q ∈ zs → q ∈ ys := by
  induction h with
  | nil => exact hz
  | cons h1 _ ih =>
    refine ih fun q hq => ?_
    have hb := (mem_rowL.mp h1).2
    have hc := ha.clear hz (by rw [hb]; rfl)
    exact (List.mem_erase_of_ne (fun e => hc (by rw [← e]; exact hq))).mpr (hz q hq)
theorem carveP_fst {s : P3} {ls : List Lk} {picks : List Int} {xs : List P3} (hn : xs.Nodup) : (carveP s ls picks xs).1 = carv s ls xs := by
  obtain ⟨h1, h2⟩ := carveP_spec s ls picks xs
  exact carv_eq hn h1.sub h2 (h1.keeps (carv_agr s ls xs) fun q hq => (carv_sub s ls xs).subset hq)
theorem PaperOk.len {s : P3} {ls : List Lk} {xs ys : List P3} {rs : List BRow} (h : PaperOk s ls xs rs ys) : rs.length + ys.length = xs.length := by
  have := h.perm.length_eq
  rw [List.length_append, List.length_map] at this
  omega
/-! ### a dict built by puts -/
/-! ### sole grains -/
/-! ### slices, comprehensions whose items are not told -/
end VL
set_option Elab.async false
set_option linter.all false
set_option maxRecDepth 100000
/-! VM9: more looks, looks in another order; slices told. -/
namespace VL
open PySem L2 PySem.Spec PyProof.Rows
theorem Bars_sub {v v' : List (Bool × Nat)} (h : ∀ e, e ∈ v → e.1 = true → e ∈ v') (hb : Bars v) : Bars v' := by
  rcases hb with ⟨e, he, e1, e2⟩ | ⟨e, e', he, he', e1, e1', n⟩
  · exact .inl ⟨e, h e he e1, e1, e2⟩
  · exact .inr ⟨e, e', h e he e1, h e' he' e1', e1, e1', n⟩
theorem barP_looks {s : P3} {ls ls' : List Lk} {xs : List P3} {p : P3} (h : ∀ l, l ∈ ls → l ∈ ls') (hb : (barP s ls xs p).isSome = true) : (barP s ls' xs p).isSome = true := by
  refine bar_some.mpr (Bars_sub (fun e he _ => ?_) (bar_some.mp hb))
  obtain ⟨l, hl, rfl⟩ := List.mem_map.mp he
  exact List.mem_map.mpr ⟨l, h l hl, rfl⟩
theorem Agr.looks {s : P3} {ls ls' : List Lk} {xs : List P3} (h : ∀ l, l ∈ ls → l ∈ ls') (ha : Agr s ls' xs) : Agr s ls xs := fun p hp => by
  cases hb : barP s ls xs p with
  | none => rfl
  | some z =>
    have := barP_looks h (p := p) (xs := xs) (by rw [hb]; rfl)
    rw [ha p hp] at this
    cases this
@[simp] theorem add_ll (xs ys : List D) : addG (.lst xs) (.lst ys) = if xs.length + ys.length ≤ sizeLine ∧ lfA xs = true ∧ lfA ys = true then .ok (.lst (xs ++ ys)) else .er := rfl
/-! ### thinning -/
end VL
set_option Elab.async false
set_option linter.all false
set_option maxRecDepth 100000
/-! VM10: veils. -/
namespace VL
open PySem L2 PySem.Spec PyProof.Rows
theorem repS_one (c : Nat) (n : Int) (h : 0 ≤ n) : repS ⟨#[c]⟩ n = ⟨(List.replicate n.toNat c).toArray⟩ := by
  have key : ∀ (m : Nat) (acc : Array Nat), (List.replicate m (⟨#[c]⟩ : Str).cps).foldl (· ++ ·) acc = acc ++ (List.replicate m c).toArray := by
    intro m
    induction m with
    | zero => intro acc; simp
    | succ m ih =>
      intro acc
      rw [List.replicate_succ, List.foldl_cons, ih, List.replicate_succ, Array.append_assoc]
      congr 1
      simp
  unfold repS
  by_cases h0 : n < 1
  · rw [if_pos h0]
    have : n = 0 := by omega
    subst this
    rfl
  · rw [if_neg h0]
    by_cases h1 : n = 1
    · subst h1
      rfl
    · rw [if_neg (by
        rw [Bool.or_eq_true]
        rintro (h | h)
        · exact h1 (eq_of_beq h)
        · rw [show (⟨#[c]⟩ : Str).length = 1 from rfl] at h
          exact absurd h (by decide)), key]
      simp
/-! ### two texts side by side -/
end VL
set_option Elab.async false
set_option linter.all false
set_option maxRecDepth 100000
/-! VM11: dicts by places put together, places taken out. -/
namespace VL
open PySem L2 PySem.Spec PyProof.Rows
/-- two stones laid together -/
def joinP (s : P3) (xs ys : List P3) : List P3 := (places s).filter fun p => decide (p ∈ xs) || decide (p ∈ ys)
end VL
set_option Elab.async false
set_option linter.all false
set_option maxRecDepth 100000
/-! VM: raised errors; lists of numbers told apart. -/
namespace VL
open PySem L2 PySem.Spec PyProof.Rows
@[simp] theorem sRaise_ap (c : Str) (ρ : Rho) : sRaise c ρ = .ex (.own c) ρ := rfl
theorem forR_ex {β : Type} {tg : D → Rho → Option Rho} {b : Rho → Res} (e : β → D) (p : β → Bool) (c : Xc) (ρx : β → Rho) (ρ : Rho) : ∀ (xs : List β), (∀ x, x ∈ xs → turn tg b (e x) ρ = if p x = true then .ex c (ρx x) else .nx ρ) →
    forR tg b (xs.map e) ρ = match xs.find? p with | some x => .ex c (ρx x) | none => .nx ρ
  | [], _ => rfl
  | x :: xs, h => by
    rw [List.map_cons, forR_cons, h x List.mem_cons_self, List.find?_cons]
    cases p x with
    | true => rfl
    | false => simpa using forR_ex e p c ρx ρ xs fun y hy => h y (List.mem_cons_of_mem _ hy)
theorem canLay_ints : ∀ xs : List Int, PyData.canLayAll0 (toPA (xs.map D.int)) = true
  | [] => rfl
  | x :: xs => by simp [toPA, PyData.canLayAll0, toP, PyData.canLay0, canLay_ints xs]
theorem depth_ints : ∀ xs : List Int, PyData.depthAll (toPA (xs.map D.int)) ≤ 1
  | [] => by simp [toPA, PyData.depthAll]
  | x :: xs => by
    have := depth_ints xs
    simp [toPA, PyData.depthAll, toP, PyData.depth]
    omega
theorem shaped_ints (xs : List Int) : SeqAt.shaped (toP (.lst (xs.map D.int))) = true := by
  have h := depth_ints xs
  simp only [toP, SeqAt.shaped, PyData.canLay0, PyData.depth, canLay_ints, Bool.true_and, decide_eq_true_eq]
  omega
theorem eqvAll_ints : ∀ xs : List Int, PyData.eqvAll (toPA (xs.map D.int)) (toPA (xs.map D.int)) = true
  | [] => rfl
  | x :: xs => by simp [toPA, PyData.eqvAll, eqvAll_ints xs, toP, PyData.eqv]
theorem eq_ints (xs : List Int) : eqG (.lst (xs.map D.int)) (.lst (xs.map D.int)) = .ok (.bl true) := by
  have h : eqG (.lst (xs.map D.int)) (.lst (xs.map D.int)) = if SeqAt.shaped (toP (.lst (xs.map D.int))) = true ∧ SeqAt.shaped (toP (.lst (xs.map D.int))) = true then M.ok (D.bl (PyData.eqv (toP (.lst (xs.map D.int))) (toP (.lst (xs.map D.int))))) else M.er := by rfl
  rw [h, if_pos ⟨shaped_ints xs, shaped_ints xs⟩]
  simp only [toP, PyData.eqv, eqvAll_ints]
@[simp] theorem ne_ints (xs : List Int) : neG (.lst (xs.map D.int)) (.lst (xs.map D.int)) = .ok (.bl false) := by
  unfold neG notM
  rw [eq_ints]
  rfl
end VL
set_option Elab.async false
set_option linter.all false
set_option maxRecDepth 100000
/-! VM: where a place stands in a list; lists of signs; a line from both its ends. -/
namespace VL
open PySem L2 PySem.Spec PyProof.Rows
/-! ### a line from both its ends -/
theorem Way.neg {w : P3} (h : Way w) : Way (neg3 w) := by
  obtain ⟨⟨h1, h2, h3⟩, h4⟩ := h
  refine ⟨⟨by simp only [neg3]; omega, by simp only [neg3]; omega, by simp only [neg3]; omega⟩, ?_⟩
  simpa [neg3, Int.gcd, Int.natAbs_neg] using h4
end VL
set_option Elab.async false
set_option linter.all false
set_option maxRecDepth 100000
/-! VM: what a row of a paper says; marks without one. -/
namespace VL
open PySem L2 PySem.Spec PyProof.Rows
theorem zipIdx_lt {α : Type} (v : List α) (n : Nat) : (v.zipIdx n).Pairwise fun a b => a.2 < b.2 := by
  have h : ((v.zipIdx n).map (·.2)).Pairwise (· < ·) := by
    rw [List.zipIdx_map_snd]
    exact List.pairwise_lt_range'
  rwa [List.pairwise_map] at h
/-- what bar tells: the least that sees and shows the sky, or two that see and show unlike letters -/
theorem bar_row {v : List (Bool × Nat)} {i j : Nat} (h : bar v = some (i, j)) : ∃ ci cj, i ≤ j ∧ v[i]? = some (true, ci) ∧ v[j]? = some (true, cj) ∧ ((i = j ∧ ci = 46) ∨ (i < j ∧ ci ≠ 46 ∧ ci ≠ 63 ∧ cj ≠ 46 ∧ cj ≠ 63 ∧ ci ≠ cj)) := by
  have sp := barL_spec v 0 []
  unfold bar at h
  cases hb : barL 0 [] v with
  | inl m =>
    rw [hb] at h sp
    simp only [Option.some.injEq, Prod.mk.injEq] at h
    obtain ⟨k, c, h1, h2, h3, _⟩ := sp
    have e1 : i = k := by omega
    have e2 : j = k := by omega
    subst e1 e2
    exact ⟨c, c, Nat.le_refl _, h2, h2, .inl ⟨rfl, h3⟩⟩
  | inr t =>
    rw [hb] at h sp
    obtain ⟨s1, s2⟩ := sp
    rw [List.nil_append] at s2
    have hmem : ∀ z, z ∈ t → v[z.1]? = some (true, z.2) ∧ z.2 ≠ 46 ∧ z.2 ≠ 63 := fun z hz => by
      rw [s2] at hz
      obtain ⟨⟨⟨b, c⟩, k⟩, hy, rfl⟩ := List.mem_map.mp hz
      obtain ⟨hy1, hy2⟩ := List.mem_filter.mp hy
      have hk := List.mem_zipIdx_iff_getElem?.mp hy1
      simp at hy2
      obtain ⟨rfl, h63⟩ := hy2
      have hm : (true, c) ∈ v := List.mem_of_getElem? hk
      exact ⟨hk, s1 _ hm rfl, h63⟩
    have hpw : t.Pairwise fun a b => a.1 < b.1 := by
      rw [s2, List.pairwise_map]
      exact (zipIdx_lt v 0).sublist List.filter_sublist
    cases t with
    | nil => simp [barT] at h
    | cons z ts =>
      simp only [barT, Option.map_eq_some_iff, Prod.mk.injEq] at h
      obtain ⟨y, hy, e1, e2⟩ := h
      subst e1 e2
      have hy1 := List.mem_of_find?_eq_some hy
      have hy2 := List.find?_some hy
      have hne : y.2 ≠ z.2 := by simpa using hy2
      obtain ⟨a1, a2, a3⟩ := hmem z List.mem_cons_self
      obtain ⟨b1, b2, b3⟩ := hmem y hy1
      have hlt : z.1 < y.1 := by
        rcases List.mem_cons.mp hy1 with e | e
        · exact absurd (by rw [e]) hne
        · exact (List.pairwise_cons.mp hpw).1 y e
      exact ⟨z.2, y.2, by omega, a1, b1, .inr ⟨hlt, a2, a3, b2, b3, fun e => hne e.symm⟩⟩
/-- what a row of the bars says, of the looks themselves -/
theorem brow_says {s : P3} {ls : List Lk} {xs : List P3} {r : BRow} (h : r ∈ brows s ls xs) : r.1 ∈ xs ∧ ∃ l1 l2 : Lk, r.2.1 ≤ r.2.2 ∧ ls[r.2.1]? = some l1 ∧ ls[r.2.2]? = some l2 ∧ seenL s l1 xs r.1 = true ∧ seenL s l2 xs r.1 = true ∧
    ((r.2.1 = r.2.2 ∧ sign s l1 r.1 = 46) ∨ (r.2.1 < r.2.2 ∧ sign s l1 r.1 ≠ 46 ∧ sign s l1 r.1 ≠ 63 ∧ sign s l2 r.1 ≠ 46 ∧ sign s l2 r.1 ≠ 63 ∧ sign s l1 r.1 ≠ sign s l2 r.1)) := by
  obtain ⟨h1, h2⟩ := mem_rowL.mp h
  obtain ⟨ci, cj, hij, hi, hj, hc⟩ := bar_row (i := r.2.1) (j := r.2.2) h2
  rw [List.getElem?_map] at hi hj
  obtain ⟨l1, a1, a2⟩ := Option.map_eq_some_iff.mp hi
  obtain ⟨l2, b1, b2⟩ := Option.map_eq_some_iff.mp hj
  simp only [entL, Prod.mk.injEq] at a2 b2
  obtain ⟨a2, rfl⟩ := a2
  obtain ⟨b2, rfl⟩ := b2
  exact ⟨h1, l1, l2, hij, a1, b1, a2, b2, hc⟩
end VL
set_option Elab.async false
set_option linter.all false
set_option maxRecDepth 100000
/-! VM: what an agreeing stone's paint shows. -/
namespace VL
open PySem L2 PySem.Spec PyProof.Rows
/-! ### letters told -/
def toldB (s : P3) (xs : List P3) (p : P3) (l : Lk) : Bool := seenL s l xs p && inkB (sign s l p)
section
variable {s : P3} {ls : List Lk} {xs : List P3} {p : P3} {l l' : Lk} {free : Nat}
/-- in an agreeing stone no look that sees a grain tells it the sky -/
theorem Agr.sky (ha : Agr s ls xs) (hp : p ∈ xs) (hl : l ∈ ls) (h : seenL s l xs p = true) : sign s l p ≠ 46 := by
  intro e
  have : (barP s ls xs p).isSome = true := bar_some.mpr (.inl ⟨entL s xs p l, List.mem_map.mpr ⟨l, hl, rfl⟩, h, e⟩)
  rw [ha p hp] at this
  cases this
theorem inkB_iff {c : Nat} : inkB c = true ↔ c ≠ 46 ∧ c ≠ 63 := by
  unfold inkB
  simp
theorem told_iff : toldB s xs p l = true ↔ seenL s l xs p = true ∧ sign s l p ≠ 46 ∧ sign s l p ≠ 63 := by
  unfold toldB
  rw [Bool.and_eq_true, inkB_iff]
/-- and no two tell it unlike letters -/
theorem Agr.one (ha : Agr s ls xs) (hp : p ∈ xs) (hl : l ∈ ls) (hl' : l' ∈ ls) (h : toldB s xs p l = true) (h' : toldB s xs p l' = true) : sign s l p = sign s l' p := by
  refine Classical.byContradiction fun e => ?_
  obtain ⟨a1, a2, a3⟩ := told_iff.mp h
  obtain ⟨b1, b2, b3⟩ := told_iff.mp h'
  have : (barP s ls xs p).isSome = true := bar_some.mpr (.inr ⟨entL s xs p l, entL s xs p l', List.mem_map.mpr ⟨l, hl, rfl⟩, List.mem_map.mpr ⟨l', hl', rfl⟩, a1, b1, a2, a3, b2, b3, e⟩)
  rw [ha p hp] at this
  cases this
/-! ### a stone's own pictures -/
/-! ### a true look: snapped of the stone with its paint, some signs veiled -/
/-! ### bare doors told apart -/
end
end VL
set_option Elab.async false
set_option linter.all false
set_option maxRecDepth 100000
/-! VM: loops whose turns lead somewhere. -/
namespace VL
open PySem L2 PySem.Spec PyProof.Rows
end VL
set_option Elab.async false
set_option linter.all false
set_option maxRecDepth 100000
/-! VM: moves. -/
namespace VL
open PySem L2 PySem.Spec PyProof.Rows
/-! ### lists of data told apart by their encoding -/
section
variable {α : Type} {e : α → D}
variable [DecidableEq α] (hq : ∀ a b, PyData.eqv (toP (e a)) (toP (e b)) = decide (a = b)) (h1 : ∀ x, (toP (e x)).canLay0 = true) (h2 : ∀ x, (toP (e x)).depth ≤ 10)
include hq h1 h2
end
/-! ### triples by their parts -/
/-! ### moves -/
abbrev Mv := P3 × P3
def ordersL : List P3 := [(0, 1, 2), (0, 2, 1), (1, 0, 2), (1, 2, 0), (2, 0, 1), (2, 1, 0)]
def bitsL : List P3 := [(0, 0, 0), (0, 0, 1), (0, 1, 0), (0, 1, 1), (1, 0, 0), (1, 0, 1), (1, 1, 0), (1, 1, 1)]
def movesL : List Mv := ordersL.flatMap fun o => bitsL.map fun b => (o, b)
section
variable {m n : Mv} (hm : m ∈ movesL) (hn : n ∈ movesL)
include hm
include hn
end
/-! ### moves as data -/
end VL
set_option Elab.async false
set_option linter.all false
set_option maxRecDepth 100000
/-! VM: stones moved. -/
namespace VL
open PySem L2 PySem.Spec PyProof.Rows
end VL
set_option Elab.async false
set_option linter.all false
set_option maxRecDepth 100000
/-! VM: forms, the order of forms, the least one. -/
namespace VL
open PySem L2 PySem.Spec PyProof.Rows PySem.SeqAt
/-! ### the order of data -/
theorem alike_e3 (p q : P3) : PySem.W.alike (toP (e3 p)) (toP (e3 q)) = true := by simp [e3, toP, toPA, PySem.W.alike, PySem.W.alikeAll]
/-! ### the least form -/
end VL
set_option Elab.async false
set_option linter.all false
set_option maxRecDepth 100000
/-! VM: looks moved. -/
namespace VL
open PySem L2 PySem.Spec PyProof.Rows
section
variable {m : Mv} (hm : m ∈ movesL) {s w p d : P3}
include hm
omit hm
include hm
end
end VL
set_option Elab.async false
set_option linter.all false
set_option maxRecDepth 100000
/-! VM: a dict built of different places; its items; moved pictures. -/
namespace VL
open PySem L2 PySem.Spec PyProof.Rows
end VL
set_option Elab.async false
set_option linter.all false
set_option maxRecDepth 100000
/-! VM26: rows that nobody has looked through; papers that stand. -/
namespace VL
open PySem L2 PySem.Spec PyProof.Rows
@[simp] theorem addE_ll (xs ys : List D) : addE (.lst xs) (.lst ys) = if xs.length + ys.length ≤ sizeLine then .ok (.lst (xs ++ ys)) else .er := rfl
@[simp] theorem eDct1_ap (fk fv : Rho → M D) (ρ : Rho) : eDct1 fk fv ρ = M.bind (fk ρ) fun kd => M.bind (fv ρ) fun d => match kd with
  | .tup ks0 => (match keyOf ks0 with
    | some ks => .ok (.dct [(ks, d)])
    | none => .er)
  | _ => .er := rfl
theorem look_idx {α : Type} (e : α → D) {ls : List α} {l : α} {i : Nat} (h : ls[i]? = some l) : idxG (.lst (ls.map e)) (.int (i : Nat)) = .ok (e l) := by
  rw [idx_lst, atI_ok (x := e l) (by omega) (by rw [Int.toNat_natCast, List.getElem?_map, h]; rfl)]
theorem inkB_of {c : Nat} (h : c ≠ 46) (h2 : c ≠ 63) : inkB c = true := by simp [inkB, h, h2]
abbrev GRow := P3 × Int × Int
def toG (r : BRow) : GRow := (r.1, (r.2.1 : Int), (r.2.2 : Int))
/-- what two looks say of a grain -/
def pairB (s : P3) (a b : Lk) (same : Bool) (p : P3) : Bool := if same = true then decide (sign s a p = 46) else inkB (sign s a p) && (inkB (sign s b p) && !decide (sign s a p = sign s b p))
def sayB (s : P3) (ls : List Lk) (xs : List P3) (r : GRow) : Bool :=
  decide (r.1 ∈ xs) && (decide (0 ≤ r.2.1 ∧ r.2.1 ≤ r.2.2) && match ls[r.2.1.toNat]?, ls[r.2.2.toNat]? with
    | some a, some b => seenL s a xs r.1 && (seenL s b xs r.1 && pairB s a b (decide (r.2.1 = r.2.2)) r.1)
    | _, _ => false)
inductive Stands (s : P3) (ls : List Lk) : List P3 → List GRow → List P3 → Prop
  | nil (xs : List P3) : Stands s ls xs [] xs
  | cons {xs ys : List P3} {r : GRow} {rs : List GRow} : sayB s ls xs r = true → Stands s ls (xs.erase r.1) rs ys → Stands s ls xs (r :: rs) ys
section
variable {s : P3} {ls : List Lk} {xs ys : List P3} {r : GRow} {rs : List GRow}
theorem sayB_iff : sayB s ls xs r = true ↔ r.1 ∈ xs ∧ (0 ≤ r.2.1 ∧ r.2.1 ≤ r.2.2) ∧ ∃ a b, ls[r.2.1.toNat]? = some a ∧ ls[r.2.2.toNat]? = some b ∧ seenL s a xs r.1 = true ∧ seenL s b xs r.1 = true ∧ pairB s a b (decide (r.2.1 = r.2.2)) r.1 = true := by
  unfold sayB
  cases h1 : ls[r.2.1.toNat]? with
  | none => simp
  | some a =>
    cases h2 : ls[r.2.2.toNat]? with
    | none => simp
    | some b => simp [Bool.and_eq_true]
theorem sayB_brow {r : BRow} (h : r ∈ brows s ls xs) : sayB s ls xs (toG r) = true := by
  obtain ⟨h1, l1, l2, hij, g1, g2, s1, s2, hc⟩ := brow_says h
  refine sayB_iff.mpr ⟨h1, ⟨by simp only [toG]; omega, by simp only [toG]; omega⟩, l1, l2, by simpa [toG] using g1, by simpa [toG] using g2, s1, s2, ?_⟩
  show pairB s l1 l2 (decide ((r.2.1 : Int) = (r.2.2 : Int))) r.1 = true
  unfold pairB
  rcases hc with ⟨h2, h3⟩ | ⟨h2, h3, h4, h5, h6, h7⟩
  · rw [if_pos (by simp [h2])]
    exact decide_eq_true h3
  · rw [if_neg (by rw [decide_eq_true_eq]; omega), inkB_of h3 h4, inkB_of h5 h6, decide_eq_false h7]
    rfl
theorem PaperOk.stands {rs : List BRow} (h : PaperOk s ls xs rs ys) : Stands s ls xs (rs.map toG) ys := by
  induction h with
  | nil => exact .nil _
  | cons h1 _ ih => exact .cons (sayB_brow h1) ih
theorem Stands.app {zs : List P3} {ts : List GRow} (h : Stands s ls xs rs ys) (g : Stands s ls ys ts zs) : Stands s ls xs (rs ++ ts) zs := by
  induction h with
  | nil => exact g
  | cons h1 _ ih => exact .cons h1 (ih g)
theorem Stands.sub (h : Stands s ls xs rs ys) : ys.Sublist xs := by
  induction h with
  | nil => exact List.Sublist.refl _
  | cons _ _ ih => exact ih.trans List.erase_sublist
theorem Stands.len (h : Stands s ls xs rs ys) : rs.length + ys.length = xs.length := by
  induction h with
  | nil => simp
  | cons h1 _ ih =>
    have hm := (sayB_iff.mp h1).1
    have := List.length_erase_of_mem hm
    have := List.length_pos_of_mem hm
    rw [List.length_cons]
    omega
theorem sayB_mono {xs ys : List P3} (h : ∀ q, q ∈ ys → q ∈ xs) (hp : r.1 ∈ ys) (hs : sayB s ls xs r = true) : sayB s ls ys r = true := by
  obtain ⟨_, h2, a, b, g1, g2, s1, s2, hc⟩ := sayB_iff.mp hs
  exact sayB_iff.mpr ⟨hp, h2, a, b, g1, g2, seenL_mono h s1, seenL_mono h s2, hc⟩
/-- more looks behind: the rows stand still -/
theorem sayB_more {ls' : List Lk} (hs : sayB s ls xs r = true) : sayB s (ls ++ ls') xs r = true := by
  obtain ⟨h1, h2, a, b, g1, g2, c⟩ := sayB_iff.mp hs
  have k1 := (List.getElem?_eq_some_iff.mp g1).1
  have k2 := (List.getElem?_eq_some_iff.mp g2).1
  exact sayB_iff.mpr ⟨h1, h2, a, b, by rw [List.getElem?_append_left k1]; exact g1, by rw [List.getElem?_append_left k2]; exact g2, c⟩
theorem Stands.more {ls' : List Lk} (h : Stands s ls xs rs ys) : Stands s (ls ++ ls') xs rs ys := by
  induction h with
  | nil => exact .nil _
  | cons h1 _ ih => exact .cons (sayB_more h1) ih
/-- a grain that nobody asks for is taken out -/
theorem Stands.drop {q : P3} (hn : xs.Nodup) (h : Stands s ls xs rs ys) : Stands s ls (xs.filter fun o => !decide (o = q)) (rs.filter fun r => !decide (r.1 = q)) (ys.filter fun o => !decide (o = q)) := by
  induction h with
  | nil => exact .nil _
  | @cons xs ys r rs h1 _ ih =>
    have ih := ih (hn.sublist List.erase_sublist)
    by_cases e : r.1 = q
    · rw [List.filter_cons_of_neg (by simp [e])]
      have : (xs.erase r.1).filter (fun o => !decide (o = q)) = xs.filter fun o => !decide (o = q) := by
        rw [hn.erase_eq_filter, List.filter_filter]
        refine List.filter_congr fun o _ => ?_
        subst e
        by_cases g : o = r.1 <;> simp [g]
      rw [this] at ih
      exact ih
    · rw [List.filter_cons_of_pos (by simp [e])]
      refine .cons (sayB_mono (fun o ho => (List.mem_filter.mp ho).1) (List.mem_filter.mpr ⟨(sayB_iff.mp h1).1, by simp [e]⟩) h1) ?_
      have : (xs.erase r.1).filter (fun o => !decide (o = q)) = (xs.filter fun o => !decide (o = q)).erase r.1 := by
        rw [hn.erase_eq_filter, (hn.sublist List.filter_sublist).erase_eq_filter, List.filter_filter, List.filter_filter]
        refine List.filter_congr fun o _ => ?_
        rw [Bool.and_comm]
      rw [this] at ih
      exact ih
/-- agreeing stones within stay within -/
theorem Stands.keeps (h : Stands s ls xs rs ys) {zs : List P3} (ha : Agr s ls zs) (hz : ∀ q, q ∈ zs → q ∈ xs) : ∀ q, q ∈ zs → q ∈ ys := by
  induction h with
  | nil => exact hz
  | @cons xs ys r rs h1 _ ih =>
    refine ih fun q hq => ?_
    have hc : r.1 ∉ zs := by
      intro hm
      have := sayB_mono hz hm h1
      obtain ⟨_, ⟨h2, h3⟩, a, b, g1, g2, s1, s2, hc⟩ := sayB_iff.mp this
      have m1 : entL s zs r.1 a ∈ ls.map (entL s zs r.1) := List.mem_map_of_mem (List.mem_of_getElem? g1)
      have m2 : entL s zs r.1 b ∈ ls.map (entL s zs r.1) := List.mem_map_of_mem (List.mem_of_getElem? g2)
      have hB : Bars (ls.map (entL s zs r.1)) := by
        unfold pairB at hc
        by_cases c : decide (r.2.1 = r.2.2) = true
        · rw [if_pos c] at hc
          exact .inl ⟨_, m1, s1, of_decide_eq_true hc⟩
        · rw [if_neg c] at hc
          simp only [Bool.and_eq_true, inkB, Bool.not_eq_true', decide_eq_false_iff_not] at hc
          exact .inr ⟨_, _, m1, m2, s1, s2, hc.1.1, hc.1.2, hc.2.1.1, hc.2.1.2, hc.2.2⟩
      have hb : (barP s ls zs r.1).isSome = true := bar_some.mpr hB
      rw [ha r.1 hm] at hb
      cases hb
    exact (List.mem_erase_of_ne (fun e => hc (by rw [← e]; exact hq))).mpr (hz q hq)
end
end VL
set_option Elab.async false
set_option linter.all false
set_option maxRecDepth 100000
/-! VM27: what a row needs. -/
namespace VL
open PySem L2 PySem.Spec PyProof.Rows
@[simp] theorem eRev_ap (f : Rho → M D) (ρ : Rho) : eRev f ρ = M.bind (f ρ) fun d => match d with
  | .lst ds => .ok ds.reverse
  | _ => .er := rfl
@[simp] theorem rvsE_nil (ds : List D) : rvsE ds [] = .ok ds.reverse := rfl
/-- the grains nearer on a place's line, the nearest first -/
def hidL (s w : P3) (xs : List P3) (p : P3) : List P3 := ((List.range (depth s w p)).map fun (i : Nat) => stp p w (-((i : Int) + 1))).filter fun q => decide (q ∈ xs)
def wayAt (ls : List Lk) (i : Nat) : P3 := (ls.getD i ⟨(0, 0, 0), []⟩).w
def hids (s : P3) (ls : List Lk) (xs : List P3) (r : BRow) : List P3 := hidL s (wayAt ls r.2.1) xs r.1 ++ hidL s (wayAt ls r.2.2) xs r.1
/-- the rows that are wanted, of rows from the last on -/
def needR (s : P3) (ls : List Lk) (xs : List P3) : List P3 → List BRow → List BRow
  | _, [] => []
  | W, r :: rs => if r.1 ∈ W then needR s ls xs (W ++ hids s ls xs r) rs ++ [r] else needR s ls xs W rs
def needs (s : P3) (ls : List Lk) (xs : List P3) (rs : List BRow) (g : P3) : List BRow := needR s ls xs [g] rs.reverse
section
variable {s : P3} {ls : List Lk} {xs ys : List P3} {r : BRow} {rs : List BRow}
theorem way_at {i : Nat} {l : Lk} (h : ls[i]? = some l) : wayAt ls i = l.w := by
  unfold wayAt
  rw [List.getD_eq_getElem?_getD, h]
  rfl
theorem Stands.perm (h : Stands s ls xs (rs.map toG) ys) : xs.Perm (rs.map (·.1) ++ ys) := by
  induction rs generalizing xs with
  | nil => cases h; exact List.Perm.refl _
  | cons r rs ih =>
    rw [List.map_cons] at h
    cases h with
    | cons h1 h2 =>
      have hm := (sayB_iff.mp h1).1
      have := ih h2
      exact (List.perm_cons_erase hm).trans (this.cons _)
theorem Stands.snoc {rs : List GRow} {r : GRow} {zs : List P3} : ∀ {xs : List P3}, Stands s ls xs (rs ++ [r]) zs ↔ ∃ ys, Stands s ls xs rs ys ∧ sayB s ls ys r = true ∧ zs = ys.erase r.1 := by
  induction rs with
  | nil =>
    intro xs
    constructor
    · intro h
      cases h with
      | cons h1 h2 =>
        cases h2
        exact ⟨xs, .nil _, h1, rfl⟩
    · rintro ⟨ys, h1, h2, rfl⟩
      cases h1
      exact .cons h2 (.nil _)
  | cons r0 rs ih =>
    intro xs
    constructor
    · intro h
      rw [List.cons_append] at h
      cases h with
      | cons h1 h2 =>
        obtain ⟨ys, a, b, c⟩ := ih.mp h2
        exact ⟨ys, .cons h1 a, b, c⟩
    · rintro ⟨ys, h1, h2, h3⟩
      cases h1 with
      | cons a b => exact .cons a (ih.mpr ⟨ys, b, h2, h3⟩)
/-- a row of a standing paper stands in a stone with all that no row names -/
theorem Stands.at {rs : List BRow} : ∀ {xs ys : List P3}, Stands s ls xs (rs.map toG) ys → ∀ r, r ∈ rs → ∃ zs, sayB s ls zs (toG r) = true ∧ ∀ q, q ∈ xs → q ∉ rs.map (·.1) → q ∈ zs := by
  induction rs with
  | nil => intro xs ys _ r hr; cases hr
  | cons r0 rs ih =>
    intro xs ys h r hr
    rw [List.map_cons] at h
    cases h with
    | cons h1 h2 =>
      rcases List.mem_cons.mp hr with e | hr
      · subst e
        exact ⟨xs, h1, fun q hq _ => hq⟩
      · obtain ⟨zs, a, b⟩ := ih h2 r hr
        refine ⟨zs, a, fun q hq hn => ?_⟩
        rw [List.map_cons, List.mem_cons, not_or] at hn
        exact b q ((List.mem_erase_of_ne hn.1).mpr hq) hn.2
end
end VL
namespace VL
open PySem L2 PySem.Spec PyProof.Rows
/-- a row of a standing paper stands in a stone within the first one -/
theorem Stands.row_at {s : P3} {ls : List Lk} {r : GRow} : ∀ {rs : List GRow} {xs ys : List P3}, Stands s ls xs rs ys → r ∈ rs → ∃ zs, sayB s ls zs r = true ∧ ∀ q, q ∈ zs → q ∈ xs
  | r0 :: rs, xs, ys, h, hr => by
    cases h with
    | cons h1 h2 =>
      rcases List.mem_cons.mp hr with e | hr
      · subst e
        exact ⟨xs, h1, fun q hq => hq⟩
      · obtain ⟨zs, a, b⟩ := Stands.row_at h2 hr
        exact ⟨zs, a, fun q hq => List.mem_of_mem_erase (b q hq)⟩
end VL
set_option Elab.async false
set_option linter.all false
set_option maxRecDepth 100000
/-! VM28: rows compared. -/
namespace VL
open PySem L2 PySem.Spec PyProof.Rows
end VL
set_option Elab.async false
set_option linter.all false
set_option maxRecDepth 100000
/-! VM22: the combinators of objects, for simp. -/
namespace Q
open PySem L2 VL PySem.Spec PyProof.Rows
variable {ρ : Rho} {i j : Nat} {c f g m : Str} {a b : Rho → M D} {as : Rho → M (List D)} {G : List D → MO} {q : List D → M D} {h : Rho → MR} {t : Rho → MT}
@[simp] theorem eFld_ap : eFld i c f ρ = match ρ[i]? with
  | some (.sh (.obj _ c' ns ds)) => (match lookF f ns ds with | some d => if c' = c then .ok d else .er | none => .er)
  | some (.fr (.obj _ c' ns ds)) => (match lookF f ns ds with | some d => if c' = c then .ok d else .er | none => .er)
  | some (.ow (.obj _ c' ns ds)) => (match lookF f ns ds with | some d => if c' = c then .ok d else .er | none => .er)
  | _ => .er := rfl
@[simp] theorem eFldF_ap : eFldF i c f ρ = match ρ[i]? with
  | some (.ow (.obj _ c' ns ds)) => (match lookF f ns ds with | some d => if c' = c then .ok d else .er | none => .er)
  | _ => .er := rfl
@[simp] theorem eFldE_ap : eFldE i c f ρ = match ρ[i]? with
  | some (.sh (.obj _ c' ns ds)) => (match lookF f ns ds with | some d => if c' = c then .ok d else .er | none => .er)
  | _ => .er := rfl
@[simp] theorem sSetF_ap : sSetF i c f a ρ = match ρ[i]? with
  | some (.ow (.obj p c' ns ds)) => ofM ρ (fun d => if c' = c ∧ ns.length < 1000 then .nx (ρ.set i (.ow (.obj p c' (putN f ns) (putDs f d ns ds)))) else .er) (a ρ)
  | _ => .er := rfl
@[simp] theorem sSetL_ap : sSetL i c f a ρ = match ρ[i]? with
  | some (.ow (.obj p c' ns ds)) => ofM ρ (fun d => match d with
    | .lst es => if c' = c ∧ ns.length < 1000 ∧ lfA es = true then .nx (ρ.set i (.ow (.obj p c' (putN f ns) (putDs f (.lst es) ns ds)))) else .er
    | _ => .er) (a ρ)
  | _ => .er := rfl
@[simp] theorem sPopF_ap : sPopF i c f g ρ = match ρ[i]? with
  | some (.ow (.obj p c' ns ds)) => (match lookF g ns ds with
    | some (.lst es) => (match lastD es with
      | some (es', d) => if c' = c ∧ ns.length < 1000 then .nx (ρ.set i (.ow (.obj p c' (putN f ns) (putDs f d ns (putDs g (.lst es') ns ds))))) else .er
      | none => .er)
    | _ => .er)
  | _ => .er := rfl
@[simp] theorem eMeth_ap : eMeth c m q a as ρ = M.bind (a ρ) fun d => match d with
  | .obj p c' ns ds => if c' = c ∧ m ∉ ns then M.bind (as ρ) fun xs => q (.obj p c' ns ds :: xs) else .er
  | _ => .er := rfl
@[simp] theorem moR_ok (d o : D) : moR i ρ (.ok d o) = .ok d (ρ.set i (.ow o)) := rfl
@[simp] theorem moR_ex (x : Xc) (o : D) : moR i ρ (.ex x o) = .ex x (ρ.set i (.ow o)) := rfl
@[simp] theorem sExO_ap : sExO h ρ = match h ρ with
  | .ok _ ρ' => .nx ρ'
  | .ex c ρ' => .ex c ρ'
  | .er => .er := rfl
@[simp] theorem sRetS_ap : sRetS a ρ = ofM ρ (fun d => .rs d ρ) (a ρ) := rfl
@[simp] theorem eMethO_ap : eMethO i c m G as ρ = match ρ[i]? with
  | some (.ow (.obj p c' ns ds)) => if c' = c ∧ m ∉ ns then (match as ρ with
    | .ok xs => moR i ρ (G (.obj p c' ns ds :: xs))
    | .ex c => .ex c ρ
    | .er => .er) else .er
  | _ => .er := rfl
@[simp] theorem eCallO_ap : eCallO i G as ρ = match ρ[i]? with
  | some (.ow d0) => if isObj d0 = true then (match as ρ with
    | .ok xs => moR i ρ (G (d0 :: xs))
    | .ex c => .ex c ρ
    | .er => .er) else .er
  | _ => .er := rfl
@[simp] theorem sFbm_ap (eff : List D → List D → M (List D)) : sFbm i c f eff as ρ = match ρ[i]? with
  | some (.ow (.obj p c' ns ds)) => (match lookF f ns ds with
    | some (.lst es) => if c' = c then (match as ρ with
      | .ok xs => (match eff es xs with | .ok es' => .nx (ρ.set i (.ow (.obj p c' ns (putDs f (.lst es') ns ds)))) | _ => .er)
      | .ex c => .ex c ρ
      | .er => .er) else .er
    | _ => .er)
  | _ => .er := rfl
@[simp] theorem finO_rs (d0 d : D) : finO d0 (.rs d ρ) = objOf d0 (.ok d) ρ := rfl
@[simp] theorem finO_nx (d0 : D) : finO d0 (.nx ρ) = objOf d0 (.ok .non) ρ := rfl
@[simp] theorem finO_ex (d0 : D) (x : Xc) : finO d0 (.ex x ρ) = objOf d0 (.ex x) ρ := rfl
theorem objOf_obj (p : Addr) (c c2 : Str) (ns ns2 : List Str) (ds ds2 : List D) (k : D → MO) (r : Rho) : objOf (.obj p c2 ns2 ds2) k (.ow (.obj p c ns ds) :: r) = k (.obj p c ns ds) := by
  show (if isObj (.obj p c ns ds) = true ∧ pinD (.obj p c ns ds) = pinD (.obj p c2 ns2 ds2) then k (.obj p c ns ds) else .er) = _
  rw [if_pos ⟨rfl, rfl⟩]
theorem runO_obj (n N : Nat) (F : Rho → Res) (p : Addr) (c : Str) (ns : List Str) (ds as : List D) (hl : as.length + 1 = n) : runO n N F (.obj p c ns ds :: as) = finO (.obj p c ns ds) (F (.ow (.obj p c ns ds) :: (as.map .sh ++ List.replicate (N - n) .no))) := by
  show (if as.length + 1 = n ∧ isObj (.obj p c ns ds) = true then _ else _) = _
  rw [if_pos ⟨hl, rfl⟩]
end Q
set_option Elab.async false
set_option linter.all false
set_option maxRecDepth 100000
/-! VM23: combinators of VO16-VO21 for simp; the workshop as it stands. -/
namespace Q
open PySem L2 VL PySem.Spec PyProof.Rows
section
variable {ρ : Rho} {i j : Nat} {c f m : Str} {a b : Rho → M D} {as : Rho → M (List D)} {G : List D → MO} {q : List D → M D} {h h2 : Rho → MR} {t t2 : Rho → MT}
@[simp] theorem eCmpM_ap (g : D → D → M D) : eCmpM g h b ρ = match h ρ with
  | .ok d ρ' => (match b ρ' with
    | .ok y => (match g d y with | .ok (.bl b) => .ok (.bl b) ρ' | _ => .er)
    | .ex c => .ex c ρ'
    | .er => .er)
  | .ex c ρ' => .ex c ρ'
  | .er => .er := rfl
@[simp] theorem sRetM_ap : sRetM h ρ = match h ρ with
  | .ok d _ => .rt d
  | .ex c ρ' => .ex c ρ'
  | .er => .er := rfl
@[simp] theorem eSh_ap : eSh i a ρ = a (shareR i ρ) := rfl
theorem runO_at (n N : Nat) (F : Rho → Res) (p : Addr) (c : Str) (ns : List Str) (ds as : List D) (hl : as.length + 1 = n) : runO n N F (.obj p c ns ds :: as) = finO (.obj p c ns ds) (F (.ow (.obj p c ns ds) :: (as.map .sh ++ List.replicate (N - n) .no))) := runO_obj n N F p c ns ds as hl
end

/-! ### the workshop -/
structure Ey where
  nm : List Nat
  l : Lk
abbrev eT (cs : List Nat) : D := .str ⟨cs.toArray⟩
def eY (y : Ey) : D := .tup [eT y.nm, e3 y.l.w, eT y.l.pic]
structure Now where
  eyes : List Ey
  gone : List P3
  sure : List P3
  stand : List P3
  paper : List BRow
def eN (n : Now) : D := .tup [.lst (n.eyes.map eY), .lst (n.gone.map e3), .lst (n.sure.map e3), .lst (n.stand.map e3), .lst (n.paper.map eR)]
structure Shop where
  s : P3
  now : Now
  past : List Now
  ahead : List Now
def shopN : List Str := ["sizes", "now", "past", "ahead"]
def shopD (S : Shop) : List D := [e3 S.s, eN S.now, .lst (S.past.map eN), .lst (S.ahead.map eN)]
abbrev eSh (p : Addr) (S : Shop) : D := .obj p "Workshop" shopN (shopD S)
theorem ne_sn : ¬ (("sizes" : Str) = "now") := by decide +kernel
theorem ne_sp : ¬ (("sizes" : Str) = "past") := by decide +kernel
theorem ne_sa : ¬ (("sizes" : Str) = "ahead") := by decide +kernel
theorem ne_np : ¬ (("now" : Str) = "past") := by decide +kernel
theorem ne_na : ¬ (("now" : Str) = "ahead") := by decide +kernel
theorem ne_pa : ¬ (("past" : Str) = "ahead") := by decide +kernel
@[simp] theorem look_s (S : Shop) : lookF "sizes" shopN (shopD S) = some (e3 S.s) := by simp [lookF, shopN, shopD]
@[simp] theorem look_n (S : Shop) : lookF "now" shopN (shopD S) = some (eN S.now) := by simp [lookF, shopN, shopD, ne_sn]
@[simp] theorem look_p (S : Shop) : lookF "past" shopN (shopD S) = some (.lst (S.past.map eN)) := by simp [lookF, shopN, shopD, ne_sp, ne_np]
@[simp] theorem look_a (S : Shop) : lookF "ahead" shopN (shopD S) = some (.lst (S.ahead.map eN)) := by simp [lookF, shopN, shopD, ne_sa, ne_na, ne_pa]
@[simp] theorem putN_n : putN "now" shopN = shopN := by simp [putN, shopN, ne_sn]
@[simp] theorem putN_p : putN "past" shopN = shopN := by simp [putN, shopN, ne_sp, ne_np]
@[simp] theorem putN_a : putN "ahead" shopN = shopN := by simp [putN, shopN, ne_sa, ne_na, ne_pa]
theorem putDs_n (S : Shop) (n : Now) : putDs "now" (eN n) shopN (shopD S) = shopD { S with now := n } := by simp [putDs, shopN, shopD, ne_sn]
theorem putDs_p (S : Shop) (l : List Now) : putDs "past" (.lst (l.map eN)) shopN (shopD S) = shopD { S with past := l } := by simp [putDs, shopN, shopD, ne_sp, ne_np]
theorem putDs_a (S : Shop) (l : List Now) : putDs "ahead" (.lst (l.map eN)) shopN (shopD S) = shopD { S with ahead := l } := by simp [putDs, shopN, shopD, ne_sa, ne_na, ne_pa]
@[simp] theorem shopN_len : shopN.length = 4 := rfl
theorem not_shopN {m : Str} (h1 : ¬ m = "sizes") (h2 : ¬ m = "now") (h3 : ¬ m = "past") (h4 : ¬ m = "ahead") : m ∉ shopN := by simp [shopN, h1, h2, h3, h4]
@[simp] theorem nosh_anew : ("anew" : Str) ∉ shopN := not_shopN (by decide +kernel) (by decide +kernel) (by decide +kernel) (by decide +kernel)
@[simp] theorem nosh_number_of : ("number_of" : Str) ∉ shopN := not_shopN (by decide +kernel) (by decide +kernel) (by decide +kernel) (by decide +kernel)
@[simp] theorem nosh_placed : ("placed" : Str) ∉ shopN := not_shopN (by decide +kernel) (by decide +kernel) (by decide +kernel) (by decide +kernel)
@[simp] theorem nosh_eye : ("eye" : Str) ∉ shopN := not_shopN (by decide +kernel) (by decide +kernel) (by decide +kernel) (by decide +kernel)
@[simp] theorem nosh_shut : ("shut" : Str) ∉ shopN := not_shopN (by decide +kernel) (by decide +kernel) (by decide +kernel) (by decide +kernel)
@[simp] theorem nosh_repaint : ("repaint" : Str) ∉ shopN := not_shopN (by decide +kernel) (by decide +kernel) (by decide +kernel) (by decide +kernel)
@[simp] theorem nosh_drop : ("drop" : Str) ∉ shopN := not_shopN (by decide +kernel) (by decide +kernel) (by decide +kernel) (by decide +kernel)
@[simp] theorem nosh_keep : ("keep" : Str) ∉ shopN := not_shopN (by decide +kernel) (by decide +kernel) (by decide +kernel) (by decide +kernel)
@[simp] theorem nosh_free : ("free" : Str) ∉ shopN := not_shopN (by decide +kernel) (by decide +kernel) (by decide +kernel) (by decide +kernel)
@[simp] theorem nosh_chip : ("chip" : Str) ∉ shopN := not_shopN (by decide +kernel) (by decide +kernel) (by decide +kernel) (by decide +kernel)
@[simp] theorem nosh_finish : ("finish" : Str) ∉ shopN := not_shopN (by decide +kernel) (by decide +kernel) (by decide +kernel) (by decide +kernel)
@[simp] theorem nosh_back : ("back" : Str) ∉ shopN := not_shopN (by decide +kernel) (by decide +kernel) (by decide +kernel) (by decide +kernel)
@[simp] theorem nosh_again : ("again" : Str) ∉ shopN := not_shopN (by decide +kernel) (by decide +kernel) (by decide +kernel) (by decide +kernel)
@[simp] theorem nosh_twin : ("twin" : Str) ∉ shopN := not_shopN (by decide +kernel) (by decide +kernel) (by decide +kernel) (by decide +kernel)
@[simp] theorem nosh_block : ("block" : Str) ∉ shopN := not_shopN (by decide +kernel) (by decide +kernel) (by decide +kernel) (by decide +kernel)
@[simp] theorem nosh_names : ("names" : Str) ∉ shopN := not_shopN (by decide +kernel) (by decide +kernel) (by decide +kernel) (by decide +kernel)
@[simp] theorem nosh_look : ("look" : Str) ∉ shopN := not_shopN (by decide +kernel) (by decide +kernel) (by decide +kernel) (by decide +kernel)
@[simp] theorem nosh_looks : ("looks" : Str) ∉ shopN := not_shopN (by decide +kernel) (by decide +kernel) (by decide +kernel) (by decide +kernel)
@[simp] theorem nosh_gone : ("gone" : Str) ∉ shopN := not_shopN (by decide +kernel) (by decide +kernel) (by decide +kernel) (by decide +kernel)
@[simp] theorem nosh_sure : ("sure" : Str) ∉ shopN := not_shopN (by decide +kernel) (by decide +kernel) (by decide +kernel) (by decide +kernel)
@[simp] theorem nosh_standing : ("standing" : Str) ∉ shopN := not_shopN (by decide +kernel) (by decide +kernel) (by decide +kernel) (by decide +kernel)
@[simp] theorem nosh_paper : ("paper" : Str) ∉ shopN := not_shopN (by decide +kernel) (by decide +kernel) (by decide +kernel) (by decide +kernel)
@[simp] theorem nosh_loose : ("loose" : Str) ∉ shopN := not_shopN (by decide +kernel) (by decide +kernel) (by decide +kernel) (by decide +kernel)
@[simp] theorem nosh_end : ("end" : Str) ∉ shopN := not_shopN (by decide +kernel) (by decide +kernel) (by decide +kernel) (by decide +kernel)
@[simp] theorem nosh_quarrel : ("quarrel" : Str) ∉ shopN := not_shopN (by decide +kernel) (by decide +kernel) (by decide +kernel) (by decide +kernel)
@[simp] theorem nosh_why : ("why" : Str) ∉ shopN := not_shopN (by decide +kernel) (by decide +kernel) (by decide +kernel) (by decide +kernel)
@[simp] theorem eN_idx0 (n : Now) : idxG (eN n) (.int 0) = .ok (.lst (n.eyes.map eY)) := rfl
@[simp] theorem eN_idx1 (n : Now) : idxG (eN n) (.int 1) = .ok (.lst (n.gone.map e3)) := rfl
@[simp] theorem eN_idx2 (n : Now) : idxG (eN n) (.int 2) = .ok (.lst (n.sure.map e3)) := rfl
@[simp] theorem eN_idx3 (n : Now) : idxG (eN n) (.int 3) = .ok (.lst (n.stand.map e3)) := rfl
@[simp] theorem eN_idx4 (n : Now) : idxG (eN n) (.int 4) = .ok (.lst (n.paper.map eR)) := rfl
@[simp] theorem eY_idx0 (y : Ey) : idxG (eY y) (.int 0) = .ok (eT y.nm) := rfl
@[simp] theorem eY_idx1 (y : Ey) : idxG (eY y) (.int 1) = .ok (e3 y.l.w) := rfl
@[simp] theorem eY_idx2 (y : Ey) : idxG (eY y) (.int 2) = .ok (eT y.l.pic) := rfl
@[simp] theorem lf_eY (y : Ey) : lf (eY y) = true := rfl
theorem enumF_zip {α : Type} (f : α → D) : ∀ (xs : List α) (j : Nat), enumD j (xs.map f) = (xs.zipIdx j).map fun z => D.tup [.int (z.2 : Nat), f z.1]
  | [], _ => rfl
  | x :: xs, j => by simp [enumD, enumF_zip f xs (j + 1)]
/-- the number of the eye of a name -/
def nmAt (ys : List Ey) (nm : List Nat) : Option Nat := (ys.zipIdx.find? fun z => decide (z.1.nm = nm)).map (·.2)
theorem eq_eT (a b : List Nat) : eqG (eT a) (eT b) = .ok (.bl (decide (a = b))) := by
  show M.ok (D.bl (decide ((⟨a.toArray⟩ : Str) = ⟨b.toArray⟩))) = _
  congr 2
  rw [decide_eq_decide]
  constructor
  · intro h
    injection h with h
    exact List.toArray_inj h
  · intro h
    rw [h]
/-- a new one -/
def fresh (s : P3) : Shop := ⟨s, ⟨[], [], [], places s, []⟩, [], []⟩
end Q
set_option Elab.async false
set_option linter.all false
set_option maxRecDepth 100000
/-! VM24: texts. -/
namespace Q
open PySem L2 VL PySem.Spec PyProof.Rows
theorem add_eT (a b : List Nat) (h : a.length + b.length ≤ 1000000) : addG (eT a) (eT b) = .ok (eT (a ++ b)) := by
  show (if (⟨a.toArray⟩ : Str).length + (⟨b.toArray⟩ : Str).length ≤ sizeLine then M.ok (D.str (⟨a.toArray⟩ ++ ⟨b.toArray⟩)) else .er) = _
  rw [show (⟨a.toArray⟩ : Str).length = a.length from List.size_toArray, show (⟨b.toArray⟩ : Str).length = b.length from List.size_toArray, if_pos (by rw [sizeLine_eq]; omega)]
  show M.ok (D.str ⟨a.toArray ++ b.toArray⟩) = _
  rw [List.append_toArray]
theorem mul_eS (c : Nat) (n : Int) (h : 0 ≤ n ∧ n ≤ 1000000) : mulSG (eS c) (.int n) = .ok (eT (List.replicate n.toNat c)) := by
  show (if (⟨#[c]⟩ : Str).length = 1 ∧ (0 : Int) ≤ n ∧ n ≤ 1000000 then M.ok (D.str (repS ⟨#[c]⟩ n)) else .er) = _
  rw [if_pos ⟨rfl, h.1, h.2⟩, repS_one c n h.1]
theorem eS_eT (c : Nat) : eS c = eT [c] := rfl
theorem str_e : (Str.ofString "e") = ⟨#[101]⟩ := by decide +kernel
end Q
set_option Elab.async false
set_option linter.all false
set_option maxRecDepth 100000
/-! VM25: what each deed makes of a workshop. -/
namespace Q
open PySem L2 VL PySem.Spec PyProof.Rows
def lackP (xs ys : List P3) : List P3 := xs.filter fun p => !decide (p ∈ ys)
def goodNm (cs : List Nat) : Bool := decide (1 ≤ cs.length) && decide (cs.length ≤ 12) && cs.all fun c => decide (c ∈ abc)
def keepA (S : Shop) (q : P3) : Str ⊕ Now := if inB S.s q = false then .inl "NoPlace" else if q ∈ S.now.gone ∨ q ∈ S.now.sure then .inl "Contrary"
  else .inr { S.now with sure := joinP S.s S.now.sure [q] }
def lksN (n : Now) : List Lk := n.eyes.map Ey.l
structure NowOk (s : P3) (n : Now) : Prop where
  el : n.eyes.length ≤ 8
  nm : ∀ y, y ∈ n.eyes → goodNm y.nm = true
  lk : ∀ y, y ∈ n.eyes → LkOk s y.l ∧ LkSg y.l
  nd : (n.eyes.map Ey.nm).Nodup
  gn : n.gone.Sublist (places s)
  su : n.sure.Sublist (places s)
  st : n.stand.Sublist (places s)
  pp : n.paper.length + n.stand.length ≤ (places s).length
  pin : ∀ r, r ∈ n.paper → inB s r.1 = true
structure ShopOk (S : Shop) : Prop where
  sz : Sz 6 S.s
  now : NowOk S.s S.now
section
variable {s : P3} {n : Now} {S : Shop}
theorem sz100 (h : Sz 6 s) : Sz 100 s := by obtain ⟨a, b, c⟩ := h; exact ⟨⟨a.1, by omega⟩, ⟨b.1, by omega⟩, ⟨c.1, by omega⟩⟩
theorem places216 (h : Sz 6 s) : (places s).length ≤ 216 := Nat.le_trans (Sz.len (n := 6) h) (by decide)
theorem sub_in {xs : List P3} (h : xs.Sublist (places s)) {p : P3} (hp : p ∈ xs) : inB s p = true := inB_iff.mpr (mem_places.mp (h.subset hp))
theorem sub_len {xs : List P3} (hs : Sz 6 s) (h : xs.Sublist (places s)) : xs.length ≤ 216 := Nat.le_trans h.length_le (places216 hs)
theorem lackP_sub (xs ys : List P3) : (lackP xs ys).Sublist xs := List.filter_sublist
theorem NowOk.l1 (h : NowOk s n) (hs : Sz 6 s) : n.paper.length ≤ 216 := by have := h.pp; have := places216 hs; omega
theorem fresh_ok (h : Sz 6 s) : ShopOk (fresh s) := ⟨h, ⟨by simp [fresh], by simp [fresh], by simp [fresh], by simp [fresh], by simp [fresh], by simp [fresh], List.Sublist.refl _, by simp [fresh], by simp [fresh]⟩⟩
end
end Q
set_option Elab.async false
set_option linter.all false
set_option maxRecDepth 100000
/-! VM29: the combinators of pinned lists, for simp. -/
namespace Q
open PySem L2 VL PySem.Spec PyProof.Rows
variable {ρ : Rho} {i j : Nat} {a b : Rho → M D} {as : Rho → M (List D)} {ks : List Bool} {G : List D → ML}
@[simp] theorem pinA_pls (p : Addr) (ds : List D) : pinA (.pls p ds) = some p := rfl
@[simp] theorem pinA_obj (p : Addr) (c : Str) (ns : List Str) (ds : List D) : pinA (.obj p c ns ds) = some p := rfl
@[simp] theorem putP_some (sl : List (Option Nat)) (o : D) (os : List D) : putP (some i :: sl) (o :: os) ρ = putP sl os (ρ.set i (.ow o)) := rfl
@[simp] theorem putP_none (sl : List (Option Nat)) (o : D) (os : List D) : putP (none :: sl) (o :: os) ρ = putP sl os ρ := rfl
@[simp] theorem putP_nil (os : List D) : putP [] os ρ = ρ := by cases os <;> rfl
end Q
set_option Elab.async false
set_option linter.all false
set_option maxRecDepth 100000
/-! VM30: blocks, for simp. -/
namespace Q
open PySem L2 VL PySem.Spec PyProof.Rows
variable {ρ ρi : Rho} {ks ls : List Nat} {f g : Rho → Res} {Φ : Rho → Rho → Res}
theorem sBlk_ap : sBlk Φ ρ = Φ ρ (shAll ρ) := rfl
theorem bCons_ap : bCons f Φ ρ ρi = match f ρi with
  | .nx ρ' => Φ ρ ρ'
  | .rt d => if lf d = true then .rt d else .er
  | _ => .er := rfl
@[simp] theorem shAll_nil : shAll [] = [] := rfl
@[simp] theorem shAll_sh (d : D) : shAll (.sh d :: ρ) = .sh d :: shAll ρ := rfl
@[simp] theorem shAll_fr (d : D) : shAll (.fr d :: ρ) = .sh d :: shAll ρ := rfl
@[simp] theorem shAll_ow (d : D) : shAll (.ow d :: ρ) = .sh d :: shAll ρ := rfl
@[simp] theorem shAll_no : shAll (.no :: ρ) = .no :: shAll ρ := rfl
/-- a statement of a block goes on -/
theorem bCons_nx {ρ' : Rho} (h : f ρi = .nx ρ') : bCons f Φ ρ ρi = Φ ρ ρ' := by rw [bCons_ap, h]
end Q
set_option Elab.async false
set_option linter.all false
set_option maxRecDepth 100000
/-! VM31: the combinators of VO33 to VO36, for simp. -/
namespace Q
open PySem L2 VL PySem.Spec PyProof.Rows
variable {ρ : Rho} {i j : Nat} {c f m : Str} {a b : Rho → M D} {as : Rho → M (List D)} {q : List D → M D} {h h2 : Rho → MR} {t : Rho → MT} {G : List D → MT2}
end Q
set_option Elab.async false
set_option linter.all false
set_option maxRecDepth 100000
/-! VM32: the combinators of VO37 and VO38, for simp. -/
namespace Q
open PySem L2 VL PySem.Spec PyProof.Rows
variable {ρ ρi : Rho} {fe : Rho → M D} {ft : Rho → M Bool} {g : Rho → Res} {ks : List Nat} {i j : Nat} {c f m : Str} {b : Bool} {fb : Rho → Res} {hs : List (Str × (Addr → Rho → Res))}
@[simp] theorem bAll_ap : bAll ks i j g ρ ρi = match ρi[i]? with
  | some (.fr (.lst ds)) => if flatL ds = true ∧ j < ρ.length then g (wipeR ks ρ) else .er
  | _ => .er := rfl
@[simp] theorem eIsE_ap {a : Addr} : eIsE i a b ρ = match ρ[i]? with
  | some (.sh (.raw a')) => if a' = a then .ok (.bl b) else .er
  | _ => .er := rfl
theorem pickE_hd {g : Addr → Rho → Res} : pickE ((c, g) :: hs) c = some g := if_pos rfl
theorem pickE_tl {g g' : Addr → Rho → Res} (h : c ≠ f) (h2 : pickE hs f = some g') : pickE ((c, g) :: hs) f = some g' := by
  show (if f = c then some g else pickE hs f) = some g'
  rw [if_neg (Ne.symm h)]
  exact h2
@[simp] theorem unE_nx : unE i (.nx ρ) = .nx (ρ.set i .no) := rfl
@[simp] theorem unE_rt {d : D} : unE i (.rt d) = .rt d := rfl
theorem sTryE_ex {ρ' : Rho} {r : Res} {g : Addr → Rho → Res} (h : fb ρ = .ex (.own c) ρ') (hp : pickE hs c = some g) (hr : ∀ a, unE i (g a (ρ'.set i (.sh (.raw a)))) = r) : sTryE i hs fb ρ = r := by
  show (match fb ρ with | .ex (.own c) ρ' => (match pickE hs c with | some f => allA fun a => unE i (f a (ρ'.set i (.sh (.raw a)))) | none => .er) | .ex (.bi _) _ => .er | r => r) = _
  rw [h]
  dsimp only
  rw [hp]
  dsimp only
  exact allA_eq hr
theorem outTM_ok {G : List D → MO} {as : List D} {g : Rho → Res} {x : Addr} {o : D} (h : G (.obj x c [] [] :: as) = .ok .non o) (hj : j < ρ.length) : outTM i j hs c G as g ρ x = g (ρ.set j (.ow o)) := by
  unfold outTM
  rw [h]
  exact if_pos hj
theorem outTM_ex {G : List D → MO} {as : List D} {g : Rho → Res} {x : Addr} {o : D} {c' : Str} {k : Addr → Rho → Res} {r : Res} (h : G (.obj x c [] [] :: as) = .ex (.own c') o) (hp : pickE hs c' = some k) (hr : ∀ a, (match k a (ρ.set i (.sh (.raw a))) with
      | .nx ρ2 => g (ρ2.set i .no)
      | .rt d => .rt d
      | _ => .er) = r) : outTM i j hs c G as g ρ x = r := by
  unfold outTM
  rw [h]
  dsimp only
  rw [hp]
  dsimp only
  exact allA_eq hr
end Q
set_option Elab.async false
set_option linter.all false
set_option maxRecDepth 100000
set_option maxHeartbeats 4000000
namespace Q
open PySem L2 VL PySem.Spec PyProof.Rows
/-! ### the text -/
def top (i : Nat) : Stmt := PySem.Challenge.pw_sightstone_k42_a_workshop_begun.main.body.getD i (.Pass ⟨0, 0, 0, 0⟩)
abbrev s_wall : Stmt := top 0
abbrev s_checked_block : Stmt := top 17
abbrev s_measure_of : Stmt := top 18
abbrev s_checked_direction : Stmt := top 19
abbrev s_places_of : Stmt := top 20
abbrev s_inside : Stmt := top 21
abbrev s_stepped : Stmt := top 22
abbrev s_door_of : Stmt := top 23
abbrev s_doors_of : Stmt := top 24
abbrev s_marks_of : Stmt := top 26
abbrev s_seen_from : Stmt := top 27
abbrev s_lacking : Stmt := top 28
abbrev s_is_sign : Stmt := top 33
abbrev s_checked_picture : Stmt := top 34
abbrev s_signs_by_door : Stmt := top 35
abbrev s_view_of : Stmt := top 37
abbrev s_views_of : Stmt := top 38
abbrev s_bar_in : Stmt := top 39
abbrev s_barred : Stmt := top 40
abbrev s_picked : Stmt := top 42
abbrev s_carve : Stmt := top 43
abbrev s_checked_name : Stmt := top 46
abbrev s_hiding : Stmt := top 48
abbrev s_because : Stmt := top 49
abbrev s_L_alike : Stmt := top 54
abbrev s_L_digits : Stmt := top 55
abbrev s_L_one : Stmt := top 56
abbrev s_L_all : Stmt := top 57
abbrev s_L_letter : Stmt := top 58
abbrev s_L_name : Stmt := top 59
abbrev s_Workshop_looks : Stmt := inClass (top 52) 19
abbrev s_Workshop_end : Stmt := inClass (top 52) 25
abbrev s_Workshop_gone : Stmt := inClass (top 52) 20
abbrev s_Workshop_loose : Stmt := inClass (top 52) 24
abbrev s_Workshop_names : Stmt := inClass (top 52) 17
abbrev s_Workshop_paper : Stmt := inClass (top 52) 23
abbrev s_Workshop_quarrel : Stmt := inClass (top 52) 26
abbrev s_Workshop_standing : Stmt := inClass (top 52) 22
abbrev s_Workshop_sure : Stmt := inClass (top 52) 21
abbrev s_L_answers : Stmt := top 60
abbrev s_Workshop_again : Stmt := inClass (top 52) 14
abbrev s_Workshop_back : Stmt := inClass (top 52) 13
abbrev s_Workshop_number_of : Stmt := inClass (top 52) 3
abbrev s_Workshop_look : Stmt := inClass (top 52) 18
abbrev s_Workshop_placed : Stmt := inClass (top 52) 4
abbrev s_Workshop_why : Stmt := inClass (top 52) 27
abbrev s_L_refusals : Stmt := top 61
abbrev s_Workshop___init__ : Stmt := inClass (top 52) 0
abbrev s_Workshop_block : Stmt := inClass (top 52) 16
abbrev s_law : Stmt := top 62
/-! ### what each def gives -/
def b_wall_1 : Rho → Res := sNil
def c_wall_2 : Rho → M Bool := (eTr (eC (.bl true)))
def d_wall : Rho → Res := (sWhile 1000 c_wall_2 b_wall_1)
def q_wall : List D → M D := runF 1 1 d_wall
def b_checked_block_1 : Rho → Res := (sWipe [2] (sIf (eOr (eB (eOp ltG (eV 2) (eC (.int 1)))) (eB (eOp gtG (eV 2) (eC (.int 6))))) (sRaise "BadBlock") sNil))
def d_checked_block : Rho → Res := (sSeq (sFr 1 (eBlt tupleG (aCons (eV 0) aNil))) (sSeq (sIf (eB (eOp neG (eBlt lenG (aCons (eV 1) aNil)) (eC (.int 3)))) (sRaise "BadBlock") sNil) (sSeq (sFor (eLL (eVE 1)) (tgN 2) b_checked_block_1) (sRet (eVF 1)))))
def q_checked_block : List D → M D := runF 1 3 d_checked_block
def b_measure_of_1 : Rho → Res := (sPar2 0 1 (aCons (eVE 1) (aCons (eOp modG (eV 0) (eV 1)) aNil)))
def c_measure_of_2 : Rho → M Bool := (eB (eOp gtG (eV 1) (eC (.int 0))))
def d_measure_of : Rho → Res := (sSeq (sSh 0 (eBlt absG (aCons (eV 0) aNil))) (sSeq (sSh 1 (eBlt absG (aCons (eV 1) aNil))) (sSeq (sWhile 1000 c_measure_of_2 b_measure_of_1) (sRet (eLf (eV 0))))))
def q_measure_of : List D → M D := runF 2 2 d_measure_of
def b_checked_direction_1 : Rho → Res := (sWipe [2] (sIf (eB (eOp gtG (eBlt absG (aCons (eV 2) aNil)) (eC (.int 3)))) (sRaise "BadDirection") sNil))
def d_checked_direction : Rho → Res := (sSeq (sFr 1 (eBlt tupleG (aCons (eV 0) aNil))) (sSeq (sIf (eB (eOp neG (eBlt lenG (aCons (eV 1) aNil)) (eC (.int 3)))) (sRaise "BadDirection") sNil) (sSeq (sFor (eLL (eVE 1)) (tgN 2) b_checked_direction_1) (sSeq (sIf (eB (eOp neG (eCall q_measure_of (aCons (eCall q_measure_of (aCons (eOp idxG (eV 1) (eC (.int 0))) (aCons (eOp idxG (eV 1) (eC (.int 1))) aNil))) (aCons (eOp idxG (eV 1) (eC (.int 2))) aNil))) (eC (.int 1)))) (sRaise "BadDirection") sNil) (sRet (eVF 1))))))
def q_checked_direction : List D → M D := runF 1 3 d_checked_direction
def b_places_of_1 : Rho → Res := (sWipe [4] (sBm 1 appE (aCons (eTup (aCons (eLf (eV 2)) (aCons (eLf (eV 3)) (aCons (eLf (eV 4)) aNil)))) aNil)))
def b_places_of_2 : Rho → Res := (sWipe [3, 4] (sFor (eR1 (aCons (eOp idxG (eV 0) (eC (.int 2))) aNil)) (tgN 4) b_places_of_1))
def b_places_of_3 : Rho → Res := (sWipe [2, 3, 4] (sFor (eR1 (aCons (eOp idxG (eV 0) (eC (.int 1))) aNil)) (tgN 3) b_places_of_2))
def d_places_of : Rho → Res := (sSeq (sOw 1 (eLst aNil)) (sSeq (sFor (eR1 (aCons (eOp idxG (eV 0) (eC (.int 0))) aNil)) (tgN 2) b_places_of_3) (sShare 1 (sRet (eVF 1)))))
def q_places_of : List D → M D := runF 1 5 d_places_of
def b_inside_1 : Rho → Res := (sWipe [2] (sIf (eOr (eB (eOp ltG (eOp idxG (eV 1) (eV 2)) (eC (.int 0)))) (eB (eOp geG (eOp idxG (eV 1) (eV 2)) (eOp idxG (eV 0) (eV 2))))) (sRet (eC (.bl false))) sNil))
def d_inside : Rho → Res := (sSeq (sFor (eR1 (aCons (eC (.int 3)) aNil)) (tgN 2) b_inside_1) (sRet (eC (.bl true))))
def q_inside : List D → M D := runF 2 3 d_inside
def d_stepped : Rho → Res := (sRet (eTup (aCons (eOp addG (eOp idxG (eV 0) (eC (.int 0))) (eOp mulG (eV 2) (eOp idxG (eV 1) (eC (.int 0))))) (aCons (eOp addG (eOp idxG (eV 0) (eC (.int 1))) (eOp mulG (eV 2) (eOp idxG (eV 1) (eC (.int 1))))) (aCons (eOp addG (eOp idxG (eV 0) (eC (.int 2))) (eOp mulG (eV 2) (eOp idxG (eV 1) (eC (.int 2))))) aNil)))))
def q_stepped : List D → M D := runF 3 3 d_stepped
def b_door_of_1 : Rho → Res := (sSeq (sSh 3 (eVE 4)) (sFr 4 (eCall q_stepped (aCons (eV 3) (aCons (eV 1) (aCons (eUn negG (eC (.int 1))) aNil))))))
def c_door_of_2 : Rho → M Bool := (eTr (eCall q_inside (aCons (eV 0) (aCons (eV 4) aNil))))
def d_door_of : Rho → Res := (sSeq (sSh 3 (eTup (aCons (eOp idxG (eV 2) (eC (.int 0))) (aCons (eOp idxG (eV 2) (eC (.int 1))) (aCons (eOp idxG (eV 2) (eC (.int 2))) aNil))))) (sSeq (sFr 4 (eCall q_stepped (aCons (eV 3) (aCons (eV 1) (aCons (eUn negG (eC (.int 1))) aNil))))) (sSeq (sWhile 1000 c_door_of_2 b_door_of_1) (sRet (eLf (eV 3))))))
def q_door_of : List D → M D := runF 3 5 d_door_of
def e_doors_of_1 : Rho → M D := (eLf (eV 2))
def c_doors_of_2 : Rho → M Bool := (eNot (eTr (eCall q_inside (aCons (eV 0) (aCons (eCall q_stepped (aCons (eV 2) (aCons (eV 1) (aCons (eUn negG (eC (.int 1))) aNil)))) aNil)))))
def d_doors_of : Rho → Res := (sRet (eComp [2] (eLL (eCall q_places_of (aCons (eV 0) aNil))) (tgN 2) c_doors_of_2 e_doors_of_1))
def q_doors_of : List D → M D := runF 2 3 d_doors_of
def b_marks_of_1 : Rho → Res := (sWipe [2] (sPut 1 (eV 2) (eC (.bl true))))
def d_marks_of : Rho → Res := (sSeq (sOw 1 (eC (.dct []))) (sSeq (sFor (eLL (eVE 0)) (tgN 2) b_marks_of_1) (sShare 1 (sRet (eVF 1)))))
def q_marks_of : List D → M D := runF 1 3 d_marks_of
def b_seen_from_1 : Rho → Res := (sFr 6 (eCall q_stepped (aCons (eV 6) (aCons (eV 1) (aCons (eUn negG (eC (.int 1))) aNil)))))
def c_seen_from_2 : Rho → M Bool := (eAnd (eTr (eCall q_inside (aCons (eV 0) (aCons (eV 6) aNil)))) (eB (eOp ninG (eV 6) (eV 3))))
def b_seen_from_3 : Rho → Res := (sWipe [5, 6] (sSeq (sFr 6 (eCall q_stepped (aCons (eV 5) (aCons (eV 1) (aCons (eUn negG (eC (.int 1))) aNil))))) (sSeq (sWhile 1000 c_seen_from_2 b_seen_from_1) (sIf (eNot (eTr (eCall q_inside (aCons (eV 0) (aCons (eV 6) aNil))))) (sBm 4 appE (aCons (eLf (eV 5)) aNil)) sNil))))
def d_seen_from : Rho → Res := (sSeq (sFr 3 (eCall q_marks_of (aCons (eV 2) aNil))) (sSeq (sOw 4 (eLst aNil)) (sSeq (sFor (eLL (eVE 2)) (tgN 5) b_seen_from_3) (sShare 4 (sRet (eVF 4))))))
def q_seen_from : List D → M D := runF 3 7 d_seen_from
def e_lacking_1 : Rho → M D := (eLf (eV 3))
def c_lacking_2 : Rho → M Bool := (eB (eOp ninG (eV 3) (eV 2)))
def d_lacking : Rho → Res := (sSeq (sFr 2 (eCall q_marks_of (aCons (eV 1) aNil))) (sRet (eComp [3] (eLL (eVE 0)) (tgN 3) c_lacking_2 e_lacking_1)))
def q_lacking : List D → M D := runF 2 4 d_lacking
def d_is_sign : Rho → Res := (sRet (eAndV (eOp eqG (eBlt lenG (aCons (eV 0) aNil)) (eC (.int 1))) (eOrV (eOp inG (eV 0) (eC (.str ("abcdefghijklmnopqrstuvwxyz" : Str)))) (eOrV (eOp eqG (eV 0) (eC (.str ("." : Str)))) (eOp eqG (eV 0) (eC (.str ("?" : Str))))))))
def q_is_sign : List D → M D := runF 1 1 d_is_sign
def b_checked_picture_1 : Rho → Res := (sWipe [3] (sIf (eNot (eTr (eCall q_is_sign (aCons (eV 3) aNil)))) (sRaise "BadPicture") sNil))
def d_checked_picture : Rho → Res := (sSeq (sIf (eB (eOp neG (eBlt lenG (aCons (eV 2) aNil)) (eBlt lenG (aCons (eCall q_doors_of (aCons (eV 0) (aCons (eV 1) aNil))) aNil)))) (sRaise "BadPicture") sNil) (sSeq (sFor (eSS (eV 2)) (tgN 3) b_checked_picture_1) (sRet (eLf (eV 2)))))
def q_checked_picture : List D → M D := runF 3 4 d_checked_picture
def b_signs_by_door_1 : Rho → Res := (sWipe [4, 5] (sPut 3 (eV 4) (eLf (eV 5))))
def d_signs_by_door : Rho → Res := (sSeq (sOw 3 (eC (.dct []))) (sSeq (sFor (eZipLS (aCons (eCall q_doors_of (aCons (eV 0) (aCons (eV 1) aNil))) (aCons (eVE 2) aNil))) (tgT 2 (tgCons (tgN 4) (tgCons (tgN 5) tgNil))) b_signs_by_door_1) (sShare 3 (sRet (eVF 3)))))
def q_signs_by_door : List D → M D := runF 3 6 d_signs_by_door
def b_view_of_1 : Rho → Res := (sWipe [7] (sPut 6 (eV 7) (eLf (eOp idxG (eV 5) (eCall q_door_of (aCons (eV 0) (aCons (eV 3) (aCons (eV 7) aNil))))))))
def d_view_of : Rho → Res := (sSeq (sUnp (eVE 1) (tgT 2 (tgCons (tgN 3) (tgCons (tgN 4) tgNil)))) (sSeq (sFr 5 (eCall q_signs_by_door (aCons (eV 0) (aCons (eV 3) (aCons (eV 4) aNil))))) (sSeq (sOw 6 (eC (.dct []))) (sSeq (sFor (eLL (eCall q_seen_from (aCons (eV 0) (aCons (eV 3) (aCons (eV 2) aNil))))) (tgN 7) b_view_of_1) (sShare 6 (sRet (eVF 6)))))))
def q_view_of : List D → M D := runF 3 8 d_view_of
def e_views_of_1 : Rho → M D := (eCall q_view_of (aCons (eV 0) (aCons (eV 3) (aCons (eV 2) aNil))))
def d_views_of : Rho → Res := (sRet (eComp [3] (eLL (eVE 1)) (tgN 3) cYes e_views_of_1))
def q_views_of : List D → M D := runF 3 4 d_views_of
def b_bar_in_1 : Rho → Res := (sWipe [3, 4] (sIf (eB (eOp inG (eV 1) (eV 4))) (sSeq (sIf (eB (eOp eqG (eOp idxG (eV 4) (eV 1)) (eC (.str ("." : Str))))) (sRet (eTup (aCons (eLf (eV 3)) (aCons (eLf (eV 3)) aNil)))) sNil) (sIf (eB (eOp neG (eOp idxG (eV 4) (eV 1)) (eC (.str ("?" : Str))))) (sBm 2 appE (aCons (eLf (eV 3)) aNil)) sNil)) sNil))
def b_bar_in_2 : Rho → Res := (sWipe [3] (sIf (eB (eOp neG (eOp idxG (eOp idxG (eV 0) (eV 3)) (eV 1)) (eOp idxG (eOp idxG (eV 0) (eOp idxG (eV 2) (eC (.int 0)))) (eV 1)))) (sRet (eTup (aCons (eLf (eOp idxG (eV 2) (eC (.int 0)))) (aCons (eLf (eV 3)) aNil)))) sNil))
def d_bar_in : Rho → Res := (sSeq (sOw 2 (eLst aNil)) (sSeq (sFor (eEnum (aCons (eVE 0) aNil)) (tgT 2 (tgCons (tgN 3) (tgCons (tgN 4) tgNil))) b_bar_in_1) (sSeq (sShare 2 (sFor (eLL (eVE 2)) (tgN 3) b_bar_in_2)) (sRet (eC .non)))))
def q_bar_in : List D → M D := runF 2 5 d_bar_in
def b_barred_1 : Rho → Res := (sWipe [5, 6] (sSeq (sFr 6 (eCall q_bar_in (aCons (eV 3) (aCons (eV 5) aNil)))) (sIf (eB (eOp notNG (eV 6) (eC .non))) (sBm 4 appE (aCons (eTup (aCons (eLf (eV 5)) (aCons (eLf (eOp idxG (eV 6) (eC (.int 0)))) (aCons (eLf (eOp idxG (eV 6) (eC (.int 1)))) aNil)))) aNil)) sNil)))
def d_barred : Rho → Res := (sSeq (sFr 3 (eCall q_views_of (aCons (eV 0) (aCons (eV 1) (aCons (eV 2) aNil))))) (sSeq (sOw 4 (eLst aNil)) (sSeq (sFor (eLL (eVE 2)) (tgN 5) b_barred_1) (sShare 4 (sRet (eVF 4))))))
def q_barred : List D → M D := runF 3 7 d_barred
def d_picked : Rho → Res := (sSeq (sIf (eB (eOp ltG (eV 1) (eBlt lenG (aCons (eV 0) aNil)))) (sRet (eOp modG (eOp idxG (eV 0) (eV 1)) (eV 2))) sNil) (sRet (eC (.int 0))))
def q_picked : List D → M D := runF 3 3 d_picked
def b_carve_1 : Rho → Res := (sWipe [7] (sSeq (sSh 7 (eOp idxG (eV 6) (eCall q_picked (aCons (eV 3) (aCons (eBlt lenG (aCons (eV 5) aNil)) (aCons (eBlt lenG (aCons (eV 6) aNil)) aNil)))))) (sSeq (sBm 5 appE (aCons (eLf (eV 7)) aNil)) (sSeq (sBm 4 remE (aCons (eLf (eOp idxG (eV 7) (eC (.int 0)))) aNil)) (sFr 6 (eCall q_barred (aCons (eV 0) (aCons (eV 1) (aCons (eV 4) aNil)))))))))
def c_carve_2 : Rho → M Bool := (eTr (eV 6))
def d_carve : Rho → Res := (sSeq (sOw 4 (eBlt listG (aCons (eV 2) aNil))) (sSeq (sOw 5 (eLst aNil)) (sSeq (sFr 6 (eCall q_barred (aCons (eV 0) (aCons (eV 1) (aCons (eV 4) aNil))))) (sSeq (sWhile 1000 c_carve_2 b_carve_1) (sShare 5 (sShare 4 (sRet (eTup (aCons (eVF 4) (aCons (eVF 5) aNil))))))))))
def q_carve : List D → M D := runF 4 8 d_carve
def b_checked_name_1 : Rho → Res := (sWipe [1] (sIf (eB (eOp ninG (eV 1) (eC (.str ("abcdefghijklmnopqrstuvwxyz" : Str))))) (sRaise "BadName") sNil))
def d_checked_name : Rho → Res := (sSeq (sIf (eOr (eB (eOp ltG (eBlt lenG (aCons (eV 0) aNil)) (eC (.int 1)))) (eB (eOp gtG (eBlt lenG (aCons (eV 0) aNil)) (eC (.int 12))))) (sRaise "BadName") sNil) (sSeq (sFor (eSS (eV 0)) (tgN 1) b_checked_name_1) (sRet (eLf (eV 0)))))
def q_checked_name : List D → M D := runF 1 2 d_checked_name
def b_hiding_1 : Rho → Res := (sSeq (sIf (eB (eOp inG (eV 5) (eV 2))) (sBm 4 appE (aCons (eVF 5) aNil)) sNil) (sFr 5 (eCall q_stepped (aCons (eV 5) (aCons (eV 1) (aCons (eUn negG (eC (.int 1))) aNil))))))
def c_hiding_2 : Rho → M Bool := (eTr (eCall q_inside (aCons (eV 0) (aCons (eV 5) aNil))))
def d_hiding : Rho → Res := (sSeq (sOw 4 (eLst aNil)) (sSeq (sFr 5 (eCall q_stepped (aCons (eV 3) (aCons (eV 1) (aCons (eUn negG (eC (.int 1))) aNil))))) (sSeq (sWhile 1000 c_hiding_2 b_hiding_1) (sShare 4 (sRet (eVF 4))))))
def q_hiding : List D → M D := runF 4 6 d_hiding
def b_because_1 : Rho → Res := (sWipe [10] (sPut 6 (eV 10) (eC (.bl true))))
def b_because_2 : Rho → Res := (sWipe [9, 10] (sFor (eLL (eCall q_hiding (aCons (eV 0) (aCons (eOp idxG (eOp idxG (eV 1) (eV 9)) (eC (.int 0))) (aCons (eV 5) (aCons (eOp idxG (eV 8) (eC (.int 0))) aNil)))))) (tgN 10) b_because_1))
def b_because_3 : Rho → Res := (sWipe [8, 9, 10] (sIf (eB (eOp inG (eOp idxG (eV 8) (eC (.int 0))) (eV 6))) (sSeq (sBm 7 appE (aCons (eLf (eV 8)) aNil)) (sFor (eTT (eTup (aCons (eOp idxG (eV 8) (eC (.int 1))) (aCons (eOp idxG (eV 8) (eC (.int 2))) aNil)))) (tgN 9) b_because_2)) sNil))
def d_because : Rho → Res := (sSeq (sFr 5 (eCall q_marks_of (aCons (eV 2) aNil))) (sSeq (sOw 6 (eDct1 (eV 4) (eC (.bl true)))) (sSeq (sOw 7 (eLst aNil)) (sSeq (sFor (eRev (eVE 3)) (tgN 8) b_because_3) (sSeq (sBm 7 rvsE aNil) (sShare 7 (sRet (eVF 7))))))))
def q_because : List D → M D := runF 5 11 d_because
def e_L_alike_1 (rec : List D → M D) : Rho → M D := (eCall rec (aCons (eV 2) (aCons (eV 3) aNil)))
def d_L_alike (rec : List D → M D) : Rho → Res := (sSeq (sIf (eOr (eB (eOp neG (eIsi .bool (eV 0)) (eIsi .bool (eV 1)))) (eB (eOp neG (eIsi .tuple (eV 0)) (eIsi .tuple (eV 1))))) (sRet (eC (.bl false))) sNil) (sSeq (sIf (eNot (eTr (eIsi2 .list .tuple (eV 1)))) (sRet (eOp eqG (eV 0) (eV 1))) sNil) (sSeq (sIf (eOr (eNot (eTr (eIsi2 .list .tuple (eV 0)))) (eB (eOp neG (eBlt lenG (aCons (eV 0) aNil)) (eBlt lenG (aCons (eV 1) aNil))))) (sRet (eC (.bl false))) sNil) (sRet (eBlt allG (aCons (eComp [2, 3] (eZip (aCons (eVE 0) (aCons (eVE 1) aNil))) (tgT 2 (tgCons (tgN 2) (tgCons (tgN 3) tgNil))) cYes (e_L_alike_1 rec)) aNil))))))
def q_L_alike : Nat → List D → M D
  | 0 => fun _ => .er
  | n + 1 => runF 2 4 (d_L_alike (q_L_alike n))
def b_L_digits_1 : Rho → Res := (sWipe [7] (sSeq (sBm 6 appE (aCons (eOp modG (eV 5) (eV 2)) aNil)) (sFr 5 (eOp fdivNG (eV 5) (eV 2)))))
def b_L_digits_2 : Rho → Res := (sWipe [7] (sSeq (sFr 5 (eOp modG (eOp addG (eOp mulG (eV 5) (eC (.int 48271))) (eC (.int 1))) (eC (.int 2147483647)))) (sBm 6 appE (aCons (eOp modG (eOp fdivG (eV 5) (eC (.int 1009))) (eV 2)) aNil))))
def d_L_digits : Rho → Res := (sSeq (sSh 4 (eC (.int 0))) (sSeq (sIf (eB (eOp ltG (eV 1) (eBlt lenG (aCons (eV 0) aNil)))) (sSh 4 (eOp idxG (eV 0) (eV 1))) sNil) (sSeq (sFr 5 (eBlt absG (aCons (eV 4) aNil))) (sSeq (sOw 6 (eLst aNil)) (sSeq (sIf (eB (eOp geG (eV 5) (eOp powG (eC (.int 10)) (eC (.int 18))))) (sSeq (sFor (eR1 (aCons (eV 3) aNil)) (tgN 7) b_L_digits_1) (sShare 6 (sRet (eVF 6)))) sNil) (sSeq (sFr 5 (eOp modG (eOp addG (eOp addG (eOp mulG (eV 4) (eC (.int 7919))) (eOp mulG (eV 1) (eC (.int 104729)))) (eC (.int 17))) (eC (.int 2147483647)))) (sSeq (sFr 5 (eOp addG (eV 5) (eOp modG (eOp mulG (eV 5) (eV 5)) (eC (.int 1000000007))))) (sSeq (sFor (eR1 (aCons (eV 3) aNil)) (tgN 7) b_L_digits_2) (sShare 6 (sRet (eVF 6)))))))))))
def q_L_digits : List D → M D := runF 4 8 d_L_digits
def d_L_one : Rho → Res := (sRet (eLf (eOp idxG (eCall q_L_digits (aCons (eV 0) (aCons (eV 1) (aCons (eV 2) (aCons (eC (.int 1)) aNil))))) (eC (.int 0)))))
def q_L_one : List D → M D := runF 3 3 d_L_one
def b_L_all_1 : Rho → Res := (sWipe [4] (sBm 1 appE (aCons (eTup (aCons (eLf (eV 2)) (aCons (eLf (eV 3)) (aCons (eLf (eV 4)) aNil)))) aNil)))
def b_L_all_2 : Rho → Res := (sWipe [3, 4] (sFor (eR1 (aCons (eOp idxG (eV 0) (eC (.int 2))) aNil)) (tgN 4) b_L_all_1))
def b_L_all_3 : Rho → Res := (sWipe [2, 3, 4] (sFor (eR1 (aCons (eOp idxG (eV 0) (eC (.int 1))) aNil)) (tgN 3) b_L_all_2))
def d_L_all : Rho → Res := (sSeq (sOw 1 (eLst aNil)) (sSeq (sFor (eR1 (aCons (eOp idxG (eV 0) (eC (.int 0))) aNil)) (tgN 2) b_L_all_3) (sShare 1 (sRet (eVF 1)))))
def q_L_all : List D → M D := runF 1 5 d_L_all
def d_L_letter : Rho → Res := (sRet (eLf (eOp idxG (eC (.str ("abcdefghijklmnopqrstuvwxyz" : Str))) (eOp modG (eV 0) (eC (.int 26))))))
def q_L_letter : List D → M D := runF 1 1 d_L_letter
def d_L_name : Rho → Res := (sSeq (sSh 1 (eOp idxG (eTup (aCons (eC (.int 1)) (aCons (eC (.int 4)) (aCons (eC (.int 7)) (aCons (eC (.int 12)) (aCons (eC (.int 2)) aNil)))))) (eOp modG (eV 0) (eC (.int 5))))) (sSeq (sSh 2 (eOp idxG (eTup (aCons (eC (.int 0)) (aCons (eC (.int 2)) (aCons (eC (.int 6)) (aCons (eC (.int 3)) (aCons (eC (.int 1)) aNil)))))) (eOp modG (eV 0) (eC (.int 5))))) (sRet (eOp addG (eOp addG (eOp mulSG (eC (.str ("e" : Str))) (eV 2)) (eCall q_L_letter (aCons (eOp addG (eOp fdivG (eV 0) (eC (.int 5))) (eC (.int 8))) aNil))) (eOp mulSG (eC (.str ("e" : Str))) (eOp subG (eOp subG (eV 1) (eC (.int 1))) (eV 2)))))))
def q_L_name : List D → M D := runF 1 3 d_L_name
def e_Workshop_looks_1 : Rho → M D := (eTup (aCons (eLf (eOp idxG (eV 1) (eC (.int 1)))) (aCons (eLf (eOp idxG (eV 1) (eC (.int 2)))) aNil)))
def d_Workshop_looks : Rho → Res := (sRet (eComp [1] (eLL (eOp idxG (eFld 0 "Workshop" "now") (eC (.int 0)))) (tgN 1) cYes e_Workshop_looks_1))
def q_Workshop_looks : List D → M D := runF 1 2 d_Workshop_looks
def d_Workshop_end : Rho → Res := (sSeq (sUnp (eCall q_carve (aCons (eFld 0 "Workshop" "sizes") (aCons (eMeth "Workshop" "looks" q_Workshop_looks (eV 0) aNil) (aCons (eOp idxG (eFld 0 "Workshop" "now") (eC (.int 3))) (aCons (eLst aNil) aNil))))) (tgT 2 (tgCons (tgF 1) (tgCons (tgF 2) tgNil)))) (sRet (eVF 1)))
def q_Workshop_end : List D → M D := runF 1 3 d_Workshop_end
def d_Workshop_gone : Rho → Res := (sRet (eBlt listG (aCons (eOp idxG (eFld 0 "Workshop" "now") (eC (.int 1))) aNil)))
def q_Workshop_gone : List D → M D := runF 1 1 d_Workshop_gone
def d_Workshop_loose : Rho → Res := (sRet (eCall q_barred (aCons (eFld 0 "Workshop" "sizes") (aCons (eMeth "Workshop" "looks" q_Workshop_looks (eV 0) aNil) (aCons (eOp idxG (eFld 0 "Workshop" "now") (eC (.int 3))) aNil)))))
def q_Workshop_loose : List D → M D := runF 1 1 d_Workshop_loose
def e_Workshop_names_1 : Rho → M D := (eLf (eOp idxG (eV 1) (eC (.int 0))))
def d_Workshop_names : Rho → Res := (sRet (eComp [1] (eLL (eOp idxG (eFld 0 "Workshop" "now") (eC (.int 0)))) (tgN 1) cYes e_Workshop_names_1))
def q_Workshop_names : List D → M D := runF 1 2 d_Workshop_names
def d_Workshop_paper : Rho → Res := (sRet (eBlt listG (aCons (eOp idxG (eFld 0 "Workshop" "now") (eC (.int 4))) aNil)))
def q_Workshop_paper : List D → M D := runF 1 1 d_Workshop_paper
def d_Workshop_quarrel : Rho → Res := (sRet (eCall q_lacking (aCons (eOp idxG (eFld 0 "Workshop" "now") (eC (.int 2))) (aCons (eMeth "Workshop" "end" q_Workshop_end (eV 0) aNil) aNil))))
def q_Workshop_quarrel : List D → M D := runF 1 1 d_Workshop_quarrel
def d_Workshop_standing : Rho → Res := (sRet (eBlt listG (aCons (eOp idxG (eFld 0 "Workshop" "now") (eC (.int 3))) aNil)))
def q_Workshop_standing : List D → M D := runF 1 1 d_Workshop_standing
def d_Workshop_sure : Rho → Res := (sRet (eBlt listG (aCons (eOp idxG (eFld 0 "Workshop" "now") (eC (.int 2))) aNil)))
def q_Workshop_sure : List D → M D := runF 1 1 d_Workshop_sure
def d_L_answers : Rho → Res := (sSeq (sFr 1 (eLst (aCons (eMeth "Workshop" "names" q_Workshop_names (eV 0) aNil) (aCons (eMeth "Workshop" "looks" q_Workshop_looks (eV 0) aNil) (aCons (eMeth "Workshop" "gone" q_Workshop_gone (eV 0) aNil) (aCons (eMeth "Workshop" "sure" q_Workshop_sure (eV 0) aNil) (aCons (eMeth "Workshop" "standing" q_Workshop_standing (eV 0) aNil) aNil))))))) (sRet (eOp addE (eVF 1) (eLst (aCons (eMeth "Workshop" "paper" q_Workshop_paper (eV 0) aNil) (aCons (eMeth "Workshop" "loose" q_Workshop_loose (eV 0) aNil) (aCons (eMeth "Workshop" "end" q_Workshop_end (eV 0) aNil) (aCons (eMeth "Workshop" "quarrel" q_Workshop_quarrel (eV 0) aNil) aNil))))))))
def q_L_answers : List D → M D := runF 1 2 d_L_answers
def d_Workshop_again : Rho → Res := (sSeq (sIf (eNot (eTr (eFld 0 "Workshop" "ahead"))) (sRaise "NothingAgain") sNil) (sSeq (sFbm 0 "Workshop" "past" appE (aCons (eFldF 0 "Workshop" "now") aNil)) (sPopF 0 "Workshop" "now" "ahead")))
def q_Workshop_again : List D → MO := runO 1 1 d_Workshop_again
def d_Workshop_back : Rho → Res := (sSeq (sIf (eNot (eTr (eFld 0 "Workshop" "past"))) (sRaise "NothingBack") sNil) (sSeq (sFbm 0 "Workshop" "ahead" appE (aCons (eFldF 0 "Workshop" "now") aNil)) (sPopF 0 "Workshop" "now" "past")))
def q_Workshop_back : List D → MO := runO 1 1 d_Workshop_back
def b_Workshop_number_of_1 : Rho → Res := (sWipe [2, 3] (sIf (eB (eOp eqG (eOp idxG (eV 3) (eC (.int 0))) (eV 1))) (sRet (eLf (eV 2))) sNil))
def d_Workshop_number_of : Rho → Res := (sSeq (sFor (eEnum (aCons (eOp idxG (eFld 0 "Workshop" "now") (eC (.int 0))) aNil)) (tgT 2 (tgCons (tgN 2) (tgCons (tgN 3) tgNil))) b_Workshop_number_of_1) (sRaise "Unknown"))
def q_Workshop_number_of : List D → M D := runF 2 4 d_Workshop_number_of
def d_Workshop_look : Rho → Res := (sSeq (sSh 2 (eOp idxG (eOp idxG (eFld 0 "Workshop" "now") (eC (.int 0))) (eMeth "Workshop" "number_of" q_Workshop_number_of (eV 0) (aCons (eV 1) aNil)))) (sRet (eTup (aCons (eLf (eOp idxG (eV 2) (eC (.int 1)))) (aCons (eLf (eOp idxG (eV 2) (eC (.int 2)))) aNil)))))
def q_Workshop_look : List D → M D := runF 2 3 d_Workshop_look
def d_Workshop_placed : Rho → Res := (sSeq (sIf (eNot (eTr (eCall q_inside (aCons (eFld 0 "Workshop" "sizes") (aCons (eV 1) aNil))))) (sRaise "NoPlace") sNil) (sRet (eTup (aCons (eLf (eOp idxG (eV 1) (eC (.int 0)))) (aCons (eLf (eOp idxG (eV 1) (eC (.int 1)))) (aCons (eLf (eOp idxG (eV 1) (eC (.int 2)))) aNil))))))
def q_Workshop_placed : List D → M D := runF 2 2 d_Workshop_placed
def d_Workshop_why : Rho → Res := (sSeq (sFr 2 (eMeth "Workshop" "placed" q_Workshop_placed (eV 0) (aCons (eV 1) aNil))) (sSeq (sUnp (eCall q_carve (aCons (eFld 0 "Workshop" "sizes") (aCons (eMeth "Workshop" "looks" q_Workshop_looks (eV 0) aNil) (aCons (eOp idxG (eFld 0 "Workshop" "now") (eC (.int 3))) (aCons (eLst aNil) aNil))))) (tgT 2 (tgCons (tgF 3) (tgCons (tgF 4) tgNil)))) (sSeq (sIf (eOr (eB (eOp inG (eV 2) (eOp idxG (eFld 0 "Workshop" "now") (eC (.int 1))))) (eB (eOp inG (eV 2) (eV 3)))) (sRaise "NotCarved") sNil) (sSeq (sFr 5 (eCall q_lacking (aCons (eCall q_places_of (aCons (eFld 0 "Workshop" "sizes") aNil)) (aCons (eOp idxG (eFld 0 "Workshop" "now") (eC (.int 1))) aNil)))) (sRet (eCall q_because (aCons (eFld 0 "Workshop" "sizes") (aCons (eMeth "Workshop" "looks" q_Workshop_looks (eV 0) aNil) (aCons (eV 5) (aCons (eOp addG (eOp idxG (eFld 0 "Workshop" "now") (eC (.int 4))) (eV 4)) (aCons (eV 2) aNil)))))))))))
def q_Workshop_why : List D → M D := runF 2 6 d_Workshop_why
def b_L_refusals_1 : Rho → Res := (sExO (eMethO 0 "Workshop" "back" q_Workshop_back aNil))
def b_L_refusals_2 : Rho → Res := (sExO (eMethO 0 "Workshop" "again" q_Workshop_again aNil))
def b_L_refusals_3 : Rho → Res := (sDrop (eMeth "Workshop" "look" q_Workshop_look (eV 0) (aCons (eV 2) aNil)))
def b_L_refusals_4 : Rho → Res := (sDrop (eMeth "Workshop" "why" q_Workshop_why (eV 0) (aCons (eV 1) aNil)))
noncomputable def d_L_refusals : Rho → Res := (sSeq (sOw 3 (eLst aNil)) (sSeq (sTryE 4 [("NothingBack", fun a1 => (sBm 3 appE (aCons (eAndV (eIsE 4 a1 true) (eNotV (eIsE 4 a1 false))) aNil)))] b_L_refusals_1) (sSeq (sTryE 4 [("NothingAgain", fun a1 => (sBm 3 appE (aCons (eAndV (eIsE 4 a1 true) (eNotV (eIsE 4 a1 false))) aNil)))] b_L_refusals_2) (sSeq (sTryE 4 [("Unknown", fun a1 => (sBm 3 appE (aCons (eAndV (eIsE 4 a1 true) (eIsE 4 a1 true)) aNil)))] b_L_refusals_3) (sSeq (sTryE 4 [("NoPlace", fun a1 => (sBm 3 appE (aCons (eAndV (eIsE 4 a1 false) (eNotV (eIsE 4 a1 false))) aNil))), ("NotCarved", fun a1 => (sBm 3 appE (aCons (eAndV (eIsE 4 a1 true) (eNotV (eIsE 4 a1 false))) aNil)))] b_L_refusals_4) (sShare 3 (sRetS (eVF 3))))))))
noncomputable def q_L_refusals : List D → MO := runO 3 5 d_L_refusals
def d_Workshop___init__ : Rho → Res := (sSeq (sSetF 0 "Workshop" "sizes" (eCall q_checked_block (aCons (eV 1) aNil))) (sSeq (sSetF 0 "Workshop" "now" (eTup (aCons (eLst aNil) (aCons (eLst aNil) (aCons (eLst aNil) (aCons (eCall q_places_of (aCons (eFld 0 "Workshop" "sizes") aNil)) (aCons (eLst aNil) aNil))))))) (sSeq (sSetL 0 "Workshop" "past" (eLst aNil)) (sSetL 0 "Workshop" "ahead" (eLst aNil)))))
def q_Workshop___init__ : List D → MO := runO 2 2 d_Workshop___init__
def d_Workshop_block : Rho → Res := (sRet (eLf (eFldE 0 "Workshop" "sizes")))
def q_Workshop_block : List D → M D := runF 1 1 d_Workshop_block
def b_law_1 : Rho → Res := (sWipe [7, 10, 11] (sBlk (bCons (sFr 10 (eCall q_L_answers (aCons (eV 3) aNil))) (bCons (sIf (eOr (eNot (eTr (eCall (q_L_alike 6) (aCons (eV 10) (aCons (eV 6) aNil))))) (eNot (eTr (eCall (q_L_alike 6) (aCons (eMeth "Workshop" "block" q_Workshop_block (eV 3) aNil) (aCons (eBlt tupleG (aCons (eV 1) aNil)) aNil)))))) (sRet (eC (.bl false))) sNil) (bAll [10, 11] 10 11 sNil)))))
def e_law_2 : Rho → M D := (eOp addG (eC (.int 1)) (eOp modG (eV 12) (eC (.int 3))))
def e_law_3 : Rho → M D := (eCh leG leG (eC (.int 1)) (eV 12) (eC (.int 6)))
noncomputable def d_law : Rho → Res := (sSeq (sFr 1 (eCall q_L_digits (aCons (eV 0) (aCons (eC (.int 0)) (aCons (eC (.int 8)) (aCons (eC (.int 3)) aNil)))))) (sSeq (sIf (eB (eOp gtG (eCall q_L_one (aCons (eV 0) (aCons (eC (.int 1)) (aCons (eC (.int 4)) aNil)))) (eC (.int 0)))) (sFr 1 (eComp [12] (eLL (eVE 1)) (tgN 12) cYes e_law_2)) sNil) (sSeq (sIf (eB (eOp eqG (eCall q_L_one (aCons (eV 0) (aCons (eC (.int 2)) (aCons (eC (.int 6)) aNil)))) (eC (.int 0)))) (sFr 1 (eCall q_L_digits (aCons (eV 0) (aCons (eC (.int 3)) (aCons (eC (.int 8)) (aCons (eCall q_L_one (aCons (eV 0) (aCons (eC (.int 4)) (aCons (eC (.int 5)) aNil)))) aNil)))))) sNil) (sSeq (sFr 2 (eAndV (eOp eqG (eBlt lenG (aCons (eV 1) aNil)) (eC (.int 3))) (eBlt allG (aCons (eComp [12] (eLL (eVE 1)) (tgN 12) cYes e_law_3) aNil)))) (sSeq (sFr 3 (eC .non)) (sSeq (sFr 4 (eC (.bl false))) (sTryMk 9 3 [("BadBlock", fun a1 => (sFr 4 (eAndV (eIsE 9 a1 true) (eNotV (eIsE 9 a1 false)))))] "Workshop" q_Workshop___init__ (aCons (eBlt listG (aCons (eV 1) aNil)) aNil) (sSeq (sIf (eNot (eTr (eV 2))) (sRet (eAndV (eV 4) (eOp isNG (eV 3) (eC .non)))) sNil) (sSeq (sIf (eB (eOp isNG (eV 3) (eC .non))) (sRet (eC (.bl false))) sNil) (sSeq (sFr 5 (eCall q_L_all (aCons (eV 1) aNil))) (sSeq (sFr 6 (eLst (aCons (eLst aNil) (aCons (eLst aNil) (aCons (eLst aNil) (aCons (eLst aNil) (aCons (eVF 5) (aCons (eLst aNil) (aCons (eLst aNil) (aCons (eVF 5) (aCons (eLst aNil) aNil))))))))))) (sSeq (sFor (eR1 (aCons (eC (.int 2)) aNil)) (tgN 7) b_law_1) (sSeq (sSh 8 (eOp idxG (eV 5) (eOp modG (eCall q_L_one (aCons (eV 0) (aCons (eC (.int 5)) (aCons (eC (.int 216)) aNil)))) (eBlt lenG (aCons (eV 5) aNil))))) (sRetM (eCmpM eqG (eCallO 3 q_L_refusals (aCons (eVE 8) (aCons (eCall q_L_name (aCons (eCall q_L_one (aCons (eV 0) (aCons (eC (.int 6)) (aCons (eC (.int 60)) aNil)))) aNil)) aNil))) (eLst (aCons (eC (.bl true)) (aCons (eC (.bl true)) (aCons (eC (.bl true)) (aCons (eC (.bl true)) aNil))))))))))))))))))))
noncomputable def q_law : List D → M D := runF 1 13 d_law
end Q
set_option Elab.async false
set_option linter.all false
set_option maxRecDepth 100000
set_option maxHeartbeats 4000000
namespace Q
open PySem L2 VL PySem.Spec PyProof.Rows
/-! ### the walk -/
structure Txt (K : PySem.W.Frag) (mg : Str → Option Value) : Prop where
  dummy : True
  m_abs : mg "abs" = none
  m_all : mg "all" = none
  m_bool : mg "bool" = none
  m_enumerate : mg "enumerate" = none
  m_isinstance : mg "isinstance" = none
  m_len : mg "len" = none
  m_list : mg "list" = none
  m_range : mg "range" = none
  m_reversed : mg "reversed" = none
  m_tuple : mg "tuple" = none
  m_zip : mg "zip" = none
  c_COLOURS : GS mg "COLOURS" ("abcdefghijklmnopqrstuvwxyz" : Str)
  c_GREATEST_PART : GI mg "GREATEST_PART" 3
  c_GREATEST_SIZE : GI mg "GREATEST_SIZE" 6
  c_LONGEST_NAME : GI mg "LONGEST_NAME" 12
  c_SKY : GS mg "SKY" ("." : Str)
  c_VEIL : GS mg "VEIL" ("?" : Str)
  x_BadBlock : OwnX K mg "BadBlock"
  x_BadDirection : OwnX K mg "BadDirection"
  x_BadName : OwnX K mg "BadName"
  x_BadPicture : OwnX K mg "BadPicture"
  x_NoPlace : OwnX K mg "NoPlace"
  x_NotCarved : OwnX K mg "NotCarved"
  x_NothingAgain : OwnX K mg "NothingAgain"
  x_NothingBack : OwnX K mg "NothingBack"
  x_Unknown : OwnX K mg "Unknown"
  cls_Workshop : ClsK K "Workshop"
  nf_Workshop_ahead : NoF K "Workshop" "ahead"
  nf_Workshop_now : NoF K "Workshop" "now"
  nf_Workshop_past : NoF K "Workshop" "past"
  nf_Workshop_sizes : NoF K "Workshop" "sizes"
  te_L_refusals_0 : TryEF K mg "SightError" [("NothingBack", [("NothingBack", true), ("NothingAgain", false)])]
  te_L_refusals_1 : TryEF K mg "SightError" [("NothingAgain", [("NothingAgain", true), ("NothingBack", false)])]
  te_L_refusals_2 : TryEF K mg "SightError" [("Unknown", [("Unknown", true), ("ValueError", true)])]
  te_L_refusals_3 : TryEF K mg "SightError" [("NoPlace", [("NotCarved", false), ("Unknown", false)]), ("NotCarved", [("NotCarved", true), ("Unknown", false)])]
  te_law_4 : TryEF K mg "SightError" [("BadBlock", [("BadBlock", true), ("Unknown", false)])]
theorem sc_wall : FnScope ["k"] ["k"] (defScope s_wall) := ⟨rfl, rfl, rfl, by decide +kernel, rfl, by decide +kernel, by decide +kernel⟩
theorem ok_wall {P : Program} {w : World} {K : PySem.W.Frag} {mg : Str → Option Value} {base : Heap} {f : Addr} {fd : FuncData} (T : Txt K mg) (F : Fun K "_wall" "_wall" s_wall f fd) (hm : mg "_wall" = some (.ref f)) (hb : Binds K fd ["k"] [])  : Cal P w K mg base 1 "_wall" q_wall := by
  refine Cal.mk' (fn_ok (N := ["k"]) (F := d_wall) F sc_wall fun cdv A outer s H E S0 hr => ?_) F hm hb
  exact (vss_one (vs_while 1000 (passes_of rfl) (vt_tru (vx_bl (m := .N))) (vss_one vs_pass)))
theorem sc_checked_block : FnScope ["sizes", "row", "size"] ["sizes"] (defScope s_checked_block) := ⟨rfl, rfl, rfl, by decide +kernel, rfl, by decide +kernel, by decide +kernel⟩
theorem ok_checked_block {P : Program} {w : World} {K : PySem.W.Frag} {mg : Str → Option Value} {base : Heap} {f : Addr} {fd : FuncData} (T : Txt K mg) (F : Fun K "checked_block" "checked_block" s_checked_block f fd) (hm : mg "checked_block" = some (.ref f)) (hb : Binds K fd ["sizes"] [])  : Cal P w K mg base 1 "checked_block" q_checked_block := by
  refine Cal.mk' (fn_ok (N := ["sizes", "row", "size"]) (F := d_checked_block) F sc_checked_block fun cdv A outer s H E S0 hr => ?_) F hm hb
  exact (vss_cons (vs_fr (i := 1) sc_checked_block.nd (VX.any (vx_callTy call_tuple_of cg_tuple T.m_tuple (by decide +kernel) (va_cons (vx_var 0) va_nil)))) (vss_cons (vs_if (vt_cmp (op_neA hr.units) og_ne (vx_callB (m := .N) call_len cg_len T.m_len (by decide +kernel) (va_cons (vx_var 1) va_nil)) (vx_int (m := .N))) (vss_one (vs_raise T.x_BadBlock (takes_of rfl rfl rfl rfl))) vss_nil) (vss_cons (vs_for (passes_of rfl) rfl (vi_list (vx_varE 1)) (vg_name sc_checked_block.nd) (vss_wipe (ks := [2]) (vss_one (vs_if (VW.t (vw_or (vt_cmp (op_ltA (hu_of hr)) og_lt (vx_var 2) (vx_int (m := .N))) (vw_or1 (vt_cmp op_gt og_gt (vx_var 2) (vx_gi (m := .N) T.c_GREATEST_SIZE))))) (vss_one (vs_raise T.x_BadBlock (takes_of rfl rfl rfl rfl))) vss_nil)))) (vss_one (vs_retF (vx_varF 1))))))
theorem sc_measure_of : FnScope ["one", "other"] ["one", "other"] (defScope s_measure_of) := ⟨rfl, rfl, rfl, by decide +kernel, rfl, by decide +kernel, by decide +kernel⟩
theorem ok_measure_of {P : Program} {w : World} {K : PySem.W.Frag} {mg : Str → Option Value} {base : Heap} {f : Addr} {fd : FuncData} (T : Txt K mg) (F : Fun K "measure_of" "measure_of" s_measure_of f fd) (hm : mg "measure_of" = some (.ref f)) (hb : Binds K fd ["one", "other"] [])  : Cal P w K mg base 1 "measure_of" q_measure_of := by
  refine Cal.mk' (fn_ok (N := ["one", "other"]) (F := d_measure_of) F sc_measure_of fun cdv A outer s H E S0 hr => ?_) F hm hb
  exact (vss_cons (vs_sh (i := 0) sc_measure_of.nd (vx_callB call_abs cg_abs T.m_abs (by decide +kernel) (va_cons (vx_var 0) va_nil))) (vss_cons (vs_sh (i := 1) sc_measure_of.nd (vx_callB call_abs cg_abs T.m_abs (by decide +kernel) (va_cons (vx_var 1) va_nil))) (vss_cons (vs_while 1000 (passes_of rfl) (vt_cmp op_gt og_gt (vx_var 1) (vx_int (m := .N))) (vss_one (vs_par2 (i := 0) (j := 1) rfl sc_measure_of.nd (va_cons (vx_varE 1) (va_cons (vx_mod (vx_var 0) (vx_var 1)) va_nil))))) (vss_one (vs_retF (VX.any (vx_lf (vx_var 0))))))))
theorem sc_checked_direction : FnScope ["way", "row", "part"] ["way"] (defScope s_checked_direction) := ⟨rfl, rfl, rfl, by decide +kernel, rfl, by decide +kernel, by decide +kernel⟩
theorem ok_checked_direction {P : Program} {w : World} {K : PySem.W.Frag} {mg : Str → Option Value} {base : Heap} {f : Addr} {fd : FuncData} (T : Txt K mg) (F : Fun K "checked_direction" "checked_direction" s_checked_direction f fd) (hm : mg "checked_direction" = some (.ref f)) (hb : Binds K fd ["way"] []) (c_measure_of : Cal P w K mg base 1 "measure_of" q_measure_of) : Cal P w K mg base 2 "checked_direction" q_checked_direction := by
  refine Cal.mk' (fn_ok (N := ["way", "row", "part"]) (F := d_checked_direction) F sc_checked_direction fun cdv A outer s H E S0 hr => ?_) F hm hb
  exact (vss_cons (vs_fr (i := 1) sc_checked_direction.nd (VX.any (vx_callTy call_tuple_of cg_tuple T.m_tuple (by decide +kernel) (va_cons (vx_var 0) va_nil)))) (vss_cons (vs_if (vt_cmp (op_neA hr.units) og_ne (vx_callB (m := .N) call_len cg_len T.m_len (by decide +kernel) (va_cons (vx_var 1) va_nil)) (vx_int (m := .N))) (vss_one (vs_raise T.x_BadDirection (takes_of rfl rfl rfl rfl))) vss_nil) (vss_cons (vs_for (passes_of rfl) rfl (vi_list (vx_varE 1)) (vg_name sc_checked_direction.nd) (vss_wipe (ks := [2]) (vss_one (vs_if (vt_cmp op_gt og_gt (vx_callB (m := .N) call_abs cg_abs T.m_abs (by decide +kernel) (va_cons (vx_var 2) va_nil)) (vx_gi (m := .N) T.c_GREATEST_PART)) (vss_one (vs_raise T.x_BadDirection (takes_of rfl rfl rfl rfl))) vss_nil)))) (vss_cons (vs_if (vt_cmp (op_neA hr.units) og_ne (vx_call c_measure_of (takes_of rfl rfl rfl rfl) hr (by decide) (va_cons (VX.toO (vx_call c_measure_of (takes_of rfl rfl rfl rfl) hr (by decide) (va_cons (VX.toO (vx_ix (hu_of hr) (vx_var 1) (vx_int (m := .N)))) (va_cons (VX.toO (vx_ix (hu_of hr) (vx_var 1) (vx_int (m := .N)))) va_nil)))) (va_cons (VX.toO (vx_ix (hu_of hr) (vx_var 1) (vx_int (m := .N)))) va_nil))) (vx_int (m := .N))) (vss_one (vs_raise T.x_BadDirection (takes_of rfl rfl rfl rfl))) vss_nil) (vss_one (vs_retF (vx_varF 1)))))))
theorem sc_places_of : FnScope ["sizes", "places", "x", "y", "z"] ["sizes"] (defScope s_places_of) := ⟨rfl, rfl, rfl, by decide +kernel, rfl, by decide +kernel, by decide +kernel⟩
theorem ok_places_of {P : Program} {w : World} {K : PySem.W.Frag} {mg : Str → Option Value} {base : Heap} {f : Addr} {fd : FuncData} (T : Txt K mg) (F : Fun K "places_of" "places_of" s_places_of f fd) (hm : mg "places_of" = some (.ref f)) (hb : Binds K fd ["sizes"] [])  : Cal P w K mg base 1 "places_of" q_places_of := by
  refine Cal.mk' (fn_ok (N := ["sizes", "places", "x", "y", "z"]) (F := d_places_of) F sc_places_of fun cdv A outer s H E S0 hr => ?_) F hm hb
  exact (vss_cons (vs_ow (i := 1) sc_places_of.nd (vx_lst (m := .N) (by intro z; cases z) va_nil)) (vss_cons (vs_for (passes_of rfl) rfl (vi_range1 T.m_range (va_cons (VX.toO (vx_ix (hu_of hr) (vx_var 0) (vx_int (m := .N)))) va_nil)) (vg_name sc_places_of.nd) (vss_wipe (ks := [2, 3, 4]) (vss_one (vs_for (passes_of rfl) rfl (vi_range1 T.m_range (va_cons (VX.toO (vx_ix (hu_of hr) (vx_var 0) (vx_int (m := .N)))) va_nil)) (vg_name sc_places_of.nd) (vss_wipe (ks := [3, 4]) (vss_one (vs_for (passes_of rfl) rfl (vi_range1 T.m_range (va_cons (VX.toO (vx_ix (hu_of hr) (vx_var 0) (vx_int (m := .N)))) va_nil)) (vg_name sc_places_of.nd) (vss_wipe (ks := [4]) (vss_one (vs_bm 1 PySem.F.slot_list_append PySem.F.type_list_append mt_append mg_app (va_cons (vx_tup (m := .F) (by intro z; cases z) (va_cons (VX.any (vx_lf (vx_var 2))) (va_cons (VX.any (vx_lf (vx_var 3))) (va_cons (VX.any (vx_lf (vx_var 4))) va_nil)))) va_nil))))))))))) (vss_one (vs_share (i := 1) (vs_retF (vx_varF 1))))))
theorem sc_inside : FnScope ["sizes", "place", "at"] ["sizes", "place"] (defScope s_inside) := ⟨rfl, rfl, rfl, by decide +kernel, rfl, by decide +kernel, by decide +kernel⟩
theorem ok_inside {P : Program} {w : World} {K : PySem.W.Frag} {mg : Str → Option Value} {base : Heap} {f : Addr} {fd : FuncData} (T : Txt K mg) (F : Fun K "inside" "inside" s_inside f fd) (hm : mg "inside" = some (.ref f)) (hb : Binds K fd ["sizes", "place"] [])  : Cal P w K mg base 1 "inside" q_inside := by
  refine Cal.mk' (fn_ok (N := ["sizes", "place", "at"]) (F := d_inside) F sc_inside fun cdv A outer s H E S0 hr => ?_) F hm hb
  exact (vss_cons (vs_for (passes_of rfl) rfl (vi_range1 T.m_range (va_cons vx_int va_nil)) (vg_name sc_inside.nd) (vss_wipe (ks := [2]) (vss_one (vs_if (VW.t (vw_or (vt_cmp (op_ltA (hu_of hr)) og_lt (vx_ix (hu_of hr) (vx_var 1) (vx_var 2)) (vx_int (m := .N))) (vw_or1 (vt_cmp op_ge og_ge (vx_ix (hu_of hr) (vx_var 1) (vx_var 2)) (vx_ix (hu_of hr) (vx_var 0) (vx_var 2)))))) (vss_one (vs_retF vx_bl)) vss_nil)))) (vss_one (vs_retF vx_bl)))
theorem sc_stepped : FnScope ["place", "way", "many"] ["place", "way", "many"] (defScope s_stepped) := ⟨rfl, rfl, rfl, by decide +kernel, rfl, by decide +kernel, by decide +kernel⟩
theorem ok_stepped {P : Program} {w : World} {K : PySem.W.Frag} {mg : Str → Option Value} {base : Heap} {f : Addr} {fd : FuncData} (T : Txt K mg) (F : Fun K "stepped" "stepped" s_stepped f fd) (hm : mg "stepped" = some (.ref f)) (hb : Binds K fd ["place", "way", "many"] [])  : Cal P w K mg base 1 "stepped" q_stepped := by
  refine Cal.mk' (fn_ok (N := ["place", "way", "many"]) (F := d_stepped) F sc_stepped fun cdv A outer s H E S0 hr => ?_) F hm hb
  exact (vss_one (vs_retF (vx_tup (m := .F) (by intro z; cases z) (va_cons (vx_add (vx_ix (hu_of hr) (vx_var 0) (vx_int (m := .N))) (vx_mul (m := .N) (vx_var 2) (vx_ix (hu_of hr) (vx_var 1) (vx_int (m := .N))))) (va_cons (vx_add (vx_ix (hu_of hr) (vx_var 0) (vx_int (m := .N))) (vx_mul (m := .N) (vx_var 2) (vx_ix (hu_of hr) (vx_var 1) (vx_int (m := .N))))) (va_cons (vx_add (vx_ix (hu_of hr) (vx_var 0) (vx_int (m := .N))) (vx_mul (m := .N) (vx_var 2) (vx_ix (hu_of hr) (vx_var 1) (vx_int (m := .N))))) va_nil))))))
theorem sc_door_of : FnScope ["sizes", "way", "place", "near", "before"] ["sizes", "way", "place"] (defScope s_door_of) := ⟨rfl, rfl, rfl, by decide +kernel, rfl, by decide +kernel, by decide +kernel⟩
theorem ok_door_of {P : Program} {w : World} {K : PySem.W.Frag} {mg : Str → Option Value} {base : Heap} {f : Addr} {fd : FuncData} (T : Txt K mg) (F : Fun K "door_of" "door_of" s_door_of f fd) (hm : mg "door_of" = some (.ref f)) (hb : Binds K fd ["sizes", "way", "place"] []) (c_inside : Cal P w K mg base 1 "inside" q_inside) (c_stepped : Cal P w K mg base 1 "stepped" q_stepped) : Cal P w K mg base 2 "door_of" q_door_of := by
  refine Cal.mk' (fn_ok (N := ["sizes", "way", "place", "near", "before"]) (F := d_door_of) F sc_door_of fun cdv A outer s H E S0 hr => ?_) F hm hb
  exact (vss_cons (vs_sh (i := 3) sc_door_of.nd (vx_tup (m := .E) (by intro z; cases z) (va_cons (vx_ix (hu_of hr) (vx_var 2) (vx_int (m := .N))) (va_cons (vx_ix (hu_of hr) (vx_var 2) (vx_int (m := .N))) (va_cons (vx_ix (hu_of hr) (vx_var 2) (vx_int (m := .N))) va_nil))))) (vss_cons (vs_fr (i := 4) sc_door_of.nd (VX.any (vx_call c_stepped (takes_of rfl rfl rfl rfl) hr (by decide) (va_cons (vx_var 3) (va_cons (vx_var 1) (va_cons (vx_neg (vx_int (m := .N))) va_nil)))))) (vss_cons (vs_while 1000 (passes_of rfl) (vt_tru (vx_call c_inside (takes_of rfl rfl rfl rfl) hr (by decide) (va_cons (vx_var 0) (va_cons (vx_var 4) va_nil)))) (vss_cons (vs_sh (i := 3) sc_door_of.nd (vx_varE 4)) (vss_one (vs_fr (i := 4) sc_door_of.nd (VX.any (vx_call c_stepped (takes_of rfl rfl rfl rfl) hr (by decide) (va_cons (vx_var 3) (va_cons (vx_var 1) (va_cons (vx_neg (vx_int (m := .N))) va_nil))))))))) (vss_one (vs_retF (VX.any (vx_lf (vx_var 3))))))))
theorem sc_doors_of : FnScope ["sizes", "way", "place"] ["sizes", "way"] (defScope s_doors_of) := ⟨rfl, rfl, rfl, by decide +kernel, rfl, by decide +kernel, by decide +kernel⟩
theorem ok_doors_of {P : Program} {w : World} {K : PySem.W.Frag} {mg : Str → Option Value} {base : Heap} {f : Addr} {fd : FuncData} (T : Txt K mg) (F : Fun K "doors_of" "doors_of" s_doors_of f fd) (hm : mg "doors_of" = some (.ref f)) (hb : Binds K fd ["sizes", "way"] []) (c_inside : Cal P w K mg base 1 "inside" q_inside) (c_places_of : Cal P w K mg base 1 "places_of" q_places_of) (c_stepped : Cal P w K mg base 1 "stepped" q_stepped) : Cal P w K mg base 2 "doors_of" q_doors_of := by
  refine Cal.mk' (fn_ok (N := ["sizes", "way", "place"]) (F := d_doors_of) F sc_doors_of fun cdv A outer s H E S0 hr => ?_) F hm hb
  exact (vss_one (vs_retF (vx_lc (own := [("place", 2)]) (m := .F) (by intro z; cases z) rfl sc_doors_of.nd (vi_list (VX.any (vx_call c_places_of (takes_of rfl rfl rfl rfl) hr (by decide) (va_cons (vx_var 0) va_nil)))) (blkOk_by (own := [("place", 2)]) (N := ["sizes", "way", "place"]) (sc := defScope s_doors_of) (by decide +kernel)) (fun _ => (vg_name sc_doors_of.nd)) (fun _ => (vts_one (vt_not (vt_tru (vx_call c_inside takes0 hr (by decide) (va_cons (vx_var 0) (va_cons (VX.toO (vx_call c_stepped takes0 hr (by decide) (va_cons (vx_var 2) (va_cons (vx_var 1) (va_cons (vx_neg (vx_int (m := .N))) va_nil))))) va_nil))))))) (fun _ => (VX.any (vx_lf (vx_var 2)))))))
theorem sc_marks_of : FnScope ["stone", "marks", "place"] ["stone"] (defScope s_marks_of) := ⟨rfl, rfl, rfl, by decide +kernel, rfl, by decide +kernel, by decide +kernel⟩
theorem ok_marks_of {P : Program} {w : World} {K : PySem.W.Frag} {mg : Str → Option Value} {base : Heap} {f : Addr} {fd : FuncData} (T : Txt K mg) (F : Fun K "marks_of" "marks_of" s_marks_of f fd) (hm : mg "marks_of" = some (.ref f)) (hb : Binds K fd ["stone"] [])  : Cal P w K mg base 1 "marks_of" q_marks_of := by
  refine Cal.mk' (fn_ok (N := ["stone", "marks", "place"]) (F := d_marks_of) F sc_marks_of fun cdv A outer s H E S0 hr => ?_) F hm hb
  exact (vss_cons (vs_ow (i := 1) sc_marks_of.nd vx_dnewT) (vss_cons (vs_for (passes_of rfl) rfl (vi_list (vx_varE 0)) (vg_name sc_marks_of.nd) (vss_wipe (ks := [2]) (vss_one (vs_put 1 (hu_of hr) (vx_var 2) vx_bl)))) (vss_one (vs_share (i := 1) (vs_retF (vx_varF 1))))))
theorem sc_seen_from : FnScope ["sizes", "way", "stone", "marks", "seen", "place", "near"] ["sizes", "way", "stone"] (defScope s_seen_from) := ⟨rfl, rfl, rfl, by decide +kernel, rfl, by decide +kernel, by decide +kernel⟩
theorem ok_seen_from {P : Program} {w : World} {K : PySem.W.Frag} {mg : Str → Option Value} {base : Heap} {f : Addr} {fd : FuncData} (T : Txt K mg) (F : Fun K "seen_from" "seen_from" s_seen_from f fd) (hm : mg "seen_from" = some (.ref f)) (hb : Binds K fd ["sizes", "way", "stone"] []) (c_inside : Cal P w K mg base 1 "inside" q_inside) (c_marks_of : Cal P w K mg base 1 "marks_of" q_marks_of) (c_stepped : Cal P w K mg base 1 "stepped" q_stepped) : Cal P w K mg base 2 "seen_from" q_seen_from := by
  refine Cal.mk' (fn_ok (N := ["sizes", "way", "stone", "marks", "seen", "place", "near"]) (F := d_seen_from) F sc_seen_from fun cdv A outer s H E S0 hr => ?_) F hm hb
  exact (vss_cons (vs_fr (i := 3) sc_seen_from.nd (VX.any (vx_call c_marks_of (takes_of rfl rfl rfl rfl) hr (by decide) (va_cons (vx_var 2) va_nil)))) (vss_cons (vs_ow (i := 4) sc_seen_from.nd (vx_lst (m := .N) (by intro z; cases z) va_nil)) (vss_cons (vs_for (passes_of rfl) rfl (vi_list (vx_varE 2)) (vg_name sc_seen_from.nd) (vss_wipe (ks := [5, 6]) (vss_cons (vs_fr (i := 6) sc_seen_from.nd (VX.any (vx_call c_stepped (takes_of rfl rfl rfl rfl) hr (by decide) (va_cons (vx_var 5) (va_cons (vx_var 1) (va_cons (vx_neg (vx_int (m := .N))) va_nil)))))) (vss_cons (vs_while 1000 (passes_of rfl) (VW.t (vw_and (vt_tru (vx_call c_inside (takes_of rfl rfl rfl rfl) hr (by decide) (va_cons (vx_var 0) (va_cons (vx_var 6) va_nil)))) (vw_and1 (vt_cmp (op_ninA (hu65 hr)) og_nin (vx_var 6) (vx_var 3))))) (vss_one (vs_fr (i := 6) sc_seen_from.nd (VX.any (vx_call c_stepped (takes_of rfl rfl rfl rfl) hr (by decide) (va_cons (vx_var 6) (va_cons (vx_var 1) (va_cons (vx_neg (vx_int (m := .N))) va_nil)))))))) (vss_one (vs_if (vt_not (vt_tru (vx_call c_inside (takes_of rfl rfl rfl rfl) hr (by decide) (va_cons (vx_var 0) (va_cons (vx_var 6) va_nil))))) (vss_one (vs_bm 4 PySem.F.slot_list_append PySem.F.type_list_append mt_append mg_app (va_cons (VX.any (vx_lf (vx_var 5))) va_nil))) vss_nil)))))) (vss_one (vs_share (i := 4) (vs_retF (vx_varF 4)))))))
theorem sc_lacking : FnScope ["one", "other", "marks", "place"] ["one", "other"] (defScope s_lacking) := ⟨rfl, rfl, rfl, by decide +kernel, rfl, by decide +kernel, by decide +kernel⟩
theorem ok_lacking {P : Program} {w : World} {K : PySem.W.Frag} {mg : Str → Option Value} {base : Heap} {f : Addr} {fd : FuncData} (T : Txt K mg) (F : Fun K "lacking" "lacking" s_lacking f fd) (hm : mg "lacking" = some (.ref f)) (hb : Binds K fd ["one", "other"] []) (c_marks_of : Cal P w K mg base 1 "marks_of" q_marks_of) : Cal P w K mg base 2 "lacking" q_lacking := by
  refine Cal.mk' (fn_ok (N := ["one", "other", "marks", "place"]) (F := d_lacking) F sc_lacking fun cdv A outer s H E S0 hr => ?_) F hm hb
  exact (vss_cons (vs_fr (i := 2) sc_lacking.nd (VX.any (vx_call c_marks_of (takes_of rfl rfl rfl rfl) hr (by decide) (va_cons (vx_var 1) va_nil)))) (vss_one (vs_retF (vx_lc (own := [("place", 3)]) (m := .F) (by intro z; cases z) rfl sc_lacking.nd (vi_list (vx_varE 0)) (blkOk_by (own := [("place", 3)]) (N := ["one", "other", "marks", "place"]) (sc := defScope s_lacking) (by decide +kernel)) (fun _ => (vg_name sc_lacking.nd)) (fun _ => (vts_one (vt_cmp (op_ninA (hu65 hr)) og_nin (vx_var 3) (vx_var 2)))) (fun _ => (VX.any (vx_lf (vx_var 3))))))))
theorem sc_is_sign : FnScope ["sign"] ["sign"] (defScope s_is_sign) := ⟨rfl, rfl, rfl, by decide +kernel, rfl, by decide +kernel, by decide +kernel⟩
theorem ok_is_sign {P : Program} {w : World} {K : PySem.W.Frag} {mg : Str → Option Value} {base : Heap} {f : Addr} {fd : FuncData} (T : Txt K mg) (F : Fun K "is_sign" "is_sign" s_is_sign f fd) (hm : mg "is_sign" = some (.ref f)) (hb : Binds K fd ["sign"] [])  : Cal P w K mg base 1 "is_sign" q_is_sign := by
  refine Cal.mk' (fn_ok (N := ["sign"]) (F := d_is_sign) F sc_is_sign fun cdv A outer s H E S0 hr => ?_) F hm hb
  exact (vss_one (vs_retF (vx_and (vx_cmp (m := .N) (op_eqA hr.units) og_eq (vx_callB (m := .N) call_len cg_len T.m_len (by decide +kernel) (va_cons (vx_var 0) va_nil)) (vx_int (m := .N))) (vx_one (vx_or (vx_cmp (m := .N) (op_inA (hu65 hr)) og_in (vx_var 0) (vx_gs (m := .N) T.c_COLOURS)) (vx_or (vx_cmp (m := .N) (op_eqA hr.units) og_eq (vx_var 0) (vx_gs (m := .N) T.c_SKY)) (vx_one (vx_cmp (op_eqA hr.units) og_eq (vx_var 0) (vx_gs (m := .N) T.c_VEIL)))))))))
theorem sc_checked_picture : FnScope ["sizes", "way", "picture", "sign"] ["sizes", "way", "picture"] (defScope s_checked_picture) := ⟨rfl, rfl, rfl, by decide +kernel, rfl, by decide +kernel, by decide +kernel⟩
theorem ok_checked_picture {P : Program} {w : World} {K : PySem.W.Frag} {mg : Str → Option Value} {base : Heap} {f : Addr} {fd : FuncData} (T : Txt K mg) (F : Fun K "checked_picture" "checked_picture" s_checked_picture f fd) (hm : mg "checked_picture" = some (.ref f)) (hb : Binds K fd ["sizes", "way", "picture"] []) (c_doors_of : Cal P w K mg base 2 "doors_of" q_doors_of) (c_is_sign : Cal P w K mg base 1 "is_sign" q_is_sign) : Cal P w K mg base 3 "checked_picture" q_checked_picture := by
  refine Cal.mk' (fn_ok (N := ["sizes", "way", "picture", "sign"]) (F := d_checked_picture) F sc_checked_picture fun cdv A outer s H E S0 hr => ?_) F hm hb
  exact (vss_cons (vs_if (vt_cmp (op_neA hr.units) og_ne (vx_callB (m := .N) call_len cg_len T.m_len (by decide +kernel) (va_cons (vx_var 2) va_nil)) (vx_callB (m := .N) call_len cg_len T.m_len (by decide +kernel) (va_cons (VX.toO (vx_call c_doors_of (takes_of rfl rfl rfl rfl) hr (by decide) (va_cons (vx_var 0) (va_cons (vx_var 1) va_nil)))) va_nil))) (vss_one (vs_raise T.x_BadPicture (takes_of rfl rfl rfl rfl))) vss_nil) (vss_cons (vs_for (passes_of rfl) rfl (vi_str (vx_var 2)) (vg_name sc_checked_picture.nd) (vss_wipe (ks := [3]) (vss_one (vs_if (vt_not (vt_tru (vx_call c_is_sign (takes_of rfl rfl rfl rfl) hr (by decide) (va_cons (vx_var 3) va_nil)))) (vss_one (vs_raise T.x_BadPicture (takes_of rfl rfl rfl rfl))) vss_nil)))) (vss_one (vs_retF (VX.any (vx_lf (vx_var 2)))))))
theorem sc_signs_by_door : FnScope ["sizes", "way", "picture", "signs", "door", "sign"] ["sizes", "way", "picture"] (defScope s_signs_by_door) := ⟨rfl, rfl, rfl, by decide +kernel, rfl, by decide +kernel, by decide +kernel⟩
theorem ok_signs_by_door {P : Program} {w : World} {K : PySem.W.Frag} {mg : Str → Option Value} {base : Heap} {f : Addr} {fd : FuncData} (T : Txt K mg) (F : Fun K "signs_by_door" "signs_by_door" s_signs_by_door f fd) (hm : mg "signs_by_door" = some (.ref f)) (hb : Binds K fd ["sizes", "way", "picture"] []) (c_doors_of : Cal P w K mg base 2 "doors_of" q_doors_of) : Cal P w K mg base 3 "signs_by_door" q_signs_by_door := by
  refine Cal.mk' (fn_ok (N := ["sizes", "way", "picture", "signs", "door", "sign"]) (F := d_signs_by_door) F sc_signs_by_door fun cdv A outer s H E S0 hr => ?_) F hm hb
  exact (vss_cons (vs_ow (i := 3) sc_signs_by_door.nd vx_dnewT) (vss_cons (vs_for (passes_of rfl) rfl (vi_zipLS T.m_zip (va_cons (VX.any (vx_call c_doors_of (takes_of rfl rfl rfl rfl) hr (by decide) (va_cons (vx_var 0) (va_cons (vx_var 1) va_nil)))) (va_cons (vx_varE 2) va_nil))) (vg_tup rfl (vgs_cons (vg_name sc_signs_by_door.nd) (vgs_cons (vg_name sc_signs_by_door.nd) vgs_nil))) (vss_wipe (ks := [4, 5]) (vss_one (vs_put 3 (hu_of hr) (vx_var 4) (VX.any (vx_lf (vx_var 5))))))) (vss_one (vs_share (i := 3) (vs_retF (vx_varF 3))))))
theorem sc_view_of : FnScope ["sizes", "look", "stone", "way", "picture", "signs", "view", "place"] ["sizes", "look", "stone"] (defScope s_view_of) := ⟨rfl, rfl, rfl, by decide +kernel, rfl, by decide +kernel, by decide +kernel⟩
theorem ok_view_of {P : Program} {w : World} {K : PySem.W.Frag} {mg : Str → Option Value} {base : Heap} {f : Addr} {fd : FuncData} (T : Txt K mg) (F : Fun K "view_of" "view_of" s_view_of f fd) (hm : mg "view_of" = some (.ref f)) (hb : Binds K fd ["sizes", "look", "stone"] []) (c_door_of : Cal P w K mg base 2 "door_of" q_door_of) (c_seen_from : Cal P w K mg base 2 "seen_from" q_seen_from) (c_signs_by_door : Cal P w K mg base 3 "signs_by_door" q_signs_by_door) : Cal P w K mg base 4 "view_of" q_view_of := by
  refine Cal.mk' (fn_ok (N := ["sizes", "look", "stone", "way", "picture", "signs", "view", "place"]) (F := d_view_of) F sc_view_of fun cdv A outer s H E S0 hr => ?_) F hm hb
  exact (vss_cons (vs_unp (vx_varE 1) (vg_tup rfl (vgs_cons (vg_name sc_view_of.nd) (vgs_cons (vg_name sc_view_of.nd) vgs_nil)))) (vss_cons (vs_fr (i := 5) sc_view_of.nd (VX.any (vx_call c_signs_by_door (takes_of rfl rfl rfl rfl) hr (by decide) (va_cons (vx_var 0) (va_cons (vx_var 3) (va_cons (vx_var 4) va_nil)))))) (vss_cons (vs_ow (i := 6) sc_view_of.nd vx_dnewT) (vss_cons (vs_for (passes_of rfl) rfl (vi_list (VX.any (vx_call c_seen_from (takes_of rfl rfl rfl rfl) hr (by decide) (va_cons (vx_var 0) (va_cons (vx_var 3) (va_cons (vx_var 2) va_nil)))))) (vg_name sc_view_of.nd) (vss_wipe (ks := [7]) (vss_one (vs_put 6 (hu_of hr) (vx_var 7) (VX.any (vx_lf (vx_ix (hu_of hr) (vx_var 5) (vx_call c_door_of (takes_of rfl rfl rfl rfl) hr (by decide) (va_cons (vx_var 0) (va_cons (vx_var 3) (va_cons (vx_var 7) va_nil))))))))))) (vss_one (vs_share (i := 6) (vs_retF (vx_varF 6))))))))
theorem sc_views_of : FnScope ["sizes", "looks", "stone", "look"] ["sizes", "looks", "stone"] (defScope s_views_of) := ⟨rfl, rfl, rfl, by decide +kernel, rfl, by decide +kernel, by decide +kernel⟩
theorem ok_views_of {P : Program} {w : World} {K : PySem.W.Frag} {mg : Str → Option Value} {base : Heap} {f : Addr} {fd : FuncData} (T : Txt K mg) (F : Fun K "views_of" "views_of" s_views_of f fd) (hm : mg "views_of" = some (.ref f)) (hb : Binds K fd ["sizes", "looks", "stone"] []) (c_view_of : Cal P w K mg base 4 "view_of" q_view_of) : Cal P w K mg base 5 "views_of" q_views_of := by
  refine Cal.mk' (fn_ok (N := ["sizes", "looks", "stone", "look"]) (F := d_views_of) F sc_views_of fun cdv A outer s H E S0 hr => ?_) F hm hb
  exact (vss_one (vs_retF (vx_lc (own := [("look", 3)]) (m := .F) (by intro z; cases z) rfl sc_views_of.nd (vi_list (vx_varE 1)) (blkOk_by (own := [("look", 3)]) (N := ["sizes", "looks", "stone", "look"]) (sc := defScope s_views_of) (by decide +kernel)) (fun _ => (vg_name sc_views_of.nd)) (fun _ => vts_nil) (fun _ => (VX.any (vx_call c_view_of takes0 hr (by decide) (va_cons (vx_var 0) (va_cons (vx_var 3) (va_cons (vx_var 2) va_nil)))))))))
theorem sc_bar_in : FnScope ["views", "place", "told", "number", "view"] ["views", "place"] (defScope s_bar_in) := ⟨rfl, rfl, rfl, by decide +kernel, rfl, by decide +kernel, by decide +kernel⟩
theorem ok_bar_in {P : Program} {w : World} {K : PySem.W.Frag} {mg : Str → Option Value} {base : Heap} {f : Addr} {fd : FuncData} (T : Txt K mg) (F : Fun K "bar_in" "bar_in" s_bar_in f fd) (hm : mg "bar_in" = some (.ref f)) (hb : Binds K fd ["views", "place"] [])  : Cal P w K mg base 1 "bar_in" q_bar_in := by
  refine Cal.mk' (fn_ok (N := ["views", "place", "told", "number", "view"]) (F := d_bar_in) F sc_bar_in fun cdv A outer s H E S0 hr => ?_) F hm hb
  exact (vss_cons (vs_ow (i := 2) sc_bar_in.nd (vx_lst (m := .N) (by intro z; cases z) va_nil)) (vss_cons (vs_for (passes_of rfl) rfl (vi_enum T.m_enumerate (va_cons (vx_varE 0) va_nil)) (vg_tup rfl (vgs_cons (vg_name sc_bar_in.nd) (vgs_cons (vg_name sc_bar_in.nd) vgs_nil))) (vss_wipe (ks := [3, 4]) (vss_one (vs_if (vt_cmp (op_inA (hu65 hr)) og_in (vx_var 1) (vx_var 4)) (vss_cons (vs_if (vt_cmp (op_eqA hr.units) og_eq (vx_ix (hu_of hr) (vx_var 4) (vx_var 1)) (vx_gs (m := .N) T.c_SKY)) (vss_one (vs_retF (vx_tup (m := .F) (by intro z; cases z) (va_cons (VX.any (vx_lf (vx_var 3))) (va_cons (VX.any (vx_lf (vx_var 3))) va_nil))))) vss_nil) (vss_one (vs_if (vt_cmp (op_neA hr.units) og_ne (vx_ix (hu_of hr) (vx_var 4) (vx_var 1)) (vx_gs (m := .N) T.c_VEIL)) (vss_one (vs_bm 2 PySem.F.slot_list_append PySem.F.type_list_append mt_append mg_app (va_cons (VX.any (vx_lf (vx_var 3))) va_nil))) vss_nil))) vss_nil)))) (vss_cons (vs_share (i := 2) (vs_for (passes_of rfl) rfl (vi_list (vx_varE 2)) (vg_name sc_bar_in.nd) (vss_wipe (ks := [3]) (vss_one (vs_if (vt_cmp (op_neA hr.units) og_ne (vx_ix (hu_of hr) (vx_ix (hu_of hr) (vx_var 0) (vx_var 3)) (vx_var 1)) (vx_ix (hu_of hr) (vx_ix (hu_of hr) (vx_var 0) (vx_ix (hu_of hr) (vx_var 2) (vx_int (m := .N)))) (vx_var 1))) (vss_one (vs_retF (vx_tup (m := .F) (by intro z; cases z) (va_cons (VX.any (vx_lf (vx_ix (hu_of hr) (vx_var 2) (vx_int (m := .N))))) (va_cons (VX.any (vx_lf (vx_var 3))) va_nil))))) vss_nil))))) (vss_one (vs_retF vx_non)))))
theorem sc_barred : FnScope ["sizes", "looks", "stone", "views", "rows", "place", "bar"] ["sizes", "looks", "stone"] (defScope s_barred) := ⟨rfl, rfl, rfl, by decide +kernel, rfl, by decide +kernel, by decide +kernel⟩
theorem ok_barred {P : Program} {w : World} {K : PySem.W.Frag} {mg : Str → Option Value} {base : Heap} {f : Addr} {fd : FuncData} (T : Txt K mg) (F : Fun K "barred" "barred" s_barred f fd) (hm : mg "barred" = some (.ref f)) (hb : Binds K fd ["sizes", "looks", "stone"] []) (c_bar_in : Cal P w K mg base 1 "bar_in" q_bar_in) (c_views_of : Cal P w K mg base 5 "views_of" q_views_of) : Cal P w K mg base 6 "barred" q_barred := by
  refine Cal.mk' (fn_ok (N := ["sizes", "looks", "stone", "views", "rows", "place", "bar"]) (F := d_barred) F sc_barred fun cdv A outer s H E S0 hr => ?_) F hm hb
  exact (vss_cons (vs_fr (i := 3) sc_barred.nd (VX.any (vx_call c_views_of (takes_of rfl rfl rfl rfl) hr (by decide) (va_cons (vx_var 0) (va_cons (vx_var 1) (va_cons (vx_var 2) va_nil)))))) (vss_cons (vs_ow (i := 4) sc_barred.nd (vx_lst (m := .N) (by intro z; cases z) va_nil)) (vss_cons (vs_for (passes_of rfl) rfl (vi_list (vx_varE 2)) (vg_name sc_barred.nd) (vss_wipe (ks := [5, 6]) (vss_cons (vs_fr (i := 6) sc_barred.nd (VX.any (vx_call c_bar_in (takes_of rfl rfl rfl rfl) hr (by decide) (va_cons (vx_var 3) (va_cons (vx_var 5) va_nil))))) (vss_one (vs_if (vt_cmp op_notN og_notN (vx_var 6) (vx_non (m := .N))) (vss_one (vs_bm 4 PySem.F.slot_list_append PySem.F.type_list_append mt_append mg_app (va_cons (vx_tup (m := .F) (by intro z; cases z) (va_cons (VX.any (vx_lf (vx_var 5))) (va_cons (VX.any (vx_lf (vx_ix (hu_of hr) (vx_var 6) (vx_int (m := .N))))) (va_cons (VX.any (vx_lf (vx_ix (hu_of hr) (vx_var 6) (vx_int (m := .N))))) va_nil)))) va_nil))) vss_nil))))) (vss_one (vs_share (i := 4) (vs_retF (vx_varF 4)))))))
theorem sc_picked : FnScope ["picks", "turn", "many"] ["picks", "turn", "many"] (defScope s_picked) := ⟨rfl, rfl, rfl, by decide +kernel, rfl, by decide +kernel, by decide +kernel⟩
theorem ok_picked {P : Program} {w : World} {K : PySem.W.Frag} {mg : Str → Option Value} {base : Heap} {f : Addr} {fd : FuncData} (T : Txt K mg) (F : Fun K "picked" "picked" s_picked f fd) (hm : mg "picked" = some (.ref f)) (hb : Binds K fd ["picks", "turn", "many"] [])  : Cal P w K mg base 1 "picked" q_picked := by
  refine Cal.mk' (fn_ok (N := ["picks", "turn", "many"]) (F := d_picked) F sc_picked fun cdv A outer s H E S0 hr => ?_) F hm hb
  exact (vss_cons (vs_if (vt_cmp (op_ltA (hu_of hr)) og_lt (vx_var 1) (vx_callB (m := .N) call_len cg_len T.m_len (by decide +kernel) (va_cons (vx_var 0) va_nil))) (vss_one (vs_retF (vx_mod (vx_ix (hu_of hr) (vx_var 0) (vx_var 1)) (vx_var 2)))) vss_nil) (vss_one (vs_retF vx_int)))
theorem sc_carve : FnScope ["sizes", "looks", "stone", "picks", "left", "paper", "rows", "row"] ["sizes", "looks", "stone", "picks"] (defScope s_carve) := ⟨rfl, rfl, rfl, by decide +kernel, rfl, by decide +kernel, by decide +kernel⟩
theorem ok_carve {P : Program} {w : World} {K : PySem.W.Frag} {mg : Str → Option Value} {base : Heap} {f : Addr} {fd : FuncData} (T : Txt K mg) (F : Fun K "carve" "carve" s_carve f fd) (hm : mg "carve" = some (.ref f)) (hb : Binds K fd ["sizes", "looks", "stone", "picks"] []) (c_barred : Cal P w K mg base 6 "barred" q_barred) (c_picked : Cal P w K mg base 1 "picked" q_picked) : Cal P w K mg base 7 "carve" q_carve := by
  refine Cal.mk' (fn_ok (N := ["sizes", "looks", "stone", "picks", "left", "paper", "rows", "row"]) (F := d_carve) F sc_carve fun cdv A outer s H E S0 hr => ?_) F hm hb
  exact (vss_cons (vs_ow (i := 4) sc_carve.nd (vx_callTy call_list_of cg_list T.m_list (by decide +kernel) (va_cons (vx_var 2) va_nil))) (vss_cons (vs_ow (i := 5) sc_carve.nd (vx_lst (m := .N) (by intro z; cases z) va_nil)) (vss_cons (vs_fr (i := 6) sc_carve.nd (VX.any (vx_call c_barred (takes_of rfl rfl rfl rfl) hr (by decide) (va_cons (vx_var 0) (va_cons (vx_var 1) (va_cons (vx_var 4) va_nil)))))) (vss_cons (vs_while 1000 (passes_of rfl) (vt_tru (vx_var 6)) (vss_wipe (ks := [7]) (vss_cons (vs_sh (i := 7) sc_carve.nd (vx_ix (hu_of hr) (vx_var 6) (vx_call c_picked (takes_of rfl rfl rfl rfl) hr (by decide) (va_cons (vx_var 3) (va_cons (vx_callB call_len cg_len T.m_len (by decide +kernel) (va_cons (vx_var 5) va_nil)) (va_cons (vx_callB call_len cg_len T.m_len (by decide +kernel) (va_cons (vx_var 6) va_nil)) va_nil)))))) (vss_cons (vs_bm 5 PySem.F.slot_list_append PySem.F.type_list_append mt_append mg_app (va_cons (VX.any (vx_lf (vx_var 7))) va_nil)) (vss_cons (vs_bm 4 PySem.F.slot_list_remove PySem.F.type_list_remove (mt_removeD (hu65 hr)) mg_rem (va_cons (VX.any (vx_lf (vx_ix (hu_of hr) (vx_var 7) (vx_int (m := .N))))) va_nil)) (vss_one (vs_fr (i := 6) sc_carve.nd (VX.any (vx_call c_barred (takes_of rfl rfl rfl rfl) hr (by decide) (va_cons (vx_var 0) (va_cons (vx_var 1) (va_cons (vx_var 4) va_nil)))))))))))) (vss_one (vs_share (i := 5) (vs_share (i := 4) (vs_retF (vx_tup (m := .F) (by intro z; cases z) (va_cons (vx_varF 4) (va_cons (vx_varF 5) va_nil)))))))))))
theorem sc_checked_name : FnScope ["name", "sign"] ["name"] (defScope s_checked_name) := ⟨rfl, rfl, rfl, by decide +kernel, rfl, by decide +kernel, by decide +kernel⟩
theorem ok_checked_name {P : Program} {w : World} {K : PySem.W.Frag} {mg : Str → Option Value} {base : Heap} {f : Addr} {fd : FuncData} (T : Txt K mg) (F : Fun K "checked_name" "checked_name" s_checked_name f fd) (hm : mg "checked_name" = some (.ref f)) (hb : Binds K fd ["name"] [])  : Cal P w K mg base 1 "checked_name" q_checked_name := by
  refine Cal.mk' (fn_ok (N := ["name", "sign"]) (F := d_checked_name) F sc_checked_name fun cdv A outer s H E S0 hr => ?_) F hm hb
  exact (vss_cons (vs_if (VW.t (vw_or (vt_cmp (op_ltA (hu_of hr)) og_lt (vx_callB (m := .N) call_len cg_len T.m_len (by decide +kernel) (va_cons (vx_var 0) va_nil)) (vx_int (m := .N))) (vw_or1 (vt_cmp op_gt og_gt (vx_callB (m := .N) call_len cg_len T.m_len (by decide +kernel) (va_cons (vx_var 0) va_nil)) (vx_gi (m := .N) T.c_LONGEST_NAME))))) (vss_one (vs_raise T.x_BadName (takes_of rfl rfl rfl rfl))) vss_nil) (vss_cons (vs_for (passes_of rfl) rfl (vi_str (vx_var 0)) (vg_name sc_checked_name.nd) (vss_wipe (ks := [1]) (vss_one (vs_if (vt_cmp (op_ninA (hu65 hr)) og_nin (vx_var 1) (vx_gs (m := .N) T.c_COLOURS)) (vss_one (vs_raise T.x_BadName (takes_of rfl rfl rfl rfl))) vss_nil)))) (vss_one (vs_retF (VX.any (vx_lf (vx_var 0)))))))
theorem sc_hiding : FnScope ["sizes", "way", "marks", "place", "found", "near"] ["sizes", "way", "marks", "place"] (defScope s_hiding) := ⟨rfl, rfl, rfl, by decide +kernel, rfl, by decide +kernel, by decide +kernel⟩
theorem ok_hiding {P : Program} {w : World} {K : PySem.W.Frag} {mg : Str → Option Value} {base : Heap} {f : Addr} {fd : FuncData} (T : Txt K mg) (F : Fun K "hiding" "hiding" s_hiding f fd) (hm : mg "hiding" = some (.ref f)) (hb : Binds K fd ["sizes", "way", "marks", "place"] []) (c_inside : Cal P w K mg base 1 "inside" q_inside) (c_stepped : Cal P w K mg base 1 "stepped" q_stepped) : Cal P w K mg base 2 "hiding" q_hiding := by
  refine Cal.mk' (fn_ok (N := ["sizes", "way", "marks", "place", "found", "near"]) (F := d_hiding) F sc_hiding fun cdv A outer s H E S0 hr => ?_) F hm hb
  exact (vss_cons (vs_ow (i := 4) sc_hiding.nd (vx_lst (m := .N) (by intro z; cases z) va_nil)) (vss_cons (vs_fr (i := 5) sc_hiding.nd (VX.any (vx_call c_stepped (takes_of rfl rfl rfl rfl) hr (by decide) (va_cons (vx_var 3) (va_cons (vx_var 1) (va_cons (vx_neg (vx_int (m := .N))) va_nil)))))) (vss_cons (vs_while 1000 (passes_of rfl) (vt_tru (vx_call c_inside (takes_of rfl rfl rfl rfl) hr (by decide) (va_cons (vx_var 0) (va_cons (vx_var 5) va_nil)))) (vss_cons (vs_if (vt_cmp (op_inA (hu65 hr)) og_in (vx_var 5) (vx_var 2)) (vss_one (vs_bm 4 PySem.F.slot_list_append PySem.F.type_list_append mt_append mg_app (va_cons (vx_varF 5) va_nil))) vss_nil) (vss_one (vs_fr (i := 5) sc_hiding.nd (VX.any (vx_call c_stepped (takes_of rfl rfl rfl rfl) hr (by decide) (va_cons (vx_var 5) (va_cons (vx_var 1) (va_cons (vx_neg (vx_int (m := .N))) va_nil))))))))) (vss_one (vs_share (i := 4) (vs_retF (vx_varF 4)))))))
theorem sc_because : FnScope ["sizes", "looks", "stone", "paper", "place", "marks", "wanted", "kept", "row", "number", "near"] ["sizes", "looks", "stone", "paper", "place"] (defScope s_because) := ⟨rfl, rfl, rfl, by decide +kernel, rfl, by decide +kernel, by decide +kernel⟩
theorem ok_because {P : Program} {w : World} {K : PySem.W.Frag} {mg : Str → Option Value} {base : Heap} {f : Addr} {fd : FuncData} (T : Txt K mg) (F : Fun K "because" "because" s_because f fd) (hm : mg "because" = some (.ref f)) (hb : Binds K fd ["sizes", "looks", "stone", "paper", "place"] []) (c_hiding : Cal P w K mg base 2 "hiding" q_hiding) (c_marks_of : Cal P w K mg base 1 "marks_of" q_marks_of) : Cal P w K mg base 3 "because" q_because := by
  refine Cal.mk' (fn_ok (N := ["sizes", "looks", "stone", "paper", "place", "marks", "wanted", "kept", "row", "number", "near"]) (F := d_because) F sc_because fun cdv A outer s H E S0 hr => ?_) F hm hb
  exact (vss_cons (vs_fr (i := 5) sc_because.nd (VX.any (vx_call c_marks_of (takes_of rfl rfl rfl rfl) hr (by decide) (va_cons (vx_var 2) va_nil)))) (vss_cons (vs_ow (i := 6) sc_because.nd (vx_dct1 (hu_of hr) (vx_var 4) vx_bl)) (vss_cons (vs_ow (i := 7) sc_because.nd (vx_lst (m := .N) (by intro z; cases z) va_nil)) (vss_cons (vs_for (passes_of rfl) rfl (vi_rev T.m_reversed (vx_varE 3)) (vg_name sc_because.nd) (vss_wipe (ks := [8, 9, 10]) (vss_one (vs_if (vt_cmp (op_inA (hu65 hr)) og_in (vx_ix (hu_of hr) (vx_var 8) (vx_int (m := .N))) (vx_var 6)) (vss_cons (vs_bm 7 PySem.F.slot_list_append PySem.F.type_list_append mt_append mg_app (va_cons (VX.any (vx_lf (vx_var 8))) va_nil)) (vss_one (vs_for (passes_of rfl) rfl (vi_tup (vx_tup (m := .E) (by intro z; cases z) (va_cons (vx_ix (hu_of hr) (vx_var 8) (vx_int (m := .N))) (va_cons (vx_ix (hu_of hr) (vx_var 8) (vx_int (m := .N))) va_nil)))) (vg_name sc_because.nd) (vss_wipe (ks := [9, 10]) (vss_one (vs_for (passes_of rfl) rfl (vi_list (VX.any (vx_call c_hiding (takes_of rfl rfl rfl rfl) hr (by decide) (va_cons (vx_var 0) (va_cons (VX.toO (vx_ix (hu_of hr) (vx_ix (hu_of hr) (vx_var 1) (vx_var 9)) (vx_int (m := .N)))) (va_cons (vx_var 5) (va_cons (VX.toO (vx_ix (hu_of hr) (vx_var 8) (vx_int (m := .N)))) va_nil))))))) (vg_name sc_because.nd) (vss_wipe (ks := [10]) (vss_one (vs_put 6 (hu_of hr) (vx_var 10) vx_bl))))))))) vss_nil)))) (vss_cons (vs_bm0 7 PySem.F.slot_list_reverse PySem.F.type_list_reverse mt_reverse mg_rev) (vss_one (vs_share (i := 7) (vs_retF (vx_varF 7)))))))))
theorem sc_L_alike : FnScope ["_law_found", "_law_due", "_law_one_here", "_law_other"] ["_law_found", "_law_due"] (defScope s_L_alike) := ⟨rfl, rfl, rfl, by decide +kernel, rfl, by decide +kernel, by decide +kernel⟩
theorem ok_L_alike {P : Program} {w : World} {K : PySem.W.Frag} {mg : Str → Option Value} {base : Heap} {f : Addr} {fd : FuncData} (T : Txt K mg) (F : Fun K "_law_alike" "_law_alike" s_L_alike f fd) (hm : mg "_law_alike" = some (.ref f)) (hb : Binds K fd ["_law_found", "_law_due"] [])  : ∀ n : Nat, Cal P w K mg base n "_law_alike" (q_L_alike n)
  | 0 => ⟨f, fd, ["_law_found", "_law_due"], ⟨fun vs H Q E ⟨ds, _, p⟩ => p.elim, fun A outer s H args us vs Q E hr e b v ⟨ds, _, p⟩ => p.elim⟩, hm, F.kp, hb⟩
  | n + 1 => by
    have ih := ok_L_alike (P := P) (w := w) (base := base) T F hm hb  n
    refine Cal.mk' (fn_ok (N := ["_law_found", "_law_due", "_law_one_here", "_law_other"]) (F := d_L_alike (q_L_alike n)) F sc_L_alike fun cdv A outer s H E S0 hr => ?_) F hm hb
    exact (vss_cons (vs_if (VW.t (vw_or (vt_cmp (op_neA hr.units) og_ne (vx_isi (m := .N) .bool T.m_isinstance T.m_bool (vx_var 0)) (vx_isi (m := .N) .bool T.m_isinstance T.m_bool (vx_var 1))) (vw_or1 (vt_cmp (op_neA hr.units) og_ne (vx_isi (m := .N) .tuple T.m_isinstance T.m_tuple (vx_var 0)) (vx_isi (m := .N) .tuple T.m_isinstance T.m_tuple (vx_var 1)))))) (vss_one (vs_retF vx_bl)) vss_nil) (vss_cons (vs_if (vt_not (vt_tru (vx_isi2 (m := .N) .list .tuple T.m_isinstance T.m_list T.m_tuple (vx_var 1)))) (vss_one (vs_retF (vx_cmp (op_eqA hr.units) og_eq (vx_var 0) (vx_var 1)))) vss_nil) (vss_cons (vs_if (VW.t (vw_or (vt_not (vt_tru (vx_isi2 (m := .N) .list .tuple T.m_isinstance T.m_list T.m_tuple (vx_var 0)))) (vw_or1 (vt_cmp (op_neA hr.units) og_ne (vx_callB (m := .N) call_len cg_len T.m_len (by decide +kernel) (va_cons (vx_var 0) va_nil)) (vx_callB (m := .N) call_len cg_len T.m_len (by decide +kernel) (va_cons (vx_var 1) va_nil)))))) (vss_one (vs_retF vx_bl)) vss_nil) (vss_one (vs_retF (vx_callB (cr_all rfl) cg_all T.m_all (by decide +kernel) (va_cons (VX.toO (vx_lc (own := [("_law_one_here", 2), ("_law_other", 3)]) (m := .N) (by intro z; cases z) rfl sc_L_alike.nd (vi_zip T.m_zip (va_cons (vx_varE 0) (va_cons (vx_varE 1) va_nil))) (blkOk_by (own := [("_law_one_here", 2), ("_law_other", 3)]) (N := ["_law_found", "_law_due", "_law_one_here", "_law_other"]) (sc := defScope s_L_alike) (by decide +kernel)) (fun _ => (vg_tup rfl (vgs_cons (vg_name sc_L_alike.nd) (vgs_cons (vg_name sc_L_alike.nd) vgs_nil)))) (fun _ => vts_nil) (fun _ => (vx_call ih takes0 hr (by omega) (va_cons (vx_var 2) (va_cons (vx_var 3) va_nil)))))) va_nil)))))))
theorem sc_L_digits : FnScope ["_law_script", "_law_k", "_law_base", "_law_many", "_law_cell", "_law_number", "_law_row", "_law_turn"] ["_law_script", "_law_k", "_law_base", "_law_many"] (defScope s_L_digits) := ⟨rfl, rfl, rfl, by decide +kernel, rfl, by decide +kernel, by decide +kernel⟩
theorem ok_L_digits {P : Program} {w : World} {K : PySem.W.Frag} {mg : Str → Option Value} {base : Heap} {f : Addr} {fd : FuncData} (T : Txt K mg) (F : Fun K "_law_digits" "_law_digits" s_L_digits f fd) (hm : mg "_law_digits" = some (.ref f)) (hb : Binds K fd ["_law_script", "_law_k", "_law_base", "_law_many"] [])  : Cal P w K mg base 1 "_law_digits" q_L_digits := by
  refine Cal.mk' (fn_ok (N := ["_law_script", "_law_k", "_law_base", "_law_many", "_law_cell", "_law_number", "_law_row", "_law_turn"]) (F := d_L_digits) F sc_L_digits fun cdv A outer s H E S0 hr => ?_) F hm hb
  exact (vss_cons (vs_sh (i := 4) sc_L_digits.nd vx_int) (vss_cons (vs_if (vt_cmp (op_ltA (hu_of hr)) og_lt (vx_var 1) (vx_callB (m := .N) call_len cg_len T.m_len (by decide +kernel) (va_cons (vx_var 0) va_nil))) (vss_one (vs_sh (i := 4) sc_L_digits.nd (vx_ix (hu_of hr) (vx_var 0) (vx_var 1)))) vss_nil) (vss_cons (vs_fr (i := 5) sc_L_digits.nd (vx_callB call_abs cg_abs T.m_abs (by decide +kernel) (va_cons (vx_var 4) va_nil))) (vss_cons (vs_ow (i := 6) sc_L_digits.nd (vx_lst (m := .N) (by intro z; cases z) va_nil)) (vss_cons (vs_if (vt_cmp op_ge og_ge (vx_var 5) (vx_pow (m := .N) (vx_int (m := .N)) (vx_int (m := .N)))) (vss_cons (vs_for (passes_of rfl) rfl (vi_range1 T.m_range (va_cons (vx_var 3) va_nil)) (vg_name sc_L_digits.nd) (vss_wipe (ks := [7]) (vss_cons (vs_bm 6 PySem.F.slot_list_append PySem.F.type_list_append mt_append mg_app (va_cons (vx_mod (vx_var 5) (vx_var 2)) va_nil)) (vss_one (vs_fr (i := 5) sc_L_digits.nd (vx_fdivN (vx_var 5) (vx_var 2))))))) (vss_one (vs_share (i := 6) (vs_retF (vx_varF 6))))) vss_nil) (vss_cons (vs_fr (i := 5) sc_L_digits.nd (vx_mod (vx_add (m := .N) (vx_add (m := .N) (vx_mul (m := .N) (vx_var 4) (vx_int (m := .N))) (vx_mul (m := .N) (vx_var 1) (vx_int (m := .N)))) (vx_int (m := .N))) (vx_int (m := .N)))) (vss_cons (vs_fr (i := 5) sc_L_digits.nd (vx_add (vx_var 5) (vx_mod (m := .N) (vx_mul (m := .N) (vx_var 5) (vx_var 5)) (vx_int (m := .N))))) (vss_cons (vs_for (passes_of rfl) rfl (vi_range1 T.m_range (va_cons (vx_var 3) va_nil)) (vg_name sc_L_digits.nd) (vss_wipe (ks := [7]) (vss_cons (vs_fr (i := 5) sc_L_digits.nd (vx_mod (vx_add (m := .N) (vx_mul (m := .N) (vx_var 5) (vx_int (m := .N))) (vx_int (m := .N))) (vx_int (m := .N)))) (vss_one (vs_bm 6 PySem.F.slot_list_append PySem.F.type_list_append mt_append mg_app (va_cons (vx_mod (vx_fdiv (m := .N) (vx_var 5) (vx_int (m := .N))) (vx_var 2)) va_nil)))))) (vss_one (vs_share (i := 6) (vs_retF (vx_varF 6))))))))))))
theorem sc_L_one : FnScope ["_law_script", "_law_k", "_law_base"] ["_law_script", "_law_k", "_law_base"] (defScope s_L_one) := ⟨rfl, rfl, rfl, by decide +kernel, rfl, by decide +kernel, by decide +kernel⟩
theorem ok_L_one {P : Program} {w : World} {K : PySem.W.Frag} {mg : Str → Option Value} {base : Heap} {f : Addr} {fd : FuncData} (T : Txt K mg) (F : Fun K "_law_one" "_law_one" s_L_one f fd) (hm : mg "_law_one" = some (.ref f)) (hb : Binds K fd ["_law_script", "_law_k", "_law_base"] []) (c_L_digits : Cal P w K mg base 1 "_law_digits" q_L_digits) : Cal P w K mg base 2 "_law_one" q_L_one := by
  refine Cal.mk' (fn_ok (N := ["_law_script", "_law_k", "_law_base"]) (F := d_L_one) F sc_L_one fun cdv A outer s H E S0 hr => ?_) F hm hb
  exact (vss_one (vs_retF (VX.any (vx_lf (vx_ix (hu_of hr) (vx_call c_L_digits (takes_of rfl rfl rfl rfl) hr (by decide) (va_cons (vx_var 0) (va_cons (vx_var 1) (va_cons (vx_var 2) (va_cons vx_int va_nil))))) (vx_int (m := .N)))))))
theorem sc_L_all : FnScope ["_law_sizes", "_law_places", "_law_x", "_law_y", "_law_z"] ["_law_sizes"] (defScope s_L_all) := ⟨rfl, rfl, rfl, by decide +kernel, rfl, by decide +kernel, by decide +kernel⟩
theorem ok_L_all {P : Program} {w : World} {K : PySem.W.Frag} {mg : Str → Option Value} {base : Heap} {f : Addr} {fd : FuncData} (T : Txt K mg) (F : Fun K "_law_all" "_law_all" s_L_all f fd) (hm : mg "_law_all" = some (.ref f)) (hb : Binds K fd ["_law_sizes"] [])  : Cal P w K mg base 1 "_law_all" q_L_all := by
  refine Cal.mk' (fn_ok (N := ["_law_sizes", "_law_places", "_law_x", "_law_y", "_law_z"]) (F := d_L_all) F sc_L_all fun cdv A outer s H E S0 hr => ?_) F hm hb
  exact (vss_cons (vs_ow (i := 1) sc_L_all.nd (vx_lst (m := .N) (by intro z; cases z) va_nil)) (vss_cons (vs_for (passes_of rfl) rfl (vi_range1 T.m_range (va_cons (VX.toO (vx_ix (hu_of hr) (vx_var 0) (vx_int (m := .N)))) va_nil)) (vg_name sc_L_all.nd) (vss_wipe (ks := [2, 3, 4]) (vss_one (vs_for (passes_of rfl) rfl (vi_range1 T.m_range (va_cons (VX.toO (vx_ix (hu_of hr) (vx_var 0) (vx_int (m := .N)))) va_nil)) (vg_name sc_L_all.nd) (vss_wipe (ks := [3, 4]) (vss_one (vs_for (passes_of rfl) rfl (vi_range1 T.m_range (va_cons (VX.toO (vx_ix (hu_of hr) (vx_var 0) (vx_int (m := .N)))) va_nil)) (vg_name sc_L_all.nd) (vss_wipe (ks := [4]) (vss_one (vs_bm 1 PySem.F.slot_list_append PySem.F.type_list_append mt_append mg_app (va_cons (vx_tup (m := .F) (by intro z; cases z) (va_cons (VX.any (vx_lf (vx_var 2))) (va_cons (VX.any (vx_lf (vx_var 3))) (va_cons (VX.any (vx_lf (vx_var 4))) va_nil)))) va_nil))))))))))) (vss_one (vs_share (i := 1) (vs_retF (vx_varF 1))))))
theorem sc_L_letter : FnScope ["_law_number"] ["_law_number"] (defScope s_L_letter) := ⟨rfl, rfl, rfl, by decide +kernel, rfl, by decide +kernel, by decide +kernel⟩
theorem ok_L_letter {P : Program} {w : World} {K : PySem.W.Frag} {mg : Str → Option Value} {base : Heap} {f : Addr} {fd : FuncData} (T : Txt K mg) (F : Fun K "_law_letter" "_law_letter" s_L_letter f fd) (hm : mg "_law_letter" = some (.ref f)) (hb : Binds K fd ["_law_number"] [])  : Cal P w K mg base 1 "_law_letter" q_L_letter := by
  refine Cal.mk' (fn_ok (N := ["_law_number"]) (F := d_L_letter) F sc_L_letter fun cdv A outer s H E S0 hr => ?_) F hm hb
  exact (vss_one (vs_retF (VX.any (vx_lf (vx_ix (hu_of hr) (vx_str (m := .N)) (vx_mod (m := .N) (vx_var 0) (vx_int (m := .N))))))))
theorem sc_L_name : FnScope ["_law_number", "_law_long", "_law_at"] ["_law_number"] (defScope s_L_name) := ⟨rfl, rfl, rfl, by decide +kernel, rfl, by decide +kernel, by decide +kernel⟩
theorem ok_L_name {P : Program} {w : World} {K : PySem.W.Frag} {mg : Str → Option Value} {base : Heap} {f : Addr} {fd : FuncData} (T : Txt K mg) (F : Fun K "_law_name" "_law_name" s_L_name f fd) (hm : mg "_law_name" = some (.ref f)) (hb : Binds K fd ["_law_number"] []) (c_L_letter : Cal P w K mg base 1 "_law_letter" q_L_letter) : Cal P w K mg base 2 "_law_name" q_L_name := by
  refine Cal.mk' (fn_ok (N := ["_law_number", "_law_long", "_law_at"]) (F := d_L_name) F sc_L_name fun cdv A outer s H E S0 hr => ?_) F hm hb
  exact (vss_cons (vs_sh (i := 1) sc_L_name.nd (vx_ix (hu_of hr) (vx_tup (m := .E) (by intro z; cases z) (va_cons vx_int (va_cons vx_int (va_cons vx_int (va_cons vx_int (va_cons vx_int va_nil)))))) (vx_mod (m := .N) (vx_var 0) (vx_int (m := .N))))) (vss_cons (vs_sh (i := 2) sc_L_name.nd (vx_ix (hu_of hr) (vx_tup (m := .E) (by intro z; cases z) (va_cons vx_int (va_cons vx_int (va_cons vx_int (va_cons vx_int (va_cons vx_int va_nil)))))) (vx_mod (m := .N) (vx_var 0) (vx_int (m := .N))))) (vss_one (vs_retF (vx_add (vx_add (m := .N) (vx_mulS (m := .N) (vx_str (m := .N)) (vx_var 2)) (vx_call c_L_letter (takes_of rfl rfl rfl rfl) hr (by decide) (va_cons (vx_add (vx_fdiv (m := .N) (vx_var 0) (vx_int (m := .N))) (vx_int (m := .N))) va_nil))) (vx_mulS (m := .N) (vx_str (m := .N)) (vx_sub (m := .N) (vx_sub (m := .N) (vx_var 1) (vx_int (m := .N))) (vx_var 2))))))))
theorem sc_Workshop_looks : FnScope ["self", "row"] ["self"] (defScope s_Workshop_looks) := ⟨rfl, rfl, rfl, by decide +kernel, rfl, by decide +kernel, by decide +kernel⟩
theorem ok_Workshop_looks {P : Program} {w : World} {K : PySem.W.Frag} {mg : Str → Option Value} {base : Heap} {f : Addr} {fd : FuncData} {C : Addr} (T : Txt K mg) (F : Fun K "looks" "Workshop.looks" s_Workshop_looks f fd) (ca : ClsAt K "Workshop" C) (cl : Cls K C) (me : Meth K C "looks" f) (hb : Binds K fd ["self"] [])  : CalM P w K mg base 1 "Workshop" "looks" q_Workshop_looks := by
  refine ⟨⟨C, f, fd, _, ca, cl, me, fn_ok (N := ["self", "row"]) (F := d_Workshop_looks) F sc_Workshop_looks fun cdv A outer s H E S0 hr => ?_, hb⟩⟩
  exact (vss_one (vs_retF (vx_lc (own := [("row", 1)]) (m := .F) (by intro z; cases z) rfl sc_Workshop_looks.nd (vi_list (vx_ix (hu_of hr) (vx_fld (i := 0) T.cls_Workshop T.nf_Workshop_now) (vx_int (m := .N)))) (blkOk_by (own := [("row", 1)]) (N := ["self", "row"]) (sc := defScope s_Workshop_looks) (by decide +kernel)) (fun _ => (vg_name sc_Workshop_looks.nd)) (fun _ => vts_nil) (fun _ => (vx_tup (m := .F) (by intro z; cases z) (va_cons (VX.any (vx_lf (vx_ix (hu_of hr) (vx_var 1) (vx_int (m := .N))))) (va_cons (VX.any (vx_lf (vx_ix (hu_of hr) (vx_var 1) (vx_int (m := .N))))) va_nil)))))))
theorem sc_Workshop_end : FnScope ["self", "left", "rows"] ["self"] (defScope s_Workshop_end) := ⟨rfl, rfl, rfl, by decide +kernel, rfl, by decide +kernel, by decide +kernel⟩
theorem ok_Workshop_end {P : Program} {w : World} {K : PySem.W.Frag} {mg : Str → Option Value} {base : Heap} {f : Addr} {fd : FuncData} {C : Addr} (T : Txt K mg) (F : Fun K "end" "Workshop.end" s_Workshop_end f fd) (ca : ClsAt K "Workshop" C) (cl : Cls K C) (me : Meth K C "end" f) (hb : Binds K fd ["self"] []) (c_Workshop_looks : CalM P w K mg base 1 "Workshop" "looks" q_Workshop_looks) (c_carve : Cal P w K mg base 7 "carve" q_carve) : CalM P w K mg base 8 "Workshop" "end" q_Workshop_end := by
  refine ⟨⟨C, f, fd, _, ca, cl, me, fn_ok (N := ["self", "left", "rows"]) (F := d_Workshop_end) F sc_Workshop_end fun cdv A outer s H E S0 hr => ?_, hb⟩⟩
  exact (vss_cons (vs_unpF (VX.any (vx_call c_carve (takes_of rfl rfl rfl rfl) hr (by decide) (va_cons (vx_fld (i := 0) T.cls_Workshop T.nf_Workshop_sizes) (va_cons (VX.toO (vx_meth0 c_Workshop_looks (takes_of rfl rfl rfl rfl) hr (by decide) (vx_var 0))) (va_cons (VX.toO (vx_ix (hu_of hr) (vx_fld (i := 0) T.cls_Workshop T.nf_Workshop_now) (vx_int (m := .N)))) (va_cons (VX.toO (vx_lst (m := .E) (by intro z; cases z) va_nil)) va_nil)))))) (vgf_tup rfl (vgfs_cons (vgf_name sc_Workshop_end.nd) (vgfs_cons (vgf_name sc_Workshop_end.nd) vgfs_nil)))) (vss_one (vs_retF (vx_varF 1))))
theorem sc_Workshop_gone : FnScope ["self"] ["self"] (defScope s_Workshop_gone) := ⟨rfl, rfl, rfl, by decide +kernel, rfl, by decide +kernel, by decide +kernel⟩
theorem ok_Workshop_gone {P : Program} {w : World} {K : PySem.W.Frag} {mg : Str → Option Value} {base : Heap} {f : Addr} {fd : FuncData} {C : Addr} (T : Txt K mg) (F : Fun K "gone" "Workshop.gone" s_Workshop_gone f fd) (ca : ClsAt K "Workshop" C) (cl : Cls K C) (me : Meth K C "gone" f) (hb : Binds K fd ["self"] [])  : CalM P w K mg base 1 "Workshop" "gone" q_Workshop_gone := by
  refine ⟨⟨C, f, fd, _, ca, cl, me, fn_ok (N := ["self"]) (F := d_Workshop_gone) F sc_Workshop_gone fun cdv A outer s H E S0 hr => ?_, hb⟩⟩
  exact (vss_one (vs_retF (VX.any (vx_callTy call_list_of cg_list T.m_list (by decide +kernel) (va_cons (VX.toO (vx_ix (hu_of hr) (vx_fld (i := 0) T.cls_Workshop T.nf_Workshop_now) (vx_int (m := .N)))) va_nil)))))
theorem sc_Workshop_loose : FnScope ["self"] ["self"] (defScope s_Workshop_loose) := ⟨rfl, rfl, rfl, by decide +kernel, rfl, by decide +kernel, by decide +kernel⟩
theorem ok_Workshop_loose {P : Program} {w : World} {K : PySem.W.Frag} {mg : Str → Option Value} {base : Heap} {f : Addr} {fd : FuncData} {C : Addr} (T : Txt K mg) (F : Fun K "loose" "Workshop.loose" s_Workshop_loose f fd) (ca : ClsAt K "Workshop" C) (cl : Cls K C) (me : Meth K C "loose" f) (hb : Binds K fd ["self"] []) (c_Workshop_looks : CalM P w K mg base 1 "Workshop" "looks" q_Workshop_looks) (c_barred : Cal P w K mg base 6 "barred" q_barred) : CalM P w K mg base 7 "Workshop" "loose" q_Workshop_loose := by
  refine ⟨⟨C, f, fd, _, ca, cl, me, fn_ok (N := ["self"]) (F := d_Workshop_loose) F sc_Workshop_loose fun cdv A outer s H E S0 hr => ?_, hb⟩⟩
  exact (vss_one (vs_retF (VX.any (vx_call c_barred (takes_of rfl rfl rfl rfl) hr (by decide) (va_cons (vx_fld (i := 0) T.cls_Workshop T.nf_Workshop_sizes) (va_cons (VX.toO (vx_meth0 c_Workshop_looks (takes_of rfl rfl rfl rfl) hr (by decide) (vx_var 0))) (va_cons (VX.toO (vx_ix (hu_of hr) (vx_fld (i := 0) T.cls_Workshop T.nf_Workshop_now) (vx_int (m := .N)))) va_nil)))))))
theorem sc_Workshop_names : FnScope ["self", "row"] ["self"] (defScope s_Workshop_names) := ⟨rfl, rfl, rfl, by decide +kernel, rfl, by decide +kernel, by decide +kernel⟩
theorem ok_Workshop_names {P : Program} {w : World} {K : PySem.W.Frag} {mg : Str → Option Value} {base : Heap} {f : Addr} {fd : FuncData} {C : Addr} (T : Txt K mg) (F : Fun K "names" "Workshop.names" s_Workshop_names f fd) (ca : ClsAt K "Workshop" C) (cl : Cls K C) (me : Meth K C "names" f) (hb : Binds K fd ["self"] [])  : CalM P w K mg base 1 "Workshop" "names" q_Workshop_names := by
  refine ⟨⟨C, f, fd, _, ca, cl, me, fn_ok (N := ["self", "row"]) (F := d_Workshop_names) F sc_Workshop_names fun cdv A outer s H E S0 hr => ?_, hb⟩⟩
  exact (vss_one (vs_retF (vx_lc (own := [("row", 1)]) (m := .F) (by intro z; cases z) rfl sc_Workshop_names.nd (vi_list (vx_ix (hu_of hr) (vx_fld (i := 0) T.cls_Workshop T.nf_Workshop_now) (vx_int (m := .N)))) (blkOk_by (own := [("row", 1)]) (N := ["self", "row"]) (sc := defScope s_Workshop_names) (by decide +kernel)) (fun _ => (vg_name sc_Workshop_names.nd)) (fun _ => vts_nil) (fun _ => (VX.any (vx_lf (vx_ix (hu_of hr) (vx_var 1) (vx_int (m := .N)))))))))
theorem sc_Workshop_paper : FnScope ["self"] ["self"] (defScope s_Workshop_paper) := ⟨rfl, rfl, rfl, by decide +kernel, rfl, by decide +kernel, by decide +kernel⟩
theorem ok_Workshop_paper {P : Program} {w : World} {K : PySem.W.Frag} {mg : Str → Option Value} {base : Heap} {f : Addr} {fd : FuncData} {C : Addr} (T : Txt K mg) (F : Fun K "paper" "Workshop.paper" s_Workshop_paper f fd) (ca : ClsAt K "Workshop" C) (cl : Cls K C) (me : Meth K C "paper" f) (hb : Binds K fd ["self"] [])  : CalM P w K mg base 1 "Workshop" "paper" q_Workshop_paper := by
  refine ⟨⟨C, f, fd, _, ca, cl, me, fn_ok (N := ["self"]) (F := d_Workshop_paper) F sc_Workshop_paper fun cdv A outer s H E S0 hr => ?_, hb⟩⟩
  exact (vss_one (vs_retF (VX.any (vx_callTy call_list_of cg_list T.m_list (by decide +kernel) (va_cons (VX.toO (vx_ix (hu_of hr) (vx_fld (i := 0) T.cls_Workshop T.nf_Workshop_now) (vx_int (m := .N)))) va_nil)))))
theorem sc_Workshop_quarrel : FnScope ["self"] ["self"] (defScope s_Workshop_quarrel) := ⟨rfl, rfl, rfl, by decide +kernel, rfl, by decide +kernel, by decide +kernel⟩
theorem ok_Workshop_quarrel {P : Program} {w : World} {K : PySem.W.Frag} {mg : Str → Option Value} {base : Heap} {f : Addr} {fd : FuncData} {C : Addr} (T : Txt K mg) (F : Fun K "quarrel" "Workshop.quarrel" s_Workshop_quarrel f fd) (ca : ClsAt K "Workshop" C) (cl : Cls K C) (me : Meth K C "quarrel" f) (hb : Binds K fd ["self"] []) (c_Workshop_end : CalM P w K mg base 8 "Workshop" "end" q_Workshop_end) (c_lacking : Cal P w K mg base 2 "lacking" q_lacking) : CalM P w K mg base 9 "Workshop" "quarrel" q_Workshop_quarrel := by
  refine ⟨⟨C, f, fd, _, ca, cl, me, fn_ok (N := ["self"]) (F := d_Workshop_quarrel) F sc_Workshop_quarrel fun cdv A outer s H E S0 hr => ?_, hb⟩⟩
  exact (vss_one (vs_retF (VX.any (vx_call c_lacking (takes_of rfl rfl rfl rfl) hr (by decide) (va_cons (VX.toO (vx_ix (hu_of hr) (vx_fld (i := 0) T.cls_Workshop T.nf_Workshop_now) (vx_int (m := .N)))) (va_cons (VX.toO (vx_meth0 c_Workshop_end (takes_of rfl rfl rfl rfl) hr (by decide) (vx_var 0))) va_nil))))))
theorem sc_Workshop_standing : FnScope ["self"] ["self"] (defScope s_Workshop_standing) := ⟨rfl, rfl, rfl, by decide +kernel, rfl, by decide +kernel, by decide +kernel⟩
theorem ok_Workshop_standing {P : Program} {w : World} {K : PySem.W.Frag} {mg : Str → Option Value} {base : Heap} {f : Addr} {fd : FuncData} {C : Addr} (T : Txt K mg) (F : Fun K "standing" "Workshop.standing" s_Workshop_standing f fd) (ca : ClsAt K "Workshop" C) (cl : Cls K C) (me : Meth K C "standing" f) (hb : Binds K fd ["self"] [])  : CalM P w K mg base 1 "Workshop" "standing" q_Workshop_standing := by
  refine ⟨⟨C, f, fd, _, ca, cl, me, fn_ok (N := ["self"]) (F := d_Workshop_standing) F sc_Workshop_standing fun cdv A outer s H E S0 hr => ?_, hb⟩⟩
  exact (vss_one (vs_retF (VX.any (vx_callTy call_list_of cg_list T.m_list (by decide +kernel) (va_cons (VX.toO (vx_ix (hu_of hr) (vx_fld (i := 0) T.cls_Workshop T.nf_Workshop_now) (vx_int (m := .N)))) va_nil)))))
theorem sc_Workshop_sure : FnScope ["self"] ["self"] (defScope s_Workshop_sure) := ⟨rfl, rfl, rfl, by decide +kernel, rfl, by decide +kernel, by decide +kernel⟩
theorem ok_Workshop_sure {P : Program} {w : World} {K : PySem.W.Frag} {mg : Str → Option Value} {base : Heap} {f : Addr} {fd : FuncData} {C : Addr} (T : Txt K mg) (F : Fun K "sure" "Workshop.sure" s_Workshop_sure f fd) (ca : ClsAt K "Workshop" C) (cl : Cls K C) (me : Meth K C "sure" f) (hb : Binds K fd ["self"] [])  : CalM P w K mg base 1 "Workshop" "sure" q_Workshop_sure := by
  refine ⟨⟨C, f, fd, _, ca, cl, me, fn_ok (N := ["self"]) (F := d_Workshop_sure) F sc_Workshop_sure fun cdv A outer s H E S0 hr => ?_, hb⟩⟩
  exact (vss_one (vs_retF (VX.any (vx_callTy call_list_of cg_list T.m_list (by decide +kernel) (va_cons (VX.toO (vx_ix (hu_of hr) (vx_fld (i := 0) T.cls_Workshop T.nf_Workshop_now) (vx_int (m := .N)))) va_nil)))))
theorem sc_L_answers : FnScope ["_law_shop", "_law_rows"] ["_law_shop"] (defScope s_L_answers) := ⟨rfl, rfl, rfl, by decide +kernel, rfl, by decide +kernel, by decide +kernel⟩
theorem ok_L_answers {P : Program} {w : World} {K : PySem.W.Frag} {mg : Str → Option Value} {base : Heap} {f : Addr} {fd : FuncData} (T : Txt K mg) (F : Fun K "_law_answers" "_law_answers" s_L_answers f fd) (hm : mg "_law_answers" = some (.ref f)) (hb : Binds K fd ["_law_shop"] []) (c_Workshop_end : CalM P w K mg base 8 "Workshop" "end" q_Workshop_end) (c_Workshop_gone : CalM P w K mg base 1 "Workshop" "gone" q_Workshop_gone) (c_Workshop_looks : CalM P w K mg base 1 "Workshop" "looks" q_Workshop_looks) (c_Workshop_loose : CalM P w K mg base 7 "Workshop" "loose" q_Workshop_loose) (c_Workshop_names : CalM P w K mg base 1 "Workshop" "names" q_Workshop_names) (c_Workshop_paper : CalM P w K mg base 1 "Workshop" "paper" q_Workshop_paper) (c_Workshop_quarrel : CalM P w K mg base 9 "Workshop" "quarrel" q_Workshop_quarrel) (c_Workshop_standing : CalM P w K mg base 1 "Workshop" "standing" q_Workshop_standing) (c_Workshop_sure : CalM P w K mg base 1 "Workshop" "sure" q_Workshop_sure) : Cal P w K mg base 10 "_law_answers" q_L_answers := by
  refine Cal.mk' (fn_ok (N := ["_law_shop", "_law_rows"]) (F := d_L_answers) F sc_L_answers fun cdv A outer s H E S0 hr => ?_) F hm hb
  exact (vss_cons (vs_fr (i := 1) sc_L_answers.nd (vx_lst (m := .F) (by intro z; cases z) (va_cons (VX.any (vx_meth0 c_Workshop_names (takes_of rfl rfl rfl rfl) hr (by decide) (vx_var 0))) (va_cons (VX.any (vx_meth0 c_Workshop_looks (takes_of rfl rfl rfl rfl) hr (by decide) (vx_var 0))) (va_cons (VX.any (vx_meth0 c_Workshop_gone (takes_of rfl rfl rfl rfl) hr (by decide) (vx_var 0))) (va_cons (VX.any (vx_meth0 c_Workshop_sure (takes_of rfl rfl rfl rfl) hr (by decide) (vx_var 0))) (va_cons (VX.any (vx_meth0 c_Workshop_standing (takes_of rfl rfl rfl rfl) hr (by decide) (vx_var 0))) va_nil))))))) (vss_one (vs_retF (vx_addF (vx_varF 1) (vx_lst (m := .F) (by intro z; cases z) (va_cons (VX.any (vx_meth0 c_Workshop_paper (takes_of rfl rfl rfl rfl) hr (by decide) (vx_var 0))) (va_cons (VX.any (vx_meth0 c_Workshop_loose (takes_of rfl rfl rfl rfl) hr (by decide) (vx_var 0))) (va_cons (VX.any (vx_meth0 c_Workshop_end (takes_of rfl rfl rfl rfl) hr (by decide) (vx_var 0))) (va_cons (VX.any (vx_meth0 c_Workshop_quarrel (takes_of rfl rfl rfl rfl) hr (by decide) (vx_var 0))) va_nil)))))))))
theorem sc_Workshop_again : FnScope ["self"] ["self"] (defScope s_Workshop_again) := ⟨rfl, rfl, rfl, by decide +kernel, rfl, by decide +kernel, by decide +kernel⟩
theorem ok_Workshop_again {P : Program} {w : World} {K : PySem.W.Frag} {mg : Str → Option Value} {base : Heap} {f : Addr} {fd : FuncData} {C : Addr} (T : Txt K mg) (F : Fun K "again" "Workshop.again" s_Workshop_again f fd) (ca : ClsAt K "Workshop" C) (cl : Cls K C) (me : Meth K C "again" f) (hb : Binds K fd ["self"] [])  : CalMO P w K mg base 1 "Workshop" "again" q_Workshop_again := by
  refine ⟨⟨C, f, fd, _, ca, cl, me, fn_okO (N := ["self"]) (F := d_Workshop_again) F sc_Workshop_again fun cdv A outer s H E S0 H0 hr => ?_, hb⟩⟩
  exact (vss_cons (vs_if (vt_not (vt_tru (vx_fld (i := 0) T.cls_Workshop T.nf_Workshop_ahead))) (vss_one (vs_raise T.x_NothingAgain (takes_of rfl rfl rfl rfl))) vss_nil) (vss_cons (vs_fbm (i := 0) T.cls_Workshop T.nf_Workshop_past PySem.F.slot_list_append PySem.F.type_list_append mt_append mg_app (va_cons (vx_fldF (i := 0) T.cls_Workshop T.nf_Workshop_now) va_nil)) (vss_one (vs_popF (i := 0) T.cls_Workshop T.nf_Workshop_now T.nf_Workshop_ahead))))
theorem sc_Workshop_back : FnScope ["self"] ["self"] (defScope s_Workshop_back) := ⟨rfl, rfl, rfl, by decide +kernel, rfl, by decide +kernel, by decide +kernel⟩
theorem ok_Workshop_back {P : Program} {w : World} {K : PySem.W.Frag} {mg : Str → Option Value} {base : Heap} {f : Addr} {fd : FuncData} {C : Addr} (T : Txt K mg) (F : Fun K "back" "Workshop.back" s_Workshop_back f fd) (ca : ClsAt K "Workshop" C) (cl : Cls K C) (me : Meth K C "back" f) (hb : Binds K fd ["self"] [])  : CalMO P w K mg base 1 "Workshop" "back" q_Workshop_back := by
  refine ⟨⟨C, f, fd, _, ca, cl, me, fn_okO (N := ["self"]) (F := d_Workshop_back) F sc_Workshop_back fun cdv A outer s H E S0 H0 hr => ?_, hb⟩⟩
  exact (vss_cons (vs_if (vt_not (vt_tru (vx_fld (i := 0) T.cls_Workshop T.nf_Workshop_past))) (vss_one (vs_raise T.x_NothingBack (takes_of rfl rfl rfl rfl))) vss_nil) (vss_cons (vs_fbm (i := 0) T.cls_Workshop T.nf_Workshop_ahead PySem.F.slot_list_append PySem.F.type_list_append mt_append mg_app (va_cons (vx_fldF (i := 0) T.cls_Workshop T.nf_Workshop_now) va_nil)) (vss_one (vs_popF (i := 0) T.cls_Workshop T.nf_Workshop_now T.nf_Workshop_past))))
theorem sc_Workshop_number_of : FnScope ["self", "name", "number", "row"] ["self", "name"] (defScope s_Workshop_number_of) := ⟨rfl, rfl, rfl, by decide +kernel, rfl, by decide +kernel, by decide +kernel⟩
theorem ok_Workshop_number_of {P : Program} {w : World} {K : PySem.W.Frag} {mg : Str → Option Value} {base : Heap} {f : Addr} {fd : FuncData} {C : Addr} (T : Txt K mg) (F : Fun K "number_of" "Workshop.number_of" s_Workshop_number_of f fd) (ca : ClsAt K "Workshop" C) (cl : Cls K C) (me : Meth K C "number_of" f) (hb : Binds K fd ["self", "name"] [])  : CalM P w K mg base 1 "Workshop" "number_of" q_Workshop_number_of := by
  refine ⟨⟨C, f, fd, _, ca, cl, me, fn_ok (N := ["self", "name", "number", "row"]) (F := d_Workshop_number_of) F sc_Workshop_number_of fun cdv A outer s H E S0 hr => ?_, hb⟩⟩
  exact (vss_cons (vs_for (passes_of rfl) rfl (vi_enum T.m_enumerate (va_cons (vx_ix (hu_of hr) (vx_fld (i := 0) T.cls_Workshop T.nf_Workshop_now) (vx_int (m := .N))) va_nil)) (vg_tup rfl (vgs_cons (vg_name sc_Workshop_number_of.nd) (vgs_cons (vg_name sc_Workshop_number_of.nd) vgs_nil))) (vss_wipe (ks := [2, 3]) (vss_one (vs_if (vt_cmp (op_eqA hr.units) og_eq (vx_ix (hu_of hr) (vx_var 3) (vx_int (m := .N))) (vx_var 1)) (vss_one (vs_retF (VX.any (vx_lf (vx_var 2))))) vss_nil)))) (vss_one (vs_raise T.x_Unknown (takes_of rfl rfl rfl rfl))))
theorem sc_Workshop_look : FnScope ["self", "name", "row"] ["self", "name"] (defScope s_Workshop_look) := ⟨rfl, rfl, rfl, by decide +kernel, rfl, by decide +kernel, by decide +kernel⟩
theorem ok_Workshop_look {P : Program} {w : World} {K : PySem.W.Frag} {mg : Str → Option Value} {base : Heap} {f : Addr} {fd : FuncData} {C : Addr} (T : Txt K mg) (F : Fun K "look" "Workshop.look" s_Workshop_look f fd) (ca : ClsAt K "Workshop" C) (cl : Cls K C) (me : Meth K C "look" f) (hb : Binds K fd ["self", "name"] []) (c_Workshop_number_of : CalM P w K mg base 1 "Workshop" "number_of" q_Workshop_number_of) : CalM P w K mg base 2 "Workshop" "look" q_Workshop_look := by
  refine ⟨⟨C, f, fd, _, ca, cl, me, fn_ok (N := ["self", "name", "row"]) (F := d_Workshop_look) F sc_Workshop_look fun cdv A outer s H E S0 hr => ?_, hb⟩⟩
  exact (vss_cons (vs_sh (i := 2) sc_Workshop_look.nd (vx_ix (hu_of hr) (vx_ix (hu_of hr) (vx_fld (i := 0) T.cls_Workshop T.nf_Workshop_now) (vx_int (m := .N))) (vx_meth c_Workshop_number_of (takes_of rfl rfl rfl rfl) hr (by decide) (vx_var 0) (va_cons (vx_var 1) va_nil)))) (vss_one (vs_retF (vx_tup (m := .F) (by intro z; cases z) (va_cons (VX.any (vx_lf (vx_ix (hu_of hr) (vx_var 2) (vx_int (m := .N))))) (va_cons (VX.any (vx_lf (vx_ix (hu_of hr) (vx_var 2) (vx_int (m := .N))))) va_nil))))))
theorem sc_Workshop_placed : FnScope ["self", "place"] ["self", "place"] (defScope s_Workshop_placed) := ⟨rfl, rfl, rfl, by decide +kernel, rfl, by decide +kernel, by decide +kernel⟩
theorem ok_Workshop_placed {P : Program} {w : World} {K : PySem.W.Frag} {mg : Str → Option Value} {base : Heap} {f : Addr} {fd : FuncData} {C : Addr} (T : Txt K mg) (F : Fun K "placed" "Workshop.placed" s_Workshop_placed f fd) (ca : ClsAt K "Workshop" C) (cl : Cls K C) (me : Meth K C "placed" f) (hb : Binds K fd ["self", "place"] []) (c_inside : Cal P w K mg base 1 "inside" q_inside) : CalM P w K mg base 2 "Workshop" "placed" q_Workshop_placed := by
  refine ⟨⟨C, f, fd, _, ca, cl, me, fn_ok (N := ["self", "place"]) (F := d_Workshop_placed) F sc_Workshop_placed fun cdv A outer s H E S0 hr => ?_, hb⟩⟩
  exact (vss_cons (vs_if (vt_not (vt_tru (vx_call c_inside (takes_of rfl rfl rfl rfl) hr (by decide) (va_cons (vx_fld (i := 0) T.cls_Workshop T.nf_Workshop_sizes) (va_cons (vx_var 1) va_nil))))) (vss_one (vs_raise T.x_NoPlace (takes_of rfl rfl rfl rfl))) vss_nil) (vss_one (vs_retF (vx_tup (m := .F) (by intro z; cases z) (va_cons (VX.any (vx_lf (vx_ix (hu_of hr) (vx_var 1) (vx_int (m := .N))))) (va_cons (VX.any (vx_lf (vx_ix (hu_of hr) (vx_var 1) (vx_int (m := .N))))) (va_cons (VX.any (vx_lf (vx_ix (hu_of hr) (vx_var 1) (vx_int (m := .N))))) va_nil)))))))
theorem sc_Workshop_why : FnScope ["self", "place", "spot", "left", "rows", "start"] ["self", "place"] (defScope s_Workshop_why) := ⟨rfl, rfl, rfl, by decide +kernel, rfl, by decide +kernel, by decide +kernel⟩
theorem ok_Workshop_why {P : Program} {w : World} {K : PySem.W.Frag} {mg : Str → Option Value} {base : Heap} {f : Addr} {fd : FuncData} {C : Addr} (T : Txt K mg) (F : Fun K "why" "Workshop.why" s_Workshop_why f fd) (ca : ClsAt K "Workshop" C) (cl : Cls K C) (me : Meth K C "why" f) (hb : Binds K fd ["self", "place"] []) (c_Workshop_looks : CalM P w K mg base 1 "Workshop" "looks" q_Workshop_looks) (c_Workshop_placed : CalM P w K mg base 2 "Workshop" "placed" q_Workshop_placed) (c_because : Cal P w K mg base 3 "because" q_because) (c_carve : Cal P w K mg base 7 "carve" q_carve) (c_lacking : Cal P w K mg base 2 "lacking" q_lacking) (c_places_of : Cal P w K mg base 1 "places_of" q_places_of) : CalM P w K mg base 8 "Workshop" "why" q_Workshop_why := by
  refine ⟨⟨C, f, fd, _, ca, cl, me, fn_ok (N := ["self", "place", "spot", "left", "rows", "start"]) (F := d_Workshop_why) F sc_Workshop_why fun cdv A outer s H E S0 hr => ?_, hb⟩⟩
  exact (vss_cons (vs_fr (i := 2) sc_Workshop_why.nd (VX.any (vx_meth c_Workshop_placed (takes_of rfl rfl rfl rfl) hr (by decide) (vx_var 0) (va_cons (vx_var 1) va_nil)))) (vss_cons (vs_unpF (VX.any (vx_call c_carve (takes_of rfl rfl rfl rfl) hr (by decide) (va_cons (vx_fld (i := 0) T.cls_Workshop T.nf_Workshop_sizes) (va_cons (VX.toO (vx_meth0 c_Workshop_looks (takes_of rfl rfl rfl rfl) hr (by decide) (vx_var 0))) (va_cons (VX.toO (vx_ix (hu_of hr) (vx_fld (i := 0) T.cls_Workshop T.nf_Workshop_now) (vx_int (m := .N)))) (va_cons (VX.toO (vx_lst (m := .E) (by intro z; cases z) va_nil)) va_nil)))))) (vgf_tup rfl (vgfs_cons (vgf_name sc_Workshop_why.nd) (vgfs_cons (vgf_name sc_Workshop_why.nd) vgfs_nil)))) (vss_cons (vs_if (VW.t (vw_or (vt_cmp (op_inA (hu65 hr)) og_in (vx_var 2) (vx_ix (hu_of hr) (vx_fld (i := 0) T.cls_Workshop T.nf_Workshop_now) (vx_int (m := .N)))) (vw_or1 (vt_cmp (op_inA (hu65 hr)) og_in (vx_var 2) (vx_var 3))))) (vss_one (vs_raise T.x_NotCarved (takes_of rfl rfl rfl rfl))) vss_nil) (vss_cons (vs_fr (i := 5) sc_Workshop_why.nd (VX.any (vx_call c_lacking (takes_of rfl rfl rfl rfl) hr (by decide) (va_cons (VX.toO (vx_call c_places_of (takes_of rfl rfl rfl rfl) hr (by decide) (va_cons (vx_fld (i := 0) T.cls_Workshop T.nf_Workshop_sizes) va_nil))) (va_cons (VX.toO (vx_ix (hu_of hr) (vx_fld (i := 0) T.cls_Workshop T.nf_Workshop_now) (vx_int (m := .N)))) va_nil))))) (vss_one (vs_retF (VX.any (vx_call c_because (takes_of rfl rfl rfl rfl) hr (by decide) (va_cons (vx_fld (i := 0) T.cls_Workshop T.nf_Workshop_sizes) (va_cons (VX.toO (vx_meth0 c_Workshop_looks (takes_of rfl rfl rfl rfl) hr (by decide) (vx_var 0))) (va_cons (vx_var 5) (va_cons (vx_add (vx_ix (hu_of hr) (vx_fld (i := 0) T.cls_Workshop T.nf_Workshop_now) (vx_int (m := .N))) (vx_var 4)) (va_cons (vx_var 2) va_nil)))))))))))))
theorem sc_L_refusals : FnScope ["_law_shop", "_law_place", "_law_name_here", "_law_kinds", "e"] ["_law_shop", "_law_place", "_law_name_here"] (defScope s_L_refusals) := ⟨rfl, rfl, rfl, by decide +kernel, rfl, by decide +kernel, by decide +kernel⟩
theorem ok_L_refusals {P : Program} {w : World} {K : PySem.W.Frag} {mg : Str → Option Value} {base : Heap} {f : Addr} {fd : FuncData} (T : Txt K mg) (F : Fun K "_law_refusals" "_law_refusals" s_L_refusals f fd) (hm : mg "_law_refusals" = some (.ref f)) (hb : Binds K fd ["_law_shop", "_law_place", "_law_name_here"] []) (c_Workshop_again : CalMO P w K mg base 1 "Workshop" "again" q_Workshop_again) (c_Workshop_back : CalMO P w K mg base 1 "Workshop" "back" q_Workshop_back) (c_Workshop_look : CalM P w K mg base 2 "Workshop" "look" q_Workshop_look) (c_Workshop_why : CalM P w K mg base 8 "Workshop" "why" q_Workshop_why) : CalO P w K mg base 9 "_law_refusals" q_L_refusals := by
  refine ⟨⟨f, fd, _, fn_okO (N := ["_law_shop", "_law_place", "_law_name_here", "_law_kinds", "e"]) (F := d_L_refusals) F sc_L_refusals fun cdv A outer s H E S0 H0 hr => ?_, hm, F.kp, hb⟩⟩
  exact (vss_cons (vs_ow (i := 3) sc_L_refusals.nd (vx_lst (m := .N) (by intro z; cases z) va_nil)) (vss_cons (vs_tryEF (i := 4) T.te_L_refusals_0 (fun top1 kn1 => (ves_cons (kn1 0 _ _ rfl) (fun D1 xc1 kt1 a1 oe1 pn1 hz1 hfs1 => (vss_one (vs_bm 3 PySem.F.slot_list_append PySem.F.type_list_append mt_append mg_app (va_cons (vx_and (vx_isE (m := .N) (i := 4) xc1 hz1 hfs1 kt1 (by decide +kernel) T.m_isinstance) (vx_one (vx_notV (vx_isE (m := .N) (i := 4) xc1 hz1 hfs1 kt1 (by decide +kernel) T.m_isinstance)))) va_nil)))) VEs.nil)) sc_L_refusals.nd (takes_of rfl rfl rfl rfl) (fun W1 pn1 xe1 tk1 po1 => (vss_one (vs_exO (vxm_meth0 (i := 0) c_Workshop_back tk1 hr (by decide)))))) (vss_cons (vs_tryEF (i := 4) T.te_L_refusals_1 (fun top1 kn1 => (ves_cons (kn1 0 _ _ rfl) (fun D1 xc1 kt1 a1 oe1 pn1 hz1 hfs1 => (vss_one (vs_bm 3 PySem.F.slot_list_append PySem.F.type_list_append mt_append mg_app (va_cons (vx_and (vx_isE (m := .N) (i := 4) xc1 hz1 hfs1 kt1 (by decide +kernel) T.m_isinstance) (vx_one (vx_notV (vx_isE (m := .N) (i := 4) xc1 hz1 hfs1 kt1 (by decide +kernel) T.m_isinstance)))) va_nil)))) VEs.nil)) sc_L_refusals.nd (takes_of rfl rfl rfl rfl) (fun W1 pn1 xe1 tk1 po1 => (vss_one (vs_exO (vxm_meth0 (i := 0) c_Workshop_again tk1 hr (by decide)))))) (vss_cons (vs_tryEF (i := 4) T.te_L_refusals_2 (fun top1 kn1 => (ves_cons (kn1 0 _ _ rfl) (fun D1 xc1 kt1 a1 oe1 pn1 hz1 hfs1 => (vss_one (vs_bm 3 PySem.F.slot_list_append PySem.F.type_list_append mt_append mg_app (va_cons (vx_and (vx_isE (m := .N) (i := 4) xc1 hz1 hfs1 kt1 (by decide +kernel) T.m_isinstance) (vx_one (vx_isE (i := 4) xc1 hz1 hfs1 kt1 (by decide +kernel) T.m_isinstance))) va_nil)))) VEs.nil)) sc_L_refusals.nd (takes_of rfl rfl rfl rfl) (fun W1 pn1 xe1 tk1 po1 => (vss_one (vs_drop (vx_meth c_Workshop_look tk1 hr (by decide) (vx_var 0) (va_cons (vx_var 2) va_nil)))))) (vss_cons (vs_tryEF (i := 4) T.te_L_refusals_3 (fun top1 kn1 => (ves_cons (kn1 0 _ _ rfl) (fun D1 xc1 kt1 a1 oe1 pn1 hz1 hfs1 => (vss_one (vs_bm 3 PySem.F.slot_list_append PySem.F.type_list_append mt_append mg_app (va_cons (vx_and (vx_isE (m := .N) (i := 4) xc1 hz1 hfs1 kt1 (by decide +kernel) T.m_isinstance) (vx_one (vx_notV (vx_isE (m := .N) (i := 4) xc1 hz1 hfs1 kt1 (by decide +kernel) T.m_isinstance)))) va_nil)))) (ves_cons (kn1 1 _ _ rfl) (fun D1 xc1 kt1 a1 oe1 pn1 hz1 hfs1 => (vss_one (vs_bm 3 PySem.F.slot_list_append PySem.F.type_list_append mt_append mg_app (va_cons (vx_and (vx_isE (m := .N) (i := 4) xc1 hz1 hfs1 kt1 (by decide +kernel) T.m_isinstance) (vx_one (vx_notV (vx_isE (m := .N) (i := 4) xc1 hz1 hfs1 kt1 (by decide +kernel) T.m_isinstance)))) va_nil)))) VEs.nil))) sc_L_refusals.nd (takes_of rfl rfl rfl rfl) (fun W1 pn1 xe1 tk1 po1 => (vss_one (vs_drop (vx_meth c_Workshop_why tk1 hr (by decide) (vx_var 0) (va_cons (vx_var 1) va_nil)))))) (vss_one (vs_share (i := 3) (vs_retS (vx_varF 3)))))))))
theorem sc_Workshop___init__ : FnScope ["self", "sizes"] ["self", "sizes"] (defScope s_Workshop___init__) := ⟨rfl, rfl, rfl, by decide +kernel, rfl, by decide +kernel, by decide +kernel⟩
theorem ok_Workshop___init__ {P : Program} {w : World} {K : PySem.W.Frag} {mg : Str → Option Value} {base : Heap} {f : Addr} {fd : FuncData} {C : Addr} (T : Txt K mg) (F : Fun K "__init__" "Workshop.__init__" s_Workshop___init__ f fd) (ca : ClsAt K "Workshop" C) (hm : mg "Workshop" = some (.ref C)) (M : Mk K C f) (hb : Binds K fd ["self", "sizes"] []) (c_checked_block : Cal P w K mg base 1 "checked_block" q_checked_block) (c_places_of : Cal P w K mg base 1 "places_of" q_places_of) : CalMk P w K mg base 2 "Workshop" q_Workshop___init__ := by
  refine ⟨⟨C, f, fd, _, ca, hm, M, fn_okO (N := ["self", "sizes"]) (F := d_Workshop___init__) F sc_Workshop___init__ fun cdv A outer s H E S0 H0 hr => ?_, hb⟩⟩
  exact (vss_cons (vs_setF (i := 0) T.cls_Workshop T.nf_Workshop_sizes (VX.any (vx_call c_checked_block (takes_of rfl rfl rfl rfl) hr (by decide) (va_cons (vx_var 1) va_nil)))) (vss_cons (vs_setF (i := 0) T.cls_Workshop T.nf_Workshop_now (vx_tup (m := .F) (by intro z; cases z) (va_cons (vx_lst (m := .F) (by intro z; cases z) va_nil) (va_cons (vx_lst (m := .F) (by intro z; cases z) va_nil) (va_cons (vx_lst (m := .F) (by intro z; cases z) va_nil) (va_cons (VX.any (vx_call c_places_of (takes_of rfl rfl rfl rfl) hr (by decide) (va_cons (vx_fld (i := 0) T.cls_Workshop T.nf_Workshop_sizes) va_nil))) (va_cons (vx_lst (m := .F) (by intro z; cases z) va_nil) va_nil))))))) (vss_cons (vs_setL (i := 0) T.cls_Workshop T.nf_Workshop_past (vx_lst (m := .N) (by intro z; cases z) va_nil)) (vss_one (vs_setL (i := 0) T.cls_Workshop T.nf_Workshop_ahead (vx_lst (m := .N) (by intro z; cases z) va_nil))))))
theorem sc_Workshop_block : FnScope ["self"] ["self"] (defScope s_Workshop_block) := ⟨rfl, rfl, rfl, by decide +kernel, rfl, by decide +kernel, by decide +kernel⟩
theorem ok_Workshop_block {P : Program} {w : World} {K : PySem.W.Frag} {mg : Str → Option Value} {base : Heap} {f : Addr} {fd : FuncData} {C : Addr} (T : Txt K mg) (F : Fun K "block" "Workshop.block" s_Workshop_block f fd) (ca : ClsAt K "Workshop" C) (cl : Cls K C) (me : Meth K C "block" f) (hb : Binds K fd ["self"] [])  : CalM P w K mg base 1 "Workshop" "block" q_Workshop_block := by
  refine ⟨⟨C, f, fd, _, ca, cl, me, fn_ok (N := ["self"]) (F := d_Workshop_block) F sc_Workshop_block fun cdv A outer s H E S0 hr => ?_, hb⟩⟩
  exact (vss_one (vs_retF (VX.any (vx_lf (vx_fldE (i := 0) T.cls_Workshop T.nf_Workshop_sizes)))))
theorem sc_law : FnScope ["_law_script", "_law_row", "_law_good", "_law_shop", "_law_bad", "_law_places", "_law_due", "_law_turn", "_law_place", "e", "_law_answers_here", "_law_answer", "_law_part"] ["_law_script"] (defScope s_law) := ⟨rfl, rfl, rfl, by decide +kernel, rfl, by decide +kernel, by decide +kernel⟩
theorem okf_law {P : Program} {w : World} {K : PySem.W.Frag} {mg : Str → Option Value} {base : Heap} {f : Addr} {fd : FuncData} (T : Txt K mg) (F : Fun K "law" "law" s_law f fd) (c_Workshop___init__ : CalMk P w K mg base 2 "Workshop" q_Workshop___init__) (c_Workshop_block : CalM P w K mg base 1 "Workshop" "block" q_Workshop_block) (c_L_alike : Cal P w K mg base 6 "_law_alike" (q_L_alike 6)) (c_L_all : Cal P w K mg base 1 "_law_all" q_L_all) (c_L_answers : Cal P w K mg base 10 "_law_answers" q_L_answers) (c_L_digits : Cal P w K mg base 1 "_law_digits" q_L_digits) (c_L_name : Cal P w K mg base 2 "_law_name" q_L_name) (c_L_one : Cal P w K mg base 2 "_law_one" q_L_one) (c_L_refusals : CalO P w K mg base 9 "_law_refusals" q_L_refusals) : FnOk P w K mg base (L2.CX P w) 11 f fd ["_law_script"] (spN mg K q_law) := by
  refine fn_ok (N := ["_law_script", "_law_row", "_law_good", "_law_shop", "_law_bad", "_law_places", "_law_due", "_law_turn", "_law_place", "e", "_law_answers_here", "_law_answer", "_law_part"]) (F := d_law) F sc_law fun cdv A outer s H E S0 hr => ?_
  exact (vss_cons (vs_fr (i := 1) sc_law.nd (VX.any (vx_call c_L_digits (takes_of rfl rfl rfl rfl) hr (by decide) (va_cons (vx_var 0) (va_cons vx_int (va_cons vx_int (va_cons vx_int va_nil))))))) (vss_cons (vs_if (vt_cmp op_gt og_gt (vx_call c_L_one (takes_of rfl rfl rfl rfl) hr (by decide) (va_cons (vx_var 0) (va_cons vx_int (va_cons vx_int va_nil)))) (vx_int (m := .N))) (vss_one (vs_lcFr (i := 1) (own := [("_law_part", 12)]) rfl sc_law.nd (sw_true rfl rfl rfl (by decide +kernel)) (vi_list (vx_varE 1)) (blkOk_by (own := [("_law_part", 12)]) (N := ["_law_script", "_law_row", "_law_good", "_law_shop", "_law_bad", "_law_places", "_law_due", "_law_turn", "_law_place", "e", "_law_answers_here", "_law_answer", "_law_part"]) (sc := defScope s_law) (by decide +kernel)) (fun _ => (vg_name sc_law.nd)) (fun _ => vts_nil) (fun _ => (vx_add (vx_int (m := .N)) (vx_mod (m := .N) (vx_var 12) (vx_int (m := .N))))))) vss_nil) (vss_cons (vs_if (vt_cmp (op_eqA hr.units) og_eq (vx_call c_L_one (takes_of rfl rfl rfl rfl) hr (by decide) (va_cons (vx_var 0) (va_cons vx_int (va_cons vx_int va_nil)))) (vx_int (m := .N))) (vss_one (vs_fr (i := 1) sc_law.nd (VX.any (vx_call c_L_digits (takes_of rfl rfl rfl rfl) hr (by decide) (va_cons (vx_var 0) (va_cons vx_int (va_cons vx_int (va_cons (VX.toO (vx_call c_L_one (takes_of rfl rfl rfl rfl) hr (by decide) (va_cons (vx_var 0) (va_cons vx_int (va_cons vx_int va_nil))))) va_nil)))))))) vss_nil) (vss_cons (vs_fr (i := 2) sc_law.nd (vx_and (vx_cmp (m := .N) (op_eqA hr.units) og_eq (vx_callB (m := .N) call_len cg_len T.m_len (by decide +kernel) (va_cons (vx_var 1) va_nil)) (vx_int (m := .N))) (vx_one (vx_callB (cr_all rfl) cg_all T.m_all (by decide +kernel) (va_cons (VX.toO (vx_lc (own := [("_law_part", 12)]) (m := .N) (by intro z; cases z) rfl sc_law.nd (vi_list (vx_varE 1)) (blkOk_by (own := [("_law_part", 12)]) (N := ["_law_script", "_law_row", "_law_good", "_law_shop", "_law_bad", "_law_places", "_law_due", "_law_turn", "_law_place", "e", "_law_answers_here", "_law_answer", "_law_part"]) (sc := defScope s_law) (by decide +kernel)) (fun _ => (vg_name sc_law.nd)) (fun _ => vts_nil) (fun _ => (vx_chain op_le op_le og_le og_le (vx_int (m := .N)) (vx_var 12) (vx_int (m := .N)))))) va_nil))))) (vss_cons (vs_fr (i := 3) sc_law.nd vx_non) (vss_cons (vs_fr (i := 4) sc_law.nd vx_bl) (vss_tryMk (i := 9) (j := 3) T.te_law_4 (fun top1 kn1 => (ves_cons (kn1 0 _ _ rfl) (fun D1 xc1 kt1 a1 oe1 pn1 hz1 hfs1 => (vss_one (vs_fr (i := 4) sc_law.nd (vx_and (vx_isE (m := .N) (i := 9) xc1 hz1 hfs1 kt1 (by decide +kernel) T.m_isinstance) (vx_one (vx_notV (vx_isE (m := .N) (i := 9) xc1 hz1 hfs1 kt1 (by decide +kernel) T.m_isinstance))))))) VEs.nil)) c_Workshop___init__ (takes_of rfl rfl rfl rfl) hr (by decide) sc_law.nd (fun W1 pn1 xe1 tk1 po1 => (va_cons (VX.any (vx_callTy call_list_of cg_list T.m_list (by decide +kernel) (va_cons (vx_var 1) va_nil))) va_nil)) (vss_cons (vs_if (vt_not (vt_tru (vx_var 2))) (vss_one (vs_retF (vx_and (vx_var 4) (vx_one (vx_cmp op_isN og_isN (vx_var 3) (vx_non (m := .N))))))) vss_nil) (vss_cons (vs_if (vt_cmp op_isN og_isN (vx_var 3) (vx_non (m := .N))) (vss_one (vs_retF vx_bl)) vss_nil) (vss_cons (vs_fr (i := 5) sc_law.nd (VX.any (vx_call c_L_all (takes_of rfl rfl rfl rfl) hr (by decide) (va_cons (vx_var 1) va_nil)))) (vss_cons (vs_fr (i := 6) sc_law.nd (vx_lst (m := .F) (by intro z; cases z) (va_cons (vx_lst (m := .F) (by intro z; cases z) va_nil) (va_cons (vx_lst (m := .F) (by intro z; cases z) va_nil) (va_cons (vx_lst (m := .F) (by intro z; cases z) va_nil) (va_cons (vx_lst (m := .F) (by intro z; cases z) va_nil) (va_cons (vx_varF 5) (va_cons (vx_lst (m := .F) (by intro z; cases z) va_nil) (va_cons (vx_lst (m := .F) (by intro z; cases z) va_nil) (va_cons (vx_varF 5) (va_cons (vx_lst (m := .F) (by intro z; cases z) va_nil) va_nil))))))))))) (vss_cons (vs_for (passes_of rfl) rfl (vi_range1 T.m_range (va_cons vx_int va_nil)) (vg_name sc_law.nd) (vss_wipe (ks := [7, 10, 11]) (vss_blk (ks := [10, 11]) (vb_cons (fun _ _ => (vk_fr (i := 10) (by decide) sc_law.nd (VX.any (vx_call c_L_answers (takes_of rfl rfl rfl rfl) hr (by decide) (va_cons (vx_var 3) va_nil))))) (vb_cons (fun _ _ => (vk_if (VW.t (vw_or (vt_not (vt_tru (vx_call c_L_alike (takes_of rfl rfl rfl rfl) hr (by decide) (va_cons (vx_var 10) (va_cons (vx_var 6) va_nil))))) (vw_or1 (vt_not (vt_tru (vx_call c_L_alike (takes_of rfl rfl rfl rfl) hr (by decide) (va_cons (VX.toO (vx_meth0 c_Workshop_block (takes_of rfl rfl rfl rfl) hr (by decide) (vx_var 3))) (va_cons (VX.toO (vx_callTy call_tuple_of cg_tuple T.m_tuple (by decide +kernel) (va_cons (vx_var 1) va_nil))) va_nil)))))))) (vss_one (vs_retF vx_bl)) (fun _ => trivial))) (vb_all (i := 10) (j := 11) (passes_of rfl) rfl sc_law.nd (by decide) vss_nil)))))) (vss_cons (vs_sh (i := 8) sc_law.nd (vx_ix (hu_of hr) (vx_var 5) (vx_mod (m := .N) (vx_call c_L_one (takes_of rfl rfl rfl rfl) hr (by decide) (va_cons (vx_var 0) (va_cons vx_int (va_cons vx_int va_nil)))) (vx_callB (m := .N) call_len cg_len T.m_len (by decide +kernel) (va_cons (vx_var 5) va_nil))))) (vss_one (vs_retM (vxm_cmp (op_eqA hr.units) og_eq (vxm_call (i := 3) c_L_refusals (takes_of rfl rfl rfl rfl) hr (by decide) (va_cons (vx_varE 8) (va_cons (VX.any (vx_call c_L_name (takes_of rfl rfl rfl rfl) hr (by decide) (va_cons (VX.toO (vx_call c_L_one (takes_of rfl rfl rfl rfl) hr (by decide) (va_cons (vx_var 0) (va_cons vx_int (va_cons vx_int va_nil))))) va_nil))) va_nil))) (vx_lst (m := .E) (by intro z; cases z) (va_cons vx_bl (va_cons vx_bl (va_cons vx_bl (va_cons vx_bl va_nil)))))))))))))))))))))
/-! ### what the top has written; the law's end -/
theorem all_mk {P : Program} {w : World} {K : PySem.W.Frag} {h : Heap} {mg : Str → Option Value} {fa f0 f1 f2 f3 f4 f5 f6 f7 f8 f9 f10 f11 f12 f13 f14 f15 f16 f17 f18 f19 f20 f21 f22 f23 f24 f25 f26 f27 f28 f29 f30 f31 f32 f33 f34 f35 f36 f37 f38 f39 f40 f41 f42 f43 f44 f45 f46 f47 f48 f49 : Addr} {od0 an0 od1 an1 od2 an2 od3 an3 od4 an4 od5 an5 od6 an6 od7 an7 od8 an8 od9 an9 od10 an10 od11 an11 od12 an12 od13 an13 od14 an14 od15 an15 od16 an16 od17 an17 od18 an18 od19 an19 od20 an20 od21 an21 od22 an22 od23 an23 od24 an24 od25 an25 od26 an26 od27 an27 od28 an28 od29 an29 od30 an30 od31 an31 od32 an32 od33 an33 od34 an34 od35 an35 od36 an36 od37 an37 od38 an38 od39 an39 od40 an40 od41 an41 od42 an42 od43 an43 od44 an44 od45 an45 od46 an46 od47 an47 od48 an48 od49 an49 : Option Addr} {sl0 sl1 sl2 sl3 sl4 sl5 sl6 sl7 sl8 sl9 sl10 sl11 sl12 sl13 sl14 sl15 sl16 sl17 sl18 sl19 sl20 sl21 sl22 sl23 sl24 sl25 sl26 sl27 sl28 sl29 sl30 sl31 sl32 sl33 sl34 sl35 sl36 sl37 sl38 sl39 sl40 sl41 sl42 sl43 sl44 sl45 sl46 sl47 sl48 sl49 : Array (Option Value)} {oc0 kV0 dc0 pm0 cd0 ct0 oc1 kV1 dc1 pm1 cd1 ct1 oc2 kV2 dc2 pm2 cd2 ct2 oc3 kV3 dc3 pm3 cd3 ct3 oc4 kV4 dc4 pm4 cd4 ct4 oc5 kV5 dc5 pm5 cd5 ct5 oc6 kV6 dc6 pm6 cd6 ct6 oc7 kV7 dc7 pm7 cd7 ct7 oc8 kV8 dc8 pm8 cd8 ct8 oc9 kV9 dc9 pm9 cd9 ct9 oc10 kV10 dc10 pm10 cd10 ct10 oc11 kV11 dc11 pm11 cd11 ct11 oc12 kV12 dc12 pm12 cd12 ct12 oc13 kV13 dc13 pm13 cd13 ct13 oc14 kV14 dc14 pm14 cd14 ct14 oc15 kV15 dc15 pm15 cd15 ct15 oc16 kV16 dc16 pm16 cd16 ct16 oc17 kV17 dc17 pm17 cd17 ct17 oc18 kV18 dc18 pm18 cd18 ct18 oc19 kV19 dc19 pm19 cd19 ct19 oc20 kV20 dc20 pm20 cd20 ct20 oc21 kV21 dc21 pm21 cd21 ct21 oc22 kV22 dc22 pm22 cd22 ct22 oc23 kV23 dc23 pm23 cd23 ct23 oc24 kV24 dc24 pm24 cd24 ct24 oc25 kV25 dc25 pm25 cd25 ct25 oc26 kV26 dc26 pm26 cd26 ct26 oc27 kV27 dc27 pm27 cd27 ct27 oc28 kV28 dc28 pm28 cd28 ct28 oc29 kV29 dc29 pm29 cd29 ct29 oc30 kV30 dc30 pm30 cd30 ct30 oc31 kV31 dc31 pm31 cd31 ct31 oc32 kV32 dc32 pm32 cd32 ct32 oc33 kV33 dc33 pm33 cd33 ct33 oc34 kV34 dc34 pm34 cd34 ct34 oc35 kV35 dc35 pm35 cd35 ct35 oc36 kV36 dc36 pm36 cd36 ct36 oc37 kV37 dc37 pm37 cd37 ct37 oc38 kV38 dc38 pm38 cd38 ct38 oc39 kV39 dc39 pm39 cd39 ct39 oc40 kV40 dc40 pm40 cd40 ct40 oc41 kV41 dc41 pm41 cd41 ct41 oc42 kV42 dc42 pm42 cd42 ct42 oc43 kV43 dc43 pm43 cd43 ct43 oc44 kV44 dc44 pm44 cd44 ct44 oc45 kV45 dc45 pm45 cd45 ct45 oc46 kV46 dc46 pm46 cd46 ct46 oc47 kV47 dc47 pm47 cd47 ct47 oc48 kV48 dc48 pm48 cd48 ct48 oc49 kV49 dc49 pm49 cd49 ct49 : Value} {yt0 yt1 yt2 yt3 yt4 yt5 : Tok} {C0 C1 C2 C3 C4 C5 C6 C7 C8 C9 : Addr} {CC_Workshop : Addr} (X : K.In h) (G : h.Ns mainGlobals mg) (hfa : mg "law" = some (.ref fa)) (math : ∀ ns : List Int, ns.length ≤ 63 → q_law [.fz (ns.map .int)] = .ok (.bl true))
    (a0 : PySem.W.nsIn K mainGlobals "_wall" = some (some (.ref f0))) (l0 : K.lookup f0 = some ⟨oc0, od0, .func (PySem.W.fnOf "_wall" "_wall" (defArgs s_wall) (defBody s_wall) (defScope s_wall) .none kV0 dc0 pm0 an0 cd0 ct0), sl0⟩) (c0 : PySem.W.codeIn K cd0 "_wall" = true) (k0 : PySem.W.keepIn K (.ref f0) = true)
    (a1 : PySem.W.nsIn K mainGlobals "checked_block" = some (some (.ref f1))) (l1 : K.lookup f1 = some ⟨oc1, od1, .func (PySem.W.fnOf "checked_block" "checked_block" (defArgs s_checked_block) (defBody s_checked_block) (defScope s_checked_block) .none kV1 dc1 pm1 an1 cd1 ct1), sl1⟩) (c1 : PySem.W.codeIn K cd1 "checked_block" = true) (k1 : PySem.W.keepIn K (.ref f1) = true)
    (a2 : PySem.W.nsIn K mainGlobals "measure_of" = some (some (.ref f2))) (l2 : K.lookup f2 = some ⟨oc2, od2, .func (PySem.W.fnOf "measure_of" "measure_of" (defArgs s_measure_of) (defBody s_measure_of) (defScope s_measure_of) .none kV2 dc2 pm2 an2 cd2 ct2), sl2⟩) (c2 : PySem.W.codeIn K cd2 "measure_of" = true) (k2 : PySem.W.keepIn K (.ref f2) = true)
    (a3 : PySem.W.nsIn K mainGlobals "checked_direction" = some (some (.ref f3))) (l3 : K.lookup f3 = some ⟨oc3, od3, .func (PySem.W.fnOf "checked_direction" "checked_direction" (defArgs s_checked_direction) (defBody s_checked_direction) (defScope s_checked_direction) .none kV3 dc3 pm3 an3 cd3 ct3), sl3⟩) (c3 : PySem.W.codeIn K cd3 "checked_direction" = true) (k3 : PySem.W.keepIn K (.ref f3) = true)
    (a4 : PySem.W.nsIn K mainGlobals "places_of" = some (some (.ref f4))) (l4 : K.lookup f4 = some ⟨oc4, od4, .func (PySem.W.fnOf "places_of" "places_of" (defArgs s_places_of) (defBody s_places_of) (defScope s_places_of) .none kV4 dc4 pm4 an4 cd4 ct4), sl4⟩) (c4 : PySem.W.codeIn K cd4 "places_of" = true) (k4 : PySem.W.keepIn K (.ref f4) = true)
    (a5 : PySem.W.nsIn K mainGlobals "inside" = some (some (.ref f5))) (l5 : K.lookup f5 = some ⟨oc5, od5, .func (PySem.W.fnOf "inside" "inside" (defArgs s_inside) (defBody s_inside) (defScope s_inside) .none kV5 dc5 pm5 an5 cd5 ct5), sl5⟩) (c5 : PySem.W.codeIn K cd5 "inside" = true) (k5 : PySem.W.keepIn K (.ref f5) = true)
    (a6 : PySem.W.nsIn K mainGlobals "stepped" = some (some (.ref f6))) (l6 : K.lookup f6 = some ⟨oc6, od6, .func (PySem.W.fnOf "stepped" "stepped" (defArgs s_stepped) (defBody s_stepped) (defScope s_stepped) .none kV6 dc6 pm6 an6 cd6 ct6), sl6⟩) (c6 : PySem.W.codeIn K cd6 "stepped" = true) (k6 : PySem.W.keepIn K (.ref f6) = true)
    (a7 : PySem.W.nsIn K mainGlobals "door_of" = some (some (.ref f7))) (l7 : K.lookup f7 = some ⟨oc7, od7, .func (PySem.W.fnOf "door_of" "door_of" (defArgs s_door_of) (defBody s_door_of) (defScope s_door_of) .none kV7 dc7 pm7 an7 cd7 ct7), sl7⟩) (c7 : PySem.W.codeIn K cd7 "door_of" = true) (k7 : PySem.W.keepIn K (.ref f7) = true)
    (a8 : PySem.W.nsIn K mainGlobals "doors_of" = some (some (.ref f8))) (l8 : K.lookup f8 = some ⟨oc8, od8, .func (PySem.W.fnOf "doors_of" "doors_of" (defArgs s_doors_of) (defBody s_doors_of) (defScope s_doors_of) .none kV8 dc8 pm8 an8 cd8 ct8), sl8⟩) (c8 : PySem.W.codeIn K cd8 "doors_of" = true) (k8 : PySem.W.keepIn K (.ref f8) = true)
    (a9 : PySem.W.nsIn K mainGlobals "marks_of" = some (some (.ref f9))) (l9 : K.lookup f9 = some ⟨oc9, od9, .func (PySem.W.fnOf "marks_of" "marks_of" (defArgs s_marks_of) (defBody s_marks_of) (defScope s_marks_of) .none kV9 dc9 pm9 an9 cd9 ct9), sl9⟩) (c9 : PySem.W.codeIn K cd9 "marks_of" = true) (k9 : PySem.W.keepIn K (.ref f9) = true)
    (a10 : PySem.W.nsIn K mainGlobals "seen_from" = some (some (.ref f10))) (l10 : K.lookup f10 = some ⟨oc10, od10, .func (PySem.W.fnOf "seen_from" "seen_from" (defArgs s_seen_from) (defBody s_seen_from) (defScope s_seen_from) .none kV10 dc10 pm10 an10 cd10 ct10), sl10⟩) (c10 : PySem.W.codeIn K cd10 "seen_from" = true) (k10 : PySem.W.keepIn K (.ref f10) = true)
    (a11 : PySem.W.nsIn K mainGlobals "lacking" = some (some (.ref f11))) (l11 : K.lookup f11 = some ⟨oc11, od11, .func (PySem.W.fnOf "lacking" "lacking" (defArgs s_lacking) (defBody s_lacking) (defScope s_lacking) .none kV11 dc11 pm11 an11 cd11 ct11), sl11⟩) (c11 : PySem.W.codeIn K cd11 "lacking" = true) (k11 : PySem.W.keepIn K (.ref f11) = true)
    (a12 : PySem.W.nsIn K mainGlobals "is_sign" = some (some (.ref f12))) (l12 : K.lookup f12 = some ⟨oc12, od12, .func (PySem.W.fnOf "is_sign" "is_sign" (defArgs s_is_sign) (defBody s_is_sign) (defScope s_is_sign) .none kV12 dc12 pm12 an12 cd12 ct12), sl12⟩) (c12 : PySem.W.codeIn K cd12 "is_sign" = true) (k12 : PySem.W.keepIn K (.ref f12) = true)
    (a13 : PySem.W.nsIn K mainGlobals "checked_picture" = some (some (.ref f13))) (l13 : K.lookup f13 = some ⟨oc13, od13, .func (PySem.W.fnOf "checked_picture" "checked_picture" (defArgs s_checked_picture) (defBody s_checked_picture) (defScope s_checked_picture) .none kV13 dc13 pm13 an13 cd13 ct13), sl13⟩) (c13 : PySem.W.codeIn K cd13 "checked_picture" = true) (k13 : PySem.W.keepIn K (.ref f13) = true)
    (a14 : PySem.W.nsIn K mainGlobals "signs_by_door" = some (some (.ref f14))) (l14 : K.lookup f14 = some ⟨oc14, od14, .func (PySem.W.fnOf "signs_by_door" "signs_by_door" (defArgs s_signs_by_door) (defBody s_signs_by_door) (defScope s_signs_by_door) .none kV14 dc14 pm14 an14 cd14 ct14), sl14⟩) (c14 : PySem.W.codeIn K cd14 "signs_by_door" = true) (k14 : PySem.W.keepIn K (.ref f14) = true)
    (a15 : PySem.W.nsIn K mainGlobals "view_of" = some (some (.ref f15))) (l15 : K.lookup f15 = some ⟨oc15, od15, .func (PySem.W.fnOf "view_of" "view_of" (defArgs s_view_of) (defBody s_view_of) (defScope s_view_of) .none kV15 dc15 pm15 an15 cd15 ct15), sl15⟩) (c15 : PySem.W.codeIn K cd15 "view_of" = true) (k15 : PySem.W.keepIn K (.ref f15) = true)
    (a16 : PySem.W.nsIn K mainGlobals "views_of" = some (some (.ref f16))) (l16 : K.lookup f16 = some ⟨oc16, od16, .func (PySem.W.fnOf "views_of" "views_of" (defArgs s_views_of) (defBody s_views_of) (defScope s_views_of) .none kV16 dc16 pm16 an16 cd16 ct16), sl16⟩) (c16 : PySem.W.codeIn K cd16 "views_of" = true) (k16 : PySem.W.keepIn K (.ref f16) = true)
    (a17 : PySem.W.nsIn K mainGlobals "bar_in" = some (some (.ref f17))) (l17 : K.lookup f17 = some ⟨oc17, od17, .func (PySem.W.fnOf "bar_in" "bar_in" (defArgs s_bar_in) (defBody s_bar_in) (defScope s_bar_in) .none kV17 dc17 pm17 an17 cd17 ct17), sl17⟩) (c17 : PySem.W.codeIn K cd17 "bar_in" = true) (k17 : PySem.W.keepIn K (.ref f17) = true)
    (a18 : PySem.W.nsIn K mainGlobals "barred" = some (some (.ref f18))) (l18 : K.lookup f18 = some ⟨oc18, od18, .func (PySem.W.fnOf "barred" "barred" (defArgs s_barred) (defBody s_barred) (defScope s_barred) .none kV18 dc18 pm18 an18 cd18 ct18), sl18⟩) (c18 : PySem.W.codeIn K cd18 "barred" = true) (k18 : PySem.W.keepIn K (.ref f18) = true)
    (a19 : PySem.W.nsIn K mainGlobals "picked" = some (some (.ref f19))) (l19 : K.lookup f19 = some ⟨oc19, od19, .func (PySem.W.fnOf "picked" "picked" (defArgs s_picked) (defBody s_picked) (defScope s_picked) .none kV19 dc19 pm19 an19 cd19 ct19), sl19⟩) (c19 : PySem.W.codeIn K cd19 "picked" = true) (k19 : PySem.W.keepIn K (.ref f19) = true)
    (a20 : PySem.W.nsIn K mainGlobals "carve" = some (some (.ref f20))) (l20 : K.lookup f20 = some ⟨oc20, od20, .func (PySem.W.fnOf "carve" "carve" (defArgs s_carve) (defBody s_carve) (defScope s_carve) .none kV20 dc20 pm20 an20 cd20 ct20), sl20⟩) (c20 : PySem.W.codeIn K cd20 "carve" = true) (k20 : PySem.W.keepIn K (.ref f20) = true)
    (a21 : PySem.W.nsIn K mainGlobals "checked_name" = some (some (.ref f21))) (l21 : K.lookup f21 = some ⟨oc21, od21, .func (PySem.W.fnOf "checked_name" "checked_name" (defArgs s_checked_name) (defBody s_checked_name) (defScope s_checked_name) .none kV21 dc21 pm21 an21 cd21 ct21), sl21⟩) (c21 : PySem.W.codeIn K cd21 "checked_name" = true) (k21 : PySem.W.keepIn K (.ref f21) = true)
    (a22 : PySem.W.nsIn K mainGlobals "hiding" = some (some (.ref f22))) (l22 : K.lookup f22 = some ⟨oc22, od22, .func (PySem.W.fnOf "hiding" "hiding" (defArgs s_hiding) (defBody s_hiding) (defScope s_hiding) .none kV22 dc22 pm22 an22 cd22 ct22), sl22⟩) (c22 : PySem.W.codeIn K cd22 "hiding" = true) (k22 : PySem.W.keepIn K (.ref f22) = true)
    (a23 : PySem.W.nsIn K mainGlobals "because" = some (some (.ref f23))) (l23 : K.lookup f23 = some ⟨oc23, od23, .func (PySem.W.fnOf "because" "because" (defArgs s_because) (defBody s_because) (defScope s_because) .none kV23 dc23 pm23 an23 cd23 ct23), sl23⟩) (c23 : PySem.W.codeIn K cd23 "because" = true) (k23 : PySem.W.keepIn K (.ref f23) = true)
    (a24 : PySem.W.nsIn K mainGlobals "_law_alike" = some (some (.ref f24))) (l24 : K.lookup f24 = some ⟨oc24, od24, .func (PySem.W.fnOf "_law_alike" "_law_alike" (defArgs s_L_alike) (defBody s_L_alike) (defScope s_L_alike) .none kV24 dc24 pm24 an24 cd24 ct24), sl24⟩) (c24 : PySem.W.codeIn K cd24 "_law_alike" = true) (k24 : PySem.W.keepIn K (.ref f24) = true)
    (a25 : PySem.W.nsIn K mainGlobals "_law_digits" = some (some (.ref f25))) (l25 : K.lookup f25 = some ⟨oc25, od25, .func (PySem.W.fnOf "_law_digits" "_law_digits" (defArgs s_L_digits) (defBody s_L_digits) (defScope s_L_digits) .none kV25 dc25 pm25 an25 cd25 ct25), sl25⟩) (c25 : PySem.W.codeIn K cd25 "_law_digits" = true) (k25 : PySem.W.keepIn K (.ref f25) = true)
    (a26 : PySem.W.nsIn K mainGlobals "_law_one" = some (some (.ref f26))) (l26 : K.lookup f26 = some ⟨oc26, od26, .func (PySem.W.fnOf "_law_one" "_law_one" (defArgs s_L_one) (defBody s_L_one) (defScope s_L_one) .none kV26 dc26 pm26 an26 cd26 ct26), sl26⟩) (c26 : PySem.W.codeIn K cd26 "_law_one" = true) (k26 : PySem.W.keepIn K (.ref f26) = true)
    (a27 : PySem.W.nsIn K mainGlobals "_law_all" = some (some (.ref f27))) (l27 : K.lookup f27 = some ⟨oc27, od27, .func (PySem.W.fnOf "_law_all" "_law_all" (defArgs s_L_all) (defBody s_L_all) (defScope s_L_all) .none kV27 dc27 pm27 an27 cd27 ct27), sl27⟩) (c27 : PySem.W.codeIn K cd27 "_law_all" = true) (k27 : PySem.W.keepIn K (.ref f27) = true)
    (a28 : PySem.W.nsIn K mainGlobals "_law_letter" = some (some (.ref f28))) (l28 : K.lookup f28 = some ⟨oc28, od28, .func (PySem.W.fnOf "_law_letter" "_law_letter" (defArgs s_L_letter) (defBody s_L_letter) (defScope s_L_letter) .none kV28 dc28 pm28 an28 cd28 ct28), sl28⟩) (c28 : PySem.W.codeIn K cd28 "_law_letter" = true) (k28 : PySem.W.keepIn K (.ref f28) = true)
    (a29 : PySem.W.nsIn K mainGlobals "_law_name" = some (some (.ref f29))) (l29 : K.lookup f29 = some ⟨oc29, od29, .func (PySem.W.fnOf "_law_name" "_law_name" (defArgs s_L_name) (defBody s_L_name) (defScope s_L_name) .none kV29 dc29 pm29 an29 cd29 ct29), sl29⟩) (c29 : PySem.W.codeIn K cd29 "_law_name" = true) (k29 : PySem.W.keepIn K (.ref f29) = true)
    (a30 : PySem.W.findIn K (.ref CC_Workshop) "looks" = some (some (.ref f30))) (i30 : PySem.W.isFn K (.ref f30) = true) (l30 : K.lookup f30 = some ⟨oc30, od30, .func (PySem.W.fnOf "looks" "Workshop.looks" (defArgs s_Workshop_looks) (defBody s_Workshop_looks) (defScope s_Workshop_looks) .none kV30 dc30 pm30 an30 cd30 ct30), sl30⟩) (c30 : PySem.W.codeIn K cd30 "Workshop.looks" = true) (k30 : PySem.W.keepIn K (.ref f30) = true)
    (a31 : PySem.W.findIn K (.ref CC_Workshop) "end" = some (some (.ref f31))) (i31 : PySem.W.isFn K (.ref f31) = true) (l31 : K.lookup f31 = some ⟨oc31, od31, .func (PySem.W.fnOf "end" "Workshop.end" (defArgs s_Workshop_end) (defBody s_Workshop_end) (defScope s_Workshop_end) .none kV31 dc31 pm31 an31 cd31 ct31), sl31⟩) (c31 : PySem.W.codeIn K cd31 "Workshop.end" = true) (k31 : PySem.W.keepIn K (.ref f31) = true)
    (a32 : PySem.W.findIn K (.ref CC_Workshop) "gone" = some (some (.ref f32))) (i32 : PySem.W.isFn K (.ref f32) = true) (l32 : K.lookup f32 = some ⟨oc32, od32, .func (PySem.W.fnOf "gone" "Workshop.gone" (defArgs s_Workshop_gone) (defBody s_Workshop_gone) (defScope s_Workshop_gone) .none kV32 dc32 pm32 an32 cd32 ct32), sl32⟩) (c32 : PySem.W.codeIn K cd32 "Workshop.gone" = true) (k32 : PySem.W.keepIn K (.ref f32) = true)
    (a33 : PySem.W.findIn K (.ref CC_Workshop) "loose" = some (some (.ref f33))) (i33 : PySem.W.isFn K (.ref f33) = true) (l33 : K.lookup f33 = some ⟨oc33, od33, .func (PySem.W.fnOf "loose" "Workshop.loose" (defArgs s_Workshop_loose) (defBody s_Workshop_loose) (defScope s_Workshop_loose) .none kV33 dc33 pm33 an33 cd33 ct33), sl33⟩) (c33 : PySem.W.codeIn K cd33 "Workshop.loose" = true) (k33 : PySem.W.keepIn K (.ref f33) = true)
    (a34 : PySem.W.findIn K (.ref CC_Workshop) "names" = some (some (.ref f34))) (i34 : PySem.W.isFn K (.ref f34) = true) (l34 : K.lookup f34 = some ⟨oc34, od34, .func (PySem.W.fnOf "names" "Workshop.names" (defArgs s_Workshop_names) (defBody s_Workshop_names) (defScope s_Workshop_names) .none kV34 dc34 pm34 an34 cd34 ct34), sl34⟩) (c34 : PySem.W.codeIn K cd34 "Workshop.names" = true) (k34 : PySem.W.keepIn K (.ref f34) = true)
    (a35 : PySem.W.findIn K (.ref CC_Workshop) "paper" = some (some (.ref f35))) (i35 : PySem.W.isFn K (.ref f35) = true) (l35 : K.lookup f35 = some ⟨oc35, od35, .func (PySem.W.fnOf "paper" "Workshop.paper" (defArgs s_Workshop_paper) (defBody s_Workshop_paper) (defScope s_Workshop_paper) .none kV35 dc35 pm35 an35 cd35 ct35), sl35⟩) (c35 : PySem.W.codeIn K cd35 "Workshop.paper" = true) (k35 : PySem.W.keepIn K (.ref f35) = true)
    (a36 : PySem.W.findIn K (.ref CC_Workshop) "quarrel" = some (some (.ref f36))) (i36 : PySem.W.isFn K (.ref f36) = true) (l36 : K.lookup f36 = some ⟨oc36, od36, .func (PySem.W.fnOf "quarrel" "Workshop.quarrel" (defArgs s_Workshop_quarrel) (defBody s_Workshop_quarrel) (defScope s_Workshop_quarrel) .none kV36 dc36 pm36 an36 cd36 ct36), sl36⟩) (c36 : PySem.W.codeIn K cd36 "Workshop.quarrel" = true) (k36 : PySem.W.keepIn K (.ref f36) = true)
    (a37 : PySem.W.findIn K (.ref CC_Workshop) "standing" = some (some (.ref f37))) (i37 : PySem.W.isFn K (.ref f37) = true) (l37 : K.lookup f37 = some ⟨oc37, od37, .func (PySem.W.fnOf "standing" "Workshop.standing" (defArgs s_Workshop_standing) (defBody s_Workshop_standing) (defScope s_Workshop_standing) .none kV37 dc37 pm37 an37 cd37 ct37), sl37⟩) (c37 : PySem.W.codeIn K cd37 "Workshop.standing" = true) (k37 : PySem.W.keepIn K (.ref f37) = true)
    (a38 : PySem.W.findIn K (.ref CC_Workshop) "sure" = some (some (.ref f38))) (i38 : PySem.W.isFn K (.ref f38) = true) (l38 : K.lookup f38 = some ⟨oc38, od38, .func (PySem.W.fnOf "sure" "Workshop.sure" (defArgs s_Workshop_sure) (defBody s_Workshop_sure) (defScope s_Workshop_sure) .none kV38 dc38 pm38 an38 cd38 ct38), sl38⟩) (c38 : PySem.W.codeIn K cd38 "Workshop.sure" = true) (k38 : PySem.W.keepIn K (.ref f38) = true)
    (a39 : PySem.W.nsIn K mainGlobals "_law_answers" = some (some (.ref f39))) (l39 : K.lookup f39 = some ⟨oc39, od39, .func (PySem.W.fnOf "_law_answers" "_law_answers" (defArgs s_L_answers) (defBody s_L_answers) (defScope s_L_answers) .none kV39 dc39 pm39 an39 cd39 ct39), sl39⟩) (c39 : PySem.W.codeIn K cd39 "_law_answers" = true) (k39 : PySem.W.keepIn K (.ref f39) = true)
    (a40 : PySem.W.findIn K (.ref CC_Workshop) "again" = some (some (.ref f40))) (i40 : PySem.W.isFn K (.ref f40) = true) (l40 : K.lookup f40 = some ⟨oc40, od40, .func (PySem.W.fnOf "again" "Workshop.again" (defArgs s_Workshop_again) (defBody s_Workshop_again) (defScope s_Workshop_again) .none kV40 dc40 pm40 an40 cd40 ct40), sl40⟩) (c40 : PySem.W.codeIn K cd40 "Workshop.again" = true) (k40 : PySem.W.keepIn K (.ref f40) = true)
    (a41 : PySem.W.findIn K (.ref CC_Workshop) "back" = some (some (.ref f41))) (i41 : PySem.W.isFn K (.ref f41) = true) (l41 : K.lookup f41 = some ⟨oc41, od41, .func (PySem.W.fnOf "back" "Workshop.back" (defArgs s_Workshop_back) (defBody s_Workshop_back) (defScope s_Workshop_back) .none kV41 dc41 pm41 an41 cd41 ct41), sl41⟩) (c41 : PySem.W.codeIn K cd41 "Workshop.back" = true) (k41 : PySem.W.keepIn K (.ref f41) = true)
    (a42 : PySem.W.findIn K (.ref CC_Workshop) "number_of" = some (some (.ref f42))) (i42 : PySem.W.isFn K (.ref f42) = true) (l42 : K.lookup f42 = some ⟨oc42, od42, .func (PySem.W.fnOf "number_of" "Workshop.number_of" (defArgs s_Workshop_number_of) (defBody s_Workshop_number_of) (defScope s_Workshop_number_of) .none kV42 dc42 pm42 an42 cd42 ct42), sl42⟩) (c42 : PySem.W.codeIn K cd42 "Workshop.number_of" = true) (k42 : PySem.W.keepIn K (.ref f42) = true)
    (a43 : PySem.W.findIn K (.ref CC_Workshop) "look" = some (some (.ref f43))) (i43 : PySem.W.isFn K (.ref f43) = true) (l43 : K.lookup f43 = some ⟨oc43, od43, .func (PySem.W.fnOf "look" "Workshop.look" (defArgs s_Workshop_look) (defBody s_Workshop_look) (defScope s_Workshop_look) .none kV43 dc43 pm43 an43 cd43 ct43), sl43⟩) (c43 : PySem.W.codeIn K cd43 "Workshop.look" = true) (k43 : PySem.W.keepIn K (.ref f43) = true)
    (a44 : PySem.W.findIn K (.ref CC_Workshop) "placed" = some (some (.ref f44))) (i44 : PySem.W.isFn K (.ref f44) = true) (l44 : K.lookup f44 = some ⟨oc44, od44, .func (PySem.W.fnOf "placed" "Workshop.placed" (defArgs s_Workshop_placed) (defBody s_Workshop_placed) (defScope s_Workshop_placed) .none kV44 dc44 pm44 an44 cd44 ct44), sl44⟩) (c44 : PySem.W.codeIn K cd44 "Workshop.placed" = true) (k44 : PySem.W.keepIn K (.ref f44) = true)
    (a45 : PySem.W.findIn K (.ref CC_Workshop) "why" = some (some (.ref f45))) (i45 : PySem.W.isFn K (.ref f45) = true) (l45 : K.lookup f45 = some ⟨oc45, od45, .func (PySem.W.fnOf "why" "Workshop.why" (defArgs s_Workshop_why) (defBody s_Workshop_why) (defScope s_Workshop_why) .none kV45 dc45 pm45 an45 cd45 ct45), sl45⟩) (c45 : PySem.W.codeIn K cd45 "Workshop.why" = true) (k45 : PySem.W.keepIn K (.ref f45) = true)
    (a46 : PySem.W.nsIn K mainGlobals "_law_refusals" = some (some (.ref f46))) (l46 : K.lookup f46 = some ⟨oc46, od46, .func (PySem.W.fnOf "_law_refusals" "_law_refusals" (defArgs s_L_refusals) (defBody s_L_refusals) (defScope s_L_refusals) .none kV46 dc46 pm46 an46 cd46 ct46), sl46⟩) (c46 : PySem.W.codeIn K cd46 "_law_refusals" = true) (k46 : PySem.W.keepIn K (.ref f46) = true)
    (a47 : PySem.W.findIn K (.ref CC_Workshop) "__init__" = some (some (.ref f47))) (i47 : PySem.W.isFn K (.ref f47) = true) (l47 : K.lookup f47 = some ⟨oc47, od47, .func (PySem.W.fnOf "__init__" "Workshop.__init__" (defArgs s_Workshop___init__) (defBody s_Workshop___init__) (defScope s_Workshop___init__) .none kV47 dc47 pm47 an47 cd47 ct47), sl47⟩) (c47 : PySem.W.codeIn K cd47 "Workshop.__init__" = true) (k47 : PySem.W.keepIn K (.ref f47) = true)
    (a48 : PySem.W.findIn K (.ref CC_Workshop) "block" = some (some (.ref f48))) (i48 : PySem.W.isFn K (.ref f48) = true) (l48 : K.lookup f48 = some ⟨oc48, od48, .func (PySem.W.fnOf "block" "Workshop.block" (defArgs s_Workshop_block) (defBody s_Workshop_block) (defScope s_Workshop_block) .none kV48 dc48 pm48 an48 cd48 ct48), sl48⟩) (c48 : PySem.W.codeIn K cd48 "Workshop.block" = true) (k48 : PySem.W.keepIn K (.ref f48) = true)
    (a49 : PySem.W.nsIn K mainGlobals "law" = some (some (.ref f49))) (l49 : K.lookup f49 = some ⟨oc49, od49, .func (PySem.W.fnOf "law" "law" (defArgs s_law) (defBody s_law) (defScope s_law) .none kV49 dc49 pm49 an49 cd49 ct49), sl49⟩) (c49 : PySem.W.codeIn K cd49 "law" = true) (k49 : PySem.W.keepIn K (.ref f49) = true)
    (z0 : PySem.W.nsIn K mainGlobals "abs" = some none) (z1 : PySem.W.nsIn K mainGlobals "all" = some none) (z2 : PySem.W.nsIn K mainGlobals "bool" = some none) (z3 : PySem.W.nsIn K mainGlobals "enumerate" = some none) (z4 : PySem.W.nsIn K mainGlobals "isinstance" = some none) (z5 : PySem.W.nsIn K mainGlobals "len" = some none) (z6 : PySem.W.nsIn K mainGlobals "list" = some none) (z7 : PySem.W.nsIn K mainGlobals "range" = some none) (z8 : PySem.W.nsIn K mainGlobals "reversed" = some none) (z9 : PySem.W.nsIn K mainGlobals "tuple" = some none) (z10 : PySem.W.nsIn K mainGlobals "zip" = some none) (y0 : PySem.W.nsIn K mainGlobals "COLOURS" = some (some (.str ("abcdefghijklmnopqrstuvwxyz" : Str) yt0))) (y1 : PySem.W.nsIn K mainGlobals "GREATEST_PART" = some (some (.int (3) yt1))) (y2 : PySem.W.nsIn K mainGlobals "GREATEST_SIZE" = some (some (.int (6) yt2))) (y3 : PySem.W.nsIn K mainGlobals "LONGEST_NAME" = some (some (.int (12) yt3))) (y4 : PySem.W.nsIn K mainGlobals "SKY" = some (some (.str ("." : Str) yt4))) (y5 : PySem.W.nsIn K mainGlobals "VEIL" = some (some (.str ("?" : Str) yt5)))
    (hgc0 : PySem.W.nsIn K mainGlobals "BadBlock" = some (some (.ref C0)))
    (hgc1 : PySem.W.nsIn K mainGlobals "BadDirection" = some (some (.ref C1)))
    (hgc2 : PySem.W.nsIn K mainGlobals "BadName" = some (some (.ref C2)))
    (hgc3 : PySem.W.nsIn K mainGlobals "BadPicture" = some (some (.ref C3)))
    (hgc4 : PySem.W.nsIn K mainGlobals "NoPlace" = some (some (.ref C4)))
    (hgc5 : PySem.W.nsIn K mainGlobals "NotCarved" = some (some (.ref C5)))
    (hgc6 : PySem.W.nsIn K mainGlobals "NothingAgain" = some (some (.ref C6)))
    (hgc7 : PySem.W.nsIn K mainGlobals "NothingBack" = some (some (.ref C7)))
    (hgc8 : PySem.W.nsIn K mainGlobals "SightError" = some (some (.ref C8)))
    (hgc9 : PySem.W.nsIn K mainGlobals "Unknown" = some (some (.ref C9)))
    (xe0 : PySem.W.excIn K C0 [.type "ValueError", .type "Exception", .type "BaseException", .type "object"] "ValueError.__new__" = true)
    (xk0 : PySem.W.keepIn K (.ref C0) = true)
    (xs0 : PySem.W.subIn K (.ref C0) (.type "BaseException") = some true)
    (xt0 : PySem.W.typeIn K (.ref C0) = some (.type "type"))
    (xe1 : PySem.W.excIn K C1 [.type "ValueError", .type "Exception", .type "BaseException", .type "object"] "ValueError.__new__" = true)
    (xk1 : PySem.W.keepIn K (.ref C1) = true)
    (xs1 : PySem.W.subIn K (.ref C1) (.type "BaseException") = some true)
    (xt1 : PySem.W.typeIn K (.ref C1) = some (.type "type"))
    (xe2 : PySem.W.excIn K C2 [.type "ValueError", .type "Exception", .type "BaseException", .type "object"] "ValueError.__new__" = true)
    (xk2 : PySem.W.keepIn K (.ref C2) = true)
    (xs2 : PySem.W.subIn K (.ref C2) (.type "BaseException") = some true)
    (xt2 : PySem.W.typeIn K (.ref C2) = some (.type "type"))
    (xe3 : PySem.W.excIn K C3 [.type "ValueError", .type "Exception", .type "BaseException", .type "object"] "ValueError.__new__" = true)
    (xk3 : PySem.W.keepIn K (.ref C3) = true)
    (xs3 : PySem.W.subIn K (.ref C3) (.type "BaseException") = some true)
    (xt3 : PySem.W.typeIn K (.ref C3) = some (.type "type"))
    (xe4 : PySem.W.excIn K C4 [.type "ValueError", .type "Exception", .type "BaseException", .type "object"] "ValueError.__new__" = true)
    (xk4 : PySem.W.keepIn K (.ref C4) = true)
    (xs4 : PySem.W.subIn K (.ref C4) (.type "BaseException") = some true)
    (xt4 : PySem.W.typeIn K (.ref C4) = some (.type "type"))
    (xe5 : PySem.W.excIn K C5 [.type "ValueError", .type "Exception", .type "BaseException", .type "object"] "ValueError.__new__" = true)
    (xk5 : PySem.W.keepIn K (.ref C5) = true)
    (xs5 : PySem.W.subIn K (.ref C5) (.type "BaseException") = some true)
    (xt5 : PySem.W.typeIn K (.ref C5) = some (.type "type"))
    (xe6 : PySem.W.excIn K C6 [.type "ValueError", .type "Exception", .type "BaseException", .type "object"] "ValueError.__new__" = true)
    (xk6 : PySem.W.keepIn K (.ref C6) = true)
    (xs6 : PySem.W.subIn K (.ref C6) (.type "BaseException") = some true)
    (xt6 : PySem.W.typeIn K (.ref C6) = some (.type "type"))
    (xe7 : PySem.W.excIn K C7 [.type "ValueError", .type "Exception", .type "BaseException", .type "object"] "ValueError.__new__" = true)
    (xk7 : PySem.W.keepIn K (.ref C7) = true)
    (xs7 : PySem.W.subIn K (.ref C7) (.type "BaseException") = some true)
    (xt7 : PySem.W.typeIn K (.ref C7) = some (.type "type"))
    (xe9 : PySem.W.excIn K C9 [.type "ValueError", .type "Exception", .type "BaseException", .type "object"] "ValueError.__new__" = true)
    (xk9 : PySem.W.keepIn K (.ref C9) = true)
    (xs9 : PySem.W.subIn K (.ref C9) (.type "BaseException") = some true)
    (xt9 : PySem.W.typeIn K (.ref C9) = some (.type "type"))
    (gc_Workshop : PySem.W.nsIn K mainGlobals "Workshop" = some (some (.ref CC_Workshop)))
    (pg_Workshop : PySem.W.plainGet K CC_Workshop Str.empty = true)
    (hd_Workshop : PySem.W.hasDictIn K CC_Workshop = true)
    (po_Workshop : PySem.W.plainOver K CC_Workshop = true)
    (sa_Workshop : PySem.W.findIn K (.ref CC_Workshop) "__setattr__" = some (some (.builtin "object.__setattr__")))
    (mk_Workshop : PySem.W.makesIn K CC_Workshop = true)
    (kc_Workshop : PySem.W.keepIn K (.ref CC_Workshop) = true)
    (nf_Workshop_ahead : PySem.W.findIn K (.ref CC_Workshop) "ahead" = some none)
    (nf_Workshop_now : PySem.W.findIn K (.ref CC_Workshop) "now" = some none)
    (nf_Workshop_past : PySem.W.findIn K (.ref CC_Workshop) "past" = some none)
    (nf_Workshop_sizes : PySem.W.findIn K (.ref CC_Workshop) "sizes" = some none)
    (xz0 : PySem.W.nsIn K mainGlobals "ValueError" = some none)
    (hic8 : PySem.W.isClsIn K C8 = true)
    (xt8 : PySem.W.typeIn K (.ref C8) = some (.type "type"))
    (hic7 : PySem.W.isClsIn K C7 = true)
    (hic6 : PySem.W.isClsIn K C6 = true)
    (xs8 : PySem.W.subIn K (.ref C8) (.type "BaseException") = some true)
    (q7_hg : PySem.W.findIn K (.ref C7) "__getattribute__" = some (some (.builtin "BaseException.__getattribute__")))
    (q7_hk : PySem.W.findIn K (.ref C7) "__getattr__" = some none)
    (q7_hd : PySem.W.hasDictIn K C7 = true)
    (q7_ha : PySem.W.findIn K (.ref C7) "__class__" = some (some (.builtin "object.__class__")))
    (q7_hn : PySem.W.specialIn K (.builtin "object.__class__") "__get__" = some (some (.builtin "getset_descriptor.__get__")))
    (q7_ht : PySem.W.takesIn K (.builtin "object.__class__") = some true)
    (q7_hm : PySem.W.mroIn K C7 (.type "object") = some true)
    (hsb8_7 : PySem.W.subIn K (.ref C7) (.ref C8) = some true)
    (hsb6_7 : PySem.W.subIn K (.ref C7) (.ref C6) = some false)
    (hne7_6 : (Value.ref C7 == Value.ref C6) = false)
    (hsb7_7 : PySem.W.subIn K (.ref C7) (.ref C7) = some true)
    (q6_hg : PySem.W.findIn K (.ref C6) "__getattribute__" = some (some (.builtin "BaseException.__getattribute__")))
    (q6_hk : PySem.W.findIn K (.ref C6) "__getattr__" = some none)
    (q6_hd : PySem.W.hasDictIn K C6 = true)
    (q6_ha : PySem.W.findIn K (.ref C6) "__class__" = some (some (.builtin "object.__class__")))
    (q6_hn : PySem.W.specialIn K (.builtin "object.__class__") "__get__" = some (some (.builtin "getset_descriptor.__get__")))
    (q6_ht : PySem.W.takesIn K (.builtin "object.__class__") = some true)
    (q6_hm : PySem.W.mroIn K C6 (.type "object") = some true)
    (hsb8_6 : PySem.W.subIn K (.ref C6) (.ref C8) = some true)
    (hsb7_6 : PySem.W.subIn K (.ref C6) (.ref C7) = some false)
    (hne6_7 : (Value.ref C6 == Value.ref C7) = false)
    (hsb6_6 : PySem.W.subIn K (.ref C6) (.ref C6) = some true)
    (hic9 : PySem.W.isClsIn K C9 = true)
    (q9_hg : PySem.W.findIn K (.ref C9) "__getattribute__" = some (some (.builtin "BaseException.__getattribute__")))
    (q9_hk : PySem.W.findIn K (.ref C9) "__getattr__" = some none)
    (q9_hd : PySem.W.hasDictIn K C9 = true)
    (q9_ha : PySem.W.findIn K (.ref C9) "__class__" = some (some (.builtin "object.__class__")))
    (q9_hn : PySem.W.specialIn K (.builtin "object.__class__") "__get__" = some (some (.builtin "getset_descriptor.__get__")))
    (q9_ht : PySem.W.takesIn K (.builtin "object.__class__") = some true)
    (q9_hm : PySem.W.mroIn K C9 (.type "object") = some true)
    (hsb8_9 : PySem.W.subIn K (.ref C9) (.ref C8) = some true)
    (hsx9_0 : PySem.W.subIn K (.ref C9) (.type "ValueError") = some true)
    (hsb9_9 : PySem.W.subIn K (.ref C9) (.ref C9) = some true)
    (hic5 : PySem.W.isClsIn K C5 = true)
    (q5_hg : PySem.W.findIn K (.ref C5) "__getattribute__" = some (some (.builtin "BaseException.__getattribute__")))
    (q5_hk : PySem.W.findIn K (.ref C5) "__getattr__" = some none)
    (q5_hd : PySem.W.hasDictIn K C5 = true)
    (q5_ha : PySem.W.findIn K (.ref C5) "__class__" = some (some (.builtin "object.__class__")))
    (q5_hn : PySem.W.specialIn K (.builtin "object.__class__") "__get__" = some (some (.builtin "getset_descriptor.__get__")))
    (q5_ht : PySem.W.takesIn K (.builtin "object.__class__") = some true)
    (q5_hm : PySem.W.mroIn K C5 (.type "object") = some true)
    (hsb8_5 : PySem.W.subIn K (.ref C5) (.ref C8) = some true)
    (hsb9_5 : PySem.W.subIn K (.ref C5) (.ref C9) = some false)
    (hne5_9 : (Value.ref C5 == Value.ref C9) = false)
    (hsb5_5 : PySem.W.subIn K (.ref C5) (.ref C5) = some true)
    (q4_hg : PySem.W.findIn K (.ref C4) "__getattribute__" = some (some (.builtin "BaseException.__getattribute__")))
    (q4_hk : PySem.W.findIn K (.ref C4) "__getattr__" = some none)
    (q4_hd : PySem.W.hasDictIn K C4 = true)
    (q4_ha : PySem.W.findIn K (.ref C4) "__class__" = some (some (.builtin "object.__class__")))
    (q4_hn : PySem.W.specialIn K (.builtin "object.__class__") "__get__" = some (some (.builtin "getset_descriptor.__get__")))
    (q4_ht : PySem.W.takesIn K (.builtin "object.__class__") = some true)
    (q4_hm : PySem.W.mroIn K C4 (.type "object") = some true)
    (hsb8_4 : PySem.W.subIn K (.ref C4) (.ref C8) = some true)
    (hsb9_4 : PySem.W.subIn K (.ref C4) (.ref C9) = some false)
    (hne4_9 : (Value.ref C4 == Value.ref C9) = false)
    (hsb5_4 : PySem.W.subIn K (.ref C4) (.ref C5) = some false)
    (hne4_5 : (Value.ref C4 == Value.ref C5) = false)
    (hic0 : PySem.W.isClsIn K C0 = true)
    (q0_hg : PySem.W.findIn K (.ref C0) "__getattribute__" = some (some (.builtin "BaseException.__getattribute__")))
    (q0_hk : PySem.W.findIn K (.ref C0) "__getattr__" = some none)
    (q0_hd : PySem.W.hasDictIn K C0 = true)
    (q0_ha : PySem.W.findIn K (.ref C0) "__class__" = some (some (.builtin "object.__class__")))
    (q0_hn : PySem.W.specialIn K (.builtin "object.__class__") "__get__" = some (some (.builtin "getset_descriptor.__get__")))
    (q0_ht : PySem.W.takesIn K (.builtin "object.__class__") = some true)
    (q0_hm : PySem.W.mroIn K C0 (.type "object") = some true)
    (hsb8_0 : PySem.W.subIn K (.ref C0) (.ref C8) = some true)
    (hsb9_0 : PySem.W.subIn K (.ref C0) (.ref C9) = some false)
    (hne0_9 : (Value.ref C0 == Value.ref C9) = false)
    (hsb0_0 : PySem.W.subIn K (.ref C0) (.ref C0) = some true) :
    ∃ fd : FuncData, (∀ (s : Shared) (v : Value), BindsTo s fd ⟨[v], []⟩ [("_law_script", v)]) ∧ ∀ base : Heap, K.In base → base.Ns mainGlobals mg → FnOk P w K mg base (L2.CX P w) 11 fa fd ["_law_script"] (spLaw K) := by
  have e := hfa.symm.trans (PySem.W.mg_of X G a49)
  cases e
  have T : Txt K mg := ⟨trivial, PySem.W.mg_none_of X G z0, PySem.W.mg_none_of X G z1, PySem.W.mg_none_of X G z2, PySem.W.mg_none_of X G z3, PySem.W.mg_none_of X G z4, PySem.W.mg_none_of X G z5, PySem.W.mg_none_of X G z6, PySem.W.mg_none_of X G z7, PySem.W.mg_none_of X G z8, PySem.W.mg_none_of X G z9, PySem.W.mg_none_of X G z10, ⟨_, PySem.W.mg_of X G y0⟩, ⟨_, PySem.W.mg_of X G y1⟩, ⟨_, PySem.W.mg_of X G y2⟩, ⟨_, PySem.W.mg_of X G y3⟩, ⟨_, PySem.W.mg_of X G y4⟩, ⟨_, PySem.W.mg_of X G y5⟩, ⟨C0, PySem.W.mg_of X G hgc0, xe0, xk0, xs0, xt0⟩, ⟨C1, PySem.W.mg_of X G hgc1, xe1, xk1, xs1, xt1⟩, ⟨C2, PySem.W.mg_of X G hgc2, xe2, xk2, xs2, xt2⟩, ⟨C3, PySem.W.mg_of X G hgc3, xe3, xk3, xs3, xt3⟩, ⟨C4, PySem.W.mg_of X G hgc4, xe4, xk4, xs4, xt4⟩, ⟨C5, PySem.W.mg_of X G hgc5, xe5, xk5, xs5, xt5⟩, ⟨C6, PySem.W.mg_of X G hgc6, xe6, xk6, xs6, xt6⟩, ⟨C7, PySem.W.mg_of X G hgc7, xe7, xk7, xs7, xt7⟩, ⟨C9, PySem.W.mg_of X G hgc9, xe9, xk9, xs9, xt9⟩, ⟨CC_Workshop, gc_Workshop, ⟨pg_Workshop, hd_Workshop, po_Workshop, sa_Workshop⟩⟩, noF_mk gc_Workshop nf_Workshop_ahead, noF_mk gc_Workshop nf_Workshop_now, noF_mk gc_Workshop nf_Workshop_past, noF_mk gc_Workshop nf_Workshop_sizes, ⟨⟨.ref C8, PySem.W.mg_of X G hgc8, (knes_cons (P := fun c tb => KnE K mg (.ref C8) c tb) ⟨⟨C7, PySem.W.mg_of X G hgc7, excC_mk q7_hg q7_hk xs7 q7_hd q7_ha q7_hn q7_ht q7_hm, exm_mk xs8 hic8 xt8 hsb8_7, (kne_cons (P := fun x b => ∃ v, NmCls mg x v ∧ PySem.W.kitOne K (.ref C7) v = some b) ⟨_, .own (PySem.W.mg_of X G hgc7), kit_own hic7 xt7 hsb7_7 (.inl rfl)⟩ (kne_cons (P := fun x b => ∃ v, NmCls mg x v ∧ PySem.W.kitOne K (.ref C7) v = some b) ⟨_, .own (PySem.W.mg_of X G hgc6), kit_own hic6 xt6 hsb6_7 (.inr hne7_6)⟩ kne_nil))⟩⟩ knes_nil)⟩⟩, ⟨⟨.ref C8, PySem.W.mg_of X G hgc8, (knes_cons (P := fun c tb => KnE K mg (.ref C8) c tb) ⟨⟨C6, PySem.W.mg_of X G hgc6, excC_mk q6_hg q6_hk xs6 q6_hd q6_ha q6_hn q6_ht q6_hm, exm_mk xs8 hic8 xt8 hsb8_6, (kne_cons (P := fun x b => ∃ v, NmCls mg x v ∧ PySem.W.kitOne K (.ref C6) v = some b) ⟨_, .own (PySem.W.mg_of X G hgc6), kit_own hic6 xt6 hsb6_6 (.inl rfl)⟩ (kne_cons (P := fun x b => ∃ v, NmCls mg x v ∧ PySem.W.kitOne K (.ref C6) v = some b) ⟨_, .own (PySem.W.mg_of X G hgc7), kit_own hic7 xt7 hsb7_6 (.inr hne6_7)⟩ kne_nil))⟩⟩ knes_nil)⟩⟩, ⟨⟨.ref C8, PySem.W.mg_of X G hgc8, (knes_cons (P := fun c tb => KnE K mg (.ref C8) c tb) ⟨⟨C9, PySem.W.mg_of X G hgc9, excC_mk q9_hg q9_hk xs9 q9_hd q9_ha q9_hn q9_ht q9_hm, exm_mk xs8 hic8 xt8 hsb8_9, (kne_cons (P := fun x b => ∃ v, NmCls mg x v ∧ PySem.W.kitOne K (.ref C9) v = some b) ⟨_, .own (PySem.W.mg_of X G hgc9), kit_own hic9 xt9 hsb9_9 (.inl rfl)⟩ (kne_cons (P := fun x b => ∃ v, NmCls mg x v ∧ PySem.W.kitOne K (.ref C9) v = some b) ⟨_, .bi (PySem.W.mg_none_of X G xz0) (by decide +kernel) (by decide), kit_bi (by decide +kernel) hsx9_0⟩ kne_nil))⟩⟩ knes_nil)⟩⟩, ⟨⟨.ref C8, PySem.W.mg_of X G hgc8, (knes_cons (P := fun c tb => KnE K mg (.ref C8) c tb) ⟨⟨C4, PySem.W.mg_of X G hgc4, excC_mk q4_hg q4_hk xs4 q4_hd q4_ha q4_hn q4_ht q4_hm, exm_mk xs8 hic8 xt8 hsb8_4, (kne_cons (P := fun x b => ∃ v, NmCls mg x v ∧ PySem.W.kitOne K (.ref C4) v = some b) ⟨_, .own (PySem.W.mg_of X G hgc5), kit_own hic5 xt5 hsb5_4 (.inr hne4_5)⟩ (kne_cons (P := fun x b => ∃ v, NmCls mg x v ∧ PySem.W.kitOne K (.ref C4) v = some b) ⟨_, .own (PySem.W.mg_of X G hgc9), kit_own hic9 xt9 hsb9_4 (.inr hne4_9)⟩ kne_nil))⟩⟩ (knes_cons (P := fun c tb => KnE K mg (.ref C8) c tb) ⟨⟨C5, PySem.W.mg_of X G hgc5, excC_mk q5_hg q5_hk xs5 q5_hd q5_ha q5_hn q5_ht q5_hm, exm_mk xs8 hic8 xt8 hsb8_5, (kne_cons (P := fun x b => ∃ v, NmCls mg x v ∧ PySem.W.kitOne K (.ref C5) v = some b) ⟨_, .own (PySem.W.mg_of X G hgc5), kit_own hic5 xt5 hsb5_5 (.inl rfl)⟩ (kne_cons (P := fun x b => ∃ v, NmCls mg x v ∧ PySem.W.kitOne K (.ref C5) v = some b) ⟨_, .own (PySem.W.mg_of X G hgc9), kit_own hic9 xt9 hsb9_5 (.inr hne5_9)⟩ kne_nil))⟩⟩ knes_nil))⟩⟩, ⟨⟨.ref C8, PySem.W.mg_of X G hgc8, (knes_cons (P := fun c tb => KnE K mg (.ref C8) c tb) ⟨⟨C0, PySem.W.mg_of X G hgc0, excC_mk q0_hg q0_hk xs0 q0_hd q0_ha q0_hn q0_ht q0_hm, exm_mk xs8 hic8 xt8 hsb8_0, (kne_cons (P := fun x b => ∃ v, NmCls mg x v ∧ PySem.W.kitOne K (.ref C0) v = some b) ⟨_, .own (PySem.W.mg_of X G hgc0), kit_own hic0 xt0 hsb0_0 (.inl rfl)⟩ (kne_cons (P := fun x b => ∃ v, NmCls mg x v ∧ PySem.W.kitOne K (.ref C0) v = some b) ⟨_, .own (PySem.W.mg_of X G hgc9), kit_own hic9 xt9 hsb9_0 (.inr hne0_9)⟩ kne_nil))⟩⟩ knes_nil)⟩⟩⟩
  have F0 := fun_mk (st := s_wall) l0 c0 k0
  have b0 := F0.binds (ps := ["k"]) fun _ _ _ _ _ _ us hl => match us, hl with | [_], _ => rfl
  have F1 := fun_mk (st := s_checked_block) l1 c1 k1
  have b1 := F1.binds (ps := ["sizes"]) fun _ _ _ _ _ _ us hl => match us, hl with | [_], _ => rfl
  have F2 := fun_mk (st := s_measure_of) l2 c2 k2
  have b2 := F2.binds (ps := ["one", "other"]) fun _ _ _ _ _ _ us hl => match us, hl with | [_, _], _ => rfl
  have F3 := fun_mk (st := s_checked_direction) l3 c3 k3
  have b3 := F3.binds (ps := ["way"]) fun _ _ _ _ _ _ us hl => match us, hl with | [_], _ => rfl
  have F4 := fun_mk (st := s_places_of) l4 c4 k4
  have b4 := F4.binds (ps := ["sizes"]) fun _ _ _ _ _ _ us hl => match us, hl with | [_], _ => rfl
  have F5 := fun_mk (st := s_inside) l5 c5 k5
  have b5 := F5.binds (ps := ["sizes", "place"]) fun _ _ _ _ _ _ us hl => match us, hl with | [_, _], _ => rfl
  have F6 := fun_mk (st := s_stepped) l6 c6 k6
  have b6 := F6.binds (ps := ["place", "way", "many"]) fun _ _ _ _ _ _ us hl => match us, hl with | [_, _, _], _ => rfl
  have F7 := fun_mk (st := s_door_of) l7 c7 k7
  have b7 := F7.binds (ps := ["sizes", "way", "place"]) fun _ _ _ _ _ _ us hl => match us, hl with | [_, _, _], _ => rfl
  have F8 := fun_mk (st := s_doors_of) l8 c8 k8
  have b8 := F8.binds (ps := ["sizes", "way"]) fun _ _ _ _ _ _ us hl => match us, hl with | [_, _], _ => rfl
  have F9 := fun_mk (st := s_marks_of) l9 c9 k9
  have b9 := F9.binds (ps := ["stone"]) fun _ _ _ _ _ _ us hl => match us, hl with | [_], _ => rfl
  have F10 := fun_mk (st := s_seen_from) l10 c10 k10
  have b10 := F10.binds (ps := ["sizes", "way", "stone"]) fun _ _ _ _ _ _ us hl => match us, hl with | [_, _, _], _ => rfl
  have F11 := fun_mk (st := s_lacking) l11 c11 k11
  have b11 := F11.binds (ps := ["one", "other"]) fun _ _ _ _ _ _ us hl => match us, hl with | [_, _], _ => rfl
  have F12 := fun_mk (st := s_is_sign) l12 c12 k12
  have b12 := F12.binds (ps := ["sign"]) fun _ _ _ _ _ _ us hl => match us, hl with | [_], _ => rfl
  have F13 := fun_mk (st := s_checked_picture) l13 c13 k13
  have b13 := F13.binds (ps := ["sizes", "way", "picture"]) fun _ _ _ _ _ _ us hl => match us, hl with | [_, _, _], _ => rfl
  have F14 := fun_mk (st := s_signs_by_door) l14 c14 k14
  have b14 := F14.binds (ps := ["sizes", "way", "picture"]) fun _ _ _ _ _ _ us hl => match us, hl with | [_, _, _], _ => rfl
  have F15 := fun_mk (st := s_view_of) l15 c15 k15
  have b15 := F15.binds (ps := ["sizes", "look", "stone"]) fun _ _ _ _ _ _ us hl => match us, hl with | [_, _, _], _ => rfl
  have F16 := fun_mk (st := s_views_of) l16 c16 k16
  have b16 := F16.binds (ps := ["sizes", "looks", "stone"]) fun _ _ _ _ _ _ us hl => match us, hl with | [_, _, _], _ => rfl
  have F17 := fun_mk (st := s_bar_in) l17 c17 k17
  have b17 := F17.binds (ps := ["views", "place"]) fun _ _ _ _ _ _ us hl => match us, hl with | [_, _], _ => rfl
  have F18 := fun_mk (st := s_barred) l18 c18 k18
  have b18 := F18.binds (ps := ["sizes", "looks", "stone"]) fun _ _ _ _ _ _ us hl => match us, hl with | [_, _, _], _ => rfl
  have F19 := fun_mk (st := s_picked) l19 c19 k19
  have b19 := F19.binds (ps := ["picks", "turn", "many"]) fun _ _ _ _ _ _ us hl => match us, hl with | [_, _, _], _ => rfl
  have F20 := fun_mk (st := s_carve) l20 c20 k20
  have b20 := F20.binds (ps := ["sizes", "looks", "stone", "picks"]) fun _ _ _ _ _ _ us hl => match us, hl with | [_, _, _, _], _ => rfl
  have F21 := fun_mk (st := s_checked_name) l21 c21 k21
  have b21 := F21.binds (ps := ["name"]) fun _ _ _ _ _ _ us hl => match us, hl with | [_], _ => rfl
  have F22 := fun_mk (st := s_hiding) l22 c22 k22
  have b22 := F22.binds (ps := ["sizes", "way", "marks", "place"]) fun _ _ _ _ _ _ us hl => match us, hl with | [_, _, _, _], _ => rfl
  have F23 := fun_mk (st := s_because) l23 c23 k23
  have b23 := F23.binds (ps := ["sizes", "looks", "stone", "paper", "place"]) fun _ _ _ _ _ _ us hl => match us, hl with | [_, _, _, _, _], _ => rfl
  have F24 := fun_mk (st := s_L_alike) l24 c24 k24
  have b24 := F24.binds (ps := ["_law_found", "_law_due"]) fun _ _ _ _ _ _ us hl => match us, hl with | [_, _], _ => rfl
  have F25 := fun_mk (st := s_L_digits) l25 c25 k25
  have b25 := F25.binds (ps := ["_law_script", "_law_k", "_law_base", "_law_many"]) fun _ _ _ _ _ _ us hl => match us, hl with | [_, _, _, _], _ => rfl
  have F26 := fun_mk (st := s_L_one) l26 c26 k26
  have b26 := F26.binds (ps := ["_law_script", "_law_k", "_law_base"]) fun _ _ _ _ _ _ us hl => match us, hl with | [_, _, _], _ => rfl
  have F27 := fun_mk (st := s_L_all) l27 c27 k27
  have b27 := F27.binds (ps := ["_law_sizes"]) fun _ _ _ _ _ _ us hl => match us, hl with | [_], _ => rfl
  have F28 := fun_mk (st := s_L_letter) l28 c28 k28
  have b28 := F28.binds (ps := ["_law_number"]) fun _ _ _ _ _ _ us hl => match us, hl with | [_], _ => rfl
  have F29 := fun_mk (st := s_L_name) l29 c29 k29
  have b29 := F29.binds (ps := ["_law_number"]) fun _ _ _ _ _ _ us hl => match us, hl with | [_], _ => rfl
  have F30 := fun_mk (st := s_Workshop_looks) l30 c30 k30
  have b30 := F30.binds (ps := ["self"]) fun _ _ _ _ _ _ us hl => match us, hl with | [_], _ => rfl
  have F31 := fun_mk (st := s_Workshop_end) l31 c31 k31
  have b31 := F31.binds (ps := ["self"]) fun _ _ _ _ _ _ us hl => match us, hl with | [_], _ => rfl
  have F32 := fun_mk (st := s_Workshop_gone) l32 c32 k32
  have b32 := F32.binds (ps := ["self"]) fun _ _ _ _ _ _ us hl => match us, hl with | [_], _ => rfl
  have F33 := fun_mk (st := s_Workshop_loose) l33 c33 k33
  have b33 := F33.binds (ps := ["self"]) fun _ _ _ _ _ _ us hl => match us, hl with | [_], _ => rfl
  have F34 := fun_mk (st := s_Workshop_names) l34 c34 k34
  have b34 := F34.binds (ps := ["self"]) fun _ _ _ _ _ _ us hl => match us, hl with | [_], _ => rfl
  have F35 := fun_mk (st := s_Workshop_paper) l35 c35 k35
  have b35 := F35.binds (ps := ["self"]) fun _ _ _ _ _ _ us hl => match us, hl with | [_], _ => rfl
  have F36 := fun_mk (st := s_Workshop_quarrel) l36 c36 k36
  have b36 := F36.binds (ps := ["self"]) fun _ _ _ _ _ _ us hl => match us, hl with | [_], _ => rfl
  have F37 := fun_mk (st := s_Workshop_standing) l37 c37 k37
  have b37 := F37.binds (ps := ["self"]) fun _ _ _ _ _ _ us hl => match us, hl with | [_], _ => rfl
  have F38 := fun_mk (st := s_Workshop_sure) l38 c38 k38
  have b38 := F38.binds (ps := ["self"]) fun _ _ _ _ _ _ us hl => match us, hl with | [_], _ => rfl
  have F39 := fun_mk (st := s_L_answers) l39 c39 k39
  have b39 := F39.binds (ps := ["_law_shop"]) fun _ _ _ _ _ _ us hl => match us, hl with | [_], _ => rfl
  have F40 := fun_mk (st := s_Workshop_again) l40 c40 k40
  have b40 := F40.binds (ps := ["self"]) fun _ _ _ _ _ _ us hl => match us, hl with | [_], _ => rfl
  have F41 := fun_mk (st := s_Workshop_back) l41 c41 k41
  have b41 := F41.binds (ps := ["self"]) fun _ _ _ _ _ _ us hl => match us, hl with | [_], _ => rfl
  have F42 := fun_mk (st := s_Workshop_number_of) l42 c42 k42
  have b42 := F42.binds (ps := ["self", "name"]) fun _ _ _ _ _ _ us hl => match us, hl with | [_, _], _ => rfl
  have F43 := fun_mk (st := s_Workshop_look) l43 c43 k43
  have b43 := F43.binds (ps := ["self", "name"]) fun _ _ _ _ _ _ us hl => match us, hl with | [_, _], _ => rfl
  have F44 := fun_mk (st := s_Workshop_placed) l44 c44 k44
  have b44 := F44.binds (ps := ["self", "place"]) fun _ _ _ _ _ _ us hl => match us, hl with | [_, _], _ => rfl
  have F45 := fun_mk (st := s_Workshop_why) l45 c45 k45
  have b45 := F45.binds (ps := ["self", "place"]) fun _ _ _ _ _ _ us hl => match us, hl with | [_, _], _ => rfl
  have F46 := fun_mk (st := s_L_refusals) l46 c46 k46
  have b46 := F46.binds (ps := ["_law_shop", "_law_place", "_law_name_here"]) fun _ _ _ _ _ _ us hl => match us, hl with | [_, _, _], _ => rfl
  have F47 := fun_mk (st := s_Workshop___init__) l47 c47 k47
  have b47 := F47.binds (ps := ["self", "sizes"]) fun _ _ _ _ _ _ us hl => match us, hl with | [_, _], _ => rfl
  have F48 := fun_mk (st := s_Workshop_block) l48 c48 k48
  have b48 := F48.binds (ps := ["self"]) fun _ _ _ _ _ _ us hl => match us, hl with | [_], _ => rfl
  have F49 := fun_mk (st := s_law) l49 c49 k49
  refine ⟨PySem.W.fnOf "law" "law" (defArgs s_law) (defBody s_law) (defScope s_law) .none kV49 dc49 pm49 an49 cd49 ct49, fun s v => .of_eq rfl, fun base hK hN => ?_⟩
  have k_wall : Cal P w K mg base 1 "_wall" q_wall := ok_wall T F0 (PySem.W.mg_of X G a0) b0 
  have k_checked_block : Cal P w K mg base 1 "checked_block" q_checked_block := ok_checked_block T F1 (PySem.W.mg_of X G a1) b1 
  have k_measure_of : Cal P w K mg base 1 "measure_of" q_measure_of := ok_measure_of T F2 (PySem.W.mg_of X G a2) b2 
  have k_checked_direction : Cal P w K mg base 2 "checked_direction" q_checked_direction := ok_checked_direction T F3 (PySem.W.mg_of X G a3) b3 k_measure_of
  have k_places_of : Cal P w K mg base 1 "places_of" q_places_of := ok_places_of T F4 (PySem.W.mg_of X G a4) b4 
  have k_inside : Cal P w K mg base 1 "inside" q_inside := ok_inside T F5 (PySem.W.mg_of X G a5) b5 
  have k_stepped : Cal P w K mg base 1 "stepped" q_stepped := ok_stepped T F6 (PySem.W.mg_of X G a6) b6 
  have k_door_of : Cal P w K mg base 2 "door_of" q_door_of := ok_door_of T F7 (PySem.W.mg_of X G a7) b7 k_inside k_stepped
  have k_doors_of : Cal P w K mg base 2 "doors_of" q_doors_of := ok_doors_of T F8 (PySem.W.mg_of X G a8) b8 k_inside k_places_of k_stepped
  have k_marks_of : Cal P w K mg base 1 "marks_of" q_marks_of := ok_marks_of T F9 (PySem.W.mg_of X G a9) b9 
  have k_seen_from : Cal P w K mg base 2 "seen_from" q_seen_from := ok_seen_from T F10 (PySem.W.mg_of X G a10) b10 k_inside k_marks_of k_stepped
  have k_lacking : Cal P w K mg base 2 "lacking" q_lacking := ok_lacking T F11 (PySem.W.mg_of X G a11) b11 k_marks_of
  have k_is_sign : Cal P w K mg base 1 "is_sign" q_is_sign := ok_is_sign T F12 (PySem.W.mg_of X G a12) b12 
  have k_checked_picture : Cal P w K mg base 3 "checked_picture" q_checked_picture := ok_checked_picture T F13 (PySem.W.mg_of X G a13) b13 k_doors_of k_is_sign
  have k_signs_by_door : Cal P w K mg base 3 "signs_by_door" q_signs_by_door := ok_signs_by_door T F14 (PySem.W.mg_of X G a14) b14 k_doors_of
  have k_view_of : Cal P w K mg base 4 "view_of" q_view_of := ok_view_of T F15 (PySem.W.mg_of X G a15) b15 k_door_of k_seen_from k_signs_by_door
  have k_views_of : Cal P w K mg base 5 "views_of" q_views_of := ok_views_of T F16 (PySem.W.mg_of X G a16) b16 k_view_of
  have k_bar_in : Cal P w K mg base 1 "bar_in" q_bar_in := ok_bar_in T F17 (PySem.W.mg_of X G a17) b17 
  have k_barred : Cal P w K mg base 6 "barred" q_barred := ok_barred T F18 (PySem.W.mg_of X G a18) b18 k_bar_in k_views_of
  have k_picked : Cal P w K mg base 1 "picked" q_picked := ok_picked T F19 (PySem.W.mg_of X G a19) b19 
  have k_carve : Cal P w K mg base 7 "carve" q_carve := ok_carve T F20 (PySem.W.mg_of X G a20) b20 k_barred k_picked
  have k_checked_name : Cal P w K mg base 1 "checked_name" q_checked_name := ok_checked_name T F21 (PySem.W.mg_of X G a21) b21 
  have k_hiding : Cal P w K mg base 2 "hiding" q_hiding := ok_hiding T F22 (PySem.W.mg_of X G a22) b22 k_inside k_stepped
  have k_because : Cal P w K mg base 3 "because" q_because := ok_because T F23 (PySem.W.mg_of X G a23) b23 k_hiding k_marks_of
  have k_L_alike : Cal P w K mg base 6 "_law_alike" (q_L_alike 6) := ok_L_alike T F24 (PySem.W.mg_of X G a24) b24  6
  have k_L_digits : Cal P w K mg base 1 "_law_digits" q_L_digits := ok_L_digits T F25 (PySem.W.mg_of X G a25) b25 
  have k_L_one : Cal P w K mg base 2 "_law_one" q_L_one := ok_L_one T F26 (PySem.W.mg_of X G a26) b26 k_L_digits
  have k_L_all : Cal P w K mg base 1 "_law_all" q_L_all := ok_L_all T F27 (PySem.W.mg_of X G a27) b27 
  have k_L_letter : Cal P w K mg base 1 "_law_letter" q_L_letter := ok_L_letter T F28 (PySem.W.mg_of X G a28) b28 
  have k_L_name : Cal P w K mg base 2 "_law_name" q_L_name := ok_L_name T F29 (PySem.W.mg_of X G a29) b29 k_L_letter
  have k_Workshop_looks : CalM P w K mg base 1 "Workshop" "looks" q_Workshop_looks := ok_Workshop_looks T F30 gc_Workshop ⟨pg_Workshop, hd_Workshop, po_Workshop, sa_Workshop⟩ ⟨a30, i30, k30⟩ b30 
  have k_Workshop_end : CalM P w K mg base 8 "Workshop" "end" q_Workshop_end := ok_Workshop_end T F31 gc_Workshop ⟨pg_Workshop, hd_Workshop, po_Workshop, sa_Workshop⟩ ⟨a31, i31, k31⟩ b31 k_Workshop_looks k_carve
  have k_Workshop_gone : CalM P w K mg base 1 "Workshop" "gone" q_Workshop_gone := ok_Workshop_gone T F32 gc_Workshop ⟨pg_Workshop, hd_Workshop, po_Workshop, sa_Workshop⟩ ⟨a32, i32, k32⟩ b32 
  have k_Workshop_loose : CalM P w K mg base 7 "Workshop" "loose" q_Workshop_loose := ok_Workshop_loose T F33 gc_Workshop ⟨pg_Workshop, hd_Workshop, po_Workshop, sa_Workshop⟩ ⟨a33, i33, k33⟩ b33 k_Workshop_looks k_barred
  have k_Workshop_names : CalM P w K mg base 1 "Workshop" "names" q_Workshop_names := ok_Workshop_names T F34 gc_Workshop ⟨pg_Workshop, hd_Workshop, po_Workshop, sa_Workshop⟩ ⟨a34, i34, k34⟩ b34 
  have k_Workshop_paper : CalM P w K mg base 1 "Workshop" "paper" q_Workshop_paper := ok_Workshop_paper T F35 gc_Workshop ⟨pg_Workshop, hd_Workshop, po_Workshop, sa_Workshop⟩ ⟨a35, i35, k35⟩ b35 
  have k_Workshop_quarrel : CalM P w K mg base 9 "Workshop" "quarrel" q_Workshop_quarrel := ok_Workshop_quarrel T F36 gc_Workshop ⟨pg_Workshop, hd_Workshop, po_Workshop, sa_Workshop⟩ ⟨a36, i36, k36⟩ b36 k_Workshop_end k_lacking
  have k_Workshop_standing : CalM P w K mg base 1 "Workshop" "standing" q_Workshop_standing := ok_Workshop_standing T F37 gc_Workshop ⟨pg_Workshop, hd_Workshop, po_Workshop, sa_Workshop⟩ ⟨a37, i37, k37⟩ b37 
  have k_Workshop_sure : CalM P w K mg base 1 "Workshop" "sure" q_Workshop_sure := ok_Workshop_sure T F38 gc_Workshop ⟨pg_Workshop, hd_Workshop, po_Workshop, sa_Workshop⟩ ⟨a38, i38, k38⟩ b38 
  have k_L_answers : Cal P w K mg base 10 "_law_answers" q_L_answers := ok_L_answers T F39 (PySem.W.mg_of X G a39) b39 k_Workshop_end k_Workshop_gone k_Workshop_looks k_Workshop_loose k_Workshop_names k_Workshop_paper k_Workshop_quarrel k_Workshop_standing k_Workshop_sure
  have k_Workshop_again : CalMO P w K mg base 1 "Workshop" "again" q_Workshop_again := ok_Workshop_again T F40 gc_Workshop ⟨pg_Workshop, hd_Workshop, po_Workshop, sa_Workshop⟩ ⟨a40, i40, k40⟩ b40 
  have k_Workshop_back : CalMO P w K mg base 1 "Workshop" "back" q_Workshop_back := ok_Workshop_back T F41 gc_Workshop ⟨pg_Workshop, hd_Workshop, po_Workshop, sa_Workshop⟩ ⟨a41, i41, k41⟩ b41 
  have k_Workshop_number_of : CalM P w K mg base 1 "Workshop" "number_of" q_Workshop_number_of := ok_Workshop_number_of T F42 gc_Workshop ⟨pg_Workshop, hd_Workshop, po_Workshop, sa_Workshop⟩ ⟨a42, i42, k42⟩ b42 
  have k_Workshop_look : CalM P w K mg base 2 "Workshop" "look" q_Workshop_look := ok_Workshop_look T F43 gc_Workshop ⟨pg_Workshop, hd_Workshop, po_Workshop, sa_Workshop⟩ ⟨a43, i43, k43⟩ b43 k_Workshop_number_of
  have k_Workshop_placed : CalM P w K mg base 2 "Workshop" "placed" q_Workshop_placed := ok_Workshop_placed T F44 gc_Workshop ⟨pg_Workshop, hd_Workshop, po_Workshop, sa_Workshop⟩ ⟨a44, i44, k44⟩ b44 k_inside
  have k_Workshop_why : CalM P w K mg base 8 "Workshop" "why" q_Workshop_why := ok_Workshop_why T F45 gc_Workshop ⟨pg_Workshop, hd_Workshop, po_Workshop, sa_Workshop⟩ ⟨a45, i45, k45⟩ b45 k_Workshop_looks k_Workshop_placed k_because k_carve k_lacking k_places_of
  have k_L_refusals : CalO P w K mg base 9 "_law_refusals" q_L_refusals := ok_L_refusals T F46 (PySem.W.mg_of X G a46) b46 k_Workshop_again k_Workshop_back k_Workshop_look k_Workshop_why
  have k_Workshop___init__ : CalMk P w K mg base 2 "Workshop" q_Workshop___init__ := ok_Workshop___init__ T F47 gc_Workshop (PySem.W.mg_of X G gc_Workshop) ⟨mk_Workshop, a47, i47, kc_Workshop⟩ b47 k_checked_block k_places_of
  have k_Workshop_block : CalM P w K mg base 1 "Workshop" "block" q_Workshop_block := ok_Workshop_block T F48 gc_Workshop ⟨pg_Workshop, hd_Workshop, po_Workshop, sa_Workshop⟩ ⟨a48, i48, k48⟩ b48 
  exact law_imp (okf_law (P := P) (w := w) (base := base) T F49 k_Workshop___init__ k_Workshop_block k_L_alike k_L_all k_L_answers k_L_digits k_L_name k_L_one k_L_refusals) math
end Q
set_option Elab.async false
set_option linter.all false
set_option maxRecDepth 100000
namespace Q
open PySem L2 VL PySem.Spec PyProof.Rows
/-! ### blocks let by -/
def goodB (L : List Int) : Bool := decide (L.length = 3) && !(L.any fun x => decide (x < 1) || decide (6 < x))
theorem q_block_ok (d : D) (L : List Int) (hL : L.length ≤ 1000) (hd : tupleG [d] = .ok (.tup (L.map .int))) : q_checked_block [d] = if goodB L = true then .ok (.tup (L.map .int)) else .ex (.own "BadBlock") := by
  have loop := forR_ex (tg := tgN 2) (b := b_checked_block_1) D.int (fun x => decide (x < 1) || decide (6 < x)) (.own "BadBlock") (fun x => [.sh d, .fr (.tup (L.map .int)), .sh (.int x)]) [.sh d, .fr (.tup (L.map .int)), .no] L (fun x _ => by
    rw [turn_N]
    by_cases h : x < 1
    · simp [b_checked_block_1, h]
    · by_cases h2 : 6 < x <;> simp [b_checked_block_1, h, h2])
  by_cases h3 : L.length = 3
  · have h3' : ((L.length : Int) = 3) := by omega
    have e : goodB L = !(L.any fun x => decide (x < 1) || decide (6 < x)) := by simp [goodB, h3]
    rw [e]
    generalize hp : (fun x : Int => decide (x < 1) || decide (6 < x)) = p at loop ⊢
    cases hf : L.find? p with
    | none =>
      rw [hf] at loop
      have ha : L.any p = false := by
        rw [List.any_eq_false]
        exact fun x hx => by simpa using List.find?_eq_none.mp hf x hx
      simp only at loop
      simp [q_checked_block, runF, d_checked_block, hd, h3', ha, loop, resM]
    | some y =>
      rw [hf] at loop
      have ha : L.any p = true := by
        rw [List.any_eq_true]
        exact ⟨y, List.mem_of_find?_eq_some hf, List.find?_some hf⟩
      simp only at loop
      simp [q_checked_block, runF, d_checked_block, hd, h3', ha, loop, resM]
  · have h3' : ¬ ((L.length : Int) = 3) := by omega
    have e : goodB L = false := by simp [goodB, h3]
    rw [e]
    simp [q_checked_block, runF, d_checked_block, hd, h3', resM]

/-! ### places -/
theorem q_places (s : P3) (h : Sz 100 s) : q_places_of [e3 s] = .ok (.lst ((places s).map e3)) := by
  obtain ⟨a, b, c⟩ := s
  obtain ⟨ha, hb, hc⟩ := h
  simp only at ha hb hc
  have t1 (x y : Int) (acc : List D) (z : Int) (hl : acc.length < 1000001) : turn (tgN 4) b_places_of_1 (.int z) [.sh (e3 (a, b, c)), .ow (.lst acc), .sh (.int x), .sh (.int y), .no] = .nx [.sh (e3 (a, b, c)), .ow (.lst (acc ++ [e3 (x, y, z)])), .sh (.int x), .sh (.int y), .no] := by
    simp [b_places_of_1, sizeLine_eq, show acc.length < 16777216 by omega, e3]
  have l1 (x y : Int) : ((rng c).flatMap fun z => [e3 (x, y, z)]).length = c.toNat := by rw [flatMap_len _ 1 _ fun _ _ => rfl, rng_len]; omega
  have f1 (x y : Int) (acc : List D) (hl : acc.length + c.toNat ≤ 1000000) : forR (tgN 4) b_places_of_1 ((rng c).map .int) [.sh (e3 (a, b, c)), .ow (.lst acc), .sh (.int x), .sh (.int y), .no] = .nx [.sh (e3 (a, b, c)), .ow (.lst (acc ++ (rng c).flatMap fun z => [e3 (x, y, z)])), .sh (.int x), .sh (.int y), .no] :=
    forR_acc .int (fun acc => [.sh (e3 (a, b, c)), .ow (.lst acc), .sh (.int x), .sh (.int y), .no]) _ _ acc 1000000 (by rw [l1]; exact hl) fun acc z _ h => t1 x y acc z (by omega)
  have t2 (x : Int) (acc : List D) (y : Int) (hl : acc.length + c.toNat ≤ 1000000) : turn (tgN 3) b_places_of_2 (.int y) [.sh (e3 (a, b, c)), .ow (.lst acc), .sh (.int x), .no, .no] = .nx [.sh (e3 (a, b, c)), .ow (.lst (acc ++ (rng c).flatMap fun z => [e3 (x, y, z)])), .sh (.int x), .no, .no] := by
    have f := f1 x y acc hl
    simp [b_places_of_2, show idxG (e3 (a, b, c)) (.int 2) = .ok (.int c) by simp [e3], show (-4611686018427387904 : Int) ≤ c by omega, show c < 4611686018427387904 by omega, rngD_0, f]
  have l2 (x : Int) : ((rng b).flatMap fun y => (rng c).flatMap fun z => [e3 (x, y, z)]).length = b.toNat * c.toNat := by rw [flatMap_len _ c.toNat _ fun y _ => l1 x y, rng_len]
  have hbc : b.toNat * c.toNat ≤ 100 * 100 := Nat.mul_le_mul (by omega) (by omega)
  have f2 (x : Int) (acc : List D) (hl : acc.length + b.toNat * c.toNat ≤ 1000000) : forR (tgN 3) b_places_of_2 ((rng b).map .int) [.sh (e3 (a, b, c)), .ow (.lst acc), .sh (.int x), .no, .no] = .nx [.sh (e3 (a, b, c)), .ow (.lst (acc ++ (rng b).flatMap fun y => (rng c).flatMap fun z => [e3 (x, y, z)])), .sh (.int x), .no, .no] :=
    forR_acc .int (fun acc => [.sh (e3 (a, b, c)), .ow (.lst acc), .sh (.int x), .no, .no]) _ _ acc 1000000 (by rw [l2]; exact hl) fun acc y _ h => t2 x acc y (by rw [l1] at h; exact h)
  have t3 (acc : List D) (x : Int) (hl : acc.length + b.toNat * c.toNat ≤ 1000000) : turn (tgN 2) b_places_of_3 (.int x) [.sh (e3 (a, b, c)), .ow (.lst acc), .no, .no, .no] = .nx [.sh (e3 (a, b, c)), .ow (.lst (acc ++ (rng b).flatMap fun y => (rng c).flatMap fun z => [e3 (x, y, z)])), .no, .no, .no] := by
    have f := f2 x acc hl
    simp [b_places_of_3, show idxG (e3 (a, b, c)) (.int 1) = .ok (.int b) by simp [e3], show (-4611686018427387904 : Int) ≤ b by omega, show b < 4611686018427387904 by omega, rngD_0, f]
  have l3 : ((rng a).flatMap fun x => (rng b).flatMap fun y => (rng c).flatMap fun z => [e3 (x, y, z)]).length = a.toNat * (b.toNat * c.toNat) := by rw [flatMap_len _ (b.toNat * c.toNat) _ fun x _ => l2 x, rng_len]
  have habc : a.toNat * (b.toNat * c.toNat) ≤ 100 * (100 * 100) := Nat.mul_le_mul (by omega) hbc
  have f3 : forR (tgN 2) b_places_of_3 ((rng a).map .int) [.sh (e3 (a, b, c)), .ow (.lst []), .no, .no, .no] = .nx [.sh (e3 (a, b, c)), .ow (.lst ([] ++ (rng a).flatMap fun x => (rng b).flatMap fun y => (rng c).flatMap fun z => [e3 (x, y, z)])), .no, .no, .no] :=
    forR_acc .int (fun acc => [.sh (e3 (a, b, c)), .ow (.lst acc), .no, .no, .no]) _ _ [] 1000000 (by rw [l3]; simp only [List.length_nil]; omega) fun acc x _ h => t3 acc x (by rw [l2] at h; exact h)
  rw [List.nil_append] at f3
  have e : ((rng a).flatMap fun x => (rng b).flatMap fun y => (rng c).flatMap fun z => [e3 (x, y, z)]) = (places (a, b, c)).map e3 := by
    simp only [places, List.map_flatMap, List.map_map]
    congr 1; funext x; congr 1; funext y
    induction rng c with
    | nil => rfl
    | cons z zs ih => simp [ih]
  rw [e] at f3
  simp [q_places_of, runF, d_places_of, sizeLine_eq, show idxG (e3 (a, b, c)) (.int 0) = .ok (.int a) by simp [e3], show (-4611686018427387904 : Int) ≤ a by omega, show a < 4611686018427387904 by omega, rngD_0, f3, resM]

/-! ### a new workshop -/
/-! ### the number of an eye -/
theorem q_shop_number (p : Addr) (S : Shop) (nm : List Nat) : q_Workshop_number_of [eSh p S, eT nm] = match nmAt S.now.eyes nm with | some i => .ok (.int (i : Nat)) | none => .ex (.own "Unknown") := by
  have loop := forR_find (tg := tgT 2 (tgCons (tgN 2) (tgCons (tgN 3) tgNil))) (b := b_Workshop_number_of_1) (fun z : Ey × Nat => D.tup [.int (z.2 : Nat), eY z.1]) (fun z => decide (z.1.nm = nm)) (fun z => .int (z.2 : Nat)) [.sh (eSh p S), .sh (eT nm), .no, .no] S.now.eyes.zipIdx (fun z _ => by
    have e := eq_eT z.1.nm nm
    by_cases h : z.1.nm = nm
    · simp [b_Workshop_number_of_1, turn, e, h]
    · simp [b_Workshop_number_of_1, turn, e, h])
  have he := enumF_zip eY S.now.eyes 0
  rw [← he] at loop
  unfold nmAt
  cases hf : S.now.eyes.zipIdx.find? fun z => decide (z.1.nm = nm) with
  | none =>
    rw [hf] at loop
    simp -implicitDefEqProofs [q_Workshop_number_of, runF, d_Workshop_number_of, loop, resM]
  | some z =>
    rw [hf] at loop
    simp -implicitDefEqProofs [q_Workshop_number_of, runF, d_Workshop_number_of, loop, resM]

/-! ### inside -/
theorem q_inside_gen (s p : P3) (d : D) (i0 : idxG d (.int 0) = .ok (.int p.1)) (i1 : idxG d (.int 1) = .ok (.int p.2.1)) (i2 : idxG d (.int 2) = .ok (.int p.2.2)) : q_inside [e3 s, d] = .ok (.bl (inB s p)) := by
  have t (i : Int) (a b : Int) (ha : idxG d (.int i) = .ok (.int a)) (hb : idxG (e3 s) (.int i) = .ok (.int b)) : turn (tgN 2) b_inside_1 (.int i) [.sh (e3 s), .sh d, .no] = if (decide (0 ≤ a) && decide (a < b)) = true then .nx [.sh (e3 s), .sh d, .no] else .rt (.bl false) := by
    by_cases h1 : a < 0
    · simp [b_inside_1, ha, hb, h1, show ¬ 0 ≤ a by omega]
    · by_cases h2 : a < b
      · simp [b_inside_1, ha, hb, h1, h2, show 0 ≤ a by omega, show ¬ b ≤ a by omega]
      · simp [b_inside_1, ha, hb, h1, h2, show 0 ≤ a by omega, show b ≤ a by omega]
  have t0 := t 0 p.1 s.1 i0 (idx_e3_0 s)
  have t1 := t 1 p.2.1 s.2.1 i1 (idx_e3_1 s)
  have t2 := t 2 p.2.2 s.2.2 i2 (idx_e3_2 s)
  simp only [q_inside, runF, d_inside, List.length_cons, List.length_nil, if_pos, List.map_cons, List.map_nil, sSeq_ap, sFor_ap, eR1_ap, aCons_ap, eC_ap, aNil_ap, bind_ok]
  rw [if_pos (by decide), show (3 : Int).toNat = 3 from rfl, rngD_03]
  simp only [forR_cons, List.replicate, List.cons_append, List.nil_append]
  rw [t0]
  cases c0 : (decide (0 ≤ p.1) && decide (p.1 < s.1)) with
  | false => simp [inB, c0, resM]
  | true =>
    rw [if_pos rfl, next_nx, forR_cons, t1]
    cases c1 : (decide (0 ≤ p.2.1) && decide (p.2.1 < s.2.1)) with
    | false => simp [inB, c0, c1, resM]
    | true =>
      rw [if_pos rfl, next_nx, forR_cons, t2]
      cases c2 : (decide (0 ≤ p.2.2) && decide (p.2.2 < s.2.2)) with
      | false => simp [inB, c0, c1, c2, resM]
      | true => simp [inB, c0, c1, c2, resM]
theorem q_inside_ok (s p : P3) : q_inside [e3 s, e3 p] = .ok (.bl (inB s p)) := q_inside_gen s p _ (by simp) (by simp) (by simp)

/-! ### the place itself -/
def PlD (d : D) (q : P3) : Prop := idxG d (.int 0) = .ok (.int q.1) ∧ idxG d (.int 1) = .ok (.int q.2.1) ∧ idxG d (.int 2) = .ok (.int q.2.2)
theorem plD_e3 (q : P3) : PlD (e3 q) q := ⟨by simp, by simp, by simp⟩
theorem q_shop_placed (p : Addr) (S : Shop) (d : D) (q : P3) (h : PlD d q) : q_Workshop_placed [eSh p S, d] = if inB S.s q = true then .ok (e3 q) else .ex (.own "NoPlace") := by
  obtain ⟨i0, i1, i2⟩ := h
  have h1 := q_inside_gen S.s q d i0 i1 i2
  cases hb : inB S.s q with
  | true =>
    rw [hb] at h1
    simp -implicitDefEqProofs [q_Workshop_placed, runF, d_Workshop_placed, h1, i0, i1, i2, sizeLine_eq, resM]
    rfl
  | false =>
    rw [hb] at h1
    simp -implicitDefEqProofs [q_Workshop_placed, runF, d_Workshop_placed, h1, resM]

/-! ### back and again -/
theorem lastD_app (l : List D) (d : D) : lastD (l ++ [d]) = some (l, d) := by
  cases h : l ++ [d] with
  | nil => simp at h
  | cons a t =>
    show some ((a :: t).dropLast, (a :: t).getLast (by simp)) = _
    simp only [← h, List.dropLast_concat, List.getLast_concat]
def backA (S : Shop) : Option Shop := match S.past.getLast? with
  | none => none
  | some n => some ⟨S.s, n, S.past.dropLast, S.ahead ++ [S.now]⟩
theorem q_shop_back (p : Addr) (S : Shop) (hb : S.past.length ≤ 100000) (ha : S.ahead.length ≤ 100000) : q_Workshop_back [eSh p S] = match backA S with
    | none => .ex (.own "NothingBack") (eSh p S)
    | some T => .ok .non (eSh p T) := by
  rw [q_Workshop_back, runO_at _ _ _ _ _ _ _ _ (by rfl)]
  rcases List.eq_nil_or_concat S.past with h | ⟨l, n, h⟩
  · have e : backA S = none := by unfold backA; rw [h]; rfl
    rw [e]
    simp -implicitDefEqProofs [d_Workshop_back, h, objOf_obj]
  · rw [List.concat_eq_append] at h
    have e : backA S = some ⟨S.s, n, l, S.ahead ++ [S.now]⟩ := by unfold backA; rw [h]; simp
    rw [e]
    have hl : (S.ahead.map eN).length < sizeLine := by rw [List.length_map, sizeLine_eq]; omega
    have e2 := putDs_a S (S.ahead ++ [S.now])
    rw [List.map_append, List.map_cons, List.map_nil] at e2
    have lk : lookF "past" shopN (shopD { S with ahead := S.ahead ++ [S.now] }) = some (.lst (l.map eN ++ [eN n])) := by
      rw [look_p]
      show some (D.lst (S.past.map eN)) = _
      rw [h, List.map_append]
      rfl
    have e3 := putDs_p { S with ahead := S.ahead ++ [S.now] } l
    have e4 := putDs_n { S with ahead := S.ahead ++ [S.now], past := l } n
    have hla := lastD_app (l.map eN) (eN n)
    have hp : S.past.map eN = l.map eN ++ [eN n] := by rw [h, List.map_append]; rfl
    generalize hq : S.ahead.map eN = as at *
    generalize hpq : l.map eN = ps at *
    simp -implicitDefEqProofs [d_Workshop_back, hp, hq, hl, e2, lk, e3, e4, hla, objOf_obj]

/-! ### again -/
def againA (S : Shop) : Option Shop := match S.ahead.getLast? with
  | none => none
  | some n => some ⟨S.s, n, S.past ++ [S.now], S.ahead.dropLast⟩
theorem q_shop_again (p : Addr) (S : Shop) (hb : S.past.length ≤ 100000) (ha : S.ahead.length ≤ 100000) : q_Workshop_again [eSh p S] = match againA S with
    | none => .ex (.own "NothingAgain") (eSh p S)
    | some T => .ok .non (eSh p T) := by
  rw [q_Workshop_again, runO_at _ _ _ _ _ _ _ _ (by rfl)]
  rcases List.eq_nil_or_concat S.ahead with h | ⟨l, n, h⟩
  · have e : againA S = none := by unfold againA; rw [h]; rfl
    rw [e]
    simp -implicitDefEqProofs [d_Workshop_again, h, objOf_obj]
  · rw [List.concat_eq_append] at h
    have e : againA S = some ⟨S.s, n, S.past ++ [S.now], l⟩ := by unfold againA; rw [h]; simp
    rw [e]
    have hl : (S.past.map eN).length < sizeLine := by rw [List.length_map, sizeLine_eq]; omega
    have e2 := putDs_p S (S.past ++ [S.now])
    rw [List.map_append, List.map_cons, List.map_nil] at e2
    have lk : lookF "ahead" shopN (shopD { S with past := S.past ++ [S.now] }) = some (.lst (l.map eN ++ [eN n])) := by
      rw [look_a]
      show some (D.lst (S.ahead.map eN)) = _
      rw [h, List.map_append]
      rfl
    have e3 := putDs_a { S with past := S.past ++ [S.now] } l
    have e4 := putDs_n { S with past := S.past ++ [S.now], ahead := l } n
    have hla := lastD_app (l.map eN) (eN n)
    have hp : S.ahead.map eN = l.map eN ++ [eN n] := by rw [h, List.map_append]; rfl
    generalize hq : S.past.map eN = as at *
    generalize hpq : l.map eN = ps at *
    simp -implicitDefEqProofs [d_Workshop_again, hp, hq, hl, e2, lk, e3, e4, hla, objOf_obj]

theorem q_shop_block (p : Addr) (S : Shop) : q_Workshop_block [eSh p S] = .ok (e3 S.s) := by
  simp -implicitDefEqProofs [q_Workshop_block, runF, d_Workshop_block, resM]

/-! ### names of the eyes -/
theorem q_shop_names (p : Addr) (S : Shop) (h : S.now.eyes.length ≤ 1000) : q_Workshop_names [eSh p S] = .ok (.lst (S.now.eyes.map fun y => eT y.nm)) := by
  have c := compL_map (tg := tgN 1) (c := cYes) (f := e_Workshop_names_1) eY [.sh (eSh p S), .no] (fun y => eT y.nm) S.now.eyes (fun y _ => by simp [e_Workshop_names_1])
  have hl : S.now.eyes.length ≤ sizeLine := by rw [sizeLine_eq]; omega
  simp -implicitDefEqProofs [q_Workshop_names, runF, d_Workshop_names, c, hl, resM]

/-! ### one look -/
theorem q_shop_look_no (p : Addr) (S : Shop) (nm : List Nat) (h : nmAt S.now.eyes nm = none) : q_Workshop_look [eSh p S, eT nm] = .ex (.own "Unknown") := by
  have h1 := q_shop_number p S nm
  rw [h] at h1
  simp -implicitDefEqProofs [q_Workshop_look, runF, d_Workshop_look, h1, resM]

/-! ### all looks -/
theorem q_shop_looks (p : Addr) (S : Shop) (h : S.now.eyes.length ≤ 1000) : q_Workshop_looks [eSh p S] = .ok (.lst ((S.now.eyes.map Ey.l).map eL)) := by
  have c := compL_map (tg := tgN 1) (c := cYes) (f := e_Workshop_looks_1) eY [.sh (eSh p S), .no] (fun y => eL y.l) S.now.eyes (fun y _ => by simp [e_Workshop_looks_1, sizeLine_eq]; rfl)
  have hl : S.now.eyes.length ≤ sizeLine := by rw [sizeLine_eq]; omega
  have e : (S.now.eyes.map Ey.l).map eL = S.now.eyes.map fun y => eL y.l := by rw [List.map_map]; rfl
  rw [e]
  simp -implicitDefEqProofs [q_Workshop_looks, runF, d_Workshop_looks, c, hl, resM]

theorem q_shop_gone (p : Addr) (S : Shop) (h : S.now.gone.length ≤ 1000) : q_Workshop_gone [eSh p S] = .ok (.lst (S.now.gone.map e3)) := by
  have hl : S.now.gone.length ≤ sizeLine := by rw [sizeLine_eq]; omega
  simp -implicitDefEqProofs [q_Workshop_gone, runF, d_Workshop_gone, listG, hl, resM]

theorem q_shop_sure (p : Addr) (S : Shop) (h : S.now.sure.length ≤ 1000) : q_Workshop_sure [eSh p S] = .ok (.lst (S.now.sure.map e3)) := by
  have hl : S.now.sure.length ≤ sizeLine := by rw [sizeLine_eq]; omega
  simp -implicitDefEqProofs [q_Workshop_sure, runF, d_Workshop_sure, listG, hl, resM]

theorem q_shop_standing (p : Addr) (S : Shop) (h : S.now.stand.length ≤ 1000) : q_Workshop_standing [eSh p S] = .ok (.lst (S.now.stand.map e3)) := by
  have hl : S.now.stand.length ≤ sizeLine := by rw [sizeLine_eq]; omega
  simp -implicitDefEqProofs [q_Workshop_standing, runF, d_Workshop_standing, listG, hl, resM]

theorem q_shop_paper (p : Addr) (S : Shop) (h : S.now.paper.length ≤ 1000) : q_Workshop_paper [eSh p S] = .ok (.lst (S.now.paper.map eR)) := by
  have hl : S.now.paper.length ≤ sizeLine := by rw [sizeLine_eq]; omega
  simp -implicitDefEqProofs [q_Workshop_paper, runF, d_Workshop_paper, listG, hl, resM]

theorem q_bar_in_ok (vs : List Vw) (p : P3) (hv : vs.length ≤ 1000000) : q_bar_in [.lst (vs.map eW), e3 p] = .ok (encB (bar (vs.map (entW p)))) := by
  have key : ∀ (rest : List Vw) (n : Nat) (told : List (Nat × Nat)), told.length + rest.length ≤ 1000000 →
      forR (tgT 2 (tgCons (tgN 3) (tgCons (tgN 4) tgNil))) b_bar_in_1 (enumD n (rest.map eW)) [.sh (.lst (vs.map eW)), .sh (e3 p), .ow (.lst (told.map fun z => .int (z.1 : Nat))), .no, .no] =
        match barL n told (rest.map (entW p)) with
        | .inl m => .rt (.tup [.int (m : Nat), .int (m : Nat)])
        | .inr t => .nx [.sh (.lst (vs.map eW)), .sh (e3 p), .ow (.lst (t.map fun z => .int (z.1 : Nat))), .no, .no] := by
    intro rest
    induction rest with
    | nil => intro n told _; rfl
    | cons v r ih =>
      intro n told hl
      rw [List.length_cons] at hl
      rw [List.map_cons, enumD_cons, forR_cons, List.map_cons, show entW p v = (decide (p ∈ v.ps), v.f p) from rfl, barL]
      have hin := in_eW p v
      have hturn (x : Res) (h : b_bar_in_1 [.sh (.lst (vs.map eW)), .sh (e3 p), .ow (.lst (told.map fun z => .int (z.1 : Nat))), .sh (.int (n : Nat)), .sh (eW v)] = x) : turn (tgT 2 (tgCons (tgN 3) (tgCons (tgN 4) tgNil))) b_bar_in_1 (.tup [.int (n : Nat), eW v]) [.sh (.lst (vs.map eW)), .sh (e3 p), .ow (.lst (told.map fun z => .int (z.1 : Nat))), .no, .no] = x := by
        rw [← h]
        simp only [turn, tgT_ap, tgCons_ap, tgNil_ap, tgN_ap, List.length_cons, List.length_nil, if_pos]
        rfl
      by_cases c : p ∈ v.ps
      · rw [if_pos (decide_eq_true c)]
        have hix := idx_eW p v c
        by_cases c2 : v.f p = 46
        · rw [if_pos c2, hturn (.rt (.tup [.int (n : Nat), .int (n : Nat)])) (by simp -implicitDefEqProofs [b_bar_in_1, hin, c, hix, c2, sizeLine_eq]), next_rt]
        · rw [if_neg c2]
          by_cases c3 : v.f p = 63
          · rw [if_neg (by simpa using c3), hturn (.nx [.sh (.lst (vs.map eW)), .sh (e3 p), .ow (.lst (told.map fun z => .int (z.1 : Nat))), .no, .no]) (by simp -implicitDefEqProofs [b_bar_in_1, hin, c, hix, c3]), next_nx]
            exact ih (n + 1) told (by omega)
          · rw [if_pos c3, hturn (.nx [.sh (.lst (vs.map eW)), .sh (e3 p), .ow (.lst ((told ++ [(n, v.f p)]).map fun z => .int (z.1 : Nat))), .no, .no]) (by simp -implicitDefEqProofs [b_bar_in_1, hin, c, hix, c2, c3, sizeLine_eq, show told.length < 16777216 by omega]), next_nx]
            exact ih (n + 1) (told ++ [(n, v.f p)]) (by rw [List.length_append, List.length_singleton]; omega)
      · rw [if_neg (by simpa using c), hturn (.nx [.sh (.lst (vs.map eW)), .sh (e3 p), .ow (.lst (told.map fun z => .int (z.1 : Nat))), .no, .no]) (by simp -implicitDefEqProofs [b_bar_in_1, hin, c]), next_nx]
        exact ih (n + 1) told (by omega)
  have k := key vs 0 [] (by simpa using hv)
  have hok := barL_ok p vs vs 0 [] (fun i v h => by simpa using h) (fun z hz => nomatch hz)
  have e : q_bar_in [.lst (vs.map eW), e3 p] = resM (d_bar_in [.sh (.lst (vs.map eW)), .sh (e3 p), .no, .no, .no]) := rfl
  rw [e]
  unfold bar
  cases hb : barL 0 [] (vs.map (entW p)) with
  | inl m =>
    rw [hb] at k
    simp only [List.map_nil] at k
    simp -implicitDefEqProofs [d_bar_in, sizeLine_eq, k, resM, encB]
  | inr told =>
    rw [hb] at k
    simp only [List.map_nil] at k
    have ht := hok told hb
    have loop2 : forR (tgN 3) b_bar_in_2 (told.map fun z => .int (z.1 : Nat)) [.sh (.lst (vs.map eW)), .sh (e3 p), .fr (.lst (told.map fun z => .int (z.1 : Nat))), .no, .no] = match barT told with
        | some z => .rt (.tup [.int (z.1 : Nat), .int (z.2 : Nat)])
        | none => .nx [.sh (.lst (vs.map eW)), .sh (e3 p), .fr (.lst (told.map fun z => .int (z.1 : Nat))), .no, .no] := by
      cases told with
      | nil => rfl
      | cons t ts =>
        have look (z : Nat × Nat) (hz : z ∈ t :: ts) : ∃ v, idxG (.lst (vs.map eW)) (.int (z.1 : Nat)) = .ok (eW v) ∧ idxG (eW v) (e3 p) = .ok (eS z.2) := by
          obtain ⟨v, h1, h2, h3⟩ := ht z hz
          have := atI_ok (xs := vs.map eW) (i := (z.1 : Nat)) (x := eW v) (by omega) (by rw [Int.toNat_natCast, List.getElem?_map, h1]; rfl)
          exact ⟨v, by rw [idx_lst, this], by rw [idx_eW p v h2, h3]⟩
        obtain ⟨v0, a1, a2⟩ := look t List.mem_cons_self
        rw [forR_find (fun z : Nat × Nat => D.int (z.1 : Nat)) (fun z => !decide (z.2 = t.2)) (fun z => .tup [.int (t.1 : Nat), .int (z.1 : Nat)]) _ (t :: ts) fun z hz => ?_]
        · rw [show barT (t :: ts) = ((t :: ts).find? fun z => !decide (z.2 = t.2)).map fun z => (t.1, z.1) from rfl]
          cases (t :: ts).find? fun z => !decide (z.2 = t.2) <;> rfl
        · obtain ⟨v, b1, b2⟩ := look z hz
          rw [idx_lst] at a1 b1
          by_cases c : z.2 = t.2 <;> simp -implicitDefEqProofs [b_bar_in_2, a1, a2, b1, b2, c, sizeLine_eq]
    cases hbt : barT told with
    | none =>
      rw [hbt] at loop2
      simp -implicitDefEqProofs [d_bar_in, sizeLine_eq, k, loop2, resM, encB, hbt]
    | some z =>
      rw [hbt] at loop2
      simp -implicitDefEqProofs [d_bar_in, sizeLine_eq, k, loop2, resM, encB, hbt]

theorem q_stepped_ok (p w : P3) (m : Int) (hw : Bw w) : q_stepped [e3 p, e3 w, .int m] = .ok (e3 (stp p w m)) := by
  obtain ⟨h1, h2, h3⟩ := hw
  simp [q_stepped, runF, d_stepped, mul_ok (i := m) (j := w.1) (by omega), mul_ok (i := m) (j := w.2.1) (by omega), mul_ok (i := m) (j := w.2.2) (by omega), sizeLine_eq, resM, stp]
  rfl

theorem q_door_ok (s w p : P3) (hs : Sz 100 s) (hw : Bw w) (hz : Nz w) (hp : inB s p = true) : q_door_of [e3 s, e3 w, e3 p] = .ok (e3 (door s w p)) := by
  obtain ⟨d1, d2, d3⟩ := depth_spec hs hz hp
  have hst (q : P3) := q_stepped_ok q w (-1) hw
  have loop := while_n (c := c_door_of_2) (b := b_door_of_1) (fun i => [.sh (e3 s), .sh (e3 w), .sh (e3 p), .sh (e3 (stp p w (-(i : Int)))), .fr (e3 (stp p w (-(i : Int) - 1)))]) (depth s w p) 1000 (by omega)
    (fun i hi => ⟨by
      have := d1 (i + 1) hi
      rw [show (-((i + 1 : Nat) : Int)) = -(i : Int) - 1 by omega] at this
      simp [c_door_of_2, q_inside_ok, this], by
      simp [b_door_of_1, hst, stp_stp, show (-(1 : Int) + -(i : Int)) = -(i : Int) - 1 by omega, show -((i : Int) + 1) = -(i : Int) - 1 by omega]
      congr 1⟩) (by simp [c_door_of_2, q_inside_ok, d2])
  simp only [Int.ofNat_eq_natCast, Int.natCast_zero, Int.neg_zero, stp_0, Int.zero_sub] at loop
  have e : q_door_of [e3 s, e3 w, e3 p] = resM (d_door_of [.sh (e3 s), .sh (e3 w), .sh (e3 p), .no, .no]) := rfl
  rw [e]
  simp [d_door_of, sizeLine_eq, e3_eta, hst, loop, resM, door]

theorem q_marks (xs : List P3) (h : xs.length ≤ 1000000) : q_marks_of [.lst (xs.map e3)] = .ok (.dct (marksD xs)) := by
  have key : ∀ (ys : List P3) (kvs : List (List Key × D)), kvs.length + ys.length ≤ 1000000 → lfT kvs = true → forR (tgN 2) b_marks_of_1 (ys.map e3) [.sh (.lst (xs.map e3)), .ow (.dct kvs), .no] = .nx [.sh (.lst (xs.map e3)), .ow (.dct (markD ys kvs)), .no] := by
    intro ys
    induction ys with
    | nil => intro kvs _ _; rfl
    | cons y ys ih =>
      intro kvs hl hf
      have h2 := putT_len kvs (k3 y) (.bl true)
      rw [List.length_cons] at hl
      rw [List.map_cons, forR_cons, show turn (tgN 2) b_marks_of_1 (e3 y) [.sh (.lst (xs.map e3)), .ow (.dct kvs), .no] = .nx [.sh (.lst (xs.map e3)), .ow (.dct (putT kvs (k3 y) (.bl true))), .no] by simp [b_marks_of_1, e3, sizeLine_eq, show kvs.length < 16777216 by omega], next_nx]
      exact ih _ (by omega) (lfT_put hf rfl)
  have k := key xs [] (by simpa using h) rfl
  simp [q_marks_of, runF, d_marks_of, k, resM, marksD]

theorem q_seen_from_ok (s w : P3) (xs : List P3) (hs : Sz 100 s) (hw : Bw w) (hz : Nz w) (hx : ∀ p, p ∈ xs → inB s p = true) (hl : xs.length ≤ 1000000) :
    q_seen_from [e3 s, e3 w, .lst (xs.map e3)] = .ok (.lst ((xs.filter (seenB s w (fun q => decide (q ∈ xs)))).map e3)) := by
  have hst (q : P3) := q_stepped_ok q w (-1) hw
  have e : q_seen_from [e3 s, e3 w, .lst (xs.map e3)] = resM (d_seen_from [.sh (e3 s), .sh (e3 w), .sh (.lst (xs.map e3)), .no, .no, .no, .no]) := rfl
  let st (acc : List D) (a b : Sl) : Rho := [.sh (e3 s), .sh (e3 w), .sh (.lst (xs.map e3)), .fr (.dct (marksD xs)), .ow (.lst acc), a, b]
  have t (acc : List D) (p : P3) (hp : inB s p = true) (ha : acc.length < 1000001) : turn (tgN 5) b_seen_from_3 (e3 p) (st acc .no .no) = .nx (st (acc ++ if seenB s w (fun q => decide (q ∈ xs)) p = true then [e3 p] else []) .no .no) := by
    obtain ⟨d1, d2, d3⟩ := depth_spec hs hz hp
    have stc (i : Nat) : stp (stp p w (-((i : Int) + 1))) w (-1) = stp p w (-(((i + 1 : Nat) : Int) + 1)) := by
      rw [stp_stp, show -((i : Int) + 1) + -1 = -(((i + 1 : Nat) : Int) + 1) by omega]
    have inn (i : Nat) (hi : i < depth s w p) : inB s (stp p w (-((i : Int) + 1))) = true := by
      have := d1 (i + 1) hi
      rw [show -((i + 1 : Nat) : Int) = -((i : Int) + 1) by omega] at this
      exact this
    have go (i : Nat) : b_seen_from_1 (st acc (.sh (e3 p)) (.fr (e3 (stp p w (-((i : Int) + 1)))))) = .nx (st acc (.sh (e3 p)) (.fr (e3 (stp p w (-(((i + 1 : Nat) : Int) + 1)))))) := by
      rw [← stc]
      simp only [b_seen_from_1, st]
      simp [hst]
    rcases seen_cases s w p (fun q => decide (q ∈ xs)) with ⟨h0, h⟩ | ⟨h0, k, h1, h2, h3⟩
    · rw [show -(depth s w p : Int) - 1 = -((depth s w p : Int) + 1) by omega] at d2
      have loop := while_n (c := c_seen_from_2) (b := b_seen_from_1) (fun i => st acc (.sh (e3 p)) (.fr (e3 (stp p w (-((i : Int) + 1)))))) (depth s w p) 1000 (by omega) (fun i hi => ⟨by
        have hm' : ¬ stp p w (-((i : Int) + 1)) ∈ xs := of_decide_eq_false (h i hi)
        simp only [c_seen_from_2, st]
        simp [q_inside_ok, inn i hi, hm'], go i⟩) (by
        simp only [c_seen_from_2, st]
        simp [q_inside_ok, d2])
      rw [show -(((0 : Nat) : Int) + 1) = -1 by decide] at loop
      simp only [st] at loop
      rw [h0]
      simp -implicitDefEqProofs [b_seen_from_3, st, hst, loop, q_inside_ok, d2, sizeLine_eq, show acc.length < 16777216 by omega]
    · have loop := while_n (c := c_seen_from_2) (b := b_seen_from_1) (fun i => st acc (.sh (e3 p)) (.fr (e3 (stp p w (-((i : Int) + 1)))))) k 1000 (by omega) (fun i hi => ⟨by
        have hm' : ¬ stp p w (-((i : Int) + 1)) ∈ xs := of_decide_eq_false (h3 i hi)
        simp only [c_seen_from_2, st]
        simp [q_inside_ok, inn i (by omega), hm'], go i⟩) (by
        have hm' : stp p w (-((k : Int) + 1)) ∈ xs := of_decide_eq_true h2
        simp only [c_seen_from_2, st]
        simp [q_inside_ok, inn k h1, hm'])
      rw [show -(((0 : Nat) : Int) + 1) = -1 by decide] at loop
      simp only [st] at loop
      rw [h0]
      simp -implicitDefEqProofs [b_seen_from_3, st, hst, loop, q_inside_ok, inn k h1]
  have fm (ys : List P3) : (ys.flatMap fun p => if seenB s w (fun q => decide (q ∈ xs)) p = true then [e3 p] else []) = (ys.filter (seenB s w (fun q => decide (q ∈ xs)))).map e3 := by
    induction ys with
    | nil => rfl
    | cons y ys ih =>
      rw [List.flatMap_cons, ih, List.filter_cons]
      cases seenB s w (fun q => decide (q ∈ xs)) y <;> simp
  have loop := forR_acc (tg := tgN 5) (b := b_seen_from_3) e3 (fun acc => st acc .no .no) (fun p => if seenB s w (fun q => decide (q ∈ xs)) p = true then [e3 p] else []) xs [] 1000000 (by
    rw [fm, List.length_map]
    have := List.length_filter_le (seenB s w (fun q => decide (q ∈ xs))) xs
    simp only [List.length_nil]
    omega) (fun acc p hp ha => t acc p (hx p hp) (by omega))
  rw [fm, List.nil_append] at loop
  simp only [st] at loop
  have hm := q_marks xs hl
  rw [e]
  simp -implicitDefEqProofs [d_seen_from, hm, sizeLine_eq, loop, resM]

theorem q_doors_of_ok (s w : P3) (hs : Sz 100 s) (hw : Bw w) : q_doors_of [e3 s, e3 w] = .ok (.lst ((doors s w).map e3)) := by
  have hp := q_places s hs
  have hl := hs.len (n := 100)
  have hst (q : P3) := q_stepped_ok q w (-1) hw
  have hc := compL_filt (tg := tgN 2) (c := c_doors_of_2) (f := e_doors_of_1) e3 [.sh (e3 s), .sh (e3 w), .no] (fun p => !inB s (stp p w (-1))) e3 (places s) (fun p _ => by
    cases h : inB s (stp p w (-1)) <;> simp [pickC, c_doors_of_2, e_doors_of_1, hst, q_inside_ok, h])
  have e : q_doors_of [e3 s, e3 w] = resM (d_doors_of [.sh (e3 s), .sh (e3 w), .no]) := rfl
  rw [e]
  simp -implicitDefEqProofs [d_doors_of, hp, sizeLine_eq, show (places s).length ≤ 16777216 by omega, hc, resM, doors]

def signD (s : P3) (l : Lk) : List (List Key × D) := mkD ((doors s l.w).map fun p => (p, eS (sg (doors s l.w) l.pic p)))
theorem q_signs (s : P3) (l : Lk) (hs : Sz 100 s) (hl : LkOk s l) : q_signs_by_door [e3 s, e3 l.w, .str ⟨l.pic.toArray⟩] = .ok (.dct (signD s l)) := by
  have hd := q_doors_of_ok s l.w hs hl.1.bw
  have hlen := hs.len (n := 100)
  have hdl := doors_len s l.w
  have hz := zipS_sg (doors_up s l.w).nodup hl.2
  have loop := forR_put (tg := tgT 2 (tgCons (tgN 4) (tgCons (tgN 5) tgNil))) (b := b_signs_by_door_1) (fun p => D.tup [e3 p, eS (sg (doors s l.w) l.pic p)]) (fun kvs => [.sh (e3 s), .sh (e3 l.w), .sh (.str ⟨l.pic.toArray⟩), .ow (.dct kvs), .no, .no]) (fun p => (p, eS (sg (doors s l.w) l.pic p))) (doors s l.w) [] (by simp only [List.length_nil]; omega) (fun kvs p _ hk => by
    simp only [turn, tgT_ap, tgCons_ap, tgNil_ap, tgN_ap, List.length_cons, List.length_nil, if_pos]
    simp [b_signs_by_door_1, e3, sizeLine_eq, show kvs.length < 16777216 by omega])
  have e : q_signs_by_door [e3 s, e3 l.w, .str ⟨l.pic.toArray⟩] = resM (d_signs_by_door [.sh (e3 s), .sh (e3 l.w), .sh (.str ⟨l.pic.toArray⟩), .no, .no, .no]) := rfl
  rw [e]
  simp -implicitDefEqProofs [d_signs_by_door, hd, hz, loop, resM, signD, mkD]

def viewD (s : P3) (l : Lk) (xs : List P3) : List (List Key × D) := mkD ((xs.filter (seenL s l xs)).map fun p => (p, eS (sign s l p)))
theorem look_signs (s : P3) (l : Lk) (hs : Sz 100 s) (hl : LkOk s l) (p : P3) (hp : inB s p = true) : lookT (signD s l) (k3 (door s l.w p)) = some (eS (sign s l p)) := by
  unfold signD
  rw [look_mkD, if_pos (door_mem hs hl.1.nz hp)]
  rfl
theorem q_view (s : P3) (l : Lk) (xs : List P3) (hs : Sz 100 s) (hl : LkOk s l) (hx : ∀ p, p ∈ xs → inB s p = true) (hlen : xs.length ≤ 1000000) : q_view_of [e3 s, eL l, .lst (xs.map e3)] = .ok (.dct (viewD s l xs)) := by
  have h1 := q_signs s l hs hl
  have h2 := q_seen_from_ok s l.w xs hs hl.1.bw hl.1.nz hx hlen
  have hf : (xs.filter (seenL s l xs)).length ≤ xs.length := List.length_filter_le _ _
  have loop := forR_put (tg := tgN 7) (b := b_view_of_1) e3 (fun kvs => [.sh (e3 s), .sh (eL l), .sh (.lst (xs.map e3)), .sh (e3 l.w), .sh (.str ⟨l.pic.toArray⟩), .fr (.dct (signD s l)), .ow (.dct kvs), .no]) (fun p => (p, eS (sign s l p))) (xs.filter (seenL s l xs)) [] (by simp only [List.length_nil]; omega) (fun kvs p hp hk => by
    have hin := hx p (List.mem_filter.mp hp).1
    have hd := q_door_ok s l.w p hs hl.1.bw hl.1.nz hin
    have hi := idx_dct _ _ _ (look_signs s l hs hl p hin)
    simp only [turn_N]
    simp -implicitDefEqProofs [b_view_of_1, hd, hi, sizeLine_eq, show kvs.length < 16777216 by omega]
    rfl)
  have e : q_view_of [e3 s, eL l, .lst (xs.map e3)] = resM (d_view_of [.sh (e3 s), .sh (eL l), .sh (.lst (xs.map e3)), .no, .no, .no, .no, .no]) := rfl
  have u : sUnp (eVE 1) (tgT 2 (tgCons (tgN 3) (tgCons (tgN 4) tgNil))) [.sh (e3 s), .sh (eL l), .sh (.lst (xs.map e3)), .no, .no, .no, .no, .no] = .nx [.sh (e3 s), .sh (eL l), .sh (.lst (xs.map e3)), .sh (e3 l.w), .sh (.str ⟨l.pic.toArray⟩), .no, .no, .no] := by
    simp [eL]
  have h2' : q_seen_from [e3 s, e3 l.w, .lst (xs.map e3)] = .ok (.lst ((xs.filter (seenL s l xs)).map e3)) := h2
  rw [e]
  unfold d_view_of
  rw [sSeq_ap, u, then_nx]
  simp -implicitDefEqProofs [h1, h2', loop, resM, viewD, mkD]

theorem q_views (s : P3) (ls : List Lk) (xs : List P3) (hs : Sz 100 s) (hl : ∀ l, l ∈ ls → LkOk s l) (hx : ∀ p, p ∈ xs → inB s p = true) (hlen : xs.length ≤ 1000000) (hll : ls.length ≤ 1000000) :
    q_views_of [e3 s, .lst (ls.map eL), .lst (xs.map e3)] = .ok (.lst (ls.map fun l => .dct (viewD s l xs))) := by
  have hc := compL_map (tg := tgN 3) (c := cYes) (f := e_views_of_1) eL [.sh (e3 s), .sh (.lst (ls.map eL)), .sh (.lst (xs.map e3)), .no] (fun l => .dct (viewD s l xs)) ls (fun l h => by
    have hv := q_view s l xs hs (hl l h) hx hlen
    simp -implicitDefEqProofs [e_views_of_1, hv])
  have e : q_views_of [e3 s, .lst (ls.map eL), .lst (xs.map e3)] = resM (d_views_of [.sh (e3 s), .sh (.lst (ls.map eL)), .sh (.lst (xs.map e3)), .no]) := rfl
  rw [e]
  simp -implicitDefEqProofs [d_views_of, sizeLine_eq, show ls.length ≤ 16777216 by omega, hc, resM]

theorem views_eW (s : P3) (ls : List Lk) (xs : List P3) : (ls.map fun l => D.dct (viewD s l xs)) = (ls.map fun l => vwOf s l xs).map eW := by rw [List.map_map]; rfl
theorem bar_views (s : P3) (ls : List Lk) (xs : List P3) (p : P3) (hp : p ∈ xs) : bar ((ls.map fun l => vwOf s l xs).map (entW p)) = barP s ls xs p := by
  unfold barP
  rw [List.map_map]
  congr 1
  refine List.map_congr_left fun l _ => ?_
  show (decide (p ∈ xs.filter (seenL s l xs)), sign s l p) = (seenL s l xs p, sign s l p)
  congr 1
  rw [Bool.eq_iff_iff, decide_eq_true_eq, List.mem_filter]
  exact ⟨fun h => h.2, fun h => ⟨hp, h⟩⟩
theorem q_barred_ok (s : P3) (ls : List Lk) (xs : List P3) (hs : Sz 100 s) (hl : ∀ l, l ∈ ls → LkOk s l) (hx : ∀ p, p ∈ xs → inB s p = true) (hlen : xs.length ≤ 1000000) (hll : ls.length ≤ 1000000) :
    q_barred [e3 s, .lst (ls.map eL), .lst (xs.map e3)] = .ok (.lst ((brows s ls xs).map eR)) := by
  have h1 := q_views s ls xs hs hl hx hlen hll
  rw [views_eW] at h1
  have loop := forR_acc (tg := tgN 5) (b := b_barred_1) e3 (fun acc => [.sh (e3 s), .sh (.lst (ls.map eL)), .sh (.lst (xs.map e3)), .fr (.lst ((ls.map fun l => vwOf s l xs).map eW)), .ow (.lst acc), .no, .no]) (rowD (barP s ls xs)) xs [] 1000000 (by
    rw [rowL_flat, List.length_map]
    have := rowL_len (barP s ls xs) xs
    simp only [List.length_nil]
    omega) (fun acc p hp ha => by
    have h2 := q_bar_in_ok (ls.map fun l => vwOf s l xs) p (by rw [List.length_map]; exact hll)
    rw [bar_views s ls xs p hp] at h2
    unfold rowD at ha ⊢
    cases hb : barP s ls xs p with
    | none =>
      rw [hb] at h2
      simp -implicitDefEqProofs only [turn_N]
      simp -implicitDefEqProofs [-List.map_map, b_barred_1, h2, encB]
    | some z =>
      rw [hb] at h2 ha
      simp only [List.length_singleton] at ha
      simp -implicitDefEqProofs only [turn_N]
      simp -implicitDefEqProofs [-List.map_map, b_barred_1, h2, encB, sizeLine_eq, show acc.length < 16777216 by omega, eR])
  rw [rowL_flat, List.nil_append] at loop
  have e : q_barred [e3 s, .lst (ls.map eL), .lst (xs.map e3)] = resM (d_barred [.sh (e3 s), .sh (.lst (ls.map eL)), .sh (.lst (xs.map e3)), .no, .no, .no, .no]) := rfl
  rw [e]
  simp -implicitDefEqProofs [-List.map_map, d_barred, h1, sizeLine_eq, loop, resM, brows]

theorem q_shop_loose (p : Addr) (S : Shop) (hs : ShopOk S) : q_Workshop_loose [eSh p S] = .ok (.lst ((brows S.s (lksN S.now) S.now.stand).map eR)) := by
  have ls := sub_len hs.sz hs.now.st
  have h2 := q_shop_looks p S (by have := hs.now.el; omega)
  have h3 := q_barred_ok S.s (lksN S.now) S.now.stand (sz100 hs.sz) (fun l hl => by
    obtain ⟨y, hy, rfl⟩ := List.mem_map.mp hl
    exact (hs.now.lk y hy).1) (fun o ho => sub_in hs.now.st ho) (by omega) (by
    unfold lksN
    have := hs.now.el
    rw [List.length_map]; omega)
  change q_barred [e3 S.s, .lst ((S.now.eyes.map Ey.l).map eL), .lst (S.now.stand.map e3)] = _ at h3
  generalize (S.now.eyes.map Ey.l).map eL = ll at *
  generalize (brows S.s (lksN S.now) S.now.stand).map eR = bb at *
  simp -implicitDefEqProofs [q_Workshop_loose, runF, d_Workshop_loose, h2, h3, resM]

theorem q_picked_ok (picks : List Int) (turn many : Nat) (h : 0 < many) : q_picked [.lst (picks.map .int), .int (turn : Nat), .int (many : Nat)] = .ok (.int (pickN picks turn many : Nat)) := by
  have e : q_picked [.lst (picks.map .int), .int (turn : Nat), .int (many : Nat)] = resM (d_picked [.sh (.lst (picks.map .int)), .sh (.int (turn : Nat)), .sh (.int (many : Nat))]) := rfl
  rw [e]
  unfold pickN
  cases hp : picks[turn]? with
  | none =>
    have hl := List.getElem?_eq_none_iff.mp hp
    simp -implicitDefEqProofs [d_picked, show ¬ turn < picks.length by omega, resM]
  | some c =>
    have hl := (List.getElem?_eq_some_iff.mp hp).1
    have hat := atI_ok (xs := picks.map D.int) (i := (turn : Nat)) (x := .int c) (by omega) (by rw [Int.toNat_natCast, List.getElem?_map, hp]; rfl)
    have hm := mod_ok (i := c) (j := (many : Nat)) (by omega)
    have h1 := Int.emod_nonneg c (show (many : Int) ≠ 0 by omega)
    simp -implicitDefEqProofs [d_picked, hl, hat, hm, resM]
    omega

theorem q_carve_ok (s : P3) (ls : List Lk) (xs : List P3) (picks : List Int) (hs : Sz 100 s) (hl : ∀ l, l ∈ ls → LkOk s l) (hx : ∀ p, p ∈ xs → inB s p = true) (hlen : xs.length < 1000) (hll : ls.length ≤ 1000000) :
    q_carve [e3 s, .lst (ls.map eL), .lst (xs.map e3), .lst (picks.map .int)] = .ok (.tup [.lst ((carveP s ls picks xs).1.map e3), .lst ((carveP s ls picks xs).2.map eR)]) := by
  let st (ys : List P3) (pp : List BRow) : Rho := [.sh (e3 s), .sh (.lst (ls.map eL)), .sh (.lst (xs.map e3)), .sh (.lst (picks.map .int)), .ow (.lst (ys.map e3)), .ow (.lst (pp.map eR)), .fr (.lst ((brows s ls ys).map eR)), .no]
  have run : ∀ (n m : Nat) (ys : List P3) (pp : List BRow), ys.length ≤ n → n < m → m ≤ 1000 → pp.length + ys.length ≤ 1000 → (∀ p, p ∈ ys → inB s p = true) → whileN c_carve_2 b_carve_1 m (st ys pp) = .nx (st (carveS s ls picks n ys pp).1 (carveS s ls picks n ys pp).2) := by
    have stop (ys : List P3) (pp : List BRow) (h : (brows s ls ys).isEmpty = true) : c_carve_2 (st ys pp) = .ok false := by
      simp only [c_carve_2, st]
      rw [List.isEmpty_iff.mp h]
      simp
    intro n
    induction n with
    | zero =>
      intro m ys pp h1 h2 h3 _ _
      have : ys = [] := List.length_eq_zero_iff.mp (by omega)
      subst this
      obtain ⟨m, rfl⟩ : ∃ m', m = m' + 1 := ⟨m - 1, by omega⟩
      rw [whileN, stop [] pp rfl]
      rfl
    | succ n ih =>
      intro m ys pp h1 h2 h3 h4 hy
      obtain ⟨m, rfl⟩ : ∃ m', m = m' + 1 := ⟨m - 1, by omega⟩
      rw [whileN, carveS]
      by_cases c : (brows s ls ys).isEmpty = true
      · rw [stop ys pp c, if_pos c]
      · rw [if_neg c]
        have hpos : 0 < (brows s ls ys).length := by
          cases hb : brows s ls ys with
          | nil => rw [hb] at c; exact absurd rfl c
          | cons a l => exact Nat.succ_pos _
        have goes : c_carve_2 (st ys pp) = .ok true := by
          simp only [c_carve_2, st]
          cases hb : brows s ls ys with
          | nil => rw [hb] at c; exact absurd rfl c
          | cons a l => simp
        obtain ⟨g1, g2⟩ := rowAt_mem (pickN_lt (picks := picks) (turn := pp.length) hpos)
        have hpk := q_picked_ok picks pp.length (brows s ls ys).length hpos
        have hat := atI_ok (xs := (brows s ls ys).map eR) (i := (pickN picks pp.length (brows s ls ys).length : Nat)) (x := eR (rowAt (brows s ls ys) (pickN picks pp.length (brows s ls ys).length))) (by omega) (by rw [Int.toNat_natCast, List.getElem?_map, g1]; rfl)
        generalize pickN picks pp.length (brows s ls ys).length = k at g1 g2 hpk hat ⊢
        generalize rowAt (brows s ls ys) k = r at g1 g2 hat ⊢
        have hin : r.1 ∈ ys := (mem_rowL.mp g2).1
        have hle := List.length_erase_of_mem hin
        have hyp : 0 < ys.length := List.length_pos_of_mem hin
        have hrem := rem_e3 r.1 ys hin
        have hy2 : ∀ p, p ∈ ys.erase r.1 → inB s p = true := fun p hp => hy p (List.erase_sublist.subset hp)
        have hb2 := q_barred_ok s ls (ys.erase r.1) hs hl hy2 (by omega) hll
        have body : b_carve_1 (st ys pp) = .nx (st (ys.erase r.1) (pp ++ [r])) := by
          simp only [st]
          simp -implicitDefEqProofs [b_carve_1, hpk, hat, hrem, hb2, sizeLine_eq, show pp.length < 16777216 by omega]
        rw [goes]
        simp only
        rw [body]
        simp only
        exact ih m (ys.erase r.1) (pp ++ [r]) (by omega) (by omega) (by omega) (by rw [List.length_append, List.length_singleton]; omega) hy2
  have k := run xs.length 1000 xs [] (Nat.le_refl _) hlen (Nat.le_refl _) (by simp only [List.length_nil]; omega) hx
  rw [show carveS s ls picks xs.length xs [] = carveP s ls picks xs from rfl] at k
  simp only [st, List.map_nil] at k
  have h3 := q_barred_ok s ls xs hs hl hx (by omega) hll
  have e : q_carve [e3 s, .lst (ls.map eL), .lst (xs.map e3), .lst (picks.map .int)] = resM (d_carve [.sh (e3 s), .sh (.lst (ls.map eL)), .sh (.lst (xs.map e3)), .sh (.lst (picks.map .int)), .no, .no, .no, .no]) := rfl
  rw [e]
  simp -implicitDefEqProofs [d_carve, h3, k, sizeLine_eq, resM]

/-! ### the stone to which carving comes -/
theorem q_shop_end (p : Addr) (S : Shop) (hs : ShopOk S) : q_Workshop_end [eSh p S] = .ok (.lst ((carv S.s (lksN S.now) S.now.stand).map e3)) := by
  have ls := sub_len hs.sz hs.now.st
  have h2 := q_shop_looks p S (by have := hs.now.el; omega)
  have h3 := q_carve_ok S.s (lksN S.now) S.now.stand [] (sz100 hs.sz) (fun l hl => by
    obtain ⟨y, hy, rfl⟩ := List.mem_map.mp hl
    exact (hs.now.lk y hy).1) (fun o ho => sub_in hs.now.st ho) (by omega) (by
    unfold lksN
    have := hs.now.el
    rw [List.length_map]; omega)
  have hup : S.now.stand.Nodup := ((places_up S.s).sub hs.now.st).nodup
  rw [carveP_fst hup, List.map_nil] at h3
  change q_carve [e3 S.s, .lst ((S.now.eyes.map Ey.l).map eL), .lst (S.now.stand.map e3), .lst []] = _ at h3
  generalize (S.now.eyes.map Ey.l).map eL = ll at *
  generalize (carv S.s (lksN S.now) S.now.stand).map e3 = zz at *
  generalize (carveP S.s (lksN S.now) [] S.now.stand).2.map eR = yy at *
  simp -implicitDefEqProofs [q_Workshop_end, runF, d_Workshop_end, h2, h3, resM]

/-! ### the grains that the other lacks -/
theorem q_lacking_ok (xs ys : List P3) (h1 : xs.length ≤ 1000000) (h2 : ys.length ≤ 1000000) : q_lacking [.lst (xs.map e3), .lst (ys.map e3)] = .ok (.lst ((lackP xs ys).map e3)) := by
  have m := q_marks ys h2
  have c := compL_filt (tg := tgN 3) (c := c_lacking_2) (f := e_lacking_1) e3 [.sh (.lst (xs.map e3)), .sh (.lst (ys.map e3)), .fr (.dct (marksD ys)), .no] (fun p => !decide (p ∈ ys)) e3 xs (fun p _ => by
    have hi := in_marks ys p
    generalize marksD ys = mm at hi ⊢
    cases h : decide (p ∈ ys) <;> rw [h] at hi <;> simp [e_lacking_1, c_lacking_2, hi, pickC])
  have hz : (xs.map e3).length ≤ sizeLine := by rw [List.length_map, sizeLine_eq]; omega
  unfold lackP
  generalize marksD ys = mm at *
  generalize (xs.filter fun p => !decide (p ∈ ys)).map e3 = rr at *
  generalize xs.map e3 = xx at *
  generalize ys.map e3 = yy at *
  simp -implicitDefEqProofs [q_lacking, runF, d_lacking, m, c, hz, resM]

theorem q_shop_quarrel (p : Addr) (S : Shop) (hs : ShopOk S) : q_Workshop_quarrel [eSh p S] = .ok (.lst ((lackP S.now.sure (carv S.s (lksN S.now) S.now.stand)).map e3)) := by
  have h1 := q_shop_end p S hs
  have hl := (carv_sub S.s (lksN S.now) S.now.stand).length_le
  have h2 := q_lacking_ok S.now.sure (carv S.s (lksN S.now) S.now.stand) (by have := sub_len hs.sz hs.now.su; omega) (by have := sub_len hs.sz hs.now.st; omega)
  change q_lacking [_, _] = .ok (.lst ((lackP S.now.sure (carv S.s (lksN S.now) S.now.stand)).map e3)) at h2
  generalize (lackP S.now.sure (carv S.s (lksN S.now) S.now.stand)).map e3 = zz at *
  generalize (carv S.s (lksN S.now) S.now.stand).map e3 = yy at *
  simp -implicitDefEqProofs [q_Workshop_quarrel, runF, d_Workshop_quarrel, h1, h2, resM]

/-! ### the grains nearer on a line -/
theorem hid_step (s w p : P3) (xs : List P3) (i : Nat) : (((List.range (i + 1)).map fun (j : Nat) => stp p w (-((j : Int) + 1))).filter fun q => decide (q ∈ xs)) = (((List.range i).map fun (j : Nat) => stp p w (-((j : Int) + 1))).filter fun q => decide (q ∈ xs)) ++ (if stp p w (-((i : Int) + 1)) ∈ xs then [stp p w (-((i : Int) + 1))] else []) := by
  rw [List.range_succ, List.map_append, List.filter_append]
  congr 1
  by_cases h : stp p w (-((i : Int) + 1)) ∈ xs <;> simp [h]
theorem q_hiding_ok (s w p : P3) (xs : List P3) (hs : Sz 100 s) (hw : Bw w) (hz : Nz w) (hp : inB s p = true) : q_hiding [e3 s, e3 w, .dct (marksD xs), e3 p] = .ok (.lst ((hidL s w xs p).map e3)) := by
  obtain ⟨d1, d2, d3⟩ := depth_spec hs hz hp
  have hst (q : P3) := q_stepped_ok q w (-1) hw
  have stc (i : Nat) : stp (stp p w (-((i : Int) + 1))) w (-1) = stp p w (-(((i + 1 : Nat) : Int) + 1)) := by
    rw [stp_stp, show -((i : Int) + 1) + -1 = -(((i + 1 : Nat) : Int) + 1) by omega]
  let got (i : Nat) : List P3 := ((List.range i).map fun (j : Nat) => stp p w (-((j : Int) + 1))).filter fun q => decide (q ∈ xs)
  have gl (i : Nat) : (got i).length ≤ i := by
    have := List.length_filter_le (fun q => decide (q ∈ xs)) ((List.range i).map fun (j : Nat) => stp p w (-((j : Int) + 1)))
    rw [List.length_map, List.length_range] at this
    exact this
  have loop := while_n (c := c_hiding_2) (b := b_hiding_1) (fun i => [.sh (e3 s), .sh (e3 w), .sh (.dct (marksD xs)), .sh (e3 p), .ow (.lst ((got i).map e3)), .fr (e3 (stp p w (-((i : Int) + 1))))]) (depth s w p) 1000 (by omega) (fun i hi => by
    have inn := d1 (i + 1) hi
    rw [show -((i + 1 : Nat) : Int) = -((i : Int) + 1) by omega] at inn
    refine ⟨by simp [c_hiding_2, q_inside_ok, inn], ?_⟩
    have hg : got (i + 1) = _ := hid_step s w p xs i
    have hz2 : ((got i).map e3).length < 16777216 := by rw [List.length_map]; have := gl i; omega
    rw [← stc, hg]
    by_cases h : stp p w (-((i : Int) + 1)) ∈ xs
    · rw [if_pos h, List.map_append]
      generalize (got i).map e3 = gg at *
      simp -implicitDefEqProofs [b_hiding_1, h, hst, hz2, sizeLine_eq]
    · rw [if_neg h, List.append_nil]
      generalize (got i).map e3 = gg at *
      simp -implicitDefEqProofs [b_hiding_1, h, hst]) (by
    rw [show -(depth s w p : Int) - 1 = -((depth s w p : Int) + 1) by omega] at d2
    simp [c_hiding_2, q_inside_ok, d2])
  rw [show -(((0 : Nat) : Int) + 1) = -1 by decide, show got 0 = [] from rfl, List.map_nil, show got (depth s w p) = hidL s w xs p from rfl] at loop
  have e : q_hiding [e3 s, e3 w, .dct (marksD xs), e3 p] = resM (d_hiding [.sh (e3 s), .sh (e3 w), .sh (.dct (marksD xs)), .sh (e3 p), .no, .no]) := rfl
  rw [e]
  generalize (hidL s w xs p).map e3 = hh at *
  simp -implicitDefEqProofs [d_hiding, hst, loop, resM, sizeLine_eq]

/-! ### the rows that a row needs -/
theorem marks_snoc (W : List P3) (q : P3) : putT (marksD W) (k3 q) (.bl true) = marksD (W ++ [q]) := by
  unfold marksD VL.markD
  rw [List.foldl_append]
  rfl
theorem markD_le : ∀ (W : List P3) (kvs : List (List Key × D)), (VL.markD W kvs).length ≤ kvs.length + W.length
  | [], kvs => by simp [VL.markD]
  | q :: W, kvs => by
    have h := markD_le W (putT kvs (k3 q) (.bl true))
    have h2 : (putT kvs (k3 q) (.bl true)).length ≤ kvs.length + 1 := by
      unfold putT
      split
      · rw [List.length_map]; omega
      · rw [List.length_append]; simp
    show (VL.markD W (putT kvs (k3 q) (.bl true))).length ≤ _
    rw [List.length_cons]
    omega
theorem marksD_le (W : List P3) : (marksD W).length ≤ W.length := by
  have := markD_le W []
  simpa [marksD] using this
theorem marks_one (g : P3) : marksD [g] = [(k3 g, D.bl true)] := rfl
theorem hidL_len {s w p : P3} {xs : List P3} (hs : Sz 100 s) (hz : Nz w) (hp : inB s p = true) : (hidL s w xs p).length ≤ 100 := by
  obtain ⟨_, _, d3⟩ := depth_spec hs hz hp
  unfold hidL
  refine Nat.le_trans (List.length_filter_le _ _) ?_
  rw [List.length_map, List.length_range]
  exact d3
theorem q_because_ok (s : P3) (ls : List Lk) (xs : List P3) (rs : List BRow) (g : P3) (hs : Sz 100 s) (hl : ∀ l, l ∈ ls → LkOk s l) (hlen : xs.length ≤ 1000) (hr : ∀ r, r ∈ rs → inB s r.1 = true ∧ r.2.1 < ls.length ∧ r.2.2 < ls.length) (hrl : rs.length ≤ 1000) :
    q_because [e3 s, .lst (ls.map eL), .lst (xs.map e3), .lst (rs.map eR), e3 g] = .ok (.lst ((needs s ls xs rs g).map eR)) := by
  have hm := q_marks xs (by omega)
  let st (W : List P3) (K : List BRow) (a b c : Sl) : Rho := [.sh (e3 s), .sh (.lst (ls.map eL)), .sh (.lst (xs.map e3)), .sh (.lst (rs.map eR)), .sh (e3 g), .fr (.dct (marksD xs)), .ow (.dct (marksD W)), .ow (.lst (K.map eR)), a, b, c]
  have inner : ∀ (qs W : List P3) (K : List BRow) (a b : Sl), W.length + qs.length ≤ 1000000 → forR (tgN 10) b_because_1 (qs.map e3) (st W K a b .no) = .nx (st (W ++ qs) K a b .no) := by
    intro qs
    induction qs with
    | nil => intro W K a b _; rw [List.append_nil]; rfl
    | cons q qs ih =>
      intro W K a b hW
      rw [List.length_cons] at hW
      have hml := marksD_le W
      have hk := marks_snoc W q
      have t : turn (tgN 10) b_because_1 (e3 q) (st W K a b .no) = .nx (st (W ++ [q]) K a b .no) := by
        have hk0 : keyOf [.int q.1, .int q.2.1, .int q.2.2] = some (k3 q) := rfl
        have e3q : e3 q = .tup [.int q.1, .int q.2.1, .int q.2.2] := rfl
        simp only [st]
        rw [← hk]
        generalize marksD xs = mx at *
        generalize marksD W = mw at *
        simp -implicitDefEqProofs [turn_N, b_because_1, e3q, hk0, sizeLine_eq, show mw.length < 16777216 by omega]
      rw [List.map_cons, forR_cons, t, next_nx, ih (W ++ [q]) K a b (by rw [List.length_append]; simp; omega), List.append_assoc]
      rfl
  have mid (r : BRow) (W : List P3) (K : List BRow) (i : Nat) (l : Lk) (hi : ls[i]? = some l) (hp : inB s r.1 = true) (hW : W.length ≤ 500000) : turn (tgN 9) b_because_2 (.int (i : Nat)) (st W K (.sh (eR r)) .no .no) = .nx (st (W ++ hidL s l.w xs r.1) K (.sh (eR r)) .no .no) := by
    have ok := hl l (List.mem_of_getElem? hi)
    have k1 := look_idx eL hi
    have f1 : idxG (eL l) (.int 0) = .ok (e3 l.w) := by simp [eL]
    have f2 : idxG (eR r) (.int 0) = .ok (e3 r.1) := by simp [eR]
    have hh := q_hiding_ok s l.w r.1 xs hs ok.1.bw ok.1.nz hp
    have hn := hidL_len (xs := xs) hs ok.1.nz hp
    have lp := inner (hidL s l.w xs r.1) W K (.sh (eR r)) (.sh (.int (i : Nat))) (by omega)
    simp only [st] at lp ⊢
    generalize marksD (W ++ hidL s l.w xs r.1) = mwh at *
    generalize (hidL s l.w xs r.1).map e3 = hd at *
    generalize marksD xs = mx at *
    generalize marksD W = mw at *
    generalize eL l = le at *
    generalize ls.map eL = ll at *
    generalize e3 l.w = lw at *
    generalize e3 r.1 = er1 at *
    generalize eR r = er at *
    generalize K.map eR = kk at *
    simp -implicitDefEqProofs [turn_N, b_because_2, k1, f1, f2, hh, lp]
  have outer : ∀ (L : List BRow) (W : List P3) (K : List BRow), (∀ r, r ∈ L → inB s r.1 = true ∧ r.2.1 < ls.length ∧ r.2.2 < ls.length) → W.length + 200 * L.length ≤ 400000 → K.length + L.length ≤ 1000 →
      ∃ W', forR (tgN 8) b_because_3 (L.map eR) (st W K .no .no .no) = .nx (st W' (K ++ (needR s ls xs W L).reverse) .no .no .no) := by
    intro L
    induction L with
    | nil => intro W K _ _ _; exact ⟨W, by simp [needR]⟩
    | cons r L ih =>
      intro W K hL hW hK
      rw [List.length_cons] at hW hK
      obtain ⟨hp, hi, hj⟩ := hL r List.mem_cons_self
      obtain ⟨l1, g1⟩ : ∃ l, ls[r.2.1]? = some l := ⟨_, List.getElem?_eq_getElem hi⟩
      obtain ⟨l2, g2⟩ : ∃ l, ls[r.2.2]? = some l := ⟨_, List.getElem?_eq_getElem hj⟩
      have f0 : idxG (eR r) (.int 0) = .ok (e3 r.1) := by simp [eR]
      have f1 : idxG (eR r) (.int 1) = .ok (.int (r.2.1 : Nat)) := by simp [eR]
      have f2 : idxG (eR r) (.int 2) = .ok (.int (r.2.2 : Nat)) := by simp [eR]
      have lfr : lf (eR r) = true := rfl
      have hin := in_marks W r.1
      rw [List.map_cons, forR_cons]
      by_cases c : r.1 ∈ W
      · have hh : hids s ls xs r = hidL s l1.w xs r.1 ++ hidL s l2.w xs r.1 := by unfold hids; rw [way_at g1, way_at g2]
        have z1 := hidL_len (xs := xs) hs (hl l1 (List.mem_of_getElem? g1)).1.nz hp
        have z2 := hidL_len (xs := xs) hs (hl l2 (List.mem_of_getElem? g2)).1.nz hp
        have m1 := mid r W (K ++ [r]) r.2.1 l1 g1 hp (by omega)
        have m2 := mid r (W ++ hidL s l1.w xs r.1) (K ++ [r]) r.2.2 l2 g2 hp (by rw [List.length_append]; omega)
        rw [List.append_assoc, ← hh] at m2
        obtain ⟨W', e⟩ := ih (W ++ hids s ls xs r) (K ++ [r]) (fun r hr => hL r (List.mem_cons_of_mem _ hr)) (by rw [hh, List.length_append, List.length_append]; omega) (by rw [List.length_append]; simp; omega)
        refine ⟨W', ?_⟩
        rw [decide_eq_true c] at hin
        have lp : forR (tgN 9) b_because_2 [.int (r.2.1 : Nat), .int (r.2.2 : Nat)] (st W (K ++ [r]) (.sh (eR r)) .no .no) = .nx (st (W ++ hids s ls xs r) (K ++ [r]) (.sh (eR r)) .no .no) := by
          rw [forR_cons, m1, next_nx, forR_cons, m2, next_nx]
          rfl
        have hkz : (K.map eR).length < 16777216 := by rw [List.length_map]; omega
        have t : turn (tgN 8) b_because_3 (eR r) (st W K .no .no .no) = .nx (st (W ++ hids s ls xs r) (K ++ [r]) .no .no .no) := by
          simp only [st] at lp ⊢
          rw [List.map_append, List.map_cons, List.map_nil] at lp ⊢
          generalize marksD (W ++ hids s ls xs r) = mwh at *
          generalize marksD W = mw at *
          generalize marksD xs = mx at *
          generalize e3 r.1 = er1 at *
          generalize eR r = er at *
          generalize K.map eR = kk at *
          simp -implicitDefEqProofs [turn_N, b_because_3, f0, f1, f2, hin, lfr, hkz, lp, sizeLine_eq]
        have hn : needR s ls xs W (r :: L) = needR s ls xs (W ++ hids s ls xs r) L ++ [r] := by
          show (if r.1 ∈ W then _ else _) = _
          rw [if_pos c]
        rw [t, next_nx, e, hn, List.reverse_append, List.append_assoc]
        rfl
      · obtain ⟨W', e⟩ := ih W K (fun r hr => hL r (List.mem_cons_of_mem _ hr)) (by omega) (by omega)
        refine ⟨W', ?_⟩
        rw [decide_eq_false c] at hin
        have t : turn (tgN 8) b_because_3 (eR r) (st W K .no .no .no) = .nx (st W K .no .no .no) := by
          simp only [st]
          generalize marksD W = mw at *
          generalize marksD xs = mx at *
          generalize e3 r.1 = er1 at *
          generalize eR r = er at *
          simp -implicitDefEqProofs [turn_N, b_because_3, f0, hin]
        have hn : needR s ls xs W (r :: L) = needR s ls xs W L := by
          show (if r.1 ∈ W then _ else _) = _
          rw [if_neg c]
        rw [t, next_nx, e, hn]
  obtain ⟨W', e⟩ := outer rs.reverse [g] [] (fun r hm => hr r (List.mem_reverse.mp hm)) (by rw [List.length_reverse]; simp; omega) (by rw [List.length_reverse]; simp; omega)
  rw [List.map_reverse, List.nil_append] at e
  simp only [st] at e
  rw [marks_one, List.map_nil] at e
  have ap : q_because [e3 s, .lst (ls.map eL), .lst (xs.map e3), .lst (rs.map eR), e3 g] = resM (d_because [.sh (e3 s), .sh (.lst (ls.map eL)), .sh (.lst (xs.map e3)), .sh (.lst (rs.map eR)), .sh (e3 g), .no, .no, .no, .no, .no, .no]) := rfl
  have hk : keyOf [.int g.1, .int g.2.1, .int g.2.2] = some (k3 g) := rfl
  have e3g : e3 g = .tup [.int g.1, .int g.2.1, .int g.2.2] := rfl
  have hrev : (((needs s ls xs rs g).reverse).map eR).reverse = (needs s ls xs rs g).map eR := by
    rw [List.map_reverse, List.reverse_reverse]
  change _ = Res.nx [_, _, _, _, _, _, _, .ow (.lst (((needs s ls xs rs g).reverse).map eR)), _, _, _] at e
  have hmw : isMut (.dct [(k3 g, D.bl true)]) = true := rfl
  rw [ap]
  generalize ((needs s ls xs rs g).reverse).map eR = kr at *
  generalize (needs s ls xs rs g).map eR = kn at *
  generalize marksD W' = mw at *
  generalize marksD xs = mx at *
  generalize rs.map eR = rr at *
  generalize xs.map e3 = xx at *
  generalize ls.map eL = ll at *
  rw [e3g] at e ⊢
  simp -implicitDefEqProofs [d_because, hm, hk, hmw, e, hrev, resM, sizeLine_eq]

/-! ### papers stand -/
def Fit (s : P3) (n : Now) : Prop := NowOk s n ∧ Stands s (lksN n) (lackP (places s) n.gone) (n.paper.map toG) n.stand
theorem fit_fresh {s : P3} (h : Sz 6 s) : Fit s (fresh s).now := ⟨(fresh_ok h).now, by
  have : lackP (places s) [] = places s := by simp [lackP]
  show Stands s [] (lackP (places s) []) [] (places s)
  rw [this]
  exact .nil _⟩

/-! ### why a place goes -/
theorem q_shop_why (p : Addr) (S : Shop) (d : D) (q : P3) (hd : PlD d q) (hs : ShopOk S) (hf : Fit S.s S.now) : q_Workshop_why [eSh p S, d] =
    if inB S.s q = false then .ex (.own "NoPlace") else if q ∈ S.now.gone ∨ q ∈ (carveP S.s (lksN S.now) [] S.now.stand).1 then .ex (.own "NotCarved")
    else .ok (.lst ((needs S.s (lksN S.now) (lackP (places S.s) S.now.gone) (S.now.paper ++ (carveP S.s (lksN S.now) [] S.now.stand).2) q).map eR)) := by
  have h1 := q_shop_placed p S d q hd
  have ls := sub_len hs.sz hs.now.st
  have lk : ∀ l, l ∈ lksN S.now → LkOk S.s l := fun l hl => by
    obtain ⟨y, hy, rfl⟩ := List.mem_map.mp hl
    exact (hs.now.lk y hy).1
  have ll : (lksN S.now).length ≤ 8 := by unfold lksN; rw [List.length_map]; exact hs.now.el
  have h2 := q_shop_looks p S (by have := hs.now.el; omega)
  have h3 := q_carve_ok S.s (lksN S.now) S.now.stand [] (sz100 hs.sz) lk (fun o ho => sub_in hs.now.st ho) (by omega) (by omega)
  rw [List.map_nil] at h3
  change q_carve [e3 S.s, .lst ((S.now.eyes.map Ey.l).map eL), .lst (S.now.stand.map e3), .lst []] = _ at h3
  have ap : q_Workshop_why [eSh p S, d] = resM (d_Workshop_why [.sh (eSh p S), .sh d, .no, .no, .no, .no]) := rfl
  rw [ap]
  cases hb : inB S.s q with
  | false =>
    rw [hb, if_neg (by decide)] at h1
    rw [if_pos rfl]
    simp -implicitDefEqProofs [d_Workshop_why, h1, resM]
  | true =>
    rw [hb, if_pos rfl] at h1
    rw [if_neg (by decide)]
    have i1 := in_e3s q S.now.gone
    have i2 := in_e3s q (carveP S.s (lksN S.now) [] S.now.stand).1
    obtain ⟨hpo, hag⟩ := carveP_spec S.s (lksN S.now) [] S.now.stand
    have hst := hf.2.app hpo.stands
    have h4 := q_places S.s (sz100 hs.sz)
    have h5 := q_lacking_ok (places S.s) S.now.gone (by have := places216 hs.sz; omega) (by have := sub_len hs.sz hs.now.gn; omega)
    have hlen := hst.len
    rw [List.length_append, List.length_map, List.length_map] at hlen
    have hlk : (lackP (places S.s) S.now.gone).length ≤ 216 := Nat.le_trans (lackP_sub _ _).length_le (places216 hs.sz)
    have h6 := q_because_ok S.s (lksN S.now) (lackP (places S.s) S.now.gone) (S.now.paper ++ (carveP S.s (lksN S.now) [] S.now.stand).2) q (sz100 hs.sz) lk (by omega) (fun r hr => by
      have hr' : toG r ∈ S.now.paper.map toG ++ (carveP S.s (lksN S.now) [] S.now.stand).2.map toG := by
        rw [← List.map_append]
        exact List.mem_map_of_mem hr
      obtain ⟨zs, hz, hzs⟩ := hst.row_at hr'
      obtain ⟨a1, ⟨a2, a3⟩, a, b, g1, g2, _⟩ := sayB_iff.mp hz
      have k1 := (List.getElem?_eq_some_iff.mp g1).1
      have k2 := (List.getElem?_eq_some_iff.mp g2).1
      simp only [toG, Int.toNat_natCast] at k1 k2
      exact ⟨sub_in (lackP_sub _ _) (hzs _ a1), k1, k2⟩) (by rw [List.length_append]; omega)
    rw [List.map_append] at h6
    change q_because [e3 S.s, .lst ((S.now.eyes.map Ey.l).map eL), _, _, _] = _ at h6
    have lf1 : lfA (S.now.paper.map eR) = true := lfA_map (fun r => rfl) _
    have lf2 : lfA ((carveP S.s (lksN S.now) [] S.now.stand).2.map eR) = true := lfA_map (fun r => rfl) _
    have hz : S.now.paper.length + ((carveP S.s (lksN S.now) [] S.now.stand).2.map eR).length ≤ 16777216 := by
      rw [List.length_map]; omega
    change q_lacking [.lst ((places S.s).map e3), .lst (S.now.gone.map e3)] = .ok (.lst ((lackP (places S.s) S.now.gone).map e3)) at h5
    by_cases g1 : q ∈ S.now.gone
    · rw [decide_eq_true g1] at i1
      rw [if_pos (.inl g1)]
      generalize (carveP S.s (lksN S.now) [] S.now.stand).1.map e3 = z1 at *
      generalize (carveP S.s (lksN S.now) [] S.now.stand).2.map eR = z2 at *
      generalize (S.now.eyes.map Ey.l).map eL = z3 at *
      simp -implicitDefEqProofs [d_Workshop_why, h1, h2, h3, i1, resM]
    · rw [decide_eq_false g1] at i1
      by_cases g2 : q ∈ (carveP S.s (lksN S.now) [] S.now.stand).1
      · rw [decide_eq_true g2] at i2
        rw [if_pos (.inr g2)]
        generalize (carveP S.s (lksN S.now) [] S.now.stand).1.map e3 = z1 at *
        generalize (carveP S.s (lksN S.now) [] S.now.stand).2.map eR = z2 at *
        generalize (S.now.eyes.map Ey.l).map eL = z3 at *
        simp -implicitDefEqProofs [d_Workshop_why, h1, h2, h3, i1, i2, resM]
      · rw [decide_eq_false g2] at i2
        rw [if_neg (by simp [g1, g2])]
        generalize (needs S.s (lksN S.now) (lackP (places S.s) S.now.gone) (S.now.paper ++ (carveP S.s (lksN S.now) [] S.now.stand).2) q).map eR = zn at *
        generalize (lackP (places S.s) S.now.gone).map e3 = zl at *
        generalize (carveP S.s (lksN S.now) [] S.now.stand).1.map e3 = z1 at *
        generalize (carveP S.s (lksN S.now) [] S.now.stand).2.map eR = z2 at *
        generalize (S.now.eyes.map Ey.l).map eL = z3 at *
        generalize (places S.s).map e3 = z7 at *
        simp -implicitDefEqProofs [d_Workshop_why, h1, h2, h3, h4, h5, h6, i1, i2, lf1, lf2, hz, resM, sizeLine_eq]

/-! ### alike -/
def Al (n : Nat) (x y : D) : Prop := q_L_alike n [x, y] = .ok (.bl true)
def AlL (n : Nat) : List D → List D → Prop
  | [], [] => True
  | x :: xs, y :: ys => Al n x y ∧ AlL n xs ys
  | _, _ => False
theorem AlL.len {n : Nat} : ∀ {xs ys : List D}, AlL n xs ys → xs.length = ys.length
  | [], [], _ => rfl
  | x :: xs, y :: ys, h => congrArg (· + 1) (AlL.len h.2)
  | [], _ :: _, h => h.elim
  | _ :: _, [], h => h.elim
theorem AlL.refl {n : Nat} : ∀ {xs : List D}, (∀ x, x ∈ xs → Al n x x) → AlL n xs xs
  | [], _ => trivial
  | x :: xs, h => ⟨h x List.mem_cons_self, AlL.refl fun y hy => h y (List.mem_cons_of_mem _ hy)⟩
theorem al_comp {n : Nat} {ρ : Rho} (hρ : ∀ x y : D, eCall (q_L_alike n) (aCons (eV 2) (aCons (eV 3) aNil)) ((ρ.set 2 (.sh x)).set 3 (.sh y)) = q_L_alike n [x, y]) : ∀ {xs ys : List D}, AlL n xs ys →
    compL (tgT 2 (tgCons (tgN 2) (tgCons (tgN 3) tgNil))) cYes (e_L_alike_1 (q_L_alike n)) ρ (zipD xs ys) = .ok (xs.map fun _ => .bl true)
  | [], [], _ => rfl
  | x :: xs, y :: ys, h => by
    have ih := al_comp hρ h.2
    have e : q_L_alike n [x, y] = .ok (.bl true) := h.1
    rw [zipD, compL_cons, ih, pick_all]
    have e2 := hρ x y
    rw [e] at e2
    simp only [tgT_ap, tgCons_ap, tgNil_ap, tgN_ap, List.length_cons, List.length_nil, if_pos, e_L_alike_1, e2, bind_ok, List.map_cons]
  | [], _ :: _, h => h.elim
  | _ :: _, [], h => h.elim
theorem bools_true : ∀ xs : List D, bools (xs.map fun _ => D.bl true) = some (xs.map fun _ => true)
  | [] => rfl
  | x :: xs => by simp [bools, bools_true xs]
theorem al_seq {n : Nat} {x y : D} {xs ys : List D} (hx : (x = .lst xs ∧ y = .lst ys) ∨ (tupD x = some xs ∧ tupD y = some ys)) (hl : xs.length ≤ sizeLine) (h : AlL n xs ys) : Al (n + 1) x y := by
  unfold Al q_L_alike runF
  have hc := al_comp (n := n) (ρ := [.sh x, .sh y, .no, .no]) (fun a b => by simp) h
  have hz : zipG [x, y] = .ok (zipD xs ys) := by
    rcases hx with ⟨rfl, rfl⟩ | ⟨hx, hy⟩
    · rfl
    · cases x <;> try (cases hx; done)
      all_goals cases y <;> try (cases hy; done)
      all_goals (cases hx; cases hy; rfl)
  have i1 : instD .bool x = false ∧ instD .bool y = false ∧ ∃ t, instD .tuple x = t ∧ instD .tuple y = t ∧ instD .list x = (!t) ∧ instD .list y = (!t) := by
    rcases hx with ⟨rfl, rfl⟩ | ⟨hx, hy⟩
    · exact ⟨rfl, rfl, false, rfl, rfl, rfl, rfl⟩
    · cases x <;> try (cases hx; done)
      all_goals cases y <;> try (cases hy; done)
      all_goals exact ⟨rfl, rfl, true, rfl, rfl, rfl, rfl⟩
  have l1 : lenG [x] = .ok (.int xs.length) := by
    rcases hx with ⟨rfl, rfl⟩ | ⟨hx, hy⟩
    · rfl
    · cases x <;> try (cases hx; done)
      all_goals (cases hx; rfl)
  have l2 : lenG [y] = .ok (.int ys.length) := by
    rcases hx with ⟨rfl, rfl⟩ | ⟨hx, hy⟩
    · rfl
    · cases y <;> try (cases hy; done)
      all_goals (cases hy; rfl)
  obtain ⟨b1, b2, t, b3, b4, b5, b6⟩ := i1
  have hl2 := h.len
  have o1 : isOb x = false ∧ isOb y = false := by
    rcases hx with ⟨rfl, rfl⟩ | ⟨hx, hy⟩
    · exact ⟨rfl, rfl⟩
    · cases x <;> try (cases hx; done)
      all_goals cases y <;> try (cases hy; done)
      all_goals exact ⟨rfl, rfl⟩
  obtain ⟨o1, o2⟩ := o1
  cases t <;> simp [d_L_alike, o1, o2, b1, b2, b3, b4, b5, b6, l1, l2, hl2, hz, zipD_len, show ys.length ≤ sizeLine by omega, hc, resM, allG, bools_true]
theorem al_lst {n : Nat} {xs ys : List D} (hl : xs.length ≤ sizeLine) (h : AlL n xs ys) : Al (n + 1) (.lst xs) (.lst ys) := al_seq (.inl ⟨rfl, rfl⟩) hl h
theorem al_tup {n : Nat} {xs ys : List D} (hl : xs.length ≤ sizeLine) (h : AlL n xs ys) : Al (n + 1) (.tup xs) (.tup ys) := al_seq (.inr ⟨rfl, rfl⟩) hl h
theorem al_int (n : Nat) (i : Int) : Al (n + 1) (.int i) (.int i) := by
  unfold Al q_L_alike runF
  simp [d_L_alike, show instD .bool (.int i) = false from rfl, show instD .tuple (.int i) = false from rfl, show instD .list (.int i) = false from rfl, resM]
theorem al_bl (n : Nat) (i : Bool) : Al (n + 1) (.bl i) (.bl i) := by
  unfold Al q_L_alike runF
  simp [d_L_alike, show instD .bool (.bl i) = true from rfl, show instD .tuple (.bl i) = false from rfl, show instD .list (.bl i) = false from rfl, resM]
theorem al_str (n : Nat) (i : Str) : Al (n + 1) (.str i) (.str i) := by
  unfold Al q_L_alike runF
  simp [d_L_alike, show instD .bool (.str i) = false from rfl, show instD .tuple (.str i) = false from rfl, show instD .list (.str i) = false from rfl, resM]
theorem al_non (n : Nat) : Al (n + 1) .non .non := by
  unfold Al q_L_alike runF
  simp [d_L_alike, show instD .bool .non = false from rfl, show instD .tuple .non = false from rfl, show instD .list .non = false from rfl, resM]
mutual
def plainD : Nat → D → Bool
  | 0, _ => false
  | _ + 1, .int _ => true
  | _ + 1, .bl _ => true
  | _ + 1, .str _ => true
  | _ + 1, .non => true
  | n + 1, .lst ds => decide (ds.length ≤ sizeLine) && plainA n ds
  | n + 1, .tup ds => decide (ds.length ≤ sizeLine) && plainA n ds
  | n + 1, .kt ds => decide (ds.length ≤ sizeLine) && plainA n ds
  | _, _ => false
def plainA : Nat → List D → Bool
  | _, [] => true
  | n, d :: ds => plainD n d && plainA n ds
end
theorem plainA_mem {n : Nat} : ∀ {ds : List D}, plainA n ds = true → ∀ d, d ∈ ds → plainD n d = true
  | [], _, _, h => nomatch h
  | x :: xs, e, d, h => by
    simp [plainA] at e
    rcases List.mem_cons.mp h with rfl | h
    · exact e.1
    · exact plainA_mem e.2 d h
theorem al_self : ∀ (n : Nat) (d : D), plainD n d = true → Al n d d
  | 0, d, h => by cases d <;> simp [plainD] at h
  | n + 1, .int i, _ => al_int n i
  | n + 1, .bl i, _ => al_bl n i
  | n + 1, .str i, _ => al_str n i
  | n + 1, .non, _ => al_non n
  | n + 1, .lst ds, h => by
    simp only [plainD, Bool.and_eq_true, decide_eq_true_eq] at h
    exact al_lst h.1 (AlL.refl fun d hd => al_self n d (plainA_mem h.2 d hd))
  | n + 1, .tup ds, h => by
    simp only [plainD, Bool.and_eq_true, decide_eq_true_eq] at h
    exact al_tup h.1 (AlL.refl fun d hd => al_self n d (plainA_mem h.2 d hd))
  | n + 1, .kt ds, h => by
    simp only [plainD, Bool.and_eq_true, decide_eq_true_eq] at h
    exact al_seq (.inr ⟨rfl, rfl⟩) h.1 (AlL.refl fun d hd => al_self n d (plainA_mem h.2 d hd))
  | n + 1, .fz ds, h => by simp [plainD] at h
  | n + 1, .dct ds, h => by simp [plainD] at h
  | n + 1, .dk ds, h => by simp [plainD] at h
theorem plainA_map {α : Type} {n : Nat} {e : α → D} (h : ∀ x, plainD n (e x) = true) : ∀ xs : List α, plainA n (xs.map e) = true
  | [] => rfl
  | x :: xs => by simp [plainA, h, plainA_map h xs]
theorem alike_self {n : Nat} {d : D} (h : plainD n d = true) : q_L_alike n [d, d] = .ok (.bl true) := al_self n d h

theorem alike_e3 (p : P3) : q_L_alike 6 [e3 p, e3 p] = .ok (.bl true) := alike_self (by simp [e3, plainD, plainA, sizeLine_eq])
theorem plain_e3 (n : Nat) (p : P3) : plainD (n + 2) (e3 p) = true := by simp [e3, plainD, plainA, sizeLine_eq]
theorem plain_eR (n : Nat) (r : BRow) : plainD (n + 3) (eR r) = true := by simp [eR, plainD, plainA, sizeLine_eq, plain_e3]
/-! ### digits -/
def digSt (a : D) (k base many c0 : Int) (s : Int × List Int) : Rho := [.sh a, .sh (.int k), .sh (.int base), .sh (.int many), .sh (.int c0), .fr (.int s.1), .ow (.lst (s.2.map .int)), .no]
theorem t_digits1 (a : D) (k base many c0 : Int) (s : Int × List Int) (t : Int) (hb : 0 < base ∧ base < 1000000) (hl : s.2.length < 1000) :
    turn (tgN 7) b_L_digits_1 (.int t) (digSt a k base many c0 s) = .nx (digSt a k base many c0 (s.1 / base, s.2 ++ [s.1 % base])) := by
  simp [digSt, b_L_digits_1, mod_ok (show 0 < base by omega), fdivN_ok (show 0 < base ∧ base < 1073741824 by omega), sizeLine_eq, show s.2.length < 16777216 by omega]
theorem t_digits2 (a : D) (k base many c0 : Int) (s : Int × List Int) (t : Int) (hb : 0 < base ∧ base < 1000000) (hl : s.2.length < 1000) :
    turn (tgN 7) b_L_digits_2 (.int t) (digSt a k base many c0 s) = .nx (digSt a k base many c0 ((s.1 * 48271 + 1) % 2147483647, s.2 ++ [(s.1 * 48271 + 1) % 2147483647 / 1009 % base])) := by
  simp [digSt, b_L_digits_2, mul_ok (j := 48271) (i := s.1) (by omega), mod_ok (j := 2147483647) (by omega), mod_ok (show 0 < base by omega), fdiv_ok (j := 1009) (by omega), sizeLine_eq, show s.2.length < 16777216 by omega]
theorem q_digits (ns : List Int) (k base many : Int) (hk : 0 ≤ k ∧ k < 1000000) (hb : 0 < base ∧ base < 1000000) (hm : 0 ≤ many ∧ many < 1000) (hn : ns.length ≤ 63) :
    ∃ L : List Int, L.length = many.toNat ∧ (∀ x, x ∈ L → 0 ≤ x ∧ x < base) ∧ q_L_digits [.fz (ns.map .int), .int k, .int base, .int many] = .ok (.lst (L.map .int)) := by
  have cell : ∃ c : Int, sIf (eB (eOp ltG (eV 1) (eBlt lenG (aCons (eV 0) aNil)))) (sSh 4 (eOp idxG (eV 0) (eV 1))) sNil [.sh (.fz (ns.map .int)), .sh (.int k), .sh (.int base), .sh (.int many), .sh (.int 0), .no, .no, .no]
      = .nx [.sh (.fz (ns.map .int)), .sh (.int k), .sh (.int base), .sh (.int many), .sh (.int c), .no, .no, .no] := by
    by_cases h : k < ns.length
    · have e : (ns.map D.int)[k.toNat]? = some (.int (ns[k.toNat]'(by omega))) := by simp [show k.toNat < ns.length by omega]
      exact ⟨ns[k.toNat]'(by omega), by simp [h, atI_ok hk.1 e]⟩
    · exact ⟨0, by simp [h]⟩
  obtain ⟨c, cell⟩ := cell
  have run : ∀ (b : Rho → Res) (g : Int → Int × Int) (n : Int), (∀ (s : Int × List Int) (t : Int), s.2.length < 1000 → turn (tgN 7) b (.int t) (digSt (.fz (ns.map .int)) k base many c s) = .nx (digSt (.fz (ns.map .int)) k base many c ((g s.1).1, s.2 ++ [(g s.1).2]))) → (∀ x, 0 ≤ (g x).2 ∧ (g x).2 < base) →
      ∃ (n' : Int) (L : List Int), L.length = many.toNat ∧ (∀ x, x ∈ L → 0 ≤ x ∧ x < base) ∧ forR (tgN 7) b (rngD 0 many.toNat) (digSt (.fz (ns.map .int)) k base many c (n, [])) = .nx (digSt (.fz (ns.map .int)) k base many c (n', L)) := by
    intro b g n ht hg
    have key : ∀ (m : Nat) (i : Nat) (n : Int) (L : List Int), L.length + m ≤ 1000 → (∀ x, x ∈ L → 0 ≤ x ∧ x < base) → ∃ (n' : Int) (L' : List Int), L'.length = L.length + m ∧ (∀ x, x ∈ L' → 0 ≤ x ∧ x < base) ∧
        forR (tgN 7) b ((List.range' i m).map fun i => D.int (0 + (i : Nat))) (digSt (.fz (ns.map .int)) k base many c (n, L)) = .nx (digSt (.fz (ns.map .int)) k base many c (n', L')) := by
      intro m
      induction m with
      | zero => exact fun i n L hl hL => ⟨n, L, rfl, hL, rfl⟩
      | succ m ih =>
        intro i n L hl hL
        obtain ⟨n', L', h1, h2, h3⟩ := ih (i + 1) (g n).1 (L ++ [(g n).2]) (by simp only [List.length_append, List.length_singleton]; omega) (fun x hx => by
          rcases List.mem_append.mp hx with h | h
          · exact hL x h
          · rw [List.mem_singleton.mp h]; exact hg n)
        refine ⟨n', L', by rw [h1]; simp only [List.length_append, List.length_singleton]; omega, h2, ?_⟩
        rw [List.range'_succ, List.map_cons, forR_cons, ht (n, L) _ (by simp only; omega), next_nx]
        exact h3
    obtain ⟨n', L, h1, h2, h3⟩ := key many.toNat 0 n [] (by simp only [List.length_nil]; omega) (fun x hx => nomatch hx)
    refine ⟨n', L, by simpa using h1, h2, ?_⟩
    rw [rngD_map, List.range_eq_range']
    exact h3
  have e0 : q_L_digits [.fz (ns.map .int), .int k, .int base, .int many] = resM (d_L_digits [.sh (.fz (ns.map .int)), .sh (.int k), .sh (.int base), .sh (.int many), .no, .no, .no, .no]) := rfl
  rw [e0]
  unfold d_L_digits
  rw [sSeq_ap, sSh_ap, eC_ap, ofM_ok, then_nx, sSeq_ap, show ([Sl.sh (.fz (ns.map .int)), .sh (.int k), .sh (.int base), .sh (.int many), .no, .no, .no, .no] : Rho).set 4 (.sh (.int 0)) = [.sh (.fz (ns.map .int)), .sh (.int k), .sh (.int base), .sh (.int many), .sh (.int 0), .no, .no, .no] from rfl, cell, then_nx]
  by_cases big : 10 ^ 18 ≤ (if c < 0 then -c else c)
  · obtain ⟨n', L, h1, h2, h3⟩ := run b_L_digits_1 (fun n => (n / base, n % base)) (if c < 0 then -c else c) (fun s t hs => t_digits1 _ k base many c s t hb hs) (fun x => ⟨Int.emod_nonneg _ (by omega), Int.emod_lt_of_pos _ (by omega)⟩)
    refine ⟨L, h1, h2, ?_⟩
    simp only [digSt, List.map_nil] at h3
    have big' : (1000000000000000000 : Int) ≤ if c < 0 then -c else c := big
    simp [big', show many < 4611686018427387904 by omega, show (-4611686018427387904 : Int) ≤ many by omega, h3, resM, sizeLine_eq]
  · obtain ⟨n', L, h1, h2, h3⟩ := run b_L_digits_2 (fun n => ((n * 48271 + 1) % 2147483647, (n * 48271 + 1) % 2147483647 / 1009 % base)) ((c * 7919 + k * 104729 + 17) % 2147483647 + (c * 7919 + k * 104729 + 17) % 2147483647 * ((c * 7919 + k * 104729 + 17) % 2147483647) % 1000000007) (fun s t hs => t_digits2 _ k base many c s t hb hs) (fun x => ⟨Int.emod_nonneg _ (by omega), Int.emod_lt_of_pos _ (by omega)⟩)
    refine ⟨L, h1, h2, ?_⟩
    simp only [digSt, List.map_nil] at h3
    have big' : ¬ (1000000000000000000 : Int) ≤ if c < 0 then -c else c := big
    have w1 := Int.emod_nonneg (c * 7919 + k * 104729 + 17) (show (2147483647 : Int) ≠ 0 by decide)
    have w2 := Int.emod_lt_of_pos (c * 7919 + k * 104729 + 17) (show (0 : Int) < 2147483647 by decide)
    simp [big', show many < 4611686018427387904 by omega, show (-4611686018427387904 : Int) ≤ many by omega, mul_ok (i := c) (j := 7919) (by omega), mul_ok (i := k) (j := 104729) (by omega), mod_ok (j := 2147483647) (by omega), mod_ok (j := 1000000007) (by omega), mul_ok (i := (c * 7919 + k * 104729 + 17) % 2147483647) (j := (c * 7919 + k * 104729 + 17) % 2147483647) (by omega), h3, resM, sizeLine_eq]

/-! ### one digit -/
theorem q_one (ns : List Int) (k base : Int) (hk : 0 ≤ k ∧ k < 1000000) (hb : 0 < base ∧ base < 1000000) (hn : ns.length ≤ 63) :
    ∃ x : Int, 0 ≤ x ∧ x < base ∧ q_L_one [.fz (ns.map .int), .int k, .int base] = .ok (.int x) := by
  obtain ⟨L, h1, h2, h3⟩ := q_digits ns k base 1 hk hb (by decide) hn
  match L, h1, h2, h3 with
  | [x], _, h2, h3 =>
    exact ⟨x, (h2 x List.mem_cons_self).1, (h2 x List.mem_cons_self).2, by simp [q_L_one, runF, d_L_one, h3, resM]⟩

/-! ### places -/
theorem q_letter (n : Int) : ∃ c : Nat, Letter c ∧ q_L_letter [.int n] = .ok (eS c) := by
  have m := mod_ok (i := n) (j := 26) (by decide)
  have h0 := Int.emod_nonneg n (show (26 : Int) ≠ 0 by decide)
  have h1 := Int.emod_lt_of_pos n (show (0 : Int) < 26 by decide)
  have hi : (n % 26).toNat < abc.length := by show (n % 26).toNat < 26; omega
  have hx : idxG (.str (Str.ofString "abcdefghijklmnopqrstuvwxyz")) (.int (n % 26)) = .ok (eS (abc[(n % 26).toNat])) := by
    rw [abc_eq]
    exact atI_str (by decide) (atI_ok h0 (List.getElem?_eq_getElem hi))
  refine ⟨abc[(n % 26).toNat], abc_all _ (List.getElem_mem hi), ?_⟩
  simp -implicitDefEqProofs [q_L_letter, runF, d_L_letter, m, hx, resM]

/-! ### drawn names -/
theorem q_Lname (n : Int) : ∃ nm : List Nat, (∀ c, c ∈ nm → Letter c) ∧ 1 ≤ nm.length ∧ nm.length ≤ 12 ∧ q_L_name [.int n] = .ok (eT nm) := by
  obtain ⟨c, hc, ec⟩ := q_letter (n / 5 + 8)
  have m := mod_ok (i := n) (j := 5) (by decide)
  have f := fdiv_ok (i := n) (j := 5) (by decide)
  obtain ⟨l, a, hla, h0, h1⟩ : ∃ l a : Int, (0 ≤ a ∧ a < l ∧ l ≤ 12) ∧ idxG (.tup [.int 1, .int 4, .int 7, .int 12, .int 2]) (.int (n % 5)) = .ok (.int l) ∧ idxG (.tup [.int 0, .int 2, .int 6, .int 3, .int 1]) (.int (n % 5)) = .ok (.int a) := by
    have : n % 5 = 0 ∨ n % 5 = 1 ∨ n % 5 = 2 ∨ n % 5 = 3 ∨ n % 5 = 4 := by omega
    rcases this with q | q | q | q | q <;> rw [q]
    · exact ⟨1, 0, by decide, by simp, by simp⟩
    · exact ⟨4, 2, by decide, by simp, by simp⟩
    · exact ⟨7, 6, by decide, by simp, by simp⟩
    · exact ⟨12, 3, by decide, by simp, by simp⟩
    · exact ⟨2, 1, by decide, by simp, by simp⟩
  have r1 := mul_eS 101 a ⟨hla.1, by omega⟩
  have r2 := mul_eS 101 (l - 1 - a) ⟨by omega, by omega⟩
  have a1 := add_eT (List.replicate a.toNat 101) [c] (by simp; omega)
  have a2 := add_eT (List.replicate a.toNat 101 ++ [c]) (List.replicate (l - 1 - a).toNat 101) (by simp; omega)
  refine ⟨List.replicate a.toNat 101 ++ [c] ++ List.replicate (l - 1 - a).toNat 101, fun x hx => ?_, by simp; omega, by simp; omega, ?_⟩
  · simp only [List.mem_append, List.mem_replicate, List.mem_singleton] at hx
    rcases hx with (h | h) | h
    · rw [h.2]; exact ⟨by decide, by decide⟩
    · rw [h]; exact hc
    · rw [h.2]; exact ⟨by decide, by decide⟩
  · rw [← eS_eT] at a1
    have ee : D.str (Str.ofString "e") = eS 101 := by rw [str_e]; rfl
    generalize eT (List.replicate a.toNat 101) = d1 at *
    generalize eT (List.replicate a.toNat 101 ++ [c]) = d2 at *
    generalize eT (List.replicate (l - 1 - a).toNat 101) = d3 at *
    generalize eT (List.replicate a.toNat 101 ++ [c] ++ List.replicate (l - 1 - a).toNat 101) = d4 at *
    generalize eS c = d5 at *
    simp -implicitDefEqProofs [q_L_name, runF, d_L_name, m, f, h0, h1, ee, r1, r2, a1, a2, ec, resM, sizeLine_eq]

/-! ### the nine answers -/
def anA (s : P3) (n : Now) : List D := [.lst (n.eyes.map fun y => eT y.nm), .lst ((n.eyes.map Ey.l).map eL), .lst (n.gone.map e3), .lst (n.sure.map e3), .lst (n.stand.map e3), .lst (n.paper.map eR), .lst ((brows s (lksN n) n.stand).map eR), .lst ((carv s (lksN n) n.stand).map e3), .lst ((lackP n.sure (carv s (lksN n) n.stand)).map e3)]
def anD (s : P3) (n : Now) : D := .lst (anA s n)
theorem q_Lanswers (p : Addr) (S : Shop) (hs : ShopOk S) : q_L_answers [eSh p S] = .ok (anD S.s S.now) := by
  have l1 := sub_len hs.sz hs.now.gn
  have l2 := sub_len hs.sz hs.now.su
  have l3 := sub_len hs.sz hs.now.st
  have l4 := hs.now.l1 hs.sz
  have l5 := hs.now.el
  have h1 := q_shop_names p S (by omega)
  have h2 := q_shop_looks p S (by omega)
  have h3 := q_shop_gone p S (by omega)
  have h4 := q_shop_sure p S (by omega)
  have h5 := q_shop_standing p S (by omega)
  have h6 := q_shop_paper p S (by omega)
  have h7 := q_shop_loose p S hs
  have h8 := q_shop_end p S hs
  have h9 := q_shop_quarrel p S hs
  have e : q_L_answers [eSh p S] = resM (d_L_answers [.sh (eSh p S), .no]) := rfl
  rw [e]
  unfold anD anA
  generalize (S.now.eyes.map fun y => eT y.nm) = a1 at *
  generalize (S.now.eyes.map Ey.l).map eL = a2 at *
  generalize S.now.gone.map e3 = a3 at *
  generalize (lackP S.now.sure (carv S.s (lksN S.now) S.now.stand)).map e3 = a9 at *
  generalize S.now.sure.map e3 = a4 at *
  generalize (carv S.s (lksN S.now) S.now.stand).map e3 = a8 at *
  generalize S.now.stand.map e3 = a5 at *
  generalize S.now.paper.map eR = a6 at *
  generalize (brows S.s (lksN S.now) S.now.stand).map eR = a7 at *
  simp -implicitDefEqProofs [d_L_answers, h1, h2, h3, h4, h5, h6, h7, h8, h9, addE, sizeLine_eq, resM]
/-- a list of plain leaves -/
structure LfL (d : D) : Prop where
  p : ∃ ds : List D, d = .lst ds ∧ lfA ds = true ∧ ds.length ≤ 1000 ∧ ds.all nlD = true ∧ plainA 4 ds = true
theorem lfL_map {α : Type} (f : α → D) (xs : List α) (h1 : ∀ x, lf (f x) = true) (h2 : ∀ x, nlD (f x) = true) (h3 : ∀ x, plainD 4 (f x) = true) (hl : xs.length ≤ 1000) : LfL (.lst (xs.map f)) :=
  ⟨⟨_, rfl, lfA_map h1 xs, by rw [List.length_map]; exact hl, by rw [List.all_map]; exact List.all_eq_true.mpr fun x _ => h2 x, plainA_map h3 xs⟩⟩
theorem an_leaf {s : P3} {n : Now} (hs : Sz 6 s) (h : NowOk s n) : ∀ d, d ∈ anA s n → LfL d := by
  have l1 := sub_len hs h.gn
  have l2 := sub_len hs h.su
  have l3 := sub_len hs h.st
  have l4 := h.l1 hs
  have l5 := h.el
  have l6 : (brows s (lksN n) n.stand).length ≤ 216 := Nat.le_trans (rowL_len _ _) l3
  have l7 : (carv s (lksN n) n.stand).length ≤ 216 := Nat.le_trans (carv_sub _ _ _).length_le l3
  have l8 : (lackP n.sure (carv s (lksN n) n.stand)).length ≤ 216 := Nat.le_trans (lackP_sub _ _).length_le l2
  intro d hd
  unfold anA at hd
  simp only [List.mem_cons, List.not_mem_nil, or_false] at hd
  rcases hd with rfl | rfl | rfl | rfl | rfl | rfl | rfl | rfl | rfl
  · exact lfL_map _ _ (fun _ => rfl) (fun _ => rfl) (fun _ => rfl) (by omega)
  · exact lfL_map _ _ lf_eL (fun _ => rfl) (fun y => by simp [plainD, plainA, eL, e3, sizeLine_eq]) (by rw [List.length_map]; omega)
  · exact lfL_map _ _ lf_e3 (fun _ => rfl) (plain_e3 2) (by omega)
  · exact lfL_map _ _ lf_e3 (fun _ => rfl) (plain_e3 2) (by omega)
  · exact lfL_map _ _ lf_e3 (fun _ => rfl) (plain_e3 2) (by omega)
  · exact lfL_map _ _ lf_eR (fun _ => rfl) (plain_eR 1) (by omega)
  · exact lfL_map _ _ lf_eR (fun _ => rfl) (plain_eR 1) (by omega)
  · exact lfL_map _ _ lf_e3 (fun _ => rfl) (plain_e3 2) (by omega)
  · exact lfL_map _ _ lf_e3 (fun _ => rfl) (plain_e3 2) (by omega)
theorem flat_leaf {ds : List D} (hl : ds.length ≤ 1000) (h : ∀ d, d ∈ ds → LfL d) : flatL ds = true := by
  unfold flatL
  rw [Bool.and_eq_true, decide_eq_true_eq]
  refine ⟨by omega, List.all_eq_true.mpr fun d hd => ?_⟩
  obtain ⟨es, rfl, _, h2, h3, _⟩ := (h d hd).p
  simp only [h3, Bool.and_true, decide_eq_true_eq]
  omega
theorem alike_leaf {ds : List D} (hl : ds.length ≤ 1000) (h : ∀ d, d ∈ ds → LfL d) : q_L_alike 6 [.lst ds, .lst ds] = .ok (.bl true) := by
  refine alike_self ?_
  have hp : plainA 5 ds = true := by
    clear hl
    induction ds with
    | nil => rfl
    | cons d ds ih =>
      obtain ⟨es, rfl, _, h2, _, h4⟩ := (h d List.mem_cons_self).p
      simp only [plainA, ih fun x hx => h x (List.mem_cons_of_mem _ hx), Bool.and_true, plainD, h4, decide_eq_true_eq, sizeLine_eq]
      omega
  simp only [plainD, hp, Bool.and_true, decide_eq_true_eq, sizeLine_eq]
  omega
theorem an_len (s : P3) (n : Now) : (anA s n).length = 9 := rfl
theorem alike_an {s : P3} {n : Now} (hs : Sz 6 s) (h : NowOk s n) : q_L_alike 6 [anD s n, anD s n] = .ok (.bl true) := alike_leaf (by rw [an_len]; omega) (an_leaf hs h)

/-! ### a fresh workshop's refusals -/
theorem agr_no (s : P3) (xs : List P3) : Agr s [] xs := fun p hp => rfl
theorem carv_no (s : P3) : carv s [] (places s) = places s := (carv_eq (places_up s).nodup (List.Sublist.refl _) (agr_no s _) fun q hq => (carv_sub s [] (places s)).subset hq).symm
theorem carveP_no (s : P3) (picks : List Int) (xs : List P3) : (carveP s [] picks xs).1 = xs := by
  have h := (carveP_spec s [] picks xs).1
  generalize (carveP s [] picks xs).1 = ys at *
  generalize (carveP s [] picks xs).2 = rs at *
  cases h with
  | nil => rfl
  | cons hr _ =>
    rw [agr_rows.mpr (agr_no s xs)] at hr
    cases hr
theorem q_Lrefusals (p : Addr) (s : P3) (q : P3) (nm : List Nat) (hs : Sz 6 s) (hq : q ∈ places s) : q_L_refusals [eSh p (fresh s), e3 q, eT nm] = .ok (.lst [.bl true, .bl true, .bl true, .bl true]) (eSh p (fresh s)) := by
  have h1 := q_shop_back p (fresh s) (by simp [fresh]) (by simp [fresh])
  rw [show backA (fresh s) = none from rfl] at h1
  have h2 := q_shop_again p (fresh s) (by simp [fresh]) (by simp [fresh])
  rw [show againA (fresh s) = none from rfl] at h2
  have h3 := q_shop_look_no p (fresh s) nm rfl
  have h4 := q_shop_why p (fresh s) (e3 q) q (plD_e3 q) (fresh_ok hs) (fit_fresh hs)
  rw [if_neg (by rw [show inB (fresh s).s q = true from inB_iff.mpr (mem_places.mp hq)]; simp), if_pos (.inr (by
    rw [show lksN (fresh s).now = [] from rfl, carveP_no]
    exact hq))] at h4
  rw [q_L_refusals, runO_at _ _ _ _ _ _ _ _ (by rfl)]
  generalize fresh s = S at *
  generalize e3 q = dq at *
  have main : d_L_refusals [.ow (eSh p S), .sh dq, .sh (eT nm), .no, .no] = .rs (.lst [.bl true, .bl true, .bl true, .bl true]) [.ow (eSh p S), .sh dq, .sh (eT nm), .fr (.lst [.bl true, .bl true, .bl true, .bl true]), .no] := by
    unfold d_L_refusals
    rw [sSeq_ap, show sOw 3 (eLst aNil) [.ow (eSh p S), .sh dq, .sh (eT nm), .no, .no] = .nx [.ow (eSh p S), .sh dq, .sh (eT nm), .ow (.lst []), .no] by simp -implicitDefEqProofs [sizeLine_eq], then_nx]
    rw [sSeq_ap, show sTryE 4 [("NothingBack", fun a1 => (sBm 3 appE (aCons (eAndV (eIsE 4 a1 true) (eNotV (eIsE 4 a1 false))) aNil)))] b_L_refusals_1 [.ow (eSh p S), .sh dq, .sh (eT nm), .ow (.lst []), .no] = .nx [.ow (eSh p S), .sh dq, .sh (eT nm), .ow (.lst [.bl true]), .no] by exact sTryE_ex (c := "NothingBack") (ρ' := [.ow (eSh p S), .sh dq, .sh (eT nm), .ow (.lst []), .no]) (by simp -implicitDefEqProofs [b_L_refusals_1, h1]) pickE_hd (fun a => by simp -implicitDefEqProofs [appE, sizeLine_eq]), then_nx]
    rw [sSeq_ap, show sTryE 4 [("NothingAgain", fun a1 => (sBm 3 appE (aCons (eAndV (eIsE 4 a1 true) (eNotV (eIsE 4 a1 false))) aNil)))] b_L_refusals_2 [.ow (eSh p S), .sh dq, .sh (eT nm), .ow (.lst [.bl true]), .no] = .nx [.ow (eSh p S), .sh dq, .sh (eT nm), .ow (.lst [.bl true, .bl true]), .no] by exact sTryE_ex (c := "NothingAgain") (ρ' := [.ow (eSh p S), .sh dq, .sh (eT nm), .ow (.lst [.bl true]), .no]) (by simp -implicitDefEqProofs [b_L_refusals_2, h2]) pickE_hd (fun a => by simp -implicitDefEqProofs [appE, sizeLine_eq]), then_nx]
    rw [sSeq_ap, show sTryE 4 [("Unknown", fun a1 => (sBm 3 appE (aCons (eAndV (eIsE 4 a1 true) (eIsE 4 a1 true)) aNil)))] b_L_refusals_3 [.ow (eSh p S), .sh dq, .sh (eT nm), .ow (.lst [.bl true, .bl true]), .no] = .nx [.ow (eSh p S), .sh dq, .sh (eT nm), .ow (.lst [.bl true, .bl true, .bl true]), .no] by exact sTryE_ex (c := "Unknown") (ρ' := [.ow (eSh p S), .sh dq, .sh (eT nm), .ow (.lst [.bl true, .bl true]), .no]) (by simp -implicitDefEqProofs [b_L_refusals_3, h3]) pickE_hd (fun a => by simp -implicitDefEqProofs [appE, sizeLine_eq]), then_nx]
    rw [sSeq_ap, show sTryE 4 [("NoPlace", fun a1 => (sBm 3 appE (aCons (eAndV (eIsE 4 a1 false) (eNotV (eIsE 4 a1 false))) aNil))), ("NotCarved", fun a1 => (sBm 3 appE (aCons (eAndV (eIsE 4 a1 true) (eNotV (eIsE 4 a1 false))) aNil)))] b_L_refusals_4 [.ow (eSh p S), .sh dq, .sh (eT nm), .ow (.lst [.bl true, .bl true, .bl true]), .no] = .nx [.ow (eSh p S), .sh dq, .sh (eT nm), .ow (.lst [.bl true, .bl true, .bl true, .bl true]), .no] by exact sTryE_ex (c := "NotCarved") (ρ' := [.ow (eSh p S), .sh dq, .sh (eT nm), .ow (.lst [.bl true, .bl true, .bl true]), .no]) (by simp -implicitDefEqProofs [b_L_refusals_4, h4]) (pickE_tl (by decide +kernel) pickE_hd) (fun a => by simp -implicitDefEqProofs [appE, sizeLine_eq]), then_nx]
    simp -implicitDefEqProofs []
  show finO (eSh p S) (d_L_refusals [.ow (eSh p S), .sh dq, .sh (eT nm), .no, .no]) = _
  rw [main]
  simp [objOf_obj]

end Q
set_option Elab.async false
set_option linter.all false
set_option maxRecDepth 100000
namespace Q
open PySem L2 VL PySem.Spec PyProof.Rows
theorem q_Lall_lst (s : P3) (h : Sz 100 s) : q_L_all [.lst [.int s.1, .int s.2.1, .int s.2.2]] = .ok (.lst ((places s).map e3)) := by
  obtain ⟨a, b, c⟩ := s
  obtain ⟨ha, hb, hc⟩ := h
  simp only at ha hb hc
  have t1 (x y : Int) (acc : List D) (z : Int) (hl : acc.length < 1000001) : turn (tgN 4) b_L_all_1 (.int z) [.sh ((D.lst [.int a, .int b, .int c])), .ow (.lst acc), .sh (.int x), .sh (.int y), .no] = .nx [.sh ((D.lst [.int a, .int b, .int c])), .ow (.lst (acc ++ [e3 (x, y, z)])), .sh (.int x), .sh (.int y), .no] := by
    simp [b_L_all_1, sizeLine_eq, show acc.length < 16777216 by omega, e3]
  have l1 (x y : Int) : ((rng c).flatMap fun z => [e3 (x, y, z)]).length = c.toNat := by rw [flatMap_len _ 1 _ fun _ _ => rfl, rng_len]; omega
  have f1 (x y : Int) (acc : List D) (hl : acc.length + c.toNat ≤ 1000000) : forR (tgN 4) b_L_all_1 ((rng c).map .int) [.sh ((D.lst [.int a, .int b, .int c])), .ow (.lst acc), .sh (.int x), .sh (.int y), .no] = .nx [.sh ((D.lst [.int a, .int b, .int c])), .ow (.lst (acc ++ (rng c).flatMap fun z => [e3 (x, y, z)])), .sh (.int x), .sh (.int y), .no] :=
    forR_acc .int (fun acc => [.sh ((D.lst [.int a, .int b, .int c])), .ow (.lst acc), .sh (.int x), .sh (.int y), .no]) _ _ acc 1000000 (by rw [l1]; exact hl) fun acc z _ h => t1 x y acc z (by omega)
  have t2 (x : Int) (acc : List D) (y : Int) (hl : acc.length + c.toNat ≤ 1000000) : turn (tgN 3) b_L_all_2 (.int y) [.sh ((D.lst [.int a, .int b, .int c])), .ow (.lst acc), .sh (.int x), .no, .no] = .nx [.sh ((D.lst [.int a, .int b, .int c])), .ow (.lst (acc ++ (rng c).flatMap fun z => [e3 (x, y, z)])), .sh (.int x), .no, .no] := by
    have f := f1 x y acc hl
    simp [b_L_all_2, show idxG ((D.lst [.int a, .int b, .int c])) (.int 2) = .ok (.int c) by simp, show (-4611686018427387904 : Int) ≤ c by omega, show c < 4611686018427387904 by omega, rngD_0, f]
  have l2 (x : Int) : ((rng b).flatMap fun y => (rng c).flatMap fun z => [e3 (x, y, z)]).length = b.toNat * c.toNat := by rw [flatMap_len _ c.toNat _ fun y _ => l1 x y, rng_len]
  have hbc : b.toNat * c.toNat ≤ 100 * 100 := Nat.mul_le_mul (by omega) (by omega)
  have f2 (x : Int) (acc : List D) (hl : acc.length + b.toNat * c.toNat ≤ 1000000) : forR (tgN 3) b_L_all_2 ((rng b).map .int) [.sh ((D.lst [.int a, .int b, .int c])), .ow (.lst acc), .sh (.int x), .no, .no] = .nx [.sh ((D.lst [.int a, .int b, .int c])), .ow (.lst (acc ++ (rng b).flatMap fun y => (rng c).flatMap fun z => [e3 (x, y, z)])), .sh (.int x), .no, .no] :=
    forR_acc .int (fun acc => [.sh ((D.lst [.int a, .int b, .int c])), .ow (.lst acc), .sh (.int x), .no, .no]) _ _ acc 1000000 (by rw [l2]; exact hl) fun acc y _ h => t2 x acc y (by rw [l1] at h; exact h)
  have t3 (acc : List D) (x : Int) (hl : acc.length + b.toNat * c.toNat ≤ 1000000) : turn (tgN 2) b_L_all_3 (.int x) [.sh ((D.lst [.int a, .int b, .int c])), .ow (.lst acc), .no, .no, .no] = .nx [.sh ((D.lst [.int a, .int b, .int c])), .ow (.lst (acc ++ (rng b).flatMap fun y => (rng c).flatMap fun z => [e3 (x, y, z)])), .no, .no, .no] := by
    have f := f2 x acc hl
    simp [b_L_all_3, show idxG ((D.lst [.int a, .int b, .int c])) (.int 1) = .ok (.int b) by simp, show (-4611686018427387904 : Int) ≤ b by omega, show b < 4611686018427387904 by omega, rngD_0, f]
  have l3 : ((rng a).flatMap fun x => (rng b).flatMap fun y => (rng c).flatMap fun z => [e3 (x, y, z)]).length = a.toNat * (b.toNat * c.toNat) := by rw [flatMap_len _ (b.toNat * c.toNat) _ fun x _ => l2 x, rng_len]
  have habc : a.toNat * (b.toNat * c.toNat) ≤ 100 * (100 * 100) := Nat.mul_le_mul (by omega) hbc
  have f3 : forR (tgN 2) b_L_all_3 ((rng a).map .int) [.sh ((D.lst [.int a, .int b, .int c])), .ow (.lst []), .no, .no, .no] = .nx [.sh ((D.lst [.int a, .int b, .int c])), .ow (.lst ([] ++ (rng a).flatMap fun x => (rng b).flatMap fun y => (rng c).flatMap fun z => [e3 (x, y, z)])), .no, .no, .no] :=
    forR_acc .int (fun acc => [.sh ((D.lst [.int a, .int b, .int c])), .ow (.lst acc), .no, .no, .no]) _ _ [] 1000000 (by rw [l3]; simp only [List.length_nil]; omega) fun acc x _ h => t3 acc x (by rw [l2] at h; exact h)
  rw [List.nil_append] at f3
  have e : ((rng a).flatMap fun x => (rng b).flatMap fun y => (rng c).flatMap fun z => [e3 (x, y, z)]) = (places (a, b, c)).map e3 := by
    simp only [places, List.map_flatMap, List.map_map]
    congr 1; funext x; congr 1; funext y
    induction rng c with
    | nil => rfl
    | cons z zs ih => simp [ih]
  rw [e] at f3
  simp [q_L_all, runF, d_L_all, sizeLine_eq, show idxG ((D.lst [.int a, .int b, .int c])) (.int 0) = .ok (.int a) by simp, show (-4611686018427387904 : Int) ≤ a by omega, show a < 4611686018427387904 by omega, rngD_0, f3, resM]
theorem init_lst (x : Addr) (s : P3) (hs : Sz 6 s) : q_Workshop___init__ [.obj x "Workshop" [] [], .lst [.int s.1, .int s.2.1, .int s.2.2]] = .ok .non (eSh x (fresh s)) := by
  have h1 := q_block_ok (.lst [.int s.1, .int s.2.1, .int s.2.2]) [s.1, s.2.1, s.2.2] (by simp) (by simp [tupleG, sizeLine_eq])
  obtain ⟨g1, g2, g3⟩ := hs
  rw [show goodB [s.1, s.2.1, s.2.2] = true by simp [goodB]; omega, if_pos rfl, show D.tup ([s.1, s.2.1, s.2.2].map .int) = e3 s from rfl] at h1
  have h2 := q_places s ⟨⟨g1.1, by omega⟩, ⟨g2.1, by omega⟩, ⟨g3.1, by omega⟩⟩
  have a1 : putN "sizes" [] = ([("sizes" : Str)] : List Str) := rfl
  have a2 : putN "now" ([("sizes" : Str)] : List Str) = ([("sizes" : Str), ("now" : Str)] : List Str) := by simp [putN, ne_sn]
  have a3 : putN "past" ([("sizes" : Str), ("now" : Str)] : List Str) = ([("sizes" : Str), ("now" : Str), ("past" : Str)] : List Str) := by simp [putN, ne_sp, ne_np]
  have a4 : putN "ahead" ([("sizes" : Str), ("now" : Str), ("past" : Str)] : List Str) = shopN := by simp [putN, ne_sa, ne_na, ne_pa, shopN]
  have b1 (d : D) : putDs "sizes" d [] [] = [d] := rfl
  have b2 (d a : D) : putDs "now" d ([("sizes" : Str)] : List Str) [a] = [a, d] := by simp [putDs, ne_sn]
  have b3 (d a b : D) : putDs "past" d ([("sizes" : Str), ("now" : Str)] : List Str) [a, b] = [a, b, d] := by simp [putDs, ne_sp, ne_np]
  have b4 (d a b c : D) : putDs "ahead" d ([("sizes" : Str), ("now" : Str), ("past" : Str)] : List Str) [a, b, c] = [a, b, c, d] := by simp [putDs, ne_sa, ne_na, ne_pa]
  have l1 (d : D) : lookF "sizes" ([("sizes" : Str)] : List Str) [d] = some d := by simp [lookF]
  rw [q_Workshop___init__, runO_at _ _ _ _ _ _ _ _ (by rfl)]
  simp -implicitDefEqProofs [d_Workshop___init__, h1, h2, a1, a2, a3, a4, b1, b2, b3, b4, l1, objOf_obj, sizeLine_eq]
  rfl
theorem init_bad (x : Addr) (L : List Int) (hl : L.length ≤ 1000) (hL : goodB L = false) : q_Workshop___init__ [.obj x "Workshop" [] [], .lst (L.map .int)] = .ex (.own "BadBlock") (.obj x "Workshop" [] []) := by
  have h1 := q_block_ok (.lst (L.map .int)) L hl (by simp [tupleG, sizeLine_eq] <;> omega)
  rw [hL, if_neg (by simp)] at h1
  rw [q_Workshop___init__, runO_at _ _ _ _ _ _ _ _ (by rfl)]
  generalize L.map D.int = ds at *
  simp -implicitDefEqProofs [d_Workshop___init__, h1, objOf_obj]
theorem goodB_all (L : List Int) : goodB L = (decide (L.length = 3) && L.all fun x => decide (1 ≤ x) && decide (x ≤ 6)) := by
  unfold goodB
  congr 1
  rw [Bool.eq_iff_iff, Bool.not_eq_true', List.any_eq_false, List.all_eq_true]
  refine forall_congr' fun x => forall_congr' fun _ => ?_
  simp
theorem an_fresh (s : P3) : anD s (fresh s).now = .lst [.lst [], .lst [], .lst [], .lst [], .lst ((places s).map e3), .lst [], .lst [], .lst ((places s).map e3), .lst []] := by
  unfold anD anA
  rw [show lksN (fresh s).now = [] from rfl, show (fresh s).now.stand = places s from rfl, carv_no, agr_rows.mpr (agr_no s _)]
  rfl
theorem math (ns : List Int) (hn : ns.length ≤ 63) : q_law [.fz (ns.map .int)] = .ok (.bl true) := by
  obtain ⟨L0, r1, r2, ed0⟩ := q_digits ns 0 8 3 (by decide) (by decide) (by decide) hn
  obtain ⟨v1, v10, v11, ev1⟩ := q_one ns 1 4 (by decide) (by decide) hn
  obtain ⟨v2, v20, v21, ev2⟩ := q_one ns 2 6 (by decide) (by decide) hn
  obtain ⟨v4, v40, v41, ev4⟩ := q_one ns 4 5 (by decide) (by decide) hn
  obtain ⟨v5, v50, v51, ev5⟩ := q_one ns 5 216 (by decide) (by decide) hn
  obtain ⟨v6, v60, v61, ev6⟩ := q_one ns 6 60 (by decide) (by decide) hn
  obtain ⟨L3, l3, _, ed3⟩ := q_digits ns 3 8 v4 (by decide) (by decide) (by omega) hn
  have e : q_law [.fz (ns.map .int)] = resM (d_law [.sh (.fz (ns.map .int)), .no, .no, .no, .no, .no, .no, .no, .no, .no, .no, .no, .no]) := rfl
  rw [e]
  unfold d_law
  rw [sSeq_ap, show sFr 1 (eCall q_L_digits (aCons (eV 0) (aCons (eC (.int 0)) (aCons (eC (.int 8)) (aCons (eC (.int 3)) aNil))))) [.sh (.fz (ns.map .int)), .no, .no, .no, .no, .no, .no, .no, .no, .no, .no, .no, .no] = .nx [.sh (.fz (ns.map .int)), .fr (.lst (L0.map .int)), .no, .no, .no, .no, .no, .no, .no, .no, .no, .no, .no] by simp -implicitDefEqProofs [ed0], then_nx]
  have hA : ∃ L1 : List Int, L1.length ≤ 4 ∧ sIf (eB (eOp gtG (eCall q_L_one (aCons (eV 0) (aCons (eC (.int 1)) (aCons (eC (.int 4)) aNil)))) (eC (.int 0)))) (sFr 1 (eComp [12] (eLL (eVE 1)) (tgN 12) cYes e_law_2)) sNil [.sh (.fz (ns.map .int)), .fr (.lst (L0.map .int)), .no, .no, .no, .no, .no, .no, .no, .no, .no, .no, .no] = .nx [.sh (.fz (ns.map .int)), .fr (.lst (L1.map .int)), .no, .no, .no, .no, .no, .no, .no, .no, .no, .no, .no] := by
    have c2 := compL_map (tg := tgN 12) (c := cYes) (f := e_law_2) D.int [.sh (.fz (ns.map .int)), .fr (.lst (L0.map .int)), .no, .no, .no, .no, .no, .no, .no, .no, .no, .no, .no] (fun x => .int (1 + x % 3)) L0 (fun x _ => by simp [e_law_2, mod_ok (j := 3) (by decide)])
    by_cases h : 0 < v1
    · refine ⟨L0.map fun x => 1 + x % 3, by rw [List.length_map]; omega, ?_⟩
      rw [List.map_map]
      have e : (D.int ∘ fun x : Int => 1 + x % 3) = fun x => .int (1 + x % 3) := rfl
      rw [e]
      have hz : (L0.map D.int).length ≤ 16777216 := by rw [List.length_map]; simp at r1; omega
      generalize L0.map D.int = l0 at *
      simp -implicitDefEqProofs [ev1, h, c2, hz, sizeLine_eq]
    · refine ⟨L0, by simp at r1; omega, ?_⟩
      generalize L0.map D.int = l0 at *
      simp -implicitDefEqProofs [ev1, h]
  obtain ⟨L1, l1, hA⟩ := hA
  rw [sSeq_ap, hA, then_nx]
  have hB : ∃ L : List Int, L.length ≤ 4 ∧ sIf (eB (eOp eqG (eCall q_L_one (aCons (eV 0) (aCons (eC (.int 2)) (aCons (eC (.int 6)) aNil)))) (eC (.int 0)))) (sFr 1 (eCall q_L_digits (aCons (eV 0) (aCons (eC (.int 3)) (aCons (eC (.int 8)) (aCons (eCall q_L_one (aCons (eV 0) (aCons (eC (.int 4)) (aCons (eC (.int 5)) aNil)))) aNil)))))) sNil [.sh (.fz (ns.map .int)), .fr (.lst (L1.map .int)), .no, .no, .no, .no, .no, .no, .no, .no, .no, .no, .no] = .nx [.sh (.fz (ns.map .int)), .fr (.lst (L.map .int)), .no, .no, .no, .no, .no, .no, .no, .no, .no, .no, .no] := by
    by_cases h : v2 = 0
    · refine ⟨L3, by omega, ?_⟩
      generalize L3.map D.int = l3 at *
      generalize L1.map D.int = l1 at *
      simp -implicitDefEqProofs [ev2, h, ev4, ed3]
    · refine ⟨L1, l1, ?_⟩
      generalize L1.map D.int = l1 at *
      simp -implicitDefEqProofs [ev2, h]
  obtain ⟨L, hL, hB⟩ := hB
  rw [sSeq_ap, hB, then_nx]
  have c3 := compL_map (tg := tgN 12) (c := cYes) (f := e_law_3) D.int [.sh (.fz (ns.map .int)), .fr (.lst (L.map .int)), .no, .no, .no, .no, .no, .no, .no, .no, .no, .no, .no] (fun x => .bl (decide (1 ≤ x) && decide (x ≤ 6))) L (fun x _ => by
    by_cases h : 1 ≤ x <;> simp [e_law_3, h])
  have b8 := bools_map (fun x : Int => decide (1 ≤ x) && decide (x ≤ 6)) L
  have a8 : (List.map (fun x : Int => decide (1 ≤ x) && decide (x ≤ 6)) L).all id = L.all fun x => decide (1 ≤ x) && decide (x ≤ 6) := by rw [List.all_map]; rfl
  have n8 : allG [.lst (L.map fun x => .bl (decide (1 ≤ x) && decide (x ≤ 6)))] = .ok (.bl (L.all fun x => decide (1 ≤ x) && decide (x ≤ 6))) := by rw [all_lst, b8]; simp only [a8]
  have hG : sFr 2 (eAndV (eOp eqG (eBlt lenG (aCons (eV 1) aNil)) (eC (.int 3))) (eBlt allG (aCons (eComp [12] (eLL (eVE 1)) (tgN 12) cYes e_law_3) aNil))) [.sh (.fz (ns.map .int)), .fr (.lst (L.map .int)), .no, .no, .no, .no, .no, .no, .no, .no, .no, .no, .no] = .nx [.sh (.fz (ns.map .int)), .fr (.lst (L.map .int)), .fr (.bl (goodB L)), .no, .no, .no, .no, .no, .no, .no, .no, .no, .no] := by
    rw [goodB_all]
    have hz : (L.map D.int).length ≤ 16777216 := by rw [List.length_map]; omega
    have hzl : ((L.map D.int).length : Int) = (L.length : Nat) := by rw [List.length_map]
    generalize (L.all fun x => decide (1 ≤ x) && decide (x ≤ 6)) = bb at *
    generalize (L.map fun x => D.bl (decide (1 ≤ x) && decide (x ≤ 6))) = bl at *
    generalize L.map D.int = ds at *
    by_cases h3 : L.length = 3
    · have h3' : ((L.length : Nat) : Int) = 3 := by omega
      simp -implicitDefEqProofs [hz, hzl, h3, h3', c3, n8, sizeLine_eq]
    · have h3' : ¬ ((L.length : Nat) : Int) = 3 := by omega
      simp -implicitDefEqProofs [hz, hzl, h3, h3', c3, n8, sizeLine_eq]
  rw [sSeq_ap, hG, then_nx]
  rw [sSeq_ap, show sFr 3 (eC .non) [.sh (.fz (ns.map .int)), .fr (.lst (L.map .int)), .fr (.bl (goodB L)), .no, .no, .no, .no, .no, .no, .no, .no, .no, .no] = .nx [.sh (.fz (ns.map .int)), .fr (.lst (L.map .int)), .fr (.bl (goodB L)), .fr .non, .no, .no, .no, .no, .no, .no, .no, .no, .no] by simp -implicitDefEqProofs [], then_nx]
  rw [sSeq_ap, show sFr 4 (eC (.bl false)) [.sh (.fz (ns.map .int)), .fr (.lst (L.map .int)), .fr (.bl (goodB L)), .fr .non, .no, .no, .no, .no, .no, .no, .no, .no, .no] = .nx [.sh (.fz (ns.map .int)), .fr (.lst (L.map .int)), .fr (.bl (goodB L)), .fr .non, .fr (.bl false), .no, .no, .no, .no, .no, .no, .no, .no] by simp -implicitDefEqProofs [], then_nx]
  have hll : listG [.lst (L.map .int)] = .ok (.lst (L.map .int)) := by simp [listG, sizeLine_eq] <;> omega
  rw [sTryMk_eq (as := [.lst (L.map .int)]) (r := .bl true) (by generalize L.map D.int = ds at *; simp -implicitDefEqProofs [hll]) ?_]
  · rfl
  intro x
  by_cases hg : goodB L = true
  · obtain ⟨a, b, c, rfl⟩ : ∃ a b c, L = [a, b, c] := by
      have h3 : L.length = 3 := by
        unfold goodB at hg
        simp at hg
        exact hg.1
      match L, h3 with
      | [a, b, c], _ => exact ⟨a, b, c, rfl⟩
    have hs : Sz 6 (a, b, c) := by
      rw [goodB_all] at hg
      simp at hg
      unfold Sz
      simp only
      omega
    have hz : Sz 100 (a, b, c) := by obtain ⟨a, b, c⟩ := hs; exact ⟨⟨a.1, by omega⟩, ⟨b.1, by omega⟩, ⟨c.1, by omega⟩⟩
    rw [hg]
    have eall := q_Lall_lst (a, b, c) hz
    have htp : tupleG [.lst [.int a, .int b, .int c]] = .ok (e3 (a, b, c)) := by
      simp [tupleG, sizeLine_eq]
      rfl
    have hinit : q_Workshop___init__ [.obj x "Workshop" [] [], .lst (List.map D.int [a, b, c])] = .ok .non (eSh x (fresh (a, b, c))) := init_lst x (a, b, c) hs
    refine (outTM_ok hinit ?_).trans ?_
    · show 3 < 13
      decide
    show sSeq _ _ [.sh (.fz (ns.map .int)), .fr (.lst [.int a, .int b, .int c]), .fr (.bl true), .ow (eSh x (fresh (a, b, c))), .fr (.bl false), .no, .no, .no, .no, .no, .no, .no, .no] = _
    change q_L_all [.lst [.int a, .int b, .int c]] = _ at eall
    generalize hs0 : ((a, b, c) : P3) = s at *
    have hpl : (places s).length ≤ 216 := sub_len hs (List.Sublist.refl _)
    have hpos : 0 < (places s).length := by
      have h0 : ((0, 0, 0) : P3) ∈ places s := by
        obtain ⟨⟨a1, a2⟩, ⟨b1, b2⟩, ⟨c1, c2⟩⟩ := hs
        rw [mem_places]
        exact ⟨⟨by simp, by simp; omega⟩, ⟨by simp, by simp; omega⟩, ⟨by simp, by simp; omega⟩⟩
      exact List.length_pos_of_mem h0
    obtain ⟨q5, hq5, at5⟩ : ∃ q : P3, q ∈ places s ∧ atI ((places s).map e3) (v5 % ((places s).length : Nat)) = some (e3 q) := by
      have hb0 := Int.emod_nonneg v5 (show (((places s).length : Nat) : Int) ≠ 0 by omega)
      have hb1 := Int.emod_lt_of_pos v5 (show (0 : Int) < ((places s).length : Nat) by omega)
      obtain ⟨q0, hq0⟩ : ∃ q, (places s)[(v5 % ((places s).length : Nat)).toNat]? = some q := ⟨_, List.getElem?_eq_getElem (by omega)⟩
      exact ⟨q0, List.mem_of_getElem? hq0, atI_ok hb0 (by rw [List.getElem?_map, hq0]; rfl)⟩
    have m5 := mod_ok (i := v5) (j := ((places s).length : Nat)) (by omega)
    have hzz : ((places s).map e3).length ≤ 16777216 := by rw [List.length_map]; omega
    have hlp : (((places s).map e3).length : Int) = ((places s).length : Nat) := by rw [List.length_map]
    obtain ⟨nm, _, _, _, enm⟩ := q_Lname v6
    have href := q_Lrefusals x s q5 nm hs hq5
    have O := fresh_ok hs
    have han := q_Lanswers x (fresh s) O
    have hal := alike_an O.sz O.now
    have hfl : flatL (anA s (fresh s).now) = true := flat_leaf (by rw [an_len]; omega) (an_leaf O.sz O.now)
    change q_L_answers [eSh x (fresh s)] = .ok (anD s (fresh s).now) at han
    change q_L_alike 6 [anD s (fresh s).now, anD s (fresh s).now] = _ at hal
    have haa : (.lst (anA s (fresh s).now) : D) = anD s (fresh s).now := rfl
    rw [an_fresh] at han hal haa
    injection haa with haa
    rw [haa] at hfl
    have hblk := q_shop_block x (fresh s)
    change q_Workshop_block [eSh x (fresh s)] = .ok (e3 s) at hblk
    have hae := alike_e3 s
    have hnn : isNonD (eSh x (fresh s)) = false := rfl
    have heq : eqG (.lst [.bl true, .bl true, .bl true, .bl true]) (.lst [.bl true, .bl true, .bl true, .bl true]) = .ok (.bl true) := by
      first
        | rfl
        | decide +kernel
        | (unfold eqG; simp [toP, toPA, SeqAt.shaped, PyData.canLay0, PyData.canLayAll0, PyData.depth, PyData.depthAll, PyData.eqv, PyData.eqvAll])
    generalize ((places s).length : Int) = pn at *
    generalize (places s).map e3 = PL at *
    generalize fresh s = S at *
    generalize D.lst [.int a, .int b, .int c] = row at *
    rw [sSeq_ap, show sIf (eNot (eTr (eV 2))) (sRet (eAndV (eV 4) (eOp isNG (eV 3) (eC .non)))) sNil [.sh (.fz (ns.map .int)), .fr row, .fr (.bl true), .ow (eSh x S), .fr (.bl false), .no, .no, .no, .no, .no, .no, .no, .no] = .nx [.sh (.fz (ns.map .int)), .fr row, .fr (.bl true), .ow (eSh x S), .fr (.bl false), .no, .no, .no, .no, .no, .no, .no, .no] by simp -implicitDefEqProofs [], then_nx]
    rw [sSeq_ap, show sIf (eB (eOp isNG (eV 3) (eC .non))) (sRet (eC (.bl false))) sNil [.sh (.fz (ns.map .int)), .fr row, .fr (.bl true), .ow (eSh x S), .fr (.bl false), .no, .no, .no, .no, .no, .no, .no, .no] = .nx [.sh (.fz (ns.map .int)), .fr row, .fr (.bl true), .ow (eSh x S), .fr (.bl false), .no, .no, .no, .no, .no, .no, .no, .no] by simp -implicitDefEqProofs [hnn], then_nx]
    rw [sSeq_ap, show sFr 5 (eCall q_L_all (aCons (eV 1) aNil)) [.sh (.fz (ns.map .int)), .fr row, .fr (.bl true), .ow (eSh x S), .fr (.bl false), .no, .no, .no, .no, .no, .no, .no, .no] = .nx [.sh (.fz (ns.map .int)), .fr row, .fr (.bl true), .ow (eSh x S), .fr (.bl false), .fr (.lst PL), .no, .no, .no, .no, .no, .no, .no] by simp -implicitDefEqProofs [eall], then_nx]
    rw [sSeq_ap, show sFr 6 (eLst (aCons (eLst aNil) (aCons (eLst aNil) (aCons (eLst aNil) (aCons (eLst aNil) (aCons (eVF 5) (aCons (eLst aNil) (aCons (eLst aNil) (aCons (eVF 5) (aCons (eLst aNil) aNil)))))))))) [.sh (.fz (ns.map .int)), .fr row, .fr (.bl true), .ow (eSh x S), .fr (.bl false), .fr (.lst PL), .no, .no, .no, .no, .no, .no, .no] = .nx [.sh (.fz (ns.map .int)), .fr row, .fr (.bl true), .ow (eSh x S), .fr (.bl false), .fr (.lst PL), .fr (.lst [.lst [], .lst [], .lst [], .lst [], .lst PL, .lst [], .lst [], .lst PL, .lst []]), .no, .no, .no, .no, .no, .no] by simp -implicitDefEqProofs [sizeLine_eq], then_nx]
    have body : ∀ i : Int, b_law_1 [.sh (.fz (ns.map .int)), .fr row, .fr (.bl true), .ow (eSh x S), .fr (.bl false), .fr (.lst PL), .fr (.lst [.lst [], .lst [], .lst [], .lst [], .lst PL, .lst [], .lst [], .lst PL, .lst []]), .sh (.int i), .no, .no, .no, .no, .no] = .nx [.sh (.fz (ns.map .int)), .fr row, .fr (.bl true), .ow (eSh x S), .fr (.bl false), .fr (.lst PL), .fr (.lst [.lst [], .lst [], .lst [], .lst [], .lst PL, .lst [], .lst [], .lst PL, .lst []]), .no, .no, .no, .no, .no, .no] := fun i => by
      unfold b_law_1
      rw [sWipe_ap]
      rw [sBlk_ap]
      simp only [shAll_sh, shAll_fr, shAll_ow, shAll_no, shAll_nil]
      rw [bCons_nx (show sFr 10 (eCall q_L_answers (aCons (eV 3) aNil)) [.sh (.fz (ns.map .int)), .sh row, .sh (.bl true), .sh (eSh x S), .sh (.bl false), .sh (.lst PL), .sh (.lst [.lst [], .lst [], .lst [], .lst [], .lst PL, .lst [], .lst [], .lst PL, .lst []]), .sh (.int i), .no, .no, .no, .no, .no] = .nx [.sh (.fz (ns.map .int)), .sh row, .sh (.bl true), .sh (eSh x S), .sh (.bl false), .sh (.lst PL), .sh (.lst [.lst [], .lst [], .lst [], .lst [], .lst PL, .lst [], .lst [], .lst PL, .lst []]), .sh (.int i), .no, .no, .fr (.lst [.lst [], .lst [], .lst [], .lst [], .lst PL, .lst [], .lst [], .lst PL, .lst []]), .no, .no] by simp -implicitDefEqProofs [han])]
      rw [bCons_nx (show sIf (eOr (eNot (eTr (eCall (q_L_alike 6) (aCons (eV 10) (aCons (eV 6) aNil))))) (eNot (eTr (eCall (q_L_alike 6) (aCons (eMeth "Workshop" "block" q_Workshop_block (eV 3) aNil) (aCons (eBlt tupleG (aCons (eV 1) aNil)) aNil)))))) (sRet (eC (.bl false))) sNil [.sh (.fz (ns.map .int)), .sh row, .sh (.bl true), .sh (eSh x S), .sh (.bl false), .sh (.lst PL), .sh (.lst [.lst [], .lst [], .lst [], .lst [], .lst PL, .lst [], .lst [], .lst PL, .lst []]), .sh (.int i), .no, .no, .fr (.lst [.lst [], .lst [], .lst [], .lst [], .lst PL, .lst [], .lst [], .lst PL, .lst []]), .no, .no] = .nx [.sh (.fz (ns.map .int)), .sh row, .sh (.bl true), .sh (eSh x S), .sh (.bl false), .sh (.lst PL), .sh (.lst [.lst [], .lst [], .lst [], .lst [], .lst PL, .lst [], .lst [], .lst PL, .lst []]), .sh (.int i), .no, .no, .fr (.lst [.lst [], .lst [], .lst [], .lst [], .lst PL, .lst [], .lst [], .lst PL, .lst []]), .no, .no] by simp -implicitDefEqProofs [hal, hblk, htp, hae])]
      simp -implicitDefEqProofs [hfl]
    have loop : forR (tgN 7) b_law_1 (rngD 0 2) [.sh (.fz (ns.map .int)), .fr row, .fr (.bl true), .ow (eSh x S), .fr (.bl false), .fr (.lst PL), .fr (.lst [.lst [], .lst [], .lst [], .lst [], .lst PL, .lst [], .lst [], .lst PL, .lst []]), .no, .no, .no, .no, .no, .no] = .nx [.sh (.fz (ns.map .int)), .fr row, .fr (.bl true), .ow (eSh x S), .fr (.bl false), .fr (.lst PL), .fr (.lst [.lst [], .lst [], .lst [], .lst [], .lst PL, .lst [], .lst [], .lst PL, .lst []]), .no, .no, .no, .no, .no, .no] := by
      rw [show rngD 0 2 = [.int 0, .int 1] from rfl]
      simp -implicitDefEqProofs [forR, turn_N, body]
    rw [sSeq_ap, show sFor (eR1 (aCons (eC (.int 2)) aNil)) (tgN 7) b_law_1 [.sh (.fz (ns.map .int)), .fr row, .fr (.bl true), .ow (eSh x S), .fr (.bl false), .fr (.lst PL), .fr (.lst [.lst [], .lst [], .lst [], .lst [], .lst PL, .lst [], .lst [], .lst PL, .lst []]), .no, .no, .no, .no, .no, .no] = .nx [.sh (.fz (ns.map .int)), .fr row, .fr (.bl true), .ow (eSh x S), .fr (.bl false), .fr (.lst PL), .fr (.lst [.lst [], .lst [], .lst [], .lst [], .lst PL, .lst [], .lst [], .lst PL, .lst []]), .no, .no, .no, .no, .no, .no] by simp -implicitDefEqProofs [show rngD 0 2 = [.int 0, .int 1] from rfl] at loop ⊢; exact loop, then_nx]
    rw [sSeq_ap, show sSh 8 (eOp idxG (eV 5) (eOp modG (eCall q_L_one (aCons (eV 0) (aCons (eC (.int 5)) (aCons (eC (.int 216)) aNil)))) (eBlt lenG (aCons (eV 5) aNil)))) [.sh (.fz (ns.map .int)), .fr row, .fr (.bl true), .ow (eSh x S), .fr (.bl false), .fr (.lst PL), .fr (.lst [.lst [], .lst [], .lst [], .lst [], .lst PL, .lst [], .lst [], .lst PL, .lst []]), .no, .no, .no, .no, .no, .no] = .nx [.sh (.fz (ns.map .int)), .fr row, .fr (.bl true), .ow (eSh x S), .fr (.bl false), .fr (.lst PL), .fr (.lst [.lst [], .lst [], .lst [], .lst [], .lst PL, .lst [], .lst [], .lst PL, .lst []]), .no, .sh (e3 q5), .no, .no, .no, .no] by simp -implicitDefEqProofs [ev5, m5, hzz, hlp, at5, sizeLine_eq], then_nx]
    simp -implicitDefEqProofs [ev6, enm, href, heq, sizeLine_eq]
  · have hg : goodB L = false := by simpa using hg
    refine outTM_ex (init_bad x L (by omega) hg) pickE_hd fun a => ?_
    rw [hg]
    generalize L.map D.int = ds at *
    simp -implicitDefEqProofs []

end Q
set_option Elab.async false
set_option linter.all false
set_option maxRecDepth 100000
set_option maxHeartbeats 4000000
namespace Q
end Q
namespace PySem.W.Fast
def tw2368620008216674113 := 0
def tw3768228858410596582 := 0
def tw5434981895086398564 := 0
def tw5659522663434405927 := 0
def tw5008888973803690329 := 0
def tw5378085399612242071 := 0
def tw6807716077724730681 := 0
def tw3481286155735845284 := 0
def tw15790987614848834051 := 0
def tw3594584469969220450 := 0
def tw10797748753514746805 := 0
def tw9571600188160006821 := 0
def tw15341608114465132237 := 0
def tw1890936897478040668 := 0
def tw5752250138676235954 := 0
def tw10230499622397325146 := 0
def tw16871259941347681537 := 0
def tw7214401806715631125 := 0
def tw17765173334209349919 := 0
def tw11419571420337933885 := 0
def tw3434371548559495851 := 0
def tw2030077880913762394 := 0
def tw2396659836305767614 := 0
def tw15858877462510412815 := 0
def tw13619746360313808028 := 0
def tw16368147960044758245 := 0
def tw6079992206263789129 := 0
def tw1855163878285939996 := 0
def tw17534258241767365857 := 0
def tw10885192278765936744 := 0
def tw5714515379039834475 := 0
def tw6807872731093466290 := 0
def tw7289963235724492835 := 0
def tw5249571233164503562 := 0
def tw10431595250076545366 := 0
def tw12303481809415222714 := 0
def tw7527603496381114602 := 0
def tw4193461627073201595 := 0
def tw1059624431762583885 := 0
def tw8195176563365493080 := 0
def tw5401169648720847295 := 0
def tw7689694202201653727 := 0
def tw14809959163211873705 := 0
def tw6314473655504562593 := 0
def tw10482698835490075664 := 0
def tw5216226060534582150 := 0
def tw2214751935150899783 := 0
def tw6095444488465039864 := 0
def tw13214182280187554588 := 0
def tw9818172173229466589 := 0
def tw11422793521434653147 := 0
def tw15645307536758046500 := 0
def tw3060103592438895230 := 0
def tw15209259522479809789 := 0
def tw8849796288793391488 := 0
def tw8679158254188918283 := 0
def tw13268763723255103150 := 0
def tw7188618413529182229 := 0
def tw9369972549974152063 := 0
def tw11037894694224589363 := 0
def tw1901872658573156162 := 0
def tw16973244545084135386 := 0
def tw7110662757494122098 := 0
def tw1818813510618389684 := 0
def tw11931205815416860816 := 0
def tw18440980124385000197 := 0
def tw16937379762575645971 := 0
def tw8190937610160593001 := 0
def tw17763633706670783793 := 0
def tw2653407272467392724 := 0
def tw8302512938689363187 := 0
def tw10833475813251041580 := 0
def tw9843284555615556028 := 0
def tw1762278221917584690 := 0
def tw16993061156316166957 := 0
def tw82929199572643285 := 0
def tw2805004932259392420 := 0
def tw3968190552367491951 := 0
def tw17298183341422946584 := 0
def tw11345216865636883710 := 0
def tw8885029734209366517 := 0
def tw13268726680273043953 := 0
def tw8498660775698275910 := 0
def tw11770638783428430848 := 0
def tw15945999654625658508 := 0
def tw12118683583254776239 := 0
def tw3785532407236747108 := 0
def tw6253555126545572511 := 0
def tw16419552671131087617 := 0
def tw4424349504255993120 := 0
def tw12140491949789275439 := 0
def tw8936968938603068342 := 0
def tw15716668435714588053 := 0
def tw9667671280800774093 := 0
def tw17286215197253378825 := 0
def tw8102943941542570340 := 0
def tw11936040115004713131 := 0
def tw8265570673339393287 := 0
def tw1163481164895151361 := 0
def tw6206053904177908221 := 0
def tw13195606355292258457 := 0
def tw4594000115287634441 := 0
def tw1422021410834214501 := 0
def tw12549002712233151266 := 0
def tw4367120052781073614 := 0
def tw11419264959656198167 := 0
def tw11859987837943597612 := 0
def tw14227347730426845701 := 0
def tw16262563818228856689 := 0
def tw16188032492127664992 := 0
def tw12951540024246128663 := 0
def tw12993070402693886148 := 0
def tw16379061827548110589 := 0
def tw15441974368567326443 := 0
def tw5732133568135421976 := 0
def tw7012072282166222401 := 0
def tw16487438438185287877 := 0
def tw675978385793679948 := 0
def tw342317844740706694 := 0
def tw3741533380801022377 := 0
def tw2755602232073869979 := 0
def tw3207115522769708259 := 0
def tw11415882656205539835 := 0
def tw18375302762701221531 := 0
def tw13863441352137689648 := 0
def tw771752103625000498 := 0
def tw6522248130474476724 := 0
def tw4691512315029057331 := 0
def tw6477690325040838601 := 0
def tw5714907315030626490 := 0
def tw11658472640506858200 := 0
def tw1697160149240951744 := 0
def tw10852052648688689673 := 0
def tw12241469267521811338 := 0
def tw10100203412470610194 := 0
def tw7038659497800113762 := 0
def tw10370093188527519893 := 0
def tw16762702436748172760 := 0
def tw5575209097972408256 := 0
def tw461787076322888114 := 0
def tw13272122681953865926 := 0
def tw16947141963014178284 := 0
def tw13529061111039353179 := 0
def tw7076962682608664892 := 0
def tw7275989039663343615 := 0
def tw8324817105005122431 := 0
def tw4843621032537165435 := 0
def tw7869828754788830268 := 0
def tw12364578186622909482 := 0
def tw2087282124155031094 := 0
def tw7970033108963596752 := 0
def tw18319876386164949156 := 0
def tw18314649199082697571 := 0
def tw9557295454795381465 := 0
def tw14756718030817716409 := 0
def tw10138913889968261863 := 0
def tw9132651417960400177 := 0
def tw11352799060698759117 := 0
def tw18169208706951542078 := 0
def tw589494986600214993 := 0
def tw5372315268515615536 := 0
def tw9448045873198135800 := 0
def tw17071820651859118820 := 0
def tw7087585820291425105 := 0
def tw4811641721228715280 := 0
def tw5244108891974500048 := 0
def tw8039892254797589044 := 0
def tw9374338894773090568 := 0
def tw2675143439123516902 := 0
def tw686326778170821792 := 0
def tw314092586354807906 := 0
def tw154647810663872317 := 0
def tw11223228811324761567 := 0
def tw16308911056239672947 := 0
def tw1967101993339529584 := 0
def tw1830992900881972796 := 0
def tw13838861621977326660 := 0
def tw6852508226184512493 := 0
def tw11410052482134274022 := 0
def tw17731117539180388528 := 0
def tw13387951909862934168 := 0
def tw8195387400725827321 := 0
def tw10599997726770308058 := 0
def tw18074596933010587946 := 0
def tw16139559072690482409 := 0
def tw13259069633050619176 := 0
def tw14429206034515212394 := 0
def tw15859761074595287977 := 0
def tw17642814255214685662 := 0
def tw7810793083884273250 := 0
def tw8539291436897141861 := 0
def tw15682326574899143315 := 0
def tw2773755961796601057 := 0
def tw8267129305403237689 := 0
def tw15906089015490444108 := 0
def tw9880816583185339022 := 0
def tw8282210489234837436 := 0
def tw5436363696831634015 := 0
def tw14799496483023723951 := 0
def tw13386554337727419009 := 0
def tw15606127271253727855 := 0
def tw1657828118047389102 := 0
def tw13469507786712562250 := 0
def tw8416642967494258052 := 0
def tw4447910624671752807 := 0
def tw9453039863138568143 := 0
def tw3767337660276212790 := 0
def tw15833621086191154217 := 0
def tw389722408421372157 := 0
def tw2998852518939818163 := 0
def tw12303413270675342111 := 0
def tw10640024614991006336 := 0
def tw17389095656134306632 := 0
def tw8845481493120050589 := 0
def tw16548510949490937592 := 0
def tw4679651437634176442 := 0
def tw895143531608282511 := 0
def tw333195338747972059 := 0
def tw9642149400450268242 := 0
def tw6762681920210380730 := 0
def tw15876959239037000167 := 0
def tw14757728448422921406 := 0
def tw17684391512719308921 := 0
def tw2760791441645762947 := 0
def tw2220044014838215506 := 0
def tw9376576357750006092 := 0
def tw13775772325044063167 := 0
def tw11021095860073302643 := 0
def tw998388723481117588 := 0
def tw9512460626105452250 := 0
def tw16829429870055474209 := 0
def tw17445955143119129153 := 0
def tw3720038386705862351 := 0
def tw91157239684223036 := 0
def tw10926788257007257001 := 0
def tw12650367574625381669 := 0
def tw12629859862435324319 := 0
def tw3928755660868734441 := 0
def tw15192897353695907178 := 0
def tw3824179988033769320 := 0
def tw5117726580180594056 := 0
def tw3122880477064552343 := 0
def tw5490452637544407562 := 0
def tw11941664919931626566 := 0
def tw6596517540366412127 := 0
def tw14799427848585988465 := 0
def tw15779571618554379857 := 0
def tw1672869526508147555 := 0
def tw2945989335209385185 := 0
def tw2460307397021629828 := 0
def tw11519213323406358643 := 0
def tw2605740115103357694 := 0
def tw2609330187356193002 := 0
def tw11488924820049075638 := 0
def tw9484098760912374652 := 0
def tw202746970173533247 := 0
def tw1414439669444915504 := 0
def tw7321887195084993192 := 0
def tw12783212841558728197 := 0
def tw3382232575172307091 := 0
def tw6389608299659357355 := 0
def tw4923769615585556844 := 0
def tw12109438631398620846 := 0
def tw11660387803688460471 := 0
def tw10150061943702788852 := 0
def tw11977418146272792436 := 0
def tw14533777134426201027 := 0
def tw12848263235467833956 := 0
def tw597374894899207134 := 0
def tw14711896551414253679 := 0
def tw14502482814991190048 := 0
def tw17526469344146583731 := 0
def tw17483802847599847755 := 0
def tw14520594879039460779 := 0
def tw15959664888794108727 := 0
def tw3831478343459807560 := 0
def tw7444770910832962982 := 0
def tw7459135603350972786 := 0
def tw2523259126536757871 := 0
def tw9490975201568753099 := 0
def tw9993297655074193111 := 0
def tw9757852083498342519 := 0
def tw9830151042829221910 := 0
def tw9096864335060992850 := 0
def tw7544641594463226630 := 0
def tw5684672629756904884 := 0
def tw16123275220079896746 := 0
def tw3386995722499572007 := 0
def tw13301122467389064320 := 0
def tw669433437744270709 := 0
def tw438625127132975360 := 0
def tw3342936526274378849 := 0
def tw3870497044054112486 := 0
def tw161646068565547162 := 0
def tw14188687076342896044 := 0
def tw4358258361173020607 := 0
def tw18237610874126946122 := 0
def tw6091995571168965575 := 0
def tw9362379362334424948 := 0
def tw8474276940073362135 := 0
def tw12720199236802827742 := 0
def tw9572519329309850615 := 0
def tw9874957639666955652 := 0
def tw5410884550845454829 := 0
def tw15343079737441018514 := 0
def tw2559684847375572047 := 0
def tw9811249286063448728 := 0
def tw4174719098836750486 := 0
def tw307384158636360466 := 0
def tw9549446141482921862 := 0
def tw3922045161203340390 := 0
def tw1975840690753159111 := 0
def tw16533623958129681189 := 0
def tw9137260375651113496 := 0
def tw17700131966922569255 := 0
def tw17767044298331454468 := 0
def tw11397591025603957373 := 0
def tw2751468117708940000 := 0
def tw14667094631250312534 := 0
def tw14129318993589209406 := 0
def tw2683705987367758176 := 0
def tw15410018786463596262 := 0
def tw18327413472504556607 := 0
def tw14482219586582274127 := 0
def tw12565014024239094850 := 0
def tw17305207918549363965 := 0
def tw16116164874119018332 := 0
def tw251722708268426871 := 0
def tw5165380344072528074 := 0
def tw4363136118794653752 := 0
def tw3894826413794449567 := 0
def tw5847507553545099261 := 0
def tw216270666023926849 := 0
def tw6869423974100718553 := 0
def tw2919120809005417660 := 0
def tw4294824762195217068 := 0
def tw6400089191641134499 := 0
def tw15079482535854853533 := 0
def tw3730210605383847599 := 0
def tw805876400875047925 := 0
def tw16423754972179422565 := 0
def tw5886264610768716116 := 0
def tw8254263061138973201 := 0
def tw9467924134140756350 := 0
def tw15487723778829659064 := 0
def tw17517191419439624665 := 0
def tw12546790554037789339 := 0
def tw17953960105257688306 := 0
def tw7693952908029519176 := 0
def tw8704174812456246991 := 0
def tw5122224279841769569 := 0
def tw16318107353852865778 := 0
def tw15739179057724969445 := 0
def tw15156562977860110918 := 0
def tw13985670934424201306 := 0
def tw12855921854016990684 := 0
def tw15110340019021225441 := 0
def tw13596463650484694998 := 0
def tw13588951606182833319 := 0
def tw5833585571628802071 := 0
def tw13882802911801419165 := 0
def tw10101475450832311751 := 0
def tw15061324020242877901 := 0
def tw17125329371793099677 := 0
def tw3112651047031604018 := 0
def tw11349253228698307759 := 0
def tw10257075665545226167 := 0
def tw8716034525231157481 := 0
def tw13922420595113647768 := 0
def tw5590132802652198892 := 0
def tw3988583235712576789 := 0
def tw17295282121012972940 := 0
def tw15814217866962131308 := 0
def tw15509395785540784838 := 0
def tw5479363533002807724 := 0
def tw12993196097653644922 := 0
def tw9626662188858210762 := 0
def tw3040584064569662787 := 0
def tw15152717654488633025 := 0
def tw14523941126057979166 := 0
def tw845900921371928968 := 0
def tw9736969593506134381 := 0
def tw4112050646125897735 := 0
def tw573354688781720233 := 0
def tw14859085214197187598 := 0
def tw1611094436353333589 := 0
def tw11802175513075361915 := 0
def tw10533817793454913330 := 0
def tw4609803340671992258 := 0
def tw849481904903318054 := 0
def tw9598377742995878095 := 0
def tw10012178357543295246 := 0
def tw9886875743185226435 := 0
def tw10847069030921389571 := 0
def tw12506930666787287857 := 0
def tw16095972723228841754 := 0
def tw18322662201697426236 := 0
def tw1487325556957425740 := 0
def tw17505233012285604123 := 0
def tw18070941084396913069 := 0
def tw4716862817492543923 := 0
def tw742252989896610524 := 0
def tw3076507012985179025 := 0
def tw1876685834582268968 := 0
def tw6885650883530079507 := 0
def tw2262287829170867359 := 0
def tw14671617884287892429 := 0
def tw11752686946385912386 := 0
def tw15844597985858091851 := 0
def tw15951178459490758973 := 0
def tw4542186687806861094 := 0
def tw9422049868457179095 := 0
def tw12607639293410494323 := 0
def tw14528124734228734463 := 0
def tw11281707922763169838 := 0
def tw10163636720954642790 := 0
def tw3946353312076158701 := 0
def tw10122648540279547400 := 0
def tw7130359433307810718 := 0
def tw4448801516240890071 := 0
def tw13778742431593623153 := 0
def tw10062236356663183279 := 0
def tw8419608759159071195 := 0
def tw1569627305545480242 := 0
def tw14707881129886787843 := 0
def tw9568198731337995418 := 0
def tw6906311694766487036 := 0
def tw771161046245964997 := 0
def tw11143186802188014006 := 0
def tw3130590394125618407 := 0
def tw3071240814830780332 := 0
def tw14908578301872188909 := 0
def tw7168547581269817642 := 0
def tw6950768794772750237 := 0
def tw9926663745042153682 := 0
def tw17278506743833079994 := 0
def tw8034253232885160954 := 0
def tw11440072171510702824 := 0
def tw281500334567683678 := 0
def tw18347964853695929661 := 0
def tw476274314987269158 := 0
def tw4438069276391267069 := 0
def tw4758645383711878478 := 0
def tw13944273595232264560 := 0
def tw14984123757075162093 := 0
def tw4471196628152177167 := 0
def tw8511734618716932901 := 0
def tw10511704838502931367 := 0
def tw3495599103025041292 := 0
def tw248047874453852639 := 0
def tw18360448397318461377 := 0
def tw6247552477204791702 := 0
def tw8628633598625747440 := 0
def tw850497077392644367 := 0
def tw7038113537152661296 := 0
def tw10818405962620334725 := 0
def tw2088519526546004286 := 0
def tw17737668302094019476 := 0
def tw6531724423907481565 := 0
def tw2225686389589625674 := 0
def tw8864413631842049300 := 0
def tw9329074329563455439 := 0
def tw14338477295699690063 := 0
def tw8584284635829112153 := 0
def tw12691959471265183210 := 0
def tw404912992718919374 := 0
def tw15764955505866556014 := 0
def tw17643391299529025351 := 0
def tw6274099821278270726 := 0
def tw9604323181533274430 := 0
def tw13394687410094145783 := 0
def tw6293529591147745675 := 0
def tw14077300375664780448 := 0
def tw13063172571727396220 := 0
def tw3244585167570455925 := 0
def tw6787819679660374655 := 0
def tw3652126082529861244 := 0
def tw12418907319321454843 := 0
def tw11355881494496362560 := 0
def tw13745287078912394408 := 0
def tw199212950275630710 := 0
def tw3743177059035762665 := 0
def tw10001678902982089703 := 0
def tw11254230982160719768 := 0
def tw9480459338458517468 := 0
def tw3713593586767238605 := 0
def tw14516857986840404467 := 0
def tw13718839748780688342 := 0
def tw14446858019050084408 := 0
def tw17249601151037699588 := 0
def tw17076146099631420477 := 0
def tw17750503380309475877 := 0
def tw5626039765093585588 := 0
def tw18354399525241651810 := 0
def tw7874121490149074053 := 0
def tw6101138655332569219 := 0
def tw9887956149673572192 := 0
def tw3757455288882704217 := 0
def tw8881827210550087744 := 0
def tw2541994516498822093 := 0
def tw5787613098720986772 := 0
def tw2057883937060838140 := 0
def tw9012703542937317737 := 0
def tw4008480462734426472 := 0
def tw12333810137977055039 := 0
def tw3853200276284858404 := 0
def tw7639089564033523128 := 0
def tw10895613005087237449 := 0
def tw277869676537880903 := 0
def tw2644457807268311703 := 0
def tw4197779655158161537 := 0
def tw12391733826368770676 := 0
def tw5814348329510137608 := 0
def tw16171766112437694987 := 0
def tw8527542381154827383 := 0
def tw1436951142065633797 := 0
def tw14627764803117168086 := 0
def tw1833618829082946738 := 0
def tw11833850980806233482 := 0
def tw15639237102477959392 := 0
def tw7845350317383162025 := 0
def tw8634487022382918897 := 0
def tw10455389939384017447 := 0
def tw16044434158881107377 := 0
def tw8558286473633955693 := 0
def tw13397916349754049307 := 0
def tw1575358916290073730 := 0
def tw16030952611145834357 := 0
def tw15591684379214367039 := 0
def tw10344397110685800524 := 0
def tw17427352356511850903 := 0
def tw2884968832893562850 := 0
def tw13228009523081400544 := 0
def tw17402238903194159118 := 0
def tw5700305889634852906 := 0
def tw5085420385702733971 := 0
def tw5457549547758243602 := 0
def tw14785630312621786980 := 0
def tw17814072777632812153 := 0
def tw12299621885188127792 := 0
def tw9276017329787527236 := 0
def tw6878681739687348859 := 0
def tw1272474543706019485 := 0
def tw4637522304910262054 := 0
def tw12017307331046225446 := 0
def tw13038144058256971232 := 0
def tw13862114454105418097 := 0
def tw3511551654832232976 := 0
def tw6891809392104966564 := 0
def tw18417632110597331285 := 0
def tw8942604138054996959 := 0
def tw6594962551453046056 := 0
def tw10653485298752261008 := 0
def tw11808354690023368482 := 0
def tw4838547505336290594 := 0
def tw11353411952315168096 := 0
def tw10195294851644911602 := 0
def tw203902017423924811 := 0
def tw11369078906228327164 := 0
def tw3913638861184116647 := 0
def tw4944018978858895683 := 0
def tw14622305933916819655 := 0
def tw9242964277335060652 := 0
def tw13965098189894246643 := 0
def tw5961811475194118216 := 0
def tw14012176062581508251 := 0
def tw17477576898276362941 := 0
def tw15383059225614717084 := 0
def tw10764423562210089190 := 0
def tw12757671505404428845 := 0
def tw4553089917257044240 := 0
def tw5905028249475409996 := 0
def tw6517520088068974016 := 0
def tw2456790400789695747 := 0
def tw7502337880747479945 := 0
def tw1131486063273169548 := 0
def tw17435344485038487941 := 0
def tw9397255821025950735 := 0
def tw6272057403330883009 := 0
def tw11672953209309454976 := 0
def tw2053629385752895672 := 0
def tw3964885856050852942 := 0
def tw15632131009461422797 := 0
def tw1459661058024353980 := 0
def tw16458288507489605323 := 0
def tw8548924896634488416 := 0
def tw13028608798709241451 := 0
def tw17869707145458124404 := 0
def tw4920088277247750357 := 0
def tw11249044940944190075 := 0
def tw15042111871668868054 := 0
def tw17539785098313611523 := 0
def tw908297722307509190 := 0
def tw12490192551519358266 := 0
def tw18391061500114687662 := 0
def tw4526723787900291023 := 0
def tw6119336194615761512 := 0
def tw9885373048511385626 := 0
def tw1804635980360398491 := 0
def tw14232472164120300318 := 0
def tw9619113908710352824 := 0
def tw12884977344461362475 := 0
def tw16827232356953699217 := 0
def tw18287955052351482214 := 0
def tw18001812233058041203 := 0
def tw1336999361687479445 := 0
def tw17394587316725256180 := 0
def tw16617022660202917000 := 0
def tw16860812917051494777 := 0
def tw3355154139914962264 := 0
def tw13245118195030404186 := 0
def tw11055659608763956759 := 0
def tw5146166229980556324 := 0
def tw6392797262533950537 := 0
def tw16068278072901172279 := 0
def tw3687672017091560036 := 0
def tw9923129582563581950 := 0
def tw7647033470634002286 := 0
def tw9151048703423655664 := 0
def tw15017141103476656555 := 0
def tw15204850796603988815 := 0
def tw11355111711139016578 := 0
def tw1208508494378231291 := 0
def tw515039695871416411 := 0
def tw11045045539063962087 := 0
def tw18023753599716258253 := 0
def tw7236693629174027879 := 0
def tw2628339397473961613 := 0
def tw2612155457856502007 := 0
def tw14230013729712962546 := 0
def tw15073231232581429655 := 0
def tw7768562910407442396 := 0
def tw17497679749937001087 := 0
def tw15534125494040153902 := 0
def tw15733067607307425017 := 0
def tw10996762163044007592 := 0
def tw6761979619081792063 := 0
def tw16187299599107750647 := 0
def tw16442962699326528026 := 0
def tw18253913053553461297 := 0
def tw7347909817699739264 := 0
def tw14389840659950743512 := 0
def tw7625318190098556295 := 0
def tw6926427216950094182 := 0
def tw11097102434545166664 := 0
def tw12940283027395813193 := 0
def tw10425372967299410763 := 0
def tw11639005597437296151 := 0
def tw2567651742809861565 := 0
def tw12602647281743583302 := 0
def tw8395741167000230401 := 0
def tw4662890690140320235 := 0
def tw6444147074541728484 := 0
def tw8910175056225566105 := 0
def tw13802994976213306555 := 0
def tw14132350138757827262 := 0
def tw10434904938965938728 := 0
def tw11408436156930382262 := 0
def tw16152005605272749227 := 0
def tw6675231588766050576 := 0
def tw12108600706659779964 := 0
def tw17454848787190798852 := 0
def tw15641231578040821744 := 0
def tw2669741197036027277 := 0
def tw10402141607171435857 := 0
def tw3312292767246869245 := 0
def tw7681265155355580125 := 0
def tw17052679608328859106 := 0
def tw4592437278479436987 := 0
def tw16168684956817289068 := 0
def tw14328228027995621080 := 0
def tw8362222610231700268 := 0
def tw10233723867817164070 := 0
def tw838842997226340052 := 0
def tw7549310103103483549 := 0
def tw2245592032624455445 := 0
def tw18360901565155152354 := 0
def tw11673095392821972615 := 0
def tw208153942062855289 := 0
def tw8197258628577538588 := 0
def tw16600394537420849629 := 0
def tw12447356398575413626 := 0
def tw3043692610623816743 := 0
def tw2969431484019563267 := 0
def tw17602985211349915313 := 0
def tw7420914875158090025 := 0
def tw6618361690481861197 := 0
def tw16163735647922355707 := 0
def tw9613699909856473167 := 0
def tw16100407083928064493 := 0
def tw16563011855175405214 := 0
def tw17363695323597174286 := 0
def tw8293143207202429220 := 0
def tw14418664871519203746 := 0
def tw1007275540376423059 := 0
def tw11830119341412619440 := 0
def tw4626013546665809913 := 0
def tw15499991537359669996 := 0
def tw14827538839601614235 := 0
def tw6373563940250194971 := 0
def tw10230617277002412367 := 0
def tw5882431590978212166 := 0
def tw1946981910444209663 := 0
def tw2599672743510839660 := 0
def tw15288451446312583696 := 0
def tw6977288324212331618 := 0
def tw14448781969103498211 := 0
def tw2139918781115213475 := 0
def tw15388616814092744825 := 0
def tw5288629402525819394 := 0
def tw1086561388253582792 := 0
def tw8788680702165219356 := 0
def tw7279768608700113054 := 0
def tw9262298641592913139 := 0
def tw17002359572114293331 := 0
def tw16370278629006181273 := 0
def tw7467186931526634762 := 0
def tw5427797483008575923 := 0
def tw7361515647765830989 := 0
def tw14025592412645024447 := 0
def tw6288725328429221006 := 0
def tw12495743884958812833 := 0
def tw8816777282277946935 := 0
def tw7222729624753779833 := 0
def tw7691718303618847695 := 0
def tw15885591965306545656 := 0
def tw4617106104447992682 := 0
def tw18370376773670846136 := 0
def tw2011804328404031379 := 0
def tw15414596345024695989 := 0
def tw6154253599760631752 := 0
def tw17543249106915789802 := 0
def tw10105057147271072575 := 0
def tw9168265448125589351 := 0
def tw8456259298055916758 := 0
def tw9271604932361770248 := 0
def tw8415427284484902831 := 0
def tw18225046682897051071 := 0
def tw9509625578488932128 := 0
def tw798974095208174722 := 0
def tw15131307055011056528 := 0
def tw17297180676139022376 := 0
def tw2200383833963591050 := 0
def tw14847928341151205355 := 0
def tw11310908348924533679 := 0
def tw2139871531869097992 := 0
def tw1037685902738079099 := 0
def tw15243469110797635731 := 0
def tw708840528685705332 := 0
def tw3645761979128763698 := 0
def tw11591651541903696514 := 0
def tw15616766445959865842 := 0
def tw2489143585476780368 := 0
def tw14163550996297486951 := 0
def tw7743506942660549138 := 0
def tw15429728919895852452 := 0
def tw17474474735003275952 := 0
def tw4376972995593029171 := 0
def tw2058481469790374146 := 0
def tw14379066612282683244 := 0
def tw13567429913362907441 := 0
def tw13888540398581789971 := 0
def tw3417578330376503882 := 0
def tw17519577218081422875 := 0
def tw5694419065007127040 := 0
def tw14589762919893377259 := 0
def tw12788617098807424368 := 0
def tw13984495833717798327 := 0
def tw17263456600522145194 := 0
def tw7597144144542146577 := 0
def tw11942431780148284611 := 0
def tw13553551463641446971 := 0
def tw13468520090955559430 := 0
def tw9351367368202460898 := 0
def tw3232709151591038500 := 0
def tw13230312335947591592 := 0
def tw5774049462747718104 := 0
def tw10221228239793578817 := 0
def tw3364481943402942151 := 0
def tw6248789884769689098 := 0
def tw7397482372270809616 := 0
def tw8962453269314568704 := 0
def tw1622334400050762607 := 0
def tw8486930612918142482 := 0
def tw10483540636720219112 := 0
def tw15512452066201885492 := 0
def tw13340496364308225704 := 0
def tw11648158530625579134 := 0
def tw4924684894738906297 := 0
def tw6600774930057837942 := 0
def tw7963848958358285356 := 0
def tw3823246982261750781 := 0
def tw2206877147734963278 := 0
def tw16656853116050296720 := 0
def tw1817217820061952858 := 0
def tw17829886352998366304 := 0
def tw4466383593246107582 := 0
def tw2618788470137703057 := 0
def tw14880176499465853598 := 0
def tw14540017533735334641 := 0
def tw16274957992318630620 := 0
def tw7405440580290065313 := 0
def tw5377046971390802766 := 0
def tw10091628743715034509 := 0
def tw12629485427904448903 := 0
def tw374210830694340113 := 0
def tw1675865771628719193 := 0
def tw14593344430501609617 := 0
def tw2085273439452681874 := 0
def tw6989841584360901792 := 0
def tw763088044503549130 := 0
def tw6945575784628863419 := 0
def tw9842167819930347560 := 0
def tw10852984525021634013 := 0
def tw3746051666258331125 := 0
def tw1733714904110839291 := 0
def tw15132259223807365316 := 0
def tw2383252967001475215 := 0
def tw8009318673901063644 := 0
def tw10630589159886477639 := 0
def tw11115293033130886741 := 0
def tw15773453114765143424 := 0
def tw15947725007946264144 := 0
def tw9289665208461798051 := 0
def tw3213371149254150662 := 0
def tw9410863162417642648 := 0
def tw7093770769968954436 := 0
def tw15706977275780157695 := 0
def tw1772180552595849804 := 0
def tw3229350655714495021 := 0
def tw15699169038229002906 := 0
def tw16984771470665662457 := 0
def tw936329026100831246 := 0
def tw6367336952981179993 := 0
def tw13046951703158129761 := 0
def tw16726636812816737233 := 0
def tw630634859928806010 := 0
def tw4776547503079825696 := 0
def tw6802716996839057214 := 0
def tw12149294493413169493 := 0
def tw10040822608360833243 := 0
def tw4385952537086941230 := 0
def tw14069549677944159283 := 0
def tw9641849284636183010 := 0
def tw3470424874723103849 := 0
def tw16932657507192438381 := 0
def tw14950575035501414688 := 0
def tw9930136626395235836 := 0
def tw2441905585776367875 := 0
def tw5481035687933571526 := 0
def tw4338567252461601412 := 0
def tw14817407100108962309 := 0
def tw9131909460428053419 := 0
def tw12219811564512570502 := 0
def tw8676951430797771787 := 0
def tw12083297276444617222 := 0
def tw4096149231668723053 := 0
def tw8900035817287194038 := 0
def tw8667947940002997797 := 0
def tw18054934197508721998 := 0
def tw1063364251275930808 := 0
def tw8342154804568437825 := 0
def tw15129283389484944392 := 0
def tw8994081009976255643 := 0
def tw10577162027436380876 := 0
def tw14706553975112909879 := 0
def tw3766718091429206010 := 0
def tw5232594502172207443 := 0
def tw10949981471354730817 := 0
def tw13417541096700095710 := 0
def tw9499388839101199538 := 0
def tw15341903771663362289 := 0
def tw12691764397612369062 := 0
def tw11752858181253923508 := 0
def tw15731376315804981518 := 0
def tw14964847710711063913 := 0
def tw14400634665105875405 := 0
def tw15972068087107115758 := 0
def tw15609663415208907733 := 0
def tw6757106237913650491 := 0
def tw192758139263383817 := 0
def tw4035053809284491370 := 0
def tw12417342495831152228 := 0
def tw4144488940993955620 := 0
def tw6471582120791003722 := 0
def tw10548089859449588013 := 0
def tw7226915410086964244 := 0
def tw12870079428683347064 := 0
def tw17925843709750493479 := 0
def tw244178217968289925 := 0
def tw4002697507799689495 := 0
def tw12716238729785852645 := 0
def tw7227273926057218814 := 0
def tw4787536745964128541 := 0
def tw2319800765774147458 := 0
def tw11453755293784695781 := 0
def tw15563981834299594209 := 0
def tw4542146725196172224 := 0
def tw5831107708737690185 := 0
def tw9276762508249087258 := 0
def tw16860321989734184602 := 0
def tw3552227187463773537 := 0
def tw7196882553746289862 := 0
def tw15753373519326807267 := 0
def tw6802478370803590025 := 0
def tw15767367079004549353 := 0
def tw15665857284269649314 := 0
def tw586647411352670112 := 0
def tw17715278546237554961 := 0
def tw2737665261762375901 := 0
def tw149609751428982148 := 0
def tw8356833219192092348 := 0
def tw10543857422530043923 := 0
def tw13781369716581547243 := 0
def tw4588213792857415052 := 0
def tw9477442298923033081 := 0
def tw11274574189773160498 := 0
def tw600456965021365151 := 0
def tw3257193333785679928 := 0
def tw8870610415969895900 := 0
def tw12279145945390697196 := 0
def tw10679174960692166938 := 0
def tw4692708350208505578 := 0
def tw15835802448405446185 := 0
def tw11823797273249217710 := 0
def tw4555271823592425326 := 0
def tw14143637924583285082 := 0
def tw524908986759437779 := 0
def tw7866814362940776583 := 0
def tw9803721446425494333 := 0
def tw4620726782559190560 := 0
def tw15158508600569642690 := 0
def tw14747790275167900256 := 0
def tw15592310262211086404 := 0
def tw12813366149510707357 := 0
def tw3830017006386072978 := 0
def tw6875675917655754467 := 0
def tw12881990121953497575 := 0
def tw10273993787472556150 := 0
def tw15707007443682628646 := 0
def tw16761584759665942532 := 0
def tw1705238747302771623 := 0
def tw12671731122047475123 := 0
def tw15479070233129863516 := 0
def tw14429718531056537719 := 0
def tw3316386310931168634 := 0
def tw14846552079103213 := 0
def tw12600356484987654147 := 0
def tw10851372591500728853 := 0
def tw9642366727192268766 := 0
def tw12235007382824746358 := 0
def tw4578092651828928611 := 0
def tw4958083840727072424 := 0
def tw3734781700897989015 := 0
def tw10710179859635859124 := 0
def tw6851540914948375641 := 0
def tw9647183941508654669 := 0
def tw15306910788918984340 := 0
def tw16503616502742680159 := 0
def tw15748837547415720526 := 0
def tw15313004038864635591 := 0
def tw18126822316234388084 := 0
def tw16842835266853737108 := 0
def tw4317002481547303102 := 0
def tw5043927659428938168 := 0
def tw14353561398528977894 := 0
def tw15945199546524536423 := 0
def tw9136063302564823433 := 0
def tw6154870286621175428 := 0
def tw17512343490237832208 := 0
def tw14624834286192446212 := 0
def tw18050432658312406834 := 0
def tw14212605052712967100 := 0
def tw2459080982461248804 := 0
def tw8221228804485071624 := 0
def tw9227929704328200858 := 0
def tw4152290696767136650 := 0
def tw11832969123877556704 := 0
def tw10145757823147125384 := 0
def tw9017090661609623030 := 0
def tw17141540587316431459 := 0
def tw12344677207015682790 := 0
def tw13731176241749696505 := 0
def tw13653599764985049031 := 0
def tw15378377560686040830 := 0
def tw16350895124451307999 := 0
def tw5087487914909728699 := 0
def tw7233269198516910053 := 0
def tw14490176971831391929 := 0
def tw15277801200819152633 := 0
def tw14875256620205457134 := 0
def tw1814498301211566486 := 0
def tw733965398244139398 := 0
def tw15548270129578639177 := 0
def tw14519647161846454032 := 0
def tw6828606907059707415 := 0
def tw16231683510509797977 := 0
def tw5428358909299248265 := 0
def tw6672917124426877456 := 0
def tw6105838595090594640 := 0
def tw5592957003762191949 := 0
def tw16785203018120206583 := 0
def tw16589119113690351897 := 0
def tw4090866809366824485 := 0
def tw9289976974196887356 := 0
def tw8062037019315343248 := 0
def tw5850851614175805412 := 0
def tw8323165396130981783 := 0
def tw3340315903581582985 := 0
def tw18193242631193767087 := 0
def tw17312989695860661154 := 0
def tw2632706460856739989 := 0
def tw7439450813025324301 := 0
def tw11536391680838803121 := 0
def tw5999553248471812070 := 0
def tw18305727965632400033 := 0
def tw16947255602967090062 := 0
def tw13676317920447096123 := 0
def tw12402179108084580859 := 0
def tw5214294229535253980 := 0
def tw6001580729968357179 := 0
def tw8436109837251672919 := 0
def tw15815557069468218809 := 0
def tw9503342813307908601 := 0
def tw12345259120185720238 := 0
def tw17978408332266025086 := 0
def tw9659838621107187494 := 0
def tw4332092942135054886 := 0
def tw1881803798433632297 := 0
def tw7478025077309055963 := 0
def tw4944238330443592625 := 0
def tw13475112536114494819 := 0
def tw16823491806368674406 := 0
def tw15869194978563519182 := 0
def tw8941298023080442889 := 0
def tw16618246129669395369 := 0
def tw11064955927644973891 := 0
def tw2840578448312935342 := 0
def tw615134818011030492 := 0
def tw2961398817785299344 := 0
def tw6488289162956153626 := 0
def tw8586438068167685580 := 0
def tw13174568281852359909 := 0
def tw5929277573828894433 := 0
def tw1455195752013137651 := 0
def tw4869137184746508696 := 0
def tw16127038870291009429 := 0
def tw5585742634129857876 := 0
def tw972198745430043154 := 0
def tw3304548574642448366 := 0
def tw5065132308806148327 := 0
def tw1814182697802274166 := 0
def tw12930217031637280694 := 0
def tw3349522921021480365 := 0
def tw1417030183106765134 := 0
def tw8506884916056189831 := 0
def tw56987950833540068 := 0
def tw3676657510813660367 := 0
def tw14547265371315410900 := 0
def tw10113325320409004551 := 0
def tw14381167949984248440 := 0
def tw16563942403396420351 := 0
def tw10923676435076953885 := 0
def tw5489482013745444352 := 0
def tw2342652160744353211 := 0
def tw10930104647970111412 := 0
def tw13115918653329232981 := 0
def tw12452337670764023930 := 0
def tw11207285062960760074 := 0
def tw8535106816794679101 := 0
def tw15827352525514417718 := 0
def tw18306314704492577200 := 0
def tw10311079807541207786 := 0
def tw5905099074546351726 := 0
def tw2004022828604471478 := 0
def tw14526524165608874590 := 0
def tw14947563777485160284 := 0
def tw17392166007044117437 := 0
def tw10157723129010599202 := 0
def tw6097578219194993386 := 0
def tw4570093374991058071 := 0
def tw4390560113802598841 := 0
def tw9541706604818195446 := 0
def tw5730179012551696062 := 0
def tw12267602390536699923 := 0
def tw3191608300712115723 := 0
def tw6283665458593816153 := 0
def tw13760849251146420302 := 0
def tw14645829765080907360 := 0
def tw2278509808053277245 := 0
def tw6106017706196796342 := 0
def tw16880054928775336010 := 0
def tw13882841814319362271 := 0
def tw11463358583204159919 := 0
def tw5902285398806739275 := 0
def tw16299706597849111733 := 0
def tw4816997858235755507 := 0
def tw6063410971008258614 := 0
def tw2321288940948612465 := 0
def tw4172908546804952990 := 0
def tw3168518200023092151 := 0
def tw10265611239389303995 := 0
def tw665703541130472626 := 0
def tw6519915246983087779 := 0
def tw91274847441105454 := 0
def tw3892766917716442460 := 0
def tw8509284522760163612 := 0
def tw11923153962742158935 := 0
def tw9040061722368241194 := 0
def tw9903534872406471933 := 0
def tw13701783865123456485 := 0
def tw9073405527224697561 := 0
def tw5336373662334073779 := 0
def tw14526569899112723405 := 0
def tw12747286380065771462 := 0
def tw3636865457019025071 := 0
def tw16067484827743336112 := 0
def tw14356427280378449389 := 0
def tw7811164330129261568 := 0
def tw16488391800272415386 := 0
def tw16313285929214148096 := 0
def tw2849443044732801897 := 0
def tw4035929765520749177 := 0
def tw4784676101084539294 := 0
def tw2450079662850869297 := 0
def tw8582105862344940391 := 0
def tw12629103111532727982 := 0
def tw17289161459886637023 := 0
def tw11512820842196990307 := 0
def tw1237217236994892009 := 0
def tw1335357983713719971 := 0
def tw7562461663685331996 := 0
def tw4063457210139898302 := 0
def tw5341366080725098951 := 0
def tw12626249602590384194 := 0
def tw2511537558148567997 := 0
def tw7692370189216669140 := 0
def tw9091289581004662436 := 0
def tw2358427389916610222 := 0
def tw14511200682856908690 := 0
def tw7077101577168394774 := 0
def tw3629549966272552889 := 0
def tw4601497131212363751 := 0
def tw15746530667991501494 := 0
def tw15143471280951173368 := 0
def tw12648955623722107926 := 0
def tw8903902615036482455 := 0
def tw1351934935959726 := 0
def tw17586563635569759058 := 0
def tw9541224757573647772 := 0
def tw13807584672977976140 := 0
def tw17138123257872007781 := 0
def tw8124844274354670503 := 0
def tw6639394738489249006 := 0
def tw7919639556502175976 := 0
def tw10123216441189411821 := 0
def tw12613803473304893077 := 0
def tw15269929467961950829 := 0
def tw16853260755261222683 := 0
def tw12252640760356849988 := 0
def tw6460114858382195137 := 0
def tw15953731316740572347 := 0
def tw3575861775450709240 := 0
def tw1961139136785382154 := 0
def tw3296798444283892227 := 0
def tw10826131685342718844 := 0
def tw9253803179700093939 := 0
def tw12083116829546293621 := 0
def tw4108653798350274214 := 0
def tw4215517146044964979 := 0
def tw5436723645411633839 := 0
def tw12284005522165721586 := 0
def tw8505560872955312649 := 0
def tw1207614355550102869 := 0
def tw4236254208668744608 := 0
def tw11147614667496793168 := 0
def tw3288879022731471183 := 0
def tw13890403691684453221 := 0
def tw10027313933982252584 := 0
def tw8314551402146306987 := 0
def tw13958884697417480409 := 0
def tw5531515345354707377 := 0
def tw11578837530807262198 := 0
def tw4939079889455247949 := 0
def tw17534209383128442367 := 0
def tw10348994261858866177 := 0
def tw17325012906249876800 := 0
def tw110374238092412591 := 0
def tw7159702325844293744 := 0
def tw6213232975878976468 := 0
def tw15402394507793253352 := 0
def tw523536412395782715 := 0
def tw5248976327038824792 := 0
def tw8090920316486909377 := 0
def tw11562495601292494057 := 0
def tw1211020133083826130 := 0
def tw7130598016138998703 := 0
def tw16109691424806588123 := 0
def tw1484631203474857831 := 0
def tw1471887103377325761 := 0
def tw11742515949037658771 := 0
def tw9317969140960944627 := 0
def tw11824191409435826350 := 0
def tw18269776153411203218 := 0
def tw13580430347369221275 := 0
def tw539614592994541357 := 0
def tw3156978324299110210 := 0
def tw6849673094218069187 := 0
def tw9563796717594355881 := 0
def tw597669465599236936 := 0
def tw2221718072468853407 := 0
def tw12008077065151702145 := 0
def tw2414665305305106541 := 0
def tw11679851565693597656 := 0
def tw5097444696224473273 := 0
def tw5448356700775079390 := 0
def tw13599128505737580375 := 0
def tw6941541237769589466 := 0
def tw6950726743015654646 := 0
def tw17685371757524069133 := 0
def tw11499852844397654762 := 0
def tw12354552307972038302 := 0
def tw4795303291003431738 := 0
def tw17367763598303239083 := 0
def tw2298681525851248969 := 0
def tw16114786918367660092 := 0
def tw12037392773355904288 := 0
def tw11107354322397951307 := 0
def tw4402637604897762546 := 0
def tw8895104023359005760 := 0
def tw16301154624162296935 := 0
def tw17165058403008915544 := 0
def tw10717628006532245388 := 0
def tw16644359402445709498 := 0
def tw15918333707735548907 := 0
def tw5639071333945309252 := 0
def tw5751892527075753872 := 0
def tw11815453140729488525 := 0
def tw7475313892887233998 := 0
def tw18352812938926147614 := 0
def tw9601692292730006863 := 0
def tw10525747674249096054 := 0
def tw14807388728236460916 := 0
def tw5069863016029508245 := 0
def tw1204741940682226139 := 0
def tw14694870486307936604 := 0
def tw2589688633984926291 := 0
def tw17141538558827327014 := 0
def tw9616503876946990679 := 0
def tw13852303499048656375 := 0
def tw10995383965809027261 := 0
def tw18221722197646860695 := 0
def tw6656172477577207403 := 0
def tw15999659873485500537 := 0
def tw16539230765140048379 := 0
def tw12809741333015698224 := 0
def tw11393962743921141170 := 0
def tw3359922584748311342 := 0
def tw8571427430564805240 := 0
def tw14985738909120467295 := 0
def tw11639941252999461588 := 0
def tw15944617782652664057 := 0
def tw10118976885732902678 := 0
def tw16811020052615771969 := 0
def tw6864928725307669886 := 0
def tw8191843476347411530 := 0
def tw10360717471816069126 := 0
def tw10770059617361454887 := 0
def tw839097775655807565 := 0
def tw10958889249736699995 := 0
def tw17042999761289717698 := 0
def tw667587741501351376 := 0
def tw10041972013793564954 := 0
def tw6808942248572830760 := 0
def tw3961609532727876779 := 0
def tw6977059002542933661 := 0
def tw14013563251296031675 := 0
def tw16657189006477455899 := 0
def tw10550951051493426252 := 0
def tw16883589212443575079 := 0
def tw12980898067720335100 := 0
def tw4642624802747909157 := 0
def tw17918447471331606526 := 0
def tw15594862076019601638 := 0
def tw677695927321983450 := 0
def tw15376103066498951400 := 0
def tw6299180169190428092 := 0
def tw15222256374869129476 := 0
def tw13550101844932707031 := 0
def tw592967524434144938 := 0
def tw1696809196773770298 := 0
def tw6955179624859317640 := 0
def tw12958146840960988568 := 0
def tw18401913005235200120 := 0
def tw4396549599054099789 := 0
def tw13929591805427845667 := 0
def tw3037659225824458936 := 0
def tw5428004253617131300 := 0
def tw11806899071590757243 := 0
def tw12695471372584257423 := 0
def tw17995262270905439746 := 0
def tw5154623007354352687 := 0
def tw13796123112200129749 := 0
def tw8958950032678653060 := 0
def tw14967949378805231457 := 0
def tw4183934046167161546 := 0
def tw3650656307655907203 := 0
def tw13425489489022031816 := 0
def tw8377429223069659795 := 0
def tw5050931591818622987 := 0
def tw8946499958630862102 := 0
def tw3965629349022461084 := 0
def tw13281313150722261549 := 0
def tw13285986356629256998 := 0
def tw5213561789182551754 := 0
def tw12282122256107161437 := 0
def tw14506673861282009136 := 0
def tw466111047385172748 := 0
def tw16751322092561532772 := 0
def tw13157765974819007203 := 0
def tw14350798699024726189 := 0
def tw6797629890986621742 := 0
def tw16480875713560235823 := 0
def tw14301727073041217761 := 0
def tw8810882683897285082 := 0
def tw10503620880935044009 := 0
def tw14408953998472862433 := 0
def tw3151788210084225921 := 0
def tw15775460608219176080 := 0
def tw7270909379908877844 := 0
def tw8005360372538207826 := 0
def tw10802105880138946197 := 0
def tw176055507748831810 := 0
def tw15883879570625297024 := 0
def tw547235865581388023 := 0
def tw1009089365200047211 := 0
def tw17314159754443598152 := 0
def tw16825053706905779751 := 0
def tw3941757900802207968 := 0
def tw3055961280234043209 := 0
def tw48980839958262127 := 0
def tw13432732147665745114 := 0
def tw12155659980729710712 := 0
def tw11347932665328220269 := 0
def tw10828837167237171329 := 0
def tw6826781601142906208 := 0
def tw2014008152275019123 := 0
def tw6231084233793518281 := 0
def tw8594561979592768463 := 0
def tw5144916596461721631 := 0
def tw1662942622487652588 := 0
def tw9450551798458362957 := 0
def tw6529365217106938581 := 0
def tw9180115078064748452 := 0
def tw9777877801218954284 := 0
def tw11738338663151607017 := 0
def tw17119991246928158790 := 0
def tw6743540955940734796 := 0
def tw13642597208698172562 := 0
def tw12892332013193575022 := 0
def tw12960117890600662255 := 0
def tw1209506063692509595 := 0
def tw10121666837589466038 := 0
def tw9154271636877528542 := 0
def tw267634509704873639 := 0
def tw1121573751833947433 := 0
def tw2322544964166861681 := 0
def tw6068309464087612132 := 0
def tw1073643563749965558 := 0
def tw15097000043802158635 := 0
def tw11226314910370584827 := 0
def tw11587244731495388528 := 0
def tw12093289825115182680 := 0
def tw8446120157351176402 := 0
def tw18027742598720127927 := 0
def tw1795236455385602205 := 0
def tw12366750307591223735 := 0
def tw11884377533142332921 := 0
def tw15880081079094442289 := 0
def tw5603203264085990625 := 0
def tw10330152750289006320 := 0
def tw10200514235863123613 := 0
def tw16856903210248107811 := 0
def tw12831376526952171359 := 0
def tw13456128224997537663 := 0
def tw904243553920085791 := 0
def tw10362474269820013089 := 0
def tw2358916863548952684 := 0
def tw6719632271233621627 := 0
def tw3191563979564809925 := 0
def tw11401085261290524999 := 0
def tw8696897699182345593 := 0
def tw4536942398230680320 := 0
def tw6186614140227147720 := 0
def tw3082584853392680058 := 0
def tw2905999179519850021 := 0
def tw13324915165057770706 := 0
def tw4403725493747851694 := 0
def tw3177437699336546136 := 0
def tw6324666153087322448 := 0
def tw2718221854390394232 := 0
def tw2673008586351743988 := 0
def tw7088073206372429002 := 0
def tw2898093041707717568 := 0
def tw1235418931753394220 := 0
def tw1916136941783298168 := 0
def tw17870260167849732681 := 0
def tw7929897601922988085 := 0
def tw1423843263650714865 := 0
def tw5877861215459960161 := 0
def tw451232136855894120 := 0
def tw4976685233878214653 := 0
def tw5785812069395866961 := 0
def tw17819580936835067729 := 0
def tw4888078464257817742 := 0
def tw16239755887034893616 := 0
def tw8064393642438427609 := 0
def tw16972389213664532457 := 0
def tw10639687430372835499 := 0
def tw869327456825935413 := 0
def tw10333988878722114938 := 0
def tw1033884903341289154 := 0
def tw4598008993645028673 := 0
def tw7370642767561543654 := 0
def tw12438502694754958472 := 0
def tw5752610689225474556 := 0
def tw4892523624227277668 := 0
def tw1087841919002565706 := 0
def tw15173259220709973066 := 0
def tw15255158143085441429 := 0
def tw13587793875546311679 := 0
def tw11161671785324710531 := 0
def tw4450555584498596374 := 0
def tw6769879427320949519 := 0
def tw18361427632893873122 := 0
def tw8635375681331601717 := 0
def tw3890020691187962578 := 0
def tw15255676460743037646 := 0
def tw16833705777968900897 := 0
def tw13283456268407537599 := 0
def tw4534503831110793344 := 0
def tw1615441657870314436 := 0
def tw5265030219899651216 := 0
def tw6992252631081478610 := 0
def tw3012663999074232482 := 0
def tw7409390990367568586 := 0
def tw4426282416014184922 := 0
def tw11494392573161568879 := 0
def tw2258896548375371794 := 0
def tw8133667289184296997 := 0
def tw5948256578006500016 := 0
def tw4235359233893519417 := 0
def tw12602910202925828591 := 0
def tw4614538641811817460 := 0
def tw13121659494174250295 := 0
def tw9337503973947659054 := 0
def tw8767797045024367552 := 0
def tw16557158946940775699 := 0
def tw17435132715503722145 := 0
def tw2698279464456487509 := 0
def tw6232506321878432454 := 0
def tw1821948733006166817 := 0
def tw17724758358789154180 := 0
def tw16894180709159904089 := 0
def tw11870482153705889366 := 0
def tw3589134155970391679 := 0
def tw14526060184272648947 := 0
def tw273065418603427579 := 0
def tw828434917373485964 := 0
def tw16122974151825762821 := 0
def tw12880175124271096719 := 0
def tw11735099881742131148 := 0
def tw8026585990289212604 := 0
def tw1699143930239700120 := 0
def tw9517462494722656484 := 0
def tw5358347216171228510 := 0
def tw12129462583583576649 := 0
def tw16924234153502975117 := 0
def tw10485873572710999308 := 0
def tw15823470810373160569 := 0
def tw15698874837347759880 := 0
def tw534118200765562687 := 0
def tw4246649398814685032 := 0
def tw14277299962902919816 := 0
def tw7892737426835310846 := 0
def tw8813669466030210781 := 0
def tw6205688750321302309 := 0
def tw14966196830820056056 := 0
def tw9468629367340349510 := 0
def tw11425049753587503691 := 0
def tw2852095836055920381 := 0
def tw1723964415667255215 := 0
def tw15483497212450708400 := 0
def tw7454248900694973897 := 0
def tw2787718909211727797 := 0
def tw839305049700019190 := 0
def tw8540390844018747775 := 0
def tw5587613020393040670 := 0
def tw4119312077273023302 := 0
def tw4815132021745299270 := 0
def tw7793147981489148619 := 0
def tw17462352089771811971 := 0
def tw2439693184156136679 := 0
def tw1786466768504053672 := 0
def tw636797120049582711 := 0
def tw14050152396613143291 := 0
def tw10155166266834734077 := 0
def tw15451068463145583932 := 0
def tw9169686329421185642 := 0
def tw10833089016553890499 := 0
def tw14466192867721480788 := 0
def tw8698236598067166982 := 0
def tw9533699544229318354 := 0
def tw11133580717573448040 := 0
def tw6074547620557069001 := 0
def tw16894865501283127313 := 0
def tw14745004681681391065 := 0
def tw1392583649163521279 := 0
def tw11062255415794452947 := 0
def tw3806814130887280195 := 0
def tw1408599297512880658 := 0
def tw5331044784931314590 := 0
def tw16672244102046588432 := 0
def tw1339136601088584964 := 0
def tw13653444217896794837 := 0
def tw10372489636463643016 := 0
def tw15132480045105941086 := 0
def tw18425120533396055446 := 0
def tw13563153829652175060 := 0
def tw11105619334253288976 := 0
def tw7325713733303509728 := 0
def tw9162001597977930541 := 0
def tw15699380950418911236 := 0
def tw9395078371143933307 := 0
def tw3906741125474055081 := 0
def tw11619689447117363972 := 0
def tw6485012440742932534 := 0
def tw829102205864651423 := 0
def tw620893164829923453 := 0
def tw16083457341737153430 := 0
def tw14845775641518079468 := 0
def tw16467985469132408991 := 0
def tw6136229611477071855 := 0
def tw16761332592289867721 := 0
def tw900383803004910021 := 0
def tw10878698638413468907 := 0
def tw5274269921077321869 := 0
def tw9092931836146829021 := 0
def tw8066012699557959149 := 0
def tw17781926802848655073 := 0
def tw963235037210065349 := 0
def tw2252764649034558019 := 0
def tw16717216658673121042 := 0
def tw1993541283361080965 := 0
def tw561792887601292851 := 0
def tw2565396575513936276 := 0
def tw12880946108472128799 := 0
def tw6092887261930734471 := 0
def tw1087037783751974135 := 0
def tw14150910990566293027 := 0
def tw3782340520274634884 := 0
def tw11865240570442926070 := 0
def tw2134397612430373508 := 0
def tw15001837236831759312 := 0
def tw1884852848368414350 := 0
def tw13317410028685792295 := 0
def tw13986979041123912457 := 0
def tw7117123952299096029 := 0
def tw2784381866594627198 := 0
def tw8690527782733056049 := 0
def tw12765448025036314527 := 0
def tw18347725455354759552 := 0
def tw7160946099930390584 := 0
def tw2748288726293562688 := 0
def tw16016845476966866031 := 0
def tw3292269689702652713 := 0
def tw2438421672531263478 := 0
def tw17865831609889632481 := 0
def tw9301820191400609527 := 0
def tw12665075666250461126 := 0
def tw3457551986172003225 := 0
def tw1718050154526900047 := 0
def tw17812345171731491996 := 0
def tw2284113706026196108 := 0
def tw13269532785188334818 := 0
def tw13917857287488490581 := 0
def tw7625407530889443639 := 0
def tw11797349039174566556 := 0
def tw18296404537169860087 := 0
def tw16410054924317956362 := 0
def tw10347349986110100280 := 0
def tw6373621849817521140 := 0
def tw37142321251991020 := 0
def tw4661360955150426198 := 0
def tw2301646574645310219 := 0
def tw15580100670935262173 := 0
def tw3642816953787193045 := 0
def tw957725333069510701 := 0
def tw8232313131007973130 := 0
def tw16479941256435305839 := 0
def tw14793015097411743174 := 0
def tw5119561167834907935 := 0
def tw15832101131794887164 := 0
def tw6771977629099141925 := 0
def tw7912282895680227548 := 0
def tw9045387625028700582 := 0
def tw9779569338225010630 := 0
def tw14846503367837957563 := 0
def tw5920917917383699213 := 0
def tw11625665422275819753 := 0
def tw10335278387216311311 := 0
def tw3756788520911765258 := 0
def tw17334357680309930087 := 0
def tw3816559620810862453 := 0
def tw12598218669098728590 := 0
def tw6423987895169759288 := 0
def tw7175414904455465721 := 0
def tw13131512118912811275 := 0
def tw12643518019138077323 := 0
def tw2906622543993536814 := 0
def tw13842848744732311557 := 0
def tw10114497583037619939 := 0
def tw6826682115087191259 := 0
def tw3121340126277567701 := 0
def tw7957461703255107278 := 0
def tw1959245479623779485 := 0
def tw13627320987540926559 := 0
def tw9591265963001422189 := 0
def tw15979904010520781984 := 0
def tw2241720309652361815 := 0
def tw1200048350953535601 := 0
def tw12818518041571596917 := 0
def tw12219044325753375245 := 0
def tw12205690152079860433 := 0
def tw11039875786232195532 := 0
def tw14313446938324520240 := 0
def tw17380189673401358178 := 0
def tw1159380640616764140 := 0
def tw8717477252293311874 := 0
def tw10484114314791267722 := 0
def tw480602844511968768 := 0
def tw3971522569515057764 := 0
def tw12052715291662089171 := 0
def tw8223141249319417738 := 0
def tw17645101714501910496 := 0
def tw18198611510618874437 := 0
def tw4336231916233022577 := 0
def tw13539838585042114543 := 0
def tw9882795474675773197 := 0
def tw15565988006787028084 := 0
def tw4118772102771172553 := 0
def tw2590709933167073932 := 0
def tw9569166280849484820 := 0
def tw319515250775270105 := 0
def tw12176379095664285139 := 0
def tw1107290811100761314 := 0
def tw5047704924284463957 := 0
def tw1284518906463568440 := 0
def tw16935347868545459548 := 0
def tw5102054366139466258 := 0
def tw8689497836927142555 := 0
def tw8760877175938756538 := 0
def tw10445311129819454944 := 0
def tw11778414083286973394 := 0
def tw15961656539655153623 := 0
def tw4451525860594774790 := 0
def tw1706206177993699033 := 0
def tw18205662391951382357 := 0
def tw5577397028033380289 := 0
def tw8826892309390926237 := 0
def tw18213719080078958434 := 0
def tw4169227985107966651 := 0
def tw8359649986169042871 := 0
def tw6726864723561728501 := 0
def tw13288610386887045071 := 0
def tw7264978881476818668 := 0
def tw4316778472067556143 := 0
def tw1068422634689354777 := 0
def tw9440846323188938384 := 0
def tw5068264293080625770 := 0
def tw9498741357028653434 := 0
def tw661822816407463746 := 0
def tw5362419595778535461 := 0
def tw8919226303884500826 := 0
def tw15271421475321573939 := 0
def tw17333890761505368397 := 0
def tw476347531868338823 := 0
def tw3087830938743986515 := 0
def tw2963149703444684971 := 0
def tw907629284010361283 := 0
def tw453711090993295450 := 0
def tw5632602081424805317 := 0
def tw17494235542385542260 := 0
def tw12073631670226262575 := 0
def tw13368630697360984828 := 0
def tw5019567947114314019 := 0
def tw8376680167697892320 := 0
def tw1476083308918975072 := 0
def tw9375901340329085014 := 0
def tw16541308927952764012 := 0
def tw16384738498410823661 := 0
def tw12307914029193174669 := 0
def tw16903235164105842359 := 0
def tw3192416696502901909 := 0
def tw15704938322041601891 := 0
def tw14186891386550661671 := 0
def tw10122239368467846407 := 0
def tw14998696001320705687 := 0
def tw5691117202536119813 := 0
def tw6300119444577793612 := 0
def tw17368748795988383413 := 0
def tw3712526657762911379 := 0
def tw9891954726226585778 := 0
def tw5665423249635461626 := 0
def tw7843775751982161731 := 0
def tw8536494476518026491 := 0
def tw14679737111497631008 := 0
def tw10484801389645956791 := 0
def tw10245647119680244608 := 0
def tw5209996337187553717 := 0
def tw8275081873881346927 := 0
def tw9634232598762176771 := 0
def tw14364444337600579267 := 0
def tw9942765854661298764 := 0
def tw17939352822895305917 := 0
def tw4502861882905048768 := 0
def tw1444620830466672411 := 0
def tw164348309784040386 := 0
def tw8528671790764793965 := 0
def tw8894930657120572752 := 0
def tw5403627212470997620 := 0
def tw1729546028639511965 := 0
def tw5736717352901367560 := 0
def tw1216118952608460441 := 0
def tw13151949429699307196 := 0
def tw17819315362960158955 := 0
def tw14761349549450304904 := 0
def tw2647132314049853831 := 0
def tw7633876823544081210 := 0
def tw4862432289861000908 := 0
def tw5811324350519549789 := 0
def tw4343998845030109205 := 0
def tw11213181212235642547 := 0
def tw13244193042442905094 := 0
def tw14627396666974990791 := 0
def tw3533248581435244113 := 0
def tw15885408102665742296 := 0
def tw6829236032755064300 := 0
def tw1740157078993875526 := 0
def tw4948177458824096355 := 0
def tw11899542554536276891 := 0
def tw610376655092706360 := 0
def tw5459672477337385615 := 0
def tw2488381016899279524 := 0
def tw15142988831143049819 := 0
def tw5059583495656188596 := 0
def tw11627155381592061034 := 0
def tw13674854594835401381 := 0
def tw13993389176987391193 := 0
def tw6982511109002020956 := 0
def tw2068120825007900293 := 0
def tw8017263053039102534 := 0
def tw7496151038264302500 := 0
def tw12777723814486170918 := 0
def tw7280272920733342914 := 0
def tw9641175691421055996 := 0
def tw17506452834801144614 := 0
def tw11247474237552025244 := 0
def tw15022534123126609838 := 0
def tw6978184201387163511 := 0
def tw12546533161251299052 := 0
def tw10605142985686859095 := 0
def tw2626769382828873987 := 0
def tw13865121714127924546 := 0
def tw2958621400625296436 := 0
def tw18049778269724257690 := 0
def tw14988325614419501417 := 0
def tw4856264960843745617 := 0
def tw1520030880212727487 := 0
def tw1248835018089678816 := 0
def tw11324625566684823470 := 0
def tw1933052507574448591 := 0
def tw6957580242734647246 := 0
def tw7713422530980048920 := 0
def tw1722841241251480914 := 0
def tw18023353054581537956 := 0
def tw9324676174706801932 := 0
def tw18279555941062813689 := 0
def tw10376963059060582941 := 0
def tw2358835915402448658 := 0
def tw17082878443474427429 := 0
def tw3072258987920874115 := 0
def tw6485614898601691625 := 0
def tw8598131251890358879 := 0
def tw18037143873828107205 := 0
def tw9381057188945730911 := 0
def tw12164544203781957696 := 0
def tw12595512035466482660 := 0
def tw10623586972339315098 := 0
def tw12638799508540630399 := 0
def tw2245332400805908704 := 0
def tw2471373647771828434 := 0
def tw17148655315169796156 := 0
def tw5946478767243448952 := 0
def tw6367082743462361371 := 0
def tw6654825151763341805 := 0
def tw16403103440057915501 := 0
def tw16834816541672041241 := 0
def tw7351273324740807211 := 0
def tw10991242542411957357 := 0
def tw8545330480290150170 := 0
def tw3525913388626592172 := 0
def tw6626543257294387175 := 0
def tw12363553147438888428 := 0
def tw6496610924867430586 := 0
def tw17579769750046114947 := 0
def tw12945598666150218839 := 0
def tw1887459587604891489 := 0
def tw9340805867507271368 := 0
def tw4954790480400010169 := 0
def tw7453888701554311632 := 0
def tw6877878015076263983 := 0
def tw10941727953628302771 := 0
def tw11116952635814406953 := 0
def tw15403614840461275532 := 0
def tw11319364692185712342 := 0
def tw8078596719312763787 := 0
def tw7877173600927246377 := 0
def tw6179508623614273994 := 0
def tw16780560199136175602 := 0
def tw9325703280917761226 := 0
def tw15674559280478604679 := 0
def tw299737976042496494 := 0
def tw573980874157576702 := 0
def tw13900089213741711350 := 0
def tw642660766067202296 := 0
def tw3177606417188871296 := 0
def tw4316167458450211225 := 0
def tw14273536357958092324 := 0
def tw10943286851667034761 := 0
def tw13001591954647884918 := 0
def tw1966709568984921351 := 0
def tw14137225048744938033 := 0
def tw11193578516742604295 := 0
def tw11028767869323336824 := 0
def tw11645722874617405704 := 0
def tw4026300619982045211 := 0
def tw12558704020386790942 := 0
def tw5518368783604272707 := 0
def tw8832437692171796625 := 0
def tw7152806529734684 := 0
def tw5465362050281295116 := 0
def tw14674389257408847692 := 0
def tw10169469798928658408 := 0
def tw3676197001050196794 := 0
def tw4501745931023195544 := 0
def tw9541249683037660791 := 0
def tw3491014113514091897 := 0
def tw6223779335675787969 := 0
def tw10073058477072742233 := 0
def tw1923552224791983000 := 0
def tw15809951711994632043 := 0
def tw12174101023067230882 := 0
def tw407172231295907204 := 0
def tw11987407534381535679 := 0
def tw7815068399201539854 := 0
def tw3144928648767715676 := 0
def tw16275740743019276889 := 0
def tw6485216430674614822 := 0
def tw16194753802154760465 := 0
def tw6050833176330999506 := 0
def tw4758786426979594288 := 0
def tw17869719981770517727 := 0
def tw10093645761396588813 := 0
def tw18216993216012741273 := 0
def tw4742609919654045024 := 0
def tw6061272491582162198 := 0
def tw11134087670141582439 := 0
def tw14134252134864179163 := 0
def tw6438486208723394535 := 0
def tw1465019046510899388 := 0
def tw12261033047357166926 := 0
def tw16751351467510189561 := 0
def tw17291577763298119879 := 0
def tw7341382208079438983 := 0
def tw5752913386472264993 := 0
def tw13949759143618749820 := 0
def tw15331722222686705293 := 0
def tw9823493189036447450 := 0
def tw13181814457846838251 := 0
def tw6313662773860671178 := 0
def tw12199451209544694238 := 0
def tw6330458078055165933 := 0
def tw7940941170119552220 := 0
def tw2944815448693303100 := 0
def tw16509341873920697753 := 0
def tw2396951634294493064 := 0
def tw1609151805073713044 := 0
def tw3335548015870306856 := 0
def tw4462380791905791648 := 0
def tw6360112222397807597 := 0
def tw17947995687823256400 := 0
def tw3485770263387814200 := 0
def tw16552909142970771254 := 0
def tw5642170273804513954 := 0
def tw5201412156820048054 := 0
def tw14317021779736592063 := 0
def tw4012938176676905115 := 0
def tw5706810132809202282 := 0
def tw11862510956905224957 := 0
def tw7241551373933959573 := 0
def tw15806294509885998380 := 0
def tw3613057000318065258 := 0
def tw984666398008802420 := 0
def tw15261940962761068922 := 0
def tw9335717206104881571 := 0
def tw1158860584658209910 := 0
def tw17575088805968206430 := 0
def tw6138432025369817629 := 0
def tw11895976994591822704 := 0
def tw11280765871741524817 := 0
def tw14505923132822543321 := 0
def tw17149325627237845026 := 0
def tw12516446962766382211 := 0
def tw14756656109184943391 := 0
def tw13981705237746162678 := 0
def tw16492970608685675274 := 0
def tw11085052973904483437 := 0
def tw14912750535930711160 := 0
def tw11885982305482994126 := 0
def tw6047526914725612334 := 0
def tw9831659745279892024 := 0
def tw10607189115039929697 := 0
def tw3086722010814954741 := 0
def tw16067972502708418463 := 0
def tw8786448869119881319 := 0
def tw3072409893940107058 := 0
def tw6983830335207591575 := 0
def tw17627242086023355550 := 0
def tw12314556739323215108 := 0
def tw11642248538552858783 := 0
def tw9409829560668751423 := 0
def tw16471922748442604453 := 0
def tw6704998985445644285 := 0
def tw12793010011061339510 := 0
def tw15676287537455054970 := 0
def tw14639990105811240995 := 0
def tw17543896568582714323 := 0
def tw15406210623294062968 := 0
def tw7080518414322691127 := 0
def tw3829319748782270785 := 0
def tw7626546974997865159 := 0
def tw3851811049138882349 := 0
def tw7253722526398721746 := 0
def tw18416478825093820232 := 0
def tw11940101276697187984 := 0
def tw10736055282959888388 := 0
def tw6021734298308630641 := 0
def tw493909319422161028 := 0
def tw6971845278045066247 := 0
def tw1418642528869094161 := 0
def tw15537363722394128047 := 0
def tw10975762794301279708 := 0
def tw14693817519859605710 := 0
def tw9875782296206088633 := 0
def tw11116087044294963926 := 0
def tw14826805335463828043 := 0
def tw621542043843462746 := 0
def tw11885794798390608887 := 0
def tw14138193108976209962 := 0
def tw17647587390416603455 := 0
def tw9619791227631606503 := 0
def tw345553737008039362 := 0
def tw1735289392735437143 := 0
def tw16115224187779113448 := 0
def tw9068231908795627554 := 0
def tw6128509503591777390 := 0
def tw9503057546248302674 := 0
def tw6375961962385043997 := 0
def tw8159044141800309369 := 0
def tw2211549138713161496 := 0
def tw2975251272400463825 := 0
def tw6859294539589956100 := 0
def tw10542132351122406902 := 0
def tw3471009021701928767 := 0
def tw5012495625935408446 := 0
def tw5448719640059029944 := 0
def tw17825966739444167487 := 0
def tw14173617988553137729 := 0
def tw18426964624713250990 := 0
def tw5418193043919495631 := 0
def tw9241204713698356407 := 0
def tw6240005267349327904 := 0
def tw1060233275591989113 := 0
def tw12051567984655750639 := 0
def tw1810447619491219261 := 0
def tw14067106130473168642 := 0
def tw3295668718403794518 := 0
def tw16854912843357408033 := 0
def tw6794127596859114211 := 0
def tw3570984031454185670 := 0
def tw4394327658949737256 := 0
def tw16018156032202126709 := 0
def tw335711681284393260 := 0
def tw8836381507549734254 := 0
def tw554826466654219646 := 0
def tw6133038011923572360 := 0
def tw10893819578033461542 := 0
def tw14425758454632610070 := 0
def tw8000700194138975614 := 0
def tw15355962101947399782 := 0
def tw12170204051668904682 := 0
def tw4963393238238840606 := 0
def tw3933005190176523923 := 0
def tw4728402692144168244 := 0
def tw959810514130141017 := 0
def tw3191163845666146224 := 0
def tw14553530065086105343 := 0
def tw10651042212868188341 := 0
def tw10539415355551554264 := 0
def tw5089399888383680132 := 0
def tw7433961743967433805 := 0
def tw17901607078962876571 := 0
def tw17298706549181381155 := 0
def tw7280933838493384804 := 0
def tw5939948619959523324 := 0
def tw1566206602725642076 := 0
def tw14745288116071250200 := 0
def tw7689922609355616648 := 0
def tw9349511436634915807 := 0
def tw436137455918554652 := 0
def tw3239970253477923182 := 0
def tw5687227458824621066 := 0
def tw14313857236214723954 := 0
def tw11720040375526791546 := 0
def tw1311403472229792620 := 0
def tw1094830943456670629 := 0
def tw16526522575982848586 := 0
def tw1953991712556304597 := 0
def tw6674169004308714828 := 0
def tw5317074898694379366 := 0
def tw1033468703022448781 := 0
def tw6901892461399483126 := 0
def tw11600932045371636703 := 0
def tw13292137321173532677 := 0
def tw14824892371755413089 := 0
def tw18087132282217697949 := 0
def tw13673483223129477146 := 0
def tw17316119136567235555 := 0
def tw14116921265509946758 := 0
def tw10472993680163432916 := 0
def tw3777245808276444071 := 0
def tw9820829226574628507 := 0
def tw499279868524408569 := 0
def tw4564228113479979573 := 0
def tw14300609950077441221 := 0
def tw8621431757590784181 := 0
def tw2211460681499662388 := 0
def tw1841810584315923803 := 0
def tw15291888423576670468 := 0
def tw16655055231569729470 := 0
def tw13748538447359602665 := 0
def tw5705538967178472658 := 0
def tw4251198665238145309 := 0
def tw12542969181359605165 := 0
def tw2353723696128476082 := 0
def tw14836289566502120523 := 0
def tw782550311272404935 := 0
def tw4347789501474859374 := 0
def tw565398695115002256 := 0
def tw11534666396426552545 := 0
def tw5602878302827645754 := 0
def tw14321572692793430500 := 0
def tw16894059162668049290 := 0
def tw3887675757004324095 := 0
def tw10886200158882631968 := 0
def tw8378428601782874263 := 0
def tw12011438331429910550 := 0
def tw12722826287593198962 := 0
def tw8133028570387749829 := 0
def tw5284587245106928914 := 0
def tw17215754820933421395 := 0
def tw14694109052292661364 := 0
def tw14985568733452628930 := 0
def tw2832415398228976420 := 0
def tw5963307680847977115 := 0
def tw11723023394219384944 := 0
def tw18370460428819191584 := 0
def tw14784249719446780970 := 0
def tw9647860652117123883 := 0
def tw1061109919748809871 := 0
def tw18236028138527396250 := 0
def tw11848124243090639349 := 0
def tw13002994888846141062 := 0
def tw17614472115277026401 := 0
def tw10076214703516547333 := 0
def tw3346510996195262572 := 0
def tw5795485933775189448 := 0
def tw5478740057213429492 := 0
def tw9995395433955512869 := 0
def tw11972721790150316414 := 0
def tw14337071352122078004 := 0
def tw611695923678369009 := 0
def tw16417386210594862745 := 0
def tw5678245289901581462 := 0
def tw9443737822916538264 := 0
def tw4086086388876462452 := 0
def tw12403892034542849849 := 0
def tw11782650192050541055 := 0
def tw16436076674622361327 := 0
def tw14894617099255581889 := 0
def tw5264141528933869160 := 0
def tw18188686916007463304 := 0
def tw18039628505767880427 := 0
def tw14163369594750883685 := 0
def tw866937308407938004 := 0
def tw8267806650011227364 := 0
def tw16555199516341015070 := 0
def tw15578677572786316894 := 0
def tw17063828756528357743 := 0
def tw1957337972045387382 := 0
def tw17856193129695348447 := 0
def tw10245106108615266098 := 0
def tw10068524538665558363 := 0
def tw5593572657527080922 := 0
def tw17373331875761752028 := 0
def tw1956761468504513723 := 0
def tw3369246532106531802 := 0
def tw5936224662297417762 := 0
def tw13596175464002193037 := 0
def tw12938722221117517249 := 0
def tw15948878819546270385 := 0
def tw16888951069348039353 := 0
def tw13195657105998105316 := 0
def tw5023640782154563543 := 0
def tw233617442351744497 := 0
def tw4978279079647697069 := 0
def tw11519806025932554373 := 0
def tw8705350450638209756 := 0
def tw10996280703042608919 := 0
def tw2000040606161908286 := 0
def tw12198178369989126843 := 0
def tw208637543022154052 := 0
def tw12345200776750489904 := 0
def tw8630259738500210971 := 0
def tw3885932846097077769 := 0
def tw11388447221852417556 := 0
def tw9524665397106212618 := 0
def tw13631643030489099831 := 0
def tw2598978985323546239 := 0
def tw743689764722380121 := 0
def tw150497341267253955 := 0
def tw133619840933941518 := 0
def tw3857602801794329857 := 0
def tw2450469905865682229 := 0
def tw8710690519848722114 := 0
def tw10622334572980911832 := 0
def tw16343158882981615661 := 0
def tw11985189460502416724 := 0
def tw122290594977808111 := 0
def tw17394018647687646361 := 0
def tw13977233403801092404 := 0
def tw14829363708637559408 := 0
def tw6375963338151305272 := 0
def tw14584803250409419986 := 0
def tw40872327330873721 := 0
def tw6804501210217402222 := 0
def tw4295388826924533335 := 0
def tw7220764597152364636 := 0
def tw1943532486113381667 := 0
def tw6399818959425217727 := 0
def tw9881122154386711996 := 0
def tw729346962371973821 := 0
def tw12219089684242433296 := 0
def tw17867142825676666493 := 0
def tw4378913709583447736 := 0
def tw12759525715042917016 := 0
def tw7338834236545664476 := 0
def tw5037257012830381475 := 0
def tw7228165024867053198 := 0
def tw12270812712989723493 := 0
def tw15024620073260372961 := 0
def tw4372591907091958869 := 0
def tw16586294468158205509 := 0
def tw6535618346547028880 := 0
def tw15532270188243203574 := 0
def tw2978797648710726254 := 0
def tw16729994198641138689 := 0
def tw10288252089445604726 := 0
def tw9793298963619129458 := 0
def tw11127673929568256948 := 0
def tw6445307240616894964 := 0
def tw5774812677977678772 := 0
def tw9004836866155848071 := 0
def tw660919000693053896 := 0
def tw11567719969452557314 := 0
def tw18346697153087959053 := 0
def tw13743011756930566076 := 0
def tw14763048693165023058 := 0
def tw6733053869655743215 := 0
def tw6670506550552727842 := 0
def tw17397198663421740762 := 0
def tw11254396938502910718 := 0
def tw4668386840419501953 := 0
def tw12259178508984327962 := 0
def tw5541703866839406748 := 0
def tw8592723757847240706 := 0
def tw2107871801071182238 := 0
def tw15780843820083048833 := 0
def tw12679867393959380881 := 0
def tw2120018356448466884 := 0
def tw11000320640286687160 := 0
def tw1883466527906484739 := 0
def tw14558726189784262590 := 0
def tw8670706500450819154 := 0
def tw2100433894819972294 := 0
def tw4412911247328963137 := 0
def tw10198929761943583523 := 0
def tw15347557011979698721 := 0
def tw3440403847959393129 := 0
def tw13208559490042818598 := 0
def tw16422799817230971097 := 0
def tw18377329800122803774 := 0
def tw10397876575084581717 := 0
def tw12005731672729225607 := 0
def tw13161225865575374373 := 0
def tw6716589529641476220 := 0
def tw15964221301128571051 := 0
def tw7742088901350771714 := 0
def tw6479231478907596448 := 0
def tw6769602682210770996 := 0
def tw6469554840733858000 := 0
def tw4347615954697811170 := 0
def tw7045522855655371180 := 0
def tw3964014562281911010 := 0
def tw16432345350276994494 := 0
def tw11268991174635955819 := 0
def tw14932005166441395246 := 0
def tw18163647873849384167 := 0
def tw16347296298011852173 := 0
def tw1849072387971793212 := 0
def tw11822724207031482198 := 0
def tw10650091417748696699 := 0
def tw15125441486790773078 := 0
def tw12568418865688886271 := 0
def tw17847816093159676787 := 0
def tw4567651931070987289 := 0
def tw10240584500146256715 := 0
def tw10066975218723364788 := 0
def tw14202907901189412462 := 0
def tw17235082691246493758 := 0
def tw2207738829528411356 := 0
def tw5264996783063570124 := 0
def tw1791880730220380988 := 0
def tw9070351365734742636 := 0
def tw14896629393023405465 := 0
def tw5134688586649173535 := 0
def tw3531914836010463259 := 0
def tw16305633471115855920 := 0
def tw11786784844168091005 := 0
def tw17937267196924633291 := 0
def tw12185725283886229748 := 0
def tw6332509245438982618 := 0
def tw16252568723182666352 := 0
def tw744503284111538412 := 0
def tw13711735297727307014 := 0
def tw15396929014211123801 := 0
def tw3709314793056883416 := 0
def tw449493934054377295 := 0
def tw1937614707879677395 := 0
def tw7770598528388054600 := 0
def tw5801847011163721912 := 0
def tw7470332543830389791 := 0
def tw14033558255928402489 := 0
def tw15219021966653498761 := 0
def tw10657903108153517149 := 0
def tw2868464029524629933 := 0
def tw18088331613093131792 := 0
def tw11269061362727480317 := 0
def tw2229301317961772112 := 0
def tw13736139922480549364 := 0
def tw13026130943953113471 := 0
def tw12113781898915267526 := 0
def tw16529984059260439406 := 0
def tw6683933805173660503 := 0
def tw10959340811705341558 := 0
def tw14197081079535907881 := 0
def tw4889332985684540320 := 0
def tw6758677815307541356 := 0
def tw6041405782322377778 := 0
def tw14812193540735506890 := 0
def tw11380803023575636153 := 0
def tw3456308598312891197 := 0
def tw9032355035261854567 := 0
def tw15546643170071090942 := 0
def tw1221287466953938674 := 0
def tw1787408274187995300 := 0
def tw17244227794680650534 := 0
def tw7342241266433704737 := 0
def tw15091050904340930997 := 0
def tw13038509800449659510 := 0
def tw14287305225058106928 := 0
def tw6907868238771362187 := 0
def tw2839070700629326465 := 0
def tw10484466574077900482 := 0
def tw3656441822846175823 := 0
def tw11099600512080358467 := 0
def tw14383447594731795434 := 0
def tw2351661106333407974 := 0
def tw9629020149093490866 := 0
def tw17257321324413490127 := 0
def tw2121084043452621928 := 0
def tw17478173441654440974 := 0
def tw14983490000477160665 := 0
def tw12142554120599298083 := 0
def tw12451972519356903438 := 0
def tw2097064272225643485 := 0
def tw11045949286658959644 := 0
def tw18339003372574179140 := 0
def tw11363217751095708424 := 0
def tw15762180850939303003 := 0
def tw11482347886549371801 := 0
def tw4258105180852118612 := 0
def tw7682227357037497744 := 0
def tw10626917254723180482 := 0
def tw10131242407081914502 := 0
def tw8073983758757773150 := 0
def tw14181261753109574164 := 0
def tw14379896521889120716 := 0
def tw5183405377716282832 := 0
def tw17556622894954550506 := 0
def tw12778254410457382058 := 0
def tw9098859530885951345 := 0
def tw4063989423330845679 := 0
def tw346155102532190325 := 0
def tw17938365870066748588 := 0
def tw6906531037997830161 := 0
def tw2891798118421572886 := 0
def tw18313635441457316556 := 0
def tw3667565381483027414 := 0
def tw3194205468955017864 := 0
def tw1936278396727189512 := 0
def tw9238842464674237064 := 0
def tw414721876429342373 := 0
def tw14906010207593038956 := 0
def tw15492066230992232385 := 0
def tw17366878696535322803 := 0
def tw3596449348647624193 := 0
def tw13969167900831187035 := 0
def tw15484167306433010923 := 0
def tw645478401739101983 := 0
def tw10116251432962793146 := 0
def tw7170712533842407759 := 0
def tw12043589950610819362 := 0
def tw17591952510606625611 := 0
def tw3581221488827342535 := 0
def tw9023371390765379334 := 0
def tw783222511955339456 := 0
def tw5477730300044411411 := 0
def tw4329619725684693551 := 0
def tw16122989728985090761 := 0
def tw15969119018486835880 := 0
def tw15012845983900537 := 0
def tw4937425820882445904 := 0
def tw4546290479995518581 := 0
def tw17934614642002802021 := 0
def tw4767092510452237399 := 0
def tw10859189584594371983 := 0
def tw14760676447169448914 := 0
def tw8634108536710258861 := 0
def tw4423405477961590424 := 0
def tw7090742412647744644 := 0
def tw10155106613343912140 := 0
def tw6392152012716969071 := 0
def tw3212806038236071142 := 0
def tw8806062180177229405 := 0
def tw8793938072956918218 := 0
def tw12625626316931674671 := 0
def tw1598912676189609668 := 0
def tw9918114939483128833 := 0
def tw14602523393042994770 := 0
def tw17043770412073450237 := 0
def tw2956204924939497378 := 0
def tw10822192998143204571 := 0
def tw4043357773861261566 := 0
def tw13033901059159296134 := 0
def tw13662282279978495476 := 0
def tw16104640376588442188 := 0
def tw10393360502027313640 := 0
def tw7428898302575212016 := 0
def tw9276852855588887267 := 0
def tw16683672159915271576 := 0
def tw17540499561944728009 := 0
def tw110684583604320336 := 0
def tw17299522665135733267 := 0
def tw3317174120614538029 := 0
def tw17732082598911097056 := 0
def tw13297560115548424301 := 0
def tw18316255613363363430 := 0
def tw7831788139346845155 := 0
def tw12497891122670080562 := 0
def tw12338794843498223562 := 0
def tw5748507514420402127 := 0
def tw13389409504613503895 := 0
def tw489824625434916620 := 0
def tw14079587583333778220 := 0
def tw3650854439028104383 := 0
def tw12875206451020341438 := 0
def tw2195657285306454264 := 0
def tw7888202378418870748 := 0
def tw4638747001963037558 := 0
def tw8136562821717493270 := 0
def tw14555677923963514382 := 0
def tw10911922472681282826 := 0
def tw13247401407929775699 := 0
def tw12773290307340538348 := 0
def tw3518676860264256692 := 0
def tw13853306278921786269 := 0
def tw14967222758559704294 := 0
def tw3783912170518465949 := 0
def tw7913893351040692319 := 0
def tw12134707294576452614 := 0
def tw2557568045512181599 := 0
def tw4823428862256786545 := 0
def tw6296747620765543813 := 0
def tw8060375359679077594 := 0
def tw3614475148195681210 := 0
def tw284798266275270316 := 0
def tw11300203521560481504 := 0
def tw17057563902676390757 := 0
def tw22875226186387589 := 0
def tw8468538462721829627 := 0
def tw737083880390663061 := 0
def tw6272979115725282405 := 0
def tw5094342958473593306 := 0
def tw2843780786793956796 := 0
def tw18445242898810165037 := 0
def tw16322428856654403555 := 0
def tw1278541436727053247 := 0
def tw11485766562089023840 := 0
def tw17526059817155884177 := 0
def tw1601384807303115075 := 0
def tw2194330639202289945 := 0
def tw17448189635534496858 := 0
def tw14298321474319312197 := 0
def tw10816954877197273672 := 0
def tw17054671580764391313 := 0
def tw14105667992160443727 := 0
def tw17082002469282345383 := 0
def tw11207107188062066128 := 0
def tw17645044312559212789 := 0
def tw15043129998324621850 := 0
def tw9939163910625520374 := 0
def tw2393865588023802197 := 0
def tw10752012101708793526 := 0
def tw13605878558320536771 := 0
def tw3716231958103993826 := 0
def tw1558831516573658660 := 0
def tw7860497959769242469 := 0
def tw6032620982974463964 := 0
def tw12205474450732524779 := 0
def tw8604199967898560190 := 0
def tw6516464300009373132 := 0
def tw5258147405205657395 := 0
def tw16735227613308255843 := 0
def tw12875465429564287820 := 0
def tw6260419554221059114 := 0
def tw12477471359075641204 := 0
def tw16112384853738320407 := 0
def tw10135635742751772031 := 0
def tw10780418210996211696 := 0
def tw1830306268603604754 := 0
def tw12831712305035759800 := 0
def tw7202381722037727094 := 0
def tw4927103282230525970 := 0
def tw16158937968699177536 := 0
def tw17350337731449857505 := 0
def tw8166950104139231716 := 0
def tw10424138027122697463 := 0
def tw5723074544375159742 := 0
def tw5903439516093448448 := 0
def tw16730397574160905782 := 0
def tw16535077602942810913 := 0
def tw14154323961748493149 := 0
def tw6841249746111879853 := 0
def tw3126289755436369578 := 0
def tw18261037829748002790 := 0
def tw7025382251374313479 := 0
def tw2926034273284520305 := 0
def tw14887824049921673204 := 0
def tw6485221130849779635 := 0
def tw12751245055464129799 := 0
def tw2639526111536775126 := 0
def tw9905767781065705722 := 0
def tw2103780539728248902 := 0
def tw10318169231882138068 := 0
def tw11920937575493710193 := 0
def tw11777857826271804789 := 0
def tw5709023357799480032 := 0
def tw15629862974229438451 := 0
def tw12174829037956354297 := 0
def tw4003299758177040129 := 0
def tw7682433870080987609 := 0
def tw13692649028644223391 := 0
def tw909776653122079128 := 0
def tw7845408046212869380 := 0
def tw2330088451483163213 := 0
def tw4724849112629022997 := 0
def tw7867657369159181190 := 0
def tw11047187370369898807 := 0
def tw4790472763975029779 := 0
def tw8929798362116886855 := 0
def tw8489776063694845444 := 0
def tw15252156517648974648 := 0
def tw9759641111562687817 := 0
def tw17749044285488843202 := 0
def tw11897849130219862763 := 0
def tw4427967639603918772 := 0
def tw18314995759451620707 := 0
def tw18148957550575914166 := 0
def tw7404275579537436422 := 0
def tw6647705600498014358 := 0
def tw14911413792383233153 := 0
def tw9430018729215802248 := 0
def tw17266012186076980179 := 0
def tw15198709278326153809 := 0
def tw13290020119184132360 := 0
def tw12527493546146348663 := 0
def tw2334029410675479178 := 0
def tw15216192252525990369 := 0
def tw8585749343616904555 := 0
def tw18394251103107194803 := 0
def tw10025583737722066299 := 0
def tw2441454307012921201 := 0
def tw2550382950726935992 := 0
def tw437998449801257954 := 0
def tw2011311008746769892 := 0
def tw613274120507561054 := 0
def tw15438165894579060147 := 0
def tw3638495891995412846 := 0
def tw1227007674485915955 := 0
def tw6086050513813824535 := 0
def tw11311281564336698973 := 0
def tw1399678155560911706 := 0
def tw14737069007133336985 := 0
def tw14253944715782387582 := 0
def tw3741263332567847165 := 0
def tw5204876131360239306 := 0
def tw7983912146964793843 := 0
def tw17949149214281417856 := 0
def tw5242357769875704065 := 0
def tw6581140293469575269 := 0
def tw6652328653507264472 := 0
def tw16603744740085481811 := 0
def tw1325623701027589362 := 0
def tw9687446315533755361 := 0
def tw6814403191405173098 := 0
def tw5967087665099462890 := 0
def tw13573634708288219213 := 0
def tw2735574362842524777 := 0
def tw1822198508556425916 := 0
def tw41668483384894934 := 0
def tw14895634843816672320 := 0
def tw17646435650944565449 := 0
def tw16208068668165280357 := 0
def tw10519048553573684109 := 0
def tw4317820906209092941 := 0
def tw7850348183334524664 := 0
def tw8722711538337614389 := 0
def tw1265037578640065227 := 0
def tw11635702402179461978 := 0
def tw16492739739415024531 := 0
def tw9624459627191218447 := 0
def tw9773098490602759509 := 0
def tw6762023823003962580 := 0
def tw4062232854018197756 := 0
def tw299355268376197310 := 0
def tw16084730739476609274 := 0
def tw4368849337299510353 := 0
def tw12155422512275623549 := 0
def tw10325324457922736292 := 0
def tw18293930613907691752 := 0
def tw15063787582595528023 := 0
def tw6188155562021547462 := 0
def tw14416446300086002527 := 0
def tw7899716779445066685 := 0
def tw10993446265337409864 := 0
def tw11450351682208335849 := 0
def tw8239811947954754035 := 0
def tw1665933477343958028 := 0
def tw11621469555374782400 := 0
def tw16616619772584368223 := 0
def tw10262871252615960370 := 0
def tw433509434463608040 := 0
def tw2744290580277277733 := 0
def tw7157662708803636838 := 0
def tw14419605458273643672 := 0
def tw8409661013882254653 := 0
def tw12517144784660633191 := 0
def tw15265296071817100329 := 0
def tw12518905159020077510 := 0
def tw1960548918474058533 := 0
def tw3433514589484054244 := 0
def tw350996316370970677 := 0
def tw1838189664363321816 := 0
def tw9801452359467524847 := 0
def tw5886237330438217117 := 0
def tw13655509503661742260 := 0
def tw15501650351692398714 := 0
def tw14883643102663808752 := 0
def tw6410753533029806780 := 0
def tw736096654509716458 := 0
def tw9387223817754202848 := 0
def tw3706063831159092939 := 0
def tw17807680536192019113 := 0
def tw13014478814077344042 := 0
def tw17264391202077953204 := 0
def tw3740746218677059280 := 0
def tw6844996997551808683 := 0
def tw16821684719103256480 := 0
def tw17498476796661710872 := 0
def tw7266567760213986415 := 0
def tw12426197887551118538 := 0
def tw17673685524861449294 := 0
def tw10934634253200366777 := 0
def tw12486623454508211043 := 0
def tw6589660012347197071 := 0
def tw18211563417381095249 := 0
def tw15162277284316896352 := 0
def tw17918948931027896137 := 0
def tw15196556990345828751 := 0
def tw995806381412427997 := 0
def tw4504295364396525284 := 0
def tw17280580325720565459 := 0
def tw5091850852553548024 := 0
def tw11609455780737265735 := 0
def tw7199248695988866031 := 0
def tw11365064789579226389 := 0
def tw11354123800180618153 := 0
def tw609469905512029028 := 0
def tw11309561643276313599 := 0
def tw4846861863062113808 := 0
def tw17531929583708812567 := 0
def tw3928290842488253511 := 0
def tw1074341269301020054 := 0
def tw15307676088411588744 := 0
def tw15678044744519329926 := 0
def tw17060879088654047055 := 0
def tw1159056036996736256 := 0
def tw17865237881311193961 := 0
def tw17085474495068898730 := 0
def tw6382825416114894466 := 0
def tw8920070059784263849 := 0
def tw1146727303961392730 := 0
def tw5293972364285743214 := 0
def tw11476260698569230976 := 0
def tw12298221299990194688 := 0
def tw15185772856311100280 := 0
def tw8382172912437814670 := 0
def tw8083099633572276196 := 0
def tw5190068692449215394 := 0
def tw2743892030961762852 := 0
def tw10149751862097887815 := 0
def tw2932835486045380654 := 0
def tw6891083549720616028 := 0
def tw10215881749331751437 := 0
def tw5058638586941203143 := 0
def tw17754702740457522051 := 0
def tw193606940374607382 := 0
def tw15980324244181297647 := 0
def tw5474406725044130445 := 0
def tw2495064909198163272 := 0
def tw16237150360511121162 := 0
def tw1153402477698233043 := 0
def tw2480548336343689296 := 0
def tw17920870223566165539 := 0
def tw15034923648835361327 := 0
def tw16004491853209164528 := 0
def tw3274339580514248122 := 0
def tw6493110627917848215 := 0
def tw16645943483973705091 := 0
def tw6669103009116894703 := 0
def tw16411042705923989444 := 0
def tw8667039761131429800 := 0
def tw1422821573207786497 := 0
def tw15474500266740850503 := 0
def tw4643851457312560877 := 0
def tw6319607599793189545 := 0
def tw825301316109617776 := 0
def tw206763039048814545 := 0
def tw15099570002853726281 := 0
def tw4569327134773295986 := 0
def tw4718979587997006667 := 0
def tw7317441593561413248 := 0
def tw7999638809781794548 := 0
def tw15658293047576638695 := 0
def tw11722602200601969292 := 0
def tw1742521126602353402 := 0
def tw13474928118853781761 := 0
def tw3914680904252813896 := 0
def tw2322290029905564783 := 0
def tw13609406764970510053 := 0
def tw15570242031249508939 := 0
def tw4300731292696851997 := 0
def tw7389117398678683874 := 0
def tw12135806516614611594 := 0
def tw8550339341153508345 := 0
def tw11502472004970550118 := 0
def tw17573675066804112603 := 0
def tw11314122560662221854 := 0
def tw4378570622319181756 := 0
def tw11416456300005460261 := 0
def tw3662510101365625387 := 0
def tw8439336233973474136 := 0
def tw8706186982601570309 := 0
def tw5411024135869453456 := 0
def tw14475301367189306001 := 0
def tw9840039931060682800 := 0
def tw5342096514666760031 := 0
def tw8792267856952097330 := 0
def tw12815512565315153125 := 0
def tw14637495699882401152 := 0
def tw9487762664205153239 := 0
def tw9585126899340632686 := 0
def tw6224308879370420566 := 0
def tw15393973108379074424 := 0
def tw5396192485101514727 := 0
def tw773446732843628791 := 0
def tw3781975399989125321 := 0
def tw5738372887459383156 := 0
def tw16032833016153570228 := 0
def tw5370703844732622875 := 0
def tw4050262676085137894 := 0
def tw6137458739830231390 := 0
def tw11196987275892229015 := 0
def tw7087543616520945020 := 0
def tw5170570804395693601 := 0
def tw10117314805282840590 := 0
def tw1115661943935948759 := 0
def tw13876602058353823524 := 0
def tw18271131646080128799 := 0
def tw8983869153375488030 := 0
def tw11117618814311289980 := 0
def tw11613844663527471172 := 0
def tw436206820354421207 := 0
def tw17092574500877812693 := 0
def tw4305112549254312378 := 0
def tw3887808688937894899 := 0
def tw9955449266138231624 := 0
def tw3113626572922176266 := 0
def tw4502856921158661358 := 0
def tw1571624453947686695 := 0
def tw9157252456677643278 := 0
def tw4076135366318112569 := 0
def tw15564946685761630400 := 0
def tw9879432868167164043 := 0
def tw9246622889603905163 := 0
def tw285500716836967618 := 0
def tw10119321464233768273 := 0
def tw17261010857325029011 := 0
def tw1154603234176493212 := 0
def tw5341463310711512215 := 0
def tw11347186919208355592 := 0
def tw12363558985351776473 := 0
def tw4388874925602633030 := 0
def tw9589678137845846901 := 0
def tw6165626117423474093 := 0
def tw17655367430428399188 := 0
def tw563941848652709750 := 0
def tw17636878283460665349 := 0
def tw9064118068326534981 := 0
def tw2160279313754365991 := 0
def tw11392226862192789764 := 0
def tw16822589900387684450 := 0
def tw6268944467519680237 := 0
def tw5296553853650553148 := 0
def tw7047926602826187918 := 0
def tw9639251562546058352 := 0
def tw14672480493254215356 := 0
def tw10734965367003269863 := 0
def tw8260100082075793401 := 0
def tw11664836150242080711 := 0
def tw8964843580655367596 := 0
def tw10405195656732084770 := 0
def tw930778150832394511 := 0
def tw6515212138236382888 := 0
def tw11727863437937498446 := 0
def tw12416465204063255859 := 0
def tw3812111244889293028 := 0
def tw1437482492797082461 := 0
def tw8354710619844480945 := 0
def tw18214284769202710243 := 0
def tw6920733049697144355 := 0
def tw16155592526420176312 := 0
def tw3606971287589550802 := 0
def tw5411082098338661319 := 0
def tw15372161028198687242 := 0
def tw12678934888926777823 := 0
def tw6934243019267655583 := 0
def tw14767595806249258652 := 0
end PySem.W.Fast
open PySem PySem.W PyProof.Rows
set_option maxRecDepth 100000 in
set_option maxHeartbeats 0 in
theorem PySem.Challenge.cw_sightstone_k42_a_workshop_begun_holds : PySem.Challenge.rw_sightstone_k42_a_workshop_begun.Holds := by
  w_on; o_law; k_head; (case hw => w_witness2)
  k_fill
  refine VL.law_walk (l := PySem.Challenge.rw_sightstone_k42_a_workshop_begun) (k := 11) (x := "_law_script") rfl rfl ⟨rfl, by decide, by decide⟩ (fun w h Y => PySem.W.kIn_of Y) ?F
  case F =>
    intro w mg fa h KX G hmg
    refine' Q.all_mk KX G hmg Q.math ?a0 ?l0 ?c0 ?k0 ?a1 ?l1 ?c1 ?k1 ?a2 ?l2 ?c2 ?k2 ?a3 ?l3 ?c3 ?k3 ?a4 ?l4 ?c4 ?k4 ?a5 ?l5 ?c5 ?k5 ?a6 ?l6 ?c6 ?k6 ?a7 ?l7 ?c7 ?k7 ?a8 ?l8 ?c8 ?k8 ?a9 ?l9 ?c9 ?k9 ?a10 ?l10 ?c10 ?k10 ?a11 ?l11 ?c11 ?k11 ?a12 ?l12 ?c12 ?k12 ?a13 ?l13 ?c13 ?k13 ?a14 ?l14 ?c14 ?k14 ?a15 ?l15 ?c15 ?k15 ?a16 ?l16 ?c16 ?k16 ?a17 ?l17 ?c17 ?k17 ?a18 ?l18 ?c18 ?k18 ?a19 ?l19 ?c19 ?k19 ?a20 ?l20 ?c20 ?k20 ?a21 ?l21 ?c21 ?k21 ?a22 ?l22 ?c22 ?k22 ?a23 ?l23 ?c23 ?k23 ?a24 ?l24 ?c24 ?k24 ?a25 ?l25 ?c25 ?k25 ?a26 ?l26 ?c26 ?k26 ?a27 ?l27 ?c27 ?k27 ?a28 ?l28 ?c28 ?k28 ?a29 ?l29 ?c29 ?k29 ?a30 ?i30 ?l30 ?c30 ?k30 ?a31 ?i31 ?l31 ?c31 ?k31 ?a32 ?i32 ?l32 ?c32 ?k32 ?a33 ?i33 ?l33 ?c33 ?k33 ?a34 ?i34 ?l34 ?c34 ?k34 ?a35 ?i35 ?l35 ?c35 ?k35 ?a36 ?i36 ?l36 ?c36 ?k36 ?a37 ?i37 ?l37 ?c37 ?k37 ?a38 ?i38 ?l38 ?c38 ?k38 ?a39 ?l39 ?c39 ?k39 ?a40 ?i40 ?l40 ?c40 ?k40 ?a41 ?i41 ?l41 ?c41 ?k41 ?a42 ?i42 ?l42 ?c42 ?k42 ?a43 ?i43 ?l43 ?c43 ?k43 ?a44 ?i44 ?l44 ?c44 ?k44 ?a45 ?i45 ?l45 ?c45 ?k45 ?a46 ?l46 ?c46 ?k46 ?a47 ?i47 ?l47 ?c47 ?k47 ?a48 ?i48 ?l48 ?c48 ?k48 ?a49 ?l49 ?c49 ?k49 ?z0 ?z1 ?z2 ?z3 ?z4 ?z5 ?z6 ?z7 ?z8 ?z9 ?z10 ?y0 ?y1 ?y2 ?y3 ?y4 ?y5 ?hgc0 ?hgc1 ?hgc2 ?hgc3 ?hgc4 ?hgc5 ?hgc6 ?hgc7 ?hgc8 ?hgc9 ?xe0 ?xk0 ?xs0 ?xt0 ?xe1 ?xk1 ?xs1 ?xt1 ?xe2 ?xk2 ?xs2 ?xt2 ?xe3 ?xk3 ?xs3 ?xt3 ?xe4 ?xk4 ?xs4 ?xt4 ?xe5 ?xk5 ?xs5 ?xt5 ?xe6 ?xk6 ?xs6 ?xt6 ?xe7 ?xk7 ?xs7 ?xt7 ?xe9 ?xk9 ?xs9 ?xt9 ?gc_Workshop ?pg_Workshop ?hd_Workshop ?po_Workshop ?sa_Workshop ?mk_Workshop ?kc_Workshop ?nf_Workshop_ahead ?nf_Workshop_now ?nf_Workshop_past ?nf_Workshop_sizes ?xz0 ?hic8 ?xt8 ?hic7 ?hic6 ?xs8 ?q7_hg ?q7_hk ?q7_hd ?q7_ha ?q7_hn ?q7_ht ?q7_hm ?hsb8_7 ?hsb6_7 ?hne7_6 ?hsb7_7 ?q6_hg ?q6_hk ?q6_hd ?q6_ha ?q6_hn ?q6_ht ?q6_hm ?hsb8_6 ?hsb7_6 ?hne6_7 ?hsb6_6 ?hic9 ?q9_hg ?q9_hk ?q9_hd ?q9_ha ?q9_hn ?q9_ht ?q9_hm ?hsb8_9 ?hsx9_0 ?hsb9_9 ?hic5 ?q5_hg ?q5_hk ?q5_hd ?q5_ha ?q5_hn ?q5_ht ?q5_hm ?hsb8_5 ?hsb9_5 ?hne5_9 ?hsb5_5 ?q4_hg ?q4_hk ?q4_hd ?q4_ha ?q4_hn ?q4_ht ?q4_hm ?hsb8_4 ?hsb9_4 ?hne4_9 ?hsb5_4 ?hne4_5 ?hic0 ?q0_hg ?q0_hk ?q0_hd ?q0_ha ?q0_hn ?q0_ht ?q0_hm ?hsb8_0 ?hsb9_0 ?hne0_9 ?hsb0_0
    (case gc_Workshop => k_is)
    (case a0 => k_is)
    (case l0 => k_is)
    (case c0 => k_is)
    (case k0 => k_is)
    (case a1 => k_is)
    (case l1 => k_is)
    (case c1 => k_is)
    (case k1 => k_is)
    (case a2 => k_is)
    (case l2 => k_is)
    (case c2 => k_is)
    (case k2 => k_is)
    (case a3 => k_is)
    (case l3 => k_is)
    (case c3 => k_is)
    (case k3 => k_is)
    (case a4 => k_is)
    (case l4 => k_is)
    (case c4 => k_is)
    (case k4 => k_is)
    (case a5 => k_is)
    (case l5 => k_is)
    (case c5 => k_is)
    (case k5 => k_is)
    (case a6 => k_is)
    (case l6 => k_is)
    (case c6 => k_is)
    (case k6 => k_is)
    (case a7 => k_is)
    (case l7 => k_is)
    (case c7 => k_is)
    (case k7 => k_is)
    (case a8 => k_is)
    (case l8 => k_is)
    (case c8 => k_is)
    (case k8 => k_is)
    (case a9 => k_is)
    (case l9 => k_is)
    (case c9 => k_is)
    (case k9 => k_is)
    (case a10 => k_is)
    (case l10 => k_is)
    (case c10 => k_is)
    (case k10 => k_is)
    (case a11 => k_is)
    (case l11 => k_is)
    (case c11 => k_is)
    (case k11 => k_is)
    (case a12 => k_is)
    (case l12 => k_is)
    (case c12 => k_is)
    (case k12 => k_is)
    (case a13 => k_is)
    (case l13 => k_is)
    (case c13 => k_is)
    (case k13 => k_is)
    (case a14 => k_is)
    (case l14 => k_is)
    (case c14 => k_is)
    (case k14 => k_is)
    (case a15 => k_is)
    (case l15 => k_is)
    (case c15 => k_is)
    (case k15 => k_is)
    (case a16 => k_is)
    (case l16 => k_is)
    (case c16 => k_is)
    (case k16 => k_is)
    (case a17 => k_is)
    (case l17 => k_is)
    (case c17 => k_is)
    (case k17 => k_is)
    (case a18 => k_is)
    (case l18 => k_is)
    (case c18 => k_is)
    (case k18 => k_is)
    (case a19 => k_is)
    (case l19 => k_is)
    (case c19 => k_is)
    (case k19 => k_is)
    (case a20 => k_is)
    (case l20 => k_is)
    (case c20 => k_is)
    (case k20 => k_is)
    (case a21 => k_is)
    (case l21 => k_is)
    (case c21 => k_is)
    (case k21 => k_is)
    (case a22 => k_is)
    (case l22 => k_is)
    (case c22 => k_is)
    (case k22 => k_is)
    (case a23 => k_is)
    (case l23 => k_is)
    (case c23 => k_is)
    (case k23 => k_is)
    (case a24 => k_is)
    (case l24 => k_is)
    (case c24 => k_is)
    (case k24 => k_is)
    (case a25 => k_is)
    (case l25 => k_is)
    (case c25 => k_is)
    (case k25 => k_is)
    (case a26 => k_is)
    (case l26 => k_is)
    (case c26 => k_is)
    (case k26 => k_is)
    (case a27 => k_is)
    (case l27 => k_is)
    (case c27 => k_is)
    (case k27 => k_is)
    (case a28 => k_is)
    (case l28 => k_is)
    (case c28 => k_is)
    (case k28 => k_is)
    (case a29 => k_is)
    (case l29 => k_is)
    (case c29 => k_is)
    (case k29 => k_is)
    (case a30 => k_is)
    (case i30 => k_is)
    (case l30 => k_is)
    (case c30 => k_is)
    (case k30 => k_is)
    (case a31 => k_is)
    (case i31 => k_is)
    (case l31 => k_is)
    (case c31 => k_is)
    (case k31 => k_is)
    (case a32 => k_is)
    (case i32 => k_is)
    (case l32 => k_is)
    (case c32 => k_is)
    (case k32 => k_is)
    (case a33 => k_is)
    (case i33 => k_is)
    (case l33 => k_is)
    (case c33 => k_is)
    (case k33 => k_is)
    (case a34 => k_is)
    (case i34 => k_is)
    (case l34 => k_is)
    (case c34 => k_is)
    (case k34 => k_is)
    (case a35 => k_is)
    (case i35 => k_is)
    (case l35 => k_is)
    (case c35 => k_is)
    (case k35 => k_is)
    (case a36 => k_is)
    (case i36 => k_is)
    (case l36 => k_is)
    (case c36 => k_is)
    (case k36 => k_is)
    (case a37 => k_is)
    (case i37 => k_is)
    (case l37 => k_is)
    (case c37 => k_is)
    (case k37 => k_is)
    (case a38 => k_is)
    (case i38 => k_is)
    (case l38 => k_is)
    (case c38 => k_is)
    (case k38 => k_is)
    (case a39 => k_is)
    (case l39 => k_is)
    (case c39 => k_is)
    (case k39 => k_is)
    (case a40 => k_is)
    (case i40 => k_is)
    (case l40 => k_is)
    (case c40 => k_is)
    (case k40 => k_is)
    (case a41 => k_is)
    (case i41 => k_is)
    (case l41 => k_is)
    (case c41 => k_is)
    (case k41 => k_is)
    (case a42 => k_is)
    (case i42 => k_is)
    (case l42 => k_is)
    (case c42 => k_is)
    (case k42 => k_is)
    (case a43 => k_is)
    (case i43 => k_is)
    (case l43 => k_is)
    (case c43 => k_is)
    (case k43 => k_is)
    (case a44 => k_is)
    (case i44 => k_is)
    (case l44 => k_is)
    (case c44 => k_is)
    (case k44 => k_is)
    (case a45 => k_is)
    (case i45 => k_is)
    (case l45 => k_is)
    (case c45 => k_is)
    (case k45 => k_is)
    (case a46 => k_is)
    (case l46 => k_is)
    (case c46 => k_is)
    (case k46 => k_is)
    (case a47 => k_is)
    (case i47 => k_is)
    (case l47 => k_is)
    (case c47 => k_is)
    (case k47 => k_is)
    (case a48 => k_is)
    (case i48 => k_is)
    (case l48 => k_is)
    (case c48 => k_is)
    (case k48 => k_is)
    (case a49 => k_is)
    (case l49 => k_is)
    (case c49 => k_is)
    (case k49 => k_is)
    (case z0 => k_is)
    (case z1 => k_is)
    (case z2 => k_is)
    (case z3 => k_is)
    (case z4 => k_is)
    (case z5 => k_is)
    (case z6 => k_is)
    (case z7 => k_is)
    (case z8 => k_is)
    (case z9 => k_is)
    (case z10 => k_is)
    (case y0 => k_is)
    (case y1 => k_is)
    (case y2 => k_is)
    (case y3 => k_is)
    (case y4 => k_is)
    (case y5 => k_is)
    (case hgc0 => k_is)
    (case hgc1 => k_is)
    (case hgc2 => k_is)
    (case hgc3 => k_is)
    (case hgc4 => k_is)
    (case hgc5 => k_is)
    (case hgc6 => k_is)
    (case hgc7 => k_is)
    (case hgc8 => k_is)
    (case hgc9 => k_is)
    (case xe0 => k_exc)
    (case xk0 => k_is)
    (case xs0 => k_is)
    (case xt0 => k_is)
    (case xe1 => k_exc)
    (case xk1 => k_is)
    (case xs1 => k_is)
    (case xt1 => k_is)
    (case xe2 => k_exc)
    (case xk2 => k_is)
    (case xs2 => k_is)
    (case xt2 => k_is)
    (case xe3 => k_exc)
    (case xk3 => k_is)
    (case xs3 => k_is)
    (case xt3 => k_is)
    (case xe4 => k_exc)
    (case xk4 => k_is)
    (case xs4 => k_is)
    (case xt4 => k_is)
    (case xe5 => k_exc)
    (case xk5 => k_is)
    (case xs5 => k_is)
    (case xt5 => k_is)
    (case xe6 => k_exc)
    (case xk6 => k_is)
    (case xs6 => k_is)
    (case xt6 => k_is)
    (case xe7 => k_exc)
    (case xk7 => k_is)
    (case xs7 => k_is)
    (case xt7 => k_is)
    (case xe9 => k_exc)
    (case xk9 => k_is)
    (case xs9 => k_is)
    (case xt9 => k_is)
    (case pg_Workshop => k_is)
    (case hd_Workshop => k_is)
    (case po_Workshop => k_is)
    (case sa_Workshop => k_is)
    (case mk_Workshop => k_is)
    (case kc_Workshop => k_is)
    (case nf_Workshop_ahead => k_is)
    (case nf_Workshop_now => k_is)
    (case nf_Workshop_past => k_is)
    (case nf_Workshop_sizes => k_is)
    (case xz0 => k_is)
    (case hic8 => k_is)
    (case xt8 => k_is)
    (case hic7 => k_is)
    (case hic6 => k_is)
    (case xs8 => k_is)
    (case q7_hg => k_is)
    (case q7_hk => k_is)
    (case q7_hd => k_is)
    (case q7_ha => k_is)
    (case q7_hn => k_is)
    (case q7_ht => k_is)
    (case q7_hm => k_is)
    (case hsb8_7 => k_is)
    (case hsb6_7 => k_is)
    (case hne7_6 => rfl)
    (case hsb7_7 => k_is)
    (case q6_hg => k_is)
    (case q6_hk => k_is)
    (case q6_hd => k_is)
    (case q6_ha => k_is)
    (case q6_hn => k_is)
    (case q6_ht => k_is)
    (case q6_hm => k_is)
    (case hsb8_6 => k_is)
    (case hsb7_6 => k_is)
    (case hne6_7 => rfl)
    (case hsb6_6 => k_is)
    (case hic9 => k_is)
    (case q9_hg => k_is)
    (case q9_hk => k_is)
    (case q9_hd => k_is)
    (case q9_ha => k_is)
    (case q9_hn => k_is)
    (case q9_ht => k_is)
    (case q9_hm => k_is)
    (case hsb8_9 => k_is)
    (case hsx9_0 => k_is)
    (case hsb9_9 => k_is)
    (case hic5 => k_is)
    (case q5_hg => k_is)
    (case q5_hk => k_is)
    (case q5_hd => k_is)
    (case q5_ha => k_is)
    (case q5_hn => k_is)
    (case q5_ht => k_is)
    (case q5_hm => k_is)
    (case hsb8_5 => k_is)
    (case hsb9_5 => k_is)
    (case hne5_9 => rfl)
    (case hsb5_5 => k_is)
    (case q4_hg => k_is)
    (case q4_hk => k_is)
    (case q4_hd => k_is)
    (case q4_ha => k_is)
    (case q4_hn => k_is)
    (case q4_ht => k_is)
    (case q4_hm => k_is)
    (case hsb8_4 => k_is)
    (case hsb9_4 => k_is)
    (case hne4_9 => rfl)
    (case hsb5_4 => k_is)
    (case hne4_5 => rfl)
    (case hic0 => k_is)
    (case q0_hg => k_is)
    (case q0_hk => k_is)
    (case q0_hd => k_is)
    (case q0_ha => k_is)
    (case q0_hn => k_is)
    (case q0_ht => k_is)
    (case q0_hm => k_is)
    (case hsb8_0 => k_is)
    (case hsb9_0 => k_is)
    (case hne0_9 => rfl)
    (case hsb0_0 => k_is)

