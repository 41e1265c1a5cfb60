import PyProof.Rows.All
import Wide.All
import OpenK.AllK
import Wide.FinOn
import HandS.ForMost
import HandS.ForExc
import HandS.ExcCtx
import HandS.HotCalls
import HandS.SuiteRaise
import HandS.RaiseFrom
import HandS.Deep
import HandS.IsInst
import HandS.Zip
import HandS.Flow
import HandS.Text
import HandS.Steps
import HandS.Iter
import PyProof.Rows.RuleDivmod
import HandS.Style
import KE.DataFind
import HandS.SortOrd
import HandS.SortRule
import HandS.Conv
import KE.KDictSum
import PyProof.ListStr
import HandS.Wide
import HandS.DictTup
import KE.KDictCopyH
import HandS.ExcIs
import HandS.More
import HandS.Defaults
import KE.DataCmp
import KE.KDictWalk
import KE.KDictDisplayH
import HandS.Rev
import KE.KTupSum
import HandS.TryMany
import HandS.TryOnly
import KE.DatumOrd
import HandS.Codes
import HandS.WrittenGet
import HandS.ExcInitHot
import HandS.HeadHook3
import PySem.Challenge.RW_sightstone_k65_a_long_shelf
set_option Elab.async false
set_option linter.all false
set_option maxRecDepth 100000
/-! VL: the value layer. Data, results, how data stand in the abstract heap. -/
namespace VL
open PySem L2

inductive D where
  | non | bl (b : Bool) | int (i : Int) | str (x : Str)
  | tup (ds : List D) | kt (ds : List D) | lst (ds : List D) | fz (ds : List D)
  | dct (kvs : List (List Key × D)) | dk (kvs : List (Key × D))
  | obj (p : Addr) (c : Str) (ns : List Str) (ds : List D)
  | pls (p : Addr) (ds : List D)
  | raw (a : Addr)

/-- an exception's class: one's own, by its name; a built-in one -/
inductive Xc where
  | own (c : Str) | bi (n : String)
  deriving DecidableEq
inductive M (α : Type) where
  | ok (a : α) | ex (c : Xc) | er
def M.bind {α β : Type} : M α → (α → M β) → M β
  | .ok a, f => f a
  | .ex c, _ => .ex c
  | .er, _ => .er
@[simp] theorem bind_ok {α β : Type} (a : α) (f : α → M β) : M.bind (.ok a) f = f a := rfl
@[simp] theorem bind_ex {α β : Type} (c : Xc) (f : α → M β) : M.bind (.ex c) f = .ex c := rfl
@[simp] theorem bind_er {α β : Type} (f : α → M β) : M.bind .er f = .er := rfl

/-- a tuple of the written part -/
def KTup (K : PySem.W.Frag) (a : Addr) (xs : List V) : Prop :=
  ∃ (o : Obj) (its : Array Value) (n : Nat), K.lookup a = some o ∧ o.cls = .type "tuple" ∧ o.data = .seq its n ∧ its.size ≤ sizeLine ∧ Vals xs its.toList

/-- a list of the written part -/
def KLst (K : PySem.W.Frag) (a : Addr) (xs : List V) : Prop :=
  ∃ (o : Obj) (its : Array Value) (n : Nat), K.lookup a = some o ∧ o.cls = .type "list" ∧ o.dict = none ∧ o.data = .seq its n ∧ its.size ≤ sizeLine ∧ Vals xs its.toList
/-- the script -/
def FzL (K : PySem.W.Frag) (H : Hp) (a : Addr) (xs : List V) : Prop := (∃ o, H a = some (.frz o (.lst xs))) ∨ KLst K a xs
theorem FzL.sq {K : PySem.W.Frag} {H : Hp} {a : Addr} {xs : List V} (h : FzL K H a xs) : SqL K H a xs := by
  rcases h with ⟨o, h⟩ | h
  · exact .inl (.inr ⟨o, h⟩)
  · exact .inr h
/-- the class of that name -/
def ClsAt (K : PySem.W.Frag) (c : Str) (C : Addr) : Prop := PySem.W.nsIn K mainGlobals c = some (some (.ref C))
mutual
inductive Rp (K : PySem.W.Frag) (S : Addr → Prop) (H : Hp) : V → D → Prop
  | non : Rp K S H .non .non
  | bl (b : Bool) : Rp K S H (.bl b) (.bl b)
  | int (i : Int) : Rp K S H (.int i) (.int i)
  | str (x : Str) : Rp K S H (.str x) (.str x)
  | tup {a : Addr} {xs : List V} {ds : List D} : H a = some (.tup xs) → RpA K S H xs ds → Rp K S H (.ref a) (.tup ds)
  | kt {a : Addr} {xs : List V} {ds : List D} : KTup K a xs → RpA K S H xs ds → Rp K S H (.ref a) (.kt ds)
  | lst {a : Addr} {xs : List V} {ds : List D} : S a → H a = some (.lst xs) → RpA K S H xs ds → Rp K S H (.ref a) (.lst ds)
  | fz {a : Addr} {xs : List V} {ds : List D} : FzL K H a xs → RpA K S H xs ds → Rp K S H (.ref a) (.fz ds)
  | dct {a : Addr} {kvs : List (List Key × V)} {ds : List (List Key × D)} : S a → H a = some (.dT kvs) → RpT K S H kvs ds → Rp K S H (.ref a) (.dct ds)
  | dk {a : Addr} {kvs : List (Key × V)} {ds : List (Key × D)} : S a → H a = some (.dK kvs) → RpK K S H kvs ds → Rp K S H (.ref a) (.dk ds)
  | obj {a C dx p : Addr} {vs : List (Str × V)} {xs : List V} {c : Str} {ns : List Str} {ds : List D} : S a → H a = some (.ins C dx vs) → ClsAt K c C → vs.map (·.1) = ns → vs.map (·.2) = xs → RpA K S H xs ds → Rp K S H (.ref a) (.obj p c ns ds)
  | pls {a p : Addr} {xs : List V} {ds : List D} : S a → H a = some (.lst xs) → RpA K S H xs ds → Rp K S H (.ref a) (.pls p ds)
  | raw (a : Addr) : Rp K S H (.ref a) (.raw a)
inductive RpA (K : PySem.W.Frag) (S : Addr → Prop) (H : Hp) : List V → List D → Prop
  | nil : RpA K S H [] []
  | cons {v : V} {d : D} {vs : List V} {ds : List D} : Rp K S H v d → RpA K S H vs ds → RpA K S H (v :: vs) (d :: ds)
inductive RpT (K : PySem.W.Frag) (S : Addr → Prop) (H : Hp) : List (List Key × V) → List (List Key × D) → Prop
  | nil : RpT K S H [] []
  | cons {k : List Key} {v : V} {d : D} {vs : List (List Key × V)} {ds : List (List Key × D)} : Rp K S H v d → RpT K S H vs ds → RpT K S H ((k, v) :: vs) ((k, d) :: ds)
inductive RpK (K : PySem.W.Frag) (S : Addr → Prop) (H : Hp) : List (Key × V) → List (Key × D) → Prop
  | nil : RpK K S H [] []
  | cons {k : Key} {v : V} {d : D} {vs : List (Key × V)} {ds : List (Key × D)} : Rp K S H v d → RpK K S H vs ds → RpK K S H ((k, v) :: vs) ((k, d) :: ds)
end
section
variable {K : PySem.W.Frag} {S S' : Addr → Prop} {H H' : Hp}
/-- what a description leans on -/
structure Keep (S S' : Addr → Prop) (H H' : Hp) : Prop where
  l : ∀ a o, S a → H a = some o → S' a ∧ H' a = some o
  t : ∀ a xs, H a = some (.tup xs) → H' a = some (.tup xs)
  z : ∀ a o u, H a = some (.frz o u) → H' a = some (.frz o u)
mutual
theorem Rp.keep (k : Keep S S' H H') : ∀ {v : V} {d : D}, Rp K S H v d → Rp K S' H' v d
  | _, _, .non => .non
  | _, _, .bl b => .bl b
  | _, _, .int i => .int i
  | _, _, .str x => .str x
  | _, _, .tup h r => .tup (k.t _ _ h) (RpA.keep k r)
  | _, _, .kt h r => .kt h (RpA.keep k r)
  | _, _, .lst s h r => .lst (k.l _ _ s h).1 (k.l _ _ s h).2 (RpA.keep k r)
  | _, _, .fz h r => .fz (h.imp (fun ⟨o, h⟩ => ⟨o, k.z _ _ _ h⟩) id) (RpA.keep k r)
  | _, _, .dct s h r => .dct (k.l _ _ s h).1 (k.l _ _ s h).2 (RpT.keep k r)
  | _, _, .dk s h r => .dk (k.l _ _ s h).1 (k.l _ _ s h).2 (RpK.keep k r)
  | _, _, .obj s h c n x r => .obj (k.l _ _ s h).1 (k.l _ _ s h).2 c n x (RpA.keep k r)
  | _, _, .pls s h r => .pls (k.l _ _ s h).1 (k.l _ _ s h).2 (RpA.keep k r)
  | _, _, .raw v => .raw v
theorem RpA.keep (k : Keep S S' H H') : ∀ {v : List V} {d : List D}, RpA K S H v d → RpA K S' H' v d
  | _, _, .nil => .nil
  | _, _, .cons h r => .cons (Rp.keep k h) (RpA.keep k r)
theorem RpT.keep (k : Keep S S' H H') : ∀ {v : List (List Key × V)} {d : List (List Key × D)}, RpT K S H v d → RpT K S' H' v d
  | _, _, .nil => .nil
  | _, _, .cons h r => .cons (Rp.keep k h) (RpT.keep k r)
theorem RpK.keep (k : Keep S S' H H') : ∀ {v : List (Key × V)} {d : List (Key × D)}, RpK K S H v d → RpK K S' H' v d
  | _, _, .nil => .nil
  | _, _, .cons h r => .cons (Rp.keep k h) (RpK.keep k r)
end
theorem Keep.same (h : Same H H') : Keep S S H H' := ⟨fun a o s e => ⟨s, h a o e⟩, fun a xs e => h a _ e, fun a o u e => h a _ e⟩
theorem Keep.wide (h : ∀ a, S a → S' a) : Keep S S' H H := ⟨fun a o s e => ⟨h a s, e⟩, fun a xs e => e, fun a o u e => e⟩
theorem RpA.length : ∀ {v : List V} {d : List D}, RpA K S H v d → v.length = d.length
  | _, _, .nil => rfl
  | _, _, .cons _ r => congrArg (· + 1) (RpA.length r)
theorem RpA.get : ∀ {vs : List V} {ds : List D} {i : Nat} {d : D}, RpA K S H vs ds → ds[i]? = some d → ∃ v, vs[i]? = some v ∧ Rp K S H v d
  | _, _, _, _, .nil, e => by simp at e
  | _, _, 0, _, .cons r _, e => by simp at e; subst e; exact ⟨_, rfl, r⟩
  | _, _, i + 1, d, .cons _ t, e => by
    obtain ⟨u, h1, h2⟩ := RpA.get (i := i) (d := d) t (by simpa using e)
    exact ⟨u, by simpa using h1, h2⟩
theorem RpA.getV : ∀ {vs : List V} {ds : List D} {i : Nat} {v : V}, RpA K S H vs ds → vs[i]? = some v → ∃ d, ds[i]? = some d ∧ Rp K S H v d
  | _, _, _, _, .nil, e => by simp at e
  | _, _, 0, _, .cons r _, e => by simp at e; subst e; exact ⟨_, rfl, r⟩
  | _, _, i + 1, d, .cons _ t, e => by
    obtain ⟨u, h1, h2⟩ := RpA.getV (i := i) (v := d) t (by simpa using e)
    exact ⟨u, by simpa using h1, h2⟩
theorem RpA.append : ∀ {vs ws : List V} {ds es : List D}, RpA K S H vs ds → RpA K S H ws es → RpA K S H (vs ++ ws) (ds ++ es)
  | _, _, _, _, .nil, s => s
  | _, _, _, _, .cons r t, s => .cons r (RpA.append t s)
theorem RpA.set {v : V} {d : D} (r : Rp K S H v d) : ∀ {vs : List V} {ds : List D} (i : Nat), RpA K S H vs ds → RpA K S H (vs.set i v) (ds.set i d)
  | _, _, _, .nil => .nil
  | _, _, 0, .cons _ t => .cons r t
  | _, _, i + 1, .cons q t => .cons q (RpA.set r i t)
theorem RpA.take : ∀ {vs : List V} {ds : List D} (n : Nat), RpA K S H vs ds → RpA K S H (vs.take n) (ds.take n)
  | _, _, 0, _ => .nil
  | _, _, _ + 1, .nil => .nil
  | _, _, n + 1, .cons r t => .cons r (RpA.take n t)
theorem RpA.drop : ∀ {vs : List V} {ds : List D} (n : Nat), RpA K S H vs ds → RpA K S H (vs.drop n) (ds.drop n)
  | _, _, 0, r => r
  | _, _, _ + 1, .nil => .nil
  | _, _, n + 1, .cons _ t => RpA.drop n t
theorem RpA.ints : ∀ (ns : List Int), RpA K S H (ns.map V.int) (ns.map D.int)
  | [] => .nil
  | n :: ns => .cons (.int n) (RpA.ints ns)
theorem RpA.ofInts : ∀ {vs : List V} {ns : List Int}, RpA K S H vs (ns.map D.int) → vs = ns.map V.int
  | _, [], r => by cases r; rfl
  | _, n :: ns, r => by
    cases r with
    | cons h t =>
      cases h
      rw [RpA.ofInts t]
      rfl
end

/-! ### slots -/
inductive Sl where
  | no | sh (d : D) | fr (d : D) | ow (d : D)
abbrev Rho := List Sl
abbrev Sg := List (Option V)
/-- the fields whose lists are changed in place -/
def ownF (f : Str) : Bool := f == ("past" : Str) || f == ("ahead" : Str) || f == ("rows" : Str)
def subs : List (Str × V) → List Addr
  | [] => []
  | (f, .ref b) :: r => if ownF f = true then b :: subs r else subs r
  | _ :: r => subs r
/-- the lists of an object's own -/
def sb (H : Hp) (a : Addr) : List Addr := match H a with
  | some (.ins _ _ vs) => subs vs
  | _ => []
def OwnF (K : PySem.W.Frag) (S : Addr → Prop) (H : Hp) : List (Str × V) → List D → Prop
  | [], [] => True
  | (f, v) :: vs, d :: ds => (if ownF f = true then ∃ b xs es, v = .ref b ∧ d = .lst es ∧ H b = some (.lst xs) ∧ RpA K S H xs es else Rp K S H v d) ∧ OwnF K S H vs ds
  | _, _ => False
/-- a list, a dict, an object of one's own at a -/
def Own (K : PySem.W.Frag) (S : Addr → Prop) (H : Hp) (a : Addr) : D → Prop
  | .lst ds => ∃ xs, H a = some (.lst xs) ∧ RpA K S H xs ds
  | .dct ds => ∃ kvs, H a = some (.dT kvs) ∧ RpT K S H kvs ds
  | .dk ds => ∃ kvs, H a = some (.dK kvs) ∧ RpK K S H kvs ds
  | .obj p c ns ds => a = p ∧ ∃ C dx vs, H a = some (.ins C dx vs) ∧ ClsAt K c C ∧ vs.map (·.1) = ns ∧ OwnF K S H vs ds ∧ (subs vs).Nodup
  | .pls p ds => a = p ∧ ∃ xs, H a = some (.lst xs) ∧ RpA K S H xs ds
  | _ => False
/-- what may be one's own -/
def Mt : Option HO → Prop
  | some (.lst _) => True
  | some (.dT _) => True
  | some (.dK _) => True
  | some (.ins _ _ _) => True
  | _ => False
/-- data of the arguments and new ones; new ones alone -/
def SA (S0 : Addr → Prop) (H0 : Hp) (own : List Addr) : Addr → Prop := fun a => a ∉ own ∧ (S0 a ∨ H0 a = none)
def SF (H0 : Hp) (own : List Addr) : Addr → Prop := fun a => a ∉ own ∧ H0 a = none
theorem SF.sa {S0 : Addr → Prop} {H0 : Hp} {own : List Addr} (a : Addr) (h : SF H0 own a) : SA S0 H0 own a := ⟨h.1, .inr h.2⟩

structure Rel (K : PySem.W.Frag) (S0 : Addr → Prop) (H0 : Hp) (ρ : Rho) (σ : Sg) (own : List Addr) (H : Hp) : Prop where
  sh : ∀ (i : Nat) (d : D), ρ[i]? = some (.sh d) → ∃ v, σ[i]? = some (some v) ∧ Rp K (SA S0 H0 own) H v d
  fr : ∀ (i : Nat) (d : D), ρ[i]? = some (.fr d) → ∃ v, σ[i]? = some (some v) ∧ Rp K (SF H0 own) H v d
  ow : ∀ (i : Nat) (d : D), ρ[i]? = some (.ow d) → ∃ a, σ[i]? = some (some (.ref a)) ∧ a ∈ own ∧ Own K (SF H0 own) H a d
  dis : ∀ (i j : Nat) (d e : D), ρ[i]? = some (.ow d) → ρ[j]? = some (.ow e) → σ[i]? = σ[j]? → i = j
  sub : ∀ (i : Nat) (d : D) (a : Addr), ρ[i]? = some (.ow d) → σ[i]? = some (some (.ref a)) → ∀ x, x ∈ sb H a → x ∈ own ∧ ∀ (j : Nat) (e : D) (b : Addr), ρ[j]? = some (.ow e) → σ[j]? = some (some (.ref b)) → x ≠ b ∧ (j ≠ i → x ∉ sb H b)
  own0 : ∀ a, a ∈ own → H0 a = none ∧ Mt (H a)
  same : Same H0 H
  len : σ.length = ρ.length
/-- the states behind: what was not one's own stands -/
structure Fra (own : List Addr) (H : Hp) (own' : List Addr) (H' : Hp) : Prop where
  k : ∀ a o, H a = some o → a ∉ own → H' a = some o
  n : ∀ a, a ∈ own' → a ∈ own ∨ H a = none
section
variable {K : PySem.W.Frag} {S0 : Addr → Prop} {H0 H H' H2 : Hp} {ρ : Rho} {σ : Sg} {own own' own2 : List Addr}
theorem OwnF.keep {S S' : Addr → Prop} (k : Keep S S' H H') : ∀ {vs : List (Str × V)} {ds : List D}, (∀ b, b ∈ subs vs → ∀ o, H b = some o → H' b = some o) → OwnF K S H vs ds → OwnF K S' H' vs ds
  | [], [], _, _ => trivial
  | [], _ :: _, _, h => h.elim
  | _ :: _, [], _, h => h.elim
  | (f, v) :: vs, d :: ds, hb, h => by
    refine ⟨?_, OwnF.keep k (fun b m => hb b ?_) h.2⟩
    · have h1 := h.1
      by_cases c : ownF f = true
      · rw [if_pos c] at h1 ⊢
        obtain ⟨b, xs, es, rfl, rfl, e, r⟩ := h1
        refine ⟨b, xs, es, rfl, rfl, hb b ?_ _ e, r.keep k⟩
        unfold subs
        rw [if_pos c]
        exact List.mem_cons_self
      · rw [if_neg c] at h1 ⊢
        exact h1.keep k
    · cases v with
      | ref x =>
        unfold subs
        by_cases c : ownF f = true
        · rw [if_pos c]; exact List.mem_cons_of_mem _ m
        · rw [if_neg c]; exact m
      | _ => exact m
theorem OwnF.rp {S : Addr → Prop} : ∀ {vs : List (Str × V)} {ds : List D}, OwnF K S H vs ds → RpA K (fun _ => True) H (vs.map (·.2)) ds
  | [], [], _ => .nil
  | [], _ :: _, h => h.elim
  | _ :: _, [], h => h.elim
  | (f, v) :: vs, d :: ds, h => by
    refine .cons ?_ (OwnF.rp h.2)
    have h1 := h.1
    by_cases c : ownF f = true
    · rw [if_pos c] at h1
      obtain ⟨b, xs, es, rfl, rfl, e, r⟩ := h1
      exact .lst trivial e (r.keep (.wide fun _ _ => trivial))
    · rw [if_neg c] at h1
      exact h1.keep (.wide fun _ _ => trivial)
theorem Own.rp {S : Addr → Prop} {a p : Addr} {c : Str} {ns : List Str} {ds : List D} (h : Own K S H a (.obj p c ns ds)) : Rp K (fun _ => True) H (.ref a) (.obj p c ns ds) := by
  obtain ⟨e0, C, dx, vs, e, hc, hn, r, nd⟩ := h
  exact .obj trivial e hc hn rfl r.rp
theorem sb_ins {a C dx : Addr} {vs : List (Str × V)} (h : H a = some (.ins C dx vs)) : sb H a = subs vs := by unfold sb; rw [h]
theorem sb_eq {a : Addr} (h : H' a = H a) : sb H' a = sb H a := by unfold sb; rw [h]
theorem Own.keep {S S' : Addr → Prop} {a : Addr} {d : D} (k : Keep S S' H H') (ha : ∀ x, x = a ∨ x ∈ sb H a → ∀ o, H x = some o → H' x = some o) (h : Own K S H a d) : Own K S' H' a d := by
  cases d with
  | lst ds => obtain ⟨xs, e, r⟩ := h; exact ⟨xs, ha a (.inl rfl) _ e, r.keep k⟩
  | dct ds => obtain ⟨xs, e, r⟩ := h; exact ⟨xs, ha a (.inl rfl) _ e, r.keep k⟩
  | dk ds => obtain ⟨xs, e, r⟩ := h; exact ⟨xs, ha a (.inl rfl) _ e, r.keep k⟩
  | obj p c ns ds =>
    obtain ⟨e0, C, dx, vs, e, hc, hn, r, nd⟩ := h
    exact ⟨e0, C, dx, vs, ha a (.inl rfl) _ e, hc, hn, r.keep k fun b hb => ha b (.inr (by rw [sb_ins e]; exact hb)), nd⟩
  | pls p ds => obtain ⟨e0, xs, e, r⟩ := h; exact ⟨e0, xs, ha a (.inl rfl) _ e, r.keep k⟩
  | non => exact h.elim
  | bl _ => exact h.elim
  | int _ => exact h.elim
  | str _ => exact h.elim
  | tup _ => exact h.elim
  | kt _ => exact h.elim
  | fz _ => exact h.elim
  | raw _ => exact h.elim
theorem Own.mt {S : Addr → Prop} {a : Addr} {d : D} (h : Own K S H a d) : Mt (H a) := by
  cases d with
  | lst ds => obtain ⟨xs, e, r⟩ := h; rw [e]; trivial
  | dct ds => obtain ⟨xs, e, r⟩ := h; rw [e]; trivial
  | dk ds => obtain ⟨xs, e, r⟩ := h; rw [e]; trivial
  | obj p c ns ds => obtain ⟨e0, C, dx, vs, e, _⟩ := h; rw [e]; trivial
  | pls p ds => obtain ⟨e0, xs, e, r⟩ := h; rw [e]; trivial
  | non => exact h.elim
  | bl _ => exact h.elim
  | int _ => exact h.elim
  | str _ => exact h.elim
  | tup _ => exact h.elim
  | kt _ => exact h.elim
  | fz _ => exact h.elim
  | raw _ => exact h.elim
def isObj : D → Bool
  | .obj _ _ _ _ => true
  | _ => false
theorem Own.sb {S : Addr → Prop} {a : Addr} {d : D} (h : Own K S H a d) (hd : isObj d = false) : sb H a = [] := by
  cases d with
  | lst ds => obtain ⟨xs, e, r⟩ := h; unfold VL.sb; rw [e]
  | dct ds => obtain ⟨xs, e, r⟩ := h; unfold VL.sb; rw [e]
  | dk ds => obtain ⟨xs, e, r⟩ := h; unfold VL.sb; rw [e]
  | obj p c ns ds => cases hd
  | pls p ds => obtain ⟨e0, xs, e, r⟩ := h; unfold VL.sb; rw [e]
  | non => exact h.elim
  | bl _ => exact h.elim
  | int _ => exact h.elim
  | str _ => exact h.elim
  | tup _ => exact h.elim
  | kt _ => exact h.elim
  | fz _ => exact h.elim
  | raw _ => exact h.elim
theorem Fra.refl : Fra own H own H := ⟨fun _ _ h _ => h, fun _ h => .inl h⟩
theorem Fra.trans (a : Fra own H own' H') (b : Fra own' H' own2 H2) : Fra own H own2 H2 where
  k := fun x o h hn => b.k x o (a.k x o h hn) fun hm => by
    rcases a.n x hm with z | z
    · exact hn z
    · rw [h] at z; cases z
  n := fun x hm => by
    rcases b.n x hm with z | z
    · exact a.n x z
    · by_cases hx : x ∈ own
      · exact .inl hx
      · refine .inr ?_
        cases e : H x with
        | none => rfl
        | some o => rw [a.k x o e hx] at z; cases z
theorem Fra.same (h : Same H H') : Fra own H own H' := ⟨fun a o e _ => h a o e, fun _ h => .inl h⟩
/-- nothing of one's own at the start: all stands -/
theorem Fra.all (f : Fra [] H own' H') : Same H H' := fun a o e => f.k a o e (by simp)
theorem mt_some {o : Option HO} (h : Mt o) : ∃ u, o = some u := by
  cases o with
  | none => exact h.elim
  | some u => exact ⟨u, rfl⟩
/-- over a frame step -/
theorem Fra.keepA (f : Fra own H own' H') (own0 : ∀ a, a ∈ own → H0 a = none ∧ Mt (H a)) : Keep (SA S0 H0 own) (SA S0 H0 own') H H' where
  l := fun a o s e => ⟨⟨fun hm => (f.n a hm).elim s.1 (fun z => by rw [e] at z; exact nomatch z), s.2⟩, f.k a o e s.1⟩
  t := fun a xs e => f.k a _ e fun hm => by
    have := (own0 a hm).2
    rw [e] at this; exact this
  z := fun a o u e => f.k a _ e fun hm => by
    have := (own0 a hm).2
    rw [e] at this; exact this
theorem Fra.keepF (f : Fra own H own' H') (own0 : ∀ a, a ∈ own → H0 a = none ∧ Mt (H a)) : Keep (SF H0 own) (SF H0 own') H H' where
  l := fun a o s e => ⟨⟨fun hm => (f.n a hm).elim s.1 (fun z => by rw [e] at z; exact nomatch z), s.2⟩, f.k a o e s.1⟩
  t := fun a xs e => f.k a _ e fun hm => by
    have := (own0 a hm).2
    rw [e] at this; exact this
  z := fun a o u e => f.k a _ e fun hm => by
    have := (own0 a hm).2
    rw [e] at this; exact this
theorem Rel.grow (R : Rel K S0 H0 ρ σ own H) (h : Same H H') : Rel K S0 H0 ρ σ own H' where
  sh := fun i d e => let ⟨v, a, r⟩ := R.sh i d e; ⟨v, a, r.keep (.same h)⟩
  fr := fun i d e => let ⟨v, a, r⟩ := R.fr i d e; ⟨v, a, r.keep (.same h)⟩
  ow := fun i d e => let ⟨v, a, m, r⟩ := R.ow i d e; ⟨v, a, m, r.keep (.same h) fun x _ o q => h _ o q⟩
  dis := R.dis
  sub := fun i d a e1 e2 x hx => by
    have stay : ∀ (j : Nat) (e : D) (b : Addr), ρ[j]? = some (.ow e) → σ[j]? = some (some (.ref b)) → sb H' b = sb H b := fun j e b g1 g2 => by
      obtain ⟨c, g3, g4, _⟩ := R.ow j e g1
      rw [g2] at g3
      cases g3
      obtain ⟨u, eu⟩ := mt_some (R.own0 b g4).2
      exact sb_eq (by rw [eu, h b u eu])
    rw [stay i d a e1 e2] at hx
    obtain ⟨h1, h2⟩ := R.sub i d a e1 e2 x hx
    refine ⟨h1, fun j e b g1 g2 => ?_⟩
    rw [stay j e b g1 g2]
    exact h2 j e b g1 g2
  own0 := fun a ha => ⟨(R.own0 a ha).1, by
    obtain ⟨u, e⟩ := mt_some (R.own0 a ha).2
    have m := (R.own0 a ha).2
    rw [h a u e, ← e]
    exact m⟩
  same := R.same.trans h
  len := R.len
/-- slots forgotten -/
theorem Rel.less {ρ' : Rho} (R : Rel K S0 H0 ρ σ own H) (hl : ρ'.length = ρ.length) (h : ∀ (i : Nat) (s : Sl), ρ'[i]? = some s → s = .no ∨ ρ[i]? = some s) : Rel K S0 H0 ρ' σ own H where
  sh := fun i d e => (h i _ e).elim (fun z => by cases z) fun z => R.sh i d z
  fr := fun i d e => (h i _ e).elim (fun z => by cases z) fun z => R.fr i d z
  ow := fun i d e => (h i _ e).elim (fun z => by cases z) fun z => R.ow i d z
  dis := fun i j d e a b q => (h i _ a).elim (fun z => by cases z) fun z => (h j _ b).elim (fun y => by cases y) fun y => R.dis i j d e z y q
  sub := fun i d a e1 e2 x hx => (h i _ e1).elim (fun z => by cases z) fun z => by
    obtain ⟨h1, h2⟩ := R.sub i d a z e2 x hx
    exact ⟨h1, fun j e b g1 g2 => (h j _ g1).elim (fun y => by cases y) fun y => h2 j e b y g2⟩
  own0 := R.own0
  same := R.same
  len := by rw [R.len, hl]
theorem get_set {α : Type} {l : List α} {i j : Nat} {x y : α} (h : (l.set i x)[j]? = some y) : (j = i ∧ y = x ∧ i < l.length) ∨ (j ≠ i ∧ l[j]? = some y) := by
  by_cases e : i = j
  · subst e
    by_cases hl : i < l.length
    · rw [List.getElem?_set_self hl] at h
      exact .inl ⟨rfl, (Option.some.inj h).symm, hl⟩
    · rw [List.getElem?_eq_none (by simp; omega)] at h
      cases h
  · rw [List.getElem?_set_ne e] at h
    exact .inr ⟨fun z => e z.symm, h⟩
/-- a slot is stored: a shared value -/
theorem Rel.setSh {i : Nat} {v : V} {d : D} (R : Rel K S0 H0 ρ σ own H) (r : Rp K (SA S0 H0 own) H v d) : Rel K S0 H0 (ρ.set i (.sh d)) (σ.set i (some v)) own H where
  sh := fun j e q => by
    rcases get_set q with ⟨rfl, z, hl⟩ | ⟨hj, z⟩
    · cases z
      exact ⟨v, List.getElem?_set_self (by rw [R.len]; exact hl), r⟩
    · rw [List.getElem?_set_ne (Ne.symm hj)]
      exact R.sh j e z
  fr := fun j e q => by
    rcases get_set q with ⟨rfl, z, hl⟩ | ⟨hj, z⟩
    · cases z
    · rw [List.getElem?_set_ne (Ne.symm hj)]
      exact R.fr j e z
  ow := fun j e q => by
    rcases get_set q with ⟨rfl, z, hl⟩ | ⟨hj, z⟩
    · cases z
    · rw [List.getElem?_set_ne (Ne.symm hj)]
      exact R.ow j e z
  dis := fun j k d' e' a b q => by
    rcases get_set a with ⟨rfl, z, hl⟩ | ⟨hj, z⟩
    · cases z
    · rcases get_set b with ⟨rfl, y, hl⟩ | ⟨hk, y⟩
      · cases y
      · rw [List.getElem?_set_ne (Ne.symm hj), List.getElem?_set_ne (Ne.symm hk)] at q
        exact R.dis j k d' e' z y q
  sub := fun j d' a e1 e2 x hx => by
    rcases get_set e1 with ⟨rfl, z, hl⟩ | ⟨hj, z⟩
    · cases z
    · rw [List.getElem?_set_ne (Ne.symm hj)] at e2
      obtain ⟨h1, h2⟩ := R.sub j d' a z e2 x hx
      refine ⟨h1, fun k e b g1 g2 => ?_⟩
      rcases get_set g1 with ⟨rfl, y, hl⟩ | ⟨hk, y⟩
      · cases y
      · rw [List.getElem?_set_ne (Ne.symm hk)] at g2
        exact h2 k e b y g2
  own0 := R.own0
  same := R.same
  len := by simp [R.len]
theorem Rel.setFr {i : Nat} {v : V} {d : D} (R : Rel K S0 H0 ρ σ own H) (r : Rp K (SF H0 own) H v d) : Rel K S0 H0 (ρ.set i (.fr d)) (σ.set i (some v)) own H where
  fr := fun j e q => by
    rcases get_set q with ⟨rfl, z, hl⟩ | ⟨hj, z⟩
    · cases z
      exact ⟨v, List.getElem?_set_self (by rw [R.len]; exact hl), r⟩
    · rw [List.getElem?_set_ne (Ne.symm hj)]
      exact R.fr j e z
  sh := fun j e q => by
    rcases get_set q with ⟨rfl, z, hl⟩ | ⟨hj, z⟩
    · cases z
    · rw [List.getElem?_set_ne (Ne.symm hj)]
      exact R.sh j e z
  ow := fun j e q => by
    rcases get_set q with ⟨rfl, z, hl⟩ | ⟨hj, z⟩
    · cases z
    · rw [List.getElem?_set_ne (Ne.symm hj)]
      exact R.ow j e z
  dis := fun j k d' e' a b q => by
    rcases get_set a with ⟨rfl, z, hl⟩ | ⟨hj, z⟩
    · cases z
    · rcases get_set b with ⟨rfl, y, hl⟩ | ⟨hk, y⟩
      · cases y
      · rw [List.getElem?_set_ne (Ne.symm hj), List.getElem?_set_ne (Ne.symm hk)] at q
        exact R.dis j k d' e' z y q
  sub := fun j d' a e1 e2 x hx => by
    rcases get_set e1 with ⟨rfl, z, hl⟩ | ⟨hj, z⟩
    · cases z
    · rw [List.getElem?_set_ne (Ne.symm hj)] at e2
      obtain ⟨h1, h2⟩ := R.sub j d' a z e2 x hx
      refine ⟨h1, fun k e b g1 g2 => ?_⟩
      rcases get_set g1 with ⟨rfl, y, hl⟩ | ⟨hk, y⟩
      · cases y
      · rw [List.getElem?_set_ne (Ne.symm hk)] at g2
        exact h2 k e b y g2
  own0 := R.own0
  same := R.same
  len := by simp [R.len]
/-- a new list or dict becomes one's own: a stands in H, unknown to the data -/
theorem Rel.setOw {i : Nat} {a : Addr} {d : D} {Hb : Hp} (Rb : Rel K S0 H0 ρ σ own Hb) (hs : Same Hb H) (hb : Hb a = none) (r : Own K (SF H0 (a :: own)) H a d) (hd : isObj d = false := by rfl) : Rel K S0 H0 (ρ.set i (.ow d)) (σ.set i (some (.ref a))) (a :: own) H := by
  have f : Fra own Hb (a :: own) H := ⟨fun b o e _ => hs b o e, fun b hm => (List.mem_cons.mp hm).elim (fun z => .inr (by rw [z]; exact hb)) .inl⟩
  have h0 : H0 a = none := Rb.same.free hb
  refine ⟨fun j e q => ?_, fun j e q => ?_, fun j e q => ?_, fun j k d' e' x y q => ?_, fun j d' b e1 e2 x hx => ?_, fun b hm => ?_, Rb.same.trans hs, by simp [Rb.len]⟩
  · rcases get_set q with ⟨rfl, z, hl⟩ | ⟨hj, z⟩
    · cases z
    · rw [List.getElem?_set_ne (Ne.symm hj)]
      obtain ⟨v, h1, h2⟩ := Rb.sh j e z
      exact ⟨v, h1, h2.keep (f.keepA Rb.own0)⟩
  · rcases get_set q with ⟨rfl, z, hl⟩ | ⟨hj, z⟩
    · cases z
    · rw [List.getElem?_set_ne (Ne.symm hj)]
      obtain ⟨v, h1, h2⟩ := Rb.fr j e z
      exact ⟨v, h1, h2.keep (f.keepF Rb.own0)⟩
  · rcases get_set q with ⟨rfl, z, hl⟩ | ⟨hj, z⟩
    · cases z
      exact ⟨a, List.getElem?_set_self (by rw [Rb.len]; exact hl), List.mem_cons_self, r⟩
    · rw [List.getElem?_set_ne (Ne.symm hj)]
      obtain ⟨b, h1, h2, h3⟩ := Rb.ow j e z
      exact ⟨b, h1, List.mem_cons_of_mem _ h2, h3.keep (f.keepF Rb.own0) fun x _ o q => hs _ o q⟩
  · have old : ∀ (j : Nat) (d : D), j ≠ i → ρ[j]? = some (.ow d) → (σ.set i (some (.ref a)))[j]? ≠ some (some (.ref a)) := fun j d hj z w => by
      rw [List.getElem?_set_ne (Ne.symm hj)] at w
      obtain ⟨b, h1, h2, h3⟩ := Rb.ow j d z
      rw [w] at h1
      cases h1
      obtain ⟨u, e⟩ := mt_some (Rb.own0 a h2).2
      rw [hb] at e; cases e
    rcases get_set x with ⟨rfl, z, hl⟩ | ⟨hj, z⟩
    · rcases get_set y with ⟨rfl, z2, hl2⟩ | ⟨hk, z2⟩
      · rfl
      · refine absurd ?_ (old k e' hk z2)
        rw [← q]
        exact List.getElem?_set_self (by rw [Rb.len]; exact hl)
    · rcases get_set y with ⟨rfl, z2, hl2⟩ | ⟨hk, z2⟩
      · refine absurd ?_ (old j d' hj z)
        rw [q]
        exact List.getElem?_set_self (by rw [Rb.len]; exact hl2)
      · rw [List.getElem?_set_ne (Ne.symm hj), List.getElem?_set_ne (Ne.symm hk)] at q
        exact Rb.dis j k d' e' z z2 q
  · have hsb : sb H a = [] := r.sb hd
    have stay : ∀ (j : Nat) (e : D) (b : Addr), ρ[j]? = some (.ow e) → σ[j]? = some (some (.ref b)) → sb H b = sb Hb b ∧ b ∈ own := fun j e b g1 g2 => by
      obtain ⟨c, g3, g4, _⟩ := Rb.ow j e g1
      rw [g2] at g3
      cases g3
      obtain ⟨u, eu⟩ := mt_some (Rb.own0 b g4).2
      exact ⟨sb_eq (by rw [eu, hs b u eu]), g4⟩
    rcases get_set e1 with ⟨rfl, z, hl⟩ | ⟨hj, z⟩
    · rw [List.getElem?_set_self (by rw [Rb.len]; exact hl)] at e2
      cases e2
      rw [hsb] at hx
      cases hx
    · rw [List.getElem?_set_ne (Ne.symm hj)] at e2
      rw [(stay j d' b z e2).1] at hx
      obtain ⟨h1, h2⟩ := Rb.sub j d' b z e2 x hx
      refine ⟨List.mem_cons_of_mem _ h1, fun k e c g1 g2 => ?_⟩
      rcases get_set g1 with ⟨rfl, y, hl⟩ | ⟨hk, y⟩
      · rw [List.getElem?_set_self (by rw [Rb.len]; exact hl)] at g2
        cases g2
        refine ⟨fun z => ?_, fun _ => by rw [hsb]; simp⟩
        rw [z] at h1
        obtain ⟨u, e⟩ := mt_some (Rb.own0 a h1).2
        rw [hb] at e; cases e
      · rw [List.getElem?_set_ne (Ne.symm hk)] at g2
        rw [(stay k e c y g2).1]
        exact h2 k e c y g2
  · rcases List.mem_cons.mp hm with rfl | hm
    · exact ⟨h0, r.mt⟩
    · refine ⟨(Rb.own0 b hm).1, ?_⟩
      obtain ⟨u, e⟩ := mt_some (Rb.own0 b hm).2
      have m := (Rb.own0 b hm).2
      rw [hs b u e, ← e]
      exact m
/-- what is one's own changes -/
theorem Rel.chg {i : Nat} {a : Addr} {d d' : D} {o : HO} (R : Rel K S0 H0 ρ σ own H) (hi : ρ[i]? = some (.ow d)) (ha : σ[i]? = some (some (.ref a))) (mo : Mt (some o))
    (r : Own K (SF H0 own) (upd H a o) a d') (hd : isObj d = false := by rfl) (hd' : isObj d' = false := by rfl) : Rel K S0 H0 (ρ.set i (.ow d')) σ own (upd H a o) ∧ Fra own H own (upd H a o) := by
  obtain ⟨a', h1, ham, hown⟩ := R.ow i d hi
  rw [ha] at h1
  cases h1
  have f : Fra own H own (upd H a o) := ⟨fun b u e hn => by rw [upd_ne (fun z => hn (by rw [z]; exact ham))]; exact e, fun _ h => .inl h⟩
  have hil : i < ρ.length := (List.getElem?_eq_some_iff.mp hi).1
  refine ⟨⟨fun j e q => ?_, fun j e q => ?_, fun j e q => ?_, fun j k d1 e1 x y q => ?_, fun j d1 b e1 e2 x hx => ?_, fun b hm => ⟨(R.own0 b hm).1, ?_⟩, fun b u e => ?_, by simp [R.len]⟩, f⟩
  · rcases get_set q with ⟨rfl, z, hl⟩ | ⟨hj, z⟩
    · cases z
    · obtain ⟨v, h1, h2⟩ := R.sh j e z
      exact ⟨v, h1, h2.keep (f.keepA R.own0)⟩
  · rcases get_set q with ⟨rfl, z, hl⟩ | ⟨hj, z⟩
    · cases z
    · obtain ⟨v, h1, h2⟩ := R.fr j e z
      exact ⟨v, h1, h2.keep (f.keepF R.own0)⟩
  · rcases get_set q with ⟨rfl, z, hl⟩ | ⟨hj, z⟩
    · cases z
      exact ⟨a, ha, ham, r⟩
    · obtain ⟨b, h1, h2, h3⟩ := R.ow j e z
      have hba : b ≠ a := fun z2 => hj (R.dis j i e d z hi (by rw [h1, ha, z2]))
      refine ⟨b, h1, h2, h3.keep (f.keepF R.own0) fun x hx u eu => ?_⟩
      have hxa : x ≠ a := by
        rcases hx with rfl | hx
        · exact hba
        · exact ((R.sub j e b z h1 x hx).2 i d a hi ha).1
      rw [upd_ne hxa]; exact eu
  · have g : ∀ (j : Nat) (d1 : D), (ρ.set i (.ow d'))[j]? = some (.ow d1) → ∃ d2, ρ[j]? = some (.ow d2) := fun j d1 z => by
      rcases get_set z with ⟨rfl, _, _⟩ | ⟨_, z⟩
      · exact ⟨_, hi⟩
      · exact ⟨_, z⟩
    obtain ⟨d2, z2⟩ := g j d1 x
    obtain ⟨d3, z3⟩ := g k e1 y
    exact R.dis j k d2 d3 z2 z3 q
  · have hsa : sb H a = [] := hown.sb hd
    have hsb : sb (upd H a o) a = [] := r.sb hd'
    have all : ∀ c, sb (upd H a o) c = sb H c := fun c => by
      by_cases e : c = a
      · rw [e, hsa, hsb]
      · exact sb_eq (upd_ne e)
    have g : ∀ (j : Nat) (d1 : D), (ρ.set i (.ow d'))[j]? = some (.ow d1) → ∃ d2, ρ[j]? = some (.ow d2) := fun j d1 z => by
      rcases get_set z with ⟨rfl, _, _⟩ | ⟨_, z⟩
      · exact ⟨_, hi⟩
      · exact ⟨_, z⟩
    obtain ⟨d2, z2⟩ := g j d1 e1
    rw [all] at hx
    obtain ⟨h1, h2⟩ := R.sub j d2 b z2 e2 x hx
    refine ⟨h1, fun k e c g1 g2 => ?_⟩
    obtain ⟨d3, z3⟩ := g k e g1
    rw [all]
    exact h2 k d3 c z3 g2
  · by_cases hb : b = a
    · subst hb; rw [upd_same]; exact mo
    · rw [upd_ne hb]; exact (R.own0 b hm).2
  · have hb : b ≠ a := fun z => by
      have := (R.own0 a ham).1
      rw [← z, e] at this; cases this
    rw [upd_ne hb]
    exact R.same b u e
/-- what is one's own is given to all -/
theorem Rel.share {i : Nat} {d : D} (R : Rel K S0 H0 ρ σ own H) (hi : ρ[i]? = some (.ow d)) (hd : isObj d = false) : ∃ own', Rel K S0 H0 (ρ.set i (.fr d)) σ own' H ∧ Fra own H own' H := by
  obtain ⟨a, h1, h2, h3⟩ := R.ow i d hi
  refine ⟨own.filter fun b => decide (b ≠ a), ?_, ⟨fun _ _ e _ => e, fun b hm => .inl (List.mem_filter.mp hm).1⟩⟩
  have f : Fra own H (own.filter fun b => decide (b ≠ a)) H := ⟨fun _ _ e _ => e, fun b hm => .inl (List.mem_filter.mp hm).1⟩
  have na : a ∉ own.filter fun b => decide (b ≠ a) := fun hm => by simpa using (List.mem_filter.mp hm).2
  have h0 := (R.own0 a h2).1
  refine ⟨fun j e q => ?_, fun j e q => ?_, fun j e q => ?_, fun j k d1 e1 x y q => ?_, fun j d1 b e1 e2 x hx => ?_, fun b hm => R.own0 b (List.mem_filter.mp hm).1, R.same, by simp [R.len]⟩
  · rcases get_set q with ⟨rfl, z, hl⟩ | ⟨hj, z⟩
    · cases z
    · obtain ⟨v, h1, h2⟩ := R.sh j e z
      exact ⟨v, h1, h2.keep (f.keepA R.own0)⟩
  · rcases get_set q with ⟨rfl, z, hl⟩ | ⟨hj, z⟩
    · cases z
      refine ⟨.ref a, h1, ?_⟩
      have h3' := h3.keep (f.keepF R.own0) (fun _ _ _ q => q)
      cases d with
      | lst ds => obtain ⟨xs, e, r⟩ := h3'; exact .lst ⟨na, h0⟩ e r
      | dct ds => obtain ⟨xs, e, r⟩ := h3'; exact .dct ⟨na, h0⟩ e r
      | dk ds => obtain ⟨xs, e, r⟩ := h3'; exact .dk ⟨na, h0⟩ e r
      | non => exact h3'.elim
      | bl _ => exact h3'.elim
      | int _ => exact h3'.elim
      | str _ => exact h3'.elim
      | tup _ => exact h3'.elim
      | kt _ => exact h3'.elim
      | fz _ => exact h3'.elim
      | raw _ => exact h3'.elim
      | pls p ds => obtain ⟨e0, xs, e, r⟩ := h3'; exact .pls ⟨na, h0⟩ e r
      | obj _ _ _ _ => cases hd
    · obtain ⟨v, h1, h2⟩ := R.fr j e z
      exact ⟨v, h1, h2.keep (f.keepF R.own0)⟩
  · rcases get_set q with ⟨rfl, z, hl⟩ | ⟨hj, z⟩
    · cases z
    · obtain ⟨b, e1, e2, e3⟩ := R.ow j e z
      have hba : b ≠ a := fun z2 => hj (R.dis j i e d z hi (by rw [e1, h1, z2]))
      exact ⟨b, e1, List.mem_filter.mpr ⟨e2, by simpa using hba⟩, e3.keep (f.keepF R.own0) fun _ _ _ q => q⟩
  · rcases get_set x with ⟨rfl, z, hl⟩ | ⟨hj, z⟩
    · cases z
    · rcases get_set y with ⟨rfl, z2, hl⟩ | ⟨hk, z2⟩
      · cases z2
      · exact R.dis j k d1 e1 z z2 q
  · rcases get_set e1 with ⟨rfl, z, hl⟩ | ⟨hj, z⟩
    · cases z
    · obtain ⟨g1, g2⟩ := R.sub j d1 b z e2 x hx
      have hxa : x ≠ a := (g2 i d a hi h1).1
      refine ⟨List.mem_filter.mpr ⟨g1, by simpa using hxa⟩, fun k e c g3 g4 => ?_⟩
      rcases get_set g3 with ⟨rfl, y, hl⟩ | ⟨hk, y⟩
      · cases y
      · exact g2 k e c y g4
end
end VL
set_option Elab.async false
set_option linter.all false
set_option maxRecDepth 100000
/-! VL: expressions. -/
namespace VL
open PySem L2

theorem takesN0 {X : Cx} : L2N.Takes X (fun _ _ _ _ => False) := fun _ _ x => by
  obtain ⟨_, _, _, _, _, _, _, _, _, _, _, _, _, _, _, _, z⟩ := x
  exact z.elim
/-- how an expression's value stands: borrowed (it may be one's own list), shared, made in this def, made by this expression -/
inductive Md where
  | O | E | F | N
def SN (Hb : Hp) (H0 : Hp) (own : List Addr) : Addr → Prop := fun a => Hb a = none ∧ SF H0 own a
def RM (K : PySem.W.Frag) (S0 : Addr → Prop) (H0 : Hp) (own : List Addr) : Md → Hp → Hp → V → D → Prop
  | .O, _, H, v, d => Rp K (SA S0 H0 own) H v d ∨ ∃ a, v = .ref a ∧ a ∈ own ∧ Own K (SF H0 own) H a d
  | .E, _, H, v, d => Rp K (SA S0 H0 own) H v d
  | .F, _, H, v, d => Rp K (SF H0 own) H v d
  | .N, Hb, H, v, d => Rp K (SN Hb H0 own) H v d
def IsCls (mg : Str → Option Value) : Xc → Value → Option Addr → Prop
  | .own c, v, d => mg c = some v ∧ d = none
  | .bi n, v, _ => v = .type n
section
variable (X : Cx) (W : WX) (S0 : Addr → Prop) (H0 : Hp) (own : List Addr) (m : Md) (H : Hp) (σ : Sg)
/-- what is wanted behind an expression -/
def PX (Q : VK) : M D → Prop
  | .ok d => ∀ v H', Same H H' → RM X.K S0 H0 own m H H' v d → Q v H'
  | .ex c => ∀ cv d H', IsCls X.mg c cv d → Same H H' → W cv d σ H'
  | .er => False
def PXT (Q : Bool → Hp → Prop) : M Bool → Prop
  | .ok b => ∀ H', Same H H' → Q b H'
  | .ex c => ∀ cv d H', IsCls X.mg c cv d → Same H H' → W cv d σ H'
  | .er => False
def PXA (Q : List V → Hp → Prop) : M (List D) → Prop
  | .ok ds => ∀ vs H', Same H H' → Paired (RM X.K S0 H0 own m H H') vs ds → Q vs H'
  | .ex c => ∀ cv d H', IsCls X.mg c cv d → Same H H' → W cv d σ H'
  | .er => False
end
structure VX (X : Cx) (W : WX) (S0 : Addr → Prop) (H0 : Hp) (m : Md) (e : Expr) (f : Rho → M D) : Prop where
  p : ∃ te, PE X e te ∧ ∀ ρ σ own H Q, Rel X.K S0 H0 ρ σ own H → PX X W S0 H0 own m H σ Q (f ρ) → te σ H Q
structure VT (X : Cx) (W : WX) (S0 : Addr → Prop) (H0 : Hp) (e : Expr) (f : Rho → M Bool) : Prop where
  p : ∃ te, PT X e te ∧ ∀ ρ σ own H Q, Rel X.K S0 H0 ρ σ own H → PXT X W H σ Q (f ρ) → te σ H Q
/-- a test whatever its whole is (and, or) -/
structure VW (X : Cx) (W : WX) (S0 : Addr → Prop) (H0 : Hp) (e : Expr) (f : Rho → M Bool) : Prop where
  p : ∃ te, PW X e te ∧ ∀ ρ σ own H Q, Rel X.K S0 H0 ρ σ own H → PXT X W H σ Q (f ρ) → te σ H Q
structure VA (X : Cx) (W : WX) (S0 : Addr → Prop) (H0 : Hp) (m : Md) (es : List Expr) (f : Rho → M (List D)) : Prop where
  p : ∃ te, PA X es te ∧ ∀ ρ σ own H Q, Rel X.K S0 H0 ρ σ own H → PXA X W S0 H0 own m H σ Q (f ρ) → te σ H Q

section
variable {X : Cx} {W : WX} {S0 : Addr → Prop} {H0 : Hp} {own : List Addr} {m : Md} {H H1 : Hp} {σ : Sg} {ρ : Rho} {K : PySem.W.Frag} {v : V} {d : D}
/-! ### modes -/
variable {Hb Hc : Hp}
theorem RM.grow (h : Same H H1) (r : RM K S0 H0 own m Hb H v d) : RM K S0 H0 own m Hb H1 v d := by
  cases m with
  | E => exact Rp.keep (.same h) r
  | F => exact Rp.keep (.same h) r
  | N => exact Rp.keep (.same h) r
  | O =>
    rcases r with r | ⟨a, e, hm, r⟩
    · exact .inl (r.keep (.same h))
    · exact .inr ⟨a, e, hm, r.keep (.same h) fun _ _ o q => h _ o q⟩
theorem RM.back (h : Same Hc Hb) (r : RM K S0 H0 own m Hb H v d) : RM K S0 H0 own m Hc H v d := by
  cases m with
  | O => exact r
  | E => exact r
  | F => exact r
  | N => exact Rp.keep (.wide fun a q => ⟨h.free q.1, q.2⟩) r
theorem RMA.grow (h : Same H H1) {vs : List V} {ds : List D} (r : Paired (RM K S0 H0 own m Hb H) vs ds) : Paired (RM K S0 H0 own m Hb H1) vs ds := by
  induction r with
  | nil => exact .nil
  | cons a _ ih => exact .cons (a.grow h) ih
theorem RMA.back (h : Same Hc Hb) {vs : List V} {ds : List D} (r : Paired (RM K S0 H0 own m Hb H) vs ds) : Paired (RM K S0 H0 own m Hc H) vs ds := by
  induction r with
  | nil => exact .nil
  | cons a _ ih => exact .cons (a.back h) ih
theorem RM.nf (r : RM K S0 H0 own .N Hb H v d) : RM K S0 H0 own .F Hc H v d := Rp.keep (.wide fun a q => q.2) r
theorem RM.fe (r : RM K S0 H0 own .F Hb H v d) : RM K S0 H0 own .E Hc H v d := Rp.keep (.wide SF.sa) r
theorem RM.toO (r : RM K S0 H0 own m Hb H v d) : RM K S0 H0 own .O Hc H v d := by
  cases m with
  | O => exact r
  | E => exact .inl r
  | F => exact .inl (Rp.keep (.wide SF.sa) r)
  | N => exact .inl (Rp.keep (.wide fun a q => SF.sa a q.2) r)
/-- data without lists: as well new -/
theorem RM.ofNon : RM K S0 H0 own m Hb H .non .non := by cases m <;> first | exact .non | exact .inl .non
theorem RM.ofInt (i : Int) : RM K S0 H0 own m Hb H (.int i) (.int i) := by cases m <;> first | exact .int i | exact .inl (.int i)
theorem RM.ofBl (i : Bool) : RM K S0 H0 own m Hb H (.bl i) (.bl i) := by cases m <;> first | exact .bl i | exact .inl (.bl i)
theorem RM.ofStr (i : Str) : RM K S0 H0 own m Hb H (.str i) (.str i) := by cases m <;> first | exact .str i | exact .inl (.str i)
theorem RM.isInt {i : Int} (r : RM K S0 H0 own m Hb H v (.int i)) : v = .int i := by
  rcases r.toO (Hc := Hb) with r | ⟨a, e, hm, r⟩
  · cases r; rfl
  · exact r.elim
theorem RM.isBl {i : Bool} (r : RM K S0 H0 own m Hb H v (.bl i)) : v = .bl i := by
  rcases r.toO (Hc := Hb) with r | ⟨a, e, hm, r⟩
  · cases r; rfl
  · exact r.elim
theorem RM.isStr {i : Str} (r : RM K S0 H0 own m Hb H v (.str i)) : v = .str i := by
  rcases r.toO (Hc := Hb) with r | ⟨a, e, hm, r⟩
  · cases r; rfl
  · exact r.elim
theorem RM.isNon (r : RM K S0 H0 own m Hb H v .non) : v = .non := by
  rcases r.toO (Hc := Hb) with r | ⟨a, e, hm, r⟩
  · cases r; rfl
  · exact r.elim
theorem SqL.rd {a : Addr} {xs : List V} (h : Rd H a (.lst xs)) : SqL K H a xs := .inl h
/-- a list read -/
theorem RM.isLst {ds : List D} (r : RM K S0 H0 own m Hb H v (.lst ds)) : ∃ a xs, v = .ref a ∧ Rd H a (.lst xs) ∧ RpA K (SA S0 H0 own) H xs ds := by
  rcases r.toO (Hc := Hb) with r | ⟨a, e, hm, xs, h, r⟩
  · cases r with
    | lst s h r => exact ⟨_, _, rfl, .inl h, r⟩
  · exact ⟨a, xs, e, .inl h, r.keep (.wide SF.sa)⟩
theorem RM.isFz {ds : List D} (r : RM K S0 H0 own m Hb H v (.fz ds)) : ∃ a xs, v = .ref a ∧ FzL K H a xs ∧ RpA K (SA S0 H0 own) H xs ds := by
  rcases r.toO (Hc := Hb) with r | ⟨a, e, hm, r⟩
  · cases r with
    | fz h r => exact ⟨_, _, rfl, h, r⟩
  · exact r.elim
theorem RM.isTup {ds : List D} (r : RM K S0 H0 own m Hb H v (.tup ds)) : ∃ a xs, v = .ref a ∧ H a = some (.tup xs) ∧ RpA K (SA S0 H0 own) H xs ds := by
  rcases r.toO (Hc := Hb) with r | ⟨a, e, hm, r⟩
  · cases r with
    | tup h r => exact ⟨_, _, rfl, h, r⟩
  · exact r.elim
theorem RM.isKt {ds : List D} (r : RM K S0 H0 own m Hb H v (.kt ds)) : ∃ a xs, v = .ref a ∧ SqT K H a xs ∧ RpA K (SA S0 H0 own) H xs ds := by
  rcases r.toO (Hc := Hb) with r | ⟨a, e, hm, r⟩
  · cases r with
    | kt h r => exact ⟨_, _, rfl, .inr h, r⟩
  · exact r.elim
theorem RM.isDct {ds : List (List Key × D)} (r : RM K S0 H0 own m Hb H v (.dct ds)) : ∃ a xs, v = .ref a ∧ Rd H a (.dT xs) ∧ RpT K (SA S0 H0 own) H xs ds := by
  rcases r.toO (Hc := Hb) with r | ⟨a, e, hm, xs, h, r⟩
  · cases r with
    | dct s h r => exact ⟨_, _, rfl, .inl h, r⟩
  · exact ⟨a, xs, e, .inl h, r.keep (.wide SF.sa)⟩
theorem RM.isDk {ds : List (Key × D)} (r : RM K S0 H0 own m Hb H v (.dk ds)) : ∃ a xs, v = .ref a ∧ Rd H a (.dK xs) ∧ RpK K (SA S0 H0 own) H xs ds := by
  rcases r.toO (Hc := Hb) with r | ⟨a, e, hm, xs, h, r⟩
  · cases r with
    | dk s h r => exact ⟨_, _, rfl, .inl h, r⟩
  · exact ⟨a, xs, e, .inl h, r.keep (.wide SF.sa)⟩
/-- an item, as shared -/
theorem RpA.E {vs : List V} {ds : List D} {i : Nat} (r : RpA K (SA S0 H0 own) H vs ds) (e : ds[i]? = some d) : ∃ v, vs[i]? = some v ∧ RM K S0 H0 own .E Hb H v d := r.get e
theorem PX.grow {Q : VK} {r : M D} (h : Same H H1) (p : PX X W S0 H0 own m H σ Q r) : PX X W S0 H0 own m H1 σ Q r := by
  cases r with
  | ok d => exact fun v H' s r => p v H' (h.trans s) (r.back h)
  | ex c => exact fun cv d H' i s => p cv d H' i (h.trans s)
  | er => exact p
theorem PXT.grow {Q : Bool → Hp → Prop} {r : M Bool} (h : Same H H1) (p : PXT X W H σ Q r) : PXT X W H1 σ Q r := by
  cases r with
  | ok d => exact fun H' s => p H' (h.trans s)
  | ex c => exact fun cv d H' i s => p cv d H' i (h.trans s)
  | er => exact p
theorem PXA.grow {Q : List V → Hp → Prop} {r : M (List D)} (h : Same H H1) (p : PXA X W S0 H0 own m H σ Q r) : PXA X W S0 H0 own m H1 σ Q r := by
  cases r with
  | ok d => exact fun v H' s r => p v H' (h.trans s) (RMA.back h r)
  | ex c => exact fun cv d H' i s => p cv d H' i (h.trans s)
  | er => exact p
theorem own_new {a : Addr} (R : Rel K S0 H0 ρ σ own H) (h : H a = none) : a ∉ own := fun hm => by
  have := (R.own0 a hm).2
  rw [h] at this; exact this
theorem sf_new {a : Addr} (R : Rel K S0 H0 ρ σ own H) (h : H a = none) : SF H0 own a := ⟨own_new R h, R.same.free h⟩
theorem same_upd {p : Addr} {o : HO} (h : H p = none) : Same H (upd H p o) := fun b x e => by
  rw [upd_ne (ne_of_none e h)]
  exact e
end

/-! ### names, constants -/
def eV (i : Nat) : Rho → M D := fun ρ => match ρ[i]? with
  | some (.sh d) => .ok d
  | some (.fr d) => .ok d
  | some (.ow d) => .ok d
  | _ => .er
def eVE (i : Nat) : Rho → M D := fun ρ => match ρ[i]? with
  | some (.sh d) => .ok d
  | some (.fr d) => .ok d
  | _ => .er
def eVF (i : Nat) : Rho → M D := fun ρ => match ρ[i]? with
  | some (.fr d) => .ok d
  | _ => .er
def eC (d : D) : Rho → M D := fun _ => .ok d
section
variable {X : Cx} {W : WX} {S0 : Addr → Prop} {H0 : Hp} {m : Md} {pos : Pos}
theorem VX.nf {e : Expr} {f : Rho → M D} (h : VX X W S0 H0 .N e f) : VX X W S0 H0 .F e f := by
  obtain ⟨te, p, q⟩ := h.p
  refine ⟨te, p, fun ρ σ own H Q R k => q ρ σ own H Q R ?_⟩
  revert k
  cases f ρ with
  | ok d => exact fun k v H' s r => k v H' s r.nf
  | ex c => exact id
  | er => exact id
theorem VX.fe {e : Expr} {f : Rho → M D} (h : VX X W S0 H0 .F e f) : VX X W S0 H0 .E e f := by
  obtain ⟨te, p, q⟩ := h.p
  refine ⟨te, p, fun ρ σ own H Q R k => q ρ σ own H Q R ?_⟩
  revert k
  cases f ρ with
  | ok d => exact fun k v H' s r => k v H' s r.fe
  | ex c => exact id
  | er => exact id
theorem VX.toO {e : Expr} {f : Rho → M D} (h : VX X W S0 H0 m e f) : VX X W S0 H0 .O e f := by
  obtain ⟨te, p, q⟩ := h.p
  refine ⟨te, p, fun ρ σ own H Q R k => q ρ σ own H Q R ?_⟩
  revert k
  cases f ρ with
  | ok d => exact fun k v H' s r => k v H' s r.toO
  | ex c => exact id
  | er => exact id
theorem vx_var (i : Nat) {x : Str} (hN : X.N[i]? = some x := by rfl) (hv : Vis X.env.scope x := by first | exact Or.inl rfl | exact Or.inr (Or.inl rfl) | exact Or.inr (Or.inr rfl)) (hd : (x == ("__debug__" : Str)) = false := by decide)
    (hcd : (x == ("__classdict__" : Str)) = false := by decide) : VX X W S0 H0 .O (.Name x pos) (eV i) := by
  refine ⟨_, pe_var hN hv hd hcd, fun ρ σ own H Q R k => ?_⟩
  unfold eV at k
  split at k
  · next d e => obtain ⟨v, h1, h2⟩ := R.sh i d e; exact ⟨v, h1, k v H (Same.refl H) (.inl h2)⟩
  · next d e => obtain ⟨v, h1, h2⟩ := R.fr i d e; exact ⟨v, h1, k v H (Same.refl H) (.inl (h2.keep (.wide SF.sa)))⟩
  · next d e => obtain ⟨a, h1, h2, h3⟩ := R.ow i d e; exact ⟨.ref a, h1, k _ H (Same.refl H) (.inr ⟨a, rfl, h2, h3⟩)⟩
  · exact k.elim
theorem vx_varE (i : Nat) {x : Str} (hN : X.N[i]? = some x := by rfl) (hv : Vis X.env.scope x := by first | exact Or.inl rfl | exact Or.inr (Or.inl rfl) | exact Or.inr (Or.inr rfl)) (hd : (x == ("__debug__" : Str)) = false := by decide)
    (hcd : (x == ("__classdict__" : Str)) = false := by decide) : VX X W S0 H0 .E (.Name x pos) (eVE i) := by
  refine ⟨_, pe_var hN hv hd hcd, fun ρ σ own H Q R k => ?_⟩
  unfold eVE at k
  split at k
  · next d e => obtain ⟨v, h1, h2⟩ := R.sh i d e; exact ⟨v, h1, k v H (Same.refl H) h2⟩
  · next d e => obtain ⟨v, h1, h2⟩ := R.fr i d e; exact ⟨v, h1, k v H (Same.refl H) (h2.keep (.wide SF.sa))⟩
  · exact k.elim
theorem vx_varF (i : Nat) {x : Str} (hN : X.N[i]? = some x := by rfl) (hv : Vis X.env.scope x := by first | exact Or.inl rfl | exact Or.inr (Or.inl rfl) | exact Or.inr (Or.inr rfl)) (hd : (x == ("__debug__" : Str)) = false := by decide)
    (hcd : (x == ("__classdict__" : Str)) = false := by decide) : VX X W S0 H0 .F (.Name x pos) (eVF i) := by
  refine ⟨_, pe_var hN hv hd hcd, fun ρ σ own H Q R k => ?_⟩
  unfold eVF at k
  split at k
  · next d e => obtain ⟨v, h1, h2⟩ := R.fr i d e; exact ⟨v, h1, k v H (Same.refl H) h2⟩
  · exact k.elim
theorem vx_int {i : Int} {j : Nat} : VX X W S0 H0 m (.Constant (.int i) j pos) (eC (.int i)) := ⟨_, pe_int, fun _ _ _ H _ _ k => k _ H (Same.refl H) (.ofInt i)⟩
theorem vx_bl {i : Bool} {j : Nat} : VX X W S0 H0 m (.Constant (.bool i) j pos) (eC (.bl i)) := ⟨_, pe_bl, fun _ _ _ H _ _ k => k _ H (Same.refl H) (.ofBl i)⟩
theorem vx_str {i : Str} {j : Nat} : VX X W S0 H0 m (.Constant (.str i) j pos) (eC (.str i)) := ⟨_, pe_str, fun _ _ _ H _ _ k => k _ H (Same.refl H) (.ofStr i)⟩
theorem vx_non {j : Nat} : VX X W S0 H0 m (.Constant .none j pos) (eC .non) := ⟨_, pe_non, fun _ _ _ H _ _ k => k _ H (Same.refl H) .ofNon⟩
/-- a module's constant: an int, a text -/
theorem vx_gint {x : Str} {i : Int} {u : Value} (hm : X.mg x = some u) (hu : ∃ t, u = .int i t) (hg : Gl X x := by rfl) (hd : (x == ("__debug__" : Str)) = false := by decide) : VX X W S0 H0 m (.Name x pos) (eC (.int i)) :=
  ⟨_, pe_glob (v := .int i) hg hm hu hd, fun _ _ _ H _ _ k => k _ H (Same.refl H) (.ofInt i)⟩
theorem vx_gstr {x : Str} {i : Str} {u : Value} (hm : X.mg x = some u) (hu : ∃ t, u = .str i t) (hg : Gl X x := by rfl) (hd : (x == ("__debug__" : Str)) = false := by decide) : VX X W S0 H0 m (.Name x pos) (eC (.str i)) :=
  ⟨_, pe_glob (v := .str i) hg hm hu hd, fun _ _ _ H _ _ k => k _ H (Same.refl H) (.ofStr i)⟩
end

/-! ### binary operations -/
section
variable (X : Cx) (W : WX) (S0 : Addr → Prop) (H0 : Hp) (m : Md)
def OpG (r : R2) (g : D → D → M D) : Prop :=
  ∀ (ρ : Rho) (σ : Sg) (own : List Addr) (H : Hp) (Q : VK) (vx vy : V) (x y : D), Rel X.K S0 H0 ρ σ own H → RM X.K S0 H0 own .O H H vx x → RM X.K S0 H0 own .O H H vy y → PX X W S0 H0 own m H σ Q (g x y) → r vx vy H Q
def CallG (r : List V → Hp → VK → Prop) (g : List D → M D) : Prop :=
  ∀ (ρ : Rho) (σ : Sg) (own : List Addr) (H : Hp) (Q : VK) (vs : List V) (ds : List D), Rel X.K S0 H0 ρ σ own H → Paired (RM X.K S0 H0 own .O H H) vs ds → PX X W S0 H0 own m H σ Q (g ds) → r vs H Q
end
def eOp (g : D → D → M D) (a b : Rho → M D) : Rho → M D := fun ρ => M.bind (a ρ) fun x => M.bind (b ρ) fun y => g x y
section
variable {X : Cx} {W : WX} {S0 : Addr → Prop} {H0 : Hp} {m ma mb : Md} {pos : Pos} {a b : Expr} {fa fb : Rho → M D} {r : R2} {g : D → D → M D}
theorem bin_run {ta tb : TE} (qa : ∀ ρ σ own H Q, Rel X.K S0 H0 ρ σ own H → PX X W S0 H0 own ma H σ Q (fa ρ) → ta σ H Q) (qb : ∀ ρ σ own H Q, Rel X.K S0 H0 ρ σ own H → PX X W S0 H0 own mb H σ Q (fb ρ) → tb σ H Q)
    (hg : OpG X W S0 H0 m r g) : ∀ ρ σ own H Q, Rel X.K S0 H0 ρ σ own H → PX X W S0 H0 own m H σ Q (eOp g fa fb ρ) → tOp r ta tb σ H Q := by
  intro ρ σ own H Q R k
  refine qa ρ σ own H _ R ?_
  unfold eOp at k
  revert k
  cases fa ρ with
  | er => exact id
  | ex c => exact id
  | ok x =>
    intro k v H1 s1 r1
    refine qb ρ σ own H1 _ (R.grow s1) ?_
    rw [bind_ok] at k
    revert k
    cases fb ρ with
    | er => exact id
    | ex c => exact fun k => fun cv d H' i s => k cv d H' i (s1.trans s)
    | ok y =>
      intro k v2 H2 s2 r2
      exact hg ρ σ own H2 Q v v2 x y ((R.grow s1).grow s2) (r1.grow s2).toO r2.toO (PX.grow (s1.trans s2) k)
theorem vx_op {op : Operator} (ho : OpR X (binaryOp op) r) (hg : OpG X W S0 H0 m r g) (ha : VX X W S0 H0 ma a fa) (hb : VX X W S0 H0 mb b fb) : VX X W S0 H0 m (.BinOp a op b pos) (eOp g fa fb) := by
  obtain ⟨ta, pa, qa⟩ := ha.p
  obtain ⟨tb, pb, qb⟩ := hb.p
  exact ⟨_, pe_op ho pa pb, bin_run qa qb hg⟩
theorem vx_cmp {op : CmpOp} (ho : OpR X (compareOp op) r) (hg : OpG X W S0 H0 m r g) (ha : VX X W S0 H0 ma a fa) (hb : VX X W S0 H0 mb b fb) (hm : behindInMarks op b = false := by first | exact nomark _ | rfl) : VX X W S0 H0 m (.Compare a [op] [b] pos) (eOp g fa fb) := by
  obtain ⟨ta, pa, qa⟩ := ha.p
  obtain ⟨tb, pb, qb⟩ := hb.p
  exact ⟨_, pe_cmpR ho pa pb hm, bin_run qa qb hg⟩
def toB : D → M Bool
  | .bl b => .ok b
  | _ => .er
def eB (f : Rho → M D) : Rho → M Bool := fun ρ => M.bind (f ρ) toB
theorem vt_cmp {op : CmpOp} (ho : OpR X (compareOp op) r) (hg : OpG X W S0 H0 .N r g) (ha : VX X W S0 H0 ma a fa) (hb : VX X W S0 H0 mb b fb) (hm : behindInMarks op b = false := by first | exact nomark _ | rfl) : VT X W S0 H0 (.Compare a [op] [b] pos) (eB (eOp g fa fb)) := by
  obtain ⟨ta, pa, qa⟩ := ha.p
  obtain ⟨tb, pb, qb⟩ := hb.p
  refine ⟨_, pt_cmpR ho pa pb hm, fun ρ σ own H Q R k => bin_run qa qb hg ρ σ own H _ R ?_⟩
  unfold eB at k
  revert k
  cases eOp g fa fb ρ with
  | er => exact id
  | ex c => exact id
  | ok x =>
    intro k v H' s r
    cases x with
    | bl b => rw [r.isBl]; exact ⟨b, rfl, k H' s⟩
    | _ => exact k.elim
/-! ### truth, and, or, not -/
def truG : D → M Bool
  | .non => .ok false
  | .bl b => .ok b
  | .int i => .ok (i != 0)
  | .str y => if y.length ≤ sizeLine then .ok ((y.length : Int) != 0) else .er
  | .lst ds => .ok (!ds.isEmpty)
  | .tup ds => .ok (!ds.isEmpty)
  | .kt ds => .ok (!ds.isEmpty)
  | .fz ds => .ok (!ds.isEmpty)
  | .dk ds => .er
  | .dct ds => .er
  | .obj _ _ _ _ => .er
  | .pls _ _ => .er
  | .raw _ => .er
def eTr (f : Rho → M D) : Rho → M Bool := fun ρ => M.bind (f ρ) truG
theorem RpA.isEmpty {K : PySem.W.Frag} {S : Addr → Prop} {H : Hp} {xs : List V} {ds : List D} (r : RpA K S H xs ds) : xs.isEmpty = ds.isEmpty := by cases r <;> rfl
theorem tru_of {K : PySem.W.Frag} {own : List Addr} {H : Hp} {v : V} {d : D} {k : Bool} {Hb : Hp} (r : RM K S0 H0 own m Hb H v d) (h : truG d = .ok k) : TruV K v H k := by
  cases d with
  | non => rw [r.isNon]; cases h; rfl
  | bl b => rw [r.isBl]; cases h; rfl
  | int b => rw [r.isInt]; cases h; rfl
  | str y =>
    rw [r.isStr]
    have h' : (if y.length ≤ sizeLine then M.ok ((y.length : Int) != 0) else M.er) = M.ok k := h
    by_cases hl : y.length ≤ sizeLine
    · rw [if_pos hl] at h'
      cases h'
      exact ⟨hl, rfl⟩
    · rw [if_neg hl] at h'
      cases h'
  | lst ds =>
    obtain ⟨a, xs, rfl, h1, h2⟩ := r.isLst
    cases h
    exact .inl ⟨xs, .inl h1, by rw [h2.isEmpty]⟩
  | tup ds =>
    obtain ⟨a, xs, rfl, h1, h2⟩ := r.isTup
    cases h
    exact .inr (.inl ⟨xs, .inl (.inl h1), by rw [h2.isEmpty]⟩)
  | kt ds =>
    obtain ⟨a, xs, rfl, h1, h2⟩ := r.isKt
    cases h
    exact .inr (.inl ⟨xs, h1, by rw [h2.isEmpty]⟩)
  | fz ds =>
    obtain ⟨a, xs, rfl, h1, h2⟩ := r.isFz
    cases h
    exact .inl ⟨xs, h1.sq, by rw [h2.isEmpty]⟩
  | dct ds => cases h
  | dk ds => cases h
  | obj p c ns ds => cases h
  | pls p ds => cases h
  | raw a => cases h
theorem vt_tru {e : Expr} {f : Rho → M D} (h : VX X W S0 H0 m e f) (he : ∀ whole, isTrue e X.env whole = (do let v ← whole; standAt e.pos; holding [v] (truthy v)) := by intro _; rfl) : VT X W S0 H0 e (eTr f) := by
  obtain ⟨ta, pa, qa⟩ := h.p
  refine ⟨_, pt_truth pa he, fun ρ σ own H Q R k => qa ρ σ own H _ R ?_⟩
  unfold eTr at k
  revert k
  cases f ρ with
  | er => exact id
  | ex c => exact id
  | ok x =>
    intro k v H' s r
    rw [bind_ok] at k
    cases e : truG x with
    | ok b =>
      rw [e] at k
      exact ⟨b, tru_of r e, k H' s⟩
    | ex c => cases x <;> simp [truG] at e; split at e <;> cases e
    | er => rw [e] at k; exact k.elim
def eNot (f : Rho → M Bool) : Rho → M Bool := fun ρ => M.bind (f ρ) fun b => .ok (!b)
def eAnd (f g : Rho → M Bool) : Rho → M Bool := fun ρ => M.bind (f ρ) fun b => if b = true then g ρ else .ok false
def eOr (f g : Rho → M Bool) : Rho → M Bool := fun ρ => M.bind (f ρ) fun b => if b = true then .ok true else g ρ
theorem vt_not {e : Expr} {f : Rho → M Bool} (h : VT X W S0 H0 e f) : VT X W S0 H0 (.UnaryOp .Not e pos) (eNot f) := by
  obtain ⟨ta, pa, qa⟩ := h.p
  refine ⟨_, pt_not pa, fun ρ σ own H Q R k => qa ρ σ own H _ R ?_⟩
  unfold eNot at k
  revert k
  cases f ρ with
  | er => exact id
  | ex c => exact id
  | ok x => exact fun k H' s => k H' s
theorem VW.t {e : Expr} {f : Rho → M Bool} (h : VW X W S0 H0 e f) : VT X W S0 H0 e f := by
  obtain ⟨ta, pa, qa⟩ := h.p
  exact ⟨ta, pa.pt, qa⟩
theorem vw_and1 {e : Expr} {f : Rho → M Bool} (h : VT X W S0 H0 e f) : VW X W S0 H0 (.BoolOp .And [e] pos) f := by
  obtain ⟨ta, pa, qa⟩ := h.p
  exact ⟨ta, pw_and1 pa, qa⟩
theorem vw_or1 {e : Expr} {f : Rho → M Bool} (h : VT X W S0 H0 e f) : VW X W S0 H0 (.BoolOp .Or [e] pos) f := by
  obtain ⟨ta, pa, qa⟩ := h.p
  exact ⟨ta, pw_or1 pa, qa⟩
theorem vw_and {e e2 : Expr} {es : List Expr} {f g : Rho → M Bool} (h : VT X W S0 H0 e f) (h2 : VW X W S0 H0 (.BoolOp .And (e2 :: es) pos) g) : VW X W S0 H0 (.BoolOp .And (e :: e2 :: es) pos) (eAnd f g) := by
  obtain ⟨ta, pa, qa⟩ := h.p
  obtain ⟨tb, pb, qb⟩ := h2.p
  refine ⟨_, pw_and pa pb, fun ρ σ own H Q R k => qa ρ σ own H _ R ?_⟩
  unfold eAnd at k
  revert k
  cases f ρ with
  | er => exact id
  | ex c => exact id
  | ok x =>
    intro k H' s
    cases x with
    | true => exact qb ρ σ own H' Q (R.grow s) (PXT.grow s k)
    | false => exact k H' s
theorem vw_or {e e2 : Expr} {es : List Expr} {f g : Rho → M Bool} (h : VT X W S0 H0 e f) (h2 : VW X W S0 H0 (.BoolOp .Or (e2 :: es) pos) g) : VW X W S0 H0 (.BoolOp .Or (e :: e2 :: es) pos) (eOr f g) := by
  obtain ⟨ta, pa, qa⟩ := h.p
  obtain ⟨tb, pb, qb⟩ := h2.p
  refine ⟨_, pw_or pa pb, fun ρ σ own H Q R k => qa ρ σ own H _ R ?_⟩
  unfold eOr at k
  revert k
  cases f ρ with
  | er => exact id
  | ex c => exact id
  | ok x =>
    intro k H' s
    cases x with
    | true => exact k H' s
    | false => exact qb ρ σ own H' Q (R.grow s) (PXT.grow s k)
/-! ### argument lists, displays -/
def aNil : Rho → M (List D) := fun _ => .ok []
def aCons (f : Rho → M D) (g : Rho → M (List D)) : Rho → M (List D) := fun ρ => M.bind (f ρ) fun x => M.bind (g ρ) fun xs => .ok (x :: xs)
theorem va_nil : VA X W S0 H0 m [] aNil := ⟨_, pa_nil, fun _ _ _ H _ _ k => k [] H (Same.refl H) .nil⟩
theorem va_cons {e : Expr} {es : List Expr} {f : Rho → M D} {g : Rho → M (List D)} (h : VX X W S0 H0 m e f) (h2 : VA X W S0 H0 m es g) (hs : starEach (e :: es) X.env = (false, eval e X.env) :: starEach es X.env := by rfl) : VA X W S0 H0 m (e :: es) (aCons f g) := by
  obtain ⟨ta, pa, qa⟩ := h.p
  obtain ⟨tb, pb, qb⟩ := h2.p
  refine ⟨_, pa_cons pa pb hs, fun ρ σ own H Q R k => qa ρ σ own H _ R ?_⟩
  unfold aCons at k
  revert k
  cases f ρ with
  | er => exact id
  | ex c => exact id
  | ok x =>
    intro k v H1 s1 r1
    refine qb ρ σ own H1 _ (R.grow s1) ?_
    rw [bind_ok] at k
    revert k
    cases g ρ with
    | er => exact id
    | ex c => exact fun k => fun cv d H' i s => k cv d H' i (s1.trans s)
    | ok ys => exact fun k vs H2 s2 r2 => k (v :: vs) H2 (s1.trans s2) (.cons (r1.grow s2) (RMA.back s1 r2))
theorem RpA.ofP {K : PySem.W.Frag} {S : Addr → Prop} {H : Hp} {vs : List V} {ds : List D} (h : Paired (Rp K S H) vs ds) : RpA K S H vs ds := by
  induction h with
  | nil => exact .nil
  | cons a _ ih => exact .cons a ih
def eTup (f : Rho → M (List D)) : Rho → M D := fun ρ => M.bind (f ρ) fun xs => if xs.length ≤ sizeLine then .ok (.tup xs) else .er
def eLst (f : Rho → M (List D)) : Rho → M D := fun ρ => M.bind (f ρ) fun xs => if xs.length ≤ sizeLine then .ok (.lst xs) else .er
theorem vx_tup {es : List Expr} {f : Rho → M (List D)} {j : Nat} (hm : m ≠ .O) (h : VA X W S0 H0 m es f) : VX X W S0 H0 m (.Tuple es j pos) (eTup f) := by
  obtain ⟨ta, pa, qa⟩ := h.p
  refine ⟨_, pe_tup pa, fun ρ σ own H Q R k => qa ρ σ own H _ R ?_⟩
  unfold eTup at k
  revert k
  cases f ρ with
  | er => exact id
  | ex c => exact id
  | ok xs =>
    intro k vs H1 s1 r1
    rw [bind_ok] at k
    split at k
    · next hl =>
      refine ⟨by rw [Paired.length r1]; exact hl, fun p hp => k _ _ (s1.trans (same_upd hp)) ?_⟩
      have r2 := RMA.grow (same_upd (o := .tup vs) hp) r1
      cases m with
      | O => exact absurd rfl hm
      | E => exact .tup upd_same (RpA.ofP r2)
      | F => exact .tup upd_same (RpA.ofP r2)
      | N => exact .tup upd_same (RpA.ofP r2)
    · exact k.elim
theorem vx_lst {es : List Expr} {f : Rho → M (List D)} (hm : m ≠ .O) (h : VA X W S0 H0 m es f) : VX X W S0 H0 m (.List es pos) (eLst f) := by
  obtain ⟨ta, pa, qa⟩ := h.p
  refine ⟨_, pe_lst pa, fun ρ σ own H Q R k => qa ρ σ own H _ R ?_⟩
  unfold eLst at k
  revert k
  cases f ρ with
  | er => exact id
  | ex c => exact id
  | ok xs =>
    intro k vs H1 s1 r1
    rw [bind_ok] at k
    split at k
    · next hl =>
      refine ⟨by rw [Paired.length r1]; exact hl, fun p hp => k _ _ (s1.trans (same_upd hp)) ?_⟩
      have r2 := RMA.grow (same_upd (o := .lst vs) hp) r1
      have hf := sf_new (R.grow s1) hp
      cases m with
      | O => exact absurd rfl hm
      | E => exact .lst (SF.sa _ hf) upd_same (RpA.ofP r2)
      | F => exact .lst hf upd_same (RpA.ofP r2)
      | N => exact .lst ⟨s1.free hp, hf⟩ upd_same (RpA.ofP r2)
    · exact k.elim

/-! ### data without lists may be taken as new -/
mutual
def lf : D → Bool
  | .non => true
  | .bl _ => true
  | .int _ => true
  | .str _ => true
  | .tup ds => lfA ds
  | .kt ds => lfA ds
  | .lst _ => false
  | .fz _ => false
  | .dct _ => false
  | .dk _ => false
  | .obj _ _ _ _ => false
  | .pls _ _ => false
  | .raw _ => false
def lfA : List D → Bool
  | [] => true
  | d :: ds => lf d && lfA ds
end
mutual
theorem Rp.lf {K : PySem.W.Frag} {S S' : Addr → Prop} {H : Hp} : ∀ {v : V} {d : D}, Rp K S H v d → VL.lf d = true → Rp K S' H v d
  | _, _, .non, _ => .non
  | _, _, .bl b, _ => .bl b
  | _, _, .int i, _ => .int i
  | _, _, .str x, _ => .str x
  | _, _, .tup h r, e => .tup h (RpA.lf r (by simpa [VL.lf] using e))
  | _, _, .kt h r, e => .kt h (RpA.lf r (by simpa [VL.lf] using e))
  | _, _, .lst _ _ _, e => by simp [VL.lf] at e
  | _, _, .fz _ _, e => by simp [VL.lf] at e
  | _, _, .dct _ _ _, e => by simp [VL.lf] at e
  | _, _, .dk _ _ _, e => by simp [VL.lf] at e
  | _, _, .obj _ _ _ _ _ _, e => by simp [VL.lf] at e
  | _, _, .pls _ _ _, e => by simp [VL.lf] at e
  | _, _, .raw _, e => by simp [VL.lf] at e
theorem RpA.lf {K : PySem.W.Frag} {S S' : Addr → Prop} {H : Hp} : ∀ {v : List V} {d : List D}, RpA K S H v d → VL.lfA d = true → RpA K S' H v d
  | _, _, .nil, _ => .nil
  | _, _, .cons h r, e => by
    simp [VL.lfA] at e
    exact .cons (Rp.lf h e.1) (RpA.lf r e.2)
end
def eLf (f : Rho → M D) : Rho → M D := fun ρ => M.bind (f ρ) fun x => if lf x = true then .ok x else .er
theorem RM.lf {K : PySem.W.Frag} {own : List Addr} {Hb Hc H : Hp} {v : V} {d : D} (r : RM K S0 H0 own m Hb H v d) (h : VL.lf d = true) : RM K S0 H0 own .N Hc H v d := by
  rcases r.toO (Hc := Hb) with r | ⟨a, e, hm, r⟩
  · exact r.lf h
  · cases d <;> first | exact r.elim | simp [VL.lf] at h
theorem vx_lf (h : VX X W S0 H0 ma a fa) : VX X W S0 H0 .N a (eLf fa) := by
  obtain ⟨ta, pa, qa⟩ := h.p
  refine ⟨_, pa, fun ρ σ own H Q R k => qa ρ σ own H _ R ?_⟩
  unfold eLf at k
  revert k
  cases fa ρ with
  | er => exact id
  | ex c => exact id
  | ok x =>
    intro k v H' s r
    rw [bind_ok] at k
    split at k
    · next hl => exact k v H' s (r.lf hl)
    · exact k.elim
end
end VL
set_option Elab.async false
set_option linter.all false
set_option maxRecDepth 100000
/-! VL: operators, subscripts, built-in calls. -/
namespace VL
open PySem L2 PySem.Spec PyProof.Rows

/-! ### int operations -/
section
variable {X : Cx} {W : WX} {S0 : Addr → Prop} {H0 : Hp} {m : Md}
/-- r asks two ints and C of them, gives z -/
theorem opG_I {C : Int → Int → Prop} [∀ i j, Decidable (C i j)] {h : Int → Int → V} {hd : Int → Int → D} (hh : ∀ (own : List Addr) (H : Hp) i j, RM X.K S0 H0 own m H H (h i j) (hd i j)) :
    OpG X W S0 H0 m (rI C h) (fun x y => match x, y with | .int i, .int j => if C i j then .ok (hd i j) else .er | _, _ => .er) := by
  intro ρ σ own H Q vx vy x y R rx ry k
  cases x <;> try exact k.elim
  cases y <;> try exact k.elim
  rename_i i j
  have k' : PX X W S0 H0 own m H σ Q (if C i j then .ok (hd i j) else .er) := k
  by_cases c : C i j
  · rw [if_pos c] at k'
    exact ⟨i, j, rx.isInt, ry.isInt, c, k' _ H (Same.refl H) (hh own H i j)⟩
  · rw [if_neg c] at k'
    exact k'.elim
theorem opG_I0 {h : Int → Int → V} {hd : Int → Int → D} (hh : ∀ (own : List Addr) (H : Hp) i j, RM X.K S0 H0 own m H H (h i j) (hd i j)) :
    OpG X W S0 H0 m (rI0 h) (fun x y => match x, y with | .int i, .int j => .ok (hd i j) | _, _ => .er) := by
  intro ρ σ own H Q vx vy x y R rx ry k
  cases x <;> try exact k.elim
  cases y <;> try exact k.elim
  rename_i i j
  have k' : PX X W S0 H0 own m H σ Q (.ok (hd i j)) := k
  exact ⟨i, j, rx.isInt, ry.isInt, k' _ H (Same.refl H) (hh own H i j)⟩
end
def gI (f : Int → Int → D) : D → D → M D := fun x y => match x, y with | .int i, .int j => .ok (f i j) | _, _ => .er
def gIC (C : Int → Int → Prop) [∀ i j, Decidable (C i j)] (f : Int → Int → D) : D → D → M D := fun x y => match x, y with | .int i, .int j => if C i j then .ok (f i j) else .er | _, _ => .er
instance : ∀ i j, Decidable (CDiv i j) := fun i j => inferInstanceAs (Decidable (0 < j ∧ j < 1073741824))
instance : ∀ i j, Decidable (CDivN i j) := fun i j => inferInstanceAs (Decidable (j ≠ 0 ∧ j.natAbs < 1073741824))
instance : ∀ i j, Decidable (CPow i j) := fun i j => inferInstanceAs (Decidable (0 ≤ j ∧ j ≤ 1000000 ∧ i.natAbs < 2 ^ 64))
instance : ∀ i j, Decidable (CMul i j) := fun i j => inferInstanceAs (Decidable ((-(2 ^ 64) < i ∧ i < 2 ^ 64) ∨ (-(2 ^ 64) < j ∧ j < 2 ^ 64)))
section
variable {X : Cx} {W : WX} {S0 : Addr → Prop} {H0 : Hp} {m : Md} {pos : Pos} {a b : Expr} {fa fb : Rho → M D} {ma mb : Md}
def subG : D → D → M D := gI fun i j => .int (i - j)
def mulG : D → D → M D := gIC CMul fun i j => .int (i * j)
def fdivG : D → D → M D := gIC CDiv fun i j => .int (i / j)
def fdivNG : D → D → M D := gIC CDivN fun i j => .int (i.fdiv j)
def modG : D → D → M D := gIC (fun _ j => 0 < j) fun i j => .int (i % j)
def powG : D → D → M D := gIC CPow fun i j => .int (i ^ j.toNat)
def intsD : List D → Option (List Int)
  | [] => some []
  | .int i :: ds => (intsD ds).map (i :: ·)
  | _ => none
theorem RpA.intsD {K : PySem.W.Frag} {S : Addr → Prop} {H : Hp} : ∀ {vs : List V} {ds : List D} {ns : List Int}, RpA K S H vs ds → VL.intsD ds = some ns → vs = ns.map V.int
  | _, _, _, .nil, e => by cases e; rfl
  | _, d :: ds, _, .cons h r, e => by
    cases d with
    | int b =>
      cases h
      have e' : (VL.intsD ds).map (b :: ·) = some _ := e
      cases e1 : VL.intsD ds with
      | none => rw [e1] at e'; cases e'
      | some cs =>
        rw [e1] at e'
        cases e'
        rw [RpA.intsD r e1]
        rfl
    | _ => cases e
def ltG : D → D → M D := fun x y => match x, y with
  | .int i, .int j => .ok (.bl (decide (i < j)))
  | .str i, .str j => .ok (.bl (decide (i.cps.toList < j.cps.toList)))
  | .tup xs, .tup ys => (match intsD xs, intsD ys with
    | some ns, some ms => .ok (.bl (HT.lexLt ns ms))
    | _, _ => .er)
  | _, _ => .er
def rLtA (K : PySem.W.Frag) : R2 := fun x y H Q => (rI0 fun i j => .bl (decide (i < j))) x y H Q ∨ (∃ i j, x = .str i ∧ y = .str j ∧ Q (.bl (decide (i.cps.toList < j.cps.toList))) H) ∨ rLtT K x y H Q
theorem op_ltA (hu : X.A.units + 1 < cLine) : OpR X (compareOp .Lt) (rLtA X.K) := op_lt.or (op_lt_str.or (op_ltT (by omega)))
def gtG : D → D → M D := gI fun i j => .bl (decide (j < i))
def geG : D → D → M D := gI fun i j => .bl (decide (j ≤ i))
theorem vx_sub (ha : VX X W S0 H0 ma a fa) (hb : VX X W S0 H0 mb b fb) : VX X W S0 H0 m (.BinOp a .Sub b pos) (eOp subG fa fb) := vx_op op_sub (opG_I0 fun own H i j => .ofInt _) ha hb
theorem vx_mul (ha : VX X W S0 H0 ma a fa) (hb : VX X W S0 H0 mb b fb) : VX X W S0 H0 m (.BinOp a .Mult b pos) (eOp mulG fa fb) := vx_op op_mul (opG_I fun own H i j => .ofInt _) ha hb
theorem vx_fdiv (ha : VX X W S0 H0 ma a fa) (hb : VX X W S0 H0 mb b fb) : VX X W S0 H0 m (.BinOp a .FloorDiv b pos) (eOp fdivG fa fb) := vx_op op_fdiv (opG_I fun own H i j => .ofInt _) ha hb
theorem vx_fdivN (ha : VX X W S0 H0 ma a fa) (hb : VX X W S0 H0 mb b fb) : VX X W S0 H0 m (.BinOp a .FloorDiv b pos) (eOp fdivNG fa fb) := vx_op op_fdivN (opG_I fun own H i j => .ofInt _) ha hb
theorem vx_mod (ha : VX X W S0 H0 ma a fa) (hb : VX X W S0 H0 mb b fb) : VX X W S0 H0 m (.BinOp a .Mod b pos) (eOp modG fa fb) := vx_op op_mod (opG_I fun own H i j => .ofInt _) ha hb
theorem vx_pow (ha : VX X W S0 H0 ma a fa) (hb : VX X W S0 H0 mb b fb) : VX X W S0 H0 m (.BinOp a .Pow b pos) (eOp powG fa fb) := vx_op op_pow (opG_I fun own H i j => .ofInt _) ha hb
theorem og_lt : OpG X W S0 H0 m (rLtA X.K) ltG := by
  intro ρ σ own H Q vx vy x y R rx ry k
  unfold ltG at k
  split at k
  · exact .inl ⟨_, _, rx.isInt, ry.isInt, k _ H (Same.refl H) (.ofBl _)⟩
  · exact .inr (.inl ⟨_, _, rx.isStr, ry.isStr, k _ H (Same.refl H) (.ofBl _)⟩)
  · split at k
    · next ns ms e1 e2 =>
      obtain ⟨a, xs, rfl, h1, h2⟩ := rx.isTup
      obtain ⟨b, ys, rfl, h3, h4⟩ := ry.isTup
      have f1 := RpA.intsD h2 e1
      have f2 := RpA.intsD h4 e2
      subst f1 f2
      exact .inr (.inr ⟨a, b, ns, ms, rfl, rfl, SqT.of h1, SqT.of h3, k _ H (Same.refl H) (.ofBl _)⟩)
    · exact k.elim
  · exact k.elim
theorem og_gt : OpG X W S0 H0 m (rI0 fun i j => .bl (decide (j < i))) gtG := opG_I0 fun own H i j => .ofBl _
theorem og_ge : OpG X W S0 H0 m (rI0 fun i j => .bl (decide (j ≤ i))) geG := opG_I0 fun own H i j => .ofBl _
/-! ### + of ints, texts, lists -/
theorem Inv.lstR {pins : List (Addr × Obj)} {σ : Sg} {H : Hp} {s : Shared} {l : Addr} {xs : List V} (I : Inv X pins σ H s) (hH : Rd H l (.lst xs)) : xs.length ≤ sizeLine ∧ ∃ (its : List Value) (n : Nat), Vals xs its ∧ xs.length = its.length ∧ s.heap.get? l = some { cls := .type "list", data := .seq its.toArray n } := by
  obtain ⟨z, its, n, r, e⟩ := (show ObjOk X.prog X.w H s.heap l (.lst xs) from hH.ok I.hok)
  exact ⟨z, its, n, r, r.length, e⟩
def rCatR : R2 := fun x y H Q => ∃ l b xs zs, x = .ref l ∧ y = .ref b ∧ Rd H l (.lst xs) ∧ Rd H b (.lst zs) ∧ xs.length + zs.length ≤ sizeLine ∧ ∀ p, H p = none → Q (.ref p) (upd H p (.lst (xs ++ zs)))
theorem op_catR : OpR X (binaryOp .Add) rCatR := by
  intro pins s σ H x y v u Q I rx ry h
  obtain ⟨l, b, xs, zs, rfl, rfl, hH, hB, hz, q⟩ := h
  cases rx
  cases ry
  obtain ⟨z, its, n, r, hl, e⟩ := VL.Inv.lstR I hH
  obtain ⟨z2, its2, n2, r2, hl2, e2⟩ := VL.Inv.lstR I hB
  refine PySem.P.add_list e e2 ?_ (by rw [List.size_toArray, List.size_toArray]; omega)
  have ea : its.toArray ++ its2.toArray = (its ++ its2).toArray := by simp
  rw [ea]
  exact ⟨.ref _, _, I.lnew (t' := s.toks) (r.append r2) (by rw [List.length_append]; omega), rfl, q _ I.fresh⟩
/-- xs + ys of lists: their items without lists -/
def addG : D → D → M D := fun x y => match x, y with
  | .int i, .int j => .ok (.int (i + j))
  | .str a, .str b => if a.length + b.length ≤ sizeLine then .ok (.str (a ++ b)) else .er
  | .lst xs, .lst ys => if xs.length + ys.length ≤ sizeLine ∧ lfA xs = true ∧ lfA ys = true then .ok (.lst (xs ++ ys)) else .er
  | _, _ => .er
def rAddA : R2 := fun x y H Q => (rI0 fun i j => .int (i + j)) x y H Q ∨ (∃ i j, x = .str i ∧ y = .str j ∧ i.length + j.length ≤ sizeLine ∧ Q (.str (i ++ j)) H) ∨ rCatR x y H Q
theorem op_addA : OpR X (binaryOp .Add) rAddA := op_add.or (op_add_str.or op_catR)
theorem RM.newL {ρ : Rho} {σ : Sg} {own : List Addr} {H : Hp} {p : Addr} {xs : List V} {ds : List D} (R : Rel X.K S0 H0 ρ σ own H) (hp : H p = none) (r : RpA X.K (SN H H0 own) (upd H p (.lst xs)) xs ds) : RM X.K S0 H0 own .N H (upd H p (.lst xs)) (.ref p) (.lst ds) := by
  exact .lst ⟨hp, sf_new R hp⟩ upd_same r
theorem og_add : OpG X W S0 H0 .N rAddA addG := by
  intro ρ σ own H Q vx vy x y R rx ry k
  cases x with
  | int i =>
    cases y <;> try exact k.elim
    rename_i j
    have k' : PX X W S0 H0 own .N H σ Q (.ok (.int (i + j))) := k
    exact .inl ⟨i, j, rx.isInt, ry.isInt, k' _ H (Same.refl H) (.ofInt _)⟩
  | str a =>
    cases y <;> try exact k.elim
    rename_i b
    have k' : PX X W S0 H0 own .N H σ Q (if a.length + b.length ≤ sizeLine then .ok (.str (a ++ b)) else .er) := k
    by_cases c : a.length + b.length ≤ sizeLine
    · rw [if_pos c] at k'
      exact .inr (.inl ⟨a, b, rx.isStr, ry.isStr, c, k' _ H (Same.refl H) (.ofStr _)⟩)
    · rw [if_neg c] at k'
      exact k'.elim
  | lst ds =>
    cases y <;> try exact k.elim
    rename_i es
    have k' : PX X W S0 H0 own .N H σ Q (if ds.length + es.length ≤ sizeLine ∧ lfA ds = true ∧ lfA es = true then .ok (.lst (ds ++ es)) else .er) := k
    by_cases c : ds.length + es.length ≤ sizeLine ∧ lfA ds = true ∧ lfA es = true
    · rw [if_pos c] at k'
      obtain ⟨a, xs, rfl, h1, r1⟩ := rx.isLst
      obtain ⟨b, ys, rfl, h2, r2⟩ := ry.isLst
      refine .inr (.inr ⟨a, b, xs, ys, rfl, rfl, h1, h2, by rw [r1.length, r2.length]; exact c.1, fun p hp => k' _ _ (same_upd hp) ?_⟩)
      exact RM.newL R hp (((r1.lf c.2.1).append (r2.lf c.2.2)).keep (.same (same_upd hp)))
    · rw [if_neg c] at k'
      exact k'.elim
  | _ => exact k.elim
theorem VX.any (h : VX X W S0 H0 .N a fa) : VX X W S0 H0 m a fa := by
  cases m with
  | O => exact h.toO
  | E => exact h.nf.fe
  | F => exact h.nf
  | N => exact h
theorem vx_add (ha : VX X W S0 H0 ma a fa) (hb : VX X W S0 H0 mb b fb) : VX X W S0 H0 m (.BinOp a .Add b pos) (eOp addG fa fb) := VX.any (vx_op op_addA og_add ha hb)

/-! ### == and != -/
mutual
def toP : D → PyData
  | .non => .none
  | .bl b => .bool b
  | .int i => .int i
  | .str x => .str x
  | .tup ds => .tuple (toPA ds)
  | .kt ds => .tuple (toPA ds)
  | .lst ds => .list (toPA ds)
  | .fz ds => .list (toPA ds)
  | .dct _ => .dict []
  | .dk _ => .dict []
  | .obj _ _ _ _ => .dict []
  | .pls _ _ => .dict []
  | .raw _ => .dict []
def toPA : List D → List PyData
  | [] => []
  | d :: ds => toP d :: toPA ds
end
mutual
theorem Rp.dp {K : PySem.W.Frag} {S : Addr → Prop} {H : Hp} : ∀ {v : V} {d : D}, Rp K S H v d → (toP d).canLay0 = true → Dp K H v (toP d)
  | _, _, .non, _ => .non
  | _, _, .bl b, _ => .bl b
  | _, _, .int i, _ => .int i
  | _, _, .str x, _ => .str x
  | _, _, .tup h r, e => .tup (SqT.of h) (RpA.dp r (by simpa [toP, PyData.canLay0] using e))
  | _, _, .kt h r, e => .tup (.inr h) (RpA.dp r (by simpa [toP, PyData.canLay0] using e))
  | _, _, .lst _ h r, e => .lst (.inl (.inl h)) (RpA.dp r (by simpa [toP, PyData.canLay0] using e))
  | _, _, .fz h r, e => .lst h.sq (RpA.dp r (by simpa [toP, PyData.canLay0] using e))
  | _, _, .dct _ _ _, e => by simp [toP, PyData.canLay0] at e
  | _, _, .dk _ _ _, e => by simp [toP, PyData.canLay0] at e
  | _, _, .obj _ _ _ _ _ _, e => by simp [toP, PyData.canLay0] at e
  | _, _, .pls _ _ _, e => by simp [toP, PyData.canLay0] at e
  | _, _, .raw _, e => by simp [toP, PyData.canLay0] at e
theorem RpA.dp {K : PySem.W.Frag} {S : Addr → Prop} {H : Hp} : ∀ {v : List V} {d : List D}, RpA K S H v d → PyData.canLayAll0 (toPA d) = true → DpAll K H v (toPA d)
  | _, _, .nil, _ => .nil
  | _, _, .cons h r, e => by
    simp [toPA, PyData.canLayAll0] at e
    exact .cons (Rp.dp h e.1) (RpA.dp r e.2)
end
theorem RM.dp {own : List Addr} {Hb H : Hp} {v : V} {d : D} (r : RM X.K S0 H0 own m Hb H v d) (h : SeqAt.shaped (toP d) = true) : Dp X.K H v (toP d) := by
  have c : (toP d).canLay0 = true := SeqAt.canLay_of_shaped h
  rcases r.toO (Hc := Hb) with r | ⟨a, rfl, hm, r⟩
  · exact r.dp c
  · cases d with
    | lst ds => obtain ⟨xs, e, r⟩ := r; exact .lst (SqL.of e) (r.dp (by simpa [toP, PyData.canLay0] using c))
    | dct ds => simp [toP, PyData.canLay0] at c
    | dk ds => simp [toP, PyData.canLay0] at c
    | obj p c2 ns ds => simp [toP, PyData.canLay0] at c
    | pls p ds => simp [toP, PyData.canLay0] at c
    | _ => exact r.elim
def eqG : D → D → M D := fun x y => match x, y with
  | .non, .non => .ok (.bl true)
  | .int i, .int j => .ok (.bl (decide (i = j)))
  | .bl i, .bl j => .ok (.bl (decide (i = j)))
  | .str i, .str j => .ok (.bl (decide (i = j)))
  | x, y => if SeqAt.shaped (toP x) = true ∧ SeqAt.shaped (toP y) = true then .ok (.bl (PyData.eqv (toP x) (toP y))) else .er
def rEqA (K : PySem.W.Frag) : R2 := fun x y H Q => rEq x y H Q ∨ rEqD K x y H Q
theorem dec_iff {p q : Prop} [Decidable p] [Decidable q] (h : p ↔ q) : decide p = decide q := by
  by_cases c : p
  · rw [decide_eq_true c, decide_eq_true (h.mp c)]
  · rw [decide_eq_false c, decide_eq_false (fun z => c (h.mpr z))]
theorem og_eq : OpG X W S0 H0 m (rEqA X.K) eqG := by
  intro ρ σ own H Q vx vy x y R rx ry k
  have deep : (∀ b, (if SeqAt.shaped (toP x) = true ∧ SeqAt.shaped (toP y) = true then M.ok (D.bl (PyData.eqv (toP x) (toP y))) else M.er) = b → PX X W S0 H0 own m H σ Q b) → rEqA X.K vx vy H Q := fun k => by
    have k := k _ rfl
    by_cases c : SeqAt.shaped (toP x) = true ∧ SeqAt.shaped (toP y) = true
    · rw [if_pos c] at k
      exact .inr ⟨_, _, rx.dp c.1, ry.dp c.2, c.1, c.2, k _ H (Same.refl H) (.ofBl _)⟩
    · rw [if_neg c] at k
      exact k.elim
  unfold eqG at k
  split at k
  · rw [rx.isNon, ry.isNon]
    exact .inl ⟨rfl, k _ H (Same.refl H) (.ofBl _)⟩
  · next i j =>
    rw [rx.isInt, ry.isInt]
    refine .inl ⟨rfl, k _ H (Same.refl H) ?_⟩
    rw [dec_iff (p := V.int i = V.int j) (q := i = j) ⟨fun e => V.int.inj e, fun e => by rw [e]⟩]
    exact .ofBl _
  · next i j =>
    rw [rx.isBl, ry.isBl]
    refine .inl ⟨rfl, k _ H (Same.refl H) ?_⟩
    rw [dec_iff (p := V.bl i = V.bl j) (q := i = j) ⟨fun e => V.bl.inj e, fun e => by rw [e]⟩]
    exact .ofBl _
  · next i j =>
    rw [rx.isStr, ry.isStr]
    refine .inl ⟨rfl, k _ H (Same.refl H) ?_⟩
    rw [dec_iff (p := V.str i = V.str j) (q := i = j) ⟨fun e => V.str.inj e, fun e => by rw [e]⟩]
    exact .ofBl _
  · exact deep fun b e => by rw [← e]; exact k
theorem op_eqA (hu : X.A.units + 64 < cLine) : OpR X (compareOp .Eq) (rEqA X.K) := op_eq.or (op_eqD hu)
def notM : M D → M D := fun r => M.bind r fun x => match x with | .bl b => .ok (.bl (!b)) | _ => .er
def neG : D → D → M D := fun x y => notM (eqG x y)
def rNeA (K : PySem.W.Frag) : R2 := fun x y H Q => rNe x y H Q ∨ rNeD K x y H Q
theorem op_neA (hu : X.A.units + 64 < cLine) : OpR X (compareOp .NotEq) (rNeA X.K) := op_ne.or (op_neD hu)
theorem og_ne : OpG X W S0 H0 m (rNeA X.K) neG := by
  intro ρ σ own H Q vx vy x y R rx ry k
  have e := og_eq (X := X) (W := W) (m := m) ρ σ own H (fun v H' => H' = H ∧ ∃ b, v = .bl b ∧ Q (.bl (!b)) H) vx vy x y R rx ry
  have h : rEqA X.K vx vy H (fun v H' => H' = H ∧ ∃ b, v = .bl b ∧ Q (.bl (!b)) H) → rNeA X.K vx vy H Q := by
    rintro (⟨h1, -, b, h2, h3⟩ | ⟨d, e, h1, h2, h3, h4, -, b, h5, h6⟩)
    · cases h2
      exact .inl ⟨h1, h3⟩
    · cases h5
      exact .inr ⟨d, e, h1, h2, h3, h4, h6⟩
  unfold neG notM at k
  unfold eqG at k
  split at k
  · rw [rx.isNon, ry.isNon]
    exact .inl ⟨rfl, k _ H (Same.refl H) (.ofBl _)⟩
  · next i j =>
    rw [rx.isInt, ry.isInt]
    refine .inl ⟨rfl, k _ H (Same.refl H) ?_⟩
    rw [dec_iff (p := V.int i = V.int j) (q := i = j) ⟨fun e => V.int.inj e, fun e => by rw [e]⟩]
    exact .ofBl _
  · next i j =>
    rw [rx.isBl, ry.isBl]
    refine .inl ⟨rfl, k _ H (Same.refl H) ?_⟩
    rw [dec_iff (p := V.bl i = V.bl j) (q := i = j) ⟨fun e => V.bl.inj e, fun e => by rw [e]⟩]
    exact .ofBl _
  · next i j =>
    rw [rx.isStr, ry.isStr]
    refine .inl ⟨rfl, k _ H (Same.refl H) ?_⟩
    rw [dec_iff (p := V.str i = V.str j) (q := i = j) ⟨fun e => V.str.inj e, fun e => by rw [e]⟩]
    exact .ofBl _
  · by_cases c : SeqAt.shaped (toP x) = true ∧ SeqAt.shaped (toP y) = true
    · rw [if_pos c] at k
      exact .inr ⟨_, _, rx.dp c.1, ry.dp c.2, c.1, c.2, k _ H (Same.refl H) (.ofBl _)⟩
    · rw [if_neg c] at k
      exact k.elim
/-- x is None -/
def isNonD : D → Bool
  | .non => true
  | _ => false
def isNG : D → D → M D := fun x y => match y with | .non => .ok (.bl (isNonD x)) | _ => .er
theorem RM.decN {own : List Addr} {Hb H : Hp} {v : V} {d : D} (r : RM X.K S0 H0 own m Hb H v d) : decide (v = .non) = isNonD d := by
  rcases r.toO (Hc := Hb) with r | ⟨a, rfl, hm, r⟩
  · cases r <;> rfl
  · cases d <;> first | exact r.elim | rfl
theorem og_isN : OpG X W S0 H0 m (fun x y H Q => y = .non ∧ Q (.bl (decide (x = .non))) H) isNG := by
  intro ρ σ own H Q vx vy x y R rx ry k
  cases y <;> try exact k.elim
  refine ⟨ry.isNon, ?_⟩
  rw [rx.decN]
  exact PX.ok' k
where
  PX.ok' {own : List Addr} {H : Hp} {σ : Sg} {Q : VK} {b : Bool} (k : PX X W S0 H0 own m H σ Q (.ok (.bl b))) : Q (.bl b) H := k _ H (Same.refl H) (.ofBl b)
/-! ### subscripts -/
theorem RpA.atI {K : PySem.W.Frag} {S : Addr → Prop} {H : Hp} {vs : List V} {ds : List D} {i : Int} {d : D} (r : RpA K S H vs ds) (e : atI ds i = some d) : ∃ v, atI vs i = some v ∧ Rp K S H v d := by
  unfold L2.atI at e ⊢
  rw [r.length]
  cases h : ixN ds.length i with
  | none => rw [h] at e; cases e
  | some j =>
    rw [h] at e
    exact r.get (by simpa using e)
def keyOf1 : D → Option Key
  | .int i => some (.inl i)
  | .str x => some (.inr x)
  | _ => none
def keyOf : List D → Option (List Key)
  | [] => some []
  | d :: ds => match keyOf1 d, keyOf ds with
    | some k, some ks => some (k :: ks)
    | _, _ => none
def lookT (kvs : List (List Key × D)) (k : List Key) : Option D := (kvs.find? fun kv => decide (kv.1 = k)).map (·.2)
def lookK (kvs : List (Key × D)) (k : Key) : Option D := (kvs.find? fun kv => decide (kv.1 = k)).map (·.2)
theorem RpA.keys {K : PySem.W.Frag} {S : Addr → Prop} {H : Hp} : ∀ {vs : List V} {ds : List D} {ks : List Key}, RpA K S H vs ds → keyOf ds = some ks → vs = ks.map kV
  | _, _, _, .nil, e => by cases e; rfl
  | _, d :: ds, _, .cons h r, e => by
    unfold keyOf at e
    split at e
    · next k ks e1 e2 =>
      cases e
      rw [RpA.keys r e2]
      cases d <;> cases e1 <;> cases h <;> rfl
    · cases e
theorem RpT.look {K : PySem.W.Frag} {S : Addr → Prop} {H : Hp} (k : List Key) : ∀ {vs : List (List Key × V)} {ds : List (List Key × D)}, RpT K S H vs ds → (∀ d, lookT ds k = some d → ∃ v, valV vs k = some v ∧ Rp K S H v d) ∧ (lookT ds k = none → valV vs k = none)
  | _, _, .nil => ⟨fun d e => (nomatch e), fun _ => rfl⟩
  | (k1, v) :: vs, (_, d) :: ds, .cons h r => by
    by_cases e : k1 = k
    · rw [valV_pos (p := (k1, v)) e]
      unfold lookT
      rw [List.find?_cons, decide_eq_true e]
      exact ⟨fun d e => (by cases e; exact ⟨v, rfl, h⟩), fun e => (nomatch e)⟩
    · rw [valV_neg (p := (k1, v)) e]
      unfold lookT
      rw [List.find?_cons, decide_eq_false e]
      exact RpT.look k r
theorem RpK.look {K : PySem.W.Frag} {S : Addr → Prop} {H : Hp} (k : Key) : ∀ {vs : List (Key × V)} {ds : List (Key × D)}, RpK K S H vs ds → (∀ d, lookK ds k = some d → ∃ v, valV vs k = some v ∧ Rp K S H v d) ∧ (lookK ds k = none → valV vs k = none)
  | _, _, .nil => ⟨fun d e => (nomatch e), fun _ => rfl⟩
  | (k1, v) :: vs, (_, d) :: ds, .cons h r => by
    by_cases e : k1 = k
    · rw [valV_pos (p := (k1, v)) e]
      unfold lookK
      rw [List.find?_cons, decide_eq_true e]
      exact ⟨fun d e => (by cases e; exact ⟨v, rfl, h⟩), fun e => (nomatch e)⟩
    · rw [valV_neg (p := (k1, v)) e]
      unfold lookK
      rw [List.find?_cons, decide_eq_false e]
      exact RpK.look k r
def rIxA (K : PySem.W.Frag) : R2 := fun x y H Q => rIx K x y H Q ∨ ∃ a v, x = .ref a ∧ DGet H a y (some v) ∧ Q v H
theorem ix_dict (hu : X.A.units + 1 < cLine) : IxR X (fun x y H Q => ∃ a v, x = .ref a ∧ DGet H a y (some v) ∧ Q v H) := by
  intro value slice pins s σ H x y v u Q I rx ry h hs
  obtain ⟨a, z, rfl, g, q⟩ := h
  cases rx
  exact tail_any (dict_typeIs I g) PySem.F.slot_dict_getitem.lookup (d_getItem hu I g ry fun w' s3 I3 rw' => ⟨z, H, I3, rw', q⟩) hs
theorem ix_all (hu : X.A.units + 1 < cLine) : IxR X (rIxA X.K) := ix_seq.or (ix_dict hu)
def idxG : D → D → M D := fun x y => match x, y with
  | .lst ds, .int i => match atI ds i with | some d => .ok d | none => .er
  | .fz ds, .int i => match atI ds i with | some d => .ok d | none => .er
  | .tup ds, .int i => match atI ds i with | some d => .ok d | none => .er
  | .kt ds, .int i => match atI ds i with | some d => .ok d | none => .er
  | .str z, .int i => if z.length ≤ sizeLine then (match atI z.cps.toList i with | some c => .ok (.str ⟨#[c]⟩) | none => .er) else .er
  | .dct kvs, .tup ds => match keyOf ds with
    | some ks => (match lookT kvs ks with | some d => .ok d | none => .er)
    | none => .er
  | .dk kvs, d => match keyOf1 d with
    | some k => (match lookK kvs k with | some d => .ok d | none => .er)
    | none => .er
  | _, _ => .er
theorem key_v {own : List Addr} {Hb H : Hp} {v : V} {d : D} {k : Key} (r : RM X.K S0 H0 own m Hb H v d) (e : keyOf1 d = some k) : v = kV k := by
  cases d <;> cases e
  · exact r.isInt
  · exact r.isStr
theorem og_idx : OpG X W S0 H0 .E (rIxA X.K) idxG := by
  intro ρ σ own H Q vx vy x y R rx ry k
  unfold idxG at k
  split at k
  · next ds i =>
    split at k
    · next d e =>
      obtain ⟨a, xs, rfl, h1, h2⟩ := rx.isLst
      obtain ⟨v, e1, e2⟩ := h2.atI e
      exact .inl (.inl ⟨a, xs, i, v, rfl, ry.isInt, .inl h1, e1, k v H (Same.refl H) e2⟩)
    · exact k.elim
  · next ds i =>
    split at k
    · next d e =>
      obtain ⟨a, xs, rfl, h1, h2⟩ := rx.isFz
      obtain ⟨v, e1, e2⟩ := h2.atI e
      exact .inl (.inl ⟨a, xs, i, v, rfl, ry.isInt, h1.sq, e1, k v H (Same.refl H) e2⟩)
    · exact k.elim
  · next ds i =>
    split at k
    · next d e =>
      obtain ⟨a, xs, rfl, h1, h2⟩ := rx.isTup
      obtain ⟨v, e1, e2⟩ := h2.atI e
      exact .inl (.inr (.inl ⟨a, xs, i, v, rfl, ry.isInt, SqT.of h1, e1, k v H (Same.refl H) e2⟩))
    · exact k.elim
  · next ds i =>
    split at k
    · next d e =>
      obtain ⟨a, xs, rfl, h1, h2⟩ := rx.isKt
      obtain ⟨v, e1, e2⟩ := h2.atI e
      exact .inl (.inr (.inl ⟨a, xs, i, v, rfl, ry.isInt, h1, e1, k v H (Same.refl H) e2⟩))
    · exact k.elim
  · next z i =>
    split at k
    · next hl =>
      split at k
      · next c e => exact .inl (.inr (.inr ⟨z, i, c, rx.isStr, ry.isInt, hl, e, k _ H (Same.refl H) (.ofStr _)⟩))
      · exact k.elim
    · exact k.elim
  · next kvs ds =>
    split at k
    · next ks ek =>
      split at k
      · next d e =>
        obtain ⟨a, xs, rfl, h1, h2⟩ := rx.isDct
        obtain ⟨b, ys, rfl, h3, h4⟩ := ry.isTup
        obtain ⟨v, e1, e2⟩ := (h2.look ks).1 d e
        refine .inr ⟨a, v, rfl, .inr ⟨xs, ks, b, h1, rfl, ?_, e1.symm⟩, k v H (Same.refl H) e2⟩
        rw [← h4.keys ek]
        exact h3
      · exact k.elim
    · exact k.elim
  · next kvs d =>
    split at k
    · next ks ek =>
      split at k
      · next d e =>
        obtain ⟨a, xs, rfl, h1, h2⟩ := rx.isDk
        obtain ⟨v, e1, e2⟩ := (h2.look ks).1 d e
        exact .inr ⟨a, v, rfl, .inl ⟨xs, ks, h1, key_v ry ek, e1.symm⟩, k v H (Same.refl H) e2⟩
      · exact k.elim
    · exact k.elim
  · exact k.elim
theorem vx_ix (hu : X.A.units + 1 < cLine) (ha : VX X W S0 H0 ma a fa) (hb : VX X W S0 H0 mb b fb) (hs : PlainIx b := by intro _ _; rfl) : VX X W S0 H0 .E (.Subscript a b pos) (eOp idxG fa fb) := by
  obtain ⟨ta, pa, qa⟩ := ha.p
  obtain ⟨tb, pb, qb⟩ := hb.p
  exact ⟨_, pe_ix (ix_all hu) pa pb hs, bin_run qa qb og_idx⟩

/-! ### built-in calls by their name -/
def eBlt (g : List D → M D) (fa : Rho → M (List D)) : Rho → M D := fun ρ => M.bind (fa ρ) g
theorem vx_callB {r : List V → Hp → VK → Prop} {g : List D → M D} {idn : String} {x : Str} {p : Pos} {e : Expr} {es : List Expr} {f : Rho → M (List D)} (hc : CallR X (.builtin idn) r) (hg : CallG X W S0 H0 m r g) (hm : X.mg x = none) (hv : bootBuiltins x = some (.builtin idn))
    (ha : VA X W S0 H0 .O (e :: es) f) (hgl : Gl X x := by rfl) (hdb : (x == ("__debug__" : Str)) = false := by decide) (hn : x ≠ "__name__" := by decide) (he : starEach (e :: es) X.env = (false, eval e X.env) :: starEach es X.env := by rfl) (hpl : (backTo pos (starEach es X.env)).any (·.1) = false := by rfl) :
    VX X W S0 H0 m (.Call (.Name x p) (e :: es) [] pos) (eBlt g f) := by
  obtain ⟨ta, pa, qa⟩ := ha.p
  refine ⟨_, pe_callB hc hgl hm hv pa hn hdb he hpl, fun ρ σ own H Q R k => qa ρ σ own H _ R ?_⟩
  unfold eBlt at k
  revert k
  cases f ρ with
  | er => exact id
  | ex c => exact id
  | ok ds => exact fun k vs H' s r => hg ρ σ own H' Q vs ds (R.grow s) r (PX.grow s k)
theorem vx_callTy {r : List V → Hp → VK → Prop} {g : List D → M D} {T : String} {x : Str} {p : Pos} {e : Expr} {es : List Expr} {f : Rho → M (List D)} (hc : CallR X (.type T) r) (hg : CallG X W S0 H0 m r g) (hm : X.mg x = none) (hv : bootBuiltins x = some (.type T))
    (ha : VA X W S0 H0 .O (e :: es) f) (hgl : Gl X x := by rfl) (hdb : (x == ("__debug__" : Str)) = false := by decide) (hn : x ≠ "__name__" := by decide) (he : starEach (e :: es) X.env = (false, eval e X.env) :: starEach es X.env := by rfl) (hpl : (backTo pos (starEach es X.env)).any (·.1) = false := by rfl) :
    VX X W S0 H0 m (.Call (.Name x p) (e :: es) [] pos) (eBlt g f) := by
  obtain ⟨ta, pa, qa⟩ := ha.p
  refine ⟨_, pe_callTy hc hgl hm hv pa hn hdb he hpl, fun ρ σ own H Q R k => qa ρ σ own H _ R ?_⟩
  unfold eBlt at k
  revert k
  cases f ρ with
  | er => exact id
  | ex c => exact id
  | ok ds => exact fun k vs H' s r => hg ρ σ own H' Q vs ds (R.grow s) r (PX.grow s k)
theorem pair1 {F : V → D → Prop} {vs : List V} {d : D} (h : Paired F vs [d]) : ∃ v, vs = [v] ∧ F v d := by
  cases h with
  | cons a r => cases r; exact ⟨_, rfl, a⟩
theorem pair2 {F : V → D → Prop} {vs : List V} {d e : D} (h : Paired F vs [d, e]) : ∃ v w, vs = [v, w] ∧ F v d ∧ F w e := by
  cases h with
  | cons a r => cases r with
    | cons b r => cases r; exact ⟨_, _, rfl, a, b⟩
def lenG : List D → M D := fun xs => match xs with
  | [.lst ds] => .ok (.int ds.length)
  | [.fz ds] => .ok (.int ds.length)
  | [.tup ds] => .ok (.int ds.length)
  | [.kt ds] => .ok (.int ds.length)
  | [.str z] => if z.length ≤ sizeLine then .ok (.int z.length) else .er
  | _ => .er
theorem cg_len : CallG X W S0 H0 m (fun xs H Q => ∃ x n, xs = [x] ∧ LenV X.K x H n ∧ Q (.int n) H) lenG := by
  intro ρ σ own H Q vs ds R r k
  unfold lenG at k
  split at k
  · obtain ⟨v, rfl, r1⟩ := pair1 r
    obtain ⟨a, xs, rfl, h1, h2⟩ := r1.isLst
    exact ⟨_, _, rfl, .inl ⟨xs, .inl h1, rfl⟩, by rw [h2.length]; exact k _ H (Same.refl H) (.ofInt _)⟩
  · obtain ⟨v, rfl, r1⟩ := pair1 r
    obtain ⟨a, xs, rfl, h1, h2⟩ := r1.isFz
    exact ⟨_, _, rfl, .inl ⟨xs, h1.sq, rfl⟩, by rw [h2.length]; exact k _ H (Same.refl H) (.ofInt _)⟩
  · obtain ⟨v, rfl, r1⟩ := pair1 r
    obtain ⟨a, xs, rfl, h1, h2⟩ := r1.isTup
    exact ⟨_, _, rfl, .inr ⟨xs, SqT.of h1, rfl⟩, by rw [h2.length]; exact k _ H (Same.refl H) (.ofInt _)⟩
  · obtain ⟨v, rfl, r1⟩ := pair1 r
    obtain ⟨a, xs, rfl, h1, h2⟩ := r1.isKt
    exact ⟨_, _, rfl, .inr ⟨xs, h1, rfl⟩, by rw [h2.length]; exact k _ H (Same.refl H) (.ofInt _)⟩
  · next z =>
    split at k
    · next hl =>
      obtain ⟨v, rfl, r1⟩ := pair1 r
      rw [r1.isStr]
      exact ⟨_, _, rfl, ⟨hl, rfl⟩, k _ H (Same.refl H) (.ofInt _)⟩
    · exact k.elim
  · exact k.elim
def absG : List D → M D := fun xs => match xs with
  | [.int i] => .ok (.int (if i < 0 then -i else i))
  | _ => .er
theorem cg_abs : CallG X W S0 H0 m (fun xs H Q => ∃ i, xs = [.int i] ∧ Q (.int (if i < 0 then -i else i)) H) absG := by
  intro ρ σ own H Q vs ds R r k
  unfold absG at k
  split at k
  · obtain ⟨v, rfl, r1⟩ := pair1 r
    rw [r1.isInt]
    exact ⟨_, rfl, k _ H (Same.refl H) (.ofInt _)⟩
  · exact k.elim
/-- list(xs), tuple(xs): a new one, the items without lists -/
def listG : List D → M D := fun xs => match xs with
  | [.lst ds] => if lfA ds = true then .ok (.lst ds) else .er
  | [.tup ds] => if lfA ds = true then .ok (.lst ds) else .er
  | _ => .er
theorem cg_list : CallG X W S0 H0 .N (fun xs H Q => ∃ p ys, xs = [.ref p] ∧ (SqL X.K H p ys ∨ SqT X.K H p ys) ∧ ∀ l, H l = none → Q (.ref l) (upd H l (.lst ys))) listG := by
  intro ρ σ own H Q vs ds R r k
  unfold listG at k
  split at k
  · split at k
    · next hl =>
      obtain ⟨v, rfl, r1⟩ := pair1 r
      obtain ⟨a, xs, rfl, h1, h2⟩ := r1.isLst
      exact ⟨_, _, rfl, .inl (.inl h1), fun p hp => k _ _ (same_upd hp) (RM.newL R hp ((h2.lf hl).keep (.same (same_upd hp))))⟩
    · exact k.elim
  · split at k
    · next hl =>
      obtain ⟨v, rfl, r1⟩ := pair1 r
      obtain ⟨a, xs, rfl, h1, h2⟩ := r1.isTup
      exact ⟨_, _, rfl, .inr (SqT.of h1), fun p hp => k _ _ (same_upd hp) (RM.newL R hp ((h2.lf hl).keep (.same (same_upd hp))))⟩
    · exact k.elim
  · exact k.elim
def tupleG : List D → M D := fun xs => match xs with
  | [.lst ds] => if lfA ds = true then .ok (.tup ds) else .er
  | [.tup ds] => if lfA ds = true then .ok (.tup ds) else .er
  | _ => .er
theorem cg_tuple : CallG X W S0 H0 .N (fun xs H Q => ∃ p ys, xs = [.ref p] ∧ ((SqL X.K H p ys ∧ ∀ l, H l = none → Q (.ref l) (upd H l (.tup ys))) ∨ (SqT X.K H p ys ∧ Q (.ref p) H))) tupleG := by
  intro ρ σ own H Q vs ds R r k
  unfold tupleG at k
  split at k
  · split at k
    · next hl =>
      obtain ⟨v, rfl, r1⟩ := pair1 r
      obtain ⟨a, xs, rfl, h1, h2⟩ := r1.isLst
      refine ⟨_, _, rfl, .inl ⟨.inl h1, fun p hp => k _ _ (same_upd hp) ?_⟩⟩
      exact Rp.tup upd_same ((h2.lf hl).keep (.same (same_upd hp)))
    · exact k.elim
  · split at k
    · next hl =>
      obtain ⟨v, rfl, r1⟩ := pair1 r
      obtain ⟨a, xs, rfl, h1, h2⟩ := r1.isTup
      exact ⟨_, _, rfl, .inr ⟨SqT.of h1, k _ H (Same.refl H) (Rp.tup h1 (h2.lf hl))⟩⟩
    · exact k.elim
  · exact k.elim
end
end VL
set_option Elab.async false
set_option linter.all false
set_option maxRecDepth 100000
/-! VL: statements, loops, a def's contract. -/
namespace VL
open PySem L2 PySem.Spec PyProof.Rows

inductive Res where
  | nx (ρ : Rho) | rt (d : D) | bk (ρ : Rho) | ct (ρ : Rho) | ex (c : Xc) (ρ : Rho) | er
  | rs (d : D) (ρ : Rho)
section
variable (X : Cx) (W : WX) (S0 : Addr → Prop) (H0 : Hp) (rm : Md) (own : List Addr) (H : Hp)
def PSt (D : Ends) : Res → Prop
  | .nx ρ' => ∀ σ' own' H', Rel X.K S0 H0 ρ' σ' own' H' → Fra own H own' H' → D.nx σ' H'
  | .rt d => ∀ v own' H', RM X.K S0 H0 own' rm H0 H' v d → Fra own H own' H' → D.rt v H'
  | .bk ρ' => ∀ σ' own' H', Rel X.K S0 H0 ρ' σ' own' H' → Fra own H own' H' → D.bk σ' H'
  | .ct ρ' => ∀ σ' own' H', Rel X.K S0 H0 ρ' σ' own' H' → Fra own H own' H' → D.ct σ' H'
  | .ex c ρ' => ∀ cv d σ' own' H', IsCls X.mg c cv d → Rel X.K S0 H0 ρ' σ' own' H' → Fra own H own' H' → W cv d σ' H'
  | .er => False
  | .rs d ρ' => ∀ v σ' own' H', RM X.K S0 H0 own' rm H0 H' v d → Rel X.K S0 H0 ρ' σ' own' H' → Fra own H own' H' → D.rt v H'
end
structure VS (X : Cx) (W : WX) (S0 : Addr → Prop) (H0 : Hp) (rm : Md) (st : Stmt) (f : Rho → Res) : Prop where
  p : ∃ ts, PS X st ts ∧ ∀ ρ σ own H D, Rel X.K S0 H0 ρ σ own H → PSt X W S0 H0 rm own H D (f ρ) → ts D σ H
structure VSs (X : Cx) (W : WX) (S0 : Addr → Prop) (H0 : Hp) (rm : Md) (st : List Stmt) (f : Rho → Res) : Prop where
  p : ∃ ts, PSs X st ts ∧ ∀ ρ σ own H D, Rel X.K S0 H0 ρ σ own H → PSt X W S0 H0 rm own H D (f ρ) → ts D σ H

def ofM (ρ : Rho) (k : D → Res) : M D → Res
  | .ok d => k d
  | .ex c => .ex c ρ
  | .er => .er
def ofMB (ρ : Rho) (k : Bool → Res) : M Bool → Res
  | .ok d => k d
  | .ex c => .ex c ρ
  | .er => .er
@[simp] theorem ofM_ok (ρ : Rho) (k : D → Res) (d : D) : ofM ρ k (.ok d) = k d := rfl
@[simp] theorem ofM_ex (ρ : Rho) (k : D → Res) (c : Xc) : ofM ρ k (.ex c) = .ex c ρ := rfl
@[simp] theorem ofM_er (ρ : Rho) (k : D → Res) : ofM ρ k .er = .er := rfl
@[simp] theorem ofMB_ok (ρ : Rho) (k : Bool → Res) (d : Bool) : ofMB ρ k (.ok d) = k d := rfl
@[simp] theorem ofMB_ex (ρ : Rho) (k : Bool → Res) (c : Xc) : ofMB ρ k (.ex c) = .ex c ρ := rfl
@[simp] theorem ofMB_er (ρ : Rho) (k : Bool → Res) : ofMB ρ k .er = .er := rfl
def sNil : Rho → Res := fun ρ => .nx ρ
def thenR (r : Res) (g : Rho → Res) : Res := match r with
  | .nx ρ' => g ρ'
  | .rt d => .rt d
  | .bk ρ' => .bk ρ'
  | .ct ρ' => .ct ρ'
  | .ex c ρ' => .ex c ρ'
  | .er => .er
  | .rs d ρ' => .rs d ρ'
@[simp] theorem then_rs (d : D) (ρ : Rho) (g : Rho → Res) : thenR (.rs d ρ) g = .rs d ρ := rfl
@[simp] theorem then_nx (ρ : Rho) (g : Rho → Res) : thenR (.nx ρ) g = g ρ := rfl
@[simp] theorem then_rt (d : D) (g : Rho → Res) : thenR (.rt d) g = .rt d := rfl
@[simp] theorem then_bk (ρ : Rho) (g : Rho → Res) : thenR (.bk ρ) g = .bk ρ := rfl
@[simp] theorem then_ct (ρ : Rho) (g : Rho → Res) : thenR (.ct ρ) g = .ct ρ := rfl
@[simp] theorem then_ex (c : Xc) (ρ : Rho) (g : Rho → Res) : thenR (.ex c ρ) g = .ex c ρ := rfl
@[simp] theorem then_er (g : Rho → Res) : thenR .er g = .er := rfl
def sSeq (f g : Rho → Res) : Rho → Res := fun ρ => thenR (f ρ) g
def sIf (c : Rho → M Bool) (f g : Rho → Res) : Rho → Res := fun ρ => ofMB ρ (fun b => if b = true then f ρ else g ρ) (c ρ)
def sRet (f : Rho → M D) : Rho → Res := fun ρ => ofM ρ (fun d => .rt d) (f ρ)
def sDrop (f : Rho → M D) : Rho → Res := fun ρ => ofM ρ (fun _ => .nx ρ) (f ρ)
def sSh (i : Nat) (f : Rho → M D) : Rho → Res := fun ρ => ofM ρ (fun d => .nx (ρ.set i (.sh d))) (f ρ)
def sFr (i : Nat) (f : Rho → M D) : Rho → Res := fun ρ => ofM ρ (fun d => .nx (ρ.set i (.fr d))) (f ρ)
def lfT : List (List Key × D) → Bool
  | [] => true
  | d :: ds => lf d.2 && lfT ds
def lfK : List (Key × D) → Bool
  | [] => true
  | d :: ds => lf d.2 && lfK ds
theorem RpT.lf {K : PySem.W.Frag} {S S' : Addr → Prop} {H : Hp} : ∀ {v : List (List Key × V)} {d : List (List Key × D)}, RpT K S H v d → VL.lfT d = true → RpT K S' H v d
  | _, _, .nil, _ => .nil
  | _, _, .cons h r, e => by
    simp [VL.lfT] at e
    exact .cons (h.lf e.1) (RpT.lf r e.2)
theorem RpK.lf {K : PySem.W.Frag} {S S' : Addr → Prop} {H : Hp} : ∀ {v : List (Key × V)} {d : List (Key × D)}, RpK K S H v d → VL.lfK d = true → RpK K S' H v d
  | _, _, .nil, _ => .nil
  | _, _, .cons h r, e => by
    simp [VL.lfK] at e
    exact .cons (h.lf e.1) (RpK.lf r e.2)
/-- a list or dict whose items are without lists -/
def isMut : D → Bool
  | .lst ds => lfA ds
  | .dct ds => lfT ds
  | .dk ds => lfK ds
  | _ => false
def sOw (i : Nat) (f : Rho → M D) : Rho → Res := fun ρ => ofM ρ (fun d => if isMut d = true then .nx (ρ.set i (.ow d)) else .er) (f ρ)
/-- what is one's own is given to all, ahead of what follows -/
def shareR (i : Nat) (ρ : Rho) : Rho := match ρ[i]? with
  | some (.ow d) => if isObj d = true then ρ else ρ.set i (.fr d)
  | _ => ρ
def sShare (i : Nat) (f : Rho → Res) : Rho → Res := fun ρ => f (shareR i ρ)
/-- slots forgotten -/
def wipeR : List Nat → Rho → Rho
  | [], ρ => ρ
  | k :: ks, ρ => (wipeR ks ρ).set k .no
def wipeS (ks : List Nat) : Res → Res
  | .nx ρ => .nx (wipeR ks ρ)
  | .bk ρ => .bk (wipeR ks ρ)
  | .ct ρ => .ct (wipeR ks ρ)
  | r => r
def sWipe (ks : List Nat) (f : Rho → Res) : Rho → Res := fun ρ => wipeS ks (f ρ)

section
variable {X : Cx} {W : WX} {S0 : Addr → Prop} {H0 : Hp} {rm m : Md} {own own' : List Addr} {H H' : Hp} {pos : Pos} {st : Stmt} {sts : List Stmt} {f g : Rho → Res} {e : Expr} {fe : Rho → M D}
theorem PSt.weak {D : Ends} {r : Res} (p : PSt X W S0 H0 rm own H D r) (h : Fra own H own' H') : PSt X W S0 H0 rm own' H' D r := by
  cases r with
  | nx ρ => exact fun σ' o' H2 a b => p σ' o' H2 a (h.trans b)
  | rt d => exact fun v o' H2 a b => p v o' H2 a (h.trans b)
  | bk ρ => exact fun σ' o' H2 a b => p σ' o' H2 a (h.trans b)
  | ct ρ => exact fun σ' o' H2 a b => p σ' o' H2 a (h.trans b)
  | ex c ρ => exact fun cv d σ' o' H2 i a b => p cv d σ' o' H2 i a (h.trans b)
  | er => exact p
  | rs d ρ => exact fun v σ' o' H2 r a b => p v σ' o' H2 r a (h.trans b)
theorem vss_nil : VSs X W S0 H0 rm [] sNil := ⟨_, pss_nil, fun ρ σ own H D R k => k σ own H R .refl⟩
theorem vss_cons (h : VS X W S0 H0 rm st f) (h2 : VSs X W S0 H0 rm sts g) : VSs X W S0 H0 rm (st :: sts) (sSeq f g) := by
  obtain ⟨t, p, q⟩ := h.p
  obtain ⟨t2, p2, q2⟩ := h2.p
  refine ⟨_, pss_cons p p2, fun ρ σ own H D R k => q ρ σ own H _ R ?_⟩
  unfold sSeq at k
  revert k
  cases f ρ with
  | nx ρ' => exact fun k σ' o' H' a b => q2 ρ' σ' o' H' D a (k.weak b)
  | rt d => exact id
  | bk ρ => exact id
  | ct ρ => exact id
  | ex c ρ => exact id
  | er => exact id
  | rs d ρ => exact id
theorem vss_one (h : VS X W S0 H0 rm st f) : VSs X W S0 H0 rm [st] f := by
  obtain ⟨t, p, q⟩ := h.p
  exact ⟨_, pss_one p, q⟩
theorem vs_share {i : Nat} (h : VS X W S0 H0 rm st f) : VS X W S0 H0 rm st (sShare i f) := by
  obtain ⟨t, p, q⟩ := h.p
  refine ⟨t, p, fun ρ σ own H D R k => ?_⟩
  unfold sShare shareR at k
  split at k
  · next d e =>
    split at k
    · exact q ρ σ own H D R k
    · next hob =>
      obtain ⟨o', R', F⟩ := R.share e (by simpa using hob)
      exact q _ σ o' H D R' (k.weak F)
  · exact q ρ σ own H D R k
theorem wipeR_get : ∀ (ks : List Nat) (ρ : Rho), (wipeR ks ρ).length = ρ.length ∧ ∀ (i : Nat) (s : Sl), (wipeR ks ρ)[i]? = some s → s = .no ∨ ρ[i]? = some s
  | [], ρ => ⟨rfl, fun i s h => .inr h⟩
  | k :: ks, ρ => by
    obtain ⟨h1, h2⟩ := wipeR_get ks ρ
    refine ⟨by unfold wipeR; rw [List.length_set, h1], fun i s h => ?_⟩
    unfold wipeR at h
    rcases get_set h with ⟨_, z, _⟩ | ⟨_, z⟩
    · exact .inl z
    · exact h2 i s z
theorem Rel.wipe {K : PySem.W.Frag} {ρ : Rho} {σ : Sg} (ks : List Nat) (R : Rel K S0 H0 ρ σ own H) : Rel K S0 H0 (wipeR ks ρ) σ own H := R.less (wipeR_get ks ρ).1 (wipeR_get ks ρ).2
theorem PSt.unwipe {D : Ends} {r : Res} {ks : List Nat} (k : PSt X W S0 H0 rm own H D (wipeS ks r)) : PSt X W S0 H0 rm own H D r := by
  cases r with
  | nx ρ => exact fun σ' o' H' a b => k σ' o' H' (a.wipe ks) b
  | bk ρ => exact fun σ' o' H' a b => k σ' o' H' (a.wipe ks) b
  | ct ρ => exact fun σ' o' H' a b => k σ' o' H' (a.wipe ks) b
  | rt d => exact k
  | ex c ρ => exact k
  | er => exact k
  | rs d ρ => exact k
theorem vss_wipe {ks : List Nat} (h : VSs X W S0 H0 rm sts f) : VSs X W S0 H0 rm sts (sWipe ks f) := by
  obtain ⟨t, p, q⟩ := h.p
  exact ⟨t, p, fun ρ σ own H D R k => q ρ σ own H D R (PSt.unwipe k)⟩
/-! ### small statements -/
theorem vs_pass : VS X W S0 H0 rm (.Pass pos) sNil := ⟨_, ps_pass, fun ρ σ own H D R k => k σ own H R .refl⟩
theorem vs_if {c : Expr} {a b : List Stmt} {fc : Rho → M Bool} (hc : VT X W S0 H0 c fc) (ha : VSs X W S0 H0 rm a f) (hb : VSs X W S0 H0 rm b g) : VS X W S0 H0 rm (.If c a b pos) (sIf fc f g) := by
  obtain ⟨tc, pc, qc⟩ := hc.p
  obtain ⟨ta, pa, qa⟩ := ha.p
  obtain ⟨tb, pb, qb⟩ := hb.p
  refine ⟨_, ps_if pc pa pb, fun ρ σ own H D R k => qc ρ σ own H _ R ?_⟩
  unfold sIf at k
  revert k
  cases fc ρ with
  | er => exact id
  | ex c => exact fun k cv d H' i s => k cv d σ own H' i (R.grow s) (.same s)
  | ok x =>
    intro k H' s
    cases x with
    | true => exact qa ρ σ own H' D (R.grow s) (PSt.weak k (.same s))
    | false => exact qb ρ σ own H' D (R.grow s) (PSt.weak k (.same s))
/-- return e: a value of the mode (made in this def; or any) -/
theorem vs_retF (h : VX X W S0 H0 .F e fe) : VS X W S0 H0 .F (.Return (some e) pos) (sRet fe) := by
  obtain ⟨tc, pc, qc⟩ := h.p
  refine ⟨_, ps_ret pc, fun ρ σ own H D R k => qc ρ σ own H _ R ?_⟩
  unfold sRet at k
  revert k
  cases fe ρ with
  | er => exact id
  | ex c => exact fun k cv d H' i s => k cv d σ own H' i (R.grow s) (.same s)
  | ok x => exact fun k v H' s r => k v own H' r (.same s)
theorem vs_retE (h : VX X W S0 H0 .E e fe) : VS X W S0 H0 .E (.Return (some e) pos) (sRet fe) := by
  obtain ⟨tc, pc, qc⟩ := h.p
  refine ⟨_, ps_ret pc, fun ρ σ own H D R k => qc ρ σ own H _ R ?_⟩
  unfold sRet at k
  revert k
  cases fe ρ with
  | er => exact id
  | ex c => exact fun k cv d H' i s => k cv d σ own H' i (R.grow s) (.same s)
  | ok x => exact fun k v H' s r => k v own H' r (.same s)
theorem vs_drop (h : VX X W S0 H0 m e fe) (hs : swapsWith e none pos.line X.env = pure false := by rfl) : VS X W S0 H0 rm (.Expr e pos) (sDrop fe) := by
  obtain ⟨tc, pc, qc⟩ := h.p
  refine ⟨_, ps_expr pc hs, fun ρ σ own H D R k => qc ρ σ own H _ R ?_⟩
  unfold sDrop at k
  revert k
  cases fe ρ with
  | er => exact id
  | ex c => exact fun k cv d H' i s => k cv d σ own H' i (R.grow s) (.same s)
  | ok x => exact fun k v H' s r => k σ own H' (R.grow s) (.same s)
section
variable {i : Nat} {x : Str} {pos' : Pos}
theorem vs_sh (hN : X.N.Nodup) (h : VX X W S0 H0 .E e fe) (hi : X.N[i]? = some x := by rfl) (hx : Loc X.env.scope x := by first | exact Or.inl rfl | exact Or.inr rfl) (hs : swapsWith e (some (.Name x pos')) pos.line X.env = pure false := by rfl)
    (hf : X.fn x = true ∨ X.env.scope.names.lookup x = some .local := by first | exact .inl rfl | exact .inr rfl) : VS X W S0 H0 rm (.Assign [.Name x pos'] e pos) (sSh i fe) := by
  obtain ⟨tc, pc, qc⟩ := h.p
  refine ⟨_, ps_set hN hi hx pc hs hf, fun ρ σ own H D R k => qc ρ σ own H _ R ?_⟩
  unfold sSh at k
  revert k
  cases fe ρ with
  | er => exact id
  | ex c => exact fun k cv d H' i s => k cv d σ own H' i (R.grow s) (.same s)
  | ok x => exact fun k v H' s r => k _ own H' ((R.grow s).setSh r) (.same s)
theorem vs_fr (hN : X.N.Nodup) (h : VX X W S0 H0 .F e fe) (hi : X.N[i]? = some x := by rfl) (hx : Loc X.env.scope x := by first | exact Or.inl rfl | exact Or.inr rfl) (hs : swapsWith e (some (.Name x pos')) pos.line X.env = pure false := by rfl)
    (hf : X.fn x = true ∨ X.env.scope.names.lookup x = some .local := by first | exact .inl rfl | exact .inr rfl) : VS X W S0 H0 rm (.Assign [.Name x pos'] e pos) (sFr i fe) := by
  obtain ⟨tc, pc, qc⟩ := h.p
  refine ⟨_, ps_set hN hi hx pc hs hf, fun ρ σ own H D R k => qc ρ σ own H _ R ?_⟩
  unfold sFr at k
  revert k
  cases fe ρ with
  | er => exact id
  | ex c => exact fun k cv d H' i s => k cv d σ own H' i (R.grow s) (.same s)
  | ok x => exact fun k v H' s r => k _ own H' ((R.grow s).setFr r) (.same s)
/-- x = e, a new list or dict that becomes one's own -/
theorem vs_ow (hN : X.N.Nodup) (h : VX X W S0 H0 .N e fe) (hi : X.N[i]? = some x := by rfl) (hx : Loc X.env.scope x := by first | exact Or.inl rfl | exact Or.inr rfl) (hs : swapsWith e (some (.Name x pos')) pos.line X.env = pure false := by rfl)
    (hf : X.fn x = true ∨ X.env.scope.names.lookup x = some .local := by first | exact .inl rfl | exact .inr rfl) : VS X W S0 H0 rm (.Assign [.Name x pos'] e pos) (sOw i fe) := by
  obtain ⟨tc, pc, qc⟩ := h.p
  refine ⟨_, ps_set hN hi hx pc hs hf, fun ρ σ own H D R k => qc ρ σ own H _ R ?_⟩
  unfold sOw at k
  revert k
  cases fe ρ with
  | er => exact id
  | ex c => exact fun k cv d H' i s => k cv d σ own H' i (R.grow s) (.same s)
  | ok x =>
    intro k v H' s r
    rw [ofM_ok] at k
    split at k
    · next ho =>
      have fin : ∀ a, v = .ref a → H a = none → Own X.K (SF H0 (a :: own)) H' a x → D.nx (σ.set i (some v)) H' := fun a e1 e2 e3 => by
        subst e1
        exact k _ (a :: own) H' (R.setOw s e2 e3 (by cases x <;> first | rfl | cases ho)) ⟨fun b o q _ => s b o q, fun b hm => (List.mem_cons.mp hm).elim (fun z => .inr (by rw [z]; exact e2)) .inl⟩
      cases x with
      | lst ds =>
        cases r with
        | lst s1 h1 r1 => exact fin _ rfl s1.1 ⟨_, h1, r1.lf ho⟩
      | dct ds =>
        cases r with
        | dct s1 h1 r1 => exact fin _ rfl s1.1 ⟨_, h1, r1.lf ho⟩
      | dk ds =>
        cases r with
        | dk s1 h1 r1 => exact fin _ rfl s1.1 ⟨_, h1, r1.lf ho⟩
      | _ => cases ho
    · exact k.elim
end
end
end VL
set_option Elab.async false
set_option linter.all false
set_option maxRecDepth 100000
/-! VL: loops, a def's contract and its call, what changes one's own lists and dicts. -/
namespace VL
open PySem L2 PySem.Spec PyProof.Rows

/-! ### what a loop walks -/
section
variable (X : Cx) (W : WX) (S0 : Addr → Prop) (H0 : Hp)
/-- an iterator that gives the data ds, whatever happens to one's own meanwhile -/
def Walks (own : List Addr) (H1 : Hp) (J : It) (ds : List D) : Prop :=
  ∀ (own' : List Addr) (H' : Hp), Fra own H1 own' H' → Same H0 H' → (∀ a, a ∈ own' → H0 a = none ∧ Mt (H' a)) → ∀ i : Nat, (i < ds.length → J.go i H') ∧ (ds.length ≤ i → J.stop i H') ∧
    ∀ x H2, i < ds.length → J.yld i H' x H2 → Same H' H2 ∧ ∃ d, ds[i]? = some d ∧ Rp X.K (SA S0 H0 own') H2 x d
def PXI (own : List Addr) (H : Hp) (σ : Sg) (R : It → Hp → Prop) : M (List D) → Prop
  | .ok ds => ∀ J H', Same H H' → Walks X S0 H0 own H' J ds → R J H'
  | .ex c => ∀ cv d H', IsCls X.mg c cv d → Same H H' → W cv d σ H'
  | .er => False
structure VI (tg iter : Expr) (f : Rho → M (List D)) : Prop where
  p : ∃ wi, PI X tg iter wi ∧ ∀ ρ σ own H R, Rel X.K S0 H0 ρ σ own H → PXI X W S0 H0 own H σ R (f ρ) → wi σ H R
  s : ∀ x, foldedSetIterable iter X.env x = pure x
/-- a target that stores at the slots ks alone -/
def OnlyS (ks : List Nat) (σ σ' : Sg) : Prop := σ'.length = σ.length ∧ ∀ j, j ∉ ks → σ'[j]? = σ[j]?
structure VG (ks : List Nat) (tg : Expr) (f : D → Rho → Option Rho) : Prop where
  p : ∃ g, PG X tg g ∧ ∀ v d ρ ρ' σ own H Q, Rel X.K S0 H0 ρ σ own H → Rp X.K (SA S0 H0 own) H v d → f d ρ = some ρ' → (∀ σ', Rel X.K S0 H0 ρ' σ' own H → OnlyS ks σ σ' → Q σ' H) → g v σ H Q
structure VGs (ks : List Nat) (tg : List Expr) (f : List D → Rho → Option Rho) : Prop where
  p : ∃ g, PGs X tg g ∧ ∀ vs ds ρ ρ' σ own H Q, Rel X.K S0 H0 ρ σ own H → RpA X.K (SA S0 H0 own) H vs ds → f ds ρ = some ρ' → (∀ σ', Rel X.K S0 H0 ρ' σ' own H → OnlyS ks σ σ' → Q σ' H) → g vs σ H Q
end
def tgN (i : Nat) : D → Rho → Option Rho := fun d ρ => some (ρ.set i (.sh d))
def tgNil : List D → Rho → Option Rho := fun ds ρ => match ds with | [] => some ρ | _ => none
def tgCons (f : D → Rho → Option Rho) (g : List D → Rho → Option Rho) : List D → Rho → Option Rho := fun ds ρ => match ds with
  | d :: r => (match f d ρ with | some ρ' => g r ρ' | none => none)
  | [] => none
def tgT (n : Nat) (f : List D → Rho → Option Rho) : D → Rho → Option Rho := fun d ρ => match d with
  | .tup ds => if ds.length = n then f ds ρ else none
  | .kt ds => if ds.length = n then f ds ρ else none
  | _ => none
/-- the turns -/
def forR (tg : D → Rho → Option Rho) (b : Rho → Res) : List D → Rho → Res
  | [], ρ => .nx ρ
  | d :: ds, ρ => match tg d ρ with
    | none => .er
    | some ρ1 => match b ρ1 with
      | .nx ρ2 => forR tg b ds ρ2
      | .ct ρ2 => forR tg b ds ρ2
      | .bk ρ2 => .nx ρ2
      | .rt d => .rt d
      | .ex c ρ2 => .ex c ρ2
      | .er => .er
      | .rs d ρ2 => .rs d ρ2
def sFor (fi : Rho → M (List D)) (tg : D → Rho → Option Rho) (b : Rho → Res) : Rho → Res := fun ρ => match fi ρ with
  | .ok ds => forR tg b ds ρ
  | .ex c => .ex c ρ
  | .er => .er
def whileN (c : Rho → M Bool) (b : Rho → Res) : Nat → Rho → Res
  | 0, _ => .er
  | n + 1, ρ => match c ρ with
    | .ok true => (match b ρ with
      | .nx ρ2 => whileN c b n ρ2
      | .ct ρ2 => whileN c b n ρ2
      | .bk ρ2 => .nx ρ2
      | .rt d => .rt d
      | .ex c ρ2 => .ex c ρ2
      | .er => .er
      | .rs d ρ2 => .rs d ρ2)
    | .ok false => .nx ρ
    | .ex c => .ex c ρ
    | .er => .er
def sWhile (n : Nat) (c : Rho → M Bool) (b : Rho → Res) : Rho → Res := whileN c b n
section
variable {X : Cx} {W : WX} {S0 : Addr → Prop} {H0 : Hp} {rm m : Md} {pos : Pos} {tg iter e : Expr} {body : List Stmt} {fi : Rho → M (List D)} {ft : D → Rho → Option Rho} {fb : Rho → Res} {fe : Rho → M D}
theorem vg_name {i : Nat} {x : Str} (hN : X.N.Nodup) (hi : X.N[i]? = some x := by rfl) (hx : Loc X.env.scope x := by first | exact Or.inl rfl | exact Or.inr rfl) (hf : X.fn x = true ∨ X.env.scope.names.lookup x = some .local := by first | exact .inl rfl | exact .inr rfl) : VG X S0 H0 [i] (.Name x pos) (tgN i) := by
  refine ⟨_, pg_name hN hi hx hf, fun v d ρ ρ' σ own H Q R r e k => ?_⟩
  cases e
  exact k _ (R.setSh r) ⟨List.length_set, fun j hj => List.getElem?_set_ne (fun z => hj (by rw [← z]; exact List.mem_cons_self))⟩
theorem vgs_nil : VGs X S0 H0 [] [] tgNil := by
  refine ⟨_, pgs_nil, fun vs ds ρ ρ' σ own H Q R r e k => ?_⟩
  cases r with
  | nil => cases e; exact ⟨rfl, k _ R ⟨rfl, fun _ _ => rfl⟩⟩
  | cons _ _ => cases e
theorem vgs_cons {k1 k2 : List Nat} {es : List Expr} {fs : List D → Rho → Option Rho} (h : VG X S0 H0 k1 e ft) (h2 : VGs X S0 H0 k2 es fs) (hs : (assignEach (e :: es) X.env).map (·.2) = assign e X.env :: (assignEach es X.env).map (·.2) := by rfl) : VGs X S0 H0 (k1 ++ k2) (e :: es) (tgCons ft fs) := by
  obtain ⟨g, p, q⟩ := h.p
  obtain ⟨g2, p2, q2⟩ := h2.p
  refine ⟨_, pgs_cons p p2 hs, fun vs ds ρ ρ' σ own H Q R r e k => ?_⟩
  cases r with
  | nil => cases e
  | cons r1 r2 =>
    rename_i v d vs ds
    unfold tgCons at e
    cases e1 : ft d ρ with
    | none => simp [e1] at e
    | some ρ1 =>
      simp [e1] at e
      exact ⟨_, _, rfl, q _ _ _ _ _ _ _ _ R r1 e1 fun σ' R' o1 => q2 _ _ _ _ _ _ _ _ R' r2 e fun σ2 R2 o2 => k σ2 R2 ⟨o2.1.trans o1.1, fun j hj => (o2.2 j fun z => hj (List.mem_append_right _ z)).trans (o1.2 j fun z => hj (List.mem_append_left _ z))⟩⟩
theorem vg_tup {ks : List Nat} {es : List Expr} {j n : Nat} {fs : List D → Rho → Option Rho} (hc : X.calm = true) (h : VGs X S0 H0 ks es fs) (hn : (assignEach es X.env).length = n := by rfl) (hst : (assignEach es X.env).findIdx? (·.1) = none := by rfl) : VG X S0 H0 ks (.Tuple es j pos) (tgT n fs) := by
  obtain ⟨g, p, q⟩ := h.p
  refine ⟨_, pg_tup hc p hn hst, fun v d ρ ρ' σ own H Q R r e k => ?_⟩
  unfold tgT at e
  split at e
  · next ds =>
    split at e
    · next hl =>
      cases r with
      | tup h1 r1 => exact ⟨_, _, rfl, SqT.of h1, by rw [r1.length]; exact hl, q _ _ _ _ _ _ _ _ R r1 e k⟩
    · cases e
  · next ds =>
    split at e
    · next hl =>
      cases r with
      | kt h1 r1 => exact ⟨_, _, rfl, .inr h1, by rw [r1.length]; exact hl, q _ _ _ _ _ _ _ _ R r1 e k⟩
    · cases e
  · cases e
/-! ### for, while -/
theorem vs_for {ks : List Nat} (hp : PassesOwn (model X.prog X.w) X.A X.env X.xe) (hc : X.calm = true) (hi : VI X W S0 H0 tg iter fi) (hg : VG X S0 H0 ks tg ft) (hb : VSs X W S0 H0 rm body fb) : VS X W S0 H0 rm (.For tg iter body [] pos) (sFor fi ft fb) := by
  obtain ⟨wi, pi, qi⟩ := hi.p
  obtain ⟨g, pg, qg⟩ := hg.p
  obtain ⟨tb, pb, qb⟩ := hb.p
  refine ⟨_, ps_for hp hc pi pg pb hi.s, fun ρ σ own H D R k => qi ρ σ own H _ R ?_⟩
  unfold sFor at k
  revert k
  cases fi ρ with
  | er => exact id
  | ex c => exact fun k cv d H' i s => k cv d σ own H' i (R.grow s) (.same s)
  | ok ds =>
    intro k J H1 s1 wk
    refine ⟨fun i m' σ' H' => ∃ ρ' own', Rel X.K S0 H0 ρ' σ' own' H' ∧ Fra own H1 own' H' ∧ PSt X W S0 H0 rm own' H' D (forR ft fb (ds.drop i) ρ') ∧ m' = ds.length - i ∧ i ≤ ds.length, ⟨ds.length, ρ, own, R.grow s1, .refl, by simpa using k.weak (.same s1), by simp, by simp⟩, ?_⟩
    rintro i m' σ' H' ⟨ρ', own', R', F', k', rfl, hi⟩
    obtain ⟨w1, w2, w3⟩ := wk own' H' F' R'.same R'.own0 i
    by_cases hlt : i < ds.length
    · refine .inr ⟨w1 hlt, fun σ2 H2 => ∃ ρ2 own2, Rel X.K S0 H0 ρ2 σ2 own2 H2 ∧ Fra own H1 own2 H2 ∧ PSt X W S0 H0 rm own2 H2 D (forR ft fb (ds.drop (i + 1)) ρ2), fun σ2 H2 ⟨ρ2, own2, a, b, c⟩ => ⟨ds.length - (i + 1), by omega, ρ2, own2, a, b, c, rfl, hlt⟩, fun x H2 hy => ?_⟩
      obtain ⟨s2, d, hd, rd⟩ := w3 x H2 hlt hy
      have ed : ds.drop i = d :: ds.drop (i + 1) := by
        rw [List.drop_eq_getElem_cons hlt]
        rw [List.getElem?_eq_getElem hlt] at hd
        rw [Option.some.inj hd]
      rw [ed] at k'
      unfold forR at k'
      cases et : ft d ρ' with
      | none => rw [et] at k'; exact k'.elim
      | some ρ1 =>
        rw [et] at k'
        refine qg x d ρ' ρ1 σ' own' H2 _ (R'.grow s2) rd et fun σ3 R3 _ => qb ρ1 σ3 own' H2 _ R3 ?_
        have F2 : Fra own H1 own' H2 := F'.trans (.same s2)
        have k2 := PSt.weak k' (.same s2)
        revert k2
        dsimp only
        generalize fb ρ1 = r
        intro k2
        cases r with
        | nx ρ2 => exact fun σ4 o4 H4 a b => ⟨ρ2, o4, a, F2.trans b, k2.weak b⟩
        | ct ρ2 => exact fun σ4 o4 H4 a b => ⟨ρ2, o4, a, F2.trans b, k2.weak b⟩
        | bk ρ2 => exact fun σ4 o4 H4 a b => k2 σ4 o4 H4 a b
        | rt d => exact k2
        | ex c ρ2 => exact k2
        | er => exact k2
        | rs d ρ2 => exact k2
    · refine .inl ⟨w2 (by omega), ?_⟩
      rw [List.drop_of_length_le (by omega)] at k'
      exact k' σ' own' H' R' .refl
theorem vs_while {c : Expr} {fc : Rho → M Bool} (n : Nat) (hp : PassesOwn (model X.prog X.w) X.A X.env X.xe) (hc : VT X W S0 H0 c fc) (hb : VSs X W S0 H0 rm body fb) : VS X W S0 H0 rm (.While c body [] pos) (sWhile n fc fb) := by
  obtain ⟨tc, pc, qc⟩ := hc.p
  obtain ⟨tb, pb, qb⟩ := hb.p
  refine ⟨_, ps_while hp pc pb, fun ρ σ own H D R k => ?_⟩
  refine ⟨fun m' σ' H' => ∃ ρ' own', Rel X.K S0 H0 ρ' σ' own' H' ∧ PSt X W S0 H0 rm own' H' D (whileN fc fb m' ρ'), ⟨n, ρ, own, R, k⟩, ?_⟩
  rintro m' σ' H' ⟨ρ', own', R', k'⟩
  cases m' with
  | zero => exact k'.elim
  | succ m' =>
    refine qc ρ' σ' own' H' _ R' ?_
    unfold whileN at k'
    cases ec : fc ρ' with
    | er => rw [ec] at k'; exact k'.elim
    | ex c => rw [ec] at k'; exact fun cv d H2 i s => k' cv d σ' own' H2 i (R'.grow s) (.same s)
    | ok b =>
      rw [ec] at k'
      intro H2 s2
      cases b with
      | false =>
        rw [if_neg Bool.false_ne_true]
        exact k' σ' own' H2 (R'.grow s2) (.same s2)
      | true =>
        rw [if_pos rfl]
        refine ⟨fun σ3 H3 => ∃ ρ3 own3, Rel X.K S0 H0 ρ3 σ3 own3 H3 ∧ PSt X W S0 H0 rm own3 H3 D (whileN fc fb m' ρ3), fun σ3 H3 h => ⟨m', Nat.lt_succ_self _, h⟩, qb ρ' σ' own' H2 _ (R'.grow s2) ?_⟩
        have k2 := PSt.weak k' (.same s2)
        revert k2
        dsimp only
        generalize fb ρ' = r
        intro k2
        cases r with
        | nx ρ2 => exact fun σ4 o4 H4 a b => ⟨ρ2, o4, a, k2.weak b⟩
        | ct ρ2 => exact fun σ4 o4 H4 a b => ⟨ρ2, o4, a, k2.weak b⟩
        | bk ρ2 => exact fun σ4 o4 H4 a b => k2 σ4 o4 H4 a b
        | rt d => exact k2
        | ex c ρ2 => exact k2
        | er => exact k2
        | rs d ρ2 => exact k2
/-! ### lists, tuples, ranges, texts as what is walked -/
def itemsG : D → M (List D)
  | .lst ds => .ok ds
  | .fz ds => .ok ds
  | .tup ds => .ok ds
  | .kt ds => .ok ds
  | _ => .er
theorem fra_rd {own own' : List Addr} {H H' : Hp} {a : Addr} {u : HO} (F : Fra own H own' H') (own0 : ∀ a, a ∈ own → H0 a = none ∧ Mt (H a)) (hn : a ∉ own) (h : Rd H a u) : Rd H' a u := by
  rcases h with h | ⟨o, h⟩
  · exact .inl (F.k _ _ h hn)
  · exact .inr ⟨o, F.k _ _ h hn⟩
/-- a list that is no one's own at a -/
theorem walks_list {ρ : Rho} {σ : Sg} {own : List Addr} {H : Hp} {a : Addr} {xs : List V} {ds : List D} (R : Rel X.K S0 H0 ρ σ own H) (hn : a ∉ own) (h : SqL X.K H a xs) (r : RpA X.K (SA S0 H0 own) H xs ds) : Walks X S0 H0 own H (Itl X.K a) ds := by
  intro own' H' F _ _ i
  have h' : SqL X.K H' a xs := h.imp (fra_rd F R.own0 hn) id
  have r' := r.keep (F.keepA (S0 := S0) (H0 := H0) R.own0)
  refine ⟨fun hi => ?_, fun hi => ⟨xs, h', by rw [r.length]; exact hi⟩, fun x H2 hi ⟨e, y⟩ => ?_⟩
  · obtain ⟨v, e, _⟩ := r.get (List.getElem?_eq_getElem hi)
    exact ⟨xs, v, h', e⟩
  · subst e
    obtain ⟨d, e1, e2⟩ := r'.getV (y xs h')
    exact ⟨Same.refl _, d, e1, e2⟩
theorem walks_listA {ρ : Rho} {σ : Sg} {own : List Addr} {H : Hp} {a : Addr} {xs : List V} {ds : List D} (R : Rel X.K S0 H0 ρ σ own H) (hk : ∀ own' H', Fra own H own' H' → SqL X.K H' a xs) (h : SqL X.K H a xs) (r : RpA X.K (SA S0 H0 own) H xs ds) : Walks X S0 H0 own H (Itl X.K a) ds := by
  intro own' H' F _ _ i
  have h' := hk own' H' F
  have r' := r.keep (F.keepA (S0 := S0) (H0 := H0) R.own0)
  refine ⟨fun hi => ?_, fun hi => ⟨xs, h', by rw [r.length]; exact hi⟩, fun x H2 hi ⟨e, y⟩ => ?_⟩
  · obtain ⟨v, e, _⟩ := r.get (List.getElem?_eq_getElem hi)
    exact ⟨xs, v, h', e⟩
  · subst e
    obtain ⟨d, e1, e2⟩ := r'.getV (y xs h')
    exact ⟨Same.refl _, d, e1, e2⟩
theorem walks_tupA {ρ : Rho} {σ : Sg} {own : List Addr} {H : Hp} {a : Addr} {xs : List V} {ds : List D} (R : Rel X.K S0 H0 ρ σ own H) (hk : ∀ own' H', Fra own H own' H' → SqT X.K H' a xs) (r : RpA X.K (SA S0 H0 own) H xs ds) : Walks X S0 H0 own H (Itt X.K a) ds := by
  intro own' H' F _ _ i
  have h' := hk own' H' F
  have r' := r.keep (F.keepA (S0 := S0) (H0 := H0) R.own0)
  refine ⟨fun hi => ?_, fun hi => ⟨xs, h', by rw [r.length]; exact hi⟩, fun x H2 hi ⟨e, y⟩ => ?_⟩
  · obtain ⟨v, e, _⟩ := r.get (List.getElem?_eq_getElem hi)
    exact ⟨xs, v, h', e⟩
  · subst e
    obtain ⟨d, e1, e2⟩ := r'.getV (y xs h')
    exact ⟨Same.refl _, d, e1, e2⟩
/-- over a list or a tuple -/
def iSeq (K : PySem.W.Frag) (tl : TE) : TI := fun σ H R => tl σ H fun x H1 => ∃ a, x = .ref a ∧ (((∃ xs, SqL K H1 a xs) ∧ R (Itl K a) H1) ∨ ((∃ xs, SqT K H1 a xs) ∧ R (Itt K a) H1))
theorem pi_seq {tg l : Expr} {tl : TE} (hl : PE X l tl) : PI X tg l (iSeq X.K tl) := by
  constructor
  intro pins s σ H R I h
  refine thn (hl.run pins s σ H _ I h) fun v s1 ⟨x, H1, I1, r1, a, e, q⟩ => ?_
  cases e
  cases r1
  have new : ∀ b, b ∈ [s1.heap.objs.size] → FpOk X pins H1 b := fun b hb => by
    rw [List.mem_singleton.mp hb]
    exact I1.fpOk (Nat.le_refl _) (I1.hok.fresh (Nat.le_refl _))
  have kept := fun o : Obj => I1.kept (h' := s1.heap.push o) (t' := s1.toks) fun b o e => Heap.get?_push_of_some _ e
  rcases q with ⟨⟨xs, hq⟩, q⟩ | ⟨⟨xs, hq⟩, q⟩
  · obtain ⟨its, rv, p, -⟩ := I1.list hq
    exact wpAny_pyIter_list p.isList ⟨_, [s1.heap.objs.size], _, _, H1, rfl, kept _, turn_list a _, ⟨_, Heap.get?_push_size _ rfl, rfl, rfl⟩, new, q⟩
  · obtain ⟨its, rv, p, -⟩ := I1.tuple hq
    exact wpAny_pyIter_tuple (show s1.heap.IsTuple a its.toArray from p) ⟨_, [s1.heap.objs.size], _, _, H1, rfl, kept _, turn_tuple a _, ⟨_, Heap.get?_push_size _ rfl, rfl, rfl⟩, new, q⟩
def eLL (f : Rho → M D) : Rho → M (List D) := fun ρ => M.bind (f ρ) itemsG
def eTT (f : Rho → M D) : Rho → M (List D) := eLL f
theorem vi_list (h : VX X W S0 H0 .E e fe) (hs : ∀ x, foldedSetIterable e X.env x = pure x := by intro _; rfl) : VI X W S0 H0 tg e (eLL fe) := by
  obtain ⟨te, p, q⟩ := h.p
  refine ⟨⟨_, pi_seq p, fun ρ σ own H Rk R k => q ρ σ own H _ R ?_⟩, hs⟩
  unfold eLL at k
  revert k
  cases fe ρ with
  | er => exact id
  | ex c => exact id
  | ok d =>
    intro k v H1 s1 r1
    have own0 := (R.grow s1).own0
    cases d with
    | lst ds =>
      cases r1 with
      | lst s h r => exact ⟨_, rfl, .inl ⟨⟨_, .inl (.inl h)⟩, k _ H1 s1 (walks_list (R.grow s1) s.1 (SqL.of h) r)⟩⟩
    | fz ds =>
      cases r1 with
      | fz h r =>
        refine ⟨_, rfl, .inl ⟨⟨_, h.sq⟩, k _ H1 s1 (walks_listA (R.grow s1) (fun own' H' F => ?_) h.sq r)⟩⟩
        rcases h with ⟨o, h⟩ | h
        · exact .inl (.inr ⟨o, F.k _ _ h fun hm => by
            have := (own0 _ hm).2
            rw [h] at this; exact this⟩)
        · exact .inr h
    | tup ds =>
      cases r1 with
      | tup h r =>
        exact ⟨_, rfl, .inr ⟨⟨_, SqT.of h⟩, k _ H1 s1 (walks_tupA (R.grow s1) (fun own' H' F => SqT.of (F.k _ _ h fun hm => by
          have := (own0 _ hm).2
          rw [h] at this; exact this)) r)⟩⟩
    | kt ds =>
      cases r1 with
      | kt h r => exact ⟨_, rfl, .inr ⟨⟨_, .inr h⟩, k _ H1 s1 (walks_tupA (R.grow s1) (fun own' H' F => .inr h) r)⟩⟩
    | _ => exact k.elim
theorem vi_tup (h : VX X W S0 H0 .E e fe) (hs : ∀ x, foldedSetIterable e X.env x = pure x := by intro _; rfl) : VI X W S0 H0 tg e (eTT fe) := vi_list h hs
/-- range(n), range(a, b) -/
def rngD (lo : Int) (n : Nat) : List D := (List.range n).map fun i => .int (lo + (i : Nat))
def eR1 (f : Rho → M (List D)) : Rho → M (List D) := fun ρ => M.bind (f ρ) fun d => match d with
  | [.int j] => if -(2 ^ 62) ≤ j ∧ j < 2 ^ 62 then .ok (rngD 0 j.toNat) else .er
  | _ => .er
theorem walks_rng {own : List Addr} {H : Hp} {lo : Int} {n : Nat} : Walks X S0 H0 own H (Itr lo n) (rngD lo n) := by
  intro own' H' F _ _ i
  have hl : (rngD lo n).length = n := by simp [rngD]
  rw [hl]
  refine ⟨id, id, fun x H2 hi ⟨e, y⟩ => ?_⟩
  subst e
  subst y
  exact ⟨Same.refl _, .int (lo + (i : Nat)), by simp [rngD, hi], .int _⟩
theorem vi_range1 {a : Expr} {fa : Rho → M (List D)} {p : Pos} (hm : X.mg "range" = none) (ha : VA X W S0 H0 .O [a] fa) (hg : Gl X "range" := by rfl) (hs : starEach [a] X.env = [(false, eval a X.env)] := by rfl) (hf : ∀ x, foldedSetIterable (.Call (.Name "range" p) [a] [] pos) X.env x = pure x := by intro _; rfl) :
    VI X W S0 H0 tg (.Call (.Name "range" p) [a] [] pos) (eR1 fa) := by
  obtain ⟨te, pa, q⟩ := ha.p
  refine ⟨⟨_, pi_range1 hg hm pa hs, fun ρ σ own H Rk R k => q ρ σ own H _ R ?_⟩, hf⟩
  unfold eR1 at k
  revert k
  cases fa ρ with
  | er => exact id
  | ex c => exact id
  | ok ds =>
    intro k vs H1 s1 r1
    rw [bind_ok] at k
    split at k
    · next j =>
      split at k
      · next hj =>
        obtain ⟨v, rfl, r2⟩ := pair1 r1
        rw [r2.isInt]
        exact ⟨j, rfl, hj.1, hj.2, k _ H1 s1 walks_rng⟩
      · exact k.elim
    · exact k.elim
/-- the signs of a text -/
def eSS (f : Rho → M D) : Rho → M (List D) := fun ρ => M.bind (f ρ) fun d => match d with | .str x => .ok (x.cps.toList.map fun c => .str ⟨#[c]⟩) | _ => .er
theorem vi_str (h : VX X W S0 H0 m e fe) (hs : ∀ x, foldedSetIterable e X.env x = pure x := by intro _; rfl) : VI X W S0 H0 tg e (eSS fe) := by
  obtain ⟨te, p, q⟩ := h.p
  refine ⟨⟨_, pi_str p, fun ρ σ own H Rk R k => q ρ σ own H _ R ?_⟩, hs⟩
  unfold eSS at k
  revert k
  cases fe ρ with
  | er => exact id
  | ex c => exact id
  | ok d =>
    intro k v H1 s1 r1
    cases d with
    | str x =>
      refine ⟨x, r1.isStr, k _ H1 s1 ?_⟩
      intro own' H' F _ _ i
      have hl : (x.cps.toList.map fun c => D.str ⟨#[c]⟩).length = x.cps.size := by simp
      rw [hl]
      refine ⟨id, id, fun v H2 hi ⟨e, c, ec, y⟩ => ?_⟩
      subst e
      subst y
      refine ⟨Same.refl _, .str ⟨#[c]⟩, ?_, .str _⟩
      rw [List.getElem?_map, Array.getElem?_toList, ec]
      rfl
    | _ => exact k.elim
end

/-! ### a def's contract, its call -/
section
variable {P : Program} {w : World} {K : PySem.W.Frag} {mg : Str → Option Value} {base : Heap}
def PF (mg : Str → Option Value) (K : PySem.W.Frag) (H : Hp) (Q : VK) (E : XK) : M D → Prop
  | .ok d => ∀ v H', Same H H' → Rp K (fun a => H a = none) H' v d → Q v H'
  | .ex c => ∀ cv dd H', IsCls mg c cv dd → Same H H' → E cv dd H'
  | .er => False
/-- the def gives g of its arguments' data, made by it -/
def spN (mg : Str → Option Value) (K : PySem.W.Frag) (g : List D → M D) : Sp := fun vs H Q E => ∃ ds, RpA K (fun _ => True) H vs ds ∧ PF mg K H Q E (g ds)
def resM : Res → M D
  | .rt d => .ok d
  | .nx _ => .ok .non
  | .ex c _ => .ex c
  | _ => .er
def runF (n N : Nat) (F : Rho → Res) (ds : List D) : M D := if ds.length = n then resM (F (ds.map .sh ++ List.replicate (N - n) .no)) else .er
theorem rel_start {S0 : Addr → Prop} {H : Hp} {vs : List V} {ds : List D} (r : RpA K S0 H vs ds) (k : Nat) : Rel K S0 H (ds.map .sh ++ List.replicate k .no) (vs.map some ++ List.replicate k none) [] H := by
  have hl : vs.length = ds.length := r.length
  have no : ∀ (i : Nat) (s : Sl), (ds.map Sl.sh ++ List.replicate k Sl.no)[i]? = some s → (∃ d, ds[i]? = some d ∧ s = .sh d) ∨ s = .no := fun i s e => by
    by_cases hi : i < (ds.map Sl.sh).length
    · rw [List.getElem?_append_left hi, List.getElem?_map] at e
      cases h : ds[i]? with
      | none => rw [h] at e; cases e
      | some d => rw [h] at e; cases e; exact .inl ⟨d, rfl, rfl⟩
    · rw [List.getElem?_append_right (by omega)] at e
      have := List.mem_of_getElem? e
      exact .inr (List.eq_of_mem_replicate this)
  refine ⟨fun i d e => ?_, fun i d e => ?_, fun i d e => ?_, fun i j d e a b q => ?_, fun i d a e1 _ x _ => ?_, fun a h => by simp at h, Same.refl H, by simp [hl]⟩
  · rcases no i _ e with ⟨d', h, z⟩ | z
    · cases z
      obtain ⟨v, h1, h2⟩ := r.get h
      have hi : i < vs.length := (List.getElem?_eq_some_iff.mp h1).1
      exact ⟨v, by rw [List.getElem?_append_left (by simpa using hi), List.getElem?_map, h1]; rfl, h2.keep (.wide fun a s => ⟨by simp, .inl s⟩)⟩
    · cases z
  · rcases no i _ e with ⟨d', h, z⟩ | z <;> cases z
  · rcases no i _ e with ⟨d', h, z⟩ | z <;> cases z
  · rcases no i _ a with ⟨d', h, z⟩ | z <;> cases z
  · rcases no i _ e1 with ⟨d', h, z⟩ | z <;> cases z
/-- a def's promise out of its body's, the errors' contexts being none -/
theorem funN {P : Program} {w : World} {K : PySem.W.Frag} {mg : Str → Option Value} {base : Heap} {x qual : Str} {st : Stmt} {f : Addr} {fd : FuncData} {N ps : List Str} {k : Nat} {sp : Sp} (F : Fun K x qual st f fd) (S : FnScope N ps (defScope st)) (len : ∀ vs H Q E, sp vs H Q E → vs.length = ps.length)
    (hb : ∀ (cdv : Value) (A : Around) (outer : List Env) (s : Shared) (H : Hp) (vs : List V) (Q : VK) (E : XK), Room k (A.deeper (envOfC qual (defScope st) s.heap.objs.size f cdv)) → sp vs H Q E →
      ∃ t, PSs (cxOf (L2N.CX P w) P w K mg base N qual (defScope st) f cdv A outer s H E) (defBody st) t ∧ t { nx := fun _ H' => Q .non H', rt := Q } (start N vs) H) : FnOk P w K mg base (L2N.CX P w) (k + 1) f fd ps sp := by
  obtain ⟨_, _, _, _, _, _, cdv, _, _, rfl, l, c⟩ := F.ex
  exact fn_of l c S len fun A outer s H vs Q E r h => hb cdv A outer s H vs Q E r h
theorem fn_ok {x qual : Str} {st : Stmt} {f : Addr} {fd : FuncData} {N ps : List Str} {k : Nat} {F : Rho → Res} (Fn : Fun K x qual st f fd) (S : FnScope N ps (defScope st))
    (hb : ∀ (cdv : Value) (A : Around) (outer : List Env) (s : Shared) (H : Hp) (E : XK) (S0 : Addr → Prop), Room k (A.deeper (envOfC qual (defScope st) s.heap.objs.size f cdv)) →
      VSs (cxOf (L2N.CX P w) P w K mg base N qual (defScope st) f cdv A outer s H E) (fun cls d _ H => E cls d H) S0 H .F (defBody st) F) :
    FnOk P w K mg base (L2N.CX P w) (k + 1) f fd ps (spN mg K (runF ps.length N.length F)) := by
  refine funN Fn S (fun vs H Q E h => ?_) (fun cdv A outer s H vs Q E hr h => ?_)
  · obtain ⟨ds, r, p⟩ := h
    unfold runF at p
    split at p
    · next hl => rw [r.length, hl]
    · exact p.elim
  · obtain ⟨ds, r, p⟩ := h
    obtain ⟨t, pt, q⟩ := (hb cdv A outer s H E (fun _ => True) hr).p
    refine ⟨t, pt, ?_⟩
    unfold runF at p
    split at p
    · next hl =>
      have hv : vs.length = ps.length := by rw [r.length, hl]
      have R := rel_start r (N.length - ps.length)
      have e : L2.start N vs = vs.map some ++ List.replicate (N.length - ps.length) none := by unfold L2.start; rw [hv]
      rw [e]
      refine q _ _ [] H _ R ?_
      have fin : ∀ (v : V) (own' : List Addr) (H' : Hp) (d : D), (∀ v H', Same H H' → Rp K (fun a => H a = none) H' v d → Q v H') → Rp K (SF H own') H' v d → Fra [] H own' H' → Q v H' := fun v own' H' d p a b => p v H' b.all (a.keep (.wide fun _ z => z.2))
      revert p
      generalize F (ds.map Sl.sh ++ List.replicate (N.length - ps.length) Sl.no) = r
      intro p
      cases r with
      | rt d => exact fun v own' H' a b => fin v own' H' d p a b
      | nx ρ' => exact fun σ' own' H' a b => p .non H' b.all .non
      | ex c ρ' => exact fun cv d σ' own' H' i a b => p cv d H' i b.all
      | bk ρ' => exact p.elim
      | ct ρ' => exact p.elim
      | er => exact p.elim
      | rs d ρ' => exact p.elim
    · exact p.elim
/-- a def that may be called by its name: it gives g -/
structure Cal (P : Program) (w : World) (K : PySem.W.Frag) (mg : Str → Option Value) (base : Heap) (k : Nat) (x : Str) (g : List D → M D) : Prop where
  p : ∃ (f : Addr) (fd : FuncData) (ps : List Str), FnOk P w K mg base (L2N.CX P w) k f fd ps (spN mg K g) ∧ mg x = some (.ref f) ∧ PySem.W.keepIn K (.ref f) = true ∧ Binds K fd ps []
theorem Cal.mk' {k : Nat} {x qual : Str} {st : Stmt} {f : Addr} {fd : FuncData} {ps : List Str} {g : List D → M D} (F : FnOk P w K mg base (L2N.CX P w) k f fd ps (spN mg K g)) (Fn : Fun K x qual st f fd) (hm : mg x = some (.ref f)) (hb : Binds K fd ps []) : Cal P w K mg base k x g := ⟨f, fd, ps, F, hm, Fn.kp, hb⟩
theorem Cal.to {k : Nat} {x : Str} {g g' : List D → M D} (c : Cal P w K mg base k x g) (h : ∀ ds, g ds = g' ds) : Cal P w K mg base k x g' := by
  rw [← funext h]
  exact c
/-- what a def gives, known where it is known -/
theorem Cal.imp {k : Nat} {x : Str} {g g' : List D → M D} (c : Cal P w K mg base k x g) (h : ∀ ds, g' ds = .er ∨ g ds = g' ds) : Cal P w K mg base k x g' := by
  obtain ⟨f, fd, ps, F, h1, h2, h3⟩ := c.p
  refine ⟨f, fd, ps, F.imp fun vs H Q E ⟨ds, r, p⟩ => ⟨ds, r, ?_⟩, h1, h2, h3⟩
  rcases h ds with e | e
  · rw [e] at p; exact p.elim
  · rw [e]; exact p
end
section
variable {X : Cx} {W : WX} {S0 : Addr → Prop} {H0 : Hp} {rm m : Md} {pos p : Pos} {e : Expr} {es : List Expr} {fa : Rho → M (List D)} {x : Str} {j k : Nat} {g : List D → M D}
theorem Rp.ofO {K : PySem.W.Frag} {own : List Addr} {Hb H : Hp} {v : V} {d : D} (r : RM K S0 H0 own m Hb H v d) : Rp K (fun _ => True) H v d := by
  rcases r.toO (Hc := Hb) with r | ⟨a, rfl, hm, r⟩
  · exact r.keep (.wide fun _ _ => trivial)
  · cases d with
    | lst ds => obtain ⟨xs, e, r⟩ := r; exact .lst trivial e (r.keep (.wide fun _ _ => trivial))
    | dct ds => obtain ⟨xs, e, r⟩ := r; exact .dct trivial e (r.keep (.wide fun _ _ => trivial))
    | dk ds => obtain ⟨xs, e, r⟩ := r; exact .dk trivial e (r.keep (.wide fun _ _ => trivial))
    | obj p c ns ds => exact r.rp
    | pls p ds => obtain ⟨e0, xs, e, r⟩ := r; exact .pls trivial e (r.keep (.wide fun _ _ => trivial))
    | _ => exact r.elim
theorem RpA.ofO {K : PySem.W.Frag} {own : List Addr} {Hb H : Hp} {vs : List V} {ds : List D} (r : Paired (RM K S0 H0 own m Hb H) vs ds) : RpA K (fun _ => True) H vs ds := by
  induction r with
  | nil => exact .nil
  | cons a _ ih => exact .cons (Rp.ofO a) ih
def eCall (g : List D → M D) (fa : Rho → M (List D)) : Rho → M D := fun ρ => M.bind (fa ρ) g
theorem vx_call (c : Cal X.prog X.w X.K X.mg X.base k x g) (tk : L2N.Takes X W) (hr : Room j X.A) (hk : k ≤ j) (ha : VA X W S0 H0 .O (e :: es) fa) (hg : Gl X x := by rfl) (hdb : (x == ("__debug__" : Str)) = false := by decide)
    (he : starEach (e :: es) X.env = (false, eval e X.env) :: starEach es X.env := by rfl) (hpl : (backTo pos (starEach es X.env)).any (·.1) = false := by rfl) : VX X W S0 H0 .N (.Call (.Name x p) (e :: es) [] pos) (eCall g fa) := by
  obtain ⟨f, fd, ps, F, h1, h2, h3⟩ := c.p
  obtain ⟨ta, pa, qa⟩ := ha.p
  refine ⟨_, pe_callS F (hr.mono hk) hg h1 h2 h3 (fun σ => L2N.passAt tk σ) pa hdb he hpl, fun ρ σ own H Q R k => qa ρ σ own H _ R ?_⟩
  unfold eCall at k
  revert k
  cases fa ρ with
  | er => exact id
  | ex c => exact id
  | ok ds =>
    intro k vs H1 s1 r1
    rw [bind_ok] at k
    refine ⟨ds, RpA.ofO r1, ?_⟩
    revert k
    cases g ds with
    | er => exact id
    | ex c => exact fun k cv dd H' i s => k cv dd H' i (s1.trans s)
    | ok d => exact fun k v H' s r => k v H' (s1.trans s) (r.keep (.wide fun a ha => ⟨s1.free ha, sf_new (R.grow s1) ha⟩))
theorem vx_call0 (c : Cal X.prog X.w X.K X.mg X.base k x g) (hr : Room j X.A) (hk : k ≤ j) (tk : L2N.Takes X W) (hg : Gl X x := by rfl) (hdb : (x == ("__debug__" : Str)) = false := by decide) : VX X W S0 H0 .N (.Call (.Name x p) [] [] pos) (fun _ => g []) := by
  obtain ⟨f, fd, ps, F, h1, h2, h3⟩ := c.p
  refine ⟨fun σ H Q => spN X.mg X.K g [] H Q (WE W σ), ⟨fun pins s σ H Q I h => ?_⟩, fun ρ σ own H Q R k => ⟨[], .nil, ?_⟩⟩
  · refine wpAny_Call_Name_kw (ld_glob I hg h1 ?_ hdb)
    exact PySem.W.callWith_K0 I.kIn h2 (run_fnS (us := []) (vs := []) (E := WE W) F (hr.mono hk) h3 (L2N.passAt tk σ) I .nil h)
  · revert k
    cases g [] with
    | er => exact id
    | ex c => exact fun k cv dd H' i s => k cv dd H' i s
    | ok d => exact fun k v H' s r => k v H' s (r.keep (.wide fun a ha => ⟨ha, sf_new R ha⟩))
end
end VL
set_option Elab.async false
set_option linter.all false
set_option maxRecDepth 100000
/-! VL: what changes one's own lists and dicts; comprehensions. -/
namespace VL
open PySem L2 PySem.Spec PyProof.Rows

/-! ### one's own, changed -/
section
variable {X : Cx} {W : WX} {S0 : Addr → Prop} {H0 : Hp} {rm m mi : Md} {pos apos cpos pos' : Pos} {e ei : Expr} {es : List Expr} {fe fi : Rho → M D} {fa : Rho → M (List D)}
theorem own_lst {K : PySem.W.Frag} {ρ : Rho} {σ : Sg} {own : List Addr} {H : Hp} {i : Nat} {ds : List D} (R : Rel K S0 H0 ρ σ own H) (e : ρ[i]? = some (.ow (.lst ds))) : ∃ a xs, σ[i]? = some (some (.ref a)) ∧ a ∈ own ∧ H a = some (.lst xs) ∧ RpA K (SF H0 own) H xs ds := by
  obtain ⟨a, h1, h2, xs, h3, h4⟩ := R.ow i _ e
  exact ⟨a, xs, h1, h2, h3, h4⟩
theorem own_dct {K : PySem.W.Frag} {ρ : Rho} {σ : Sg} {own : List Addr} {H : Hp} {i : Nat} {ds : List (List Key × D)} (R : Rel K S0 H0 ρ σ own H) (e : ρ[i]? = some (.ow (.dct ds))) : ∃ a xs, σ[i]? = some (some (.ref a)) ∧ a ∈ own ∧ H a = some (.dT xs) ∧ RpT K (SF H0 own) H xs ds := by
  obtain ⟨a, h1, h2, xs, h3, h4⟩ := R.ow i _ e
  exact ⟨a, xs, h1, h2, h3, h4⟩
/-- over a change of one's own at a -/
theorem keep_upd {K : PySem.W.Frag} {ρ : Rho} {σ : Sg} {own : List Addr} {H : Hp} {a : Addr} {o : HO} (R : Rel K S0 H0 ρ σ own H) (ha : a ∈ own) : Keep (SF H0 own) (SF H0 own) H (upd H a o) where
  l := fun b u s e => ⟨s, by rw [upd_ne (fun z => s.1 (by rw [z]; exact ha))]; exact e⟩
  t := fun b u e => by
    have h : b ≠ a := fun z => by
      have := (R.own0 a ha).2
      rw [← z, e] at this; exact this
    rw [upd_ne h]; exact e
  z := fun b o u e => by
    have h : b ≠ a := fun z => by
      have := (R.own0 a ha).2
      rw [← z, e] at this; exact this
    rw [upd_ne h]; exact e
/-- a method of a list that changes it: what it makes of the list and the arguments -/
def MutG (X : Cx) (r : V → List V → Hp → VK → Prop) (eff : List D → List D → M (List D)) : Prop :=
  ∀ (S : Addr → Prop) (H : Hp) (a : Addr) (xs vs : List V) (ds as ds' : List D) (Q : VK), H a = some (.lst xs) → RpA X.K S H xs ds → RpA X.K S H vs as → eff ds as = .ok ds' → (∀ v xs', RpA X.K S H xs' ds' → Q v (upd H a (.lst xs'))) → r (.ref a) vs H Q
def sBm (i : Nat) (eff : List D → List D → M (List D)) (fa : Rho → M (List D)) : Rho → Res := fun ρ => match ρ[i]? with
  | some (.ow (.lst ds)) => (match fa ρ with
    | .ok as => (match eff ds as with | .ok ds' => .nx (ρ.set i (.ow (.lst ds'))) | _ => .er)
    | .ex c => .ex c ρ
    | .er => .er)
  | _ => .er
theorem vs_bm {r : V → List V → Hp → VK → Prop} {eff : List D → List D → M (List D)} {name : Str} {idn : String} (i : Nat) {x : Str} {px : Pos} (slot : Slot "list" name idn) (hty : typeOf (.builtin idn) = pure (.type "method_descriptor")) (hm : MtR X idn r) (hg : MutG X r eff) (h : VA X W S0 H0 .F (e :: es) fa) (hN : X.N[i]? = some x := by rfl)
    (hv : Vis X.env.scope x := by first | exact Or.inl rfl | exact Or.inr (Or.inl rfl) | exact Or.inr (Or.inr rfl)) (hd : (x == ("__debug__" : Str)) = false := by decide) (hcd : (x == ("__classdict__" : Str)) = false := by decide)
    (hbase : attributeBase (.Name x px) name X.env (eval (.Name x px) X.env) = eval (.Name x px) X.env := by rfl)
    (hfew : ((backTo cpos (starEach (e :: es) X.env)).all (fun x => !x.1) && (backToKw cpos (keywordEach [] X.env)).all (fun x => x.1.isSome)
      && decide ((e :: es).length + ([] : List Keyword).length + (if ([] : List Keyword).isEmpty then 0 else 1) < 30)) = true := by rfl)
    (hline : (apos.endLine == cpos.line) = true := by rfl) (hs : starEach (e :: es) X.env = (false, eval e X.env) :: starEach es X.env := by rfl) (hplain : (backTo cpos (starEach es X.env)).any (·.1) = false := by rfl)
    (hsw : swapsWith (.Call (.Attribute (.Name x px) name apos) (e :: es) [] cpos) none pos.line X.env = pure false := by rfl) :
    VS X W S0 H0 rm (.Expr (.Call (.Attribute (.Name x px) name apos) (e :: es) [] cpos) pos) (sBm i eff fa) := by
  obtain ⟨te, p, q⟩ := h.p
  refine ⟨_, ps_expr (pe_bm PySem.F.plainAttrs_list slot hty hm (pe_var hN hv hd hcd) p hbase hfew hline hs hplain) hsw, fun ρ σ own H D R k => ?_⟩
  unfold sBm at k
  split at k
  · next ds es =>
    obtain ⟨a, xs, h1, h2, h3, h4⟩ := own_lst R es
    refine ⟨.ref a, h1, .inl ⟨rfl, xs, SqL.of h3⟩, q ρ σ own H _ R ?_⟩
    revert k
    cases fa ρ with
    | er => exact id
    | ex c => exact fun k cv d H' i s => k cv d σ own H' i (R.grow s) (.same s)
    | ok as =>
      intro k vs H' s r
      dsimp only at k
      split at k
      · next ds' ee =>
        have R' := R.grow s
        refine hg (SF H0 own) H' a xs vs ds as ds' _ (s a _ h3) (h4.keep (.same s)) (RpA.ofP r) ee fun v xs' r' => ?_
        obtain ⟨R2, F2⟩ := R'.chg (d' := .lst ds') (o := .lst xs') es h1 trivial ⟨_, upd_same, r'.keep (keep_upd R' h2)⟩
        exact k σ own _ R2 ((Fra.same s).trans F2)
      · exact k.elim
  · exact k.elim
def appE : List D → List D → M (List D) := fun ds as => match as with
  | [d] => if ds.length < sizeLine then .ok (ds ++ [d]) else .er
  | _ => .er
theorem mg_app : MutG X rAppend appE := by
  intro S H a xs vs ds as ds' Q h r r2 e k
  unfold appE at e
  split at e
  · split at e
    · next hl =>
      cases e
      cases r2 with
      | cons r3 r4 =>
        cases r4
        exact ⟨a, xs, _, rfl, rfl, h, by rw [r.length]; exact hl, k _ _ (r.append (.cons r3 .nil))⟩
    · cases e
  · cases e
theorem RpA.reverse {K : PySem.W.Frag} {S : Addr → Prop} {H : Hp} : ∀ {vs : List V} {ds : List D}, RpA K S H vs ds → RpA K S H vs.reverse ds.reverse
  | _, _, .nil => .nil
  | _, _, .cons r t => by
    rw [List.reverse_cons, List.reverse_cons]
    exact t.reverse.append (.cons r .nil)

/-- d[k] = v, d one's own dict with tuple keys -/
def putT (kvs : List (List Key × D)) (k : List Key) (v : D) : List (List Key × D) :=
  if (kvs.any fun kv => decide (kv.1 = k)) = true then kvs.map (fun kv => if kv.1 = k then (kv.1, v) else kv) else kvs ++ [(k, v)]
theorem RpT.any {K : PySem.W.Frag} {S : Addr → Prop} {H : Hp} (k : List Key) : ∀ {vs : List (List Key × V)} {ds : List (List Key × D)}, RpT K S H vs ds → (vs.any fun kv => decide (kv.1 = k)) = ds.any fun kv => decide (kv.1 = k)
  | _, _, .nil => rfl
  | _, _, .cons _ r => by simp only [List.any_cons]; rw [RpT.any k r]
theorem RpT.repl {K : PySem.W.Frag} {S : Addr → Prop} {H : Hp} {v : V} {d : D} (k : List Key) (rv : Rp K S H v d) : ∀ {vs : List (List Key × V)} {ds : List (List Key × D)}, RpT K S H vs ds → RpT K S H (vs.map fun kv => if kv.1 = k then (kv.1, v) else kv) (ds.map fun kv => if kv.1 = k then (kv.1, d) else kv)
  | _, _, .nil => .nil
  | (k1, v1) :: _, (_, d1) :: _, .cons h r => by
    simp only [List.map_cons]
    by_cases e : k1 = k
    · rw [if_pos e, if_pos e]
      exact .cons rv (RpT.repl k rv r)
    · rw [if_neg e, if_neg e]
      exact .cons h (RpT.repl k rv r)
theorem RpT.snoc {K : PySem.W.Frag} {S : Addr → Prop} {H : Hp} {v : V} {d : D} (k : List Key) (rv : Rp K S H v d) : ∀ {vs : List (List Key × V)} {ds : List (List Key × D)}, RpT K S H vs ds → RpT K S H (vs ++ [(k, v)]) (ds ++ [(k, d)])
  | _, _, .nil => .cons rv .nil
  | _, _, .cons h r => .cons h (RpT.snoc k rv r)
theorem RpT.put {K : PySem.W.Frag} {S : Addr → Prop} {H : Hp} {v : V} {d : D} {vs : List (List Key × V)} {ds : List (List Key × D)} (k : List Key) (rv : Rp K S H v d) (r : RpT K S H vs ds) : RpT K S H (putK vs k v) (putT ds k d) := by
  unfold putK putT
  rw [r.any k]
  split
  · exact r.repl k rv
  · exact r.snoc k rv
theorem RpT.length {K : PySem.W.Frag} {S : Addr → Prop} {H : Hp} : ∀ {vs : List (List Key × V)} {ds : List (List Key × D)}, RpT K S H vs ds → vs.length = ds.length
  | _, _, .nil => rfl
  | _, _, .cons _ r => congrArg (· + 1) (RpT.length r)
def sPut (i : Nat) (fk fv : Rho → M D) : Rho → Res := fun ρ => match ρ[i]? with
  | some (.ow (.dct kvs)) => ofM ρ (fun v => ofM ρ (fun k => match k with
    | .tup ks => (match keyOf ks with
      | some ks => if kvs.length < sizeLine then .nx (ρ.set i (.ow (.dct (putT kvs ks v)))) else .er
      | none => .er)
    | _ => .er) (fk ρ)) (fv ρ)
  | _ => .er
theorem vs_put (i : Nat) {x : Str} {px : Pos} (hu : X.A.units + 1 < cLine) (hk : VX X W S0 H0 mi ei fi) (hv : VX X W S0 H0 .F e fe) (hN : X.N[i]? = some x := by rfl)
    (hvis : Vis X.env.scope x := by first | exact Or.inl rfl | exact Or.inr (Or.inl rfl) | exact Or.inr (Or.inr rfl)) (hd : (x == ("__debug__" : Str)) = false := by decide) (hcd : (x == ("__classdict__" : Str)) = false := by decide)
    (hs : swapsWith e (some (.Subscript (.Name x px) ei pos')) pos.line X.env = pure false := by rfl) : VS X W S0 H0 rm (.Assign [.Subscript (.Name x px) ei pos'] e pos) (sPut i fi fe) := by
  obtain ⟨tv, pv, qv⟩ := hv.p
  obtain ⟨tk, pk, qk⟩ := hk.p
  refine ⟨_, ps_dput hu (pe_var hN hvis hd hcd) pk pv hs, fun ρ σ own H D R k => ?_⟩
  unfold sPut at k
  split at k
  · next kvs es =>
    obtain ⟨a, xs, h1, h2, h3, h4⟩ := own_dct R es
    refine qv ρ σ own H _ R ?_
    revert k
    cases fe ρ with
    | er => exact id
    | ex c => exact fun k cv d H' i s => k cv d σ own H' i (R.grow s) (.same s)
    | ok d =>
      intro k v H1 s1 r1
      refine ⟨.ref a, h1, qk ρ σ own H1 _ (R.grow s1) ?_⟩
      rw [ofM_ok] at k
      revert k
      cases fi ρ with
      | er => exact id
      | ex c => exact fun k cv d H' i s => k cv d σ own H' i ((R.grow s1).grow s) (.same (s1.trans s))
      | ok kd =>
        intro k y H2 s2 r2
        cases kd with
        | tup ks0 =>
          rw [ofM_ok] at k
          dsimp only at k
          split at k
          · next ks ek =>
            split at k
            · next hl =>
              obtain ⟨b, ys, rfl, h5, h6⟩ := r2.isTup
              have s12 := s1.trans s2
              have R2 := R.grow s12
              have h4' : RpT X.K (SF H0 own) H2 xs kvs := h4.keep (.same s12)
              have r1' : Rp X.K (SF H0 own) H2 v d := Rp.keep (.same s2) r1
              refine ⟨a, _, rfl, .inr ⟨xs, ks, b, s12 a _ h3, rfl, by rw [← h6.keys ek]; exact h5, by rw [h4'.length]; exact hl, rfl⟩, ?_⟩
              obtain ⟨R3, F3⟩ := R2.chg (d' := .dct (putT kvs ks d)) (o := .dT (putK xs ks v)) es h1 trivial ⟨_, upd_same, (h4'.put ks r1').keep (keep_upd R2 h2)⟩
              exact k σ own _ R3 ((Fra.same s12).trans F3)
            · exact k.elim
          · exact k.elim
        | _ => exact k.elim
  · exact k.elim
/-- {} -/
theorem vx_dnewT : VX X W S0 H0 .N (.Dict [] [] pos) (eC (.dct [])) := ⟨_, pe_dnewT, fun ρ σ own H Q R k p hp => k _ _ (same_upd hp) (Rp.dct ⟨hp, sf_new R hp⟩ upd_same .nil)⟩
end

/-! ### comprehensions -/
section
variable {X : Cx} {W : WX} {S0 : Addr → Prop} {H0 : Hp} {m : Md} {pos : Pos} {elt tg iter : Expr} {ifs : List Expr} {scope : Scope} {own : List (Str × Nat)} {fi : Rho → M (List D)} {ft : D → Rho → Option Rho} {fc : Rho → M Bool} {fe : Rho → M D}
structure VTs (X : Cx) (W : WX) (S0 : Addr → Prop) (H0 : Hp) (es : List Expr) (f : Rho → M Bool) : Prop where
  p : ∃ te, PTs X es te ∧ ∀ ρ σ own H Q, Rel X.K S0 H0 ρ σ own H → PXT X W H σ Q (f ρ) → te σ H Q
def cYes : Rho → M Bool := fun _ => .ok true
theorem vts_nil : VTs X W S0 H0 [] cYes := ⟨_, pts_nil, fun ρ σ own H Q R k => k H (Same.refl H)⟩
theorem vts_one {c : Expr} (h : VT X W S0 H0 c fc) : VTs X W S0 H0 [c] fc := by
  obtain ⟨te, p, q⟩ := h.p
  exact ⟨_, pts_one p, q⟩
def compL (tg : D → Rho → Option Rho) (c : Rho → M Bool) (f : Rho → M D) (ρ : Rho) : List D → M (List D)
  | [] => .ok []
  | d :: ds => match tg d ρ with
    | none => .er
    | some ρ1 => match c ρ1 with
      | .ok true => (match f ρ1 with
        | .ok y => M.bind (compL tg c f ρ ds) fun ys => .ok (y :: ys)
        | _ => .er)
      | .ok false => compL tg c f ρ ds
      | _ => .er
def eComp (ks : List Nat) (fi : Rho → M (List D)) (tg : D → Rho → Option Rho) (c : Rho → M Bool) (f : Rho → M D) : Rho → M D := fun ρ => M.bind (fi ρ) fun ds =>
  if ds.length ≤ sizeLine then M.bind (compL tg c f (wipeR ks ρ) ds) fun ys => .ok (.lst ys) else .er
theorem Rel.blk {K : PySem.W.Frag} {ρ : Rho} {σ : Sg} {ow : List Addr} {H : Hp} (R : Rel K S0 H0 ρ σ ow H) : ∀ ks : List Nat, Rel K S0 H0 (wipeR ks ρ) (L2.wipe σ ks) ow H
  | [] => R
  | k :: ks => by
    have R' := Rel.blk R ks
    show Rel K S0 H0 ((wipeR ks ρ).set k .no) ((L2.wipe σ ks).set k none) ow H
    have g : ∀ (i : Nat) (s : Sl), ((wipeR ks ρ).set k .no)[i]? = some s → s = .no ∨ (i ≠ k ∧ (wipeR ks ρ)[i]? = some s) := fun i s h => by
      rcases get_set h with ⟨_, z, _⟩ | ⟨z, h⟩
      · exact .inl z
      · exact .inr ⟨z, h⟩
    refine ⟨fun i d e => ?_, fun i d e => ?_, fun i d e => ?_, fun i j d e a b q => ?_, fun i d a e1 e2 x hx => ?_, R'.own0, R'.same, by simp [R'.len]⟩
    · rcases g i _ e with z | ⟨z, e⟩
      · cases z
      · rw [List.getElem?_set_ne (Ne.symm z)]; exact R'.sh i d e
    · rcases g i _ e with z | ⟨z, e⟩
      · cases z
      · rw [List.getElem?_set_ne (Ne.symm z)]; exact R'.fr i d e
    · rcases g i _ e with z | ⟨z, e⟩
      · cases z
      · rw [List.getElem?_set_ne (Ne.symm z)]; exact R'.ow i d e
    · rcases g i _ a with z | ⟨z, a⟩
      · cases z
      · rcases g j _ b with y | ⟨y, b⟩
        · cases y
        · rw [List.getElem?_set_ne (Ne.symm z), List.getElem?_set_ne (Ne.symm y)] at q
          exact R'.dis i j d e a b q
    · rcases g i _ e1 with z | ⟨z, e1⟩
      · cases z
      · rw [List.getElem?_set_ne (Ne.symm z)] at e2
        obtain ⟨h1, h2⟩ := R'.sub i d a e1 e2 x hx
        refine ⟨h1, fun j e b g1 g2 => ?_⟩
        rcases g j _ g1 with y | ⟨y, g1⟩
        · cases y
        · rw [List.getElem?_set_ne (Ne.symm y)] at g2
          exact h2 j e b g1 g2
theorem wipe_get : ∀ (ks : List Nat) (σ : Sg) (j : Nat), (L2.wipe σ ks)[j]? = if j ∈ ks ∧ j < σ.length then some none else σ[j]?
  | [], σ, j => by simp [L2.wipe]
  | k :: ks, σ, j => by
    show ((L2.wipe σ ks).set k none)[j]? = _
    by_cases e : k = j
    · subst e
      by_cases hl : k < σ.length
      · rw [List.getElem?_set_self (by rw [wipe_length]; exact hl), if_pos ⟨List.mem_cons_self, hl⟩]
      · rw [List.getElem?_eq_none (by rw [List.length_set, wipe_length]; omega), if_neg (fun z => hl z.2), List.getElem?_eq_none (by omega)]
    · rw [List.getElem?_set_ne e, wipe_get ks σ j]
      have : (j ∈ k :: ks) ↔ j ∈ ks := by simp [Ne.symm e]
      simp only [this]
theorem wipe_only {k1 ks : List Nat} {σ σ2 : Sg} (o : OnlyS k1 (L2.wipe σ ks) σ2) (h : ∀ k ∈ k1, k ∈ ks) : L2.wipe σ2 ks = L2.wipe σ ks := by
  apply List.ext_getElem?
  intro j
  have hl : σ2.length = σ.length := by rw [o.1, wipe_length]
  rw [wipe_get, wipe_get, hl]
  by_cases hj : j ∈ ks ∧ j < σ.length
  · rw [if_pos hj, if_pos hj]
  · rw [if_neg hj, if_neg hj]
    by_cases hm : j ∈ ks
    · have : ¬ j < σ.length := fun z => hj ⟨hm, z⟩
      rw [List.getElem?_eq_none (by omega), List.getElem?_eq_none (by omega)]
    · rw [o.2 j (fun z => hm (h j z)), wipe_get, if_neg hj]
end
/-! ### one reading for all blocks -/
abbrev Bi := Shared × Hp × Addr × List (Str × Addr) × List Addr
abbrev blkOf (X : Cx) (scope : Scope) (i : Bi) : Cx := X.blk i.1 i.2.1 scope (compEnvC scope i.2.2.2.1 i.2.2.1 X.env) i.2.2.2.2
abbrev W0 : WX := fun _ _ _ _ => False
section
variable {X : Cx} {W : WX} {S0 : Addr → Prop} {H0 : Hp} {m : Md} {pos : Pos} {elt tg iter : Expr} {ifs : List Expr} {scope : Scope} {own : List (Str × Nat)} {fi : Rho → M (List D)} {ft : D → Rho → Option Rho} {fc : Rho → M Bool} {fe : Rho → M D} {k1 : List Nat}
theorem vx_all (h : ∀ i : Bi, VX (blkOf X scope i) W0 S0 H0 m elt fe) : ∃ te, (∀ i : Bi, PE (blkOf X scope i) elt te) ∧ ∀ ρ σ own H Q, Rel X.K S0 H0 ρ σ own H → PX X W0 S0 H0 own m H σ Q (fe ρ) → te σ H Q := by
  refine ⟨fun σ H Q => ∀ i : Bi, (Classical.choose (h i).p) σ H Q, fun i => ⟨fun pins s σ H Q I q => (Classical.choose_spec (h i).p).1.run pins s σ H Q I (q i)⟩, fun ρ σ own H Q R k i => (Classical.choose_spec (h i).p).2 ρ σ own H Q R ?_⟩
  revert k
  cases fe ρ with
  | er => exact id
  | ex c => exact id
  | ok d => exact id
theorem vts_all (h : ∀ i : Bi, VTs (blkOf X scope i) W0 S0 H0 ifs fc) : ∃ te, (∀ i : Bi, PTs (blkOf X scope i) ifs te) ∧ ∀ ρ σ own H Q, Rel X.K S0 H0 ρ σ own H → PXT X W0 H σ Q (fc ρ) → te σ H Q := by
  refine ⟨fun σ H Q => ∀ i : Bi, (Classical.choose (h i).p) σ H Q, fun i => ⟨fun pins s σ H Q I q => (Classical.choose_spec (h i).p).1.run pins s σ H Q I (q i)⟩, fun ρ σ own H Q R k i => (Classical.choose_spec (h i).p).2 ρ σ own H Q R ?_⟩
  revert k
  cases fc ρ with
  | er => exact id
  | ex c => exact id
  | ok d => exact id
theorem vg_all (h : ∀ i : Bi, VG (blkOf X scope i) S0 H0 k1 tg ft) : ∃ g, (∀ i : Bi, PG (blkOf X scope i) tg g) ∧ ∀ v d ρ ρ' σ own H Q, Rel X.K S0 H0 ρ σ own H → Rp X.K (SA S0 H0 own) H v d → ft d ρ = some ρ' → (∀ σ', Rel X.K S0 H0 ρ' σ' own H → OnlyS k1 σ σ' → Q σ' H) → g v σ H Q :=
  ⟨fun v σ H Q => ∀ i : Bi, (Classical.choose (h i).p) v σ H Q, fun i => ⟨fun pins s σ H v u Q I r q => (Classical.choose_spec (h i).p).1.run pins s σ H v u Q I r (q i)⟩, fun v d ρ ρ' σ own H Q R r e k i => (Classical.choose_spec (h i).p).2 v d ρ ρ' σ own H Q R r e k⟩
/-- a further address of one's own, in no slot -/
theorem Rel.plus {K : PySem.W.Frag} {ρ : Rho} {σ : Sg} {ow : List Addr} {Hb H : Hp} {a : Addr} (R : Rel K S0 H0 ρ σ ow Hb) (hs : Same Hb H) (hb : Hb a = none) (hm : Mt (H a)) : Rel K S0 H0 ρ σ (a :: ow) H := by
  have f : Fra ow Hb (a :: ow) H := ⟨fun b o e _ => hs b o e, fun b hm => (List.mem_cons.mp hm).elim (fun z => .inr (by rw [z]; exact hb)) .inl⟩
  refine ⟨fun j e q => ?_, fun j e q => ?_, fun j e q => ?_, R.dis, fun i d b e1 e2 x hx => let ⟨h1, h2⟩ := (R.grow hs).sub i d b e1 e2 x hx; ⟨List.mem_cons_of_mem _ h1, h2⟩, fun b hm' => ?_, R.same.trans hs, R.len⟩
  · obtain ⟨v, h1, h2⟩ := R.sh j e q
    exact ⟨v, h1, h2.keep (f.keepA R.own0)⟩
  · obtain ⟨v, h1, h2⟩ := R.fr j e q
    exact ⟨v, h1, h2.keep (f.keepF R.own0)⟩
  · obtain ⟨b, h1, h2, h3⟩ := R.ow j e q
    exact ⟨b, h1, List.mem_cons_of_mem _ h2, h3.keep (f.keepF R.own0) fun _ _ o q => hs _ o q⟩
  · rcases List.mem_cons.mp hm' with rfl | hm'
    · exact ⟨R.same.free hb, hm⟩
    · refine ⟨(R.own0 b hm').1, ?_⟩
      obtain ⟨u, e⟩ := mt_some (R.own0 b hm').2
      have m := (R.own0 b hm').2
      rw [hs b u e, ← e]
      exact m
def SM (S0 : Addr → Prop) (H0 : Hp) (Hb : Hp) (own : List Addr) : Md → Addr → Prop
  | .O => fun _ => False
  | .E => SA S0 H0 own
  | .F => SF H0 own
  | .N => SN Hb H0 own
theorem RM.sm {K : PySem.W.Frag} {ow : List Addr} {Hb H : Hp} {v : V} {d : D} (hm : m ≠ .O) : RM K S0 H0 ow m Hb H v d ↔ Rp K (SM S0 H0 Hb ow m) H v d := by
  cases m with
  | O => exact absurd rfl hm
  | _ => exact Iff.rfl
theorem SM.less {Hb Hc : Hp} {ow : List Addr} {a b : Addr} (hm : m ≠ .O) (h : SM S0 H0 Hb (b :: ow) m a) (hs : Same Hc Hb) : SM S0 H0 Hc ow m a := by
  cases m with
  | O => exact absurd rfl hm
  | E => exact ⟨fun z => h.1 (List.mem_cons_of_mem _ z), h.2⟩
  | F => exact ⟨fun z => h.1 (List.mem_cons_of_mem _ z), h.2⟩
  | N => exact ⟨hs.free h.1, fun z => h.2.1 (List.mem_cons_of_mem _ z), h.2.2⟩
theorem SM.ne {Hb : Hp} {ow : List Addr} {a b : Addr} (hm : m ≠ .O) (h : SM S0 H0 Hb (b :: ow) m a) : a ≠ b := fun z => by
  have hb : a ∈ b :: ow := by rw [z]; exact List.mem_cons_self
  cases m with
  | O => exact hm rfl
  | E => exact h.1 hb
  | F => exact h.1 hb
  | N => exact h.2.1 hb
theorem lc_run {te : TE} {tt : TT} {g : TG} {wi : TI} {ks : List Nat} (hm : m ≠ .O) (hk : ∀ k ∈ k1, k ∈ ks)
    (qi : ∀ ρ σ own H R, Rel X.K S0 H0 ρ σ own H → PXI X W S0 H0 own H σ R (fi ρ) → wi σ H R)
    (qg : ∀ v d ρ ρ' σ own H Q, Rel X.K S0 H0 ρ σ own H → Rp X.K (SA S0 H0 own) H v d → ft d ρ = some ρ' → (∀ σ', Rel X.K S0 H0 ρ' σ' own H → OnlyS k1 σ σ' → Q σ' H) → g v σ H Q)
    (qt : ∀ ρ σ own H Q, Rel X.K S0 H0 ρ σ own H → PXT X W0 H σ Q (fc ρ) → tt σ H Q)
    (qe : ∀ ρ σ own H Q, Rel X.K S0 H0 ρ σ own H → PX X W0 S0 H0 own m H σ Q (fe ρ) → te σ H Q) :
    ∀ ρ σ own H Q, Rel X.K S0 H0 ρ σ own H → PX X W S0 H0 own m H σ Q (eComp ks fi ft fc fe ρ) → tLc wi g tt te ks σ H Q := by
  intro ρ σ ow H Q R k
  refine qi ρ σ ow H _ R ?_
  unfold eComp at k
  revert k
  cases fi ρ with
  | er => exact id
  | ex c => exact id
  | ok ds =>
    intro k J H1 s1 wk L hL
    rw [bind_ok] at k
    split at k
    · next hlen =>
      cases ec : compL ft fc fe (wipeR ks ρ) ds with
      | er => rw [ec] at k; exact k.elim
      | ex c =>
        exact absurd ec (fun z => by
          have nx : ∀ (ds : List D) (c : Xc), compL ft fc fe (wipeR ks ρ) ds ≠ .ex c := by
            intro ds
            induction ds with
            | nil => intro c h; cases h
            | cons d ds ih =>
              intro c h
              unfold compL at h
              split at h
              · cases h
              · split at h
                · split at h
                  · cases e : compL ft fc fe (wipeR ks ρ) ds with
                    | ok zs => rw [e] at h; cases h
                    | ex c' => exact ih c' e
                    | er => rw [e] at h; cases h
                  · cases h
                · exact ih c h
                · cases h
          exact nx ds c z)
      | ok ys =>
        rw [ec, bind_ok] at k
        have R1 := R.grow s1
        have B1 : Rel X.K S0 H0 (wipeR ks ρ) (L2.wipe σ ks) ow H1 := R1.blk ks
        have nL : L ∉ ow := own_new R1 hL
        refine ⟨fun i m' H' => ∃ (vs : List V) (acc rest : List D), H' L = some (.lst vs) ∧ (∀ a o, H1 a = some o → H' a = some o) ∧ RpA X.K (SM S0 H0 H1 (L :: ow) m) H' vs acc ∧ compL ft fc fe (wipeR ks ρ) (ds.drop i) = .ok rest ∧ ys = acc ++ rest ∧ acc.length ≤ i ∧ m' = ds.length - i ∧ i ≤ ds.length,
          ⟨ds.length, [], [], ys, upd_same, same_upd hL, .nil, by simpa using ec, rfl, Nat.le_refl _, by simp, by simp⟩, ?_⟩
        rintro i m' H' ⟨vs, acc, rest, hv, hs, ra, er, ey, hacc, rfl, hi⟩
        have RL : Rel X.K S0 H0 (wipeR ks ρ) (L2.wipe σ ks) (L :: ow) H' := B1.plus hs hL (by rw [hv]; trivial)
        have FL : Fra ow H1 (L :: ow) H' := ⟨fun a o e _ => hs a o e, fun a ha => (List.mem_cons.mp ha).elim (fun z => .inr (by rw [z]; exact hL)) .inl⟩
        obtain ⟨w1, w2, w3⟩ := wk (L :: ow) H' FL RL.same RL.own0 i
        by_cases hlt : i < ds.length
        · refine .inr ⟨w1 hlt, fun H2 => ∃ (vs : List V) (acc rest : List D), H2 L = some (.lst vs) ∧ (∀ a o, H1 a = some o → H2 a = some o) ∧ RpA X.K (SM S0 H0 H1 (L :: ow) m) H2 vs acc ∧ compL ft fc fe (wipeR ks ρ) (ds.drop (i + 1)) = .ok rest ∧ ys = acc ++ rest ∧ acc.length ≤ i + 1,
            fun H2 ⟨vs, acc, rest, a1, a2, a3, a4, a5, a6⟩ => ⟨ds.length - (i + 1), by omega, vs, acc, rest, a1, a2, a3, a4, a5, a6, rfl, hlt⟩, fun x H2 hy => ?_⟩
          obtain ⟨s2, d, hd, rd⟩ := w3 x H2 hlt hy
          have ed : ds.drop i = d :: ds.drop (i + 1) := by
            rw [List.drop_eq_getElem_cons hlt]
            rw [List.getElem?_eq_getElem hlt] at hd
            rw [Option.some.inj hd]
          rw [ed] at er
          unfold compL at er
          cases et : ft d (wipeR ks ρ) with
          | none => rw [et] at er; cases er
          | some ρ1 =>
            rw [et] at er
            dsimp only at er
            refine qg x d _ ρ1 _ (L :: ow) H2 _ (RL.grow s2) rd et fun σ3 R3 o3 => ⟨wipe_only o3 hk, qt ρ1 σ3 (L :: ow) H2 _ R3 ?_⟩
            cases ecc : fc ρ1 with
            | er => rw [ecc] at er; cases er
            | ex c => rw [ecc] at er; cases er
            | ok b =>
              rw [ecc] at er
              intro H3 s3
              have s23 := s2.trans s3
              have ra3 : RpA X.K (SM S0 H0 H1 (L :: ow) m) H3 vs acc := ra.keep (.same s23)
              cases b with
              | false =>
                rw [if_neg Bool.false_ne_true]
                exact ⟨vs, acc, rest, s23 L _ hv, fun a o e => s23 a o (hs a o e), ra3, er, ey, by omega⟩
              | true =>
                rw [if_pos rfl]
                refine qe ρ1 σ3 (L :: ow) H3 _ (R3.grow s3) ?_
                cases eff : fe ρ1 with
                | er => rw [eff] at er; cases er
                | ex c => rw [eff] at er; cases er
                | ok y =>
                  rw [eff] at er
                  intro vy H4 s4 r4
                  have s24 := s23.trans s4
                  have h4 := s24 L _ hv
                  cases ecl : compL ft fc fe (wipeR ks ρ) (ds.drop (i + 1)) with
                  | er => rw [ecl] at er; cases er
                  | ex c => rw [ecl] at er; cases er
                  | ok zs =>
                    rw [ecl] at er
                    have er' : M.ok (y :: zs) = M.ok rest := er
                    have er2 : y :: zs = rest := M.ok.inj er'
                    have hv' : vs.length = acc.length := ra.length
                    have hsz : acc.length < ds.length := by omega
                    refine ⟨vs, h4, by omega, vs ++ [vy], acc ++ [y], zs, upd_same, fun a o e => ?_, ?_, (by first | exact ecl | rfl), by rw [ey, ← er2]; simp, by simp; omega⟩
                    · have na : a ≠ L := fun z => by rw [z, hL] at e; cases e
                      rw [upd_ne na]
                      exact s24 a o (hs a o e)
                    · have kp : Keep (SM S0 H0 H1 (L :: ow) m) (SM S0 H0 H1 (L :: ow) m) H4 (upd H4 L (.lst (vs ++ [vy]))) :=
                        ⟨fun a o s e => ⟨s, by rw [upd_ne (SM.ne hm s)]; exact e⟩, fun a u e => by rw [upd_ne (fun z => by rw [z, h4] at e; cases e)]; exact e, fun a o u e => by rw [upd_ne (fun z => by rw [z, h4] at e; cases e)]; exact e⟩
                      have r5 : Rp X.K (SM S0 H0 H1 (L :: ow) m) H4 vy y := Rp.keep (.wide fun a s => by
                        cases m with
                        | O => exact absurd rfl hm
                        | E => exact s
                        | F => exact s
                        | N => exact ⟨Same.free (fun a o e => s23 a o (hs a o e)) s.1, s.2⟩) ((RM.sm hm).mp r4)
                      exact ((ra3.keep (.same s4)).append (.cons r5 .nil)).keep kp
        · refine .inl ⟨w2 (by omega), ?_⟩
          rw [List.drop_of_length_le (by omega)] at er
          have er2 : ([] : List D) = rest := M.ok.inj er
          have ey' : ys = acc := by rw [ey, ← er2, List.append_nil]
          refine k (.ref L) H' (s1.trans hs) ?_
          rw [ey']
          refine (RM.sm hm).mpr ?_
          refine .lst ?_ hv (ra.keep (.wide fun a s => SM.less hm s s1))
          have h0 := R1.same.free hL
          cases m with
          | O => exact absurd rfl hm
          | E => exact ⟨nL, .inr h0⟩
          | F => exact ⟨nL, h0⟩
          | N => exact ⟨s1.free hL, nL, h0⟩
    · exact k.elim
theorem vx_lc (hm : m ≠ .O) (hc : X.calm = true) (hN : X.N.Nodup) (hi : VI X W S0 H0 tg iter fi) (ok : BlkOk X.N X.env.scope scope own) (hg : ∀ i : Bi, VG (blkOf X scope i) S0 H0 k1 tg ft) (ht : ∀ i : Bi, VTs (blkOf X scope i) W0 S0 H0 ifs fc)
    (he : ∀ i : Bi, VX (blkOf X scope i) W0 S0 H0 m elt fe) (hk : ∀ k ∈ k1, k ∈ own.map (·.2) := by decide) : VX X W S0 H0 m (.ListComp elt [⟨tg, iter, ifs, 0⟩] scope pos) (eComp (own.map (·.2)) fi ft fc fe) := by
  obtain ⟨wi, pi, qi⟩ := hi.p
  obtain ⟨g, pg, qg⟩ := vg_all hg
  obtain ⟨tt, pt, qt⟩ := vts_all ht
  obtain ⟨te, pe, qe⟩ := vx_all he
  exact ⟨_, pe_lc hc hN pi ok (fun s H C cl fp => pg (s, H, C, cl, fp)) (fun s H C cl fp => pt (s, H, C, cl, fp)) (fun s H C cl fp => pe (s, H, C, cl, fp)) hi.s, lc_run hm hk qi qg qt qe⟩
section
variable {rm : Md} {i : Nat} {y : Str} {py spos : Pos}
/-- y = [..] on one line -/
theorem lcs (hm : m ≠ .O) (hc : X.calm = true) (hN : X.N.Nodup) (hy : X.N[i]? = some y) (hyl : X.env.scope.names.lookup y = some .local) (hsw : swapsWith (.ListComp elt [⟨tg, iter, ifs, 0⟩] scope pos) (some (.Name y py)) spos.line X.env = pure true)
    (hi : VI X W S0 H0 tg iter fi) (ok : BlkOk X.N X.env.scope scope own) (hg : ∀ i : Bi, VG (blkOf X scope i) S0 H0 k1 tg ft) (ht : ∀ i : Bi, VTs (blkOf X scope i) W0 S0 H0 ifs fc)
    (he : ∀ i : Bi, VX (blkOf X scope i) W0 S0 H0 m elt fe) (hk : ∀ k ∈ k1, k ∈ own.map (·.2)) : ∃ te : TE, PS X (.Assign [.Name y py] (.ListComp elt [⟨tg, iter, ifs, 0⟩] scope pos) spos) (tAsg te (gName i)) ∧
      ∀ ρ σ ow H Q, Rel X.K S0 H0 ρ σ ow H → PX X W S0 H0 ow m H σ Q (eComp (own.map (·.2)) fi ft fc fe ρ) → te σ H Q := by
  obtain ⟨wi, pi, qi⟩ := hi.p
  obtain ⟨g, pg, qg⟩ := vg_all hg
  obtain ⟨tt, pt, qt⟩ := vts_all ht
  obtain ⟨te, pe, qe⟩ := vx_all he
  exact ⟨_, ps_setLc hc hN hy hyl hsw pi ok (fun s H C cl fp => pg (s, H, C, cl, fp)) (fun s H C cl fp => pt (s, H, C, cl, fp)) (fun s H C cl fp => pe (s, H, C, cl, fp)) hi.s, lc_run hm hk qi qg qt qe⟩
end
end
end VL
set_option Elab.async false
set_option linter.all false
set_option maxRecDepth 100000
/-! VL: isinstance, all, any, zip, enumerate, reversed, slices, tuples taken apart. -/
namespace VL
open PySem L2 PySem.Spec PyProof.Rows
section
variable {X : Cx} {W : WX} {S0 : Addr → Prop} {H0 : Hp} {rm m ma : Md} {pos p p2 : Pos} {e e2 : Expr} {es : List Expr} {fe f2 : Rho → M D} {fa : Rho → M (List D)} {x T T2 : Str}
/-! ### isinstance -/
inductive Tg where
  | non | bl | int | str | tup | lst | dct
def Tg.n : Tg → String
  | .non => "NoneType" | .bl => "bool" | .int => "int" | .str => "str" | .tup => "tuple" | .lst => "list" | .dct => "dict"
def tagD : D → Tg
  | .non => .non
  | .bl _ => .bl
  | .int _ => .int
  | .str _ => .str
  | .tup _ => .tup
  | .kt _ => .tup
  | .lst _ => .lst
  | .fz _ => .lst
  | .dct _ => .dct
  | .dk _ => .dct
  | .obj _ _ _ _ => .non
  | .pls _ _ => .non
  | .raw _ => .non
/-- an object of one's own class: no rule asks its type -/
def isOb : D → Bool
  | .obj _ _ _ _ => true
  | .pls _ _ => true
  | .raw _ => true
  | _ => false
def tyD (d : D) : String := (tagD d).n
theorem tyX_of {K : PySem.W.Frag} {own : List Addr} {Hb H : Hp} {v : V} {d : D} (r : RM K S0 H0 own m Hb H v d) (ho : isOb d = false) : TyX K H v (.type (tyD d)) := by
  cases d with
  | obj p c ns ds => cases ho
  | pls p ds => cases ho
  | raw a => cases ho
  | non => rw [r.isNon]; exact .base .non
  | bl b => rw [r.isBl]; exact .base (.bl b)
  | int b => rw [r.isInt]; exact .base (.int b)
  | str b => rw [r.isStr]; exact .base (.str b)
  | tup ds => obtain ⟨a, xs, rfl, h, _⟩ := r.isTup; exact .base (.tup h)
  | kt ds =>
    rcases r.toO (Hc := Hb) with r | ⟨a, e, hm, r⟩
    · cases r with
      | kt h r => obtain ⟨o, its, n, h1, h2, _⟩ := h; exact .kTuple h1 h2
    · exact r.elim
  | lst ds => obtain ⟨a, xs, rfl, h | ⟨o, h⟩, _⟩ := r.isLst; exact .base (.lst h); exact .base (.frz h)
  | fz ds =>
    obtain ⟨a, xs, rfl, ⟨o, h⟩ | ⟨o, its, n, h1, h2, _⟩, _⟩ := r.isFz
    · exact .base (.frz h)
    · exact .kList h1 h2
  | dct ds =>
    rcases r.toO (Hc := Hb) with r | ⟨a, rfl, hm, xs, h, r⟩
    · cases r with
      | dct s h r => exact .base (.dT h)
    · exact .base (.dT h)
  | dk ds =>
    rcases r.toO (Hc := Hb) with r | ⟨a, rfl, hm, xs, h, r⟩
    · cases r with
      | dk s h r => exact .base (.dK h)
    · exact .base (.dK h)
/-- the classes that are asked: bool, int, str, list, tuple -/
inductive Cn where
  | bool | int | str | list | tuple
def Cn.n : Cn → String
  | .bool => "bool" | .int => "int" | .str => "str" | .list => "list" | .tuple => "tuple"
def instT : Cn → Tg → Bool
  | .bool, .bl => true
  | .int, .bl => true
  | .int, .int => true
  | .str, .str => true
  | .list, .lst => true
  | .tuple, .tup => true
  | _, _ => false
def instD (c : Cn) (d : D) : Bool := instT c (tagD d)
theorem inst_okT (c : Cn) (t : Tg) : kitB t.n c.n = some (instT c t) := by
  cases c <;> cases t <;> decide +kernel
theorem inst_ok (c : Cn) (d : D) : kitB (tyD d) c.n = some (instD c d) := inst_okT c (tagD d)
theorem kit_inst (K : PySem.W.Frag) (c : Cn) (d : D) : PySem.W.kitOne K (.type (tyD d)) (.type c.n) = some (instD c d) := kit_ty (inst_ok c d)
/-- isinstance(e, T) -/
def eIsi (c : Cn) (f : Rho → M D) : Rho → M D := fun ρ => M.bind (f ρ) fun d => if isOb d = true then .er else .ok (.bl (instD c d))
theorem vx_isi (c : Cn) (hm : X.mg "isinstance" = none) (hT : X.mg T = none) (h : VX X W S0 H0 ma e fe) (hv : bootBuiltins T = some (.type c.n) := by decide +kernel) (hgT : Gl X T := by rfl) (hnT : T ≠ "__name__" := by decide) (hdT : (T == ("__debug__" : Str)) = false := by decide) (hg : Gl X "isinstance" := by rfl)
    (he : starEach (e :: [.Name T p2]) X.env = (false, eval e X.env) :: starEach [.Name T p2] X.env := by rfl) (he2 : starEach (.Name T p2 :: []) X.env = (false, eval (.Name T p2) X.env) :: starEach [] X.env := by rfl) (hpl : (backTo pos (starEach [.Name T p2] X.env)).any (·.1) = false := by rfl) :
    VX X W S0 H0 m (.Call (.Name "isinstance" p) (e :: [.Name T p2]) [] pos) (eIsi c fe) := by
  obtain ⟨te, pe, qe⟩ := h.p
  refine ⟨_, pe_callB call_isi hg hm (by decide +kernel) (pa_cons pe (pa_cons (pe_bltn (v := .ty c.n) hgT hT hv rfl hnT hdT) pa_nil he2) he) (by decide) (by decide) he hpl, fun ρ σ own H Q R k => qe ρ σ own H _ R ?_⟩
  unfold eIsi at k
  revert k
  cases fe ρ with
  | er => exact id
  | ex c => exact id
  | ok d =>
    intro k v H' s r
    rw [bind_ok] at k
    split at k
    · exact k.elim
    · next hob => exact ⟨v, .ty c.n, _, _, instD c d, rfl, .ty _, tyX_of r (by simpa using hob), kit_inst _ c d, k _ H' s (.ofBl _)⟩
/-- isinstance(e, (T, T2)) -/
def eIsi2 (c c2 : Cn) (f : Rho → M D) : Rho → M D := fun ρ => M.bind (f ρ) fun d => if isOb d = true then .er else .ok (.bl (instD c d || instD c2 d))
theorem vx_isi2 {pt p3 : Pos} {j : Nat} (c c2 : Cn) (hm : X.mg "isinstance" = none) (hT : X.mg T = none) (hT2 : X.mg T2 = none) (h : VX X W S0 H0 ma e fe) (hv : bootBuiltins T = some (.type c.n) := by decide +kernel) (hgT : Gl X T := by rfl) (hnT : T ≠ "__name__" := by decide) (hdT : (T == ("__debug__" : Str)) = false := by decide)
    (hv2 : bootBuiltins T2 = some (.type c2.n) := by decide +kernel) (hgT2 : Gl X T2 := by rfl) (hnT2 : T2 ≠ "__name__" := by decide) (hdT2 : (T2 == ("__debug__" : Str)) = false := by decide) (hg : Gl X "isinstance" := by rfl)
    (he : starEach (e :: [.Tuple [.Name T p2, .Name T2 p3] j pt]) X.env = (false, eval e X.env) :: starEach [.Tuple [.Name T p2, .Name T2 p3] j pt] X.env := by rfl) (he2 : starEach (.Tuple [.Name T p2, .Name T2 p3] j pt :: []) X.env = (false, eval (.Tuple [.Name T p2, .Name T2 p3] j pt) X.env) :: starEach [] X.env := by rfl)
    (he3 : starEach (.Name T p2 :: [.Name T2 p3]) X.env = (false, eval (.Name T p2) X.env) :: starEach [.Name T2 p3] X.env := by rfl) (he4 : starEach (.Name T2 p3 :: []) X.env = (false, eval (.Name T2 p3) X.env) :: starEach [] X.env := by rfl)
    (hpl : (backTo pos (starEach [.Tuple [.Name T p2, .Name T2 p3] j pt] X.env)).any (·.1) = false := by rfl) :
    VX X W S0 H0 m (.Call (.Name "isinstance" p) (e :: [.Tuple [.Name T p2, .Name T2 p3] j pt]) [] pos) (eIsi2 c c2 fe) := by
  obtain ⟨te, pe, qe⟩ := h.p
  refine ⟨_, pe_callB call_isiT hg hm (by decide +kernel) (pa_cons pe (pa_cons (pe_tup (pa_cons (pe_bltn (v := .ty c.n) hgT hT hv rfl hnT hdT) (pa_cons (pe_bltn (v := .ty c2.n) hgT2 hT2 hv2 rfl hnT2 hdT2) pa_nil he4) he3)) pa_nil he2) he) (by decide) (by decide) he hpl, fun ρ σ own H Q R k => qe ρ σ own H _ R ?_⟩
  unfold eIsi2 at k
  revert k
  cases fe ρ with
  | er => exact id
  | ex c => exact id
  | ok d =>
    intro k v H' s r
    rw [bind_ok] at k
    split at k
    · exact k.elim
    next hob =>
    refine ⟨by show 2 ≤ sizeLine; decide, fun q hq => ?_⟩
    have r' := RM.grow (same_upd (o := .tup [.ty c.n, .ty c2.n]) hq) r
    refine ⟨v, q, [.ty c.n, .ty c2.n], _, [.type c.n, .type c2.n], instD c d || instD c2 d, rfl, upd_same, .cons (.ty _) (.cons (.ty _) .nil), tyX_of r' (by simpa using hob), ?_, k _ _ (s.trans (same_upd hq)) (.ofBl _)⟩
    refine kitAny_cons (kit_inst _ c d) (fun hb => ?_) fun hb => by rw [hb]; rfl
    rw [hb]
    refine kitAny_cons (kit_inst _ c2 d) (fun hb => by rw [hb]; rfl) fun hb => by rw [hb]; rfl
/-! ### all, any of a list of truth values -/
def bools : List D → Option (List Bool)
  | [] => some []
  | .bl b :: ds => (bools ds).map (b :: ·)
  | _ => none
theorem RpA.bools {K : PySem.W.Frag} {S : Addr → Prop} {H : Hp} : ∀ {vs : List V} {ds : List D} {bs : List Bool}, RpA K S H vs ds → VL.bools ds = some bs → vs = bs.map V.bl
  | _, _, _, .nil, e => by cases e; rfl
  | _, d :: ds, _, .cons h r, e => by
    cases d with
    | bl b =>
      cases h
      have e' : (VL.bools ds).map (b :: ·) = some _ := e
      cases e1 : VL.bools ds with
      | none => rw [e1] at e'; cases e'
      | some cs =>
        rw [e1] at e'
        cases e'
        rw [RpA.bools r e1]
        rfl
    | _ => cases e
def allG : List D → M D := fun xs => match xs with
  | [.lst ds] => (match bools ds with | some bs => .ok (.bl (bs.all id)) | none => .er)
  | _ => .er
theorem cg_all : CallG X W S0 H0 m (rAll X.K) allG := by
  intro ρ σ own H Q vs ds R r k
  unfold allG at k
  split at k
  · split at k
    · next bs e =>
      obtain ⟨v, rfl, r1⟩ := pair1 r
      obtain ⟨a, xs, rfl, h1, h2⟩ := r1.isLst
      exact ⟨a, bs, rfl, by rw [← h2.bools e]; exact .inl h1, k _ H (Same.refl H) (.ofBl _)⟩
    · exact k.elim
  · exact k.elim
/-! ### zip, enumerate of lists -/
def zipD : List D → List D → List D
  | x :: xs, y :: ys => .tup [x, y] :: zipD xs ys
  | _, _ => []
theorem zipD_len : ∀ xs ys : List D, (zipD xs ys).length = min xs.length ys.length
  | [], ys => by simp [zipD]
  | x :: xs, [] => by simp [zipD]
  | x :: xs, y :: ys => by simp [zipD, zipD_len xs ys]
theorem zipD_get : ∀ (xs ys : List D) (i : Nat) (a b : D), xs[i]? = some a → ys[i]? = some b → (zipD xs ys)[i]? = some (.tup [a, b])
  | [], _, _, _, _, h, _ => by simp at h
  | _ :: _, [], _, _, _, _, h => by simp at h
  | x :: xs, y :: ys, 0, a, b, h1, h2 => by
    simp at h1 h2
    subst h1 h2
    rfl
  | x :: xs, y :: ys, i + 1, a, b, h1, h2 => by
    simp at h1 h2
    exact zipD_get xs ys i a b h1 h2
def tupD : D → Option (List D)
  | .tup ds => some ds
  | .kt ds => some ds
  | _ => none
def zipG : List D → M (List D) := fun ds => match ds with
  | [.lst xs, .lst ys] => .ok (zipD xs ys)
  | [x, y] => (match tupD x, tupD y with
    | some xs, some ys => .ok (zipD xs ys)
    | _, _ => .er)
  | _ => .er
def eZip (f : Rho → M (List D)) : Rho → M (List D) := fun ρ => M.bind (f ρ) zipG
theorem tup_items {K : PySem.W.Frag} {own : List Addr} {H1 Hb : Hp} {v : V} {d : D} {ds : List D} (own0 : ∀ a, a ∈ own → H0 a = none ∧ Mt (H1 a)) (r : RM K S0 H0 own .E Hb H1 v d) (h : tupD d = some ds) :
    ∃ a xs, v = .ref a ∧ SqT K H1 a xs ∧ (∀ own' H', Fra own H1 own' H' → SqT K H' a xs) ∧ RpA K (SA S0 H0 own) H1 xs ds := by
  cases d <;> try (cases h; done)
  · cases h
    cases r with
    | tup h r => exact ⟨_, _, rfl, SqT.of h, fun own' H' F => SqT.of (F.k _ _ h fun hm => by
        have := (own0 _ hm).2
        rw [h] at this; exact this), r⟩
  · cases h
    cases r with
    | kt h r => exact ⟨_, _, rfl, .inr h, fun own' H' F => .inr h, r⟩
theorem up2 {K : PySem.W.Frag} {S : Addr → Prop} {H : Hp} {T : Addr} {x y : V} {a b : D} (hT : H T = none) (h1 : Rp K S H x a) (h2 : Rp K S H y b) : Rp K S (upd H T (.tup [x, y])) (.ref T) (.tup [a, b]) :=
  .tup upd_same (.cons (h1.keep (.same (same_upd hT))) (.cons (h2.keep (.same (same_upd hT))) .nil))
theorem vi_zip {elts : List Expr} {kk : Nat} {tpos : Pos} (hm : X.mg "zip" = none) (ha : VA X W S0 H0 .E [e, e2] fa) (hg : Gl X "zip" := by rfl) (hs1 : starEach (e :: [e2]) X.env = (false, eval e X.env) :: starEach [e2] X.env := by rfl) (hpl : (backTo pos (starEach [e2] X.env)).any (·.1) = false := by rfl)
    (hf : ∀ x, foldedSetIterable (.Call (.Name "zip" p) [e, e2] [] pos) X.env x = pure x := by intro _; rfl) : VI X W S0 H0 (.Tuple elts kk tpos) (.Call (.Name "zip" p) [e, e2] [] pos) (eZip fa) := by
  obtain ⟨te, pa, q⟩ := ha.p
  refine ⟨⟨_, RZ.pi_zipA hg hm pa hs1 hpl, fun ρ σ own H Rk R k => q ρ σ own H _ R ?_⟩, hf⟩
  unfold eZip at k
  revert k
  cases fa ρ with
  | er => exact id
  | ex c => exact id
  | ok ds =>
    intro k vs H1 s1 r1
    rw [bind_ok] at k
    unfold zipG at k
    split at k
    · next xs ys =>
      obtain ⟨v, w, rfl, r2, r3⟩ := pair2 r1
      have R1 := R.grow s1
      cases r2 with
      | lst sa ha ra =>
        cases r3 with
        | lst sb hb rb =>
          rename_i a vs b ws
          refine ⟨a, b, _, _, rfl, .inl ⟨SqL.of ha, SqL.of hb, k _ H1 s1 ?_⟩⟩
          intro own' H' F hsm ho i
          have ha' : SqL X.K H' a vs := .inl (fra_rd F R1.own0 sa.1 (.inl ha))
          have hb' : SqL X.K H' b ws := .inl (fra_rd F R1.own0 sb.1 (.inl hb))
          have ra' := ra.keep (F.keepA (S0 := S0) (H0 := H0) R1.own0)
          have rb' := rb.keep (F.keepA (S0 := S0) (H0 := H0) R1.own0)
          rw [zipD_len]
          refine ⟨fun hi => ?_, fun hi => ⟨vs, ws, ha', hb', ?_⟩, fun y H2 hi ⟨T, x1, x2, ey, nT, eH, f1, f2⟩ => ?_⟩
          · obtain ⟨v1, e1, _⟩ := ra.get (List.getElem?_eq_getElem (show i < xs.length by omega))
            obtain ⟨v2, e2, _⟩ := rb.get (List.getElem?_eq_getElem (show i < ys.length by omega))
            exact ⟨vs, ws, v1, v2, ha', hb', e1, e2⟩
          · rw [ra.length, rb.length]; omega
          · obtain ⟨d1, g1, h1⟩ := ra'.getV (f1 vs ha')
            obtain ⟨d2, g2, h2⟩ := rb'.getV (f2 ws hb')
            subst ey eH
            exact ⟨same_upd nT, .tup [d1, d2], zipD_get xs ys i d1 d2 g1 g2, up2 nT h1 h2⟩
    · split at k
      · next xs ys ex ey =>
        obtain ⟨v, w, rfl, r2, r3⟩ := pair2 r1
        have R1 := R.grow s1
        obtain ⟨a, vs, rfl, ha, hka, ra⟩ := tup_items R1.own0 r2 ex
        obtain ⟨b, ws, rfl, hb, hkb, rb⟩ := tup_items R1.own0 r3 ey
        refine ⟨a, b, _, _, rfl, .inr ⟨ha, hb, k _ H1 s1 ?_⟩⟩
        intro own' H' F hsm ho i
        have ha' := hka own' H' F
        have hb' := hkb own' H' F
        have ra' := ra.keep (F.keepA (S0 := S0) (H0 := H0) R1.own0)
        have rb' := rb.keep (F.keepA (S0 := S0) (H0 := H0) R1.own0)
        rw [zipD_len]
        refine ⟨fun hi => ?_, fun hi => ⟨vs, ws, ha', hb', ?_⟩, fun y H2 hi ⟨T, x1, x2, ey, nT, eH, f1, f2⟩ => ?_⟩
        · obtain ⟨v1, e1, _⟩ := ra.get (List.getElem?_eq_getElem (show i < xs.length by omega))
          obtain ⟨v2, e2, _⟩ := rb.get (List.getElem?_eq_getElem (show i < ys.length by omega))
          exact ⟨vs, ws, v1, v2, ha', hb', e1, e2⟩
        · rw [ra.length, rb.length]; omega
        · obtain ⟨d1, g1, h1⟩ := ra'.getV (f1 vs ha')
          obtain ⟨d2, g2, h2⟩ := rb'.getV (f2 ws hb')
          subst ey eH
          exact ⟨same_upd nT, .tup [d1, d2], zipD_get xs ys i d1 d2 g1 g2, up2 nT h1 h2⟩
      · exact k.elim
    · exact k.elim
/-! ### slices -/
section
variable (X : Cx) (W : WX) (H : Hp) (σ : Sg)
def PXO (Q : Option Int → Hp → Prop) : M (Option Int) → Prop
  | .ok o => ∀ H', Same H H' → Q o H'
  | .ex c => ∀ cv d H', IsCls X.mg c cv d → Same H H' → W cv d σ H'
  | .er => False
end
structure VO (X : Cx) (W : WX) (S0 : Addr → Prop) (H0 : Hp) (e : Option Expr) (f : Rho → M (Option Int)) : Prop where
  p : ∃ te, PO X e te ∧ ∀ ρ σ own H Q, Rel X.K S0 H0 ρ σ own H → PXO X W H σ Q (f ρ) → te σ H Q
/-- a, b = e: a tuple taken apart -/
def sUnp (f : Rho → M D) (tg : D → Rho → Option Rho) : Rho → Res := fun ρ => ofM ρ (fun d => match tg d ρ with | some ρ' => .nx ρ' | none => .er) (f ρ)
theorem vs_unp {ks : List Nat} {tg : Expr} {ft : D → Rho → Option Rho} (h : VX X W S0 H0 .E e fe) (hg : VG X S0 H0 ks tg ft) (hs : swapsWithSole [tg] e pos.line X.env = pure false := by rfl) (hw : swappedStores [tg] e X.env = pure none := by rfl)
    (h1 : (assignEach [tg] X.env).map (·.2) = [assign tg X.env] := by rfl) : VS X W S0 H0 rm (.Assign [tg] e pos) (sUnp fe ft) := by
  obtain ⟨te, pe, qe⟩ := h.p
  obtain ⟨g, pg, qg⟩ := hg.p
  refine ⟨_, ps_asg pe pg hs hw h1, fun ρ σ own H D R k => qe ρ σ own H _ R ?_⟩
  unfold sUnp at k
  revert k
  cases fe ρ with
  | er => exact id
  | ex c => exact fun k cv d H' i s => k cv d σ own H' i (R.grow s) (.same s)
  | ok d =>
    intro k v H1 s1 r1
    rw [ofM_ok] at k
    split at k
    · next ρ' e1 => exact qg v d ρ ρ' σ own H1 _ (R.grow s1) r1 e1 fun σ' R' _ => k σ' own H1 R' (.same s1)
    · exact k.elim
end
end VL
set_option Elab.async false
set_option linter.all false
set_option maxRecDepth 100000
/-! VL: the law's end. -/
namespace VL
open PySem L2 PySem.Spec PyProof.Rows
/-- a module's constant -/
structure GI (mg : Str → Option Value) (x : Str) (i : Int) : Prop where
  p : ∃ t, mg x = some (.int i t)
structure GS (mg : Str → Option Value) (x : Str) (i : Str) : Prop where
  p : ∃ t, mg x = some (.str i t)
section
variable {X : Cx} {W : WX} {S0 : Addr → Prop} {H0 : Hp} {rm m : Md} {pos : Pos} {e : Expr} {fe : Rho → M D}
theorem vx_gi {x : Str} {i : Int} (h : GI X.mg x i) (hg : Gl X x := by rfl) (hd : (x == ("__debug__" : Str)) = false := by decide) : VX X W S0 H0 m (.Name x pos) (eC (.int i)) := by
  obtain ⟨t, h⟩ := h.p
  exact vx_gint h ⟨t, rfl⟩ hg hd
theorem vx_gs {x : Str} {i : Str} (h : GS X.mg x i) (hg : Gl X x := by rfl) (hd : (x == ("__debug__" : Str)) = false := by decide) : VX X W S0 H0 m (.Name x pos) (eC (.str i)) := by
  obtain ⟨t, h⟩ := h.p
  exact vx_gstr h ⟨t, rfl⟩ hg hd
theorem hu65 {A : Around} {k : Nat} (hr : Room k A) : A.units + 65 < cLine := by have := hr.un; omega
end
/-- the law gives True of every script -/
def spLaw (K : PySem.W.Frag) : Sp := fun vs H Q _ => ∃ (a : Addr) (ns : List Int), vs = [.ref a] ∧ FzL K H a (ns.map V.int) ∧ ns.length ≤ 63 ∧ ∀ H', Q (.bl true) H'
theorem law_imp {P : Program} {w : World} {K : PySem.W.Frag} {mg : Str → Option Value} {base : Heap} {CX : CXT} {k : Nat} {f : Addr} {fd : FuncData} {ps : List Str} {g : List D → M D} (F : FnOk P w K mg base CX k f fd ps (spN mg K g))
    (h : ∀ ns : List Int, ns.length ≤ 63 → g [.fz (ns.map .int)] = .ok (.bl true)) : FnOk P w K mg base CX k f fd ps (spLaw K) := F.imp fun vs H Q E ⟨a, ns, ev, hs, hl, q⟩ => by
  subst ev
  refine ⟨[.fz (ns.map .int)], .cons (.fz hs (RpA.ints ns)) .nil, ?_⟩
  rw [h ns hl]
  intro v H' s r
  cases r
  exact q H'
theorem fz_of {K : PySem.W.Frag} {H : Hp} {a : Addr} {xs : List V} (hO : Only H) (h : SqL K H a xs) : FzL K H a xs := by
  rcases h with (h | h) | h
  · rcases hO a with z | ⟨o, ys, z⟩
    · rw [z] at h; cases h
    · rw [z] at h; cases h
  · exact .inl h
  · exact .inr h
theorem law_walk {l : PySem.W.OpenLaw} {k : Nat} {q : Program} {loose : List Str} {XP : (Str → Option Value) → Heap → Prop} {YP : World → Heap → Prop} {d : DefRec} {K : Params → PySem.W.Frag} {x : Str} (hn : l.most = some 63) (hdf : d.params.defaults = []) (hr : Room k callerA)
    (hY : ∀ (w : World) (h : Heap), YP w h → (K w.params).In h)
    (F : ∀ (w : World) (mg : Str → Option Value) (fa : Addr) (h : Heap), (K w.params).In h → h.Ns mainGlobals mg → mg d.name = some (.ref fa) →
      ∃ fd : FuncData, (∀ (s : Shared) (u : Value), BindsTo s fd ⟨[u], []⟩ [(x, u)]) ∧ ∀ base : Heap, (K w.params).In base → base.Ns mainGlobals mg → FnOk l.prog w (K w.params) mg base (L2N.CX l.prog w) k fa fd [x] (spLaw (K w.params))) :
    PySem.W.WalkO q loose XP YP l.row.toRowW d [] (fun f vs => PySem.call f vs) :=
  walk_of (K := K) (CX := fun w => L2N.CX l.prog w) (sp := fun w => spLaw (K w.params)) hn (by decide) hdf hr hY F (fun w H a ns h1 hO h3 => ⟨a, ns, rfl, fz_of hO h3, h1, fun _ => rfl⟩) fun w H s e s' h => by
    obtain ⟨_, _, _, _, _, _, _, _, _, _, _, _, z⟩ := h
    exact z.elim
end VL
set_option Elab.async false
set_option linter.all false
set_option maxRecDepth 100000
/-! VL9: x in d, d.get, not by truth, += , join, list.clear and the like. -/
namespace VL
open PySem L2 PySem.Spec PyProof.Rows
section
variable {X : Cx} {W : WX} {S0 : Addr → Prop} {H0 : Hp} {rm m ma mb mc : Md} {pos apos cpos px : Pos} {e e2 a b c o : Expr} {es : List Expr} {fe f2 fa fb fc : Rho → M D} {fas : Rho → M (List D)} {x : Str}
/-! ### what a dict holds at a key -/
def lookD (x y : D) : Option (Option D) := match y with
  | .dct kvs => (match x with | .tup ds => (keyOf ds).map (lookT kvs) | _ => none)
  | .dk kvs => (keyOf1 x).map (lookK kvs)
  | _ => none
theorem dget_of {own : List Addr} {H : Hp} {vx vy : V} {x y : D} {o : Option D} (rx : RM X.K S0 H0 own .O H H vx x) (ry : RM X.K S0 H0 own .O H H vy y) (h : lookD x y = some o) :
    ∃ a ov, vy = .ref a ∧ DGet H a vx ov ∧ ov.isSome = o.isSome ∧ (∀ d, o = some d → ∃ v, ov = some v ∧ Rp X.K (SA S0 H0 own) H v d) := by
  have fin (ov : Option V) (h1 : ∀ d, o = some d → ∃ v, ov = some v ∧ Rp X.K (SA S0 H0 own) H v d) (h2 : o = none → ov = none) : ov.isSome = o.isSome ∧ (∀ d, o = some d → ∃ v, ov = some v ∧ Rp X.K (SA S0 H0 own) H v d) := by
    refine ⟨?_, h1⟩
    cases o with
    | none => rw [h2 rfl]; rfl
    | some d => obtain ⟨v, e, _⟩ := h1 d rfl; rw [e]; rfl
  unfold lookD at h
  split at h
  · next kvs =>
    split at h
    · next ds =>
      obtain ⟨a, xs, rfl, h1, h2⟩ := ry.isDct
      obtain ⟨b, ys, rfl, h3, h4⟩ := rx.isTup
      cases hk : keyOf ds with
      | none => rw [hk] at h; cases h
      | some ks =>
        rw [hk] at h
        cases h
        obtain ⟨p, q⟩ := h2.look ks
        obtain ⟨f1, f2⟩ := fin (valV xs ks) p q
        refine ⟨a, valV xs ks, rfl, .inr ⟨xs, ks, b, h1, rfl, ?_, rfl⟩, f1, f2⟩
        rw [← h4.keys hk]
        exact h3
    · cases h
  · next kvs =>
    obtain ⟨a, xs, rfl, h1, h2⟩ := ry.isDk
    cases hk : keyOf1 x with
    | none => rw [hk] at h; cases h
    | some k =>
      rw [hk] at h
      cases h
      obtain ⟨p, q⟩ := h2.look k
      obtain ⟨f1, f2⟩ := fin (valV xs k) p q
      exact ⟨a, valV xs k, rfl, .inl ⟨xs, k, h1, key_v rx hk, rfl⟩, f1, f2⟩
  · cases h
/-! ### x in y -/
def itsD : D → Option (List D)
  | .lst ds => some ds
  | .fz ds => some ds
  | _ => none
def itsT : D → Option (List D)
  | .tup ds => some ds
  | .kt ds => some ds
  | _ => none
def inB_ (x y : D) : M Bool := match lookD x y with
  | some o => .ok o.isSome
  | none => match itsD y with
    | some ds => if SeqAt.shaped (toP x) = true ∧ SeqAt.shaped (toP y) = true then .ok (ds.any fun z => PyData.eqv (toP z) (toP x)) else .er
    | none => match itsT y with
      | some ds => if SeqAt.shaped (toP x) = true ∧ SeqAt.shaped (toP y) = true then .ok (ds.any fun z => PyData.eqv (toP z) (toP x)) else .er
      | none => match x, y with
      | .str s, .str z => (match s.cps.toList with | [c] => .ok (decide (c ∈ z.cps.toList)) | _ => .er)
      | _, _ => .er
def inG (x y : D) : M D := M.bind (inB_ x y) fun b => .ok (.bl b)
def ninG (x y : D) : M D := M.bind (inB_ x y) fun b => .ok (.bl (!b))
def rInD1 : R2 := fun x y H Q => ∃ a o, y = .ref a ∧ DGet H a x o ∧ Q (.bl o.isSome) H
def rNinD1 : R2 := fun x y H Q => ∃ a o, y = .ref a ∧ DGet H a x o ∧ Q (.bl (!o.isSome)) H
theorem op_inD1 (hu : X.A.units + 65 < cLine) : OpR X (compareOp .In) rInD1 := by
  intro pins s σ H x y v u Q I rx ry h
  obtain ⟨a, o, rfl, g, q⟩ := h
  cases ry
  exact d_in (by omega) I g rx fun s' I' => ⟨.bl _, H, I', rfl, q⟩
theorem op_ninD1 (hu : X.A.units + 65 < cLine) : OpR X (compareOp .NotIn) rNinD1 := by
  intro pins s σ H x y v u Q I rx ry h
  obtain ⟨a, o, rfl, g, q⟩ := h
  cases ry
  exact d_notIn (by omega) I g rx fun s' I' => ⟨.bl _, H, I', rfl, q⟩
def rInT (K : PySem.W.Frag) : R2 := fun x y H Q => ∃ d ds, Dp K H x d ∧ Dp K H y (.tuple ds) ∧ SeqAt.shaped d = true ∧ SeqAt.shaped (.tuple ds) = true ∧ Q (.bl (ds.any fun z => PyData.eqv z d)) H
def rNotInT (K : PySem.W.Frag) : R2 := fun x y H Q => ∃ d ds, Dp K H x d ∧ Dp K H y (.tuple ds) ∧ SeqAt.shaped d = true ∧ SeqAt.shaped (.tuple ds) = true ∧ Q (.bl (!ds.any fun z => PyData.eqv z d)) H
theorem room_inT {ds : List PyData} {d : PyData} (sd : SeqAt.shaped d = true) (hu : X.A.units + 65 < cLine) : X.A.units + 1 + min (PyData.depthAll ds) d.depth < cLine := room_in_shaped sd hu
theorem op_inT (hu : X.A.units + 65 < cLine) : OpR X (compareOp .In) (rInT X.K) := by
  intro pins s σ H x y v u Q I rx ry h
  obtain ⟨d, ds, hd, he, sd, se, q⟩ := h
  obtain ⟨as, r1⟩ := Dp.reads I d x v hd rx
  obtain ⟨bs, r2⟩ := Dp.reads I (.tuple ds) y u he ry
  exact SeqAt.in_tuple_reads r2 r1 (SeqAt.canLay_of_shaped se) (SeqAt.canLay_of_shaped sd) (room_inT sd hu) ⟨.bl _, H, I, rfl, q⟩
theorem op_notInT (hu : X.A.units + 65 < cLine) : OpR X (compareOp .NotIn) (rNotInT X.K) := by
  intro pins s σ H x y v u Q I rx ry h
  obtain ⟨d, ds, hd, he, sd, se, q⟩ := h
  obtain ⟨as, r1⟩ := Dp.reads I d x v hd rx
  obtain ⟨bs, r2⟩ := Dp.reads I (.tuple ds) y u he ry
  exact SeqAt.notIn_tuple_reads r2 r1 (SeqAt.canLay_of_shaped se) (SeqAt.canLay_of_shaped sd) (room_inT sd hu) ⟨.bl _, H, I, rfl, q⟩
def rInA (K : PySem.W.Frag) : R2 := fun x y H Q => rInD K x y H Q ∨ rInD1 x y H Q ∨ rInS x y H Q ∨ rInT K x y H Q
def rNinA (K : PySem.W.Frag) : R2 := fun x y H Q => rNotInD K x y H Q ∨ rNinD1 x y H Q ∨ rNotInS x y H Q ∨ rNotInT K x y H Q
theorem op_inA (hu : X.A.units + 65 < cLine) : OpR X (compareOp .In) (rInA X.K) := (op_inD hu).or ((op_inD1 hu).or (op_inS.or (op_inT hu)))
theorem op_ninA (hu : X.A.units + 65 < cLine) : OpR X (compareOp .NotIn) (rNinA X.K) := (op_notInD hu).or ((op_ninD1 hu).or (op_notInS.or (op_notInT hu)))
theorem toPA_any (ds : List D) (p : PyData → Bool) : ((toPA ds).any p) = ds.any fun z => p (toP z) := by
  induction ds with
  | nil => rfl
  | cons d ds ih => simp [toPA, ih]
theorem toP_its {y : D} {ds : List D} (h : itsD y = some ds) : toP y = .list (toPA ds) := by
  cases y <;> cases h <;> simp [toP]
theorem toP_itsT {y : D} {ds : List D} (h : itsT y = some ds) : toP y = .tuple (toPA ds) := by
  cases y <;> cases h <;> simp [toP]
theorem in_cases {ρ : Rho} {σ : Sg} {own : List Addr} {H : Hp} {vx vy : V} {x y : D} {b : Bool} (R : Rel X.K S0 H0 ρ σ own H) (rx : RM X.K S0 H0 own .O H H vx x) (ry : RM X.K S0 H0 own .O H H vy y) (h : inB_ x y = .ok b) :
    (∃ a ov, vy = .ref a ∧ DGet H a vx ov ∧ ov.isSome = b) ∨ (∃ d ds, Dp X.K H vx d ∧ Dp X.K H vy (.list ds) ∧ SeqAt.shaped d = true ∧ SeqAt.shaped (.list ds) = true ∧ (ds.any fun z => PyData.eqv z d) = b) ∨ (∃ c z, vx = .str ⟨#[c]⟩ ∧ vy = .str z ∧ decide (c ∈ z.cps.toList) = b) ∨
      (∃ d ds, Dp X.K H vx d ∧ Dp X.K H vy (.tuple ds) ∧ SeqAt.shaped d = true ∧ SeqAt.shaped (.tuple ds) = true ∧ (ds.any fun z => PyData.eqv z d) = b) := by
  unfold inB_ at h
  split at h
  · next o ho =>
    obtain ⟨a, ov, e1, e2, e3, _⟩ := dget_of rx ry ho
    cases h
    exact .inl ⟨a, ov, e1, e2, e3⟩
  · split at h
    · next ds hd =>
      split at h
      · next hs =>
        cases h
        have e := toP_its hd
        have r2 := ry.dp hs.2
        rw [e] at r2
        refine .inr (.inl ⟨_, _, rx.dp hs.1, r2, hs.1, by rw [← e]; exact hs.2, ?_⟩)
        rw [toPA_any]
      · cases h
    · split at h
      · next ds hd =>
        split at h
        · next hs =>
          cases h
          have e := toP_itsT hd
          have r2 := ry.dp hs.2
          rw [e] at r2
          refine .inr (.inr (.inr ⟨_, _, rx.dp hs.1, r2, hs.1, by rw [← e]; exact hs.2, ?_⟩))
          rw [toPA_any]
        · cases h
      · split at h
        · next s z _ _ _ =>
          split at h
          · next c hc =>
            cases h
            refine .inr (.inr (.inl ⟨c, z, ?_, ry.isStr, rfl⟩))
            rw [rx.isStr]
            obtain ⟨⟨l⟩⟩ := s
            simp only at hc
            subst hc
            rfl
          · cases h
        · cases h
theorem og_in : OpG X W S0 H0 m (rInA X.K) inG := by
  intro ρ σ own H Q vx vy x y R rx ry k
  unfold inG at k
  cases h : inB_ x y with
  | er => rw [h] at k; exact k.elim
  | ex c =>
    exfalso
    revert h
    unfold inB_
    split <;> (try split) <;> (try split) <;> (try split) <;> (try split) <;> intro h <;> cases h
  | ok b =>
    rw [h] at k
    have k' : PX X W S0 H0 own m H σ Q (.ok (.bl b)) := k
    have q := k' _ H (Same.refl H) (.ofBl _)
    rcases in_cases R rx ry h with ⟨a, ov, e1, e2, e3⟩ | ⟨d, ds, e1, e2, e3, e4, e5⟩ | ⟨c, z, e1, e2, e3⟩ | ⟨d, ds, e1, e2, e3, e4, e5⟩
    · exact .inr (.inl ⟨a, ov, e1, e2, by rw [e3]; exact q⟩)
    · exact .inl ⟨d, ds, e1, e2, e3, e4, by rw [e5]; exact q⟩
    · exact .inr (.inr (.inl ⟨c, z, e1, e2, by rw [e3]; exact q⟩))
    · exact .inr (.inr (.inr ⟨d, ds, e1, e2, e3, e4, by rw [e5]; exact q⟩))
theorem og_nin : OpG X W S0 H0 m (rNinA X.K) ninG := by
  intro ρ σ own H Q vx vy x y R rx ry k
  unfold ninG at k
  cases h : inB_ x y with
  | er => rw [h] at k; exact k.elim
  | ex c =>
    exfalso
    revert h
    unfold inB_
    split <;> (try split) <;> (try split) <;> (try split) <;> (try split) <;> intro h <;> cases h
  | ok b =>
    rw [h] at k
    have k' : PX X W S0 H0 own m H σ Q (.ok (.bl (!b))) := k
    have q := k' _ H (Same.refl H) (.ofBl _)
    rcases in_cases R rx ry h with ⟨a, ov, e1, e2, e3⟩ | ⟨d, ds, e1, e2, e3, e4, e5⟩ | ⟨c, z, e1, e2, e3⟩ | ⟨d, ds, e1, e2, e3, e4, e5⟩
    · exact .inr (.inl ⟨a, ov, e1, e2, by rw [e3]; exact q⟩)
    · exact .inl ⟨d, ds, e1, e2, e3, e4, by rw [e5]; exact q⟩
    · exact .inr (.inr (.inl ⟨c, z, e1, e2, by rw [e3]; exact q⟩))
    · exact .inr (.inr (.inr ⟨d, ds, e1, e2, e3, e4, by rw [e5]; exact q⟩))
/-! ### d.get -/
/-! ### not e, by truth -/
/-! ### name += e, of ints -/
/-! ### list.clear, reverse, insert, extend -/
end
end VL
set_option Elab.async false
set_option linter.all false
set_option maxRecDepth 100000
/-! VL10: divmod. -/
namespace VL
open PySem L2 PySem.Spec PyProof.Rows
section
variable {X : Cx} {W : WX} {S0 : Addr → Prop} {H0 : Hp} {rm m ma mb mc : Md} {pos apos cpos px : Pos} {e e2 a b c o : Expr} {es : List Expr} {fe f2 fa fb fc : Rho → M D} {fas : Rho → M (List D)} {x : Str}
/-! ### a, b = x, y -/
/-! ### s.join(l) -/
end
end VL
set_option Elab.async false
set_option linter.all false
set_option maxRecDepth 100000
set_option maxHeartbeats 1000000
/-! VL11: zip and enumerate whose source is a text. -/
namespace VL
open PySem L2 PySem.Spec PyProof.Rows
open PySem.Sem (wp)
section
variable {prog : Program} {w : World} {A : Around} {E : Value → Shared → Prop} {s : Shared}
/-- which address is which: the zip, its two tuples, its two sources, what the sources lean on -/
structure ZA (z TI TO i1 i2 : Addr) (f1 f2 : List Addr) : Prop where
  a : TI ≠ z ∧ TO ≠ z ∧ i1 ≠ z ∧ i2 ≠ z ∧ TI ≠ TO ∧ TI ≠ i1 ∧ TI ≠ i2 ∧ TO ≠ i1 ∧ TO ≠ i2 ∧ i1 ≠ i2
  b : z ∉ f1 ∧ TO ∉ f1 ∧ i2 ∉ f1
  c : z ∉ f2 ∧ TO ∉ f2 ∧ i1 ∉ f2
variable {z TI TO i1 i2 : Addr} {f1 f2 : List Addr} {n1 n2 i : Nat} {P1 P2 : Nat → Value → Prop} {S1 S2 : Nat → Heap → Prop} {a b : Value}
/-! ### zip(list, text) -/
end
/-! ### as a thing walked -/
/-! ### enumerate(text) -/
end VL
set_option Elab.async false
set_option linter.all false
set_option maxRecDepth 100000
/-! VL12: defs that may give back what they were handed; list.remove of data. -/
namespace VL
open PySem L2 PySem.Spec PyProof.Rows
section
variable {P : Program} {w : World} {K : PySem.W.Frag} {mg : Str → Option Value} {base : Heap}
def PFE (mg : Str → Option Value) (K : PySem.W.Frag) (S : Addr → Prop) (H : Hp) (Q : VK) (E : XK) : M D → Prop
  | .ok d => ∀ v H', Same H H' → Rp K (fun a => S a ∨ H a = none) H' v d → Q v H'
  | .ex c => ∀ cv dd H', IsCls mg c cv dd → Same H H' → E cv dd H'
  | .er => False
/-- the def gives g of its arguments' data, made by it or handed to it -/
def spE (mg : Str → Option Value) (K : PySem.W.Frag) (g : List D → M D) : Sp := fun vs H Q E => ∃ (ds : List D) (S : Addr → Prop), RpA K S H vs ds ∧ PFE mg K S H Q E (g ds)
theorem fn_okE {x qual : Str} {st : Stmt} {f : Addr} {fd : FuncData} {N ps : List Str} {k : Nat} {F : Rho → Res} (Fn : Fun K x qual st f fd) (S : FnScope N ps (defScope st))
    (hb : ∀ (cdv : Value) (A : Around) (outer : List Env) (s : Shared) (H : Hp) (E : XK) (S0 : Addr → Prop), Room k (A.deeper (envOfC qual (defScope st) s.heap.objs.size f cdv)) →
      VSs (cxOf (L2N.CX P w) P w K mg base N qual (defScope st) f cdv A outer s H E) (fun cls d _ H => E cls d H) S0 H .E (defBody st) F) :
    FnOk P w K mg base (L2N.CX P w) (k + 1) f fd ps (spE mg K (runF ps.length N.length F)) := by
  refine funN Fn S (fun vs H Q E h => ?_) (fun cdv A outer s H vs Q E hr h => ?_)
  · obtain ⟨ds, _, r, p⟩ := h
    unfold runF at p
    split at p
    · next hl => rw [r.length, hl]
    · exact p.elim
  · obtain ⟨ds, S0, r, p⟩ := h
    obtain ⟨t, pt, q⟩ := (hb cdv A outer s H E S0 hr).p
    refine ⟨t, pt, ?_⟩
    unfold runF at p
    split at p
    · next hl =>
      have hv : vs.length = ps.length := by rw [r.length, hl]
      have R := rel_start r (N.length - ps.length)
      have e : L2.start N vs = vs.map some ++ List.replicate (N.length - ps.length) none := by unfold L2.start; rw [hv]
      rw [e]
      refine q _ _ [] H _ R ?_
      have fin : ∀ (v : V) (own' : List Addr) (H' : Hp) (d : D), (∀ v H', Same H H' → Rp K (fun a => S0 a ∨ H a = none) H' v d → Q v H') → Rp K (SA S0 H own') H' v d → Fra [] H own' H' → Q v H' := fun v own' H' d p a b => p v H' b.all (a.keep (.wide fun _ z => z.2))
      revert p
      generalize F (ds.map Sl.sh ++ List.replicate (N.length - ps.length) Sl.no) = r
      intro p
      cases r with
      | rt d => exact fun v own' H' a b => fin v own' H' d p a b
      | nx ρ' => exact fun σ' own' H' a b => p .non H' b.all .non
      | ex c ρ' => exact fun cv d σ' own' H' i a b => p cv d H' i b.all
      | bk ρ' => exact p.elim
      | ct ρ' => exact p.elim
      | er => exact p.elim
      | rs d ρ' => exact p.elim
    · exact p.elim
structure CalE (P : Program) (w : World) (K : PySem.W.Frag) (mg : Str → Option Value) (base : Heap) (k : Nat) (x : Str) (g : List D → M D) : Prop where
  p : ∃ (f : Addr) (fd : FuncData) (ps : List Str), FnOk P w K mg base (L2N.CX P w) k f fd ps (spE mg K g) ∧ mg x = some (.ref f) ∧ PySem.W.keepIn K (.ref f) = true ∧ Binds K fd ps []
theorem CalE.mk' {k : Nat} {x qual : Str} {st : Stmt} {f : Addr} {fd : FuncData} {ps : List Str} {g : List D → M D} (F : FnOk P w K mg base (L2N.CX P w) k f fd ps (spE mg K g)) (Fn : Fun K x qual st f fd) (hm : mg x = some (.ref f)) (hb : Binds K fd ps []) : CalE P w K mg base k x g := ⟨f, fd, ps, F, hm, Fn.kp, hb⟩
end
section
variable {X : Cx} {W : WX} {S0 : Addr → Prop} {H0 : Hp} {rm m : Md} {pos p : Pos} {e : Expr} {es : List Expr} {fa : Rho → M (List D)} {x : Str} {j k : Nat} {g : List D → M D}
theorem RpA.ofE {K : PySem.W.Frag} {own : List Addr} {Hb H : Hp} {vs : List V} {ds : List D} (r : Paired (RM K S0 H0 own .E Hb H) vs ds) : RpA K (SA S0 H0 own) H vs ds := by
  induction r with
  | nil => exact .nil
  | cons a _ ih => exact .cons a ih
end
/-! ### list.remove of data -/
section
variable {X : Cx} {W : WX} {S0 : Addr → Prop} {H0 : Hp}
/-- l.remove(x): the first equal one goes -/
def rRemoveD (K : PySem.W.Frag) : V → List V → Hp → VK → Prop := fun x xs H Q => ∃ (a : Addr) (us : List V) (y : V) (d : PyData) (ds : List PyData) (j : Nat) (z : PyData), x = V.ref a ∧ xs = [y] ∧ H a = some (.lst us) ∧ DpAll K H us ds ∧ Dp K H y d ∧
  SeqAt.shaped (.list ds) = true ∧ SeqAt.shaped d = true ∧ ds[j]? = some z ∧ PyData.eqv z d = true ∧ (∀ (m : Nat) (z' : PyData), m < j → ds[m]? = some z' → PyData.eqv z' d = false) ∧ Q .non (upd H a (.lst (us.eraseIdx j)))
theorem mt_removeD (hu : X.A.units + 65 < cLine) : MtR X "list.remove" (rRemoveD X.K) := by
  intro pins s σ H x xs v us' Q I rx rxs h
  obtain ⟨a, us, y, d, ds, j, z, rfl, rfl, hH, ha, hy, sl, sd, hz, hzj, hno, q⟩ := h
  cases rx
  cases rxs with
  | cons ry rt =>
    rename_i uy ut
    cases rt
    obtain ⟨bs, r1⟩ := Dp.reads I d y uy hy ry
    have hxs : PyData.canLayAll0 ds = true := SeqAt.canLay_of_shaped sl
    have hroom : X.A.units + 1 + min (PyData.depthAll ds) d.depth < cLine := room_in_shaped sd hu
    obtain ⟨z0, its, n, rv, hl, e0⟩ := I.lstM hH
    obtain ⟨as, h4⟩ := Dp.readsAll I ds _ its ha rv
    have hn : its.length = ds.length := SeqAt.ReadsAll.length ds its as h4
    have hmap : its.map (SeqAt.readOf s.heap) = ds := SeqAt.readsAll_map ds its as hxs h4
    obtain ⟨hjd, _⟩ := List.getElem?_eq_some_iff.mp hz
    have hjl : j < its.length := by omega
    have hj : j < its.toArray.size := by simpa using hjl
    have at_ : ∀ (m : Nat) (hm : m < its.toArray.size) (z' : PyData), ds[m]? = some z' → SeqAt.readOf s.heap its.toArray[m] = z' := by
      intro m hm z' hz'
      have hml : m < its.length := by simpa using hm
      rw [← hmap, List.getElem?_map, List.getElem?_eq_getElem hml] at hz'
      have e1 : SeqAt.readOf s.heap its[m] = z' := Option.some.inj (show some (SeqAt.readOf s.heap its[m]) = some z' from hz')
      simpa using e1
    refine call_meets PySem.F.slot_list_remove ⟨_, e0, rfl⟩ PySem.F.entry_list_remove (PySem.F.args_list_remove_2 _ _)
      (SeqAt.list_removeAt a its.toArray n _ _ uy (fun u => PyData.eqv (SeqAt.readOf s.heap u) d) j hj ?_ ?_ (by rw [List.size_toArray]; omega)) ⟨e0, SeqAt.items_eqAt (vs := its.toArray) (show ReadsAll s.heap its.toArray.toList ds as from h4) r1 hxs (SeqAt.canLay_of_shaped sd) hroom, ?_⟩
    · show PyData.eqv (SeqAt.readOf s.heap its.toArray[j]) d = true
      rw [at_ j hj z hz]
      exact hzj
    · intro m hm hmj
      have hmd : m < ds.length := by omega
      have hz' : ds[m]? = some ds[m] := List.getElem?_eq_getElem hmd
      show PyData.eqv (SeqAt.readOf s.heap its.toArray[m]) d = false
      rw [at_ m hm _ hz']
      exact hno m _ hmj hz'
    · have rr := rv.eraseIdx j
      refine ⟨.non, _, I.lset (its' := its.eraseIdx j) hH e0 ?_ rr ?_, rfl, q⟩
      · show its.toArray.eraseIdxIfInBounds j = (its.eraseIdx j).toArray
        rw [List.eraseIdxIfInBounds_toArray]
      · have := List.length_eraseIdx_le us j
        omega
/-- which item goes -/
def findP (d : PyData) : List D → Option Nat
  | [] => none
  | x :: xs => if PyData.eqv (toP x) d = true then some 0 else (findP d xs).map (· + 1)
theorem findP_spec {d : PyData} : ∀ {xs : List D} {j : Nat}, findP d xs = some j → ∃ z, (toPA xs)[j]? = some z ∧ PyData.eqv z d = true ∧ ∀ (m : Nat) (z' : PyData), m < j → (toPA xs)[m]? = some z' → PyData.eqv z' d = false
  | [], _, h => nomatch h
  | x :: xs, j, h => by
    rw [findP] at h
    split at h
    · next c =>
      cases h
      exact ⟨toP x, rfl, c, fun m z' hm => absurd hm (Nat.not_lt_zero m)⟩
    · next c =>
      cases hf : findP d xs with
      | none => rw [hf] at h; cases h
      | some i =>
        rw [hf] at h
        cases h
        obtain ⟨z, h1, h2, h3⟩ := findP_spec hf
        refine ⟨z, by simpa [toPA] using h1, h2, fun m z' hm hz' => ?_⟩
        have hm : m < i + 1 := hm
        cases m with
        | zero =>
          simp [toPA] at hz'
          subst hz'
          simpa using c
        | succ m => exact h3 m z' (Nat.lt_of_succ_lt_succ hm) (by simpa [toPA] using hz')
def remE : List D → List D → M (List D) := fun ds as => match as with
  | [d] => if SeqAt.shaped (.list (toPA ds)) = true ∧ SeqAt.shaped (toP d) = true then (match findP (toP d) ds with | some j => .ok (ds.eraseIdx j) | none => .er) else .er
  | _ => .er
theorem RpA.eraseIdx {K : PySem.W.Frag} {S : Addr → Prop} {H : Hp} : ∀ {vs : List V} {ds : List D} (j : Nat), RpA K S H vs ds → RpA K S H (vs.eraseIdx j) (ds.eraseIdx j)
  | _, _, _, .nil => .nil
  | _, _, 0, .cons _ t => t
  | _, _, j + 1, .cons r t => .cons r (RpA.eraseIdx j t)
end
end VL
set_option Elab.async false
set_option linter.all false
set_option maxRecDepth 100000
set_option maxHeartbeats 1000000
/-! VL13: sorted of lists of triples of ints and of dicts whose keys are such. -/
namespace VL
open PySem L2 PySem.Spec PyProof.Rows
open SrtO (Srtd Stb Swo)
section
variable {prog : Program} {w : World} {A : Around} {E : Value → Shared → Prop} {s : Shared}
/-- sorted(r): what is collected of r is vs -/
theorem sorted_by {r : Addr} {vs : List Value} {ltv : Value → Value → Bool} {Q : Value → Shared → Prop} (O : Swo ltv) (hz : vs.length ≤ sizeLine)
    (hcol : ∀ R : List Value → Shared → Prop, (∀ (h' : Heap) (tk : Nat), s.heap.objs.size ≤ h'.objs.size → (∀ b o, s.heap.get? b = some o → h'.get? b = some o) → R vs { s with heap := h', toks := tk }) → wpAny (model prog w) A.in1 (collect (.ref r)) R E s)
    (hS : 2 ≤ vs.length → ∀ (h₁ : Heap) (tk : Nat) (a : Addr), (∀ b o, s.heap.get? b = some o → b ≠ a ∧ h₁.get? b = some o) → h₁.get? a = some (seqObj "list" vs.toArray 0) → SrtO.SortableO prog w A.in1.in1 { s with heap := h₁, toks := tk } a vs ltv)
    (h : ∀ (h' : Heap) (tk : Nat) (d : Addr) (out : List Value), Srtd ltv out → Stb ltv out vs → (∀ b o, s.heap.get? b = some o → h'.get? b = some o) → s.heap.objs.size ≤ d → (∃ n, h'.get? d = some (seqObj "list" out.toArray n)) → Q (.ref d) { s with heap := h', toks := tk }) :
    wpAny (model prog w) A (call (.builtin "sorted") [.ref r]) Q E s := by
  refine Calls.call_function_entry kind_sorted plain_sorted entry_sorted (args_sorted1 _) ?_
  unfold Builtin.«sorted»
  refine wpAny_bind (m := checkCount "sorted" 1 1 _) (wpAny_pure ?_)
  refine wpAny_bind (hcol _ fun h' tk hsz hk => ?_)
  refine wpAny_bind (wpAny_newList ?_ hz)
  have hoL : (h'.push (seqObj "list" vs.toArray 0)).get? h'.objs.size = some (seqObj "list" vs.toArray 0) := Heap.get?_push_size _ rfl
  have keep : ∀ b o, s.heap.get? b = some o → b ≠ h'.objs.size ∧ (h'.push (seqObj "list" vs.toArray 0)).get? b = some o := fun b o q => by
    have q' := hk b o q
    exact ⟨Nat.ne_of_lt (Heap.lt_size q'), Heap.get?_push_of_some _ q'⟩
  refine wpAny_bind (wpAny_holding (wpAny_call_entry slot_list_sort ⟨_, hoL, rfl⟩ entry_list_sort (SrtO.list_sort_ord O hoL hz (fun h2 => hS h2 _ _ _ keep hoL) fun out hs hb => ⟨_, rfl, ?_⟩) (args_list_sort _)))
  refine wpAny_pure ⟨_, rfl, h _ _ _ out hs hb (fun b o q => ?_) hsz (sortedHeap_at hoL)⟩
  obtain ⟨q1, q2⟩ := keep b o q
  rw [sortedHeap_old q1 (Heap.lt_size q2)]
  exact q2
/-- what is collected of a source, and that the heap has grown -/
theorem collect_src {T : String} {r d : Addr} {n : Nat} {P : Nat → Value → Prop} {OK : Heap → Prop} {R : List Value → Shared → Prop} (S : PySem.W.KdlSrc prog w T r d n P OK) (calm : A.handled = none) (ok : OK s.heap) (small : n ≤ sizeLine)
    (back : ∀ (g : Heap) (tk : Nat) (got : Array Value), s.heap.objs.size ≤ g.objs.size → (∀ b o, s.heap.get? b = some o → g.get? b = some o) → ItemsOf P got n → R got.toList { s with heap := g, toks := tk }) :
    wpAny (model prog w) A (collect (.ref r)) R E s := by
  obtain ⟨l1, l2⟩ := S.there _ ok
  unfold collect
  refine wpAny_bind (wpAny_runValue (codeAny_builtin PyProof.Rows.entry_proto_collect' ?_)); rw [Around.under_plainId PySem.F.plain_proto_collect _]
  show wpAny _ A.in1 (newList [] >>= fun new => again (.builtin "list.__iadd__" ⟨[new, .ref r], []⟩)) _ _ s
  refine wpAny_bind (wpAny_newObj_type (wpAny_pure ⟨plainId_quiet PySem.F.plain_list_iadd _, codeAny_builtin entry_list_iadd' ?_⟩)); rw [Around.under_plainId PySem.F.plain_list_iadd _]
  have top : (s.heap.push { cls := .type "list", data := .seq ([] : List Value).toArray }).get? s.heap.objs.size = some { cls := .type "list", data := .seq #[] } := Heap.get?_push_size _ rfl
  let Out (q : Result) (z : Shared) : Prop := ∃ (g : Heap) (tk : Nat) (got : Array Value) (ep : Nat), q = .ok (.ret (.ref s.heap.objs.size)) ∧ z = { s with heap := g, toks := tk } ∧ (∀ b o, s.heap.get? b = some o → g.get? b = some o) ∧
    g.get? s.heap.objs.size = some { cls := .type "list", dict := none, data := .seq got ep, slots := #[] } ∧ ItemsOf P got n
  have fin (q : Result) (z : Shared) (o : Out q z) : ∀ {f : Value}, q = .ok (.ret f) → wpAny (model prog w) A (load s.heap.objs.size >>= fun ob => match ob.data with | .seq xs _ => pure xs.toList | _ => unsupported "internal:collect") R E z := by
    obtain ⟨g, tk, got, ep, _, rfl, kp, at_, items⟩ := o
    intro f _
    exact wpAny_bind (wpAny_load at_ (wpAny_pure (back g tk got (Nat.le_of_lt (Heap.lt_size at_)) kp items)))
  have run := PySem.W.kdl_extend (A := A) (s := { s with heap := s.heap.push { cls := .type "list", data := .seq ([] : List Value).toArray } }) (R := Out) S calm
    (S.keep _ _ ok fun b _ o e => Heap.get?_push_of_some _ e) s.heap.objs.size (Nat.ne_of_gt l1) (Nat.ne_of_gt l2) (.ref s.heap.objs.size) 0 top
    (fun g tk got ep kp at_ items => ⟨g, tk, got, ep, rfl, rfl, fun b o e => kp b o (Nat.ne_of_lt (Heap.lt_size e)) (Heap.get?_push_of_some _ e), at_, items⟩) small
  refine wpAny_mono run (fun e z o => ?_) fun e z o => by obtain ⟨_, _, _, _, no, _⟩ := o; cases no
  cases e with
  | done f =>
    obtain ⟨_, _, _, _, e1, _⟩ := id o
    cases e1
    exact fin _ _ o rfl
  | again c1 =>
    refine ⟨o.1, codeAny_mono o.2 fun q z2 o2 => ?_⟩
    obtain ⟨_, _, _, _, e1, _⟩ := id o2
    subst e1
    exact fin _ _ o2 rfl
/-! ### triples of ints -/
abbrev T3 := Int × Int × Int
def IsTri (h : Heap) (v : Value) (k : T3) : Prop := ∃ a o t1 t2 t3 n, v = .ref a ∧ h.get? a = some o ∧ o.cls = .type "tuple" ∧ o.data = .seq #[.int k.1 t1, .int k.2.1 t2, .int k.2.2 t3] n
theorem IsTri.keeps {h h' : Heap} {v : Value} {k : T3} (p : IsTri h v k) (kp : ∀ b o, h.get? b = some o → o.cls = .type "tuple" → h'.get? b = some o) : IsTri h' v k := by
  obtain ⟨a, o, t1, t2, t3, n, e, ho, hc, hd⟩ := p
  exact ⟨a, o, t1, t2, t3, n, e, kp _ _ ho hc, hc, hd⟩
def lex3 (p q : T3) : Bool := if p.1 = q.1 then (if p.2.1 = q.2.1 then decide (p.2.2 < q.2.2) else decide (p.2.1 < q.2.1)) else decide (p.1 < q.1)
theorem lex3_iff {p q : T3} : lex3 p q = true ↔ p.1 < q.1 ∨ (p.1 = q.1 ∧ (p.2.1 < q.2.1 ∨ (p.2.1 = q.2.1 ∧ p.2.2 < q.2.2))) := by
  unfold lex3
  by_cases e : p.1 = q.1
  · rw [if_pos e]
    by_cases e2 : p.2.1 = q.2.1
    · rw [if_pos e2, decide_eq_true_eq]; omega
    · rw [if_neg e2, decide_eq_true_eq]; omega
  · rw [if_neg e, decide_eq_true_eq]; omega
theorem lex3_no {p q : T3} : lex3 p q = false ↔ ¬ (p.1 < q.1 ∨ (p.1 = q.1 ∧ (p.2.1 < q.2.1 ∨ (p.2.1 = q.2.1 ∧ p.2.2 < q.2.2)))) := by
  rw [← lex3_iff]
  cases lex3 p q <;> simp
theorem swo_lex3 {α : Type} (k : α → T3) : Swo fun v u => lex3 (k v) (k u) := by
  refine ⟨fun x y h => ?_, fun x y z h1 h2 => ?_⟩
  · have a := lex3_iff.mp h
    exact lex3_no.mpr (by omega)
  · have a := lex3_no.mp h1
    have b := lex3_no.mp h2
    exact lex3_no.mpr (by omega)
theorem tri_cmp {vs : List Value} {k : Value → T3} (hp : ∀ v ∈ vs, IsTri s.heap v (k v)) : SrtO.Cmp prog w A s (tuples' true) (fun p => p.1 ∈ vs) (SrtO.lt2 fun v u => lex3 (k v) (k u)) := by
  intro p q hm hm'
  have h1 := hp _ hm
  have h2 := hp _ hm'
  show wpAny (model prog w) A (keyLt' (tuples' true) p.1 q.1) (fun r s' => s' = s ∧ r = lex3 (k p.1) (k q.1)) (fun _ _ => False) s
  unfold lex3
  generalize k p.1 = x at h1 ⊢
  generalize k q.1 = y at h2 ⊢
  obtain ⟨a, o, t1, t2, t3, n, e, ho, hc, hd⟩ := h1
  obtain ⟨a', o', t1', t2', t3', n', e', ho', hc', hd'⟩ := h2
  rw [e, e']
  refine PySem.W.kat_lt ho hd ho' hd' ?_
  show PySem.W.KatLex prog w A true (decide (3 < 3)) _ [(.int x.1 t1, .int y.1 t1'), (.int x.2.1 t2, .int y.2.1 t2'), (.int x.2.2 t3, .int y.2.2 t3')] 0 s
  refine PySem.W.kat_cons (SeqAt.EqAt.int_int x.1 t1 y.1 t1' prog w _ _ ?_)
  refine PySem.W.kat_go (fun e1 => ?_) (fun e1 => ?_)
  · have ex : x.1 = y.1 := by simpa using e1
    refine PySem.W.kat_yes (PySem.W.kat_cons (SeqAt.EqAt.int_int x.2.1 t2 y.2.1 t2' prog w _ _ ?_))
    refine PySem.W.kat_go (fun e2 => ?_) (fun e2 => ?_)
    · have ey : x.2.1 = y.2.1 := by simpa using e2
      refine PySem.W.kat_yes (PySem.W.kat_cons (SeqAt.EqAt.int_int x.2.2 t3 y.2.2 t3' prog w _ _ ?_))
      refine PySem.W.kat_go (fun e3 => ?_) (fun e3 => ?_)
      · have ez : x.2.2 = y.2.2 := by simpa using e3
        refine PySem.W.kat_yes (PySem.W.kat_nil ⟨rfl, ?_⟩)
        rw [if_pos ex, if_pos ey, ez]
        simp
      · refine PySem.W.kat_no (PySem.W.kat_one _ _ (PyProof.Rows.lt_int ?_))
        refine (show s = s ∧ decide (x.2.2 < y.2.2) = _ from ⟨rfl, ?_⟩)
        rw [if_pos ex, if_pos ey]
    · have ey : ¬ x.2.1 = y.2.1 := by simpa using e2
      refine PySem.W.kat_no (PySem.W.kat_one _ _ (PyProof.Rows.lt_int ?_))
      refine (show s = s ∧ decide (x.2.1 < y.2.1) = _ from ⟨rfl, ?_⟩)
      rw [if_pos ex, if_neg ey]
  · have ex : ¬ x.1 = y.1 := by simpa using e1
    refine PySem.W.kat_no (oneLt_int ⟨rfl, ?_⟩)
    rw [if_neg ex]
theorem firsts3 {h : Heap} : ∀ {vs : List Value}, (∀ v ∈ vs, ∃ k, IsTri h v k) → ∃ fs : List Value, PySem.W.KatTups h vs fs ∧ fs.length = vs.length ∧ ∀ f ∈ fs, ∃ x t, f = Value.int x t
  | [], _ => ⟨[], PySem.W.KatTups.nil, rfl, fun _ hm => by simp at hm⟩
  | v :: vs, hp => by
    obtain ⟨fs, h1, h2, h3⟩ := firsts3 (vs := vs) fun v' hm => hp v' (List.mem_cons_of_mem _ hm)
    obtain ⟨k, a, o, t1, t2, t3, n, e, ho, hc, hd⟩ := hp v (List.mem_cons_self ..)
    subst e
    refine ⟨.int k.1 t1 :: fs, PySem.W.KatTups.cons ho hc hd rfl h1, by rw [List.length_cons, List.length_cons, h2], fun f hm => ?_⟩
    rcases List.mem_cons.mp hm with rfl | hm
    · exact ⟨k.1, t1, rfl⟩
    · exact h3 f hm
theorem tri_sortable {a : Addr} {vs : List Value} {k : Value → T3} (h0 : 0 < vs.length) (hp : ∀ v ∈ vs, IsTri s.heap v (k v)) (ha : ∀ o, s.heap.get? a = some o → o.cls ≠ .type "tuple") : SrtO.SortableO prog w A s a vs fun v u => lex3 (k v) (k u) := by
  intro h' keep
  have hp' : ∀ v ∈ vs, IsTri h' v (k v) := fun v hm => (hp v hm).keeps fun b o e c => keep b o (fun z => by subst z; exact ha o e c) e
  obtain ⟨fs, h1, h2, h3⟩ := firsts3 fun v hm => ⟨_, hp' v hm⟩
  refine ⟨tuples' true, fun Q E hq => ?_, tri_cmp hp'⟩
  refine PySem.W.kat_kind (T := .type "int") h1 (by omega) (fun f hm => ?_) (by rfl) ?_
  · obtain ⟨x, t, rfl⟩ := h3 f hm
    exact PySem.W.Looks.now
  · have e : (Value.type "int" != Value.type "tuple") = true := by first | decide +kernel | rfl | decide
    rw [e]
    exact hq
/-- sorted of what is collected to triples -/
theorem sorted_tris {r : Addr} {vs : List Value} {k : Value → T3} {Q : Value → Shared → Prop} (hz : vs.length ≤ sizeLine) (hp : ∀ v ∈ vs, IsTri s.heap v (k v))
    (hcol : ∀ R : List Value → Shared → Prop, (∀ (h' : Heap) (tk : Nat), s.heap.objs.size ≤ h'.objs.size → (∀ b o, s.heap.get? b = some o → h'.get? b = some o) → R vs { s with heap := h', toks := tk }) → wpAny (model prog w) A.in1 (collect (.ref r)) R E s)
    (h : ∀ (h' : Heap) (tk : Nat) (d : Addr) (out : List Value), Srtd (fun v u => lex3 (k v) (k u)) out → Stb (fun v u => lex3 (k v) (k u)) out vs → (∀ b o, s.heap.get? b = some o → h'.get? b = some o) → s.heap.objs.size ≤ d → (∃ n, h'.get? d = some (seqObj "list" out.toArray n)) → Q (.ref d) { s with heap := h', toks := tk }) :
    wpAny (model prog w) A (call (.builtin "sorted") [.ref r]) Q E s := by
  refine sorted_by (swo_lex3 k) hz hcol (fun h2 h₁ tk a kk ha => ?_) h
  refine tri_sortable (s := { s with heap := h₁, toks := tk }) (by omega) (fun v hm => (hp v hm).keeps fun b o e _ => (kk b o e).2) fun o e => ?_
  have e' : some o = some (seqObj "list" vs.toArray 0) := e.symm.trans ha
  cases e'
  intro c
  exact absurd (Value.type.inj c) (by decide)
end
/-! ### as a rule -/
def kOf (H : Hp) : V → T3
  | .ref t => (match H t with
    | some (.tup [.int a, .int b, .int c]) => (a, b, c)
    | _ => (0, 0, 0))
  | _ => (0, 0, 0)
def TriV (H : Hp) (x : V) : Prop := ∃ t k, x = .ref t ∧ H t = some (.tup [.int k.1, .int k.2.1, .int k.2.2]) ∧ kOf H x = k
theorem kOf_eq {H : Hp} {t : Addr} {k : T3} (h : H t = some (.tup [.int k.1, .int k.2.1, .int k.2.2])) : kOf H (.ref t) = k := by
  show (match H t with | some (.tup [.int a, .int b, .int c]) => (a, b, c) | _ => (0, 0, 0)) = k
  rw [h]
theorem triV_mk {H : Hp} {t : Addr} {k : T3} (h : H t = some (.tup [.int k.1, .int k.2.1, .int k.2.2])) : TriV H (.ref t) := ⟨t, k, rfl, h, kOf_eq h⟩
def triK : List Key → Option T3
  | [.inl a, .inl b, .inl c] => some (a, b, c)
  | _ => none
def keysT {α : Type} : List (List Key × α) → Option (List T3)
  | [] => some []
  | kv :: r => match triK kv.1, keysT r with
    | some k, some ts => some (k :: ts)
    | _, _ => none
theorem triK_eq {ks : List Key} {k : T3} (h : triK ks = some k) : ks.map kV = [.int k.1, .int k.2.1, .int k.2.2] := by
  unfold triK at h
  split at h
  · cases h; rfl
  · cases h
def rSorted3 (K : PySem.W.Frag) : List V → Hp → VK → Prop := fun vs H Q => ∃ (a : Addr) (ts : List T3), vs = [V.ref a] ∧ ((∃ xs, SqL K H a xs ∧ (∀ x ∈ xs, TriV H x) ∧ xs.map (kOf H) = ts) ∨ (∃ kvs, Rd H a (.dT kvs) ∧ keysT kvs = some ts)) ∧
  ∀ out p, (∀ x ∈ out, TriV H x) → Srtd lex3 (out.map (kOf H)) → (out.map (kOf H)).Perm ts → H p = none → Q (.ref p) (upd H p (.lst out))
theorem keys_refs {H : Hp} : ∀ {kvs : List (List Key × V)} {bs : List Addr} {ts : List T3}, IsKeys H kvs bs → keysT kvs = some ts → (∀ x ∈ bs.map V.ref, TriV H x) ∧ (bs.map V.ref).map (kOf H) = ts
  | [], _, ts, h, e => by
    cases h
    cases e
    exact ⟨fun x hx => by simp at hx, rfl⟩
  | kv :: kvs, _, ts, h, e => by
    cases h with
    | cons h1 h2 =>
      rename_i b bs
      unfold keysT at e
      split at e
      · next k ts' e1 e2 =>
        cases e
        obtain ⟨g1, g2⟩ := keys_refs h2 e2
        rw [triK_eq e1] at h1
        refine ⟨fun x hx => ?_, ?_⟩
        · rcases List.mem_cons.mp hx with rfl | hx
          · exact triV_mk h1
          · exact g1 x hx
        · rw [List.map_cons, List.map_cons, kOf_eq h1, g2]
      · cases e
section
variable {X : Cx}
theorem cr_sorted3 (hc : X.calm = true) : CallR X (.builtin "sorted") (rSorted3 X.K) := by
  intro pins s σ H vs us Q I r h
  obtain ⟨a, ts, rfl, src, q⟩ := h
  obtain ⟨u, rfl, ru⟩ := vals1 r
  obtain rfl : u = Value.ref a := ru
  -- what is collected
  obtain ⟨xs, its, rv, hz, hx, hk, hcol⟩ : ∃ (xs : List V) (its : List Value), Vals xs its ∧ its.length ≤ sizeLine ∧ (∀ x ∈ xs, TriV H x) ∧ xs.map (kOf H) = ts ∧
      ∀ R : List Value → Shared → Prop, (∀ (h' : Heap) (tk : Nat), s.heap.objs.size ≤ h'.objs.size → (∀ b o, s.heap.get? b = some o → h'.get? b = some o) → R its { s with heap := h', toks := tk }) → wpAny (model X.prog X.w) X.A.in1 (collect (.ref a)) R X.xe s := by
    rcases src with ⟨xs, hs, hx, hk⟩ | ⟨kvs, hd, hk⟩
    · obtain ⟨its, rv, hl, hz⟩ := I.list hs
      have hz' : its.length ≤ sizeLine := by rw [← rv.length]; exact hz
      refine ⟨xs, its, rv, hz', hx, hk, fun R hR => ?_⟩
      refine collect_list hl.isList ?_ hz'
      have e : s = { s with heap := s.heap, toks := s.toks } := rfl
      exact hR _ s.toks (by rw [Heap.size_update, size_push']; exact Nat.le_succ _) fun b o e => by
        rw [Heap.get?_update_ne _ _ _ _ (Nat.ne_of_lt (Heap.lt_size e))]
        exact Heap.get?_push_of_some _ e
    · obtain ⟨z, hs, ks, pr, o, es, ep, ho, hx, hdt, he, hn⟩ := (show ObjOk X.prog X.w H s.heap a (.dT kvs) from hd.ok I.hok)
      have l1 : es.size = ks.length := size_of_entries he
      have l2 : kvs.length = ks.length := Paired.length pr
      obtain ⟨g1, g2⟩ := keys_refs (isKeys_of pr) hk
      refine ⟨_, (ks.map fun x => x.2.1).map Value.ref, vals_refs _, by rw [List.length_map, List.length_map]; omega, g1, g2, fun R hR => ?_⟩
      refine collect_src (A := X.A.in1) (kdl_raw hs hx hdt) (show X.A.in1.handled = none from I.ok.hd hc) ho (by omega) fun g tk got grown kp it => ?_
      have ea : got.toList = (ks.map fun x => x.2.1).map Value.ref := by
        have hl : got.toList.length = ks.length := by rw [Array.length_toList, it.1]; exact l1
        rw [List.map_map]
        refine List.ext_getElem? fun j => ?_
        rw [List.getElem?_map]
        cases hj : got.toList[j]? with
        | none => rw [List.getElem?_eq_none (by have := List.getElem?_eq_none_iff.mp hj; omega)]; rfl
        | some v =>
          obtain ⟨en, hen, hv⟩ := it.2 j v (by rw [← Array.getElem?_toList]; exact hj)
          have qe := entry_at he j
          rw [hen] at qe
          cases hb : ks[j]? with
          | none => rw [hb] at qe; exact nomatch (show some en = none from qe)
          | some b =>
            rw [hb] at qe
            have e2 : en = entryOfKey (tupleKind (mixKind X.prog X.w)) b := Option.some.inj qe
            rw [hv, e2]
            rfl
      rw [ea]
      exact hR g tk grown kp
  have href : ∀ x ∈ xs, ∃ a, x = V.ref a := fun x m => by
    obtain ⟨t, k, e, _⟩ := hx x m
    exact ⟨t, e⟩
  obtain ⟨e1, e2⟩ := refs_back rv href
  refine sorted_tris (k := fun u => kOf H (backV u)) hz (fun v hv => ?_) hcol fun h' tk d out h1 h2 kp hd hn => ?_
  · obtain ⟨t, rfl⟩ := e2 v hv
    have hm : V.ref t ∈ xs := by rw [e1]; exact List.mem_map.mpr ⟨_, hv, rfl⟩
    obtain ⟨t', k, e, ht, hkk⟩ := hx _ hm
    cases e
    obtain ⟨_, its2, r2, o, ho, hc, n, hd⟩ := I.hok _ _ ht
    show IsTri s.heap (.ref t) (kOf H (.ref t))
    rw [hkk]
    cases r2 with
    | cons r1 r2 => cases r2 with
      | cons r2 r3 => cases r3 with
        | cons r3 r4 =>
          cases r4
          obtain ⟨t1, rfl⟩ := r1
          obtain ⟨t2, rfl⟩ := r2
          obtain ⟨t3, rfl⟩ := r3
          exact ⟨t, o, t1, t2, t3, n, rfl, ho, hc, hd⟩
  · have h3 : ∀ u ∈ out, ∃ a, u = Value.ref a := fun u hu => e2 u (h2.perm.mem_iff.mp hu)
    have hperm : (out.map backV).Perm xs := by rw [e1]; exact h2.perm.map backV
    obtain ⟨n, hn⟩ := hn
    refine ⟨.ref d, upd H d (.lst (out.map backV)), I.laid (t' := tk) kp hd ⟨?_, out, n, vals_back h3, hn⟩, rfl, q _ d (fun x hx' => hx x (hperm.mem_iff.mp hx')) ?_ ?_ (I.hok.fresh hd)⟩
    · rw [List.length_map, h2.perm.length_eq]; exact hz
    · rw [List.map_map]
      exact List.pairwise_map.mpr h1
    · rw [← hk]
      exact hperm.map _
end
/-! ### sorted, of data -/
def le3 (p q : T3) : Bool := !lex3 q p
def sort3 (ts : List T3) : List T3 := ts.mergeSort le3
theorem le3_tr (a b c : T3) (h1 : le3 a b = true) (h2 : le3 b c = true) : le3 a c = true := by
  unfold le3 at *
  simp only [Bool.not_eq_true'] at *
  rw [lex3_no] at *
  omega
theorem le3_tot (a b : T3) : (le3 a b || le3 b a) = true := by
  unfold le3
  cases h : lex3 b a with
  | false => rfl
  | true =>
    have := lex3_iff.mp h
    have h2 : lex3 a b = false := lex3_no.mpr (by omega)
    rw [h2]; rfl
theorem sort3_perm (ts : List T3) : (sort3 ts).Perm ts := List.mergeSort_perm ts le3
theorem sort3_srtd (ts : List T3) : Srtd lex3 (sort3 ts) := by
  have := List.pairwise_mergeSort (le := le3) le3_tr le3_tot ts
  exact this.imp fun {a b} h => by unfold le3 at h; simpa using h
theorem srtd_uniq {xs ys : List T3} (h1 : Srtd lex3 xs) (h2 : Srtd lex3 ys) (hp : xs.Perm ys) : xs = ys := by
  refine List.Perm.eq_of_pairwise (le := fun x y => lex3 y x = false) (fun a b _ _ q1 q2 => ?_) h1 h2 hp
  have a1 := lex3_no.mp q1
  have a2 := lex3_no.mp q2
  exact Prod.ext (by omega) (Prod.ext (by omega) (by omega))
def triD : D → Option T3
  | .tup [.int a, .int b, .int c] => some (a, b, c)
  | _ => none
def trisD : List D → Option (List T3)
  | [] => some []
  | d :: r => match triD d, trisD r with
    | some k, some ts => some (k :: ts)
    | _, _ => none
def eT (k : T3) : D := .tup [.int k.1, .int k.2.1, .int k.2.2]
def sortedG : List D → M D := fun ds => match ds with
  | [.lst xs] => (match trisD xs with | some ts => .ok (.lst ((sort3 ts).map eT)) | none => .er)
  | [.dct kvs] => (match keysT kvs with | some ts => .ok (.lst ((sort3 ts).map eT)) | none => .er)
  | _ => .er
theorem triD_eq {d : D} {k : T3} (h : triD d = some k) : d = eT k := by
  unfold triD at h
  split at h
  · cases h; rfl
  · cases h
theorem rp_tri {K : PySem.W.Frag} {S : Addr → Prop} {H : Hp} {v : V} {k : T3} (r : Rp K S H v (eT k)) : TriV H v ∧ kOf H v = k := by
  unfold eT at r
  cases r with
  | tup h r =>
    have e := RpA.ofInts (ns := [k.1, k.2.1, k.2.2]) r
    subst e
    exact ⟨triV_mk h, kOf_eq h⟩
theorem tri_rp {K : PySem.W.Frag} {S : Addr → Prop} {H : Hp} {v : V} (h : TriV H v) : Rp K S H v (eT (kOf H v)) := by
  obtain ⟨t, k, rfl, h1, h2⟩ := h
  rw [h2]
  exact .tup h1 (RpA.ints [k.1, k.2.1, k.2.2])
theorem rpA_tris {K : PySem.W.Frag} {S : Addr → Prop} {H : Hp} : ∀ {vs : List V} {ds : List D} {ts : List T3}, RpA K S H vs ds → trisD ds = some ts → (∀ x ∈ vs, TriV H x) ∧ vs.map (kOf H) = ts
  | _, _, _, .nil, e => by cases e; exact ⟨fun x hx => by simp at hx, rfl⟩
  | _, d :: ds, ts, .cons r t, e => by
    unfold trisD at e
    split at e
    · next k ts' e1 e2 =>
      cases e
      obtain ⟨g1, g2⟩ := rpA_tris t e2
      have e3 := triD_eq e1
      subst e3
      obtain ⟨h1, h2⟩ := rp_tri r
      refine ⟨fun x hx => ?_, by rw [List.map_cons, h2, g2]⟩
      rcases List.mem_cons.mp hx with rfl | hx
      · exact h1
      · exact g1 x hx
    · cases e
theorem tris_rpA {K : PySem.W.Frag} {S : Addr → Prop} {H : Hp} : ∀ {vs : List V}, (∀ x ∈ vs, TriV H x) → RpA K S H vs ((vs.map (kOf H)).map eT)
  | [], _ => .nil
  | v :: vs, h => .cons (tri_rp (h v List.mem_cons_self)) (tris_rpA fun x hx => h x (List.mem_cons_of_mem _ hx))
theorem rpT_keys {K : PySem.W.Frag} {S : Addr → Prop} {H : Hp} : ∀ {vs : List (List Key × V)} {ds : List (List Key × D)}, RpT K S H vs ds → keysT vs = keysT ds
  | _, _, .nil => rfl
  | (k, v) :: vs, (_, d) :: ds, .cons _ r => by
    unfold keysT
    rw [rpT_keys r]
section
variable {X : Cx} {W : WX} {S0 : Addr → Prop} {H0 : Hp}
theorem cg_sorted : CallG X W S0 H0 .N (rSorted3 X.K) sortedG := by
  intro ρ σ own H Q vs ds R r k
  have fin (ts : List T3) (k : PX X W S0 H0 own .N H σ Q (.ok (.lst ((sort3 ts).map eT)))) : ∀ out p, (∀ x ∈ out, TriV H x) → Srtd lex3 (out.map (kOf H)) → (out.map (kOf H)).Perm ts → H p = none → Q (.ref p) (upd H p (.lst out)) := by
    intro out p h1 h2 h3 hp
    have e : out.map (kOf H) = sort3 ts := srtd_uniq h2 (sort3_srtd ts) (h3.trans (sort3_perm ts).symm)
    refine k _ _ (same_upd hp) ?_
    refine RM.newL R hp ?_
    have := (tris_rpA (K := X.K) (S := SN H H0 own) h1).keep (.same (same_upd (o := .lst out) hp))
    rw [e] at this
    exact this
  unfold sortedG at k
  split at k
  · next xs =>
    obtain ⟨v, rfl, rv⟩ := pair1 r
    obtain ⟨a, us, rfl, h1, h2⟩ := rv.isLst
    split at k
    · next ts e =>
      obtain ⟨g1, g2⟩ := rpA_tris h2 e
      exact ⟨a, ts, rfl, .inl ⟨us, SqL.rd h1, g1, g2⟩, fin ts k⟩
    · exact k.elim
  · next kvs =>
    obtain ⟨v, rfl, rv⟩ := pair1 r
    obtain ⟨a, us, rfl, h1, h2⟩ := rv.isDct
    split at k
    · next ts e =>
      exact ⟨a, ts, rfl, .inr ⟨us, h1, by rw [rpT_keys h2]; exact e⟩, fin ts k⟩
    · exact k.elim
  · exact k.elim
end
end VL
set_option Elab.async false
set_option linter.all false
set_option maxRecDepth 100000
set_option maxHeartbeats 1000000
/-! VL14: zip of two texts; list(text); text * int; ranges with a step, as lists. -/
namespace VL
open PySem L2 PySem.Spec PyProof.Rows
open PySem.Sem (wp)
section
variable {prog : Program} {w : World} {A : Around} {E : Value → Shared → Prop} {s : Shared}
end
end VL
set_option Elab.async false
set_option linter.all false
set_option maxRecDepth 100000
set_option maxHeartbeats 1000000
/-! VL15: list(text); a sign * int; ranges downwards, as lists; dict.update, dict.pop; list.pop, list.insert, list.index. -/
namespace VL
open PySem L2 PySem.Spec PyProof.Rows
section
variable {X : Cx} {W : WX} {S0 : Addr → Prop} {H0 : Hp} {rm m ma mb : Md} {pos p apos cpos : Pos} {a b e : Expr} {fa fb : Rho → M D} {fas : Rho → M (List D)} {tg : Expr}
/-! ### list(text) -/
/-! ### a text * int -/
def repS (z : Str) (n : Int) : Str := if n < 1 then Str.empty else if (n == 1 || z.length == 0) = true then z else ⟨(List.replicate n.toNat z.cps).foldl (· ++ ·) #[]⟩
def rMulS : R2 := fun x y H Q => ∃ z n, x = .str z ∧ y = .int n ∧ z.length = 1 ∧ 0 ≤ n ∧ n ≤ 1000000 ∧ Q (.str (repS z n)) H
theorem fold_size : ∀ (n : Nat) (c : Array Nat) (acc : Array Nat), ((List.replicate n c).foldl (· ++ ·) acc).size = acc.size + n * c.size
  | 0, c, acc => by simp
  | n + 1, c, acc => by
    rw [List.replicate_succ, List.foldl_cons, fold_size n c, Array.size_append, Nat.add_mul]
    omega
theorem op_mulS : OpR X (binaryOp .Mult) rMulS := by
  intro pins s σ H x y v u Q I rx ry h
  obtain ⟨z, n, rfl, rfl, h1, h2, h3, q⟩ := h
  obtain ⟨t, rfl⟩ := rx
  obtain ⟨t', rfl⟩ := ry
  refine PySem.P.mul_str ?_ (fun g1 g2 => ?_) (fun g1 g2 => ?_) ?_
  · rw [decide_eq_false (by omega), decide_eq_false (by omega)]; rfl
  · rw [h1]
    have : (1 : Int) ≤ (2 ^ 63 - 1) / n := by
      refine Int.le_ediv_of_mul_le (by omega) (by omega)
    omega
  · rw [h1, Nat.one_mul]
    unfold Builtin.Str.tooLong
    rw [sizeLine_eq]
    simp only [decide_eq_false_iff_not]
    omega
  · have q' : Q (.str (repS z n)) H := q
    unfold repS at q'
    split
    · next g => rw [if_pos g] at q'; exact ⟨Nat.zero_le _, .str Str.empty, H, I.tok _, ⟨_, rfl⟩, q'⟩
    · next g =>
      rw [if_neg g] at q'
      split
      · next g2 => rw [if_pos g2] at q'; exact ⟨.str z, H, I, ⟨t, rfl⟩, q'⟩
      · next g2 =>
        rw [if_neg g2] at q'
        refine ⟨?_, .str _, H, I.tok _, ⟨_, rfl⟩, q'⟩
        show ((List.replicate n.toNat z.cps).foldl (· ++ ·) #[]).size ≤ sizeLine
        have h1' : z.cps.size = 1 := h1
        rw [fold_size, h1', sizeLine_eq]
        simp only [List.size_toArray, List.length_nil]
        omega
def mulSG : D → D → M D := fun x y => match x, y with
  | .str z, .int n => if z.length = 1 ∧ 0 ≤ n ∧ n ≤ 1000000 then .ok (.str (repS z n)) else .er
  | _, _ => .er
theorem og_mulS : OpG X W S0 H0 m rMulS mulSG := by
  intro ρ σ own H Q vx vy x y R rx ry k
  unfold mulSG at k
  split at k
  · next z n =>
    split at k
    · next hz => exact ⟨z, n, rx.isStr, ry.isInt, hz.1, hz.2.1, hz.2.2, k _ H (Same.refl H) (.ofStr _)⟩
    · exact k.elim
  · exact k.elim
theorem vx_mulS (ha : VX X W S0 H0 ma a fa) (hb : VX X W S0 H0 mb b fb) : VX X W S0 H0 m (.BinOp a .Mult b pos) (eOp mulSG fa fb) := vx_op op_mulS og_mulS ha hb
/-! ### ranges downwards -/
/-! ### list(range(n)) -/
end
/-! ### a new tuple taken apart: its items are new -/
section
variable (X : Cx) (S0 : Addr → Prop) (H0 : Hp)
structure VGF (ks : List Nat) (tg : Expr) (f : D → Rho → Option Rho) : Prop where
  p : ∃ g, PG X tg g ∧ ∀ v d ρ ρ' σ own H Q, Rel X.K S0 H0 ρ σ own H → Rp X.K (SF H0 own) H v d → f d ρ = some ρ' → (∀ σ', Rel X.K S0 H0 ρ' σ' own H → OnlyS ks σ σ' → Q σ' H) → g v σ H Q
structure VGFs (ks : List Nat) (tg : List Expr) (f : List D → Rho → Option Rho) : Prop where
  p : ∃ g, PGs X tg g ∧ ∀ vs ds ρ ρ' σ own H Q, Rel X.K S0 H0 ρ σ own H → RpA X.K (SF H0 own) H vs ds → f ds ρ = some ρ' → (∀ σ', Rel X.K S0 H0 ρ' σ' own H → OnlyS ks σ σ' → Q σ' H) → g vs σ H Q
end
section
variable {X : Cx} {W : WX} {S0 : Addr → Prop} {H0 : Hp} {rm m : Md} {pos : Pos} {tg e : Expr} {ft : D → Rho → Option Rho} {fe : Rho → M D}
end
end VL
set_option Elab.async false
set_option linter.all false
set_option maxRecDepth 100000
set_option maxHeartbeats 1000000
/-! VL16: d.update(d2), d.pop(k) of dicts whose keys are tuples. -/
namespace VL
open PySem L2 PySem.Spec PyProof.Rows
/-! ### hashes of small triples -/
def smallK : List Key → Bool
  | [.inl a, .inl b, .inl c] => decide (0 ≤ a) && decide (a < 6) && (decide (0 ≤ b) && decide (b < 6)) && (decide (0 ≤ c) && decide (c < 6))
  | _ => false
/-! ### d.update(d2) -/
def putsK (kvs more : List (List Key × V)) : List (List Key × V) := more.foldl (fun acc kv => putK acc kv.1 kv.2) kvs
section
variable {X : Cx}
end
/-! ### d.pop(k), k in d -/
section
variable {prog : Program} {w : World} {K : Type} [DecidableEq K] {knd : HeapKind prog w K}
end
section
variable {X : Cx}
end
/-! ### as statements -/
def putsT (kvs more : List (List Key × D)) : List (List Key × D) := more.foldl (fun acc kv => putT acc kv.1 kv.2) kvs
theorem RpT.puts {K : PySem.W.Frag} {S : Addr → Prop} {H : Hp} : ∀ {ms : List (List Key × V)} {ds : List (List Key × D)} {vs : List (List Key × V)} {es : List (List Key × D)}, RpT K S H ms ds → RpT K S H vs es → RpT K S H (putsK vs ms) (putsT es ds)
  | _, _, _, _, .nil, r => r
  | (k, v) :: ms, (_, d) :: ds, vs, es, .cons h t, r => by
    have := RpT.puts t (r.put k h)
    unfold putsK putsT at this ⊢
    rw [List.foldl_cons, List.foldl_cons]
    exact this
def smallAll (kvs : List (List Key × D)) : Bool := kvs.all fun kv => smallK kv.1
theorem RpT.small {K : PySem.W.Frag} {S : Addr → Prop} {H : Hp} : ∀ {ms : List (List Key × V)} {ds : List (List Key × D)}, RpT K S H ms ds → smallAll ds = true → ∀ kv ∈ ms, smallK kv.1 = true
  | _, _, .nil, _ => fun kv h => by simp at h
  | (k, v) :: ms, (_, d) :: ds, .cons h t, e => by
    unfold smallAll at e
    rw [List.all_cons, Bool.and_eq_true] at e
    intro kv hk
    rcases List.mem_cons.mp hk with rfl | hk
    · exact e.1
    · exact RpT.small t e.2 kv hk
def dropT (kvs : List (List Key × D)) (k : List Key) : List (List Key × D) := kvs.filter fun kv => decide (kv.1 ≠ k)
theorem RpT.drop {K : PySem.W.Frag} {S : Addr → Prop} {H : Hp} (k : List Key) : ∀ {vs : List (List Key × V)} {es : List (List Key × D)}, RpT K S H vs es → RpT K S H (dropK vs k) (dropT es k)
  | _, _, .nil => .nil
  | (k1, v) :: vs, (_, d) :: es, .cons h t => by
    have ih := RpT.drop k t
    unfold dropK dropT at ih ⊢
    by_cases e : k1 = k
    · rw [List.filter_cons_of_neg (by simp [e]), List.filter_cons_of_neg (by simp [e])]
      exact ih
    · rw [List.filter_cons_of_pos (by simp [e]), List.filter_cons_of_pos (by simp [e])]
      exact .cons h ih
section
variable {X : Cx} {W : WX} {S0 : Addr → Prop} {H0 : Hp} {rm : Md} {pos apos cpos : Pos} {e : Expr} {fa : Rho → M (List D)}
end
end VL
set_option Elab.async false
set_option linter.all false
set_option maxRecDepth 100000
/-! VL: own exceptions: raise C(); try .. except C as e. -/
namespace VL
open PySem L2 PySem.Spec PyProof.Rows

theorem pmk_own0 {X : Cx} {C : Addr} {bmB : List Value} {B newId initId : String} {x : Str} {p pos : Pos} (F : ExcBaseFacts B newId initId bmB) (q : PySem.W.excIn X.K C bmB newId = true) (gC : X.mg x = some (.ref C)) (kC : PySem.W.keepIn X.K (.ref C) = true)
    (r : Raises X (.ref C)) (hg : Gl X x) (hd : (x == ("__debug__" : Str)) = false := by decide) : L2N.PMk X (.Call (.Name x p) [] [] pos) fun _ H Q => Q (.ref C) none H := by
  intro pins s σ H Q I k
  refine wpAny_Call_Name_kw (ld_glob I hg gC ?_ hd)
  refine PySem.W.callWith_K0 I.kIn kC ?_
  obtain ⟨bm, N, nm, qn, bs, hdct, sn, sub, ab, col, dd, k0, k1, k2, k3, k5, mN, hC, hN, hi, ot⟩ := exc_obj I.kIn q
  obtain ⟨h, g, d, t, os⟩ := s
  exact wpAny_call_exc_subT F ot hC hN hi (fun h' e M => L2N.mk_of I M r k (I.hok.gone M.new)) (by simp)

/-- an own class of errors under ValueError, without __init__ -/
structure OwnX (K : PySem.W.Frag) (mg : Str → Option Value) (c : Str) : Prop where
  p : ∃ C, mg c = some (.ref C) ∧ PySem.W.excIn K C [.type "ValueError", .type "Exception", .type "BaseException", .type "object"] "ValueError.__new__" = true ∧ PySem.W.keepIn K (.ref C) = true ∧
    PySem.W.subIn K (.ref C) (.type "BaseException") = some true ∧ PySem.W.typeIn K (.ref C) = some (.type "type")
section
variable {X : Cx} {W : WX} {S0 : Addr → Prop} {H0 : Hp} {rm m : Md} {own own' : List Addr} {H H' : Hp} {pos p : Pos} {st : Stmt} {sts body : List Stmt} {f g fb : Rho → Res}
def sRaise (c : Str) : Rho → Res := fun ρ => .ex (.own c) ρ
theorem vs_raise {x : Str} {pos' : Pos} (o : OwnX X.K X.mg x) (tk : L2N.Takes X W) (hc : X.calm = true := by rfl) (hg : Gl X x := by rfl) (hd : (x == ("__debug__" : Str)) = false := by decide) :
    VS X W S0 H0 rm (.Raise (some (.Call (.Name x p) [] [] pos)) none pos') (sRaise x) := by
  obtain ⟨C, g, q, k, b, t⟩ := o.p
  exact ⟨_, L2N.ps_raise hc tk (pmk_own0 PySem.F.excBase_ValueError q g k (raises_own b t) hg hd), fun ρ σ own H D R z => z (.ref C) none σ own H ⟨g, rfl⟩ R .refl⟩

/-! ### slots that leave -/
/-! ### try -/
/-- a name of a class: the program's own, or a built-in one -/
inductive NmCls (mg : Str → Option Value) (x : Str) : Value → Prop
  | own {D : Addr} : mg x = some (.ref D) → NmCls mg x (.ref D)
  | bi {T : String} : mg x = none → bootBuiltins x = some (.type T) → x ≠ "__name__" → NmCls mg x (.type T)
theorem NmCls.pe {mg : Str → Option Value} {x : Str} {cv : Value} (h : NmCls mg x cv) : ∃ c, RelV c cv ∧ (∀ u, RelV c u → u = cv) ∧ ∀ {X : Cx} {p : Pos}, X.mg = mg → Gl X x → (x == ("__debug__" : Str)) = false → PE X (.Name x p) (tC c) := by
  cases h with
  | @own D h => exact ⟨.ref D, rfl, fun u e => e, fun e g d => pe_glob g (by rw [e]; exact h) rfl d⟩
  | @bi T h b n => exact ⟨.ty T, rfl, fun u e => e, fun e g d => pe_bltn g (by rw [e]; exact h) b rfl n d⟩
/-- what is known of a raised class c: what the clause's class says of it, and what isinstance answers of three classes -/
structure Kn3 (K : PySem.W.Frag) (mg : Str → Option Value) (top : Value) (c : Str) (v1 v2 v3 : Value) (b1 b2 b3 : Bool) : Prop where
  p : ∃ D, mg c = some (.ref D) ∧ ExcC K D ∧ PySem.W.exmOne K (.ref D) top = some true ∧ PySem.W.kitOne K (.ref D) v1 = some b1 ∧ PySem.W.kitOne K (.ref D) v2 = some b2 ∧ PySem.W.kitOne K (.ref D) v3 = some b3
/-- what is known of a try: the clause's class, the three classes that are asked, the class that may be raised -/
structure TryF (K : PySem.W.Frag) (mg : Str → Option Value) (x x1 x2 x3 c : Str) (b1 b2 b3 : Bool) : Prop where
  p : ∃ top v1 v2 v3, mg x = some top ∧ NmCls mg x1 v1 ∧ NmCls mg x2 v2 ∧ NmCls mg x3 v3 ∧ Kn3 K mg top c v1 v2 v3 b1 b2 b3
/-! ### the facts of an error's class, by the names of the kit -/
end
end VL
set_option Elab.async false
set_option linter.all false
set_option maxRecDepth 100000
/-! VL: xs.index(e); a.append(b.pop(e)). -/
namespace VL
open PySem L2 PySem.Spec PyProof.Rows
section
variable {X : Cx} {W : WX} {S0 : Addr → Prop} {H0 : Hp} {rm m ma mb : Md} {own own' : List Addr} {H H' : Hp} {pos p : Pos} {o e : Expr} {fo fe : Rho → M D}
def findE (ds : List D) (d : D) : Option Nat := (toPA ds).findIdx? fun z => PyData.eqv z (toP d)
def indexG : D → D → M D := fun x y => match x with
  | .lst ds => if SeqAt.shaped (toP (.lst ds)) = true ∧ SeqAt.shaped (toP y) = true then (match findE ds y with | some j => .ok (.int (j : Nat)) | none => .er) else .er
  | _ => .er
def eIndex (fo fe : Rho → M D) : Rho → M D := fun ρ => M.bind (fo ρ) fun x => match x with
  | .lst ds => M.bind (fe ρ) fun y => indexG (.lst ds) y
  | _ => .er
theorem vx_index {apos cpos : Pos} (hu : X.A.units + 65 < cLine) (ho : VX X W S0 H0 ma o fo) (he : VX X W S0 H0 mb e fe) (hbase : attributeBase o "index" X.env (eval o X.env) = eval o X.env := by rfl)
    (hfew : ((backTo cpos (starEach [e] X.env)).all (fun x => !x.1) && (backToKw cpos (keywordEach [] X.env)).all (fun x => x.1.isSome)
      && decide (([e] : List Expr).length + ([] : List Keyword).length + (if ([] : List Keyword).isEmpty then 0 else 1) < 30)) = true := by rfl)
    (hline : (apos.endLine == cpos.line) = true := by rfl) (hs : starEach (e :: []) X.env = (false, eval e X.env) :: starEach [] X.env := by rfl) (hplain : (backTo cpos (starEach [] X.env)).any (·.1) = false := by rfl) :
    VX X W S0 H0 m (.Call (.Attribute o "index" apos) [e] [] cpos) (eIndex fo fe) := by
  obtain ⟨to, po, qo⟩ := ho.p
  obtain ⟨te, pe, qe⟩ := he.p
  refine ⟨_, pe_bm PySem.F.plainAttrs_list PySem.F.slot_list_index PySem.F.type_list_index (mt_indexD hu) po (pa_cons pe pa_nil hs) hbase hfew hline hs hplain, fun ρ σ own H Q R k => qo ρ σ own H _ R ?_⟩
  unfold eIndex at k
  revert k
  cases fo ρ with
  | er => exact id
  | ex c => exact id
  | ok x =>
    intro k v H1 s1 r1
    rw [bind_ok] at k
    have R1 := R.grow s1
    cases x with
    | lst ds =>
      obtain ⟨a, xs, rfl, h1, h2⟩ := r1.isLst
      dsimp only at k
      refine ⟨.inl ⟨rfl, xs, SqL.rd h1⟩, qe ρ σ own H1 _ R1 ?_⟩
      revert k
      cases fe ρ with
      | er => exact id
      | ex c => exact fun k cv d H2 i s2 => k cv d H2 i (s1.trans s2)
      | ok y =>
        intro k w H2 s2 r2
        rw [bind_ok] at k
        have r1' := RM.grow s2 r1
        unfold indexG at k
        dsimp only at k
        split at k
        · next hsh =>
          obtain ⟨c1, c2⟩ := hsh
          have d1 := r1'.dp c1
          have d2 := r2.dp c2
          unfold findE at k
          split at k
          · next j hj =>
            obtain ⟨z, hz, hzj, hno⟩ : ∃ z, (toPA ds)[j]? = some z ∧ PyData.eqv z (toP y) = true ∧ ∀ (m : Nat) (z' : PyData), m < j → (toPA ds)[m]? = some z' → PyData.eqv z' (toP y) = false := by
              obtain ⟨hjl, hp, hn⟩ := List.findIdx?_eq_some_iff_getElem.mp hj
              refine ⟨_, List.getElem?_eq_getElem hjl, hp, fun m z' hm hz' => ?_⟩
              have hml : m < (toPA ds).length := by omega
              rw [List.getElem?_eq_getElem hml] at hz'
              cases hz'
              simpa using hn m hm
            exact ⟨a, w, toP y, toPA ds, j, z, rfl, rfl, d1, d2, c1, c2, hz, hzj, hno, k _ H2 (s1.trans s2) (.ofInt _)⟩
          · exact k.elim
        · exact k.elim
    | _ => exact k.elim
end
end VL
set_option Elab.async false
set_option linter.all false
set_option maxRecDepth 100000
/-! VL: zip(text, list). -/
namespace VL
open PySem L2 PySem.Spec PyProof.Rows
open PySem.Sem (wp)
section
variable {prog : Program} {w : World} {A : Around} {E : Value → Shared → Prop} {s : Shared}
end
end VL
set_option Elab.async false
set_option linter.all false
set_option maxRecDepth 100000
/-! VL: a chain of three comparisons. -/
namespace VL
open PySem L2 PySem.Spec PyProof.Rows
section
variable {X : Cx} {W : WX} {S0 : Addr → Prop} {H0 : Hp} {m ma mb mc md : Md} {own : List Addr} {H H1 : Hp} {σ : Sg} {a b c d : Expr} {fa fb fc fd : Rho → M D} {pos : Pos} {op1 op2 op3 : CmpOp} {r1 r2 r3 : R2} {g1 g2 g3 : D → D → M D}
end
end VL
set_option Elab.async false
set_option linter.all false
set_option maxRecDepth 100000
/-! VL: defs with default values. -/
namespace VL
open PySem L2 PySem.Spec PyProof.Rows
section
variable {P : Program} {w : World} {K : PySem.W.Frag} {mg : Str → Option Value} {base : Heap}
/-- a def that may be called without its last arguments: their data is extra -/
structure CalD (P : Program) (w : World) (K : PySem.W.Frag) (mg : Str → Option Value) (base : Heap) (k : Nat) (x : Str) (g : List D → M D) (extra : List D) : Prop where
  p : ∃ (f : Addr) (fd : FuncData) (ps : List Str) (dvs : List V) (ds : List Value), FnOk P w K mg base (L2N.CX P w) k f fd ps (spN mg K g) ∧ mg x = some (.ref f) ∧ PySem.W.keepIn K (.ref f) = true ∧ Binds K fd ps ds ∧ Vals dvs ds ∧ ∀ H : Hp, RpA K (fun _ => True) H dvs extra
theorem CalD.mk' {k : Nat} {x qual z : Str} {st : Stmt} {f : Addr} {fd : FuncData} {ps : List Str} {g : List D → M D} (F : FnOk P w K mg base (L2N.CX P w) k f fd ps (spN mg K g)) (Fn : FunD K x qual (defArgs st) (defBody st) (defScope st) [V.str z] [] f fd) (hm : mg x = some (.ref f)) (hb : ∃ ds, Vals [V.str z] ds ∧ Binds K fd ps ds) : CalD P w K mg base k x g [.str z] := by
  obtain ⟨ds, h1, h2⟩ := hb
  exact ⟨f, fd, ps, _, ds, F, hm, Fn.kp, h2, h1, fun H => .cons (.str z) .nil⟩
end
section
variable {X : Cx} {W : WX} {S0 : Addr → Prop} {H0 : Hp} {pos p : Pos} {e : Expr} {es : List Expr} {fa : Rho → M (List D)} {x : Str} {j k : Nat} {g : List D → M D} {extra : List D}
end
end VL
set_option Elab.async false
set_option linter.all false
set_option maxRecDepth 100000
/-! VL: x or y, x and y by truth. -/
namespace VL
open PySem L2 PySem.Spec PyProof.Rows
section
variable {X : Cx} {W : WX} {S0 : Addr → Prop} {H0 : Hp} {m : Md} {pos : Pos} {a : Expr} {fa fb : Rho → M D}
end
end VL
set_option Elab.async false
set_option linter.all false
set_option maxRecDepth 100000
/-! VL: a module's constant tuple of tuples of ints. -/
namespace VL
open PySem L2 PySem.Spec PyProof.Rows
structure GK (K : PySem.W.Frag) (mg : Str → Option Value) (x : Str) (d : D) : Prop where
  p : ∃ a, mg x = some (.ref a) ∧ ∀ (S : Addr → Prop) (H : Hp), Rp K S H (.ref a) d
section
variable {K : PySem.W.Frag} {mg : Str → Option Value}
theorem ktI3 {a : Addr} {od : Option Addr} {i j k : Int} {t1 t2 t3 : Tok} {n : Nat} {sl : Array (Option Value)} (h : K.lookup a = some ⟨.type "tuple", od, .seq #[.int i t1, .int j t2, .int k t3] n, sl⟩) (S : Addr → Prop) (H : Hp) : Rp K S H (.ref a) (.kt [.int i, .int j, .int k]) :=
  .kt ⟨_, _, _, h, rfl, rfl, by show 3 ≤ sizeLine; decide, .cons (a := V.int i) ⟨_, rfl⟩ (.cons (a := V.int j) ⟨_, rfl⟩ (.cons (a := V.int k) ⟨_, rfl⟩ .nil))⟩ (.cons (.int i) (.cons (.int j) (.cons (.int k) .nil)))
theorem kt6 {a a0 a1 a2 a3 a4 a5 : Addr} {od : Option Addr} {d0 d1 d2 d3 d4 d5 : D} {n : Nat} {sl : Array (Option Value)} (h : K.lookup a = some ⟨.type "tuple", od, .seq #[.ref a0, .ref a1, .ref a2, .ref a3, .ref a4, .ref a5] n, sl⟩)
    (h0 : ∀ S H, Rp K S H (.ref a0) d0) (h1 : ∀ S H, Rp K S H (.ref a1) d1) (h2 : ∀ S H, Rp K S H (.ref a2) d2) (h3 : ∀ S H, Rp K S H (.ref a3) d3) (h4 : ∀ S H, Rp K S H (.ref a4) d4) (h5 : ∀ S H, Rp K S H (.ref a5) d5) (S : Addr → Prop) (H : Hp) : Rp K S H (.ref a) (.kt [d0, d1, d2, d3, d4, d5]) :=
  .kt ⟨_, _, _, h, rfl, rfl, by show 6 ≤ sizeLine; decide, .cons (a := V.ref a0) rfl (.cons (a := V.ref a1) rfl (.cons (a := V.ref a2) rfl (.cons (a := V.ref a3) rfl (.cons (a := V.ref a4) rfl (.cons (a := V.ref a5) rfl .nil)))))⟩
    (.cons (h0 S H) (.cons (h1 S H) (.cons (h2 S H) (.cons (h3 S H) (.cons (h4 S H) (.cons (h5 S H) .nil))))))
end
section
variable {X : Cx} {W : WX} {S0 : Addr → Prop} {H0 : Hp} {m : Md} {pos : Pos}
theorem vx_gk {x : Str} {d : D} (h : GK X.K X.mg x d) (hg : Gl X x := by rfl) (hd : (x == ("__debug__" : Str)) = false := by decide) : VX X W S0 H0 m (.Name x pos) (eC d) := by
  obtain ⟨a, h1, h2⟩ := h.p
  refine ⟨_, pe_glob (v := .ref a) hg h1 rfl hd, fun _ _ _ H _ _ k => k _ H (Same.refl H) ?_⟩
  cases m with
  | O => exact .inl (h2 _ _)
  | E => exact h2 _ _
  | F => exact h2 _ _
  | N => exact h2 _ _
end
end VL
set_option Elab.async false
set_option linter.all false
set_option maxRecDepth 100000
/-! VL: x < y of nested data. -/
namespace VL
open PySem L2 PySem.Spec PyProof.Rows
section
variable {X : Cx} {W : WX} {S0 : Addr → Prop} {H0 : Hp} {m : Md}
def rLtD (K : PySem.W.Frag) : R2 := fun x y H Q => ∃ d e, Dp K H x d ∧ Dp K H y e ∧ SeqAt.shaped d = true ∧ PySem.W.alike d e = true ∧ d ≠ .none ∧ Q (.bl (PySem.W.dataLt d e)) H
theorem op_ltD (hu : X.A.units + 64 < cLine) : OpR X (compareOp .Lt) (rLtD X.K) := by
  intro pins s σ H x y v u Q I rx ry h
  obtain ⟨d, e, hd, he, sd, al, hn, q⟩ := h
  obtain ⟨as, r1⟩ := Dp.reads I d x v hd rx
  obtain ⟨bs, r2⟩ := Dp.reads I e y u he ry
  have hdep : d.depth ≤ 64 := by
    unfold SeqAt.shaped at sd
    simp only [Bool.and_eq_true, decide_eq_true_eq] at sd
    exact sd.2
  exact PySem.W.lt_data r1 r2 al hn (by omega) ⟨.bl _, H, I, rfl, q⟩
def seqD : D → Bool
  | .tup _ => true
  | .kt _ => true
  | .lst _ => true
  | .fz _ => true
  | _ => false
def ltDG (x y : D) : M D := if SeqAt.shaped (toP x) = true ∧ SeqAt.shaped (toP y) = true ∧ PySem.W.alike (toP x) (toP y) = true ∧ seqD x = true then .ok (.bl (PySem.W.dataLt (toP x) (toP y))) else .er
theorem og_ltD : OpG X W S0 H0 m (rLtD X.K) ltDG := by
  intro ρ σ own H Q vx vy x y R rx ry k
  unfold ltDG at k
  split at k
  · next c =>
    refine ⟨_, _, rx.dp c.1, ry.dp c.2.1, c.1, c.2.2.1, fun e => ?_, k _ H (Same.refl H) (.ofBl _)⟩
    have := c.2.2.2
    cases x <;> simp [seqD] at this <;> simp [toP] at e
  · exact k.elim
end
end VL
set_option Elab.async false
set_option linter.all false
set_option maxRecDepth 100000
/-! VL: x = e, a test that may return, then lists within the new tuple x are changed; x is forgotten. -/
namespace VL
open PySem L2 PySem.Spec PyProof.Rows
/-- a list within a tuple, both new since Hs -/
def Wk (Hs H : Hp) (v : V) (n k : Nat) : Prop := ∃ a xs b ys, v = .ref a ∧ H a = some (.tup xs) ∧ xs[k]? = some (.ref b) ∧ Hs b = none ∧ H b = some (.lst ys) ∧ ys.length ≤ n
theorem Wk.step {Hs H : Hp} {v : V} {n n' k : Nat} {b : Addr} {ys : List V} (h : Wk Hs H v n k) (hb : ∃ zs, H b = some (.lst zs)) (hl : ys.length ≤ n') (hn : n ≤ n') : Wk Hs (upd H b (.lst ys)) v n' k := by
  obtain ⟨a, xs, c, zs, h1, h2, h3, h4, h5, h6⟩ := h
  obtain ⟨ws, hb⟩ := hb
  have hab : a ≠ b := fun e => by rw [e, hb] at h2; cases h2
  by_cases e : c = b
  · subst e
    exact ⟨a, xs, c, ys, h1, by rw [upd_ne hab]; exact h2, h3, h4, upd_same, hl⟩
  · exact ⟨a, xs, c, zs, h1, by rw [upd_ne hab]; exact h2, h3, h4, by rw [upd_ne e]; exact h5, Nat.le_trans h6 hn⟩
/-- a statement that changes a list within the tuple in slot i -/
structure VU (X : Cx) (i : Nat) (Ks : List Nat) (st : Stmt) (m : Nat) : Prop where
  p : ∃ ts, PS X st ts ∧ ∀ (σ : Sg) (H Hs : Hp) (v : V) (n : Nat) (D : Ends), σ[i]? = some (some v) → Same Hs H → (∀ k, k ∈ Ks → Wk Hs H v n k) → n + m ≤ sizeLine → (∀ H', Same Hs H' → (∀ k, k ∈ Ks → Wk Hs H' v (n + m) k) → D.nx σ H') → ts D σ H
/-- such statements, then what follows -/
structure VQ (X : Cx) (W : WX) (S0 : Addr → Prop) (H0 : Hp) (rm : Md) (i : Nat) (Ks : List Nat) (st : List Stmt) (m : Nat) (g : Rho → Res) : Prop where
  p : ∃ ts, PSs X st ts ∧ ∀ ρ σ own Hs H v n D, Rel X.K S0 H0 ρ σ own Hs → σ[i]? = some (some v) → Same Hs H → (∀ k, k ∈ Ks → Wk Hs H v n k) → n + m ≤ sizeLine → PSt X W S0 H0 rm own Hs D (g ρ) → ts D σ H
theorem same_out {Hs H : Hp} {b : Addr} {o : HO} (s : Same Hs H) (hb : Hs b = none) : Same Hs (upd H b o) := fun a u e => by
  have : a ≠ b := fun z => by rw [z, hb] at e; cases e
  rw [upd_ne this]
  exact s a u e
section
variable {X : Cx} {W : WX} {S0 : Addr → Prop} {H0 : Hp} {rm : Md} {i : Nat} {Ks : List Nat} {px pc apos cpos pos ps pos' : Pos} {x name : Str} {z : Str} {jc jk : Nat} {g : Rho → Res}
end
end VL
set_option Elab.async false
set_option linter.all false
set_option maxRecDepth 100000
/-! VL: walks over dicts whose keys are tuples: items of a new one in a for, keys of one's own in a comprehension. -/
namespace VL
open PySem L2 PySem.Spec PyProof.Rows
/-! ### the items, turn by turn -/
section
variable {P : Program} {w : World} {K : PySem.W.Frag} {d : Addr} {o : Obj} {es : Array DictEntry} {ep : Nat} {X : Cx} {pins : List (Addr × Obj)} {σ : L2.St} {H : Hp} {s : Shared}
end
/-! ### keys as data -/
theorem RpT.getV {K : PySem.W.Frag} {S : Addr → Prop} {H : Hp} : ∀ {vs : List (List Key × V)} {ds : List (List Key × D)} {i : Nat} {k : List Key} {v : V}, RpT K S H vs ds → vs[i]? = some (k, v) → ∃ d, ds[i]? = some (k, d) ∧ Rp K S H v d
  | _, _, _, _, _, .nil, e => by simp at e
  | _, _, 0, _, _, .cons r _, e => by simp at e; obtain ⟨rfl, rfl⟩ := e; exact ⟨_, rfl, r⟩
  | _, _, i + 1, k, v, .cons _ t, e => by
    obtain ⟨u, h1, h2⟩ := RpT.getV (i := i) (k := k) (v := v) t (by simpa using e)
    exact ⟨u, by simpa using h1, h2⟩
section
variable {X : Cx} {W : WX} {S0 : Addr → Prop} {H0 : Hp} {apos cpos tpos : Pos} {e : Expr} {fe : Rho → M D} {elts : List Expr} {kk : Nat}
end
end VL
set_option Elab.async false
set_option linter.all false
set_option maxRecDepth 100000
/-! VL: a call with one keyword, behind the positional values. -/
namespace VL
open PySem L2 PySem.Spec PyProof.Rows
section
variable {P : Program} {w : World} {K : PySem.W.Frag} {mg : Str → Option Value} {base : Heap}
/-- a def that may be called with keywords ks behind n values -/
structure CalK (P : Program) (w : World) (K : PySem.W.Frag) (mg : Str → Option Value) (base : Heap) (k : Nat) (x : Str) (n : Nat) (y : Str) (g : List D → M D) : Prop where
  p : ∃ (f : Addr) (fd : FuncData) (ps : List Str), FnOk P w K mg base (L2N.CX P w) k f fd ps (spN mg K g) ∧ mg x = some (.ref f) ∧ PySem.W.keepIn K (.ref f) = true ∧ KBn K fd ps n [y] (fun us ws => us ++ ws) (fun vs zs => vs ++ zs)
end
section
variable {X : Cx} {W : WX} {S0 : Addr → Prop} {H0 : Hp} {pos p kpos : Pos} {e e2 : Expr} {es : List Expr} {fa : Rho → M (List D)} {fb : Rho → M D} {x y : Str} {j k n : Nat} {g : List D → M D}
end
end VL
set_option Elab.async false
set_option linter.all false
set_option maxRecDepth 100000
/-! VL: comprehensions over a dict of one's own (its keys, its values): it is locked meanwhile, and its slot forgotten. -/
namespace VL
open PySem L2 PySem.Spec PyProof.Rows
section
variable {K : PySem.W.Frag} {S0 : Addr → Prop} {H0 H : Hp} {ρ : Rho} {σ : Sg} {own : List Addr}
end
section
variable {X : Cx} {W : WX} {S0 : Addr → Prop} {H0 : Hp} {m : Md} {pos : Pos} {elt tg iter : Expr} {ifs : List Expr} {scope : Scope} {own : List (Str × Nat)} {fi : Rho → M (List D)} {ft : D → Rho → Option Rho} {fc : Rho → M Bool} {fe : Rho → M D} {k1 : List Nat}
end
end VL
set_option Elab.async false
set_option linter.all false
set_option maxRecDepth 100000
/-! VL: the values of a dict of one's own whose keys are tuples, in a comprehension. -/
namespace VL
open PySem L2 PySem.Spec PyProof.Rows
section
variable {P : Program} {w : World} {K : PySem.W.Frag} {tg : Expr} {d : Addr} {o : Obj} {X : Cx} {pins : List (Addr × Obj)} {σ : L2.St} {H : Hp} {s : Shared}
end
section
variable {X : Cx} {W : WX} {S0 : Addr → Prop} {H0 : Hp} {m : Md} {pos : Pos} {elt tg iter : Expr} {ifs : List Expr} {scope : Scope} {own : List (Str × Nat)} {ft : D → Rho → Option Rho} {fc : Rho → M Bool} {fe : Rho → M D} {k1 : List Nat}
end
end VL
set_option Elab.async false
set_option linter.all false
set_option maxRecDepth 100000
/-! VL30: + and slices over lists whose items are no leaves (what they give is shared). -/
namespace VL
open PySem L2 PySem.Spec PyProof.Rows
section
variable {X : Cx} {W : WX} {S0 : Addr → Prop} {H0 : Hp} {ma mb : Md} {a b e : Expr} {fa fb fe : Rho → M D} {pos p2 : Pos}
end
end VL
set_option Elab.async false
set_option linter.all false
set_option maxRecDepth 100000
/-! VL31: a list of one's own whose items are no leaves. -/
namespace VL
open PySem L2 PySem.Spec PyProof.Rows
section
variable {X : Cx} {W : WX} {S0 : Addr → Prop} {H0 : Hp} {rm : Md} {es : List Expr} {fa : Rho → M (List D)} {x : Str} {i : Nat} {pos pos' p2 : Pos}
end
end VL
set_option Elab.async false
set_option linter.all false
set_option maxRecDepth 100000
/-! VL32: a dict display of one pair, its key a tuple. -/
namespace VL
open PySem L2 PySem.Spec PyProof.Rows
section
variable {prog : Program} {w : World} {K : Type} [DecidableEq K] {knd : HeapKind prog w K} {A : Around} {E : Value → Shared → Prop} {s : Shared}
end
section
variable {X : Cx} {W : WX} {S0 : Addr → Prop} {H0 : Hp} {mk : Md} {pos : Pos} {k v : Expr} {fk fv : Rho → M D}
end
end VL
set_option Elab.async false
set_option linter.all false
set_option maxRecDepth 100000
/-! VL33: for x in reversed(a list). -/
namespace VL
open PySem L2 PySem.Spec PyProof.Rows
section
variable {X : Cx} {W : WX} {S0 : Addr → Prop} {H0 : Hp} {e : Expr} {fe : Rho → M D} {p pos : Pos} {tg : Expr}
end
end VL
set_option Elab.async false
set_option linter.all false
set_option maxRecDepth 100000
/-! VL34: x.reverse(). -/
namespace VL
open PySem L2 PySem.Spec PyProof.Rows
section
variable {X : Cx}
end
end VL
set_option Elab.async false
set_option linter.all false
set_option maxRecDepth 100000
/-! VL35: str(i), int(b), sum of a tuple of whole numbers. -/
namespace VL
open PySem L2 PySem.Spec PyProof.Rows
section
variable {X : Cx} {W : WX} {S0 : Addr → Prop} {H0 : Hp} {m : Md}
end
end VL
set_option Elab.async false
set_option linter.all false
set_option maxRecDepth 100000
/-! VO1: objects of one's own classes: fields are read, methods that change nothing are called. -/
namespace VL
open PySem L2 PySem.Spec PyProof.Rows
/-! ### fields -/
def lookF (f : Str) : List Str → List D → Option D
  | n :: ns, d :: ds => if n = f then some d else lookF f ns ds
  | _, _ => none
section
variable {K : PySem.W.Frag} {S : Addr → Prop} {H : Hp} {f : Str}
theorem look_rp : ∀ {vs : List (Str × V)} {ns : List Str} {ds : List D} {d : D}, vs.map (·.1) = ns → RpA K S H (vs.map (·.2)) ds → lookF f ns ds = some d → ∃ v, vs.lookup f = some v ∧ Rp K S H v d
  | [], ns, ds, d, hn, r, h => by
    subst hn
    cases r
    cases h
  | (n, v) :: vs, ns, ds, d, hn, r, h => by
    subst hn
    cases r with
    | @cons _ d0 _ ds r1 r2 =>
      simp only [List.map_cons, lookF] at h
      by_cases e : n = f
      · rw [if_pos e] at h
        cases h
        exact ⟨v, by rw [List.lookup_cons]; simp [e], r1⟩
      · rw [if_neg e] at h
        obtain ⟨w, h1, h2⟩ := look_rp (vs := vs) rfl r2 h
        refine ⟨w, ?_, h2⟩
        rw [List.lookup_cons]
        have : (f == n) = false := by simpa using fun z => e z.symm
        rw [this]
        exact h1
theorem look_own : ∀ {vs : List (Str × V)} {ns : List Str} {ds : List D} {d : D}, vs.map (·.1) = ns → OwnF K S H vs ds → lookF f ns ds = some d →
    ∃ v, vs.lookup f = some v ∧ if ownF f = true then ∃ b xs es, v = .ref b ∧ d = .lst es ∧ H b = some (.lst xs) ∧ RpA K S H xs es ∧ b ∈ subs vs else Rp K S H v d
  | [], ns, ds, d, hn, r, h => by
    subst hn
    cases ds with
    | nil => cases h
    | cons _ _ => cases h
  | (n, v) :: vs, ns, [], d, hn, r, h => r.elim
  | (n, v) :: vs, ns, d0 :: ds, d, hn, r, h => by
    subst hn
    simp only [List.map_cons, lookF] at h
    obtain ⟨r1, r2⟩ := r
    by_cases e : n = f
    · rw [if_pos e] at h
      cases h
      refine ⟨v, by rw [List.lookup_cons]; simp [e], ?_⟩
      subst e
      by_cases c : ownF n = true
      · rw [if_pos c] at r1 ⊢
        obtain ⟨b, xs, es, rfl, h2, h3, h4⟩ := r1
        refine ⟨b, xs, es, rfl, h2, h3, h4, ?_⟩
        unfold subs
        rw [if_pos c]
        exact List.mem_cons_self
      · rw [if_neg c] at r1 ⊢
        exact r1
    · rw [if_neg e] at h
      obtain ⟨w, h1, h2⟩ := look_own (vs := vs) rfl r2 h
      refine ⟨w, ?_, ?_⟩
      · rw [List.lookup_cons]
        have : (f == n) = false := by simpa using fun z => e z.symm
        rw [this]
        exact h1
      · by_cases c : ownF f = true
        · rw [if_pos c] at h2 ⊢
          obtain ⟨b, xs, es, h3, h4, h5, h6, h7⟩ := h2
          refine ⟨b, xs, es, h3, h4, h5, h6, ?_⟩
          cases v with
          | ref x =>
            unfold subs
            by_cases c2 : ownF n = true
            · rw [if_pos c2]; exact List.mem_cons_of_mem _ h7
            · rw [if_neg c2]; exact h7
          | _ => exact h7
        · rw [if_neg c] at h2 ⊢
          exact h2
theorem look_none : ∀ {vs : List (Str × V)} {ns : List Str}, vs.map (·.1) = ns → f ∉ ns → vs.lookup f = none
  | [], _, _, _ => rfl
  | (n, v) :: vs, ns, hn, h => by
    subst hn
    rw [List.lookup_cons]
    have : (f == n) = false := by
      have : ¬ f = n := fun z => h (by rw [z]; exact List.mem_cons_self)
      simpa using this
    rw [this]
    exact look_none rfl fun hm => h (List.mem_cons_of_mem _ hm)
end
/-- what is known of a class by its name -/
structure ClsK (K : PySem.W.Frag) (c : Str) : Prop where
  p : ∃ C, ClsAt K c C ∧ Cls K C
theorem ClsAt.one {K : PySem.W.Frag} {c : Str} {C D : Addr} (h : ClsAt K c C) (g : ClsAt K c D) : C = D := by
  unfold ClsAt at h g
  rw [h] at g
  cases g
  rfl
/-- the class has no attribute of that name -/
def NoF (K : PySem.W.Frag) (c f : Str) : Prop := ∀ C, ClsAt K c C → NoAttr K C f
section
variable {X : Cx} {W : WX} {S0 : Addr → Prop} {H0 : Hp} {m ma : Md} {pos px apos : Pos} {x f c : Str} {i : Nat}
/-- x.f of shared data -/
def eFldE (i : Nat) (c f : Str) : Rho → M D := fun ρ => match ρ[i]? with
  | some (.sh (.obj _ c' ns ds)) => (match lookF f ns ds with | some d => if c' = c then .ok d else .er | none => .er)
  | _ => .er
theorem vx_fldE (hc : ClsK X.K c) (hn : NoF X.K c f) (hN : X.N[i]? = some x := by rfl) (hv : Vis X.env.scope x := by first | exact Or.inl rfl | exact Or.inr (Or.inl rfl) | exact Or.inr (Or.inr rfl)) (hd : (x == ("__debug__" : Str)) = false := by decide)
    (hcd : (x == ("__classdict__" : Str)) = false := by decide) (hb : attributeBase (.Name x px) f X.env (eval (.Name x px) X.env) = eval (.Name x px) X.env := by rfl) : VX X W S0 H0 .E (.Attribute (.Name x px) f pos) (eFldE i c f) := by
  obtain ⟨C, h1, h2⟩ := hc.p
  refine ⟨_, pe_fld (pe_var hN hv hd hcd) hb, fun ρ σ own H Q R k => ?_⟩
  unfold eFldE at k
  split at k
  · next p c' ns ds e =>
    obtain ⟨v, hv, r⟩ := R.sh i _ e
    refine ⟨v, hv, ?_⟩
    cases hl : lookF f ns ds with
    | none => rw [hl] at k; exact k.elim
    | some d =>
      rw [hl] at k
      simp only at k
      split at k
      · next hcc =>
        subst hcc
        cases r with
        | obj s h hC hns hxs r =>
          subst hxs
          cases h1.one hC
          obtain ⟨w, hw, rw'⟩ := look_rp hns r hl
          exact ⟨_, _, _, _, w, rfl, h, h2, hn _ hC, hw, k w H (Same.refl H) rw'⟩
      · exact k.elim
  · exact k.elim
end
end VL
set_option Elab.async false
set_option linter.all false
set_option maxRecDepth 100000
/-! VO2: methods that change nothing. -/
namespace VL
open PySem L2 PySem.Spec PyProof.Rows
section
variable {X : Cx} {CX : CXT} {k : Nat} {f C : Addr} {fd : FuncData} {ps : List Str} {sp : Sp} {E : L2.St → XK} {x m : Str} {p pos apos : Pos} {e o : Expr} {es : List Expr} {ta : TE} {t : TA}
def tMethX (C : Addr) (m : Str) (sp : Sp) (E : L2.St → XK) (ta : TE) (t : TA) : TE := fun σ H Q => ta σ H fun x H1 => ∃ a dx fs, x = .ref a ∧ H1 a = some (.ins C dx fs) ∧ fs.lookup m = none ∧
  t σ H1 fun vs H2 => sp (x :: vs) H2 Q (E σ)
theorem pe_methX {pl : Sem Bool} (he : PE X o ta) (c : Cls X.K C) (hm : Meth X.K C m f) (F : FnOk X.prog X.w X.K X.mg X.base CX k f fd ps sp) (hr : Room k X.A) (hb : Binds X.K fd ps []) (hx : ∀ σ, PassesAt CX X σ (E σ)) (ha : PA X (e :: es) t)
    (hst : starEach (e :: es) X.env = (false, eval e X.env) :: starEach es X.env := by rfl) (hpl : (backTo pos (starEach es X.env)).any (·.1) = false := by rfl)
    (ht : eval (.Call (.Attribute o m apos) (e :: es) [] pos) X.env = (do
      let ov ← eval o X.env
      standAt apos.atName
      let (f, first) ← holding [ov] (getMethod ov m pl)
      callWith pos f first (backTo pos (starEach (e :: es) X.env)) (backToKw pos (keywordEach [] X.env))) := by rfl) :
    PE X (.Call (.Attribute o m apos) (e :: es) [] pos) (tMethX C m sp E ta t) := by
  refine ⟨fun pins s σ H Q I h => ?_⟩
  refine PySem.W.methodCall_KW (pl := pl) (thn (he.run pins s σ H _ I h) fun u s1 ⟨x, H1, I1, rx, a, dx, fs, ex, ea, l, q⟩ => ?_) ht
  subst ex
  obtain rfl : u = Value.ref a := rx
  refine getmeth_ok I1 ea c hm l ?_
  refine PySem.W.callWith_K (first := [.ref a]) (h₀ := X.base) I.ok.mod.kin hm.kp (thn (ha.run pos pins s1 σ H1 _ I1 q) fun us s2 ⟨vs, H2, I2, r, q2⟩ => ⟨I2.kIn, ?_⟩) hst hpl
  exact run_fnS (us := .ref a :: us) (vs := .ref a :: vs) F hr hb (hx σ) I2 (.cons rfl r) q2
theorem pe_methX0 {pl : Sem Bool} (he : PE X o ta) (c : Cls X.K C) (hm : Meth X.K C m f) (F : FnOk X.prog X.w X.K X.mg X.base CX k f fd ps sp) (hr : Room k X.A) (hb : Binds X.K fd ps []) (hx : ∀ σ, PassesAt CX X σ (E σ))
    (ht : eval (.Call (.Attribute o m apos) [] [] pos) X.env = (do
      let ov ← eval o X.env
      standAt apos.atName
      let (f, first) ← holding [ov] (getMethod ov m pl)
      callWith pos f first (backTo pos (starEach [] X.env)) (backToKw pos (keywordEach [] X.env))) := by rfl) :
    PE X (.Call (.Attribute o m apos) [] [] pos) (tMethX C m sp E ta tNil) := by
  refine ⟨fun pins s σ H Q I h => ?_⟩
  refine PySem.W.methodCall_KW (pl := pl) (thn (he.run pins s σ H _ I h) fun u s1 ⟨x, H1, I1, rx, a, dx, fs, ex, ea, l, q⟩ => ?_) ht
  subst ex
  obtain rfl : u = Value.ref a := rx
  refine getmeth_ok I1 ea c hm l ?_
  exact PySem.W.callWith_K0 (first := [.ref a]) I1.kIn hm.kp (run_fnS (us := [.ref a]) (vs := [.ref a]) F hr hb (hx σ) I1 (.cons rfl .nil) q)
end
/-- a method that may be called: it gives g of the object and the arguments -/
structure CalM (P : Program) (w : World) (K : PySem.W.Frag) (mg : Str → Option Value) (base : Heap) (k : Nat) (c m : Str) (g : List D → M D) : Prop where
  p : ∃ (C f : Addr) (fd : FuncData) (ps : List Str), ClsAt K c C ∧ Cls K C ∧ Meth K C m f ∧ FnOk P w K mg base (L2N.CX P w) k f fd ps (spN mg K g) ∧ Binds K fd ps []
section
variable {X : Cx} {W : WX} {S0 : Addr → Prop} {H0 : Hp} {mo : Md} {pos apos : Pos} {o e : Expr} {es : List Expr} {fo : Rho → M D} {fa : Rho → M (List D)} {c m : Str} {j k : Nat} {g : List D → M D}
theorem obj_at {K : PySem.W.Frag} {own : List Addr} {Hb H : Hp} {v : V} {p : Addr} {c : Str} {ns : List Str} {ds : List D} (r : RM K S0 H0 own mo Hb H v (.obj p c ns ds)) : ∃ a C dx vs, v = .ref a ∧ H a = some (.ins C dx vs) ∧ ClsAt K c C ∧ vs.map (·.1) = ns := by
  rcases r.toO (Hc := Hb) with r | ⟨a, rfl, hm, e0, C, dx, vs, e, hc, hn, _⟩
  · cases r with
    | obj s h hC hns hxs r => exact ⟨_, _, _, _, rfl, h, hC, hns⟩
  · exact ⟨a, C, dx, vs, rfl, e, hc, hn⟩
def eMeth (c m : Str) (g : List D → M D) (fo : Rho → M D) (fa : Rho → M (List D)) : Rho → M D := fun ρ => M.bind (fo ρ) fun d => match d with
  | .obj p c' ns ds => if c' = c ∧ m ∉ ns then M.bind (fa ρ) fun as => g (.obj p c' ns ds :: as) else .er
  | _ => .er
theorem vx_meth0 {pl : Sem Bool} (cm : CalM X.prog X.w X.K X.mg X.base k c m g) (tk : L2N.Takes X W) (hr : Room j X.A) (hk : k ≤ j) (ho : VX X W S0 H0 mo o fo)
    (ht : eval (.Call (.Attribute o m apos) [] [] pos) X.env = (do
      let ov ← eval o X.env
      standAt apos.atName
      let (f, first) ← holding [ov] (getMethod ov m pl)
      callWith pos f first (backTo pos (starEach [] X.env)) (backToKw pos (keywordEach [] X.env))) := by rfl) : VX X W S0 H0 .N (.Call (.Attribute o m apos) [] [] pos) (eMeth c m g fo aNil) := by
  obtain ⟨C, f, fd, ps, h1, h2, h3, F, h5⟩ := cm.p
  obtain ⟨to', po, qo⟩ := ho.p
  refine ⟨_, pe_methX0 po h2 h3 F (hr.mono hk) h5 (fun σ => L2N.passAt tk σ) ht, fun ρ σ own H Q R k => qo ρ σ own H _ R ?_⟩
  unfold eMeth at k
  revert k
  cases fo ρ with
  | er => exact id
  | ex c => exact id
  | ok d =>
    intro k v H1 s1 r1
    rw [bind_ok] at k
    split at k
    · next p c' ns ds =>
      split at k
      · next hcm =>
        obtain ⟨rfl, hm⟩ := hcm
        obtain ⟨a, C', dx, vs, rfl, hH, hC, hns⟩ := obj_at r1
        cases h1.one hC
        refine ⟨a, dx, vs, rfl, hH, look_none hns hm, ?_⟩
        refine ⟨_, .cons (Rp.ofO r1) .nil, ?_⟩
        have k : PX X W S0 H0 own .N H σ Q (g [.obj p c' ns ds]) := k
        revert k
        cases g [.obj p c' ns ds] with
        | er => exact id
        | ex c => exact fun k cv dd H' i s => k cv dd H' i (s1.trans s)
        | ok d => exact fun k v H' s r => k v H' (s1.trans s) (r.keep (.wide fun a ha => ⟨s1.free ha, sf_new (R.grow s1) ha⟩))
      · exact k.elim
    · exact k.elim
end
end VL
set_option Elab.async false
set_option linter.all false
set_option maxRecDepth 100000
/-! VO3: what becomes of objects of one's own. -/
namespace VL
open PySem L2 PySem.Spec PyProof.Rows
section
variable {K : PySem.W.Frag} {S0 : Addr → Prop} {H0 H : Hp} {ρ : Rho} {σ : Sg} {own : List Addr}
/-- what belongs to a slot of one's own changes: the thing itself, or a list of its own -/
theorem Rel.chgX {i : Nat} {a y : Addr} {d d' : D} {o : HO} (R : Rel K S0 H0 ρ σ own H) (hi : ρ[i]? = some (.ow d)) (ha : σ[i]? = some (some (.ref a))) (hy : y = a ∨ y ∈ sb H a) (mo : Mt (some o))
    (r : Own K (SF H0 own) (upd H y o) a d') (hs : ∀ x, x ∈ sb (upd H y o) a → x ∈ sb H a ∨ (x ∈ own ∧ ∀ (j : Nat) (e : D) (b : Addr), ρ[j]? = some (.ow e) → σ[j]? = some (some (.ref b)) → x ≠ b ∧ x ∉ sb H b)) :
    Rel K S0 H0 (ρ.set i (.ow d')) σ own (upd H y o) ∧ Fra own H own (upd H y o) := by
  obtain ⟨a', h1, ham, hown⟩ := R.ow i d hi
  rw [ha] at h1
  cases h1
  have hyo : y ∈ own := by
    rcases hy with rfl | hy
    · exact ham
    · exact (R.sub i d a hi ha y hy).1
  have f : Fra own H own (upd H y o) := ⟨fun b u e hn => by rw [upd_ne (fun z => hn (by rw [z]; exact hyo))]; exact e, fun _ h => .inl h⟩
  have hil : i < ρ.length := (List.getElem?_eq_some_iff.mp hi).1
  -- another slot's things are others
  have oth : ∀ (j : Nat) (e : D) (b : Addr), j ≠ i → ρ[j]? = some (.ow e) → σ[j]? = some (some (.ref b)) → b ≠ y ∧ y ∉ sb H b := fun j e b hj g1 g2 => by
    rcases hy with rfl | hy
    · refine ⟨fun z => hj (R.dis j i e d g1 hi (by rw [g2, ha, z])), fun z => ?_⟩
      exact ((R.sub j e b g1 g2 y z).2 i d y hi ha).1 rfl
    · obtain ⟨_, h2⟩ := R.sub i d a hi ha y hy
      obtain ⟨h3, h4⟩ := h2 j e b g1 g2
      exact ⟨fun z => h3 z.symm, h4 hj⟩
  have sbo : ∀ (j : Nat) (e : D) (b : Addr), j ≠ i → ρ[j]? = some (.ow e) → σ[j]? = some (some (.ref b)) → sb (upd H y o) b = sb H b := fun j e b hj g1 g2 => sb_eq (upd_ne (oth j e b hj g1 g2).1)
  have g : ∀ (j : Nat) (d1 : D), (ρ.set i (.ow d'))[j]? = some (.ow d1) → ∃ d2, ρ[j]? = some (.ow d2) := fun j d1 z => by
    rcases get_set z with ⟨rfl, _, _⟩ | ⟨_, z⟩
    · exact ⟨_, hi⟩
    · exact ⟨_, z⟩
  refine ⟨⟨fun j e q => ?_, fun j e q => ?_, fun j e q => ?_, fun j k d1 e1 x y q => ?_, fun j d1 b e1 e2 x hx => ?_, fun b hm => ⟨(R.own0 b hm).1, ?_⟩, fun b u e => ?_, by simp [R.len]⟩, f⟩
  · rcases get_set q with ⟨rfl, z, hl⟩ | ⟨hj, z⟩
    · cases z
    · obtain ⟨v, h1, h2⟩ := R.sh j e z
      exact ⟨v, h1, h2.keep (f.keepA R.own0)⟩
  · rcases get_set q with ⟨rfl, z, hl⟩ | ⟨hj, z⟩
    · cases z
    · obtain ⟨v, h1, h2⟩ := R.fr j e z
      exact ⟨v, h1, h2.keep (f.keepF R.own0)⟩
  · rcases get_set q with ⟨rfl, z, hl⟩ | ⟨hj, z⟩
    · cases z
      exact ⟨a, ha, ham, r⟩
    · obtain ⟨b, h1, h2, h3⟩ := R.ow j e z
      refine ⟨b, h1, h2, h3.keep (f.keepF R.own0) fun x hx u eu => ?_⟩
      obtain ⟨o1, o2⟩ := oth j e b hj z h1
      have hxy : x ≠ y := by
        rcases hx with rfl | hx
        · exact o1
        · exact fun q => o2 (q ▸ hx)
      rw [upd_ne hxy]; exact eu
  · obtain ⟨d2, z2⟩ := g j d1 x
    obtain ⟨d3, z3⟩ := g k e1 y
    exact R.dis j k d2 d3 z2 z3 q
  · obtain ⟨d2, z2⟩ := g j d1 e1
    by_cases hj : j = i
    · subst hj
      rw [ha] at e2
      cases e2
      rcases hs x hx with hx | ⟨hx1, hx2⟩
      · obtain ⟨h1, h2⟩ := R.sub j d a hi ha x hx
        refine ⟨h1, fun k e c g1 g2 => ?_⟩
        obtain ⟨d3, z3⟩ := g k e g1
        obtain ⟨h3, h4⟩ := h2 k d3 c z3 g2
        refine ⟨h3, fun hk => ?_⟩
        rw [sbo k d3 c hk z3 g2]
        exact h4 hk
      · refine ⟨hx1, fun k e c g1 g2 => ?_⟩
        obtain ⟨d3, z3⟩ := g k e g1
        obtain ⟨h3, h4⟩ := hx2 k d3 c z3 g2
        refine ⟨h3, fun hk => ?_⟩
        rw [sbo k d3 c hk z3 g2]
        exact h4
    · rw [sbo j d2 b hj z2 e2] at hx
      obtain ⟨h1, h2⟩ := R.sub j d2 b z2 e2 x hx
      refine ⟨h1, fun k e c g1 g2 => ?_⟩
      obtain ⟨d3, z3⟩ := g k e g1
      obtain ⟨h3, h4⟩ := h2 k d3 c z3 g2
      refine ⟨h3, fun hk => ?_⟩
      by_cases hki : k = i
      · subst hki
        rw [ha] at g2
        cases g2
        intro hxs
        rcases hs x hxs with hxs | ⟨_, hx2⟩
        · exact h4 hk hxs
        · exact (hx2 j d2 b z2 e2).2 hx
      · rw [sbo k d3 c hki z3 g2]
        exact h4 hk
  · by_cases hb : b = y
    · subst hb; rw [upd_same]; exact mo
    · rw [upd_ne hb]; exact (R.own0 b hm).2
  · have hb : b ≠ y := fun z => by
      have := (R.own0 y hyo).1
      rw [← z, e] at this; cases this
    rw [upd_ne hb]
    exact R.same b u e
end
/-! ### fields are set -/
def putN (f : Str) : List Str → List Str
  | [] => [f]
  | n :: ns => if n = f then n :: ns else n :: putN f ns
def putDs (f : Str) (d : D) : List Str → List D → List D
  | n :: ns, x :: ds => if n = f then d :: ds else x :: putDs f d ns ds
  | _, _ => [d]
section
variable {K : PySem.W.Frag} {S : Addr → Prop} {H : Hp} {f : Str} {d : D} {v : V}
theorem putF_names : ∀ vs : List (Str × V), (putF f v vs).map (·.1) = putN f (vs.map (·.1))
  | [] => rfl
  | (n, x) :: vs => by
    simp only [putF, putN, List.map_cons]
    by_cases e : n = f
    · rw [if_pos e, if_pos e]; rfl
    · rw [if_neg e, if_neg e, List.map_cons, putF_names vs]
/-- what the field holds -/
def FOk (K : PySem.W.Frag) (S : Addr → Prop) (H : Hp) (f : Str) (v : V) (d : D) : Prop := if ownF f = true then ∃ b xs es, v = .ref b ∧ d = .lst es ∧ H b = some (.lst xs) ∧ RpA K S H xs es else Rp K S H v d
theorem putF_own (h : FOk K S H f v d) : ∀ {vs : List (Str × V)} {ds : List D}, OwnF K S H vs ds → OwnF K S H (putF f v vs) (putDs f d (vs.map (·.1)) ds)
  | [], [], _ => ⟨h, trivial⟩
  | [], _ :: _, r => r.elim
  | _ :: _, [], r => r.elim
  | (n, x) :: vs, y :: ds, r => by
    simp only [putF, putDs, List.map_cons]
    by_cases e : n = f
    · rw [if_pos e, if_pos e]
      subst e
      exact ⟨h, r.2⟩
    · rw [if_neg e, if_neg e]
      exact ⟨r.1, putF_own h r.2⟩
theorem subs_cons (n : Str) (x : V) (vs : List (Str × V)) : (∃ b, x = .ref b ∧ ownF n = true ∧ subs ((n, x) :: vs) = b :: subs vs) ∨ subs ((n, x) :: vs) = subs vs := by
  cases x with
  | ref b =>
    by_cases c : ownF n = true
    · exact .inl ⟨b, rfl, c, if_pos c⟩
    · exact .inr (if_neg c)
  | _ => exact .inr rfl
theorem putF_subs_new {b : Addr} : ∀ vs : List (Str × V), (∀ x, x ∈ subs (putF f (.ref b) vs) → x = b ∨ x ∈ subs vs) ∧ (b ∉ subs vs → (subs vs).Nodup → (subs (putF f (.ref b) vs)).Nodup)
  | [] => by
    simp only [putF]
    rcases subs_cons f (.ref b) [] with ⟨b', e1, c, e2⟩ | e2
    · cases e1
      rw [e2]
      exact ⟨fun x hx => .inl (by simpa [subs] using hx), fun _ _ => by simp [subs]⟩
    · rw [e2]
      exact ⟨fun x hx => .inr hx, fun _ h => h⟩
  | (n, x) :: vs => by
    obtain ⟨i1, i2⟩ := putF_subs_new vs
    simp only [putF]
    by_cases e : n = f
    · rw [if_pos e]
      have hsub : ∀ z, z ∈ subs vs → z ∈ subs ((n, x) :: vs) := fun z hz => by
        rcases subs_cons n x vs with ⟨c, _, _, e2⟩ | e2
        · rw [e2]; exact List.mem_cons_of_mem _ hz
        · rw [e2]; exact hz
      have hnd : (subs ((n, x) :: vs)).Nodup → (subs vs).Nodup := fun h => by
        rcases subs_cons n x vs with ⟨c, _, _, e2⟩ | e2
        · rw [e2] at h; exact (List.nodup_cons.mp h).2
        · rw [e2] at h; exact h
      rcases subs_cons n (.ref b) vs with ⟨b', e1, c, e2⟩ | e2
      · cases e1
        rw [e2]
        refine ⟨fun z hz => (List.mem_cons.mp hz).imp id (hsub z), fun h1 h2 => List.nodup_cons.mpr ⟨fun hm => h1 (hsub b hm), hnd h2⟩⟩
      · rw [e2]
        exact ⟨fun z hz => .inr (hsub z hz), fun _ h2 => hnd h2⟩
    · rw [if_neg e]
      rcases subs_cons n x vs with ⟨c, rfl, hc, e2⟩ | e2
      · have e3 : subs ((n, V.ref c) :: putF f (.ref b) vs) = c :: subs (putF f (.ref b) vs) := if_pos hc
        rw [e2, e3]
        refine ⟨fun z hz => ?_, fun h1 h2 => ?_⟩
        · rcases List.mem_cons.mp hz with rfl | hz
          · exact .inr List.mem_cons_self
          · exact (i1 z hz).imp id (List.mem_cons_of_mem _)
        · obtain ⟨n1, n2⟩ := List.nodup_cons.mp h2
          refine List.nodup_cons.mpr ⟨fun hm => ?_, i2 (fun hm => h1 (List.mem_cons_of_mem _ hm)) n2⟩
          rcases i1 c hm with rfl | hm
          · exact h1 List.mem_cons_self
          · exact n1 hm
      · have e3 : subs ((n, x) :: putF f (.ref b) vs) = subs (putF f (.ref b) vs) := by
          rcases subs_cons n x (putF f (.ref b) vs) with ⟨c, rfl, hc, e3⟩ | e3
          · exfalso
            have : subs ((n, V.ref c) :: vs) = c :: subs vs := if_pos hc
            rw [this] at e2
            have := congrArg List.length e2
            simp at this
          · exact e3
        rw [e2, e3]
        exact ⟨i1, i2⟩
end
end VL
set_option Elab.async false
set_option linter.all false
set_option maxRecDepth 100000
/-! VO4: statements that change an object of one's own. -/
namespace VL
open PySem L2 PySem.Spec PyProof.Rows
section
variable {X : Cx} {W : WX} {S0 : Addr → Prop} {H0 : Hp} {rm : Md} {pos px pos' : Pos} {x f c : Str} {i : Nat} {e : Expr} {fe : Rho → M D}
/-- x.f = e, a new list of leaves that becomes the object's own -/
def sSetL (i : Nat) (c f : Str) (fe : Rho → M D) : Rho → Res := fun ρ => match ρ[i]? with
  | some (.ow (.obj p c' ns ds)) => ofM ρ (fun d => match d with
    | .lst es => if c' = c ∧ ns.length < 1000 ∧ lfA es = true then .nx (ρ.set i (.ow (.obj p c' (putN f ns) (putDs f (.lst es) ns ds)))) else .er
    | _ => .er) (fe ρ)
  | _ => .er
theorem vs_setL (hc : ClsK X.K c) (hn : NoF X.K c f) (h : VX X W S0 H0 .N e fe) (ho : ownF f = true := by decide) (hN : X.N[i]? = some x := by rfl) (hv : Vis X.env.scope x := by first | exact Or.inl rfl | exact Or.inr (Or.inl rfl) | exact Or.inr (Or.inr rfl)) (hd : (x == ("__debug__" : Str)) = false := by decide)
    (hcd : (x == ("__classdict__" : Str)) = false := by decide) (hs : swapsWith e (some (.Attribute (.Name x px) f pos')) pos.line X.env = pure false := by rfl) : VS X W S0 H0 rm (.Assign [.Attribute (.Name x px) f pos'] e pos) (sSetL i c f fe) := by
  obtain ⟨C, h1, h2⟩ := hc.p
  obtain ⟨te, pe, qe⟩ := h.p
  refine ⟨_, ps_fld (pe_var hN hv hd hcd) pe hs, fun ρ σ own H D R k => ?_⟩
  unfold sSetL at k
  split at k
  · next p c' ns ds eq =>
    refine qe ρ σ own H _ R ?_
    revert k
    cases fe ρ with
    | er => exact id
    | ex c => exact fun k cv d H' i s => k cv d σ own H' i (R.grow s) (.same s)
    | ok d =>
      intro k v H1 s1 r1
      rw [ofM_ok] at k
      split at k
      · next d' es =>
        split at k
        · next hcc =>
          obtain ⟨rfl, hl, hlf⟩ := hcc
          cases r1 with
          | @lst b xs _ sb1 hb1 rb =>
            obtain ⟨hbn, hbo, hb0⟩ := sb1
            have R1 := R.plus s1 hbn (by rw [hb1]; trivial)
            have F1 : Fra own H (b :: own) H1 := ⟨fun z o e _ => s1 z o e, fun z hz => (List.mem_cons.mp hz).elim (fun q => .inr (by rw [q]; exact hbn)) .inl⟩
            obtain ⟨a, ha, ma, hap, C', dx, vs, hH, hC, hns, ro, nd⟩ := R1.ow i _ eq
            obtain ⟨a0, ha0, ma0, _⟩ := R.ow i _ eq
            rw [ha] at ha0
            cases ha0
            cases h1.one hC
            have hvl : vs.length = ns.length := by rw [← hns, List.length_map]
            refine ⟨.ref a, ha, a, C, dx, vs, rfl, hH, h2, hn C h1, by omega, ?_⟩
            have live : ∀ z, z ∈ own → z ≠ b := fun z hz q => by
              obtain ⟨u, e⟩ := mt_some (R.own0 z hz).2
              rw [q, hbn] at e; cases e
            have hba : b ≠ a := fun q => live a ma0 q.symm
            have RG := R.grow s1
            have nsb : ∀ (j : Nat) (e : VL.D) (b' : Addr), ρ[j]? = some (.ow e) → σ[j]? = some (some (.ref b')) → b ≠ b' ∧ b ∉ sb H1 b' := fun j e b' g1 g2 => by
              obtain ⟨c0, g3, g4, _⟩ := R.ow j e g1
              rw [g2] at g3
              cases g3
              exact ⟨fun q => live _ g4 q.symm, fun hm => live b (RG.sub j e b' g1 g2 b hm).1 rfl⟩
            have kp := keep_upd (o := .ins C dx (putF f (.ref b) vs)) R1 ma
            obtain ⟨n1, n2⟩ := putF_subs_new (f := f) (b := b) vs
            have hbs : b ∉ subs vs := by
              have := (nsb i _ a eq ha).2
              rw [sb_ins hH] at this
              exact this
            have stay : ∀ z, z ∈ subs vs → ∀ o, H1 z = some o → upd H1 a (.ins C dx (putF f (.ref b) vs)) z = some o := fun z hz o e => by
              have := ((R1.sub i _ a eq ha z (by rw [sb_ins hH]; exact hz)).2 i _ a eq ha).1
              rw [upd_ne this]; exact e
            have hfok : FOk X.K (SF H0 (b :: own)) (upd H1 a (.ins C dx (putF f (.ref b) vs))) f (.ref b) (.lst es) := by
              unfold FOk
              rw [if_pos ho]
              exact ⟨b, xs, es, rfl, rfl, by rw [upd_ne hba]; exact hb1, (rb.lf hlf).keep kp⟩
            obtain ⟨R2, F2⟩ := R1.chgX (d' := .obj p c' (putN f ns) (putDs f (.lst es) ns ds)) (o := .ins C dx (putF f (.ref b) vs)) eq ha (.inl rfl) trivial
              ⟨hap, C, dx, _, upd_same, hC, by rw [putF_names, hns], by rw [← hns]; exact putF_own hfok (ro.keep kp stay), n2 hbs nd⟩
              (fun x hx => by
                rw [sb_ins upd_same] at hx
                rcases n1 x hx with rfl | hx
                · exact .inr ⟨List.mem_cons_self, fun j e b' g1 g2 => nsb j e b' g1 g2⟩
                · exact .inl (by rw [sb_ins hH]; exact hx))
            exact k σ _ _ R2 (F1.trans F2)
        · exact k.elim
      · exact k.elim
  · exact k.elim
end
end VL
set_option Elab.async false
set_option linter.all false
set_option maxRecDepth 100000
/-! VO5: the lists of an object's own are changed in place. -/
namespace VL
open PySem L2 PySem.Spec PyProof.Rows
section
variable {K : PySem.W.Frag} {S : Addr → Prop} {H H' : Hp} {f : Str} {b : Addr}
theorem lookup_subs (hof : ownF f = true) : ∀ {vs : List (Str × V)}, vs.lookup f = some (.ref b) → b ∈ subs vs
  | [], h => by cases h
  | (n, x) :: vs, h => by
    rw [List.lookup_cons] at h
    by_cases e : f = n
    · subst e
      have h2 : x = .ref b := by simpa using h
      subst h2
      have : subs ((f, V.ref b) :: vs) = b :: subs vs := if_pos hof
      rw [this]
      exact List.mem_cons_self
    · have e2 : (f == n) = false := by simpa using e
      rw [e2] at h
      have ih := lookup_subs hof (vs := vs) h
      rcases subs_cons n x vs with ⟨c, _, _, e3⟩ | e3
      · rw [e3]; exact List.mem_cons_of_mem _ ih
      · rw [e3]; exact ih
theorem own_upd {xs' : List V} {es' : List D} (kp : Keep S S H H') (hH : ∀ z, z ≠ b → H' z = H z) (hb : H' b = some (.lst xs')) (r' : RpA K S H' xs' es') (hof : ownF f = true) : ∀ {vs : List (Str × V)} {ds : List D}, OwnF K S H vs ds → vs.lookup f = some (.ref b) → (subs vs).Nodup → OwnF K S H' vs (putDs f (.lst es') (vs.map (·.1)) ds)
  | [], ds, _, h, _ => by cases h
  | (n, x) :: vs, [], r, _, _ => r.elim
  | (n, x) :: vs, d :: ds, r, h, nd => by
    rw [List.lookup_cons] at h
    simp only [putDs, List.map_cons]
    by_cases e : n = f
    · rw [if_pos e]
      subst e
      have h2 : x = .ref b := by simpa using h
      subst h2
      have e3 : subs ((n, V.ref b) :: vs) = b :: subs vs := if_pos hof
      rw [e3] at nd
      have nb := (List.nodup_cons.mp nd).1
      refine ⟨?_, r.2.keep kp fun z hz o e => by rw [hH z (fun q => nb (q ▸ hz))]; exact e⟩
      rw [if_pos hof]
      exact ⟨b, xs', es', rfl, rfl, hb, r'⟩
    · rw [if_neg e]
      have e2 : (f == n) = false := by simpa using fun q => e q.symm
      rw [e2] at h
      have hm := lookup_subs hof (vs := vs) h
      rcases subs_cons n x vs with ⟨c, rfl, hc, e3⟩ | e3
      · rw [e3] at nd
        obtain ⟨n1, n2⟩ := List.nodup_cons.mp nd
        refine ⟨?_, own_upd kp hH hb r' hof r.2 h n2⟩
        have r1 := r.1
        rw [if_pos hc] at r1 ⊢
        obtain ⟨b2, xs, es, h1, h2, h3, h4⟩ := r1
        cases h1
        exact ⟨c, xs, es, rfl, h2, by rw [hH c (fun q => n1 (q ▸ hm))]; exact h3, h4.keep kp⟩
      · rw [e3] at nd
        refine ⟨?_, own_upd kp hH hb r' hof r.2 h nd⟩
        have r1 := r.1
        by_cases hc : ownF n = true
        · rw [if_pos hc] at r1 ⊢
          obtain ⟨b2, xs, es, rfl, h2, h3, h4⟩ := r1
          exfalso
          have : subs ((n, V.ref b2) :: vs) = b2 :: subs vs := if_pos hc
          rw [this] at e3
          have := congrArg List.length e3
          simp at this
        · rw [if_neg hc] at r1 ⊢
          exact r1.keep kp
end
section
variable {X : Cx} {W : WX} {S0 : Addr → Prop} {H0 : Hp} {rm : Md} {pos px pf pos' apos cpos : Pos} {x f c : Str} {i : Nat} {e : Expr} {es : List Expr} {fa : Rho → M (List D)}
/-- x.f.name(args), a list of the object's own -/
def sFbm (i : Nat) (c f : Str) (eff : List D → List D → M (List D)) (fa : Rho → M (List D)) : Rho → Res := fun ρ => match ρ[i]? with
  | some (.ow (.obj p c' ns ds)) => (match lookF f ns ds with
    | some (.lst es) => if c' = c then (match fa ρ with
      | .ok as => (match eff es as with | .ok es' => .nx (ρ.set i (.ow (.obj p c' ns (putDs f (.lst es') ns ds)))) | _ => .er)
      | .ex c => .ex c ρ
      | .er => .er) else .er
    | _ => .er)
  | _ => .er
theorem vs_fbm {r : V → List V → Hp → VK → Prop} {eff : List D → List D → M (List D)} {name : Str} {idn : String} (hc : ClsK X.K c) (hn : NoF X.K c f) (slot : Slot "list" name idn) (hty : typeOf (.builtin idn) = pure (.type "method_descriptor")) (hm : MtR X idn r) (hg : MutG X r eff) (h : VA X W S0 H0 .F (e :: es) fa)
    (ho : ownF f = true := by decide) (hN : X.N[i]? = some x := by rfl) (hv : Vis X.env.scope x := by first | exact Or.inl rfl | exact Or.inr (Or.inl rfl) | exact Or.inr (Or.inr rfl)) (hd : (x == ("__debug__" : Str)) = false := by decide) (hcd : (x == ("__classdict__" : Str)) = false := by decide)
    (hbf : attributeBase (.Name x px) f X.env (eval (.Name x px) X.env) = eval (.Name x px) X.env := by rfl)
    (hbase : attributeBase (.Attribute (.Name x px) f pf) name X.env (eval (.Attribute (.Name x px) f pf) X.env) = eval (.Attribute (.Name x px) f pf) X.env := by rfl)
    (hfew : ((backTo cpos (starEach (e :: es) X.env)).all (fun x => !x.1) && (backToKw cpos (keywordEach [] X.env)).all (fun x => x.1.isSome)
      && decide ((e :: es).length + ([] : List Keyword).length + (if ([] : List Keyword).isEmpty then 0 else 1) < 30)) = true := by rfl)
    (hline : (apos.endLine == cpos.line) = true := by rfl) (hs : starEach (e :: es) X.env = (false, eval e X.env) :: starEach es X.env := by rfl) (hplain : (backTo cpos (starEach es X.env)).any (·.1) = false := by rfl)
    (hsw : swapsWith (.Call (.Attribute (.Attribute (.Name x px) f pf) name apos) (e :: es) [] cpos) none pos.line X.env = pure false := by rfl) :
    VS X W S0 H0 rm (.Expr (.Call (.Attribute (.Attribute (.Name x px) f pf) name apos) (e :: es) [] cpos) pos) (sFbm i c f eff fa) := by
  obtain ⟨C, h1, h2⟩ := hc.p
  obtain ⟨te, p, q⟩ := h.p
  refine ⟨_, ps_expr (pe_bm PySem.F.plainAttrs_list slot hty hm (pe_fld (pe_var hN hv hd hcd) hbf) p hbase hfew hline hs hplain) hsw, fun ρ σ own H D R k => ?_⟩
  unfold sFbm at k
  split at k
  · next p' c' ns ds eq =>
    split at k
    · next es0 hl =>
      split at k
      · next hcc =>
        subst hcc
        obtain ⟨a, ha, ma, hap, C', dx, vs, hH, hC, hns, ro, nd⟩ := R.ow i _ eq
        cases h1.one hC
        obtain ⟨w, hw, hr⟩ := look_own hns ro hl
        rw [if_pos ho] at hr
        obtain ⟨b, xs, es1, rfl, e1, hb, rb, hsb⟩ := hr
        cases e1
        refine ⟨.ref a, ha, a, C, dx, vs, .ref b, rfl, hH, h2, hn C h1, hw, .inl ⟨rfl, xs, SqL.of hb⟩, q ρ σ own H _ R ?_⟩
        revert k
        cases fa ρ with
        | er => exact id
        | ex c => exact fun k cv d H' i s => k cv d σ own H' i (R.grow s) (.same s)
        | ok as =>
          intro k ws H' s r
          dsimp only at k
          split at k
          · next es' ee =>
            have R' := R.grow s
            have hH' := s a _ hH
            have hmem : b ∈ sb H' a := by rw [sb_ins hH']; exact hsb
            have hbo := (R'.sub i _ a eq ha b hmem).1
            have hba : b ≠ a := ((R'.sub i _ a eq ha b hmem).2 i _ a eq ha).1
            refine hg (SF H0 own) H' b xs ws es0 as es' _ (s b _ hb) (rb.keep (.same s)) (RpA.ofP r) ee fun v xs' r' => ?_
            have kp := keep_upd (o := .lst xs') R' hbo
            have ro' := ro.keep (.same s) (fun z _ o e => s z o e)
            obtain ⟨R2, F2⟩ := R'.chgX (d' := .obj p' c' ns (putDs f (.lst es') ns ds)) (o := .lst xs') eq ha (.inr hmem) trivial
              ⟨hap, C, dx, vs, by rw [upd_ne (Ne.symm hba)]; exact hH', hC, hns, by rw [← hns]; exact own_upd kp (fun z hz => upd_ne hz) upd_same (r'.keep kp) ho ro' hw nd, nd⟩
              (fun z hz => .inl (by rw [sb_eq (upd_ne (Ne.symm hba))] at hz; exact hz))
            exact k σ own _ R2 ((Fra.same s).trans F2)
          · exact k.elim
      · exact k.elim
    · exact k.elim
  · exact k.elim
end
end VL
set_option Elab.async false
set_option linter.all false
set_option maxRecDepth 100000
/-! VO6: defs that change the object that they are given first. -/
namespace VL
open PySem L2 PySem.Spec PyProof.Rows
/-- what such a def gives: its answer, and the object behind it -/
inductive MO where
  | ok (d o : D) | ex (c : Xc) (o : D) | er
def pinD : D → Option Addr
  | .obj p _ _ _ => some p
  | _ => none
def objOf (d0 : D) (k : D → MO) (ρ : Rho) : MO := match ρ[(0 : Nat)]? with
  | some (.ow o) => if isObj o = true ∧ pinD o = pinD d0 then k o else .er
  | _ => .er
def finO (d0 : D) : Res → MO
  | .rs d ρ => objOf d0 (.ok d) ρ
  | .nx ρ => objOf d0 (.ok .non) ρ
  | .ex c ρ => objOf d0 (.ex c) ρ
  | _ => .er
def runO (n N : Nat) (F : Rho → Res) : List D → MO
  | d0 :: ds => if ds.length + 1 = n ∧ isObj d0 = true then finO d0 (F (.ow d0 :: (ds.map .sh ++ List.replicate (N - n) .no))) else .er
  | [] => .er
/-- where the object's data may lie behind it -/
def RO (S1 : Addr → Prop) (H : Hp) (p : Addr) (own' : List Addr) : Addr → Prop := fun a => a ∉ own' ∧ (S1 a ∨ H a = none ∨ a = p ∨ a ∈ sb H p)
structure CK (K : PySem.W.Frag) (S1 : Addr → Prop) (H : Hp) (p : Addr) (own' : List Addr) (H' : Hp) (o : D) : Prop where
  stand : ∀ a u, H a = some u → a ≠ p → a ∉ sb H p → H' a = some u
  mem : p ∈ own'
  new : ∀ a, a ∈ own' → a = p ∨ a ∈ sb H p ∨ H a = none
  mt : ∀ a, a ∈ own' → Mt (H' a)
  ob : isObj o = true
  own : Own K (RO S1 H p own') H' p o
  sub : ∀ x, x ∈ sb H' p → x ∈ own' ∧ x ≠ p
def PFO (mg : Str → Option Value) (K : PySem.W.Frag) (S1 : Addr → Prop) (H : Hp) (p : Addr) (Q : VK) (E : XK) : MO → Prop
  | .ok d o => ∀ v own' H', CK K S1 H p own' H' o → Rp K (RO S1 H p own') H' v d → Q v H'
  | .ex c o => ∀ cv dd own' H', IsCls mg c cv dd → CK K S1 H p own' H' o → E cv dd H'
  | .er => False
def spO (mg : Str → Option Value) (K : PySem.W.Frag) (G : List D → MO) : Sp := fun vs H Q E => ∃ (p : Addr) (ws : List V) (d0 : D) (ds : List D) (S1 : Addr → Prop), vs = .ref p :: ws ∧ isObj d0 = true ∧ Own K S1 H p d0 ∧ p ∉ sb H p ∧ (∀ a, S1 a → a ≠ p ∧ a ∉ sb H p) ∧
  (∀ x, x ∈ sb H p → Mt (H x)) ∧ RpA K (fun a => a ≠ p ∧ a ∉ sb H p) H ws ds ∧ PFO mg K S1 H p Q E (G (d0 :: ds))
section
variable {P : Program} {w : World} {K : PySem.W.Frag} {mg : Str → Option Value} {base : Heap}
/-- the callee's ground -/
noncomputable def ground (S1 : Addr → Prop) (H : Hp) (p : Addr) : Hp := fun a => open Classical in if S1 a ∨ a = p ∨ a ∈ sb H p then none else H a
theorem ground_none {S1 : Addr → Prop} {H : Hp} {p a : Addr} : ground S1 H p a = none ↔ (S1 a ∨ a = p ∨ a ∈ sb H p) ∨ H a = none := by
  unfold ground
  split
  · next h => exact ⟨fun _ => .inl h, fun _ => rfl⟩
  · next h => exact ⟨fun e => .inr e, fun e => e.elim (fun z => absurd z h) id⟩
theorem rel_startO {S1 : Addr → Prop} {H : Hp} {p : Addr} {d0 : D} {ws : List V} {ds : List D} (ho : Own K S1 H p d0) (hp : p ∉ sb H p) (hS : ∀ a, S1 a → a ≠ p ∧ a ∉ sb H p) (hm : ∀ x, x ∈ sb H p → Mt (H x)) (r : RpA K (fun a => a ≠ p ∧ a ∉ sb H p) H ws ds) (k : Nat) :
    Rel K (fun _ => True) (ground S1 H p) (.ow d0 :: (ds.map .sh ++ List.replicate k .no)) (some (.ref p) :: (ws.map some ++ List.replicate k none)) (p :: sb H p) H := by
  have hl : ws.length = ds.length := r.length
  have no : ∀ (i : Nat) (s : Sl), (ds.map Sl.sh ++ List.replicate k Sl.no)[i]? = some s → (∃ d, ds[i]? = some d ∧ s = .sh d) ∨ s = .no := fun i s e => by
    by_cases hi : i < (ds.map Sl.sh).length
    · rw [List.getElem?_append_left hi, List.getElem?_map] at e
      cases h : ds[i]? with
      | none => rw [h] at e; cases e
      | some d => rw [h] at e; cases e; exact .inl ⟨d, rfl, rfl⟩
    · rw [List.getElem?_append_right (by omega)] at e
      have := List.mem_of_getElem? e
      exact .inr (List.eq_of_mem_replicate this)
  have zero : ∀ (i : Nat) (d : D), (Sl.ow d0 :: (ds.map Sl.sh ++ List.replicate k Sl.no))[i]? = some (.ow d) → i = 0 ∧ d = d0 := fun i d e => by
    cases i with
    | zero => simp at e; exact ⟨rfl, e.symm⟩
    | succ i =>
      rcases no i _ (by simpa using e) with ⟨d', _, z⟩ | z <;> cases z
  have hmt : Mt (H p) := ho.mt
  refine ⟨fun i d e => ?_, fun i d e => ?_, fun i d e => ?_, fun i j d e a b q => ?_, fun i d a e1 e2 x hx => ?_, fun a h => ?_, fun a o e => ?_, by simp [hl]⟩
  · cases i with
    | zero => simp at e
    | succ i =>
      rcases no i _ (by simpa using e) with ⟨d', h, z⟩ | z
      · cases z
        obtain ⟨v, h1, h2⟩ := r.get h
        have hi : i < ws.length := (List.getElem?_eq_some_iff.mp h1).1
        refine ⟨v, ?_, h2.keep (.wide fun a s => ⟨by simp [s.1, s.2], .inl trivial⟩)⟩
        rw [List.getElem?_cons_succ, List.getElem?_append_left (by simpa using hi), List.getElem?_map, h1]
        rfl
      · cases z
  · cases i with
    | zero => simp at e
    | succ i =>
      rcases no i _ (by simpa using e) with ⟨d', h, z⟩ | z <;> cases z
  · obtain ⟨rfl, rfl⟩ := zero i d e
    refine ⟨p, rfl, List.mem_cons_self, ho.keep (.wide fun a s => ?_) fun _ _ _ q => q⟩
    obtain ⟨h1, h2⟩ := hS a s
    exact ⟨by simp [h1, h2], ground_none.mpr (.inl (.inl s))⟩
  · rw [(zero i d a).1, (zero j e b).1]
  · obtain ⟨rfl, rfl⟩ := zero i d e1
    have : a = p := by simpa using e2.symm
    subst this
    refine ⟨List.mem_cons_of_mem _ hx, fun j e b g1 g2 => ?_⟩
    obtain ⟨rfl, rfl⟩ := zero j e g1
    have : b = a := by simpa using g2.symm
    subst this
    exact ⟨fun z => hp (z ▸ hx), fun z => absurd rfl z⟩
  · rcases List.mem_cons.mp h with rfl | h
    · exact ⟨ground_none.mpr (.inl (.inr (.inl rfl))), hmt⟩
    · exact ⟨ground_none.mpr (.inl (.inr (.inr h))), hm a h⟩
  · unfold ground at e
    split at e
    · cases e
    · exact e
theorem ck_of {S1 : Addr → Prop} {H H' : Hp} {p : Addr} {d0 o : D} {ρ' : Rho} {σ' : Sg} {own' : List Addr} (h0 : isObj d0 = true) (ho : Own K S1 H p d0) (R : Rel K (fun _ => True) (ground S1 H p) ρ' σ' own' H') (F : Fra (p :: sb H p) H own' H') (e : ρ'[0]? = some (.ow o)) (hob : isObj o = true) (hpin : pinD o = pinD d0) :
    CK K S1 H p own' H' o ∧ ∀ v d, Rp K (SF (ground S1 H p) own') H' v d → Rp K (RO S1 H p own') H' v d := by
  obtain ⟨a, h1, h2, h3⟩ := R.ow 0 o e
  have wide : ∀ a, SF (ground S1 H p) own' a → RO S1 H p own' a := fun a s => ⟨s.1, by
    rcases ground_none.mp s.2 with (h | h | h) | h
    · exact .inl h
    · exact .inr (.inr (.inl h))
    · exact .inr (.inr (.inr h))
    · exact .inr (.inl h)⟩
  cases o with
  | obj p' c ns ds =>
    cases d0 with
    | obj p0 c0 ns0 ds0 =>
      have e1 : a = p' := h3.1
      have e2 : p = p0 := ho.1
      have e3 : p' = p0 := Option.some.inj hpin
      have ea : a = p := by rw [e1, e3, e2]
      subst ea
      refine ⟨⟨fun b u hb n1 n2 => F.k b u hb (by simp [n1, n2]), h2, fun b hb => ?_, fun b hb => (R.own0 b hb).2, rfl, h3.keep (.wide wide) fun _ _ _ q => q, fun x hx => ?_⟩, fun v d r => r.keep (.wide wide)⟩
      · rcases F.n b hb with h | h
        · rcases List.mem_cons.mp h with h | h
          · exact .inl h
          · exact .inr (.inl h)
        · exact .inr (.inr h)
      · obtain ⟨g1, g2⟩ := R.sub 0 _ a e h1 x hx
        exact ⟨g1, (g2 0 _ a e h1).1⟩
    | _ => cases h0
  | _ => cases hob
theorem fn_okO {x qual : Str} {st : Stmt} {f : Addr} {fd : FuncData} {N ps : List Str} {k : Nat} {F : Rho → Res} (Fn : Fun K x qual st f fd) (S : FnScope N ps (defScope st))
    (hb : ∀ (cdv : Value) (A : Around) (outer : List Env) (s : Shared) (H : Hp) (E : XK) (S0 : Addr → Prop) (H0 : Hp), Room k (A.deeper (envOfC qual (defScope st) s.heap.objs.size f cdv)) →
      VSs (cxOf (L2N.CX P w) P w K mg base N qual (defScope st) f cdv A outer s H E) (fun cls d _ H => E cls d H) S0 H0 .F (defBody st) F) :
    FnOk P w K mg base (L2N.CX P w) (k + 1) f fd ps (spO mg K (runO ps.length N.length F)) := by
  refine funN Fn S (fun vs H Q E h => ?_) (fun cdv A outer s H vs Q E hr h => ?_)
  · obtain ⟨p, ws, d0, ds, S1, rfl, _, _, _, _, _, r, k⟩ := h
    simp only [runO] at k
    split at k
    · next hl => rw [List.length_cons, r.length, hl.1]
    · exact k.elim
  · obtain ⟨p, ws, d0, ds, S1, rfl, h0, ho, hp, hS, hm, r, k⟩ := h
    obtain ⟨t, pt, q⟩ := (hb cdv A outer s H E (fun _ => True) (ground S1 H p) hr).p
    refine ⟨t, pt, ?_⟩
    simp only [runO] at k
    split at k
    · next hl =>
      have hv : ws.length + 1 = ps.length := by rw [r.length, hl.1]
      have R := rel_startO ho hp hS hm r (N.length - ps.length)
      have e : L2.start N (.ref p :: ws) = some (.ref p) :: (ws.map some ++ List.replicate (N.length - ps.length) none) := by
        unfold L2.start
        rw [List.length_cons, hv]
        rfl
      rw [e]
      refine q _ _ _ H _ R ?_
      revert k
      generalize F (.ow d0 :: (ds.map Sl.sh ++ List.replicate (N.length - ps.length) Sl.no)) = rr
      intro k
      cases rr with
      | nx ρ' =>
        intro σ' own' H' R' F'
        simp only [finO, objOf] at k
        split at k
        · next o eo =>
          split at k
          · next hc =>
            obtain ⟨c1, c2⟩ := ck_of h0 ho R' F' eo hc.1 hc.2
            exact k .non own' H' c1 .non
          · exact k.elim
        · exact k.elim
      | rs d ρ' =>
        intro v σ' own' H' rv R' F'
        simp only [finO, objOf] at k
        split at k
        · next o eo =>
          split at k
          · next hc =>
            obtain ⟨c1, c2⟩ := ck_of h0 ho R' F' eo hc.1 hc.2
            exact k v own' H' c1 (c2 v d rv)
          · exact k.elim
        · exact k.elim
      | ex c ρ' =>
        intro cv dd σ' own' H' ic R' F'
        simp only [finO, objOf] at k
        split at k
        · next o eo =>
          split at k
          · next hc =>
            obtain ⟨c1, c2⟩ := ck_of h0 ho R' F' eo hc.1 hc.2
            exact k cv dd own' H' ic c1
          · exact k.elim
        · exact k.elim
      | rt d => exact k.elim
      | bk ρ' => exact k.elim
      | ct ρ' => exact k.elim
      | er => exact k.elim
    · exact k.elim
end
end VL
set_option Elab.async false
set_option linter.all false
set_option maxRecDepth 100000
/-! VO7: calls of defs that change an object of the caller's own. -/
namespace VL
open PySem L2 PySem.Spec PyProof.Rows
section
variable {K : PySem.W.Frag} {S0 : Addr → Prop} {H0 H H' : Hp} {ρ : Rho} {σ : Sg} {own own' : List Addr} {p : Addr}
open Classical in
noncomputable def ownB (own : List Addr) (H : Hp) (p : Addr) (own' : List Addr) : List Addr := (own.filter fun b => decide (b ≠ p ∧ b ∉ sb H p)) ++ own'
theorem mem_ownB {b : Addr} : b ∈ ownB own H p own' ↔ (b ∈ own ∧ b ≠ p ∧ b ∉ sb H p) ∨ b ∈ own' := by
  unfold ownB
  rw [List.mem_append, List.mem_filter, decide_eq_true_eq]
/-- the object comes back -/
theorem Rel.back {i : Nat} {d0 o : D} (R : Rel K S0 H0 ρ σ own H) (hi : ρ[i]? = some (.ow d0)) (hp : σ[i]? = some (some (.ref p))) (ck : CK K (SF H0 own) H p own' H' o) :
    Rel K S0 H0 (ρ.set i (.ow o)) σ (ownB own H p own') H' ∧ Fra own H (ownB own H p own') H' ∧ ∀ a, RO (SF H0 own) H p own' a → SF H0 (ownB own H p own') a := by
  obtain ⟨p', h1, hpo, hown⟩ := R.ow i d0 hi
  rw [hp] at h1
  cases h1
  have hsub := R.sub i d0 p hi hp
  have live : ∀ b, b ∈ own → H b ≠ none := fun b hb e => by
    obtain ⟨u, eu⟩ := mt_some (R.own0 b hb).2
    rw [e] at eu; cases eu
  -- what of own' is not of the object is new
  have outN : ∀ b, b ∈ own' → b ≠ p → b ∉ sb H p → H b = none := fun b hb n1 n2 => by
    rcases ck.new b hb with h | h | h
    · exact absurd h n1
    · exact absurd h n2
    · exact h
  have out : ∀ b, b ∉ own → b ≠ p ∧ b ∉ sb H p := fun b hb => ⟨fun z => hb (z ▸ hpo), fun z => hb (hsub b z).1⟩
  have kL : ∀ b u, H b = some u → b ∉ own → b ∉ ownB own H p own' ∧ H' b = some u := fun b u e hb => by
    obtain ⟨n1, n2⟩ := out b hb
    refine ⟨fun hm => ?_, ck.stand b u e n1 n2⟩
    rcases mem_ownB.mp hm with h | h
    · exact hb h.1
    · rw [outN b h n1 n2] at e; cases e
  have kM : ∀ b u, H b = some u → ¬ Mt (some u) → H' b = some u := fun b u e hm => by
    refine ck.stand b u e (fun z => ?_) (fun z => ?_)
    · have := (R.own0 p hpo).2
      rw [← z, e] at this; exact hm this
    · have := (R.own0 b (hsub b z).1).2
      rw [e] at this; exact hm this
  have kA : Keep (SA S0 H0 own) (SA S0 H0 (ownB own H p own')) H H' := ⟨fun b u s e => ⟨⟨(kL b u e s.1).1, s.2⟩, (kL b u e s.1).2⟩, fun b xs e => kM b _ e id, fun b o u e => kM b _ e id⟩
  have kF : Keep (SF H0 own) (SF H0 (ownB own H p own')) H H' := ⟨fun b u s e => ⟨⟨(kL b u e s.1).1, s.2⟩, (kL b u e s.1).2⟩, fun b xs e => kM b _ e id, fun b o u e => kM b _ e id⟩
  have reg : ∀ a, RO (SF H0 own) H p own' a → SF H0 (ownB own H p own') a := fun a s => by
    obtain ⟨s1, s2⟩ := s
    refine ⟨fun hm => ?_, ?_⟩
    · rcases mem_ownB.mp hm with ⟨g1, g2, g3⟩ | h
      · rcases s2 with h | h | h | h
        · exact h.1 g1
        · exact live a g1 h
        · exact g2 h
        · exact g3 h
      · exact s1 h
    · rcases s2 with h | h | h | h
      · exact h.2
      · exact R.same.free h
      · rw [h]; exact (R.own0 p hpo).1
      · exact (R.own0 a (hsub a h).1).1
  -- the other slots
  have oth : ∀ (j : Nat) (e : D) (b : Addr), j ≠ i → ρ[j]? = some (.ow e) → σ[j]? = some (some (.ref b)) → b ∈ own ∧ b ≠ p ∧ b ∉ sb H p ∧ H' b = H b ∧ ∀ x, x ∈ sb H b → x ∈ own ∧ x ≠ p ∧ x ∉ sb H p ∧ H' x = H x := fun j e b hj g1 g2 => by
    obtain ⟨b', g3, g4, _⟩ := R.ow j e g1
    rw [g2] at g3
    cases g3
    have n1 : b ≠ p := fun z => hj (R.dis j i e d0 g1 hi (by rw [g2, hp, z]))
    have n2 : b ∉ sb H p := fun z => ((hsub b z).2 j e b g1 g2).1 rfl
    have st : ∀ x, x ∈ own → x ≠ p → x ∉ sb H p → H' x = H x := fun x hx m1 m2 => by
      obtain ⟨u, eu⟩ := mt_some (R.own0 x hx).2
      rw [eu]
      exact ck.stand x u eu m1 m2
    refine ⟨g4, n1, n2, st b g4 n1 n2, fun x hx => ?_⟩
    obtain ⟨m0, m⟩ := R.sub j e b g1 g2 x hx
    obtain ⟨m1, m2⟩ := m i d0 p hi hp
    have m2 := m2 (Ne.symm hj)
    exact ⟨m0, m1, m2, st x m0 m1 m2⟩
  refine ⟨⟨fun j e q => ?_, fun j e q => ?_, fun j e q => ?_, fun j k d1 e1 x y q => ?_, fun j d1 b e1 e2 x hx => ?_, fun b hm => ?_, fun b u e => ?_, by simp [R.len]⟩, ⟨fun b u e hb => (kL b u e hb).2, fun b hm => ?_⟩, reg⟩
  · rcases get_set q with ⟨rfl, z, hl⟩ | ⟨hj, z⟩
    · cases z
    · obtain ⟨v, h1, h2⟩ := R.sh j e z
      exact ⟨v, h1, h2.keep kA⟩
  · rcases get_set q with ⟨rfl, z, hl⟩ | ⟨hj, z⟩
    · cases z
    · obtain ⟨v, h1, h2⟩ := R.fr j e z
      exact ⟨v, h1, h2.keep kF⟩
  · rcases get_set q with ⟨rfl, z, hl⟩ | ⟨hj, z⟩
    · cases z
      exact ⟨p, hp, mem_ownB.mpr (.inr ck.mem), ck.own.keep (.wide reg) fun _ _ _ q => q⟩
    · obtain ⟨b, h1, h2, h3⟩ := R.ow j e z
      obtain ⟨g1, g2, g3, g4, g5⟩ := oth j e b hj z h1
      refine ⟨b, h1, mem_ownB.mpr (.inl ⟨g1, g2, g3⟩), h3.keep kF fun x hx u eu => ?_⟩
      rcases hx with rfl | hx
      · rw [g4]; exact eu
      · rw [(g5 x hx).2.2.2]; exact eu
  · have g : ∀ (j : Nat) (d1 : D), (ρ.set i (.ow o))[j]? = some (.ow d1) → ∃ d2, ρ[j]? = some (.ow d2) := fun j d1 z => by
      rcases get_set z with ⟨rfl, _, _⟩ | ⟨_, z⟩
      · exact ⟨_, hi⟩
      · exact ⟨_, z⟩
    obtain ⟨d2, z2⟩ := g j d1 x
    obtain ⟨d3, z3⟩ := g k e1 y
    exact R.dis j k d2 d3 z2 z3 q
  · have newx : ∀ x, x ∈ own' → ∀ y, y ∈ own → y ≠ p → y ∉ sb H p → x ≠ y := fun x hx y hy n1 n2 z => live y hy (outN y (z ▸ hx) n1 n2)
    rcases get_set e1 with ⟨rfl, _, _⟩ | ⟨hj, z⟩
    · rw [hp] at e2
      cases e2
      obtain ⟨g1, g2⟩ := ck.sub x hx
      refine ⟨mem_ownB.mpr (.inr g1), fun k e c g3 g4 => ?_⟩
      rcases get_set g3 with ⟨rfl, _, _⟩ | ⟨hk, y⟩
      · rw [hp] at g4
        cases g4
        exact ⟨g2, fun z => absurd rfl z⟩
      · obtain ⟨f1, f2, f3, f4, f5⟩ := oth k e c hk y g4
        refine ⟨newx x g1 c f1 f2 f3, fun _ hm => ?_⟩
        rw [sb_eq f4] at hm
        obtain ⟨q1, q2, q3, _⟩ := f5 x hm
        exact newx x g1 x q1 q2 q3 rfl
    · obtain ⟨f1, f2, f3, f4, f5⟩ := oth j d1 b hj z e2
      rw [sb_eq f4] at hx
      obtain ⟨q1, q2, q3, _⟩ := f5 x hx
      refine ⟨mem_ownB.mpr (.inl ⟨q1, q2, q3⟩), fun k e c g3 g4 => ?_⟩
      rcases get_set g3 with ⟨rfl, _, _⟩ | ⟨hk, y⟩
      · rw [hp] at g4
        cases g4
        exact ⟨q2, fun _ hm => newx x (ck.sub x hm).1 x q1 q2 q3 rfl⟩
      · obtain ⟨f1', f2', f3', f4', f5'⟩ := oth k e c hk y g4
        rw [sb_eq f4']
        exact (R.sub j d1 b z e2 x hx).2 k e c y g4
  · rcases mem_ownB.mp hm with ⟨g1, g2, g3⟩ | h
    · refine ⟨(R.own0 b g1).1, ?_⟩
      obtain ⟨u, eu⟩ := mt_some (R.own0 b g1).2
      have m := (R.own0 b g1).2
      rw [ck.stand b u eu g2 g3, ← eu]
      exact m
    · refine ⟨?_, ck.mt b h⟩
      rcases ck.new b h with q | q | q
      · rw [q]; exact (R.own0 p hpo).1
      · exact (R.own0 b (hsub b q).1).1
      · exact R.same.free q
  · have hb : b ∉ own := fun hb => by
      have := (R.own0 b hb).1
      rw [e] at this; cases this
    exact (kL b u (R.same b u e) hb).2
  · rcases mem_ownB.mp hm with h | h
    · exact .inl h.1
    · rcases ck.new b h with q | q | q
      · rw [q]; exact .inl hpo
      · exact .inl (hsub b q).1
      · exact .inr q
end
end VL
set_option Elab.async false
set_option linter.all false
set_option maxRecDepth 100000
/-! VO8: expressions that change an object, and the statements over them. -/
namespace VL
open PySem L2 PySem.Spec PyProof.Rows
inductive MR where
  | ok (d : D) (ρ : Rho) | ex (c : Xc) (ρ : Rho) | er
section
variable (X : Cx) (W : WX) (S0 : Addr → Prop) (H0 : Hp) (own : List Addr) (H : Hp) (σ : Sg)
def PXM (Q : VK) : MR → Prop
  | .ok d ρ' => ∀ v own' H', Rel X.K S0 H0 ρ' σ own' H' → Fra own H own' H' → Rp X.K (SF H0 own') H' v d → Q v H'
  | .ex c ρ' => ∀ cv d own' H', IsCls X.mg c cv d → Rel X.K S0 H0 ρ' σ own' H' → Fra own H own' H' → W cv d σ H'
  | .er => False
end
structure VXM (X : Cx) (W : WX) (S0 : Addr → Prop) (H0 : Hp) (e : Expr) (f : Rho → MR) : Prop where
  p : ∃ te, PE X e te ∧ ∀ ρ σ own H Q, Rel X.K S0 H0 ρ σ own H → PXM X W S0 H0 own H σ Q (f ρ) → te σ H Q
def moR (i : Nat) (ρ : Rho) : MO → MR
  | .ok d o => .ok d (ρ.set i (.ow o))
  | .ex c o => .ex c (ρ.set i (.ow o))
  | .er => .er
/-- a method that changes its object -/
structure CalMO (P : Program) (w : World) (K : PySem.W.Frag) (mg : Str → Option Value) (base : Heap) (k : Nat) (c m : Str) (G : List D → MO) : Prop where
  p : ∃ (C f : Addr) (fd : FuncData) (ps : List Str), ClsAt K c C ∧ Cls K C ∧ Meth K C m f ∧ FnOk P w K mg base (L2N.CX P w) k f fd ps (spO mg K G) ∧ Binds K fd ps []
/-- a def that changes its first argument -/
structure CalO (P : Program) (w : World) (K : PySem.W.Frag) (mg : Str → Option Value) (base : Heap) (k : Nat) (x : Str) (G : List D → MO) : Prop where
  p : ∃ (f : Addr) (fd : FuncData) (ps : List Str), FnOk P w K mg base (L2N.CX P w) k f fd ps (spO mg K G) ∧ mg x = some (.ref f) ∧ PySem.W.keepIn K (.ref f) = true ∧ Binds K fd ps []
section
variable {X : Cx} {W : WX} {S0 : Addr → Prop} {H0 : Hp} {rm : Md} {pos p px apos : Pos} {e : Expr} {es : List Expr} {fa : Rho → M (List D)} {x c m : Str} {i j k : Nat} {G : List D → MO}
theorem PXM.weak {own own' : List Addr} {H H' : Hp} {σ : Sg} {Q : VK} {r : MR} (h : PXM X W S0 H0 own H σ Q r) (f : Fra own H own' H') : PXM X W S0 H0 own' H' σ Q r := by
  cases r with
  | ok d ρ => exact fun v o2 H2 a b r => h v o2 H2 a (f.trans b) r
  | ex c ρ => exact fun cv d o2 H2 ic a b => h cv d o2 H2 ic a (f.trans b)
  | er => exact h
theorem call_O {ρ : Rho} {σ : Sg} {own : List Addr} {H : Hp} {Q : VK} {a : Addr} {d0 : D} {ws : List V} {ds : List D} (R : Rel X.K S0 H0 ρ σ own H) (hi : ρ[i]? = some (.ow d0)) (hp : σ[i]? = some (some (.ref a))) (h0 : isObj d0 = true) (r : RpA X.K (SA S0 H0 own) H ws ds)
    (k : PXM X W S0 H0 own H σ Q (moR i ρ (G (d0 :: ds)))) : spO X.mg X.K G (.ref a :: ws) H Q (WE W σ) := by
  obtain ⟨a', h1, hao, hown⟩ := R.ow i d0 hi
  rw [hp] at h1
  cases h1
  have hsub := R.sub i d0 a hi hp
  refine ⟨a, ws, d0, ds, SF H0 own, rfl, h0, hown, fun hm => (hsub a hm).2 i d0 a hi hp |>.1 rfl, fun b s => ⟨fun z => s.1 (z ▸ hao), fun z => s.1 (hsub b z).1⟩, fun b hb => (R.own0 b (hsub b hb).1).2, r.keep (.wide fun b s => ⟨fun z => s.1 (z ▸ hao), fun z => s.1 (hsub b z).1⟩), ?_⟩
  revert k
  cases G (d0 :: ds) with
  | er => exact id
  | ok d o =>
    intro k v own' H' ck rv
    obtain ⟨R2, F2, reg⟩ := R.back hi hp ck
    exact k v _ H' R2 F2 (rv.keep (.wide reg))
  | ex c o =>
    intro k cv dd own' H' ic ck
    obtain ⟨R2, F2, reg⟩ := R.back hi hp ck
    exact k cv dd _ H' ic R2 F2
/-- x.m(args) -/
def eMethO (i : Nat) (c m : Str) (G : List D → MO) (fa : Rho → M (List D)) : Rho → MR := fun ρ => match ρ[i]? with
  | some (.ow (.obj p c' ns ds)) => if c' = c ∧ m ∉ ns then (match fa ρ with
    | .ok as => moR i ρ (G (.obj p c' ns ds :: as))
    | .ex c => .ex c ρ
    | .er => .er) else .er
  | _ => .er
theorem vxm_meth {pl : Sem Bool} (cm : CalMO X.prog X.w X.K X.mg X.base k c m G) (tk : L2N.Takes X W) (hr : Room j X.A) (hk : k ≤ j) (ha : VA X W S0 H0 .E (e :: es) fa) (hN : X.N[i]? = some x := by rfl)
    (hv : Vis X.env.scope x := by first | exact Or.inl rfl | exact Or.inr (Or.inl rfl) | exact Or.inr (Or.inr rfl)) (hd : (x == ("__debug__" : Str)) = false := by decide) (hcd : (x == ("__classdict__" : Str)) = false := by decide)
    (hst : starEach (e :: es) X.env = (false, eval e X.env) :: starEach es X.env := by rfl) (hpl : (backTo pos (starEach es X.env)).any (·.1) = false := by rfl)
    (ht : eval (.Call (.Attribute (.Name x px) m apos) (e :: es) [] pos) X.env = (do
      let ov ← eval (.Name x px) X.env
      standAt apos.atName
      let (f, first) ← holding [ov] (getMethod ov m pl)
      callWith pos f first (backTo pos (starEach (e :: es) X.env)) (backToKw pos (keywordEach [] X.env))) := by rfl) : VXM X W S0 H0 (.Call (.Attribute (.Name x px) m apos) (e :: es) [] pos) (eMethO i c m G fa) := by
  obtain ⟨C, f, fd, ps, h1, h2, h3, F, h5⟩ := cm.p
  obtain ⟨ta, pa, qa⟩ := ha.p
  refine ⟨_, pe_methX (pe_var hN hv hd hcd) h2 h3 F (hr.mono hk) h5 (fun σ => L2N.passAt tk σ) pa hst hpl ht, fun ρ σ own H Q R k => ?_⟩
  unfold eMethO at k
  split at k
  · next p c' ns ds eq =>
    split at k
    · next hcm =>
      obtain ⟨rfl, hm⟩ := hcm
      obtain ⟨a, ha', hao, hap, C', dx, vs, hH, hC, hns, _⟩ := R.ow i _ eq
      cases h1.one hC
      refine ⟨.ref a, ha', a, dx, vs, rfl, hH, look_none hns hm, qa ρ σ own H _ R ?_⟩
      revert k
      cases fa ρ with
      | er => exact id
      | ex c => exact fun k cv dd H' ic s => k cv dd own H' ic (R.grow s) (.same s)
      | ok as => exact fun k ws H2 s2 r2 => call_O (R.grow s2) eq ha' rfl (RpA.ofE r2 |>.keep (.wide fun b s => s)) (PXM.weak k (.same s2))
    · exact k.elim
  · exact k.elim
end
section
variable {X : Cx} {W : WX} {S0 : Addr → Prop} {H0 : Hp} {rm : Md} {pos : Pos} {e : Expr} {f : Rho → MR}
/-- e as a statement -/
def sExO (f : Rho → MR) : Rho → Res := fun ρ => match f ρ with
  | .ok _ ρ' => .nx ρ'
  | .ex c ρ' => .ex c ρ'
  | .er => .er
theorem vs_exO (h : VXM X W S0 H0 e f) (hsw : swapsWith e none pos.line X.env = pure false := by rfl) : VS X W S0 H0 rm (.Expr e pos) (sExO f) := by
  obtain ⟨te, p, q⟩ := h.p
  refine ⟨_, ps_expr p hsw, fun ρ σ own H D R k => q ρ σ own H _ R ?_⟩
  unfold sExO at k
  revert k
  cases f ρ with
  | er => exact id
  | ex c ρ' => exact fun k cv d own' H' ic a b => k cv d σ own' H' ic a b
  | ok d ρ' => exact fun k v own' H' a b r => k σ own' H' a b
end
end VL
set_option Elab.async false
set_option linter.all false
set_option maxRecDepth 100000
/-! VO9: changing defs called by their names; assignment and return over changing calls. -/
namespace VL
open PySem L2 PySem.Spec PyProof.Rows
section
variable {X : Cx} {W : WX} {S0 : Addr → Prop} {H0 : Hp} {rm : Md} {pos pos' p px : Pos} {e : Expr} {es : List Expr} {fa : Rho → M (List D)} {x y : Str} {i j k : Nat} {G : List D → MO} {f : Rho → MR}
/-- return e, the state with it -/
def sRetS (f : Rho → M D) : Rho → Res := fun ρ => ofM ρ (fun d => .rs d ρ) (f ρ)
theorem vs_retS {fe : Rho → M D} (h : VX X W S0 H0 .F e fe) : VS X W S0 H0 .F (.Return (some e) pos) (sRetS fe) := by
  obtain ⟨te, p, q⟩ := h.p
  refine ⟨_, ps_ret p, fun ρ σ own H D R k => q ρ σ own H _ R ?_⟩
  unfold sRetS at k
  revert k
  cases fe ρ with
  | er => exact id
  | ex c => exact fun k cv d H' i s => k cv d σ own H' i (R.grow s) (.same s)
  | ok d => exact fun k v H' s r => k v σ own H' r (R.grow s) (.same s)
end
end VL
set_option Elab.async false
set_option linter.all false
set_option maxRecDepth 100000
/-! VO10: tests that change an object. -/
namespace VL
open PySem L2 PySem.Spec PyProof.Rows
inductive MT where
  | ok (b : Bool) (ρ : Rho) | ex (c : Xc) (ρ : Rho) | er
section
variable (X : Cx) (W : WX) (S0 : Addr → Prop) (H0 : Hp) (own : List Addr) (H : Hp) (σ : Sg)
def PXN (Q : Bool → Hp → Prop) : MT → Prop
  | .ok b ρ' => ∀ own' H', Rel X.K S0 H0 ρ' σ own' H' → Fra own H own' H' → Q b H'
  | .ex c ρ' => ∀ cv d own' H', IsCls X.mg c cv d → Rel X.K S0 H0 ρ' σ own' H' → Fra own H own' H' → W cv d σ H'
  | .er => False
end
structure VTM (X : Cx) (W : WX) (S0 : Addr → Prop) (H0 : Hp) (e : Expr) (f : Rho → MT) : Prop where
  p : ∃ te, PT X e te ∧ ∀ ρ σ own H Q, Rel X.K S0 H0 ρ σ own H → PXN X W S0 H0 own H σ Q (f ρ) → te σ H Q
section
variable {X : Cx} {W : WX} {S0 : Addr → Prop} {H0 : Hp} {rm ma mb : Md} {pos : Pos} {e a b : Expr} {f : Rho → MR} {ft : Rho → MT} {fb : Rho → M D} {r : R2} {g : D → D → M D}
def tTru (f : Rho → MR) : Rho → MT := fun ρ => match f ρ with
  | .ok d ρ' => (match truG d with | .ok b => .ok b ρ' | _ => .er)
  | .ex c ρ' => .ex c ρ'
  | .er => .er
theorem vtm_tru (h : VXM X W S0 H0 e f) (he : ∀ whole, isTrue e X.env whole = (do let v ← whole; standAt e.pos; holding [v] (truthy v)) := by intro _; rfl) : VTM X W S0 H0 e (tTru f) := by
  obtain ⟨ta, pa, qa⟩ := h.p
  refine ⟨_, pt_truth pa he, fun ρ σ own H Q R k => qa ρ σ own H _ R ?_⟩
  unfold tTru at k
  revert k
  cases f ρ with
  | er => exact id
  | ex c ρ' => exact id
  | ok d ρ' =>
    intro k v own' H' R' F' r
    dsimp only at k
    split at k
    · next b e =>
      exact ⟨b, tru_of (m := .F) (S0 := S0) (H0 := H0) (own := own') (Hb := H') r e, k own' H' R' F'⟩
    · exact k.elim
def tNot (f : Rho → MT) : Rho → MT := fun ρ => match f ρ with
  | .ok b ρ' => .ok (!b) ρ'
  | r => r
theorem vtm_not (h : VTM X W S0 H0 e ft) : VTM X W S0 H0 (.UnaryOp .Not e pos) (tNot ft) := by
  obtain ⟨ta, pa, qa⟩ := h.p
  refine ⟨_, pt_not pa, fun ρ σ own H Q R k => qa ρ σ own H _ R ?_⟩
  unfold tNot at k
  revert k
  cases ft ρ with
  | er => exact id
  | ex c ρ' => exact id
  | ok b ρ' => exact id
def sIfM (c : Rho → MT) (f g : Rho → Res) : Rho → Res := fun ρ => match c ρ with
  | .ok true ρ' => f ρ'
  | .ok false ρ' => g ρ'
  | .ex c ρ' => .ex c ρ'
  | .er => .er
theorem vs_ifM {c : Expr} {a b : List Stmt} {f g : Rho → Res} (hc : VTM X W S0 H0 c ft) (ha : VSs X W S0 H0 rm a f) (hb : VSs X W S0 H0 rm b g) : VS X W S0 H0 rm (.If c a b pos) (sIfM ft f g) := by
  obtain ⟨tc, pc, qc⟩ := hc.p
  obtain ⟨ta, pa, qa⟩ := ha.p
  obtain ⟨tb, pb, qb⟩ := hb.p
  refine ⟨_, ps_if pc pa pb, fun ρ σ own H D R k => qc ρ σ own H _ R ?_⟩
  unfold sIfM at k
  revert k
  cases ft ρ with
  | er => exact id
  | ex c ρ' => exact fun k cv d own' H' ic a b => k cv d σ own' H' ic a b
  | ok x ρ' =>
    cases x with
    | true => exact fun k own' H' R' F' => qa ρ' σ own' H' D R' (PSt.weak k F')
    | false => exact fun k own' H' R' F' => qb ρ' σ own' H' D R' (PSt.weak k F')
end
end VL
set_option Elab.async false
set_option linter.all false
set_option maxRecDepth 100000
/-! VO11: x.f = x.g.pop(), and what is popped as a statement. -/
namespace VL
open PySem L2 PySem.Spec PyProof.Rows
section
variable {X : Cx} {W : WX} {S0 : Addr → Prop} {H0 : Hp} {rm : Md} {pos px py pg pos' apos cpos : Pos} {x f g c : Str} {i : Nat}
end
end VL
set_option Elab.async false
set_option linter.all false
set_option maxRecDepth 100000
/-! VO12: a new object, the rest of the body for every address. -/
namespace VL
open PySem L2 PySem.Spec PyProof.Rows
section
variable {K : PySem.W.Frag} {S0 : Addr → Prop} {H0 H : Hp} {ρ : Rho} {σ : Sg} {own : List Addr}
theorem Rel.setOwB {i : Nat} {a : Addr} {d : D} {Hb : Hp} (Rb : Rel K S0 H0 ρ σ own Hb) (hs : Same Hb H) (hb : Hb a = none) (r : Own K (SF H0 (a :: own)) H a d) (hsb : sb H a = []) : Rel K S0 H0 (ρ.set i (.ow d)) (σ.set i (some (.ref a))) (a :: own) H := by
  have f : Fra own Hb (a :: own) H := ⟨fun b o e _ => hs b o e, fun b hm => (List.mem_cons.mp hm).elim (fun z => .inr (by rw [z]; exact hb)) .inl⟩
  have h0 : H0 a = none := Rb.same.free hb
  refine ⟨fun j e q => ?_, fun j e q => ?_, fun j e q => ?_, fun j k d' e' x y q => ?_, fun j d' b e1 e2 x hx => ?_, fun b hm => ?_, Rb.same.trans hs, by simp [Rb.len]⟩
  · rcases get_set q with ⟨rfl, z, hl⟩ | ⟨hj, z⟩
    · cases z
    · rw [List.getElem?_set_ne (Ne.symm hj)]
      obtain ⟨v, h1, h2⟩ := Rb.sh j e z
      exact ⟨v, h1, h2.keep (f.keepA Rb.own0)⟩
  · rcases get_set q with ⟨rfl, z, hl⟩ | ⟨hj, z⟩
    · cases z
    · rw [List.getElem?_set_ne (Ne.symm hj)]
      obtain ⟨v, h1, h2⟩ := Rb.fr j e z
      exact ⟨v, h1, h2.keep (f.keepF Rb.own0)⟩
  · rcases get_set q with ⟨rfl, z, hl⟩ | ⟨hj, z⟩
    · cases z
      exact ⟨a, List.getElem?_set_self (by rw [Rb.len]; exact hl), List.mem_cons_self, r⟩
    · rw [List.getElem?_set_ne (Ne.symm hj)]
      obtain ⟨b, h1, h2, h3⟩ := Rb.ow j e z
      exact ⟨b, h1, List.mem_cons_of_mem _ h2, h3.keep (f.keepF Rb.own0) fun x _ o q => hs _ o q⟩
  · have old : ∀ (j : Nat) (d : D), j ≠ i → ρ[j]? = some (.ow d) → (σ.set i (some (.ref a)))[j]? ≠ some (some (.ref a)) := fun j d hj z w => by
      rw [List.getElem?_set_ne (Ne.symm hj)] at w
      obtain ⟨b, h1, h2, h3⟩ := Rb.ow j d z
      rw [w] at h1
      cases h1
      obtain ⟨u, e⟩ := mt_some (Rb.own0 a h2).2
      rw [hb] at e; cases e
    rcases get_set x with ⟨rfl, z, hl⟩ | ⟨hj, z⟩
    · rcases get_set y with ⟨rfl, z2, hl2⟩ | ⟨hk, z2⟩
      · rfl
      · refine absurd ?_ (old k e' hk z2)
        rw [← q]
        exact List.getElem?_set_self (by rw [Rb.len]; exact hl)
    · rcases get_set y with ⟨rfl, z2, hl2⟩ | ⟨hk, z2⟩
      · refine absurd ?_ (old j d' hj z)
        rw [q]
        exact List.getElem?_set_self (by rw [Rb.len]; exact hl2)
      · rw [List.getElem?_set_ne (Ne.symm hj), List.getElem?_set_ne (Ne.symm hk)] at q
        exact Rb.dis j k d' e' z z2 q
  · have stay : ∀ (j : Nat) (e : D) (b : Addr), ρ[j]? = some (.ow e) → σ[j]? = some (some (.ref b)) → sb H b = sb Hb b ∧ b ∈ own := fun j e b g1 g2 => by
      obtain ⟨c, g3, g4, _⟩ := Rb.ow j e g1
      rw [g2] at g3
      cases g3
      obtain ⟨u, eu⟩ := mt_some (Rb.own0 b g4).2
      exact ⟨sb_eq (by rw [eu, hs b u eu]), g4⟩
    rcases get_set e1 with ⟨rfl, z, hl⟩ | ⟨hj, z⟩
    · rw [List.getElem?_set_self (by rw [Rb.len]; exact hl)] at e2
      cases e2
      rw [hsb] at hx
      cases hx
    · rw [List.getElem?_set_ne (Ne.symm hj)] at e2
      rw [(stay j d' b z e2).1] at hx
      obtain ⟨h1, h2⟩ := Rb.sub j d' b z e2 x hx
      refine ⟨List.mem_cons_of_mem _ h1, fun k e c g1 g2 => ?_⟩
      rcases get_set g1 with ⟨rfl, y, hl⟩ | ⟨hk, y⟩
      · rw [List.getElem?_set_self (by rw [Rb.len]; exact hl)] at g2
        cases g2
        refine ⟨fun z => ?_, fun _ => by rw [hsb]; simp⟩
        rw [z] at h1
        obtain ⟨u, e⟩ := mt_some (Rb.own0 a h1).2
        rw [hb] at e; cases e
      · rw [List.getElem?_set_ne (Ne.symm hk)] at g2
        rw [(stay k e c y g2).1]
        exact h2 k e c y g2
  · rcases List.mem_cons.mp hm with rfl | hm
    · exact ⟨h0, r.mt⟩
    · refine ⟨(Rb.own0 b hm).1, ?_⟩
      obtain ⟨u, e⟩ := mt_some (Rb.own0 b hm).2
      have m := (Rb.own0 b hm).2
      rw [hs b u e, ← e]
      exact m
end
/-- a class that may be made; __init__ changes its object -/
structure CalMk (P : Program) (w : World) (K : PySem.W.Frag) (mg : Str → Option Value) (base : Heap) (k : Nat) (c : Str) (G : List D → MO) : Prop where
  p : ∃ (C f : Addr) (fd : FuncData) (ps : List Str), ClsAt K c C ∧ mg c = some (.ref C) ∧ Mk K C f ∧ FnOk P w K mg base (L2N.CX P w) k f fd ps (spO mg K G) ∧ Binds K fd ps []
/-- the new object and its own Rel -/
theorem Rel.made {K : PySem.W.Frag} {S0 : Addr → Prop} {H0 H : Hp} {ρ : Rho} {σ : Sg} {own : List Addr} {j : Nat} {x dx C : Addr} {c : Str} (R : Rel K S0 H0 ρ σ own H) (hx : H x = none) (hd : H dx = none) (hn : dx ≠ x) (hc : ClsAt K c C) :
    Rel K S0 H0 (ρ.set j (.ow (.obj x c [] []))) (σ.set j (some (.ref x))) (x :: own) (upd (upd H dx (.own x)) x (.ins C dx [])) := by
  have hs : Same H (upd (upd H dx (.own x)) x (.ins C dx [])) := fun b u e => by
    rw [upd_ne (ne_of_none e hx), upd_ne (ne_of_none e hd)]
    exact e
  exact R.setOwB hs hx ⟨rfl, C, dx, [], upd_same, hc, rfl, trivial, List.nodup_nil⟩ (by rw [sb_ins upd_same]; rfl)
end VL
set_option Elab.async false
set_option linter.all false
set_option maxRecDepth 100000
/-! VO13: y = C(args), then the rest, which must give the same for every address. -/
namespace VL
open PySem L2 PySem.Spec PyProof.Rows
section
variable {X : Cx} {CX : CXT} {k : Nat} {f C : Addr} {fd : FuncData} {ps : List Str} {sp : Sp} {E : L2.St → XK} {x : Str} {p pos : Pos} {e : Expr} {es : List Expr} {t : TA}
theorem run_makeX {pins : List (Addr × Obj)} {σ : L2.St} {H : Hp} {s : Shared} {Q : VK} {us : List Value} {vs : List V} (M : Mk X.K C f) (F : FnOk X.prog X.w X.K X.mg X.base CX k f fd ps sp) (hr : Room (k + 1) X.A) (hb : Binds X.K fd ps [])
    (hx : PassesAt CX X σ (E σ)) (I : Inv X pins σ H s) (r : Vals vs us)
    (h : ∀ x dx, H x = none → H dx = none → dx ≠ x → sp (.ref x :: vs) (upd (upd H dx (.own x)) x (.ins C dx [])) (fun v H2 => v = .non ∧ Q (.ref x) H2) (E σ)) :
    wpAny (model X.prog X.w) X.A (call (.ref C) us) (EP X pins σ Q) X.xe s := by
  have hq := h (s.heap.objs.size + 1) s.heap.objs.size (I.hok.fresh (Nat.le_succ _)) (I.hok.fresh (Nat.le_refl _)) (Nat.ne_of_lt (Nat.lt_succ_self _))
  have I2 := Inv.made (C := C) I
  have r2 : Vals (V.ref (s.heap.objs.size + 1) :: vs) (Value.ref (s.heap.objs.size + 1) :: us) := .cons rfl r
  have hl : (Value.ref (s.heap.objs.size + 1) :: us ++ []).length = ps.length := by
    have e := r2.length
    rw [F.len _ _ _ _ hq] at e
    rw [List.append_nil]
    exact e.symm
  have b := hb _ (Value.ref (s.heap.objs.size + 1) :: us) I2.kIn hl
  rw [List.append_nil] at b
  refine wpAny_call (make_map (f := f) I.kIn M.makes M.init (beq_iff_eq.mp M.fn) (codeAny_mono (F.run _ X.stack _ _ ⟨Value.ref (s.heap.objs.size + 1) :: us, []⟩ (Value.ref (s.heap.objs.size + 1) :: us) _ _ (E σ) (hr.make C us [])
    (I2.env0.make C us []) b r2 hq) fun r s' hq' => ?_))
  cases r with
  | error e => exact hx pins _ _ e s' I2 hq'
  | ok fl =>
    cases fl with
    | ret u =>
      obtain ⟨v, H', I3, rv, ev, q3⟩ := I2.after hq'
      subst ev
      exact ⟨rv, ⟨V.ref (s.heap.objs.size + 1), H', I3, rfl, q3⟩⟩
    | next => exact False.elim hq'
    | brk => exact False.elim hq'
    | cont => exact False.elim hq'
def tMakeX (C : Addr) (sp : Sp) (E : L2.St → XK) (t : TA) : TE := fun σ H Q => t σ H fun vs H1 => ∀ x dx, H1 x = none → H1 dx = none → dx ≠ x →
  sp (.ref x :: vs) (upd (upd H1 dx (.own x)) x (.ins C dx [])) (fun v H2 => v = .non ∧ Q (.ref x) H2) (E σ)
end
end VL
set_option Elab.async false
set_option linter.all false
set_option maxRecDepth 100000
/-! VO14: y = C(args) :: the rest. -/
namespace VL
open PySem L2 PySem.Spec PyProof.Rows
/-- the rest, when the object lies at x -/
def outMk (j : Nat) (c : Str) (G : List D → MO) (as : List D) (g : Rho → Res) (ρ : Rho) (x : Addr) : Res := match G (.obj x c [] [] :: as) with
  | .ok .non o => if j < ρ.length then g (ρ.set j (.ow o)) else .er
  | _ => .er
open Classical in
noncomputable def sMk (j : Nat) (c : Str) (G : List D → MO) (fa : Rho → M (List D)) (g : Rho → Res) : Rho → Res := fun ρ => match fa ρ with
  | .ok as => if h : ∃ r, ∀ x, outMk j c G as g ρ x = .rt r then .rt (Classical.choose h) else .er
  | .ex c => .ex c ρ
  | .er => .er
theorem sMk_eq {j : Nat} {c : Str} {G : List D → MO} {fa : Rho → M (List D)} {g : Rho → Res} {ρ : Rho} {as : List D} {r : D} (h1 : fa ρ = .ok as) (h2 : ∀ x, outMk j c G as g ρ x = .rt r) : sMk j c G fa g ρ = .rt r := by
  unfold sMk
  rw [h1]
  have h : ∃ r, ∀ x, outMk j c G as g ρ x = .rt r := ⟨r, h2⟩
  simp only
  rw [dif_pos h]
  have := Classical.choose_spec h 0
  rw [h2 0] at this
  cases this
  rfl
section
variable {X : Cx} {W : WX} {S0 : Addr → Prop} {H0 : Hp} {rm : Md} {k l j : Nat} {c y : Str} {G : List D → MO} {p pos pos' pos2 : Pos} {e : Expr} {es : List Expr} {sts : List Stmt} {fa : Rho → M (List D)} {g : Rho → Res}
end
end VL
set_option Elab.async false
set_option linter.all false
set_option maxRecDepth 100000
/-! VO15: C() without arguments. -/
namespace VL
open PySem L2 PySem.Spec PyProof.Rows
section
variable {X : Cx} {CX : CXT} {k : Nat} {f C : Addr} {fd : FuncData} {ps : List Str} {sp : Sp} {E : L2.St → XK} {x : Str} {p pos : Pos}
theorem pe_makeX0 (M : Mk X.K C f) (F : FnOk X.prog X.w X.K X.mg X.base CX k f fd ps sp) (hr : Room (k + 1) X.A) (hg : Gl X x) (hm : X.mg x = some (.ref C)) (hb : Binds X.K fd ps []) (hx : ∀ σ, PassesAt CX X σ (E σ))
    (hdb : (x == ("__debug__" : Str)) = false := by decide) : PE X (.Call (.Name x p) [] [] pos) (tMakeX C sp E tNil) := by
  refine ⟨fun pins s σ H Q I h => ?_⟩
  refine wpAny_Call_Name_kw (ld_glob I hg hm ?_ hdb)
  exact PySem.W.callWith_K0 I.kIn M.kp (run_makeX (us := []) (vs := []) M F hr hb (hx σ) I .nil h)
end
section
variable {X : Cx} {W : WX} {S0 : Addr → Prop} {H0 : Hp} {rm : Md} {k l j : Nat} {c y : Str} {G : List D → MO} {p pos pos' pos2 : Pos} {sts : List Stmt} {g : Rho → Res}
theorem vss_mk0 (cm : CalMk X.prog X.w X.K X.mg X.base k c G) (tk : L2N.Takes X W) (hr : Room (l + 1) X.A) (hk : k ≤ l) (hNd : X.N.Nodup) (hq : VSs X W S0 H0 rm sts g) (hi : X.N[j]? = some y := by rfl) (hx : Loc X.env.scope y := by first | exact Or.inl rfl | exact Or.inr rfl)
    (hg : Gl X c := by rfl) (hdb : (c == ("__debug__" : Str)) = false := by decide) 
    (hs : swapsWith (.Call (.Name c p) [] [] pos2) (some (.Name y pos')) pos.line X.env = pure false := by rfl) (hf : X.fn y = true ∨ X.env.scope.names.lookup y = some .local := by first | exact .inl rfl | exact .inr rfl) :
    VSs X W S0 H0 rm (.Assign [.Name y pos'] (.Call (.Name c p) [] [] pos2) pos :: sts) (sMk j c G aNil g) := by
  obtain ⟨C, f, fd, ps, h1, h2, M, F, h5⟩ := cm.p
  obtain ⟨tq, pq, qq⟩ := hq.p
  refine ⟨_, pss_cons (ps_set hNd hi hx (pe_makeX0 M F (hr.mono (Nat.succ_le_succ hk)) hg h2 h5 (fun σ => L2N.passAt tk σ) hdb) hs hf) pq, fun ρ σ own H D R k => ?_⟩
  have aux : ∀ (as : List VL.D) (ws : List V) (H1 : Hp) (s1 : Same H H1) (r1 : Paired (RM X.K S0 H0 own .E H H1) ws as), PSt X W S0 H0 rm own H D (sMk j c G (fun _ => .ok as) g ρ) → ∀ x dx, H1 x = none → H1 dx = none → dx ≠ x → spO X.mg X.K G (.ref x :: ws) (upd (upd H1 dx (.own x)) x (.ins C dx [])) (fun v H2 => v = .non ∧ (fun x H1 => gName j x σ H1 ({ nx := tq D, rt := D.rt, bk := D.bk, ct := D.ct } : Ends).nx) (V.ref x) H2) (WE W σ) := by
    intro as ws H1 s1 r1 k x dx hx0 hd0 hne
    unfold sMk at k
    dsimp only at k
    split at k
    · next hex =>
      have hout := Classical.choose_spec hex x
      generalize Classical.choose hex = rr at k hout
      have R1 := R.grow s1
      have R2 := R1.made (j := j) hx0 hd0 hne h1
      have hs : Same H1 (upd (upd H1 dx (.own x)) x (.ins C dx [])) := fun b u e => by
        rw [upd_ne (ne_of_none e hx0), upd_ne (ne_of_none e hd0)]
        exact e
      unfold outMk at hout
      have hsb : sb (upd (upd H1 dx (.own x)) x (.ins C dx [])) x = [] := by rw [sb_ins upd_same]; rfl
      have live : ∀ b, b ∈ own → b ≠ x := fun b hb z => by
        obtain ⟨u, eu⟩ := mt_some (R1.own0 b hb).2
        rw [z, hx0] at eu; cases eu
      refine ⟨x, ws, .obj x c [] [], as, SF H0 (x :: own), rfl, rfl, ⟨rfl, C, dx, [], upd_same, h1, rfl, trivial, List.nodup_nil⟩, by rw [hsb]; simp, fun b s => ⟨fun z => s.1 (by rw [z]; exact List.mem_cons_self), by rw [hsb]; simp⟩, fun b hb => (by rw [hsb] at hb; cases hb), ?_, ?_⟩
      · have r2 := (RpA.ofE r1).keep (.same hs)
        have r3 : RpA X.K (fun a => SA S0 H0 own a ∧ H1 a ≠ none) H1 ws as := (RpA.ofE r1).keep ⟨fun b u s e => ⟨⟨s, by rw [e]; simp⟩, e⟩, fun b xs e => e, fun b o u e => e⟩
        exact (r3.keep (.same hs)).keep (.wide fun b s => ⟨fun z => s.2 (by rw [z]; exact hx0), by rw [hsb]; simp⟩)
      · revert hout
        cases G (.obj x c [] [] :: as) with
        | er => intro h; cases h
        | ex c o => intro h; cases h
        | ok d o =>
          intro hout
          cases d with
          | non =>
            dsimp only at hout
            split at hout
            · next hj =>
              intro v own' H' ck rv
              cases rv
              have hi2 : (ρ.set j (.ow (.obj x c [] [])))[j]? = some (.ow (.obj x c [] [])) := List.getElem?_set_self hj
              have hp2 : (σ.set j (some (.ref x)))[j]? = some (some (.ref x)) := List.getElem?_set_self (by rw [R.len]; exact hj)
              obtain ⟨R3, F3, _⟩ := R2.back hi2 hp2 ck
              rw [List.set_set] at R3
              refine ⟨rfl, qq _ _ _ H' D R3 ?_⟩
              rw [hout]
              have F : Fra own H (ownB (x :: own) (upd (upd H1 dx (.own x)) x (.ins C dx [])) x own') H' := ⟨fun b u e hb => F3.k b u ((s1.trans hs) b u e) (fun hm => (List.mem_cons.mp hm).elim (fun z => by rw [z, s1.free hx0] at e; cases e) hb), fun b hb => by
                rcases F3.n b hb with h | h
                · rcases List.mem_cons.mp h with z | h
                  · exact .inr (by rw [z]; exact s1.free hx0)
                  · exact .inl h
                · exact .inr ((s1.trans hs).free h)⟩
              exact fun v o2 H2 a b => k v o2 H2 a (F.trans b)
            · cases hout
          | _ => cases hout
    · exact k.elim
  exact aux [] [] H (Same.refl H) .nil k
end
end VL
set_option Elab.async false
set_option linter.all false
set_option maxRecDepth 100000
/-! VO16: try with several except clauses. -/
namespace VL
open PySem L2 PySem.Spec PyProof.Rows
/-- what is known of a clause's class: of each class that may be raised, whether it is caught -/
structure HdF (K : PySem.W.Frag) (mg : Str → Option Value) (x : Str) (tb : List (Str × Bool)) : Prop where
  p : ∃ top, mg x = some top ∧ ∀ c b, tb.lookup c = some b → ∃ D, mg c = some (.ref D) ∧ PySem.W.exmOne K (.ref D) top = some b
abbrev Hd := List (Str × Bool) × (Rho → Res)
inductive VHs (X : Cx) (S0 : Addr → Prop) (H0 : Hp) (rm : Md) : List ExceptHandler → List Hd → Prop
  | nil : VHs X S0 H0 rm [] []
  | cons {x : Str} {tb : List (Str × Bool)} {f : Rho → Res} {b0 : Stmt} {suite : List Stmt} {np pos' : Pos} {hds : List ExceptHandler} {l : List Hd} (hk : HdF X.K X.mg x tb) (g : Gl X x) (d : (x == ("__debug__" : Str)) = false)
      (hsu : ∀ (a : Addr) (oe : Obj) (pn : List (Addr × Obj)), VSs (X.suite a ((a, oe) :: pn)) (fun _ _ _ _ => False) S0 H0 rm (b0 :: suite) f) (r : VHs X S0 H0 rm hds l) :
      VHs X S0 H0 rm (.ExceptHandler (some (.Name x np)) none (b0 :: suite) pos' :: hds) ((tb, f) :: l)
section
variable {X : Cx} {W : WX} {S0 : Addr → Prop} {H0 : Hp} {rm : Md} {pos : Pos} {body : List Stmt} {h₀ : ExceptHandler} {hds : List ExceptHandler} {l : List Hd} {fb : Rho → Res}
end
end VL
set_option Elab.async false
set_option linter.all false
set_option maxRecDepth 100000
/-! VO17: changing calls as arguments, in comparisons, under and / or. -/
namespace VL
open PySem L2 PySem.Spec PyProof.Rows
section
variable {X : Cx} {W : WX} {S0 : Addr → Prop} {H0 : Hp} {rm ma mb m : Md} {pos p : Pos} {e a b : Expr} {es : List Expr} {fm f : Rho → MR} {fa : Rho → M (List D)} {fe fb : Rho → M D} {x : Str} {i j k : Nat} {q : List D → M D} {r : R2} {g : D → D → M D} {t t2 : Rho → MT} {ft : Rho → M Bool}
/-- y(e, args): e changes an object, the def called does not -/
def eCallM (q : List D → M D) (fm : Rho → MR) (fa : Rho → M (List D)) : Rho → MR := fun ρ => match fm ρ with
  | .ok d ρ' => (match fa ρ' with
    | .ok as => (match q (d :: as) with
      | .ok u => .ok u ρ'
      | .ex c => .ex c ρ'
      | .er => .er)
    | .ex c => .ex c ρ'
    | .er => .er)
  | .ex c ρ' => .ex c ρ'
  | .er => .er
theorem vxm_callA (c : Cal X.prog X.w X.K X.mg X.base k x q) (tk : L2N.Takes X W) (hr : Room j X.A) (hk : k ≤ j) (h : VXM X W S0 H0 e fm) (ha : VA X W S0 H0 .O es fa) (hg : Gl X x := by rfl) (hdb : (x == ("__debug__" : Str)) = false := by decide)
    (he : starEach (e :: es) X.env = (false, eval e X.env) :: starEach es X.env := by rfl) (hpl : (backTo pos (starEach es X.env)).any (·.1) = false := by rfl) : VXM X W S0 H0 (.Call (.Name x p) (e :: es) [] pos) (eCallM q fm fa) := by
  obtain ⟨f, fd, ps, F, h1, h2, h3⟩ := c.p
  obtain ⟨te, p, qe⟩ := h.p
  obtain ⟨ta, pa, qa⟩ := ha.p
  refine ⟨_, pe_callS F (hr.mono hk) hg h1 h2 h3 (fun σ => L2N.passAt tk σ) (pa_cons p pa he) hdb he hpl, fun ρ σ own H Q R k => qe ρ σ own H _ R ?_⟩
  unfold eCallM at k
  revert k
  cases fm ρ with
  | er => exact id
  | ex c ρ' => exact id
  | ok d ρ' =>
    intro k v own' H' R' F' r'
    dsimp only at k
    refine qa ρ' σ own' H' _ R' ?_
    revert k
    cases fa ρ' with
    | er => exact id
    | ex c => exact fun k cv dd H2 ic s => k cv dd own' H2 ic (R'.grow s) (F'.trans (.same s))
    | ok as =>
      intro k vs H2 s2 r2
      dsimp only at k
      refine ⟨d :: as, .cons ((r'.keep (.same s2)).keep (.wide fun _ _ => trivial)) (RpA.ofO r2), ?_⟩
      revert k
      cases q (d :: as) with
      | er => exact id
      | ex c => exact fun k cv dd H3 ic s => k cv dd own' H3 ic (R'.grow (s2.trans s)) (F'.trans (.same (s2.trans s)))
      | ok u => exact fun k v2 H3 s r => k v2 own' H3 (R'.grow (s2.trans s)) (F'.trans (.same (s2.trans s))) (r.keep (.wide fun a ha => sf_new (R'.grow s2) ha))
/-! ### tests -/
theorem PXN.weak {own own' : List Addr} {H H' : Hp} {σ : Sg} {Q : Bool → Hp → Prop} {r : MT} (h : PXN X W S0 H0 own H σ Q r) (f : Fra own H own' H') : PXN X W S0 H0 own' H' σ Q r := by
  cases r with
  | er => exact h
  | ex c ρ => exact fun cv d o2 H2 ic R F => h cv d o2 H2 ic R (f.trans F)
  | ok b ρ => exact fun o2 H2 R F => h o2 H2 R (f.trans F)
end
structure VWM (X : Cx) (W : WX) (S0 : Addr → Prop) (H0 : Hp) (e : Expr) (f : Rho → MT) : Prop where
  p : ∃ te, PW X e te ∧ ∀ ρ σ own H Q, Rel X.K S0 H0 ρ σ own H → PXN X W S0 H0 own H σ Q (f ρ) → te σ H Q
section
variable {X : Cx} {W : WX} {S0 : Addr → Prop} {H0 : Hp} {pos : Pos} {e : Expr} {t t2 : Rho → MT}
theorem VWM.tt (h : VWM X W S0 H0 e t) : VTM X W S0 H0 e t := by
  obtain ⟨ta, pa, qa⟩ := h.p
  exact ⟨ta, pa.pt, qa⟩
end
end VL
set_option Elab.async false
set_option linter.all false
set_option maxRecDepth 100000
/-! VO18: changing defs that are handed new data: it may become the object's own. -/
namespace VL
open PySem L2 PySem.Spec PyProof.Rows
def spOF (mg : Str → Option Value) (K : PySem.W.Frag) (G : List D → MO) : Sp := fun vs H Q E => ∃ (p : Addr) (ws : List V) (d0 : D) (ds : List D) (S1 : Addr → Prop), vs = .ref p :: ws ∧ isObj d0 = true ∧ Own K S1 H p d0 ∧ p ∉ sb H p ∧ (∀ a, S1 a → a ≠ p ∧ a ∉ sb H p) ∧
  (∀ x, x ∈ sb H p → Mt (H x)) ∧ RpA K S1 H ws ds ∧ PFO mg K S1 H p Q E (G (d0 :: ds))
section
variable {P : Program} {w : World} {K : PySem.W.Frag} {mg : Str → Option Value} {base : Heap}
end
structure CalMOF (P : Program) (w : World) (K : PySem.W.Frag) (mg : Str → Option Value) (base : Heap) (k : Nat) (c m : Str) (G : List D → MO) : Prop where
  p : ∃ (C f : Addr) (fd : FuncData) (ps : List Str), ClsAt K c C ∧ Cls K C ∧ Meth K C m f ∧ FnOk P w K mg base (L2N.CX P w) k f fd ps (spOF mg K G) ∧ Binds K fd ps []
section
variable {X : Cx} {W : WX} {S0 : Addr → Prop} {H0 : Hp} {rm : Md} {pos p px apos : Pos} {e : Expr} {es : List Expr} {fa : Rho → M (List D)} {x c m : Str} {i j k : Nat} {G : List D → MO}
end
end VL
set_option Elab.async false
set_option linter.all false
set_option maxRecDepth 100000
/-! VO19: defs that make an object and give it. -/
namespace VL
open PySem L2 PySem.Spec PyProof.Rows
inductive MB where
  | ok (c : Str) (ns : List Str) (ds : List D) | okp (p : Addr) (c : Str) (ns : List Str) (ds : List D) | ex (c : Xc) (ρ : Rho) | er
/-- a new object of one's own at p -/
structure Mad (K : PySem.W.Frag) (H0 : Hp) (p : Addr) (own' : List Addr) (H' : Hp) (c : Str) (ns : List Str) (ds : List D) : Prop where
  own : Own K (SF H0 own') H' p (.obj p c ns ds)
  mem : p ∈ own'
  sub : ∀ x, x ∈ sb H' p → x ∈ own' ∧ x ≠ p
  own0 : ∀ b, b ∈ own' → H0 b = none ∧ Mt (H' b)
  same : Same H0 H'
section
variable (X : Cx) (W : WX) (S0 : Addr → Prop) (H0 : Hp) (own : List Addr) (H : Hp)
def PSB (D : Ends) : MB → Prop
  | .ok c ns ds => ∀ p own' H', Mad X.K H0 p own' H' c ns ds → Fra own H own' H' → D.rt (.ref p) H'
  | .okp p c ns ds => ∀ own' H', Mad X.K H0 p own' H' c ns ds → Fra own H own' H' → D.rt (.ref p) H'
  | .ex c ρ' => ∀ cv d σ' own' H', IsCls X.mg c cv d → Rel X.K S0 H0 ρ' σ' own' H' → Fra own H own' H' → W cv d σ' H'
  | .er => False
end
structure VSB (X : Cx) (W : WX) (S0 : Addr → Prop) (H0 : Hp) (sts : List Stmt) (f : Rho → MB) : Prop where
  p : ∃ ts, PSs X sts ts ∧ ∀ ρ σ own H D, Rel X.K S0 H0 ρ σ own H → PSB X W S0 H0 own H D (f ρ) → ts D σ H
section
variable {X : Cx} {W : WX} {S0 : Addr → Prop} {H0 : Hp} {rm : Md} {own own' : List Addr} {H H' : Hp} {k l j i : Nat} {c x y : Str} {G : List D → MO} {p px pos pos' pos2 : Pos} {e : Expr} {es : List Expr} {st : Stmt} {sts : List Stmt} {fa : Rho → M (List D)} {f : Rho → Res} {g : Rho → MB}
theorem PSB.weak {D : Ends} {r : MB} (h : PSB X W S0 H0 own H D r) (f : Fra own H own' H') : PSB X W S0 H0 own' H' D r := by
  cases r with
  | ok c ns ds => exact fun p o2 H2 a b => h p o2 H2 a (f.trans b)
  | okp p c ns ds => exact fun o2 H2 a b => h o2 H2 a (f.trans b)
  | ex c ρ => exact fun cv d σ' o2 H2 i a b => h cv d σ' o2 H2 i a (f.trans b)
  | er => exact h
end
/-! ### such a def -/
def PFB (mg : Str → Option Value) (K : PySem.W.Frag) (H : Hp) (Q : VK) (E : XK) : MB → Prop
  | .ok c ns ds => ∀ p own' H', Mad K H p own' H' c ns ds → Q (.ref p) H'
  | .ex c _ => ∀ cv d H', IsCls mg c cv d → Same H H' → E cv d H'
  | _ => False
def spB (mg : Str → Option Value) (K : PySem.W.Frag) (q : List D → MB) : Sp := fun vs H Q E => ∃ ds, RpA K (fun _ => True) H vs ds ∧ PFB mg K H Q E (q ds)
section
variable {P : Program} {w : World} {K : PySem.W.Frag} {mg : Str → Option Value} {base : Heap}
end
/-- a def that makes an object -/
structure CalB (P : Program) (w : World) (K : PySem.W.Frag) (mg : Str → Option Value) (base : Heap) (k : Nat) (x : Str) (q : List D → MB) : Prop where
  p : ∃ (f : Addr) (fd : FuncData) (ps : List Str), FnOk P w K mg base (L2N.CX P w) k f fd ps (spB mg K q) ∧ mg x = some (.ref f) ∧ PySem.W.keepIn K (.ref f) = true ∧ Binds K fd ps []
section
variable {X : Cx} {W : WX} {S0 : Addr → Prop} {H0 : Hp} {rm : Md} {k l j : Nat} {x y : Str} {q : List D → MB} {p pos pos' pos2 : Pos} {e : Expr} {es : List Expr} {sts : List Stmt} {fa : Rho → M (List D)} {g : Rho → Res}
end
end VL
set_option Elab.async false
set_option linter.all false
set_option maxRecDepth 100000
/-! VO20: methods that give parts of what they are handed; unpacking of lists; return over a changing call. -/
namespace VL
open PySem L2 PySem.Spec PyProof.Rows
def PFF (mg : Str → Option Value) (K : PySem.W.Frag) (S1 : Addr → Prop) (H : Hp) (Q : VK) (E : XK) : M D → Prop
  | .ok d => ∀ v H', Same H H' → Rp K (fun a => S1 a ∨ H a = none) H' v d → Q v H'
  | .ex c => ∀ cv d H', IsCls mg c cv d → Same H H' → E cv d H'
  | .er => False
def spNF (mg : Str → Option Value) (K : PySem.W.Frag) (g : List D → M D) : Sp := fun vs H Q E => ∃ (v0 : V) (ws : List V) (d0 : D) (ds : List D) (S1 : Addr → Prop), vs = v0 :: ws ∧ Rp K (fun _ => True) H v0 d0 ∧ RpA K S1 H ws ds ∧ PFF mg K S1 H Q E (g (d0 :: ds))
section
variable {P : Program} {w : World} {K : PySem.W.Frag} {mg : Str → Option Value} {base : Heap}
end
structure CalMF (P : Program) (w : World) (K : PySem.W.Frag) (mg : Str → Option Value) (base : Heap) (k : Nat) (c m : Str) (g : List D → M D) : Prop where
  p : ∃ (C f : Addr) (fd : FuncData) (ps : List Str), ClsAt K c C ∧ Cls K C ∧ Meth K C m f ∧ FnOk P w K mg base (L2N.CX P w) k f fd ps (spNF mg K g) ∧ Binds K fd ps []
section
variable {X : Cx} {W : WX} {S0 : Addr → Prop} {H0 : Hp} {mo rm : Md} {pos apos : Pos} {o e : Expr} {es : List Expr} {fo fe : Rho → M D} {fa : Rho → M (List D)} {c m : Str} {j k : Nat} {g : List D → M D} {fm : Rho → MR}
/-! ### unpacking of a list -/
/-! ### return e, e changes an object, the state left behind -/
end
end VL
set_option Elab.async false
set_option linter.all false
set_option maxRecDepth 100000
/-! VO21: a part of new data; facts of classes by the names of the kit. -/
namespace VL
open PySem L2 PySem.Spec PyProof.Rows
section
variable {X : Cx} {W : WX} {S0 : Addr → Prop} {H0 : Hp} {mb : Md} {pos : Pos} {a b : Expr} {fa fb : Rho → M D}
end
theorem noF_mk {K : PySem.W.Frag} {c f : Str} {C : Addr} (h : ClsAt K c C) (n : NoAttr K C f) : NoF K c f := fun D g => by
  cases h.one g
  exact n
end VL
set_option Elab.async false
set_option linter.all false
set_option maxRecDepth 100000
/-! VO22: max, min of one list or tuple of whole numbers. -/
namespace VL
open PySem L2 PySem.Spec PyProof.Rows
section
variable {X : Cx}
variable {W : WX} {S0 : Addr → Prop} {H0 : Hp} {m : Md}
end
end VL
set_option Elab.async false
set_option linter.all false
set_option maxRecDepth 100000
/-! VO23: a list of one's own is walked by an expression that gives new data: it stays one's own. -/
namespace VL
open PySem L2 PySem.Spec PyProof.Rows
section
variable {X : Cx} {W : WX} {S0 : Addr → Prop} {H0 : Hp} {e : Expr} {f : Rho → M D} {t : Rho → M Bool}
end
end VL
set_option Elab.async false
set_option linter.all false
set_option maxRecDepth 100000
/-! VO24: defs that look at an object and give parts of what else they are handed. -/
namespace VL
open PySem L2 PySem.Spec PyProof.Rows
structure CalNF (P : Program) (w : World) (K : PySem.W.Frag) (mg : Str → Option Value) (base : Heap) (k : Nat) (x : Str) (g : List D → M D) : Prop where
  p : ∃ (f : Addr) (fd : FuncData) (ps : List Str), FnOk P w K mg base (L2N.CX P w) k f fd ps (spNF mg K g) ∧ mg x = some (.ref f) ∧ PySem.W.keepIn K (.ref f) = true ∧ Binds K fd ps []
section
variable {X : Cx} {W : WX} {S0 : Addr → Prop} {H0 : Hp} {mo : Md} {pos p : Pos} {e : Expr} {es : List Expr} {fo : Rho → M D} {fa : Rho → M (List D)} {x : Str} {j k : Nat} {g : List D → M D}
end
end VL
set_option Elab.async false
set_option linter.all false
set_option maxRecDepth 100000
/-! VO25: a choice between expressions that change an object. -/
namespace VL
open PySem L2 PySem.Spec PyProof.Rows
section
variable {X : Cx} {W : WX} {S0 : Addr → Prop} {H0 : Hp} {pos : Pos} {c a b : Expr} {fc : Rho → M Bool} {fa fb : Rho → MR}
end
end VL
set_option Elab.async false
set_option linter.all false
set_option maxRecDepth 100000
/-! VO26: lists that are handed to a def that changes them: pinned at their place. -/
namespace VL
open PySem L2 PySem.Spec PyProof.Rows
section
variable {X : Cx} {W : WX} {S0 : Addr → Prop} {H0 : Hp} {rm m mi mb : Md} {pos apos cpos pos' : Pos} {e ei : Expr} {es : List Expr} {fe fi : Rho → M D} {fa : Rho → M (List D)}
end
end VL
set_option Elab.async false
set_option linter.all false
set_option maxRecDepth 100000
/-! VO27: defs that change several of the things that they are handed. -/
namespace VL
open PySem L2 PySem.Spec PyProof.Rows
def pinA : D → Option Addr
  | .obj p _ _ _ => some p
  | .pls p _ => some p
  | _ => none
inductive ML where
  | ok (d : D) (os : List D) | ex (c : Xc) (os : List D) | er
def putP : List (Option Nat) → List D → Rho → Rho
  | some i :: as, o :: os, ρ => putP as os (ρ.set i (.ow o))
  | none :: as, _ :: os, ρ => putP as os ρ
  | _, _, ρ => ρ
/-- what is handed: to each argument the caller's slot, where it is the caller's own -/
structure ArgsP (K : PySem.W.Frag) (S0 : Addr → Prop) (H0 : Hp) (own : List Addr) (ρ : Rho) (σ : Sg) (H : Hp) (as : List (Option Nat)) (vs : List V) (ds : List D) : Prop where
  l1 : vs.length = as.length
  l2 : ds.length = as.length
  sh : ∀ (j : Nat) (v : V) (d : D), as[j]? = some none → vs[j]? = some v → ds[j]? = some d → Rp K (SA S0 H0 own) H v d
  ow : ∀ (j i : Nat) (d : D), as[j]? = some (some i) → ds[j]? = some d → ∃ p, vs[j]? = some (.ref p) ∧ pinA d = some p ∧ ρ[i]? = some (.ow d) ∧ σ[i]? = some (some (.ref p))
  inj : ∀ (j k i : Nat), as[j]? = some (some i) → as[k]? = some (some i) → j = k
section
variable {K : PySem.W.Frag} {S0 : Addr → Prop} {H0 H H' : Hp} {ρ ρ' : Rho} {σ σ' : Sg} {own own' : List Addr} {as : List (Option Nat)} {vs : List V} {ds os : List D}
end
end VL
set_option Elab.async false
set_option linter.all false
set_option maxRecDepth 100000
/-! VO28: the contract of such defs, and their calls. -/
namespace VL
open PySem L2 PySem.Spec PyProof.Rows
def PXP (mg : Str → Option Value) (K : PySem.W.Frag) (S0 : Addr → Prop) (H0 : Hp) (ρ : Rho) (σ : Sg) (own : List Addr) (H : Hp) (as : List (Option Nat)) (Q : VK) (E : XK) : ML → Prop
  | .ok d os => ∀ v own' H', Rel K S0 H0 (putP as os ρ) σ own' H' → Fra own H own' H' → Rp K (SF H0 own') H' v d → Q v H'
  | .ex c os => ∀ cv dd own' H', IsCls mg c cv dd → Rel K S0 H0 (putP as os ρ) σ own' H' → Fra own H own' H' → E cv dd H'
  | .er => False
def spP (mg : Str → Option Value) (K : PySem.W.Frag) (ks : List Bool) (G : List D → ML) : Sp := fun vs H Q E => ∃ (S0 : Addr → Prop) (H0 : Hp) (ρ : Rho) (σ : Sg) (own : List Addr) (as : List (Option Nat)) (ds : List D),
  as.map Option.isSome = ks ∧ Rel K S0 H0 ρ σ own H ∧ ArgsP K S0 H0 own ρ σ H as vs ds ∧ PXP mg K S0 H0 ρ σ own H as Q E (G ds)
section
variable {P : Program} {w : World} {K : PySem.W.Frag} {mg : Str → Option Value} {base : Heap}
end
/-! ### the arguments of a call -/
structure ArgsQ (K : PySem.W.Frag) (S0 : Addr → Prop) (H0 : Hp) (own : List Addr) (ρ : Rho) (σ : Sg) (H : Hp) (as : List (Option Nat)) (vs : List V) (ds : List D) : Prop where
  l1 : vs.length = as.length
  l2 : ds.length = as.length
  sh : ∀ (j : Nat) (v : V) (d : D), as[j]? = some none → vs[j]? = some v → ds[j]? = some d → Rp K (SA S0 H0 own) H v d
  ow : ∀ (j i : Nat) (d : D), as[j]? = some (some i) → ds[j]? = some d → ∃ p, vs[j]? = some (.ref p) ∧ pinA d = some p ∧ ρ[i]? = some (.ow d) ∧ σ[i]? = some (some (.ref p))
structure VAP (X : Cx) (W : WX) (S0 : Addr → Prop) (H0 : Hp) (as : List (Option Nat)) (es : List Expr) (f : Rho → M (List D)) : Prop where
  p : ∃ te, PA X es te ∧ ∀ ρ σ own H (Q : List V → Hp → Prop), Rel X.K S0 H0 ρ σ own H → (match f ρ with
    | .ok ds => ∀ vs H', Same H H' → ArgsQ X.K S0 H0 own ρ σ H' as vs ds → Q vs H'
    | .ex c => ∀ cv d H', IsCls X.mg c cv d → Same H H' → W cv d σ H'
    | .er => False) → te σ H Q
structure CalP (P : Program) (w : World) (K : PySem.W.Frag) (mg : Str → Option Value) (base : Heap) (k : Nat) (x : Str) (ks : List Bool) (G : List D → ML) : Prop where
  p : ∃ (f : Addr) (fd : FuncData) (ps : List Str), FnOk P w K mg base (L2N.CX P w) k f fd ps (spP mg K ks G) ∧ mg x = some (.ref f) ∧ PySem.W.keepIn K (.ref f) = true ∧ Binds K fd ps []
section
variable {X : Cx} {W : WX} {S0 : Addr → Prop} {H0 : Hp} {m : Md} {pos p px : Pos} {e : Expr} {es : List Expr} {f : Rho → M D} {g fa : Rho → M (List D)} {as : List (Option Nat)} {x y : Str} {i j k : Nat} {G : List D → ML} {ks : List Bool}
end
end VL
set_option Elab.async false
set_option linter.all false
set_option maxRecDepth 100000
/-! VO29: a list of one's own is pinned while a statement hands it on. -/
namespace VL
open PySem L2 PySem.Spec PyProof.Rows
section
variable {X : Cx} {W : WX} {S0 : Addr → Prop} {H0 : Hp} {rm : Md} {st : Stmt} {F : Rho → Res} {i : Nat}
end
end VL
set_option Elab.async false
set_option linter.all false
set_option maxRecDepth 100000
/-! VO30: a list that no other data can hold, by its items, becomes one's own. -/
namespace VL
open PySem L2 PySem.Spec PyProof.Rows
mutual
/-- data that no one value is -/
def clash : D → D → Bool
  | .tup xs, .tup ys => !decide (xs.length = ys.length) || clashA xs ys
  | .int _, .tup _ => true
  | .tup _, .int _ => true
  | .str _, .tup _ => true
  | .tup _, .str _ => true
  | .int _, .str _ => true
  | .str _, .int _ => true
  | _, _ => false
def clashA : List D → List D → Bool
  | x :: xs, y :: ys => clash x y || clashA xs ys
  | _, _ => false
end
mutual
/-- d holds no list that could have the items es -/
def noL (es : List D) : D → Bool
  | .lst ds => (!decide (ds.length = es.length) || clashA ds es) && noLA es ds
  | .pls _ ds => (!decide (ds.length = es.length) || clashA ds es) && noLA es ds
  | .tup ds => noLA es ds
  | .kt ds => noLA es ds
  | .fz ds => noLA es ds
  | .obj _ _ _ ds => noLA es ds
  | .dct kvs => noLT es kvs
  | .dk kvs => noLK es kvs
  | _ => true
def noLA (es : List D) : List D → Bool
  | [] => true
  | d :: ds => noL es d && noLA es ds
def noLT (es : List D) : List (List Key × D) → Bool
  | [] => true
  | d :: ds => noL es d.2 && noLT es ds
def noLK (es : List D) : List (Key × D) → Bool
  | [] => true
  | d :: ds => noL es d.2 && noLK es ds
end
section
variable {K : PySem.W.Frag} {S S' : Addr → Prop} {H : Hp} {a : Addr} {xs : List V} {es : List D}
mutual
theorem clash_no : ∀ {d e : D} {v : V}, Rp K S H v d → Rp K S' H v e → clash d e = true → False
  | .tup ds, e, _, .tup h r, r2, c => by
    cases e with
    | tup es =>
      cases r2 with
      | tup h2 r3 =>
        rw [h] at h2
        cases h2
        simp only [clash, Bool.or_eq_true, Bool.not_eq_true', decide_eq_false_iff_not] at c
        rcases c with c | c
        · exact c (by rw [← r.length, ← r3.length])
        · exact clashA_no r r3 c
    | int i => cases r2
    | str x => cases r2
    | _ => simp [clash] at c
  | .int i, e, _, .int _, r2, c => by
    cases e with
    | tup es => cases r2
    | str x => cases r2
    | _ => simp [clash] at c
  | .str x, e, _, .str _, r2, c => by
    cases e with
    | tup es => cases r2
    | int i => cases r2
    | _ => simp [clash] at c
  | .non, _, _, _, _, c => by simp [clash] at c
  | .bl _, _, _, _, _, c => by simp [clash] at c
  | .kt _, _, _, _, _, c => by simp [clash] at c
  | .lst _, _, _, _, _, c => by simp [clash] at c
  | .fz _, _, _, _, _, c => by simp [clash] at c
  | .dct _, _, _, _, _, c => by simp [clash] at c
  | .dk _, _, _, _, _, c => by simp [clash] at c
  | .obj _ _ _ _, _, _, _, _, c => by simp [clash] at c
  | .pls _ _, _, _, _, _, c => by simp [clash] at c
  | .raw _, _, _, _, _, c => by simp [clash] at c
theorem clashA_no : ∀ {ds es : List D} {vs : List V}, RpA K S H vs ds → RpA K S' H vs es → clashA ds es = true → False
  | [], _, _, _, _, c => by simp [clashA] at c
  | d :: ds, [], _, _, _, c => by simp [clashA] at c
  | d :: ds, e :: es, _, .cons h r, .cons h2 r2, c => by
    simp only [clashA, Bool.or_eq_true] at c
    rcases c with c | c
    · exact clash_no h h2 c
    · exact clashA_no r r2 c
end
theorem no_alias {ds : List D} {b : Addr} {ys : List V} (ha : H a = some (.lst xs)) (hx : RpA K S' H xs es) (hb : H b = some (.lst ys)) (r : RpA K S H ys ds) (c : (!decide (ds.length = es.length) || clashA ds es) = true) : b ≠ a := fun e => by
  subst e
  rw [ha] at hb
  cases hb
  simp only [Bool.or_eq_true, Bool.not_eq_true', decide_eq_false_iff_not] at c
  rcases c with c | c
  · exact c (by rw [← r.length, ← hx.length])
  · exact clashA_no r hx c
mutual
theorem Rp.out (ha : H a = some (.lst xs)) (hx : RpA K S' H xs es) : ∀ {v : V} {d : D}, Rp K S H v d → noL es d = true → Rp K (fun b => b ≠ a ∧ S b) H v d
  | _, _, .non, _ => .non
  | _, _, .bl b, _ => .bl b
  | _, _, .int i, _ => .int i
  | _, _, .str x, _ => .str x
  | _, _, .tup h r, c => .tup h (RpA.out ha hx r (by simpa [noL] using c))
  | _, _, .kt h r, c => .kt h (RpA.out ha hx r (by simpa [noL] using c))
  | _, _, .lst s h r, c => by
    simp only [noL, Bool.and_eq_true] at c
    exact .lst ⟨no_alias ha hx h r c.1, s⟩ h (RpA.out ha hx r c.2)
  | _, _, .fz h r, c => .fz h (RpA.out ha hx r (by simpa [noL] using c))
  | _, _, .dct s h r, c => .dct ⟨(fun e => by rw [e, ha] at h; cases h), s⟩ h (RpT.out ha hx r (by simpa [noL] using c))
  | _, _, .dk s h r, c => .dk ⟨(fun e => by rw [e, ha] at h; cases h), s⟩ h (RpK.out ha hx r (by simpa [noL] using c))
  | _, _, .obj s h k n x r, c => .obj ⟨(fun e => by rw [e, ha] at h; cases h), s⟩ h k n x (RpA.out ha hx r (by simpa [noL] using c))
  | _, _, .raw a, _ => .raw a
  | _, _, .pls s h r, c => by
    simp only [noL, Bool.and_eq_true] at c
    exact .pls ⟨no_alias ha hx h r c.1, s⟩ h (RpA.out ha hx r c.2)
theorem RpA.out (ha : H a = some (.lst xs)) (hx : RpA K S' H xs es) : ∀ {v : List V} {d : List D}, RpA K S H v d → noLA es d = true → RpA K (fun b => b ≠ a ∧ S b) H v d
  | _, _, .nil, _ => .nil
  | _, _, .cons h r, c => by
    simp only [noLA, Bool.and_eq_true] at c
    exact .cons (Rp.out ha hx h c.1) (RpA.out ha hx r c.2)
theorem RpT.out (ha : H a = some (.lst xs)) (hx : RpA K S' H xs es) : ∀ {v : List (List Key × V)} {d : List (List Key × D)}, RpT K S H v d → noLT es d = true → RpT K (fun b => b ≠ a ∧ S b) H v d
  | _, _, .nil, _ => .nil
  | _, _, .cons h r, c => by
    simp only [noLT, Bool.and_eq_true] at c
    exact .cons (Rp.out ha hx h c.1) (RpT.out ha hx r c.2)
theorem RpK.out (ha : H a = some (.lst xs)) (hx : RpA K S' H xs es) : ∀ {v : List (Key × V)} {d : List (Key × D)}, RpK K S H v d → noLK es d = true → RpK K (fun b => b ≠ a ∧ S b) H v d
  | _, _, .nil, _ => .nil
  | _, _, .cons h r, c => by
    simp only [noLK, Bool.and_eq_true] at c
    exact .cons (Rp.out ha hx h c.1) (RpK.out ha hx r c.2)
end
end
end VL
set_option Elab.async false
set_option linter.all false
set_option maxRecDepth 100000
/-! VO31: defs that give a pair whose second is a list of their own. -/
namespace VL
open PySem L2 PySem.Spec PyProof.Rows
inductive MU where
  | ok (d : D) (es : List D) | ex (c : Xc) (ρ : Rho) | er
section
variable (X : Cx) (W : WX) (S0 : Addr → Prop) (H0 : Hp) (own : List Addr) (H : Hp)
def PSU (D : Ends) : MU → Prop
  | .ok d1 es => ∀ t v1 a xs own' H', H' t = some (.tup [v1, .ref a]) → a ∈ own' → H0 a = none → H' a = some (.lst xs) → Rp X.K (SA S0 H0 own') H' v1 d1 → RpA X.K (SF H0 own') H' xs es → Fra own H own' H' → D.rt (.ref t) H'
  | .ex c ρ' => ∀ cv d σ' own' H', IsCls X.mg c cv d → Rel X.K S0 H0 ρ' σ' own' H' → Fra own H own' H' → W cv d σ' H'
  | .er => False
end
structure VSU (X : Cx) (W : WX) (S0 : Addr → Prop) (H0 : Hp) (sts : List Stmt) (f : Rho → MU) : Prop where
  p : ∃ ts, PSs X sts ts ∧ ∀ ρ σ own H D, Rel X.K S0 H0 ρ σ own H → PSU X W S0 H0 own H D (f ρ) → ts D σ H
section
variable {X : Cx} {W : WX} {S0 : Addr → Prop} {H0 : Hp} {rm : Md} {own own' : List Addr} {H H' : Hp} {i j k l : Nat} {x y : Str} {p px pos pos' pos2 : Pos} {e : Expr} {es : List Expr} {st : Stmt} {sts : List Stmt} {fa : Rho → M (List D)} {f : Rho → Res} {g : Rho → MU}
theorem PSU.weak {D : Ends} {r : MU} (h : PSU X W S0 H0 own H D r) (f : Fra own H own' H') : PSU X W S0 H0 own' H' D r := by
  cases r with
  | ok d es => exact fun t v1 a xs o2 H2 a1 a2 a3 a4 a5 a6 b => h t v1 a xs o2 H2 a1 a2 a3 a4 a5 a6 (f.trans b)
  | ex c ρ => exact fun cv d σ' o2 H2 i a b => h cv d σ' o2 H2 i a (f.trans b)
  | er => exact h
end
def PFU (mg : Str → Option Value) (K : PySem.W.Frag) (S : Addr → Prop) (H : Hp) (Q : VK) (E : XK) : MU → Prop
  | .ok d1 es => ∀ t v1 a xs H', Same H H' → H' t = some (.tup [v1, .ref a]) → H a = none → H' a = some (.lst xs) → Rp K (fun b => b ≠ a ∧ (S b ∨ H b = none)) H' v1 d1 → RpA K (fun b => b ≠ a ∧ H b = none) H' xs es → Q (.ref t) H'
  | .ex c _ => ∀ cv d H', IsCls mg c cv d → Same H H' → E cv d H'
  | .er => False
def spU (mg : Str → Option Value) (K : PySem.W.Frag) (q : List D → MU) : Sp := fun vs H Q E => ∃ (ds : List D) (S : Addr → Prop), RpA K S H vs ds ∧ PFU mg K S H Q E (q ds)
section
variable {P : Program} {w : World} {K : PySem.W.Frag} {mg : Str → Option Value} {base : Heap}
end
structure CalU (P : Program) (w : World) (K : PySem.W.Frag) (mg : Str → Option Value) (base : Heap) (k : Nat) (x : Str) (q : List D → MU) : Prop where
  p : ∃ (f : Addr) (fd : FuncData) (ps : List Str), FnOk P w K mg base (L2N.CX P w) k f fd ps (spU mg K q) ∧ mg x = some (.ref f) ∧ PySem.W.keepIn K (.ref f) = true ∧ Binds K fd ps []
section
variable {X : Cx} {W : WX} {S0 : Addr → Prop} {H0 : Hp} {rm : Md} {i j k l : Nat} {x y z : Str} {q : List D → MU} {p px py pos pos2 post : Pos} {e : Expr} {es : List Expr} {fa : Rho → M (List D)}
end
end VL
set_option Elab.async false
set_option linter.all false
set_option maxRecDepth 100000
/-! VO32: blocks: what is made in a block is changed at its end (lists are cleared) and forgotten; all that stood ahead of it stands. -/
namespace VL
open PySem L2 PySem.Spec PyProof.Rows
def PK (X : Cx) (S0 : Addr → Prop) (H0 : Hp) (ks : List Nat) (own : List Addr) (H : Hp) (σ : Sg) (D : Ends) : Res → Prop
  | .nx ρ' => ∀ σ' own' H', OnlyS ks σ σ' → Rel X.K S0 H0 ρ' σ' own' H' → Fra own H own' H' → D.nx σ' H'
  | .rt d => lf d = true ∧ ∀ v own' H', Rp X.K (fun _ => False) H' v d → Fra own H own' H' → D.rt v H'
  | _ => False
/-- a statement that stores at the slots ks alone -/
structure VK1 (X : Cx) (W : WX) (S0 : Addr → Prop) (H0 : Hp) (ks : List Nat) (st : Stmt) (f : Rho → Res) : Prop where
  p : ∃ ts, PS X st ts ∧ ∀ ρ σ own H D, Rel X.K S0 H0 ρ σ own H → PK X S0 H0 ks own H σ D (f ρ) → ts D σ H
theorem OnlyS.refl {ks : List Nat} {σ : Sg} : OnlyS ks σ σ := ⟨rfl, fun _ _ => rfl⟩
theorem OnlyS.set {ks : List Nat} {σ : Sg} {i : Nat} {v : Option V} (h : i ∈ ks) : OnlyS ks σ (σ.set i v) := ⟨by simp, fun j hj => List.getElem?_set_ne fun (z : i = j) => hj (z ▸ h)⟩
theorem OnlyS.trans {ks : List Nat} {a b c : Sg} (h : OnlyS ks a b) (g : OnlyS ks b c) : OnlyS ks a c := ⟨g.1.trans h.1, fun j hj => (g.2 j hj).trans (h.2 j hj)⟩
section
variable {X : Cx} {W : WX} {S0 : Addr → Prop} {H0 : Hp} {rm m : Md} {ks : List Nat} {pos pos' p2 apos cpos : Pos} {e t : Expr} {es : List Expr} {rs sts rest : List Stmt} {st : Stmt} {fe : Rho → M D} {fa : Rho → M (List D)} {ft : Rho → M Bool} {f g fr : Rho → Res} {i j : Nat} {x y : Str}
end
theorem ps_any {X : Cx} {st : Stmt} {ι : Type} {ts : ι → TS} (h : ∀ i, PS X st (ts i)) : PS X st (fun D σ H => ∃ i, ts i D σ H) := ⟨fun pins s σ H D I ⟨i, k⟩ => (h i).run pins s σ H D I k⟩
/-- a list that is new since Hs -/
def Wl (Hs H : Hp) (v : V) : Prop := ∃ a xs, v = .ref a ∧ Hs a = none ∧ H a = some (.lst xs)
theorem Wl.step {Hs H : Hp} {v : V} {b : Addr} {ys : List V} (h : Wl Hs H v) : Wl Hs (upd H b (.lst ys)) v := by
  obtain ⟨a, xs, h1, h2, h3⟩ := h
  by_cases e : a = b
  · subst e
    exact ⟨a, ys, h1, h2, upd_same⟩
  · exact ⟨a, xs, h1, h2, by rw [upd_ne e]; exact h3⟩
/-- the rest of a block -/
structure VB (X : Cx) (W : WX) (S0 : Addr → Prop) (H0 : Hp) (rm : Md) (ks : List Nat) (sts : List Stmt) (Φ : Rho → Rho → Res) : Prop where
  p : ∃ ts, PSs X sts ts ∧ ∀ ρ σs own Hs ρi σ owni H D, Rel X.K S0 H0 ρ σs own Hs → Rel X.K (fun _ => True) Hs ρi σ owni H → OnlyS ks σs σ → PSt X W S0 H0 rm own Hs D (Φ ρ ρi) → ts D σ H
/-- its end: lists are cleared; then what follows -/
structure VE (X : Cx) (W : WX) (S0 : Addr → Prop) (H0 : Hp) (rm : Md) (ks ls : List Nat) (sts : List Stmt) (g : Rho → Res) : Prop where
  p : ∃ ts, PSs X sts ts ∧ ∀ ρ σs own Hs σ H D, Rel X.K S0 H0 ρ σs own Hs → Same Hs H → OnlyS ks σs σ → (∀ i, i ∈ ls → ∃ v, σ[i]? = some (some v) ∧ Wl Hs H v) → PSt X W S0 H0 rm own Hs D (g (wipeR ks ρ)) → ts D σ H
theorem wipe_no : ∀ {ks : List Nat} {ρ : Rho} {i : Nat} {s : Sl}, (wipeR ks ρ)[i]? = some s → s = .no ∨ (i ∉ ks ∧ ρ[i]? = some s)
  | [], ρ, i, s, h => .inr ⟨by simp, h⟩
  | k :: ks, ρ, i, s, h => by
    unfold wipeR at h
    rcases get_set h with ⟨_, z, _⟩ | ⟨z1, z⟩
    · exact .inl z
    · rcases wipe_no z with h | ⟨h1, h2⟩
      · exact .inl h
      · exact .inr ⟨fun hm => (List.mem_cons.mp hm).elim z1 h1, h2⟩
/-- slots forgotten that may have been stored at -/
theorem Rel.only {K : PySem.W.Frag} {S0 : Addr → Prop} {H0 H : Hp} {ρ : Rho} {σ σ' : Sg} {own : List Addr} {ks : List Nat} (R : Rel K S0 H0 ρ σ own H) (h : OnlyS ks σ σ') : Rel K S0 H0 (wipeR ks ρ) σ' own H := by
  have g : ∀ {i : Nat} {s : Sl}, (wipeR ks ρ)[i]? = some s → s ≠ .no → ρ[i]? = some s ∧ σ'[i]? = σ[i]? := fun {i s} e n => by
    rcases wipe_no e with z | ⟨z1, z2⟩
    · exact absurd z n
    · exact ⟨z2, h.2 i z1⟩
  refine ⟨fun i d e => ?_, fun i d e => ?_, fun i d e => ?_, fun i j d e a b q => ?_, fun i d a e1 e2 x hx => ?_, R.own0, R.same, by rw [h.1, R.len, (wipeR_get ks ρ).1]⟩
  · obtain ⟨g1, g2⟩ := g e (fun z => by cases z)
    rw [g2]; exact R.sh i d g1
  · obtain ⟨g1, g2⟩ := g e (fun z => by cases z)
    rw [g2]; exact R.fr i d g1
  · obtain ⟨g1, g2⟩ := g e (fun z => by cases z)
    rw [g2]; exact R.ow i d g1
  · obtain ⟨g1, g2⟩ := g a (fun z => by cases z)
    obtain ⟨g3, g4⟩ := g b (fun z => by cases z)
    rw [g2, g4] at q
    exact R.dis i j d e g1 g3 q
  · obtain ⟨g1, g2⟩ := g e1 (fun z => by cases z)
    rw [g2] at e2
    obtain ⟨h1, h2⟩ := R.sub i d a g1 e2 x hx
    refine ⟨h1, fun j e b f1 f2 => ?_⟩
    obtain ⟨g3, g4⟩ := g f1 (fun z => by cases z)
    rw [g4] at f2
    exact h2 j e b g3 f2
section
variable {X : Cx} {W : WX} {S0 : Addr → Prop} {H0 : Hp} {rm m : Md} {ks ls : List Nat} {pos pos' p2 apos cpos px : Pos} {sts rest : List Stmt} {st : Stmt} {f g : Rho → Res} {Φ : Rho → Rho → Res} {i j : Nat} {x y : Str}
/-- all that is known, as shared -/
def shAll : Rho → Rho := fun ρ => ρ.map fun s => match s with
  | .sh d => .sh d
  | .fr d => .sh d
  | .ow d => .sh d
  | .no => .no
theorem Own.rpT {K : PySem.W.Frag} {S : Addr → Prop} {H : Hp} {a : Addr} {d : D} (h : Own K S H a d) : Rp K (fun _ => True) H (.ref a) d := by
  have w : ∀ a, S a → True := fun _ _ => trivial
  cases d with
  | lst ds => obtain ⟨xs, e, r⟩ := h; exact .lst trivial e (r.keep (.wide w))
  | dct ds => obtain ⟨xs, e, r⟩ := h; exact .dct trivial e (r.keep (.wide w))
  | dk ds => obtain ⟨xs, e, r⟩ := h; exact .dk trivial e (r.keep (.wide w))
  | obj p c ns ds => exact Own.rp h
  | pls p ds => obtain ⟨e0, xs, e, r⟩ := h; exact .pls trivial e (r.keep (.wide w))
  | non => exact h.elim
  | bl _ => exact h.elim
  | int _ => exact h.elim
  | str _ => exact h.elim
  | tup _ => exact h.elim
  | kt _ => exact h.elim
  | fz _ => exact h.elim
  | raw _ => exact h.elim
theorem Rel.shAll {K : PySem.W.Frag} {ρ : Rho} {σ : Sg} {own : List Addr} {H : Hp} (R : Rel K S0 H0 ρ σ own H) : Rel K (fun _ => True) H (VL.shAll ρ) σ [] H := by
  have g : ∀ {i : Nat} {s : Sl}, (VL.shAll ρ)[i]? = some s → s = .no ∨ ∃ d, s = .sh d ∧ ∃ v, σ[i]? = some (some v) ∧ Rp K (fun _ => True) H v d := fun {i s} e => by
    unfold VL.shAll at e
    rw [List.getElem?_map] at e
    cases h : ρ[i]? with
    | none => rw [h] at e; cases e
    | some u =>
      rw [h] at e
      cases u with
      | no => cases e; exact .inl rfl
      | sh d =>
        cases e
        obtain ⟨v, h1, h2⟩ := R.sh i d h
        exact .inr ⟨d, rfl, v, h1, h2.keep (.wide fun _ _ => trivial)⟩
      | fr d =>
        cases e
        obtain ⟨v, h1, h2⟩ := R.fr i d h
        exact .inr ⟨d, rfl, v, h1, h2.keep (.wide fun _ _ => trivial)⟩
      | ow d =>
        cases e
        obtain ⟨a, h1, h2, h3⟩ := R.ow i d h
        exact .inr ⟨d, rfl, _, h1, h3.rpT⟩
  refine ⟨fun i d e => ?_, fun i d e => ?_, fun i d e => ?_, fun i j d e a b q => ?_, fun i d a e1 _ x _ => ?_, fun a h => by simp at h, Same.refl H, by unfold VL.shAll; rw [List.length_map]; exact R.len⟩
  · rcases g e with z | ⟨d', z, v, h1, h2⟩
    · cases z
    · cases z; exact ⟨v, h1, h2.keep (.wide fun _ _ => ⟨by simp, .inl trivial⟩)⟩
  · rcases g e with z | ⟨d', z, _⟩ <;> cases z
  · rcases g e with z | ⟨d', z, _⟩ <;> cases z
  · rcases g a with z | ⟨d', z, _⟩ <;> cases z
  · rcases g e1 with z | ⟨d', z, _⟩ <;> cases z
end
end VL
set_option Elab.async false
set_option linter.all false
set_option maxRecDepth 100000
/-! VO33: a def that makes an object out of the object that it is given first. -/
namespace VL
open PySem L2 PySem.Spec PyProof.Rows
/-! ### x.f = a new list whose items stand -/
structure VXL (X : Cx) (W : WX) (S0 : Addr → Prop) (H0 : Hp) (e : Expr) (f : Rho → M (List D)) : Prop where
  p : ∃ te, PE X e te ∧ ∀ ρ σ own H Q, Rel X.K S0 H0 ρ σ own H → (match f ρ with
    | .ok es => ∀ (v : V) (b : Addr) (xs : List V) (Hm : Hp), Same H Hm → Hm b = none → RpA X.K (SF H0 own) Hm xs es → v = .ref b → Q v (upd Hm b (.lst xs))
    | .ex c => ∀ cv d H', IsCls X.mg c cv d → Same H H' → W cv d σ H'
    | .er => False) → te σ H Q
section
variable {X : Cx} {W : WX} {S0 : Addr → Prop} {H0 : Hp} {rm : Md} {pos px pos' p apos : Pos} {x f c : Str} {i : Nat} {e : Expr} {fe : Rho → M (List D)}
end
/-! ### an object that is one's own already, in a slot -/
theorem Rel.addO {K : PySem.W.Frag} {S0 : Addr → Prop} {H0 H : Hp} {ρ : Rho} {σ : Sg} {own : List Addr} {j : Nat} {p : Addr} {d : D} (R : Rel K S0 H0 ρ σ own H) (hm : p ∈ own) (ho : Own K (SF H0 own) H p d) (hs : ∀ x, x ∈ sb H p → x ∈ own ∧ x ≠ p)
    (hd : ∀ (k : Nat) (e : D) (b : Addr), k ≠ j → ρ[k]? = some (.ow e) → σ[k]? = some (some (.ref b)) → (p ≠ b ∧ p ∉ sb H b) ∧ ∀ x, x ∈ sb H p → x ≠ b ∧ x ∉ sb H b) : Rel K S0 H0 (ρ.set j (.ow d)) (σ.set j (some (.ref p))) own H := by
  have at' : ∀ {k : Nat} {e : D}, k ≠ j → ρ[k]? = some (.ow e) → ∃ b, σ[k]? = some (some (.ref b)) ∧ (σ.set j (some (.ref p)))[k]? = some (some (.ref b)) := fun {k e} hk h => by
    obtain ⟨b, h1, _⟩ := R.ow k e h
    exact ⟨b, h1, by rw [List.getElem?_set_ne (Ne.symm hk)]; exact h1⟩
  refine ⟨fun i e q => ?_, fun i e q => ?_, fun i e q => ?_, fun i k d1 e1 x y q => ?_, fun i d1 b e1 e2 x hx => ?_, R.own0, R.same, by simp [R.len]⟩
  · rcases get_set q with ⟨_, z, _⟩ | ⟨hi, z⟩
    · cases z
    · rw [List.getElem?_set_ne (Ne.symm hi)]; exact R.sh i e z
  · rcases get_set q with ⟨_, z, _⟩ | ⟨hi, z⟩
    · cases z
    · rw [List.getElem?_set_ne (Ne.symm hi)]; exact R.fr i e z
  · rcases get_set q with ⟨rfl, z, hl⟩ | ⟨hi, z⟩
    · cases z
      exact ⟨p, List.getElem?_set_self (by rw [R.len]; exact hl), hm, ho⟩
    · rw [List.getElem?_set_ne (Ne.symm hi)]; exact R.ow i e z
  · rcases get_set x with ⟨rfl, z, hl⟩ | ⟨hi, z⟩
    · rcases get_set y with ⟨rfl, z2, _⟩ | ⟨hk, z2⟩
      · rfl
      · obtain ⟨b, g1, g2⟩ := at' hk z2
        rw [List.getElem?_set_self (by rw [R.len]; exact hl), g2] at q
        cases q
        exact absurd rfl (hd k e1 p hk z2 g1).1.1
    · rcases get_set y with ⟨rfl, z2, hl⟩ | ⟨hk, z2⟩
      · obtain ⟨b, g1, g2⟩ := at' hi z
        rw [List.getElem?_set_self (by rw [R.len]; exact hl), g2] at q
        cases q
        exact absurd rfl (hd i d1 p hi z g1).1.1
      · rw [List.getElem?_set_ne (Ne.symm hi), List.getElem?_set_ne (Ne.symm hk)] at q
        exact R.dis i k d1 e1 z z2 q
  · rcases get_set e1 with ⟨rfl, z, hl⟩ | ⟨hi, z⟩
    · rw [List.getElem?_set_self (by rw [R.len]; exact hl)] at e2
      cases e2
      refine ⟨(hs x hx).1, fun k e c g1 g2 => ?_⟩
      rcases get_set g1 with ⟨rfl, _, _⟩ | ⟨hk, y⟩
      · rw [List.getElem?_set_self (by rw [R.len]; exact hl)] at g2
        cases g2
        exact ⟨(hs x hx).2, fun z => absurd rfl z⟩
      · rw [List.getElem?_set_ne (Ne.symm hk)] at g2
        obtain ⟨_, h2⟩ := hd k e c hk y g2
        exact ⟨(h2 x hx).1, fun _ => (h2 x hx).2⟩
    · rw [List.getElem?_set_ne (Ne.symm hi)] at e2
      obtain ⟨h1, h2⟩ := R.sub i d1 b z e2 x hx
      obtain ⟨h3, h4⟩ := hd i d1 b hi z e2
      refine ⟨h1, fun k e c g1 g2 => ?_⟩
      rcases get_set g1 with ⟨rfl, _, hl⟩ | ⟨hk, y⟩
      · rw [List.getElem?_set_self (by rw [R.len]; exact hl)] at g2
        cases g2
        exact ⟨fun q => h3.2 (q ▸ hx), fun _ hm => (h4 x hm).2 hx⟩
      · rw [List.getElem?_set_ne (Ne.symm hk)] at g2
        exact h2 k e c y g2
/-! ### the body -/
inductive MC where
  | ok (o : D) (c : Str) (ns : List Str) (ds : List D) | okp (p : Addr) (o : D) (c : Str) (ns : List Str) (ds : List D) | ex (c : Xc) (ρ : Rho) | er
section
variable (X : Cx) (W : WX) (S0 : Addr → Prop) (H0 : Hp) (own : List Addr) (H : Hp)
def PSC (D : Ends) : MC → Prop
  | .ok o c ns ds => ∀ p i ρ' σ' own' H', Rel X.K S0 H0 ρ' σ' own' H' → ρ'[(0 : Nat)]? = some (.ow o) → ρ'[i]? = some (.ow (.obj p c ns ds)) → i ≠ 0 → Fra own H own' H' → D.rt (.ref p) H'
  | .okp p o c ns ds => ∀ i ρ' σ' own' H', Rel X.K S0 H0 ρ' σ' own' H' → ρ'[(0 : Nat)]? = some (.ow o) → ρ'[i]? = some (.ow (.obj p c ns ds)) → i ≠ 0 → Fra own H own' H' → D.rt (.ref p) H'
  | .ex c ρ' => ∀ cv d σ' own' H', IsCls X.mg c cv d → Rel X.K S0 H0 ρ' σ' own' H' → Fra own H own' H' → W cv d σ' H'
  | .er => False
end
structure VSC (X : Cx) (W : WX) (S0 : Addr → Prop) (H0 : Hp) (sts : List Stmt) (f : Rho → MC) : Prop where
  p : ∃ ts, PSs X sts ts ∧ ∀ ρ σ own H D, Rel X.K S0 H0 ρ σ own H → PSC X W S0 H0 own H D (f ρ) → ts D σ H
section
variable {X : Cx} {W : WX} {S0 : Addr → Prop} {H0 : Hp} {rm : Md} {own own' : List Addr} {H H' : Hp} {k l j i : Nat} {c x y : Str} {G : List D → MO} {p px pos pos' pos2 : Pos} {e : Expr} {es : List Expr} {st : Stmt} {sts : List Stmt} {fa : Rho → M (List D)} {f : Rho → Res} {g : Rho → MC}
theorem PSC.weak {D : Ends} {r : MC} (h : PSC X W S0 H0 own H D r) (f : Fra own H own' H') : PSC X W S0 H0 own' H' D r := by
  cases r with
  | ok o c ns ds => exact fun p i ρ' σ' o2 H2 a1 a2 a3 a4 b => h p i ρ' σ' o2 H2 a1 a2 a3 a4 (f.trans b)
  | okp p o c ns ds => exact fun i ρ' σ' o2 H2 a1 a2 a3 a4 b => h i ρ' σ' o2 H2 a1 a2 a3 a4 (f.trans b)
  | ex c ρ => exact fun cv d σ' o2 H2 i a b => h cv d σ' o2 H2 i a (f.trans b)
  | er => exact h
end
/-! ### the contract -/
inductive MT2 where
  | ok (o : D) (c : Str) (ns : List Str) (ds : List D) | ex (c : Xc) (o : D) | er
/-- a new object at p beside the one at p0 -/
structure Nw (K : PySem.W.Frag) (S1 : Addr → Prop) (H : Hp) (p0 : Addr) (own' : List Addr) (H' : Hp) (p : Addr) (d : D) : Prop where
  mem : p ∈ own'
  ne : p ≠ p0 ∧ p ∉ sb H' p0
  own : Own K (RO S1 H p0 own') H' p d
  sub : ∀ x, x ∈ sb H' p → x ∈ own' ∧ x ≠ p ∧ x ≠ p0 ∧ x ∉ sb H' p0
def PFT (mg : Str → Option Value) (K : PySem.W.Frag) (S1 : Addr → Prop) (H : Hp) (p0 : Addr) (Q : VK) (E : XK) : MT2 → Prop
  | .ok o c ns ds => ∀ p own' H', CK K S1 H p0 own' H' o → Nw K S1 H p0 own' H' p (.obj p c ns ds) → Q (.ref p) H'
  | .ex c o => ∀ cv dd own' H', IsCls mg c cv dd → CK K S1 H p0 own' H' o → E cv dd H'
  | .er => False
def spT (mg : Str → Option Value) (K : PySem.W.Frag) (G : List D → MT2) : Sp := fun vs H Q E => ∃ (p : Addr) (ws : List V) (d0 : D) (ds : List D) (S1 : Addr → Prop), vs = .ref p :: ws ∧ isObj d0 = true ∧ Own K S1 H p d0 ∧ p ∉ sb H p ∧ (∀ a, S1 a → a ≠ p ∧ a ∉ sb H p) ∧
  (∀ x, x ∈ sb H p → Mt (H x)) ∧ RpA K (fun a => a ≠ p ∧ a ∉ sb H p) H ws ds ∧ PFT mg K S1 H p Q E (G (d0 :: ds))
section
variable {P : Program} {w : World} {K : PySem.W.Frag} {mg : Str → Option Value} {base : Heap}
end
structure CalT (P : Program) (w : World) (K : PySem.W.Frag) (mg : Str → Option Value) (base : Heap) (k : Nat) (x : Str) (G : List D → MT2) : Prop where
  p : ∃ (f : Addr) (fd : FuncData) (ps : List Str), FnOk P w K mg base (L2N.CX P w) k f fd ps (spT mg K G) ∧ mg x = some (.ref f) ∧ PySem.W.keepIn K (.ref f) = true ∧ Binds K fd ps []
structure CalMT (P : Program) (w : World) (K : PySem.W.Frag) (mg : Str → Option Value) (base : Heap) (k : Nat) (c m : Str) (G : List D → MT2) : Prop where
  p : ∃ (C f : Addr) (fd : FuncData) (ps : List Str), ClsAt K c C ∧ Cls K C ∧ Meth K C m f ∧ FnOk P w K mg base (L2N.CX P w) k f fd ps (spT mg K G) ∧ Binds K fd ps []
end VL
set_option Elab.async false
set_option linter.all false
set_option maxRecDepth 100000
/-! VO34: what is handed on is all that is known, for the time of a call. -/
namespace VL
open PySem L2 PySem.Spec PyProof.Rows
structure VAR (X : Cx) (W : WX) (S0 : Addr → Prop) (H0 : Hp) (i : Option Nat) (es : List Expr) (f : Rho → M (List D)) : Prop where
  p : ∃ ta, PA X es ta ∧ ∀ ρ σ own H (Q : List V → Hp → Prop), Rel X.K S0 H0 ρ σ own H → (match f ρ with
    | .ok ds => ∀ vs H', Same H H' → RpA X.K (fun a => ∀ (k : Nat) (d0 : D) (p : Addr), i = some k → ρ[k]? = some (.ow d0) → σ[k]? = some (some (.ref p)) → a ≠ p ∧ a ∉ sb H' p) H' vs ds → Q vs H'
    | .ex c => ∀ cv d H', IsCls X.mg c cv d → Same H H' → W cv d σ H'
    | .er => False) → ta σ H Q
section
variable {X : Cx} {W : WX} {S0 : Addr → Prop} {H0 : Hp} {es : List Expr} {fa : Rho → M (List D)}
end
section
variable {X : Cx} {W : WX} {S0 : Addr → Prop} {H0 : Hp} {rm : Md} {pos pos' pos2 p px apos : Pos} {e : Expr} {es : List Expr} {sts : List Stmt} {fa : Rho → M (List D)} {x y c m : Str} {i j k l : Nat} {G : List D → MO} {g : Rho → Res}
end
end VL
set_option Elab.async false
set_option linter.all false
set_option maxRecDepth 100000
/-! VO35: makers called; loops whose test changes an object; more of changing calls. -/
namespace VL
open PySem L2 PySem.Spec PyProof.Rows
/-! ### y = x.m(), m makes an object out of x -/
section
variable {X : Cx} {W : WX} {S0 : Addr → Prop} {H0 : Hp} {rm m0 : Md} {k l j i : Nat} {c m x y z : Str} {G : List D → MT2} {p px pos pos' pos2 apos : Pos} {e e2 : Expr} {es : List Expr} {sts body : List Stmt} {fa : Rho → M (List D)} {f f2 : Rho → MR} {g fb : Rho → Res} {q : List D → M D} {fe fe2 : Rho → M D} {ft : Rho → MT}
/-! ### return f(x, args), in a maker -/
/-! ### f(x.m()), the object made is given to f alone -/
/-! ### f(e1, e2), both change an object -/
/-! ### while, the test changes an object -/
/-! ### + of new lists -/
/-! ### is True -/
end
end VL
set_option Elab.async false
set_option linter.all false
set_option maxRecDepth 100000
/-! VO36: isinstance(x, C) of objects; f(C(args)). -/
namespace VL
open PySem L2 PySem.Spec PyProof.Rows
structure InsK (K : PySem.W.Frag) (mg : Str → Option Value) (c : Str) : Prop where
  p : ∃ C, mg c = some (.ref C) ∧ ClsAt K c C ∧ C8.InsC K C
section
variable {X : Cx} {W : WX} {S0 : Addr → Prop} {H0 : Hp} {m : Md} {k l i j : Nat} {c x y : Str} {p px pc pos pos2 : Pos} {e : Expr} {es : List Expr} {G : List D → MO} {q : List D → M D} {fa : Rho → M (List D)}
/-! ### f(C(args)) -/
end
end VL
set_option Elab.async false
set_option linter.all false
set_option maxRecDepth 100000
/-! VO37: lists within a new list are changed, one after the other. -/
namespace VL
open PySem L2 PySem.Spec PyProof.Rows
/-- lists in the list at ax, new since Hs, apart from it -/
def WL (Hs : Hp) (ax : Addr) (xs : List V) (L : Nat) (H : Hp) : Prop :=
  Same Hs H ∧ Hs ax = none ∧ H ax = some (.lst xs) ∧ ∀ v, v ∈ xs → ∃ b ys, v = .ref b ∧ b ≠ ax ∧ Hs b = none ∧ H b = some (.lst ys) ∧ ys.length ≤ L
theorem WL.step {Hs H : Hp} {ax b : Addr} {xs zs : List V} {L L' : Nat} (h : WL Hs ax xs L H) (hb : Hs b = none) (hne : b ≠ ax) (hz : zs.length ≤ L') (hl : L ≤ L') : WL Hs ax xs L' (upd H b (.lst zs)) := by
  obtain ⟨h1, h2, h3, h4⟩ := h
  refine ⟨same_out h1 hb, h2, by rw [upd_ne (Ne.symm hne)]; exact h3, fun v hv => ?_⟩
  obtain ⟨c, ys, e1, e2, e3, e4, e5⟩ := h4 v hv
  by_cases e : c = b
  · subst e
    exact ⟨c, zs, e1, e2, e3, upd_same, hz⟩
  · exact ⟨c, ys, e1, e2, e3, by rw [upd_ne e]; exact e4, Nat.le_trans e5 hl⟩
theorem WL.grow {Hs H H' : Hp} {ax : Addr} {xs : List V} {L : Nat} (h : WL Hs ax xs L H) (s : Same H H') : WL Hs ax xs L H' := by
  obtain ⟨h1, h2, h3, h4⟩ := h
  refine ⟨h1.trans s, h2, s _ _ h3, fun v hv => ?_⟩
  obtain ⟨c, ys, e1, e2, e3, e4, e5⟩ := h4 v hv
  exact ⟨c, ys, e1, e2, e3, s _ _ e4, e5⟩
section
variable {X : Cx} {W : WX} {S0 : Addr → Prop} {H0 : Hp} {rm : Md} {ks : List Nat} {i j : Nat} {x y : Str} {px py p1 p2 a1 a2 c1 c2 q1 q2 q3 r1 r2 pos : Pos} {e t : Expr} {fe : Rho → M D} {ft : Rho → M Bool} {g : Rho → Res} {sts : List Stmt} {n : Int} {z : Str} {k1 k2 : Nat}
end
end VL
set_option Elab.async false
set_option linter.all false
set_option maxRecDepth 100000
/-! VO38: try: .. except C as e: .., e is asked by isinstance alone. -/
namespace VL
open PySem L2 PySem.Spec PyProof.Rows
/-- what is known of a raised class c: the clause's class takes it; what isinstance answers -/
structure KnE (K : PySem.W.Frag) (mg : Str → Option Value) (top : Value) (c : Str) (tb : List (Str × Bool)) : Prop where
  p : ∃ D, mg c = some (.ref D) ∧ ExcC K D ∧ PySem.W.exmOne K (.ref D) top = some true ∧ ∀ x b, tb.lookup x = some b → ∃ v, NmCls mg x v ∧ PySem.W.kitOne K (.ref D) v = some b
section
variable {X : Cx} {W W1 : WX} {S0 : Addr → Prop} {H0 : Hp} {rm m : Md} {i : Nat} {n x c : Str} {tb : List (Str × Bool)} {top : Value} {b : Bool} {a : Addr} {oe : Obj} {pn : List (Addr × Obj)} {q e1 t1 p1 np hp pos : Pos} {body suite : List Stmt} {b0 : Stmt} {fb : Rho → Res}
/-- the clause's suite for each class that may be raised -/
inductive VEs (X : Cx) (S0 : Addr → Prop) (H0 : Hp) (rm : Md) (top : Value) (sts : List Stmt) : List (Str × (Addr → Rho → Res)) → Prop
  | nil : VEs X S0 H0 rm top sts []
  | cons {c : Str} {f : Addr → Rho → Res} {r : List (Str × (Addr → Rho → Res))} {D : Addr} : X.mg c = some (.ref D) → PySem.W.exmOne X.K (.ref D) top = some true →
      (∀ a oe pn, Zc (.ref D) none oe → (∃ vs, oe.data = .fields vs) → VSs (X.suite a ((a, oe) :: pn)) (fun _ _ _ _ => False) S0 H0 rm sts (f a)) → VEs X S0 H0 rm top sts r → VEs X S0 H0 rm top sts ((c, f) :: r)
end
end VL
set_option Elab.async false
set_option linter.all false
set_option maxRecDepth 100000
/-! VO39: an object made within a try whose clause names what is raised; the facts of such a clause, by index. -/
namespace VL
open PySem L2 PySem.Spec PyProof.Rows
/-- what is known of a clause's class: of each class that may be raised -/
structure TryEF (K : PySem.W.Frag) (mg : Str → Option Value) (x : Str) (tbs : List (Str × List (Str × Bool))) : Prop where
  p : ∃ top, mg x = some top ∧ ∀ (k : Nat) c tb, tbs[k]? = some (c, tb) → KnE K mg top c tb
section
variable {X : Cx} {W : WX} {S0 : Addr → Prop} {H0 : Hp} {rm : Md} {i : Nat} {n x : Str} {tbs : List (Str × List (Str × Bool))} {np hp pos : Pos} {body suite : List Stmt} {b0 : Stmt} {fb : Rho → Res}
end
section
variable {X : Cx} {W : WX} {S0 : Addr → Prop} {H0 : Hp} {rm : Md} {k l i j : Nat} {c y n x : Str} {G : List D → MO} {p pos pos' pos2 pos3 np hp : Pos} {e : Expr} {es : List Expr} {sts suite : List Stmt} {b0 : Stmt} {fa : Rho → M (List D)} {g : Rho → Res} {hs : List (Str × (Addr → Rho → Res))} {top : Value}
end
end VL
set_option Elab.async false
set_option linter.all false
set_option maxRecDepth 100000
/-! VO40: dicts of the module with text keys: d.get(k), d[k] or a KeyError; s.split(c). -/
namespace VL
open PySem L2 PySem.Spec PyProof.Rows
/-- a written dict: text keys, whole numbers -/
structure KD (K : PySem.W.Frag) (w : World) (mg : Str → Option Value) (x : Str) (kvs : List (Str × Int)) : Prop where
  p : ∃ a, mg x = some (.ref a) ∧ (a == sysModules) = false ∧ ∀ z, (∃ i, kvs.lookup z = some i ∧ KDct K w a z (.int i)) ∨ (kvs.lookup z = none ∧ KMiss K w a z)
section
variable {X : Cx} {W : WX} {S0 : Addr → Prop} {H0 : Hp} {m me : Md} {x : Str} {kvs : List (Str × Int)} {e : Expr} {fe : Rho → M D} {te : TE} {p apos cpos : Pos}
end
/-! ### s.split(c) -/
section
variable {X : Cx} {W : WX} {S0 : Addr → Prop} {H0 : Hp} {ma mb : Md} {a b : Expr} {fa fb : Rho → M D} {apos cpos : Pos}
end
end VL
set_option Elab.async false
set_option linter.all false
set_option maxRecDepth 100000
set_option maxHeartbeats 2000000
/-! VO41: try .. except (A, B): a suite that raises. -/
namespace VL
open PySem L2 PySem.Spec PyProof.Rows L2H HotX
section
variable {X : Cx} {x1 x2 : Str} {c1 c2 : Value} {body suite : List Stmt} {b₀ : Stmt} {p1 p2 tpos pos pos' : Pos} {kk : Nat} {tb : WX → TS} {ts : Addr → Value → Option Addr → TS} {Wout : WX}
end
end VL
set_option Elab.async false
set_option linter.all false
set_option maxRecDepth 100000
/-! VO42: makers that raise behind a making; y = f(args) within a try of two classes, in a maker. -/
namespace VL
open PySem L2 PySem.Spec PyProof.Rows
section
variable {X : Cx} {W : WX} {S0 : Addr → Prop} {H0 : Hp} {k l j : Nat} {c y : Str} {G : List D → MO} {p pos pos' pos2 : Pos} {e : Expr} {es : List Expr} {sts : List Stmt} {fa : Rho → M (List D)} {g : Rho → MB}
end
end VL
set_option Elab.async false
set_option linter.all false
set_option maxRecDepth 100000
/-! VO43: y = f(args) within a try of two classes whose suite raises, in a maker; makers whose errors have a context. -/
namespace VL
open PySem L2 PySem.Spec PyProof.Rows
/-- what is known of the two classes of a clause -/
structure TupF (K : PySem.W.Frag) (mg : Str → Option Value) (x1 x2 : Str) (cs : List Str) (bs : List String) : Prop where
  p : ∃ c1 c2, mg x1 = some c1 ∧ mg x2 = none ∧ bootBuiltins x2 = some c2 ∧ x2 ≠ "__name__" ∧ (∀ c, c ∈ cs → ∃ D, mg c = some (.ref D) ∧ PySem.W.exmAny K (.ref D) [c1, c2] = some true) ∧ ∀ n, n ∈ bs → PySem.W.exmAny K (.type n) [c1, c2] = some true
section
variable {X : Cx} {W : WX} {S0 : Addr → Prop} {H0 : Hp} {k l j : Nat} {f y x1 x2 c0 : Str} {cs : List Str} {bs : List String} {q : List D → MB} {p p1 p2 p3 p4 p5 p6 tpos cpos hp pos pos' pos2 : Pos} {j0 kk : Nat} {e : Expr} {es : List Expr} {sts : List Stmt} {fa : Rho → M (List D)} {g : Rho → MB}
end
/-- a maker whose errors may have a context -/
structure CalBX (P : Program) (w : World) (K : PySem.W.Frag) (mg : Str → Option Value) (base : Heap) (k : Nat) (x : Str) (q : List D → MB) : Prop where
  p : ∃ (f : Addr) (fd : FuncData) (ps : List Str), FnOk P w K mg base (L2.CX P w) k f fd ps (spB mg K q) ∧ mg x = some (.ref f) ∧ PySem.W.keepIn K (.ref f) = true ∧ Binds K fd ps []
section
variable {P : Program} {w : World} {K : PySem.W.Frag} {mg : Str → Option Value} {base : Heap}
end
end VL
set_option Elab.async false
set_option linter.all false
set_option maxRecDepth 100000
/-! VO44: a def that gives an object or None. -/
namespace VL
open PySem L2 PySem.Spec PyProof.Rows
inductive MN where
  | ok (c : Str) (ns : List Str) (ds : List D) | non | er
def PSN (X : Cx) (H0 : Hp) (own : List Addr) (H : Hp) (D : Ends) : MN → Prop
  | .ok c ns ds => ∀ p own' H', Mad X.K H0 p own' H' c ns ds → Fra own H own' H' → D.rt (.ref p) H'
  | .non => ∀ H', Same H0 H' → D.rt .non H'
  | .er => False
structure VSN (X : Cx) (S0 : Addr → Prop) (H0 : Hp) (sts : List Stmt) (f : Rho → MN) : Prop where
  p : ∃ ts, PSs X sts ts ∧ ∀ ρ σ own H D, Rel X.K S0 H0 ρ σ own H → PSN X H0 own H D (f ρ) → ts D σ H
/-- what is known of a clause's class: it takes these -/
structure AllF (K : PySem.W.Frag) (mg : Str → Option Value) (x : Str) (cs : List Str) : Prop where
  p : ∃ top, mg x = some top ∧ ∀ c, c ∈ cs → ∃ D, mg c = some (.ref D) ∧ PySem.W.exmOne K (.ref D) top = some true
section
variable {X : Cx} {W : WX} {S0 : Addr → Prop} {H0 : Hp} {k l j : Nat} {f y x1 : Str} {cs : List Str} {q : List D → MB} {p p1 p3 p4 p5 p6 p7 p8 hp pos pos' pos2 : Pos} {j0 : Nat} {e : Expr} {es : List Expr} {fa : Rho → M (List D)}
end
def PFN (K : PySem.W.Frag) (H : Hp) (Q : VK) : MN → Prop
  | .ok c ns ds => ∀ p own' H', Mad K H p own' H' c ns ds → Q (.ref p) H'
  | .non => ∀ H', Same H H' → Q .non H'
  | .er => False
def spMN (K : PySem.W.Frag) (q : List D → MN) : Sp := fun vs H Q E => ∃ ds, RpA K (fun _ => True) H vs ds ∧ PFN K H Q (q ds)
section
variable {P : Program} {w : World} {K : PySem.W.Frag} {mg : Str → Option Value} {base : Heap}
end
/-- a def that makes an object or gives None -/
structure CalMN (P : Program) (w : World) (K : PySem.W.Frag) (mg : Str → Option Value) (base : Heap) (k : Nat) (x : Str) (q : List D → MN) : Prop where
  p : ∃ (f : Addr) (fd : FuncData) (ps : List Str), FnOk P w K mg base (L2N.CX P w) k f fd ps (spMN K q) ∧ mg x = some (.ref f) ∧ PySem.W.keepIn K (.ref f) = true ∧ Binds K fd ps []
section
variable {X : Cx} {W : WX} {S0 : Addr → Prop} {H0 : Hp} {rm : Md} {k l j : Nat} {x y : Str} {q : List D → MN} {p pos pos' pos2 : Pos} {e : Expr} {es : List Expr} {sts : List Stmt} {fa : Rho → M (List D)} {g : Rho → Res}
end
end VL
set_option Elab.async false
set_option linter.all false
set_option maxRecDepth 100000
/-! VO45: t[a:b] of a tuple. -/
namespace VL
open PySem L2 PySem.Spec PyProof.Rows
section
variable {X : Cx} {W : WX} {S0 : Addr → Prop} {H0 : Hp} {ma : Md} {e : Expr} {fe : Rho → M D} {p2 pos : Pos}
end
end VL
set_option Elab.async false
set_option linter.all false
set_option maxRecDepth 100000
/-! VO46: blocks that end without clearing: what is new may be kept; shared slots within. -/
namespace VL
open PySem L2 PySem.Spec PyProof.Rows
section
variable {X : Cx} {W : WX} {S0 : Addr → Prop} {H0 : Hp} {rm m : Md} {ks is : List Nat} {pos pos' : Pos} {e : Expr} {sts : List Stmt} {fe : Rho → M D} {g : Rho → Res} {i : Nat} {x : Str}
end
section
variable {X : Cx} {W : WX} {S0 : Addr → Prop} {H0 : Hp} {ks k1 : List Nat} {elt tg iter : Expr} {ifs : List Expr} {scope : Scope} {pos spos py : Pos} {y : Str} {i : Nat} {own : List (Str × Nat)} {fi : Rho → M (List D)} {ft : D → Rho → Option Rho} {fc : Rho → M Bool} {fe : Rho → M D}
end
end VL
set_option Elab.async false
set_option linter.all false
set_option maxRecDepth 100000
/-! VO47: defs whose errors may have a context: those that change an object; makers called as a statement, where no error comes; an object that is made, changed and dropped in one statement. Printed in part by mkVO47.py. -/
namespace VL
open PySem L2 PySem.Spec PyProof.Rows
/-- a def that changes its first argument; its errors may have a context -/
structure CalOX (P : Program) (w : World) (K : PySem.W.Frag) (mg : Str → Option Value) (base : Heap) (k : Nat) (x : Str) (G : List D → MO) : Prop where
  p : ∃ (f : Addr) (fd : FuncData) (ps : List Str), FnOk P w K mg base (L2.CX P w) k f fd ps (spO mg K G) ∧ mg x = some (.ref f) ∧ PySem.W.keepIn K (.ref f) = true ∧ Binds K fd ps []
section
variable {P : Program} {w : World} {K : PySem.W.Frag} {mg : Str → Option Value} {base : Heap}
end
section
variable {X : Cx} {W : WX} {S0 : Addr → Prop} {H0 : Hp} {rm : Md} {pos pos' p px : Pos} {e : Expr} {es : List Expr} {fa : Rho → M (List D)} {x y : Str} {i j k : Nat} {G : List D → MO} {f : Rho → MR}
end
section
variable {X : Cx} {W : WX} {S0 : Addr → Prop} {H0 : Hp} {rm : Md} {k k2 l j : Nat} {x y c m : Str} {q : List D → MB} {G : List D → MO} {p p2 p3 ap pos pos' pos2 : Pos} {e e2 : Expr} {es es2 : List Expr} {sts : List Stmt} {fa fb : Rho → M (List D)} {g : Rho → Res}
end
end VL
set_option Elab.async false
set_option linter.all false
set_option maxRecDepth 100000
/-! VO48: objects that no name names (they lie in a list): they stand in the ground while anything else runs. -/
namespace VL
open PySem L2 PySem.Spec PyProof.Rows
/-- nothing is known of what the arguments share -/
abbrev SNo : Addr → Prop := fun _ => False
/-- where the objects lie, with their lists -/
def gAd (H : Hp) : List D → List Addr
  | [] => []
  | .obj p _ _ _ :: r => p :: (sb H p ++ gAd H r)
  | _ :: r => gAd H r
/-- the ground with the objects in it -/
def grd (H0 H : Hp) (gs : List D) : Hp := fun a => if a ∈ gAd H gs then H a else H0 a
theorem gAd_same {H H' : Hp} : ∀ {gs : List D}, (∀ a, a ∈ gAd H gs → H' a = H a) → gAd H' gs = gAd H gs
  | [], _ => rfl
  | g :: r, h => by
    cases g with
    | obj p c ns ds =>
      have hp : H' p = H p := h p List.mem_cons_self
      have es : sb H' p = sb H p := by unfold sb; rw [hp]
      show p :: (sb H' p ++ gAd H' r) = p :: (sb H p ++ gAd H r)
      rw [es, gAd_same fun a ha => h a (List.mem_cons_of_mem _ (List.mem_append_right _ ha))]
    | _ => exact gAd_same (gs := r) h
theorem grd_same {H0 H H' : Hp} {gs : List D} (h : ∀ a, a ∈ gAd H gs → H' a = H a) : grd H0 H' gs = grd H0 H gs := by
  funext a
  unfold grd
  rw [gAd_same h]
  split
  · next m => exact h a m
  · rfl
theorem gAd_mem {H : Hp} {p : Addr} {c : Str} {ns : List Str} {ds : List D} : ∀ {gs : List D}, D.obj p c ns ds ∈ gs → p ∈ gAd H gs ∧ ∀ x, x ∈ sb H p → x ∈ gAd H gs
  | [], h => by cases h
  | g :: r, h => by
    rcases List.mem_cons.mp h with e | h
    · subst e
      exact ⟨List.mem_cons_self, fun x hx => List.mem_cons_of_mem _ (List.mem_append_left _ hx)⟩
    · obtain ⟨a, b⟩ := gAd_mem (H := H) h
      cases g with
      | obj q c2 ns2 ds2 => exact ⟨List.mem_cons_of_mem _ (List.mem_append_right _ a), fun x hx => List.mem_cons_of_mem _ (List.mem_append_right _ (b x hx))⟩
      | _ => exact ⟨a, b⟩
/-- a state with such objects -/
structure RelG (K : PySem.W.Frag) (H0 : Hp) (ownB : List Addr) (HB : Hp) (gs : List D) (ρ : Rho) (σ : Sg) (own : List Addr) (H : Hp) : Prop where
  rel : Rel K SNo (grd H0 H gs) ρ σ own H
  nd : (gAd H gs).Nodup
  nw : ∀ a, a ∈ gAd H gs → H0 a = none ∧ Mt (H a)
  gh : ∀ p c ns ds, D.obj p c ns ds ∈ gs → Own K (SF (grd H0 H gs) own) H p (.obj p c ns ds)
  fr : Fra ownB HB (gAd H gs ++ own) H
section
variable {K : PySem.W.Frag} {H0 HB H H' : Hp} {ownB own own' : List Addr} {gs : List D} {ρ ρ' : Rho} {σ σ' : Sg}
theorem RelG.off (R : RelG K H0 ownB HB gs ρ σ own H) : ∀ a, a ∈ gAd H gs → a ∉ own := fun a ha hm => by
  have h1 := (R.rel.own0 a hm).1
  unfold grd at h1
  rw [if_pos ha] at h1
  obtain ⟨u, e⟩ := mt_some (R.nw a ha).2
  rw [e] at h1
  cases h1
theorem RelG.grd_at (R : RelG K H0 ownB HB gs ρ σ own H) {a : Addr} (ha : a ∈ gAd H gs) : ∃ u, grd H0 H gs a = some u ∧ H a = some u := by
  obtain ⟨u, e⟩ := mt_some (R.nw a ha).2
  refine ⟨u, ?_, e⟩
  unfold grd
  rw [if_pos ha, e]
theorem RelG.step (R : RelG K H0 ownB HB gs ρ σ own H) (R' : Rel K SNo (grd H0 H gs) ρ' σ' own' H') (F : Fra own H own' H') : RelG K H0 ownB HB gs ρ' σ' own' H' := by
  have he : ∀ a, a ∈ gAd H gs → H' a = H a := fun a ha => by
    obtain ⟨u, e1, e2⟩ := R.grd_at ha
    rw [R'.same a u e1, e2]
  have eg := grd_same (H0 := H0) he
  have ea := gAd_same he
  refine ⟨by rw [eg]; exact R', by rw [ea]; exact R.nd, fun a ha => ?_, fun p c ns ds hg => ?_, ?_⟩
  · rw [ea] at ha
    rw [he a ha]
    exact R.nw a ha
  · have o := R.gh p c ns ds hg
    rw [eg]
    obtain ⟨m1, m2⟩ := gAd_mem (H := H) hg
    refine Own.keep (F.keepF R.rel.own0) (fun x hx u hu => ?_) o
    rw [he x (hx.elim (fun z => z ▸ m1) (m2 x)), hu]
  · rw [ea]
    refine ⟨fun a o h1 h2 => ?_, fun a hm => ?_⟩
    · have h3 : a ∉ gAd H gs ++ own := fun m => (R.fr.n a m).elim h2 fun z => by rw [h1] at z; cases z
      exact F.k a o (R.fr.k a o h1 h2) fun m => h3 (List.mem_append_right _ m)
    · rcases List.mem_append.mp hm with m | m
      · exact R.fr.n a (List.mem_append_left _ m)
      · rcases F.n a m with z | z
        · exact R.fr.n a (List.mem_append_right _ z)
        · by_cases hb : a ∈ ownB
          · exact .inl hb
          · right
            cases e : HB a with
            | none => rfl
            | some u => rw [R.fr.k a u e hb] at z; cases z
theorem RelG.same (R : RelG K H0 ownB HB gs ρ σ own H) (s : Same H H') : RelG K H0 ownB HB gs ρ σ own H' := R.step (R.rel.grow s) (.same s)
/-- the regions are the same, seen with the objects as one's own -/
theorem RelG.reg (R : RelG K H0 ownB HB gs ρ σ own H) (a : Addr) : SF (grd H0 H gs) own a ↔ SF H0 (gAd H gs ++ own) a := by
  unfold SF grd
  constructor
  · rintro ⟨h1, h2⟩
    by_cases m : a ∈ gAd H gs
    · rw [if_pos m] at h2
      obtain ⟨u, e⟩ := mt_some (R.nw a m).2
      rw [e] at h2
      cases h2
    · rw [if_neg m] at h2
      exact ⟨fun z => (List.mem_append.mp z).elim m h1, h2⟩
  · rintro ⟨h1, h2⟩
    have m : a ∉ gAd H gs := fun z => h1 (List.mem_append_left _ z)
    exact ⟨fun z => h1 (List.mem_append_right _ z), by rw [if_neg m]; exact h2⟩
theorem sn_sf {H0 : Hp} {own : List Addr} (a : Addr) (h : SA SNo H0 own a) : SF H0 own a := ⟨h.1, h.2.elim False.elim id⟩
theorem RelG.plus (R : RelG K H0 ownB HB gs ρ σ own H) : Rel K SNo H0 ρ σ (gAd H gs ++ own) H where
  sh := fun i d h => by
    obtain ⟨v, h1, h2⟩ := R.rel.sh i d h
    exact ⟨v, h1, h2.keep (.wide fun a s => SF.sa a ((R.reg a).mp (sn_sf a s)))⟩
  fr := fun i d h => by
    obtain ⟨v, h1, h2⟩ := R.rel.fr i d h
    exact ⟨v, h1, h2.keep (.wide fun a s => (R.reg a).mp s)⟩
  ow := fun i d h => by
    obtain ⟨a, h1, h2, h3⟩ := R.rel.ow i d h
    exact ⟨a, h1, List.mem_append_right _ h2, h3.keep (.wide fun a s => (R.reg a).mp s) fun _ _ _ e => e⟩
  dis := R.rel.dis
  sub := fun i d a h1 h2 x hx => by
    obtain ⟨g1, g2⟩ := R.rel.sub i d a h1 h2 x hx
    exact ⟨List.mem_append_right _ g1, g2⟩
  own0 := fun a hm => by
    rcases List.mem_append.mp hm with m | m
    · exact R.nw a m
    · obtain ⟨h1, h2⟩ := R.rel.own0 a m
      refine ⟨?_, h2⟩
      have := fun z => R.off a z m
      unfold grd at h1
      rw [if_neg this] at h1
      exact h1
  same := fun a o e => by
    by_cases m : a ∈ gAd H gs
    · rw [(R.nw a m).1] at e
      cases e
    · exact R.rel.same a o (by unfold grd; rw [if_neg m]; exact e)
  len := R.rel.len
end
/-! ### one of the objects is taken to be one's own, and laid back -/
def gA1 (H : Hp) : D → List Addr
  | .obj p _ _ _ => p :: sb H p
  | _ => []
theorem gAd_cons (H : Hp) (g : D) (r : List D) : gAd H (g :: r) = gA1 H g ++ gAd H r := by cases g <;> rfl
theorem gAd_set {H : Hp} {g0 : D} : ∀ {gs : List D} {i : Nat}, gs[i]? = some g0 → (gAd H gs).Perm (gA1 H g0 ++ gAd H (gs.set i .non))
  | [], i, h => by simp at h
  | g :: r, 0, h => by
    simp at h
    subst h
    rw [List.set_cons_zero, gAd_cons, gAd_cons]
    exact List.Perm.refl _
  | g :: r, i + 1, h => by
    have h' : r[i]? = some g0 := by simpa using h
    have ih := gAd_set (H := H) h'
    rw [List.set_cons_succ, gAd_cons, gAd_cons]
    refine (ih.append_left (gA1 H g)).trans ?_
    rw [← List.append_assoc, ← List.append_assoc]
    exact List.perm_append_comm.append_right _
section
variable {K : PySem.W.Frag} {H0 HB H H' H2 : Hp} {ownB own own2 : List Addr} {gs : List D} {ρ : Rho} {σ : Sg} {i j : Nat} {p : Addr} {c : Str} {ns ns2 : List Str} {ds ds2 : List D}
theorem RelG.parts {g0 : D} (R : RelG K H0 ownB HB gs ρ σ own H) (h : gs[i]? = some g0) : (∀ a, a ∈ gAd H gs ↔ a ∈ gA1 H g0 ∨ a ∈ gAd H (gs.set i .non)) ∧ (gA1 H g0).Nodup ∧ (∀ a, a ∈ gA1 H g0 → a ∉ gAd H (gs.set i .non)) := by
  have hp := gAd_set (H := H) h
  have hn := hp.nodup_iff.mp R.nd
  rw [List.nodup_append] at hn
  obtain ⟨n1, _, n3⟩ := hn
  exact ⟨fun a => by rw [hp.mem_iff, List.mem_append], n1, fun a ha hb => n3 a ha a hb rfl⟩
theorem RelG.take (R : RelG K H0 ownB HB gs ρ σ own H) (h : gs[i]? = some (.obj p c ns ds)) (hj : ρ[j]? = some .no) :
    Rel K SNo (grd H0 H (gs.set i .non)) (ρ.set j (.ow (.obj p c ns ds))) (σ.set j (some (.ref p))) ((p :: sb H p) ++ own) H ∧ (σ.set j (some (.ref p)))[j]? = some (some (.ref p)) ∧ ∀ a, SF (grd H0 H gs) own a → SF (grd H0 H (gs.set i .non)) ((p :: sb H p) ++ own) a := by
  obtain ⟨m1, mn, m3⟩ := R.parts h
  have mn : (p :: sb H p).Nodup := mn
  have m1 : ∀ a, a ∈ gAd H gs ↔ a ∈ p :: sb H p ∨ a ∈ gAd H (gs.set i .non) := m1
  have m3 : ∀ a, a ∈ p :: sb H p → a ∉ gAd H (gs.set i .non) := m3
  have m2 : ∀ x, x ∈ sb H p → x ≠ p := fun x hx e => (List.nodup_cons.mp mn).1 (e ▸ hx)
  have hg : D.obj p c ns ds ∈ gs := List.mem_of_getElem? h
  have h0 : ∀ a, a ∈ gAd H gs → H0 a = none := fun a ha => (R.nw a ha).1
  have reg : ∀ a, SF (grd H0 H gs) own a → SF (grd H0 H (gs.set i .non)) ((p :: sb H p) ++ own) a := fun a s => by
    obtain ⟨s1, s2⟩ := (R.reg a).mp s
    have t1 : a ∉ gAd H gs := fun z => s1 (List.mem_append_left _ z)
    have t2 : a ∉ own := fun z => s1 (List.mem_append_right _ z)
    refine ⟨fun z => (List.mem_append.mp z).elim (fun z => t1 ((m1 a).mpr (.inl z))) t2, ?_⟩
    unfold grd
    rw [if_neg fun z => t1 ((m1 a).mpr (.inr z))]
    exact s2
  have R1 : Rel K SNo (grd H0 H (gs.set i .non)) ρ σ ((p :: sb H p) ++ own) H := {
    sh := fun k d e => by
      obtain ⟨v, e1, e2⟩ := R.rel.sh k d e
      exact ⟨v, e1, e2.keep (.wide fun a s => SF.sa a (reg a (sn_sf a s)))⟩
    fr := fun k d e => by
      obtain ⟨v, e1, e2⟩ := R.rel.fr k d e
      exact ⟨v, e1, e2.keep (.wide reg)⟩
    ow := fun k d e => by
      obtain ⟨a, e1, e2, e3⟩ := R.rel.ow k d e
      exact ⟨a, e1, List.mem_append_right _ e2, e3.keep (.wide reg) fun _ _ _ q => q⟩
    dis := R.rel.dis
    sub := fun k d a e1 e2 x hx => by
      obtain ⟨g1, g2⟩ := R.rel.sub k d a e1 e2 x hx
      exact ⟨List.mem_append_right _ g1, g2⟩
    own0 := fun a hm => by
      rcases List.mem_append.mp hm with m | m
      · have hm' : a ∈ gAd H gs := (m1 a).mpr (.inl m)
        refine ⟨?_, (R.nw a hm').2⟩
        unfold grd
        rw [if_neg (m3 a m)]
        exact h0 a hm'
      · obtain ⟨q1, q2⟩ := R.rel.own0 a m
        refine ⟨?_, q2⟩
        have off : a ∉ gAd H gs := fun z => R.off a z m
        unfold grd at q1 ⊢
        rw [if_neg off] at q1
        rw [if_neg fun z => off ((m1 a).mpr (.inr z))]
        exact q1
    same := fun a o e => by
      unfold grd at e
      split at e
      · exact e
      · next hn =>
        have off : a ∉ gAd H gs := fun z => by rw [h0 a z] at e; cases e
        exact R.rel.same a o (by unfold grd; rw [if_neg off]; exact e)
    len := R.rel.len }
  have o := R.gh _ _ _ _ hg
  refine ⟨R1.addO List.mem_cons_self (o.keep (.wide reg) fun _ _ _ q => q) (fun x hx => ⟨List.mem_append_left _ (List.mem_cons_of_mem _ hx), m2 x hx⟩) (fun k e b hk e1 e2 => ?_), ?_⟩
  · obtain ⟨a, e3, e4, _⟩ := R.rel.ow k e e1
    rw [e2] at e3
    cases e3
    have hsub := R.rel.sub k e b e1 e2
    have offp : ∀ y, y ∈ p :: sb H p → y ≠ b ∧ y ∉ sb H b := fun y hy => by
      have hy' : y ∈ gAd H gs := (m1 y).mpr (.inl hy)
      exact ⟨fun z => R.off y hy' (z ▸ e4), fun z => R.off y hy' (hsub y z).1⟩
    exact ⟨offp p List.mem_cons_self, fun x hx => offp x (List.mem_cons_of_mem _ hx)⟩
  · exact ⟨List.getElem?_set_self (by rw [R.rel.len]; exact (List.getElem?_eq_some_iff.mp hj).1), reg⟩
theorem RelG.put {g0 : D} (R : RelG K H0 ownB HB gs ρ σ own H) (h : gs[i]? = some g0) (hj : ρ[j]? = some .no) (R2 : Rel K SNo (grd H0 H (gs.set i .non)) (ρ.set j (.ow (.obj p c ns2 ds2))) (σ.set j (some (.ref p))) own2 H2) (F : Fra (gA1 H g0 ++ own) H own2 H2) :
    RelG K H0 ownB HB (gs.set i (.obj p c ns2 ds2)) ρ σ (own2.filter fun a => decide (a ∉ p :: sb H2 p)) H2 := by
  obtain ⟨m1, mn, m3⟩ := R.parts h
  have hjl : j < ρ.length := (List.getElem?_eq_some_iff.mp hj).1
  have hjs : j < σ.length := by rw [R.rel.len]; exact hjl
  have hil : i < gs.length := (List.getElem?_eq_some_iff.mp h).1
  have rj : (ρ.set j (.ow (.obj p c ns2 ds2)))[j]? = some (.ow (.obj p c ns2 ds2)) := List.getElem?_set_self hjl
  have sj : (σ.set j (some (.ref p)))[j]? = some (some (.ref p)) := List.getElem?_set_self hjs
  have rk : ∀ {k : Nat}, k ≠ j → (ρ.set j (.ow (.obj p c ns2 ds2)))[k]? = ρ[k]? := fun {k} hk => List.getElem?_set_ne (Ne.symm hk)
  have sk : ∀ {k : Nat}, k ≠ j → (σ.set j (some (.ref p)))[k]? = σ[k]? := fun {k} hk => List.getElem?_set_ne (Ne.symm hk)
  have nj : ∀ {k : Nat} {s : Sl}, ρ[k]? = some s → s ≠ .no → k ≠ j := fun {k s} e hs z => by subst z; rw [hj] at e; exact hs (Option.some.inj e).symm
  obtain ⟨p', o1, o2, o3⟩ := R2.ow j _ rj
  rw [sj] at o1
  cases o1
  have hsub := R2.sub j _ p rj sj
  have hA2 : ∀ a, a ∈ p :: sb H2 p → a ∈ own2 := fun a ha => (List.mem_cons.mp ha).elim (fun z => z ▸ o2) fun z => (hsub a z).1
  have hsame : ∀ a, a ∈ gAd H (gs.set i .non) → H2 a = H a := fun a ha => by
    have hm : a ∈ gAd H gs := (m1 a).mpr (.inr ha)
    obtain ⟨u, e⟩ := mt_some (R.nw a hm).2
    rw [e]
    exact R2.same a u (by unfold grd; rw [if_pos ha, e])
  have eA := gAd_same hsame
  have eset : (gs.set i (.obj p c ns2 ds2)).set i .non = gs.set i .non := List.set_set ..
  have hp2 : (gAd H2 (gs.set i (.obj p c ns2 ds2))).Perm ((p :: sb H2 p) ++ gAd H (gs.set i .non)) := by
    have hp2 := gAd_set (H := H2) (gs := gs.set i (.obj p c ns2 ds2)) (i := i) (List.getElem?_set_self hil)
    rw [eset, eA] at hp2
    exact hp2
  have mem2 : ∀ a, a ∈ gAd H2 (gs.set i (.obj p c ns2 ds2)) ↔ a ∈ p :: sb H2 p ∨ a ∈ gAd H (gs.set i .non) := fun a => by rw [hp2.mem_iff, List.mem_append]
  have own2n : ∀ a, a ∈ own2 → a ∉ gAd H (gs.set i .non) ∧ H0 a = none := fun a ha => by
    have q := (R2.own0 a ha).1
    unfold grd at q
    by_cases m : a ∈ gAd H (gs.set i .non)
    · rw [if_pos m] at q
      obtain ⟨u, e⟩ := mt_some (R.nw a ((m1 a).mpr (.inr m))).2
      rw [e] at q
      cases q
    · rw [if_neg m] at q
      exact ⟨m, q⟩
  have own3 : ∀ a, a ∈ (own2.filter fun a => decide (a ∉ p :: sb H2 p)) ↔ a ∈ own2 ∧ a ∉ p :: sb H2 p := fun a => by rw [List.mem_filter, decide_eq_true_eq]
  have g2 : ∀ a, a ∉ p :: sb H2 p → a ∉ gAd H (gs.set i .non) → grd H0 H2 (gs.set i (.obj p c ns2 ds2)) a = H0 a := fun a q1 q2 => by
    unfold grd
    rw [if_neg fun z => ((mem2 a).mp z).elim q1 q2]
  have reg : ∀ a, SF (grd H0 H (gs.set i .non)) own2 a → SF (grd H0 H2 (gs.set i (.obj p c ns2 ds2))) (own2.filter fun a => decide (a ∉ p :: sb H2 p)) a := fun a ⟨s1, s2⟩ => by
    have t1 : a ∉ gAd H (gs.set i .non) := fun z => by
      obtain ⟨u, e⟩ := mt_some (R.nw a ((m1 a).mpr (.inr z))).2
      unfold grd at s2
      rw [if_pos z, e] at s2
      cases s2
    refine ⟨fun z => s1 ((own3 a).mp z).1, ?_⟩
    rw [g2 a (fun z => s1 (hA2 a z)) t1]
    unfold grd at s2
    rw [if_neg t1] at s2
    exact s2
  refine ⟨{
    sh := fun k d e => by
      have hk := nj e (by intro z; cases z)
      obtain ⟨v, e1, e2⟩ := R2.sh k d (by rw [rk hk]; exact e)
      rw [sk hk] at e1
      exact ⟨v, e1, e2.keep (.wide fun a s => SF.sa a (reg a (sn_sf a s)))⟩
    fr := fun k d e => by
      have hk := nj e (by intro z; cases z)
      obtain ⟨v, e1, e2⟩ := R2.fr k d (by rw [rk hk]; exact e)
      rw [sk hk] at e1
      exact ⟨v, e1, e2.keep (.wide reg)⟩
    ow := fun k d e => by
      have hk := nj e (by intro z; cases z)
      obtain ⟨b, e1, e2, e3⟩ := R2.ow k d (by rw [rk hk]; exact e)
      refine ⟨b, by rw [← sk hk]; exact e1, (own3 b).mpr ⟨e2, fun z => ?_⟩, e3.keep (.wide reg) fun _ _ _ q => q⟩
      rcases List.mem_cons.mp z with z | z
      · subst z
        exact hk (R2.dis k j _ _ (by rw [rk hk]; exact e) rj (by rw [e1, sj]))
      · exact ((hsub b z).2 k d b (by rw [rk hk]; exact e) e1).1 rfl
    dis := fun k l d e h1 h2 q => by
      have hk := nj h1 (by intro z; cases z)
      have hl := nj h2 (by intro z; cases z)
      exact R2.dis k l d e (by rw [rk hk]; exact h1) (by rw [rk hl]; exact h2) (by rw [sk hk, sk hl]; exact q)
    sub := fun k d b h1 h2 x hx => by
      have hk := nj h1 (by intro z; cases z)
      obtain ⟨q1, q2⟩ := R2.sub k d b (by rw [rk hk]; exact h1) (by rw [sk hk]; exact h2) x hx
      refine ⟨(own3 x).mpr ⟨q1, fun z => ?_⟩, fun l e b' h3 h4 => ?_⟩
      · obtain ⟨w1, w2⟩ := q2 j _ p rj sj
        rcases List.mem_cons.mp z with z | z
        · exact w1 z
        · exact w2 (Ne.symm hk) z
      · have hl := nj h3 (by intro z; cases z)
        exact q2 l e b' (by rw [rk hl]; exact h3) (by rw [sk hl]; exact h4)
    own0 := fun a hm => by
      obtain ⟨q1, q2⟩ := (own3 a).mp hm
      rw [g2 a q2 (own2n a q1).1]
      exact ⟨(own2n a q1).2, (R2.own0 a q1).2⟩
    same := fun a o e => by
      by_cases m : a ∈ gAd H2 (gs.set i (.obj p c ns2 ds2))
      · unfold grd at e
        rw [if_pos m] at e
        exact e
      · unfold grd at e
        rw [if_neg m] at e
        have m' : a ∉ gAd H (gs.set i .non) := fun z => m ((mem2 a).mpr (.inr z))
        exact R2.same a o (by unfold grd; rw [if_neg m']; exact e)
    len := R.rel.len }, ?_, ?_, ?_, ?_⟩
  · rw [hp2.nodup_iff, List.nodup_append]
    refine ⟨?_, ?_, fun a ha b hb e => (own2n a (hA2 a ha)).1 (e ▸ hb)⟩
    · rw [List.nodup_cons]
      refine ⟨fun z => ((hsub p z).2 j _ p rj sj).1 rfl, ?_⟩
      obtain ⟨_, C, dx, vs, e1, _, _, _, e5⟩ := o3
      have es : sb H2 p = subs vs := by unfold sb; rw [e1]
      rw [es]
      exact e5
    · have hn := (gAd_set (H := H) h).nodup_iff.mp R.nd
      rw [List.nodup_append] at hn
      exact hn.2.1
  · intro a ha
    rcases (mem2 a).mp ha with m | m
    · exact ⟨(own2n a (hA2 a m)).2, (R2.own0 a (hA2 a m)).2⟩
    · rw [hsame a m]
      exact R.nw a ((m1 a).mpr (.inr m))
  · intro q c3 ns3 ds3 hg
    obtain ⟨k, hk⟩ := List.getElem?_of_mem hg
    by_cases e : k = i
    · subst e
      rw [List.getElem?_set_self hil] at hk
      cases hk
      exact o3.keep (.wide reg) fun _ _ _ q => q
    · rw [List.getElem?_set_ne (Ne.symm e)] at hk
      have o := R.gh q c3 ns3 ds3 (List.mem_of_getElem? hk)
      have hmem : D.obj q c3 ns3 ds3 ∈ gs.set i .non := List.mem_of_getElem? (i := k) (by rw [List.getElem?_set_ne (Ne.symm e)]; exact hk)
      obtain ⟨w1, w2⟩ := gAd_mem (H := H) hmem
      refine Own.keep ?_ (fun x hx u hu => ?_) o
      · have notin : ∀ a o, H a = some o → ¬ Mt (some o) → a ∉ gA1 H g0 ++ own := fun a o e nm z => by
          rcases List.mem_append.mp z with z | z
          · have := (R.nw a ((m1 a).mpr (.inl z))).2
            rw [e] at this
            exact nm this
          · have := (R.rel.own0 a z).2
            rw [e] at this
            exact nm this
        refine ⟨fun a o s e => ?_, fun a xs e => F.k a _ e (notin a _ e (fun z => z.elim)), fun a o u e => F.k a _ e (notin a _ e (fun z => z.elim))⟩
        obtain ⟨s1, s2⟩ := (R.reg a).mp s
        have t1 : a ∉ gAd H gs := fun z => s1 (List.mem_append_left _ z)
        have t2 : a ∉ own := fun z => s1 (List.mem_append_right _ z)
        have t3 : a ∉ gA1 H g0 ++ own := fun z => (List.mem_append.mp z).elim (fun z => t1 ((m1 a).mpr (.inl z))) t2
        have t4 : a ∉ own2 := fun z => (F.n a z).elim t3 fun z => by rw [e] at z; cases z
        refine ⟨⟨fun z => t4 ((own3 a).mp z).1, ?_⟩, F.k a o e t3⟩
        rw [g2 a (fun z => t4 (hA2 a z)) fun z => t1 ((m1 a).mpr (.inr z))]
        exact s2
      · rw [hsame x (hx.elim (fun z => z ▸ w1) (w2 x)), hu]
  · refine ⟨fun a o h1 h2 => ?_, fun a hm => ?_⟩
    · have h3 : a ∉ gAd H gs ++ own := fun m => (R.fr.n a m).elim h2 fun z => by rw [h1] at z; cases z
      refine F.k a o (R.fr.k a o h1 h2) fun m => ?_
      rcases List.mem_append.mp m with m | m
      · exact h3 (List.mem_append_left _ ((m1 a).mpr (.inl m)))
      · exact h3 (List.mem_append_right _ m)
    · have back : a ∈ own2 → a ∈ ownB ∨ HB a = none := fun m => by
        rcases F.n a m with z | z
        · rcases List.mem_append.mp z with z | z
          · exact R.fr.n a (List.mem_append_left _ ((m1 a).mpr (.inl z)))
          · exact R.fr.n a (List.mem_append_right _ z)
        · by_cases hb : a ∈ ownB
          · exact .inl hb
          · right
            cases e : HB a with
            | none => rfl
            | some u => rw [R.fr.k a u e hb] at z; cases z
      rcases List.mem_append.mp hm with m | m
      · rcases (mem2 a).mp m with m | m
        · exact back (hA2 a m)
        · exact R.fr.n a (List.mem_append_left _ ((m1 a).mpr (.inr m)))
      · exact back ((own3 a).mp m).1
end
end VL
set_option Elab.async false
set_option linter.all false
set_option maxRecDepth 100000
/-! VO49: statements over objects that no name names. -/
namespace VL
open PySem L2 PySem.Spec PyProof.Rows
inductive RGh where
  | nx (gs : List D) (ρ : Rho) | rt (b : Bool) | er
section
variable (X : Cx) (H0 : Hp) (ownB : List Addr) (HB : Hp)
def PSG (D : Ends) : RGh → Prop
  | .nx gs ρ => ∀ σ' own' H', RelG X.K H0 ownB HB gs ρ σ' own' H' → D.nx σ' H'
  | .rt b => ∀ own' H', Fra ownB HB own' H' → D.rt (.bl b) H'
  | .er => False
end
structure VZ (X : Cx) (H0 : Hp) (st : Stmt) (f : List D → Rho → RGh) : Prop where
  p : ∃ ts, PS X st ts ∧ ∀ ownB HB gs ρ σ own H D, RelG X.K H0 ownB HB gs ρ σ own H → PSG X H0 ownB HB D (f gs ρ) → ts D σ H
structure VZs (X : Cx) (H0 : Hp) (st : List Stmt) (f : List D → Rho → RGh) : Prop where
  p : ∃ ts, PSs X st ts ∧ ∀ ownB HB gs ρ σ own H D, RelG X.K H0 ownB HB gs ρ σ own H → PSG X H0 ownB HB D (f gs ρ) → ts D σ H
section
variable {K : PySem.W.Frag} {H0 HB H H' : Hp} {ownB own own' : List Addr} {gs : List D} {ρ ρ' : Rho} {σ σ' : Sg}
end
theorem RelG.base {K : PySem.W.Frag} {H0 HB HC H : Hp} {ownB ownC own : List Addr} {gs : List D} {ρ : Rho} {σ : Sg} (F : Fra ownB HB ownC HC) (R : RelG K H0 ownC HC gs ρ σ own H) : RelG K H0 ownB HB gs ρ σ own H := ⟨R.rel, R.nd, R.nw, R.gh, F.trans R.fr⟩
theorem PSG.base {X : Cx} {H0 HB HC : Hp} {ownB ownC : List Addr} {D : Ends} {r : RGh} (F : Fra ownB HB ownC HC) (k : PSG X H0 ownB HB D r) : PSG X H0 ownC HC D r := by
  cases r with
  | nx gs ρ => exact fun σ' own' H' R => k σ' own' H' (R.base F)
  | rt b => exact fun own' H' F' => k own' H' (F.trans F')
  | er => exact k
section
variable {X : Cx} {W : WX} {H0 : Hp} {rm : Md} {st : Stmt} {sts body : List Stmt} {f : Rho → Res} {g fz gz : List D → Rho → RGh} {pos : Pos} {tg iter : Expr} {ks : List Nat} {fi : Rho → M (List D)} {ft : D → Rho → Option Rho} {fb : List D → Rho → RGh}
/-! ### for -/
end
/-! ### expressions that read the objects -/
section
variable (X : Cx) (H0 : Hp)
def PXz (H : Hp) (Q : VK) : M D → Prop
  | .ok d => ∀ v H', Same H H' → Rp X.K (fun _ => True) H' v d → Q v H'
  | _ => False
def PAz (H : Hp) (Q : List V → Hp → Prop) : M (List D) → Prop
  | .ok ds => ∀ vs H', Same H H' → RpA X.K (fun _ => True) H' vs ds → Q vs H'
  | _ => False
def PTz (H : Hp) (Q : Bool → Hp → Prop) : M Bool → Prop
  | .ok b => ∀ H', Same H H' → Q b H'
  | _ => False
end
structure VXz (X : Cx) (H0 : Hp) (e : Expr) (f : List D → Rho → M D) : Prop where
  p : ∃ te, PE X e te ∧ ∀ ownB HB gs ρ σ own H Q, RelG X.K H0 ownB HB gs ρ σ own H → PXz X H Q (f gs ρ) → te σ H Q
structure VAz (X : Cx) (H0 : Hp) (es : List Expr) (f : List D → Rho → M (List D)) : Prop where
  p : ∃ te, PA X es te ∧ ∀ ownB HB gs ρ σ own H Q, RelG X.K H0 ownB HB gs ρ σ own H → PAz X H Q (f gs ρ) → te σ H Q
structure VTz (X : Cx) (H0 : Hp) (e : Expr) (f : List D → Rho → M Bool) : Prop where
  p : ∃ te, PT X e te ∧ ∀ ownB HB gs ρ σ own H Q, RelG X.K H0 ownB HB gs ρ σ own H → PTz H Q (f gs ρ) → te σ H Q
section
variable {X : Cx} {W : WX} {H0 : Hp} {m : Md} {e e2 : Expr} {es : List Expr} {pos p : Pos} {f fc : Rho → M D} {x : Str} {j k : Nat} {q : List D → M D} {fz gz : List D → Rho → M D} {fa : List D → Rho → M (List D)} {a b : List Stmt} {ft : List D → Rho → M Bool} {sa sb' : List D → Rho → RGh}
end
end VL
set_option Elab.async false
set_option linter.all false
set_option maxRecDepth 100000
/-! VO50: objects that no name names: one is changed; two are made into a list. -/
namespace VL
open PySem L2 PySem.Spec PyProof.Rows
section
variable (X : Cx) (H0 : Hp) (ownB : List Addr) (HB : Hp)
def PMz (ρ : Rho) (σ : Sg) (Q : VK) : Option (List D × Bool) → Prop
  | some (gs', b) => ∀ own' H', RelG X.K H0 ownB HB gs' ρ σ own' H' → Q (.bl b) H'
  | none => False
def PTZ (ρ : Rho) (σ : Sg) (Q : Bool → Hp → Prop) : Option (List D × Bool) → Prop
  | some (gs', b) => ∀ own' H', RelG X.K H0 ownB HB gs' ρ σ own' H' → Q b H'
  | none => False
end
structure VMz (X : Cx) (H0 : Hp) (e : Expr) (f : List D → Rho → Option (List D × Bool)) : Prop where
  p : ∃ te, PE X e te ∧ ∀ ownB HB gs ρ σ own H Q, RelG X.K H0 ownB HB gs ρ σ own H → PMz X H0 ownB HB ρ σ Q (f gs ρ) → te σ H Q
structure VTZ (X : Cx) (H0 : Hp) (e : Expr) (f : List D → Rho → Option (List D × Bool)) : Prop where
  p : ∃ te, PT X e te ∧ ∀ ownB HB gs ρ σ own H Q, RelG X.K H0 ownB HB gs ρ σ own H → PTZ X H0 ownB HB ρ σ Q (f gs ρ) → te σ H Q
section
variable {X : Cx} {W : WX} {H0 : Hp} {m mb : Md} {e e1 e2 : Expr} {es : List Expr} {pos p : Pos} {f1 fb : Rho → M D} {fa : Rho → M (List D)} {y : Str} {l k j : Nat} {G : List D → MO} {g : D → D → M D} {fm : List D → Rho → Option (List D × Bool)} {a b : List Stmt} {sa sb' : List D → Rho → RGh} {r : R2}
end
end VL
set_option Elab.async false
set_option linter.all false
set_option maxRecDepth 100000
/-! VO51: y = [C(args), C(args)]: two objects that the list alone names; a law that knows nothing of what its argument shares. -/
namespace VL
open PySem L2 PySem.Spec PyProof.Rows
section
variable {X : Cx} {W : WX} {H0 : Hp} {rm : Md} {k l j : Nat} {c y : Str} {G : List D → MO} {p p' pl pos pos' pos2 pos3 : Pos} {e e' : Expr} {es es' : List Expr} {sts : List Stmt} {fa fa' : Rho → M (List D)} {g : List D → Rho → RGh}
end
end VL
set_option Elab.async false
set_option linter.all false
set_option maxRecDepth 100000
/-! VO52: a law that knows nothing of what its argument shares: all is new; x, ys[i] = e. Printed in part by mkVO52.py. -/
namespace VL
open PySem L2 PySem.Spec PyProof.Rows
section
variable {P : Program} {w : World} {K : PySem.W.Frag} {mg : Str → Option Value} {base : Heap}
end
section
variable {X : Cx} {W : WX} {H0 : Hp} {rm mi : Md} {pos pos' pos2 : Pos} {e ei : Expr} {fe fi : Rho → M D}
end
end VL
set_option Elab.async false
set_option linter.all false
set_option maxRecDepth 100000
/-! VO53: own lists of what is no leaf, by a comprehension. Printed in part by mkVO53.py. -/
namespace VL
open PySem L2 PySem.Spec PyProof.Rows
section
variable {X : Cx} {W : WX} {S0 : Addr → Prop} {H0 : Hp} {m rm : Md} {pos spos py : Pos} {elt tg iter : Expr} {ifs : List Expr} {scope : Scope} {own : List (Str × Nat)} {k1 : List Nat} {i : Nat} {y : Str} {fi : Rho → M (List D)} {ft : D → Rho → Option Rho} {fc : Rho → M Bool} {fe : Rho → M D}
end
end VL
set_option Elab.async false
set_option linter.all false
set_option maxRecDepth 100000
/-! VO54: for .. in an own list, objects that no name names being asked: if test: return. -/
namespace VL
open PySem L2 PySem.Spec PyProof.Rows
section
variable {X : Cx} {W : WX} {H0 : Hp} {body : List Stmt} {pos pos2 : Pos} {tg iter test : Expr} {ks : List Nat} {fi : Rho → M (List D)} {ft : D → Rho → Option Rho} {fb : List D → Rho → RGh} {fc : List D → Rho → M Bool}
theorem RelG.only {K : PySem.W.Frag} {HB H : Hp} {ownB own : List Addr} {gs : List D} {ρ : Rho} {σ σ' : Sg} (R : RelG K H0 ownB HB gs ρ σ own H) (h : OnlyS ks σ σ') : RelG K H0 ownB HB gs (wipeR ks ρ) σ' own H := ⟨R.rel.only h, R.nd, R.nw, R.gh, R.fr⟩
end
end VL
set_option Elab.async false
set_option linter.all false
set_option maxRecDepth 100000
/-! VO55: a list of lists that a loop makes and fills, with the list of their marks: both hidden while the loop runs. -/
namespace VL
open PySem L2 PySem.Spec PyProof.Rows
def HidL (K : PySem.W.Frag) (H : Hp) : List Addr → List (List D) → Prop
  | [], [] => True
  | b :: bs, g :: gs => (∃ vs, H b = some (.lst vs) ∧ RpA K (fun _ => False) H vs g) ∧ HidL K H bs gs
  | _, _ => False
theorem HidL.keep {K : PySem.W.Frag} {H H' : Hp} (k : Keep (fun _ => False) (fun _ => False) H H') : ∀ {as : List Addr} {gs : List (List D)}, (∀ b, b ∈ as → H' b = H b) → HidL K H as gs → HidL K H' as gs
  | [], [], _, _ => trivial
  | [], _ :: _, _, h => h.elim
  | _ :: _, [], _, h => h.elim
  | b :: bs, g :: gs, e, h => by
    obtain ⟨⟨vs, h1, h2⟩, h3⟩ := h
    exact ⟨⟨vs, by rw [e b List.mem_cons_self]; exact h1, h2.keep k⟩, HidL.keep k (fun x hx => e x (List.mem_cons_of_mem _ hx)) h3⟩
theorem HidL.length {K : PySem.W.Frag} {H : Hp} : ∀ {as : List Addr} {gs : List (List D)}, HidL K H as gs → as.length = gs.length
  | [], [], _ => rfl
  | [], _ :: _, h => h.elim
  | _ :: _, [], h => h.elim
  | _ :: _, _ :: _, h => congrArg (· + 1) (HidL.length h.2)
theorem HidL.app {K : PySem.W.Frag} {H : Hp} {b : Addr} {g : List D} {vs : List V} (h1 : H b = some (.lst vs)) (h2 : RpA K (fun _ => False) H vs g) : ∀ {as : List Addr} {gs : List (List D)}, HidL K H as gs → HidL K H (as ++ [b]) (gs ++ [g])
  | [], [], _ => ⟨⟨vs, h1, h2⟩, trivial⟩
  | [], _ :: _, h => h.elim
  | _ :: _, [], h => h.elim
  | _ :: _, _ :: _, h => ⟨h.1, HidL.app h1 h2 h.2⟩
theorem HidL.get {K : PySem.W.Frag} {H : Hp} : ∀ {as : List Addr} {gs : List (List D)} {n : Nat} {g : List D}, HidL K H as gs → gs[n]? = some g → ∃ b vs, as[n]? = some b ∧ H b = some (.lst vs) ∧ RpA K (fun _ => False) H vs g
  | [], [], _, _, _, e => by simp at e
  | [], _ :: _, _, _, h, _ => h.elim
  | _ :: _, [], _, _, h, _ => h.elim
  | b :: _, g0 :: _, 0, g, h, e => by
    simp at e
    subst e
    obtain ⟨⟨vs, h1, h2⟩, _⟩ := h
    exact ⟨b, vs, rfl, h1, h2⟩
  | _ :: _, _ :: _, n + 1, g, h, e => by
    obtain ⟨b, vs, h1, h2⟩ := HidL.get h.2 (by simpa using e)
    exact ⟨b, vs, by simpa using h1, h2⟩
theorem HidL.chg {K : PySem.W.Frag} {H H' : Hp} {b : Addr} {g2 : List D} {vs : List V} (k : Keep (fun _ => False) (fun _ => False) H H') (h1 : H' b = some (.lst vs)) (h2 : RpA K (fun _ => False) H' vs g2) : ∀ {as : List Addr} {gs : List (List D)} {n : Nat}, as.Nodup → as[n]? = some b → (∀ x, x ∈ as → x ≠ b → H' x = H x) → HidL K H as gs → HidL K H' as (gs.set n g2)
  | [], [], _, _, _, _, _ => trivial
  | [], _ :: _, _, _, _, _, h => h.elim
  | _ :: _, [], _, _, _, _, h => h.elim
  | c :: as, g :: gs, 0, nd, e, same, h => by
    simp at e
    subst e
    obtain ⟨n1, n2⟩ := List.nodup_cons.mp nd
    exact ⟨⟨vs, h1, h2⟩, HidL.keep k (fun x hx => same x (List.mem_cons_of_mem _ hx) fun z => n1 (z ▸ hx)) h.2⟩
  | c :: as, g :: gs, n + 1, nd, e, same, h => by
    obtain ⟨n1, n2⟩ := List.nodup_cons.mp nd
    have e : as[n]? = some b := by simpa using e
    obtain ⟨⟨us, q1, q2⟩, q3⟩ := h
    exact ⟨⟨us, by rw [same c List.mem_cons_self fun z => n1 (z ▸ List.mem_of_getElem? e)]; exact q1, q2.keep k⟩, HidL.chg k h1 h2 n2 e (fun x hx => same x (List.mem_cons_of_mem _ hx)) q3⟩
theorem HidL.rp {K : PySem.W.Frag} {S : Addr → Prop} {H : Hp} : ∀ {as : List Addr} {gs : List (List D)}, (∀ b, b ∈ as → S b) → HidL K H as gs → RpA K S H (as.map V.ref) (gs.map D.lst)
  | [], [], _, _ => .nil
  | [], _ :: _, _, h => h.elim
  | _ :: _, [], _, h => h.elim
  | b :: _, _ :: _, hS, h => by
    obtain ⟨⟨vs, h1, h2⟩, h3⟩ := h
    exact .cons (.lst (hS b List.mem_cons_self) h1 (h2.keep (.wide fun _ z => z.elim))) (HidL.rp (fun x hx => hS x (List.mem_cons_of_mem _ hx)) h3)
section
variable {K : PySem.W.Frag} {S0 : Addr → Prop} {H0 H H' : Hp} {ρ ρ' : Rho} {σ σ' : Sg} {own own' : List Addr} {x a f : Addr} {as : List Addr} {gs : List (List D)} {fs : List D} {o : HO}
/-- a cell of one's own that is in no slot -/
theorem Rel.updH (R : Rel K S0 H0 ρ σ own H) (hx : x ∈ own) (hoff : ∀ (k : Nat) (d : D) (p : Addr), ρ[k]? = some (.ow d) → σ[k]? = some (some (.ref p)) → x ≠ p ∧ x ∉ sb H p) (mo : Mt (some o)) : Rel K S0 H0 ρ σ own (upd H x o) ∧ Fra own H own (upd H x o) := by
  have F : Fra own H own (upd H x o) := ⟨fun b u e hn => by rw [upd_ne (fun z => hn (by rw [z]; exact hx))]; exact e, fun _ h => .inl h⟩
  have sbe : ∀ (k : Nat) (d : D) (p : Addr), ρ[k]? = some (.ow d) → σ[k]? = some (some (.ref p)) → sb (upd H x o) p = sb H p := fun k d p h1 h2 => sb_eq (upd_ne (Ne.symm (hoff k d p h1 h2).1))
  refine ⟨⟨fun i d e => ?_, fun i d e => ?_, fun i d e => ?_, R.dis, fun i d p e1 e2 y hy => ?_, fun b hm => ⟨(R.own0 b hm).1, ?_⟩, fun b u e => ?_, R.len⟩, F⟩
  · obtain ⟨v, h1, h2⟩ := R.sh i d e
    exact ⟨v, h1, h2.keep (F.keepA R.own0)⟩
  · obtain ⟨v, h1, h2⟩ := R.fr i d e
    exact ⟨v, h1, h2.keep (F.keepF R.own0)⟩
  · obtain ⟨p, h1, h2, h3⟩ := R.ow i d e
    obtain ⟨n1, n2⟩ := hoff i d p e h1
    exact ⟨p, h1, h2, h3.keep (F.keepF R.own0) fun y hy u hu => by
      rw [upd_ne (fun z => by
        subst z
        exact hy.elim (fun w => n1 w) n2)]
      exact hu⟩
  · rw [sbe i d p e1 e2] at hy
    obtain ⟨g1, g2⟩ := R.sub i d p e1 e2 y hy
    refine ⟨g1, fun k e b h1 h2 => ?_⟩
    rw [sbe k e b h1 h2]
    exact g2 k e b h1 h2
  · by_cases z : b = x
    · rw [z, upd_same]; exact mo
    · rw [upd_ne z]; exact (R.own0 b hm).2
  · rw [upd_ne]
    · exact R.same b u e
    · intro z
      rw [z, (R.own0 x hx).1] at e
      cases e
theorem ne_in {x y : Addr} {l : List Addr} (h : x ∉ l) (hy : y ∈ l) : x ≠ y := fun e => h (e ▸ hy)
theorem ne_in' {x y : Addr} {l : List Addr} (h : x ∉ l) (hy : y ∈ l) : y ≠ x := fun e => h (e ▸ hy)
structure Hid (K : PySem.W.Frag) (S0 : Addr → Prop) (H0 : Hp) (a f : Addr) (as : List Addr) (gs : List (List D)) (fs : List D) (ρ : Rho) (σ : Sg) (own : List Addr) (H : Hp) : Prop where
  rel : Rel K S0 H0 ρ σ own H
  nd : (a :: f :: as).Nodup
  ow : ∀ x, x ∈ a :: f :: as → x ∈ own
  off : ∀ (k : Nat) (d : D) (p : Addr), ρ[k]? = some (.ow d) → σ[k]? = some (some (.ref p)) → ∀ x, x ∈ a :: f :: as → x ≠ p ∧ x ∉ sb H p
  top : H a = some (.lst (as.map V.ref))
  fm : ∃ vs, H f = some (.lst vs) ∧ RpA K (SA S0 H0 own) H vs fs
  ls : HidL K H as gs
theorem Rel.sbS (R : Rel K S0 H0 ρ σ own H) (s : Same H H') {k : Nat} {d : D} {p : Addr} (h1 : ρ[k]? = some (.ow d)) (h2 : σ[k]? = some (some (.ref p))) : sb H' p = sb H p := by
  obtain ⟨q, g1, g2, _⟩ := R.ow k d h1
  rw [h2] at g1
  cases g1
  obtain ⟨u, eu⟩ := mt_some (R.own0 p g2).2
  exact sb_eq (by rw [eu, s p u eu])
theorem keepN_of (h : Keep (SA S0 H0 own) (SA S0 H0 own) H H') : Keep (fun _ => False) (fun _ => False) H H' := ⟨fun _ _ z _ => z.elim, h.t, h.z⟩
theorem Hid.grow (R : Hid K S0 H0 a f as gs fs ρ σ own H) (s : Same H H') : Hid K S0 H0 a f as gs fs ρ σ own H' := by
  obtain ⟨vs, h1, h2⟩ := R.fm
  refine ⟨R.rel.grow s, R.nd, R.ow, fun k d p e1 e2 x hx => ?_, s _ _ R.top, ⟨vs, s _ _ h1, h2.keep (.same s)⟩, R.ls.keep (.same s) fun b hb => ?_⟩
  · rw [R.rel.sbS s e1 e2]
    exact R.off k d p e1 e2 x hx
  · obtain ⟨u, e⟩ := mt_some (R.rel.own0 b (R.ow b (List.mem_cons_of_mem _ (List.mem_cons_of_mem _ hb)))).2
    rw [e, s b u e]
/-- the slots change -/
theorem Hid.slots (R : Hid K S0 H0 a f as gs fs ρ σ own H) (R' : Rel K S0 H0 ρ' σ' own H) (h : ∀ (k : Nat) (d : D) (p : Addr), ρ'[k]? = some (.ow d) → σ'[k]? = some (some (.ref p)) → ∃ (k2 : Nat) (d2 : D), ρ[k2]? = some (.ow d2) ∧ σ[k2]? = some (some (.ref p))) : Hid K S0 H0 a f as gs fs ρ' σ' own H :=
  ⟨R', R.nd, R.ow, fun k d p e1 e2 x hx => by
    obtain ⟨k2, d2, g1, g2⟩ := h k d p e1 e2
    exact R.off k2 d2 p g1 g2 x hx, R.top, R.fm, R.ls⟩
theorem Hid.off1 (R : Hid K S0 H0 a f as gs fs ρ σ own H) (hx : x ∈ a :: f :: as) : ∀ (k : Nat) (d : D) (p : Addr), ρ[k]? = some (.ow d) → σ[k]? = some (some (.ref p)) → x ≠ p ∧ x ∉ sb H p := fun k d p e1 e2 => R.off k d p e1 e2 x hx
theorem Hid.offU (R : Hid K S0 H0 a f as gs fs ρ σ own H) (hx : x ∈ a :: f :: as) : ∀ (k : Nat) (d : D) (p : Addr), ρ[k]? = some (.ow d) → σ[k]? = some (some (.ref p)) → ∀ y, y ∈ a :: f :: as → y ≠ p ∧ y ∉ sb (upd H x o) p := fun k d p e1 e2 y hy => by
  rw [sb_eq (upd_ne (Ne.symm (R.off k d p e1 e2 x hx).1))]
  exact R.off k d p e1 e2 y hy
/-- the marks change -/
theorem Hid.chgF (R : Hid K S0 H0 a f as gs fs ρ σ own H) {vs' : List V} {fs' : List D} (r : RpA K (SA S0 H0 own) H vs' fs') : Hid K S0 H0 a f as gs fs' ρ σ own (upd H f (.lst vs')) ∧ Fra own H own (upd H f (.lst vs')) := by
  have hf : f ∈ a :: f :: as := List.mem_cons_of_mem _ List.mem_cons_self
  obtain ⟨R2, F⟩ := R.rel.updH (o := .lst vs') (R.ow f hf) (R.off1 hf) trivial
  have k := F.keepA (S0 := S0) R.rel.own0
  have nd := R.nd
  rw [List.nodup_cons, List.nodup_cons] at nd
  refine ⟨⟨R2, R.nd, R.ow, R.offU hf, ?_, ⟨vs', upd_same, r.keep k⟩, R.ls.keep (keepN_of k) fun b hb => upd_ne (ne_in' nd.2.1 hb)⟩, F⟩
  rw [upd_ne (ne_in nd.1 List.mem_cons_self)]
  exact R.top
/-- one of the lists changes -/
theorem Hid.chgG (R : Hid K S0 H0 a f as gs fs ρ σ own H) {n : Nat} {b : Addr} {vs' : List V} {g' : List D} (hb : as[n]? = some b) (r : RpA K (fun _ => False) H vs' g') : Hid K S0 H0 a f as (gs.set n g') fs ρ σ own (upd H b (.lst vs')) ∧ Fra own H own (upd H b (.lst vs')) := by
  have hbm := List.mem_of_getElem? hb
  have hx : b ∈ a :: f :: as := List.mem_cons_of_mem _ (List.mem_cons_of_mem _ hbm)
  obtain ⟨R2, F⟩ := R.rel.updH (o := .lst vs') (R.ow b hx) (R.off1 hx) trivial
  have k := F.keepA (S0 := S0) R.rel.own0
  have nd := R.nd
  rw [List.nodup_cons, List.nodup_cons] at nd
  obtain ⟨us, h1, h2⟩ := R.fm
  refine ⟨⟨R2, R.nd, R.ow, R.offU hx, ?_, ⟨us, ?_, h2.keep k⟩, HidL.chg (keepN_of k) upd_same (r.keep (keepN_of k)) nd.2.2 hb (fun x hx hne => upd_ne hne) R.ls⟩, F⟩
  · rw [upd_ne (ne_in nd.1 (List.mem_cons_of_mem _ hbm))]
    exact R.top
  · rw [upd_ne (ne_in nd.2.1 hbm)]
    exact h1
/-- a further list: it has been made, and is put at the end -/
theorem Hid.addG (R : Hid K S0 H0 a f as gs fs ρ σ own H) {b : Addr} {vs : List V} {g : List D} (hb : H b = none) (r : RpA K (fun _ => False) H vs g) : Hid K S0 H0 a f (as ++ [b]) (gs ++ [g]) fs ρ σ (b :: own) (upd (upd H b (.lst vs)) a (.lst ((as ++ [b]).map V.ref))) ∧ Fra own H (b :: own) (upd (upd H b (.lst vs)) a (.lst ((as ++ [b]).map V.ref))) := by
  have s1 : Same H (upd H b (.lst vs)) := same_upd hb
  have new : ∀ x, x ∈ own → x ≠ b := fun x hx z => by
    obtain ⟨u, e⟩ := mt_some (R.rel.own0 x hx).2
    rw [z, hb] at e
    cases e
  have bo : b ∉ a :: f :: as := fun z => new b (R.ow b z) rfl
  have R1 := R.grow s1
  have RP : Rel K S0 H0 ρ σ (b :: own) (upd H b (.lst vs)) := R.rel.plus s1 hb (by rw [upd_same]; trivial)
  have ha : a ∈ b :: own := List.mem_cons_of_mem _ (R.ow a List.mem_cons_self)
  have hab : a ≠ b := new a (R.ow a List.mem_cons_self)
  obtain ⟨R2, F2⟩ := RP.updH (o := .lst ((as ++ [b]).map V.ref)) ha (R1.off1 List.mem_cons_self) trivial
  have F1 : Fra own H (b :: own) (upd H b (.lst vs)) := ⟨fun x o e _ => s1 x o e, fun x hm => (List.mem_cons.mp hm).elim (fun z => .inr (by rw [z]; exact hb)) .inl⟩
  have k1 := F1.keepA (S0 := S0) R.rel.own0
  have k2 := F2.keepA (S0 := S0) RP.own0
  have nd := R.nd
  rw [List.nodup_cons, List.nodup_cons] at nd
  obtain ⟨n1, n2, n3⟩ := nd
  obtain ⟨us, h1, h2⟩ := R.fm
  have mem : ∀ x, x ∈ a :: f :: (as ++ [b]) → x ∈ a :: f :: as ∨ x = b := fun x hx => by
    simp only [List.mem_cons, List.mem_append, List.not_mem_nil, or_false] at hx ⊢
    rcases hx with h | h | h | h
    · exact .inl (.inl h)
    · exact .inl (.inr (.inl h))
    · exact .inl (.inr (.inr h))
    · exact .inr h
  refine ⟨⟨R2, ?_, fun x hx => ?_, fun k d p e1 e2 x hx => ?_, upd_same, ⟨us, ?_, (h2.keep k1).keep k2⟩, ?_⟩, F1.trans F2⟩
  · rw [List.nodup_cons, List.nodup_cons, List.nodup_append]
    refine ⟨fun z => ?_, fun z => ?_, n3, by simp, fun x hx y hy e => ?_⟩
    · simp only [List.mem_cons, List.mem_append, List.not_mem_nil, or_false] at z
      rcases z with h | h | h
      · exact n1 (h ▸ List.mem_cons_self)
      · exact n1 (List.mem_cons_of_mem _ h)
      · exact hab h
    · simp only [List.mem_append, List.mem_cons, List.not_mem_nil, or_false] at z
      rcases z with h | h
      · exact n2 h
      · exact bo (by rw [← h]; exact List.mem_cons_of_mem _ List.mem_cons_self)
    · rw [List.mem_singleton] at hy
      exact bo (by rw [← hy, ← e]; exact List.mem_cons_of_mem _ (List.mem_cons_of_mem _ hx))
  · rcases mem x hx with h | h
    · exact List.mem_cons_of_mem _ (R.ow x h)
    · rw [h]; exact List.mem_cons_self
  · have pa : p ≠ a := Ne.symm (R.off k d p e1 e2 a List.mem_cons_self).1
    rw [sb_eq (upd_ne pa)]
    rcases mem x hx with h | h
    · exact R1.off k d p e1 e2 x h
    · subst h
      obtain ⟨q, g1, g2, g3⟩ := R.rel.ow k d e1
      rw [e2] at g1
      cases g1
      refine ⟨fun z => new p g2 z.symm, fun z => ?_⟩
      rw [R.rel.sbS s1 e1 e2] at z
      exact new x (R.rel.sub k d p e1 e2 x z).1 rfl
  · have hf := R.ow f (List.mem_cons_of_mem _ List.mem_cons_self)
    rw [upd_ne (ne_in' n1 List.mem_cons_self), upd_ne (new f hf)]
    exact h1
  · refine HidL.app (b := b) (vs := vs) ?_ ((r.keep (.same s1)).keep (keepN_of k2)) (HidL.keep (keepN_of k2) (fun x hx => ?_) (R1.ls))
    · rw [upd_ne (Ne.symm hab), upd_same]
    · rw [upd_ne (ne_in' n1 (List.mem_cons_of_mem _ hx))]
/-- the marks seen as shared -/
theorem Hid.view (R : Hid K S0 H0 a f as gs fs ρ σ own H) {j : Nat} (hj : ρ[j]? = some .no) (hs : σ[j]? = some (some (.ref f))) : Rel K S0 H0 (ρ.set j (.sh (.lst fs))) σ (own.filter fun x => decide (x ≠ f)) H := by
  have F : Fra own H (own.filter fun x => decide (x ≠ f)) H := ⟨fun _ _ e _ => e, fun b hm => .inl (List.mem_filter.mp hm).1⟩
  have kA := F.keepA (S0 := S0) R.rel.own0
  have kF := F.keepF R.rel.own0
  have hf : f ∈ a :: f :: as := List.mem_cons_of_mem _ List.mem_cons_self
  have hfo := R.ow f hf
  obtain ⟨vs, h1, h2⟩ := R.fm
  have old : ∀ {k : Nat} {s : Sl}, (ρ.set j (.sh (.lst fs)))[k]? = some s → (k = j ∧ s = .sh (.lst fs)) ∨ ρ[k]? = some s := fun {k s} e => by
    rcases get_set e with ⟨h, z, _⟩ | ⟨_, z⟩
    · exact .inl ⟨h.symm ▸ rfl, z⟩
    · exact .inr z
  have oldo : ∀ {k : Nat} {d : D}, (ρ.set j (.sh (.lst fs)))[k]? = some (.ow d) → ρ[k]? = some (.ow d) := fun {k d} e => (old e).elim (fun z => by cases z.2) id
  refine ⟨fun k d e => ?_, fun k d e => ?_, fun k d e => ?_, fun k l d e h1 h2 q => R.rel.dis k l d e (oldo h1) (oldo h2) q, fun k d b h1 h2 x hx => ?_, fun b hm => R.rel.own0 b (List.mem_filter.mp hm).1, R.rel.same, by rw [List.length_set]; exact R.rel.len⟩
  · rcases old e with ⟨rfl, z⟩ | z
    · cases z
      exact ⟨_, hs, .lst ⟨fun hm => by simpa using (List.mem_filter.mp hm).2, .inr (R.rel.own0 f hfo).1⟩ h1 (h2.keep kA)⟩
    · obtain ⟨v, g1, g2⟩ := R.rel.sh k d z
      exact ⟨v, g1, g2.keep kA⟩
  · rcases old e with ⟨rfl, z⟩ | z
    · cases z
    · obtain ⟨v, g1, g2⟩ := R.rel.fr k d z
      exact ⟨v, g1, g2.keep kF⟩
  · obtain ⟨p, g1, g2, g3⟩ := R.rel.ow k d (oldo e)
    exact ⟨p, g1, List.mem_filter.mpr ⟨g2, by simpa using Ne.symm (R.off k d p (oldo e) g1 f hf).1⟩, g3.keep kF fun _ _ _ e => e⟩
  · obtain ⟨g1, g2⟩ := R.rel.sub k d b (oldo h1) h2 x hx
    exact ⟨List.mem_filter.mpr ⟨g1, by simpa using fun z : x = f => (R.off k d b (oldo h1) h2 f hf).2 (z ▸ hx)⟩, fun l e b' h3 h4 => g2 l e b' (oldo h3) h4⟩
/-- at the end the list of lists is given -/
theorem Hid.out (R : Hid K S0 H0 a f as gs fs ρ σ own H) {i : Nat} (hi : ρ[i]? = some .no) (hs : σ[i]? = some (some (.ref a))) : ∃ own', Rel K S0 H0 (ρ.set i (.fr (.lst (gs.map D.lst)))) σ own' H ∧ Fra own H own' H := by
  have F : Fra own H (own.filter fun x => decide (x ∉ a :: as)) H := ⟨fun _ _ e _ => e, fun b hm => .inl (List.mem_filter.mp hm).1⟩
  have kA := F.keepA (S0 := S0) R.rel.own0
  have kF := F.keepF R.rel.own0
  have sub : ∀ x, x ∈ a :: as → x ∈ a :: f :: as := fun x hx => (List.mem_cons.mp hx).elim (fun z => z ▸ List.mem_cons_self) fun z => List.mem_cons_of_mem _ (List.mem_cons_of_mem _ z)
  have old : ∀ {k : Nat} {s : Sl}, (ρ.set i (.fr (.lst (gs.map D.lst))))[k]? = some s → (k = i ∧ s = .fr (.lst (gs.map D.lst))) ∨ ρ[k]? = some s := fun {k s} e => by
    rcases get_set e with ⟨h, z, _⟩ | ⟨_, z⟩
    · exact .inl ⟨h.symm ▸ rfl, z⟩
    · exact .inr z
  have oldo : ∀ {k : Nat} {d : D}, (ρ.set i (.fr (.lst (gs.map D.lst))))[k]? = some (.ow d) → ρ[k]? = some (.ow d) := fun {k d} e => (old e).elim (fun z => by cases z.2) id
  have inF : ∀ x, x ∈ own → x ∉ a :: as → x ∈ own.filter fun x => decide (x ∉ a :: as) := fun x h1 h2 => List.mem_filter.mpr ⟨h1, decide_eq_true h2⟩
  have reg : ∀ x, x ∈ a :: as → SF H0 (own.filter fun x => decide (x ∉ a :: as)) x := fun x hx => ⟨fun hm => of_decide_eq_true (List.mem_filter.mp hm).2 hx, (R.rel.own0 x (R.ow x (sub x hx))).1⟩
  refine ⟨_, ⟨fun k d e => ?_, fun k d e => ?_, fun k d e => ?_, fun k l d e h1 h2 q => R.rel.dis k l d e (oldo h1) (oldo h2) q, fun k d b h1 h2 x hx => ?_, fun b hm => R.rel.own0 b (List.mem_filter.mp hm).1, R.rel.same, by rw [List.length_set]; exact R.rel.len⟩, F⟩
  · rcases old e with ⟨rfl, z⟩ | z
    · cases z
    · obtain ⟨v, g1, g2⟩ := R.rel.sh k d z
      exact ⟨v, g1, g2.keep kA⟩
  · rcases old e with ⟨rfl, z⟩ | z
    · cases z
      exact ⟨_, hs, .lst (reg a List.mem_cons_self) R.top (HidL.rp (fun b hb => reg b (List.mem_cons_of_mem _ hb)) R.ls)⟩
    · obtain ⟨v, g1, g2⟩ := R.rel.fr k d z
      exact ⟨v, g1, g2.keep kF⟩
  · obtain ⟨p, g1, g2, g3⟩ := R.rel.ow k d (oldo e)
    exact ⟨p, g1, inF p g2 fun z => (R.off k d p (oldo e) g1 p (sub p z)).1 rfl, g3.keep kF fun _ _ _ e => e⟩
  · obtain ⟨g1, g2⟩ := R.rel.sub k d b (oldo h1) h2 x hx
    exact ⟨inF x g1 fun z => (R.off k d b (oldo h1) h2 x (sub x z)).2 hx, fun l e b' h3 h4 => g2 l e b' (oldo h3) h4⟩
end
end VL
set_option Elab.async false
set_option linter.all false
set_option maxRecDepth 100000
/-! VO56: the statements of a loop that makes and fills a list of lists. -/
namespace VL
open PySem L2 PySem.Spec PyProof.Rows
abbrev QF := List (List D) → List D → Rho → Option (List (List D) × List D × Rho)
structure RelQ (K : PySem.W.Frag) (S0 : Addr → Prop) (H0 : Hp) (i j : Nat) (ownB : List Addr) (HB : Hp) (gs : List (List D)) (fs : List D) (ρ : Rho) (σ : Sg) (own : List Addr) (H : Hp) : Prop where
  p : ∃ (a f : Addr) (as : List Addr), Hid K S0 H0 a f as gs fs ρ σ own H ∧ ρ[i]? = some .no ∧ ρ[j]? = some .no ∧ σ[i]? = some (some (.ref a)) ∧ σ[j]? = some (some (.ref f))
  fr : Fra ownB HB own H
theorem RelQ.base {K : PySem.W.Frag} {S0 : Addr → Prop} {H0 : Hp} {i j : Nat} {ownB ownC : List Addr} {HB HC : Hp} {gs : List (List D)} {fs : List D} {ρ : Rho} {σ : Sg} {own : List Addr} {H : Hp} (F : Fra ownB HB ownC HC) (R : RelQ K S0 H0 i j ownC HC gs fs ρ σ own H) : RelQ K S0 H0 i j ownB HB gs fs ρ σ own H := ⟨R.p, F.trans R.fr⟩
section
variable (X : Cx) (S0 : Addr → Prop) (H0 : Hp) (i j : Nat) (ownB : List Addr) (HB : Hp)
def PSQ (D : Ends) : Option (List (List VL.D) × List VL.D × Rho) → Prop
  | some (gs, fs, ρ) => ∀ σ' own' H', RelQ X.K S0 H0 i j ownB HB gs fs ρ σ' own' H' → D.nx σ' H'
  | none => False
end
theorem PSQ.base {X : Cx} {S0 : Addr → Prop} {H0 : Hp} {i j : Nat} {ownB ownC : List Addr} {HB HC : Hp} {D : Ends} {r : Option (List (List VL.D) × List VL.D × Rho)} (F : Fra ownB HB ownC HC) (k : PSQ X S0 H0 i j ownB HB D r) : PSQ X S0 H0 i j ownC HC D r := by
  cases r with
  | none => exact k
  | some t => exact fun σ' own' H' R => k σ' own' H' (R.base F)
structure VQ1 (X : Cx) (S0 : Addr → Prop) (H0 : Hp) (i j : Nat) (st : Stmt) (f : QF) : Prop where
  p : ∃ ts, PS X st ts ∧ ∀ ownB HB gs fs ρ σ own H D, RelQ X.K S0 H0 i j ownB HB gs fs ρ σ own H → PSQ X S0 H0 i j ownB HB D (f gs fs ρ) → ts D σ H
structure VQ1s (X : Cx) (S0 : Addr → Prop) (H0 : Hp) (i j : Nat) (st : List Stmt) (f : QF) : Prop where
  p : ∃ ts, PSs X st ts ∧ ∀ ownB HB gs fs ρ σ own H D, RelQ X.K S0 H0 i j ownB HB gs fs ρ σ own H → PSQ X S0 H0 i j ownB HB D (f gs fs ρ) → ts D σ H
def nilQ : QF := fun gs fs ρ => some (gs, fs, ρ)
def seqQ (f g : QF) : QF := fun gs fs ρ => match f gs fs ρ with
  | some (gs', fs', ρ') => g gs' fs' ρ'
  | none => none
def sIfQ (j : Nat) (fc : Rho → M Bool) (f g : QF) : QF := fun gs fs ρ => match fc (ρ.set j (.sh (.lst fs))) with
  | .ok true => f gs fs ρ
  | .ok false => g gs fs ρ
  | _ => none
/-- fs.append(e) -/
def sAppQ (fa : Rho → M (List D)) : QF := fun gs fs ρ => match fa ρ with
  | .ok as => (match appE fs as with
    | .ok fs' => some (gs, fs', ρ)
    | _ => none)
  | _ => none
/-- gs.append([..]) -/
def sNewQ (fa : Rho → M (List D)) : QF := fun gs fs ρ => match fa ρ with
  | .ok as => if lfA as = true ∧ as.length ≤ sizeLine ∧ gs.length < sizeLine then some (gs ++ [as], fs, ρ) else none
  | _ => none
/-- gs[e].append(x) -/
def sPutQ (j : Nat) (fi : Rho → M D) (fa : Rho → M (List D)) : QF := fun gs fs ρ => match fi (ρ.set j (.sh (.lst fs))), fa ρ with
  | .ok (.int n), .ok [x] => if 0 ≤ n ∧ n < gs.length ∧ n < 2 ^ 62 ∧ lf x = true then (match gs[n.toNat]? with
    | some g => if g.length < sizeLine then some (gs.set n.toNat (g ++ [x]), fs, ρ) else none
    | none => none) else none
  | _, _ => none
def forQ (ks : List Nat) (tg : D → Rho → Option Rho) (fb : QF) : List D → QF
  | [] => fun gs fs ρ => some (gs, fs, ρ)
  | d :: ds => fun gs fs ρ => match tg d ρ with
    | some ρ1 => (match fb gs fs ρ1 with
      | some (gs', fs', ρ2) => forQ ks tg fb ds gs' fs' (wipeR ks ρ2)
      | none => none)
    | none => none
/-- the target's slots are none of the hidden ones -/
def sForQ (i j : Nat) (ks : List Nat) (fi : Rho → M (List D)) (tg : D → Rho → Option Rho) (fb : QF) : QF := fun gs fs ρ => if i ∉ ks ∧ j ∉ ks then (match fi ρ with
  | .ok ds => forQ ks tg fb ds gs fs ρ
  | _ => none) else none
section
variable {X : Cx} {W : WX} {S0 : Addr → Prop} {H0 : Hp} {i j : Nat} {rm m : Md} {st : Stmt} {sts body a b : List Stmt} {f g fb : QF} {pos p px apos cpos pl : Pos} {tg iter e e1 : Expr} {es : List Expr} {ks : List Nat} {fi : Rho → M D} {fit : Rho → M (List D)} {fa : Rho → M (List D)} {fc : Rho → M Bool} {ft : D → Rho → Option Rho} {x y : Str}
theorem vqs_nil : VQ1s X S0 H0 i j [] nilQ := ⟨_, pss_nil, fun ownB HB gs fs ρ σ own H D R k => k σ own H R⟩
theorem vqs_cons (h : VQ1 X S0 H0 i j st f) (h2 : VQ1s X S0 H0 i j sts g) : VQ1s X S0 H0 i j (st :: sts) (seqQ f g) := by
  obtain ⟨t, p, q⟩ := h.p
  obtain ⟨t2, p2, q2⟩ := h2.p
  refine ⟨_, pss_cons p p2, fun ownB HB gs fs ρ σ own H D R k => q ownB HB gs fs ρ σ own H _ R ?_⟩
  unfold seqQ at k
  revert k
  cases f gs fs ρ with
  | none => exact id
  | some t => exact fun k σ' own' H' R' => q2 ownB HB t.1 t.2.1 t.2.2 σ' own' H' D R' k
theorem vqs_one (h : VQ1 X S0 H0 i j st f) : VQ1s X S0 H0 i j [st] f := by
  obtain ⟨t, p, q⟩ := h.p
  exact ⟨_, pss_one p, q⟩
theorem vq_if (hc : VT X (fun _ _ _ _ => False) S0 H0 e fc) (ha : VQ1s X S0 H0 i j a f) (hb : VQ1s X S0 H0 i j b g) : VQ1 X S0 H0 i j (.If e a b pos) (sIfQ j fc f g) := by
  obtain ⟨tc, pc, qc⟩ := hc.p
  obtain ⟨ta, pa, qa⟩ := ha.p
  obtain ⟨tb, pb, qb⟩ := hb.p
  refine ⟨_, ps_if pc pa pb, fun ownB HB gs fs ρ σ own H D R k => ?_⟩
  obtain ⟨⟨a, f0, as, R1, h1, h2, h3, h4⟩, F⟩ := R
  refine qc _ σ _ H _ (R1.view h2 h4) ?_
  unfold sIfQ at k
  revert k
  cases fc (ρ.set j (.sh (.lst fs))) with
  | er => exact fun k => k.elim
  | ex c => exact fun k => k.elim
  | ok b =>
    cases b with
    | true => exact fun k H' s => qa ownB HB gs fs ρ σ own H' D ⟨⟨a, f0, as, R1.grow s, h1, h2, h3, h4⟩, F.trans (.same s)⟩ k
    | false => exact fun k H' s => qb ownB HB gs fs ρ σ own H' D ⟨⟨a, f0, as, R1.grow s, h1, h2, h3, h4⟩, F.trans (.same s)⟩ k
theorem vq_app (h : VA X (fun _ _ _ _ => False) S0 H0 .E (e :: es) fa) (hN : X.N[j]? = some y := by rfl) (hv : Vis X.env.scope y := by first | exact Or.inl rfl | exact Or.inr (Or.inl rfl) | exact Or.inr (Or.inr rfl)) (hd : (y == ("__debug__" : Str)) = false := by decide) (hcd : (y == ("__classdict__" : Str)) = false := by decide)
    (hbase : attributeBase (.Name y px) "append" X.env (eval (.Name y px) X.env) = eval (.Name y px) X.env := by rfl)
    (hfew : ((backTo cpos (starEach (e :: es) X.env)).all (fun x => !x.1) && (backToKw cpos (keywordEach [] X.env)).all (fun x => x.1.isSome)
      && decide ((e :: es).length + ([] : List Keyword).length + (if ([] : List Keyword).isEmpty then 0 else 1) < 30)) = true := by rfl)
    (hline : (apos.endLine == cpos.line) = true := by rfl) (hs : starEach (e :: es) X.env = (false, eval e X.env) :: starEach es X.env := by rfl) (hplain : (backTo cpos (starEach es X.env)).any (·.1) = false := by rfl)
    (hsw : swapsWith (.Call (.Attribute (.Name y px) "append" apos) (e :: es) [] cpos) none pos.line X.env = pure false := by rfl) : VQ1 X S0 H0 i j (.Expr (.Call (.Attribute (.Name y px) "append" apos) (e :: es) [] cpos) pos) (sAppQ fa) := by
  obtain ⟨te, p, q⟩ := h.p
  refine ⟨_, ps_expr (pe_bm PySem.F.plainAttrs_list PySem.F.slot_list_append PySem.F.type_list_append mt_append (pe_var hN hv hd hcd) p hbase hfew hline hs hplain) hsw, fun ownB HB gs fs ρ σ own H D R k => ?_⟩
  obtain ⟨⟨a, f0, as, R1, h1, h2, h3, h4⟩, F⟩ := R
  unfold sAppQ at k
  obtain ⟨vs, g1, g2⟩ := R1.fm
  refine ⟨.ref f0, h4, .inl ⟨rfl, vs, SqL.of g1⟩, q ρ σ own H _ R1.rel ?_⟩
  revert k
  cases fa ρ with
  | er => exact fun k => k.elim
  | ex c => exact fun k => k.elim
  | ok ds =>
    intro k ws H' s r
    dsimp only at k
    split at k
    · next fs' ee =>
      refine mg_app (X := X) (SA S0 H0 own) H' f0 vs ws fs ds fs' _ (s f0 _ g1) (g2.keep (.same s)) (RpA.ofE r) ee fun v xs' r' => ?_
      obtain ⟨R2, F2⟩ := (R1.grow s).chgF r'
      exact k σ own _ ⟨⟨a, f0, as, R2, h1, h2, h3, h4⟩, F.trans ((Fra.same s).trans F2)⟩
    · exact k.elim
theorem vq_new (h : VA X (fun _ _ _ _ => False) S0 H0 .F es fa) (hN : X.N[i]? = some x := by rfl) (hv : Vis X.env.scope x := by first | exact Or.inl rfl | exact Or.inr (Or.inl rfl) | exact Or.inr (Or.inr rfl)) (hd : (x == ("__debug__" : Str)) = false := by decide) (hcd : (x == ("__classdict__" : Str)) = false := by decide)
    (hbase : attributeBase (.Name x px) "append" X.env (eval (.Name x px) X.env) = eval (.Name x px) X.env := by rfl)
    (hfew : ((backTo cpos (starEach [.List es pl] X.env)).all (fun x => !x.1) && (backToKw cpos (keywordEach [] X.env)).all (fun x => x.1.isSome)
      && decide (([.List es pl] : List Expr).length + ([] : List Keyword).length + (if ([] : List Keyword).isEmpty then 0 else 1) < 30)) = true := by rfl)
    (hline : (apos.endLine == cpos.line) = true := by rfl) (hs : starEach [.List es pl] X.env = (false, eval (.List es pl) X.env) :: starEach [] X.env := by rfl) (hplain : (backTo cpos (starEach [] X.env)).any (·.1) = false := by rfl)
    (hsw : swapsWith (.Call (.Attribute (.Name x px) "append" apos) [.List es pl] [] cpos) none pos.line X.env = pure false := by rfl) : VQ1 X S0 H0 i j (.Expr (.Call (.Attribute (.Name x px) "append" apos) [.List es pl] [] cpos) pos) (sNewQ fa) := by
  obtain ⟨te, p, q⟩ := h.p
  refine ⟨_, ps_expr (pe_bm PySem.F.plainAttrs_list PySem.F.slot_list_append PySem.F.type_list_append mt_append (pe_var hN hv hd hcd) (pa_cons (pe_lst p) pa_nil hs) hbase hfew hline hs hplain) hsw, fun ownB HB gs fs ρ σ own H D R k => ?_⟩
  obtain ⟨⟨a, f0, as, R1, h1, h2, h3, h4⟩, F⟩ := R
  unfold sNewQ at k
  refine ⟨.ref a, h3, .inl ⟨rfl, _, SqL.of R1.top⟩, q ρ σ own H _ R1.rel ?_⟩
  revert k
  cases fa ρ with
  | er => exact fun k => k.elim
  | ex c => exact fun k => k.elim
  | ok ds =>
    intro k ws H' s r
    dsimp only at k
    split at k
    · next hc =>
      obtain ⟨c1, c2, c3⟩ := hc
      refine ⟨by rw [Paired.length r]; exact c2, fun b hb => ?_⟩
      have R2 := R1.grow s
      have ra : RpA X.K (fun _ => False) H' ws ds := RpA.lf (RpA.ofP r) c1
      obtain ⟨R3, F3⟩ := R2.addG hb ra
      have hba : b ≠ a := fun z => by
        rw [z, R2.top] at hb
        cases hb
      refine ⟨a, as.map V.ref, .ref b, rfl, rfl, ?_, ?_, ?_⟩
      · rw [upd_ne (Ne.symm hba)]
        exact R2.top
      · rw [List.length_map, R2.ls.length]
        exact c3
      · have e : as.map V.ref ++ [V.ref b] = (as ++ [b]).map V.ref := by rw [List.map_append]; rfl
        rw [e]
        exact k σ (b :: own) _ ⟨⟨a, f0, as ++ [b], R3, h1, h2, h3, h4⟩, F.trans ((Fra.same s).trans F3)⟩
    · exact k.elim
theorem vq_put (hu : X.A.units + 1 < cLine) (hi : VX X (fun _ _ _ _ => False) S0 H0 .N e1 fi) (h : VA X (fun _ _ _ _ => False) S0 H0 .F [e] fa) (hix : PlainIx e1 := by intro _ _; rfl) (hN : X.N[i]? = some x := by rfl) (hv : Vis X.env.scope x := by first | exact Or.inl rfl | exact Or.inr (Or.inl rfl) | exact Or.inr (Or.inr rfl)) (hd : (x == ("__debug__" : Str)) = false := by decide) (hcd : (x == ("__classdict__" : Str)) = false := by decide)
    (hbase : attributeBase (.Subscript (.Name x px) e1 p) "append" X.env (eval (.Subscript (.Name x px) e1 p) X.env) = eval (.Subscript (.Name x px) e1 p) X.env := by rfl)
    (hfew : ((backTo cpos (starEach [e] X.env)).all (fun x => !x.1) && (backToKw cpos (keywordEach [] X.env)).all (fun x => x.1.isSome)
      && decide (([e] : List Expr).length + ([] : List Keyword).length + (if ([] : List Keyword).isEmpty then 0 else 1) < 30)) = true := by rfl)
    (hline : (apos.endLine == cpos.line) = true := by rfl) (hs : starEach [e] X.env = (false, eval e X.env) :: starEach [] X.env := by rfl) (hplain : (backTo cpos (starEach [] X.env)).any (·.1) = false := by rfl)
    (hsw : swapsWith (.Call (.Attribute (.Subscript (.Name x px) e1 p) "append" apos) [e] [] cpos) none pos.line X.env = pure false := by rfl) : VQ1 X S0 H0 i j (.Expr (.Call (.Attribute (.Subscript (.Name x px) e1 p) "append" apos) [e] [] cpos) pos) (sPutQ j fi fa) := by
  obtain ⟨te, pe, q⟩ := h.p
  obtain ⟨tx, pi, qi⟩ := hi.p
  refine ⟨_, ps_expr (pe_bm PySem.F.plainAttrs_list PySem.F.slot_list_append PySem.F.type_list_append mt_append (pe_ix (ix_all hu) (pe_var hN hv hd hcd) pi hix) pe hbase hfew hline hs hplain) hsw, fun ownB HB gs fs ρ σ own H D R k => ?_⟩
  obtain ⟨⟨a, f0, as, R1, h1, h2, h3, h4⟩, F⟩ := R
  unfold sPutQ at k
  refine ⟨.ref a, h3, qi _ σ _ H _ (R1.view h2 h4) ?_⟩
  revert k
  cases fi (ρ.set j (.sh (.lst fs))) with
  | er => exact fun k => k.elim
  | ex c => exact fun k => k.elim
  | ok d =>
    cases d with
    | int n =>
      cases ea : fa ρ with
      | er => exact fun k => k.elim
      | ex c => exact fun k => k.elim
      | ok ds =>
        match ds, ea with
        | [xd], ea =>
          intro k v H1 s1 r1
          dsimp only at k
          split at k
          · next hc =>
            obtain ⟨c0, c1, c2, c3⟩ := hc
            split at k
            · next g hg =>
              split at k
              · next hgl =>
                have R2 := R1.grow s1
                obtain ⟨b, us, e1, e2, e3⟩ := R2.ls.get hg
                have hv : v = .int n := r1.isInt
                subst hv
                have eat : atI (as.map V.ref) n = some (.ref b) := by
                  unfold atI ixN
                  rw [if_pos c0, if_pos (by rw [List.length_map, R2.ls.length]; omega)]
                  show (as.map V.ref)[n.toNat]? = _
                  rw [List.getElem?_map, e1]
                  rfl
                refine .inl (.inl ⟨a, as.map V.ref, n, .ref b, rfl, rfl, SqL.of R2.top, eat, ?_⟩)
                refine .inl ⟨rfl, us, SqL.of e2⟩ |> fun z => ⟨z, q ρ σ own H1 _ R2.rel ?_⟩
                rw [ea]
                intro ws H2 s2 r2
                have R3 := R2.grow s2
                have ra : RpA X.K (fun _ => False) H2 ws [xd] := RpA.lf (RpA.ofP r2) (by simp [lfA, c3])
                refine mg_app (X := X) (fun _ => False) H2 b us ws g [xd] (g ++ [xd]) _ (s2 b _ e2) (e3.keep (.same s2)) ra (if_pos hgl) fun v xs' r' => ?_
                obtain ⟨R4, F4⟩ := R3.chgG e1 r'
                exact k σ own _ ⟨⟨a, f0, as, R4, h1, h2, h3, h4⟩, F.trans ((Fra.same (s1.trans s2)).trans F4)⟩
              · exact k.elim
            · exact k.elim
          · exact k.elim
        | [], _ => exact fun k => k.elim
        | _ :: _ :: _, _ => exact fun k => k.elim
    | _ => exact fun k => k.elim
end
end VL
set_option Elab.async false
set_option linter.all false
set_option maxRecDepth 100000
/-! VO57: the loop that makes and fills a list of lists; its beginning and its end. -/
namespace VL
open PySem L2 PySem.Spec PyProof.Rows
/-- a target that makes nothing one's own, and stores at ks alone -/
def TgOk (ks : List Nat) (ft : D → Rho → Option Rho) : Prop := ∀ d ρ ρ', ft d ρ = some ρ' → (∀ k, k ∉ ks → ρ'[k]? = ρ[k]?) ∧ ∀ (k : Nat) (e : D), k ∈ ks → ρ'[k]? ≠ some (.ow e)
theorem tgok_name {k : Nat} : TgOk [k] (tgN k) := by
  intro d ρ ρ' h
  cases h
  refine ⟨fun l hl => List.getElem?_set_ne fun z => hl (by rw [z]; exact List.mem_singleton_self _), fun l e hl z => ?_⟩
  rw [List.mem_singleton] at hl
  subst hl
  rcases get_set z with ⟨_, q, _⟩ | ⟨q, _⟩
  · cases q
  · exact q rfl
theorem tgok_2 {n k l : Nat} : TgOk [k, l] (tgT n (tgCons (tgN k) (tgCons (tgN l) tgNil))) := by
  intro d ρ ρ' h
  obtain ⟨a, b, rfl⟩ : ∃ a b, ρ' = (ρ.set k (.sh a)).set l (.sh b) := by
    have two : ∀ ds : List D, tgCons (tgN k) (tgCons (tgN l) tgNil) ds ρ = some ρ' → ∃ a b, ρ' = (ρ.set k (.sh a)).set l (.sh b) := fun ds h => by
      match ds, h with
      | [], h => cases h
      | [_], h => cases h
      | [a, b], h => cases h; exact ⟨a, b, rfl⟩
      | _ :: _ :: _ :: _, h => cases h
    unfold tgT at h
    repeat' split at h
    all_goals first
      | exact two _ h
      | cases h
  refine ⟨fun m hm => ?_, fun m e hm z => ?_⟩
  · rw [List.mem_cons, List.mem_singleton, not_or] at hm
    rw [List.getElem?_set_ne (Ne.symm hm.2), List.getElem?_set_ne (Ne.symm hm.1)]
  · rcases get_set z with ⟨_, q, _⟩ | ⟨q, z⟩
    · cases q
    · rcases get_set z with ⟨_, q2, _⟩ | ⟨q2, _⟩
      · cases q2
      · rw [List.mem_cons, List.mem_singleton] at hm
        exact hm.elim (fun w => q2 w) fun w => q w
theorem set_no {ρ : Rho} {i : Nat} (h : ρ[i]? = some .no) : ρ.set i .no = ρ := by
  apply List.ext_getElem?
  intro k
  by_cases e : i = k
  · subst e
    rw [List.getElem?_set_self (List.getElem?_eq_some_iff.mp h).1, h]
  · rw [List.getElem?_set_ne e]
/-- the beginning: both lists are empty -/
def sQ (i j : Nat) (F : List (List D) → List D → Rho → Res) : Rho → Res := fun ρ => match ρ[i]?, ρ[j]? with
  | some .no, some .no => if i ≠ j then F [] [] ρ else .er
  | _, _ => .er
def kQ (f : QF) (g : List (List D) → List D → Rho → Res) : List (List D) → List D → Rho → Res := fun gs fs ρ => match f gs fs ρ with
  | some (gs', fs', ρ') => g gs' fs' ρ'
  | none => .er
def kEnd (i : Nat) (r : Rho → Res) : List (List D) → List D → Rho → Res := fun gs _ ρ => r (ρ.set i (.fr (.lst (gs.map D.lst))))
structure VK (X : Cx) (W : WX) (S0 : Addr → Prop) (H0 : Hp) (i j : Nat) (rm : Md) (st : List Stmt) (f : List (List D) → List D → Rho → Res) : Prop where
  p : ∃ ts, PSs X st ts ∧ ∀ ownB HB gs fs ρ σ own H D, RelQ X.K S0 H0 i j ownB HB gs fs ρ σ own H → PSt X W S0 H0 rm ownB HB D (f gs fs ρ) → ts D σ H
section
variable {X : Cx} {W W2 : WX} {S0 : Addr → Prop} {H0 : Hp} {i j : Nat} {rm m : Md} {st : Stmt} {sts body : List Stmt} {f fb : QF} {g : List (List D) → List D → Rho → Res} {pos p1 p2 pl1 pl2 px py : Pos} {tg iter : Expr} {ks : List Nat} {fit : Rho → M (List D)} {ft : D → Rho → Option Rho} {x y : Str} {r : Rho → Res}
theorem RelQ.grow {ownB own : List Addr} {HB H H' : Hp} {gs : List (List D)} {fs : List D} {ρ : Rho} {σ : Sg} (R : RelQ X.K S0 H0 i j ownB HB gs fs ρ σ own H) (s : Same H H') : RelQ X.K S0 H0 i j ownB HB gs fs ρ σ own H' := by
  obtain ⟨⟨a, f0, as, R1, h1, h2, h3, h4⟩, F⟩ := R
  exact ⟨⟨a, f0, as, R1.grow s, h1, h2, h3, h4⟩, F.trans (.same s)⟩
theorem RelQ.rel {ownB own : List Addr} {HB H : Hp} {gs : List (List D)} {fs : List D} {ρ : Rho} {σ : Sg} (R : RelQ X.K S0 H0 i j ownB HB gs fs ρ σ own H) : Rel X.K S0 H0 ρ σ own H := by
  obtain ⟨⟨a, f0, as, R1, _⟩, _⟩ := R
  exact R1.rel
theorem RelQ.wipe {ownB own : List Addr} {HB H : Hp} {gs : List (List D)} {fs : List D} {ρ : Rho} {σ : Sg} (ks : List Nat) (R : RelQ X.K S0 H0 i j ownB HB gs fs ρ σ own H) : RelQ X.K S0 H0 i j ownB HB gs fs (wipeR ks ρ) σ own H := by
  obtain ⟨⟨a, f0, as, R1, h1, h2, h3, h4⟩, F⟩ := R
  have w := wipeR_get ks ρ
  have no : ∀ {k : Nat}, ρ[k]? = some .no → (wipeR ks ρ)[k]? = some .no := fun {k} e => by
    have hl : k < (wipeR ks ρ).length := by rw [w.1]; exact (List.getElem?_eq_some_iff.mp e).1
    rcases w.2 k _ (List.getElem?_eq_getElem hl) with z | z
    · rw [List.getElem?_eq_getElem hl, z]
    · rw [e] at z
      rw [List.getElem?_eq_getElem hl]
      exact z.symm
  refine ⟨⟨a, f0, as, R1.slots (R1.rel.wipe ks) fun k d p e1 e2 => ?_, no h1, no h2, h3, h4⟩, F⟩
  rcases w.2 k _ e1 with z | z
  · cases z
  · exact ⟨k, d, z, e2⟩
theorem vq_for (hp : PassesOwn (model X.prog X.w) X.A X.env X.xe) (hc : X.calm = true) (hi : VI X (fun _ _ _ _ => False) S0 H0 tg iter fit) (hg : VG X S0 H0 ks tg ft) (ho : TgOk ks ft) (hb : VQ1s X S0 H0 i j body fb) : VQ1 X S0 H0 i j (.For tg iter body [] pos) (sForQ i j ks fit ft fb) := by
  obtain ⟨wi, pi, qi⟩ := hi.p
  obtain ⟨tgt, pg, qg⟩ := hg.p
  obtain ⟨tb, pb, qb⟩ := hb.p
  refine ⟨_, ps_for hp hc pi pg pb hi.s, fun ownB HB gs fs ρ σ own H D R k => qi ρ σ own H _ R.rel ?_⟩
  unfold sForQ at k
  split at k
  case isFalse => exact k.elim
  next hij =>
  obtain ⟨hik, hjk⟩ := hij
  revert k
  cases fit ρ with
  | er => exact fun k => k.elim
  | ex c => exact fun k => k.elim
  | ok ds =>
    intro k J H1 s1 wk
    have R1 := R.grow s1
    have RB : RelQ X.K S0 H0 i j own H1 gs fs ρ σ own H1 := ⟨R1.p, .refl⟩
    have k1 := PSQ.base R1.fr k
    refine ⟨fun n m' σ' H' => ∃ gs' fs' ρ' own', RelQ X.K S0 H0 i j own H1 gs' fs' ρ' σ' own' H' ∧ PSQ X S0 H0 i j own H1 D (forQ ks ft fb (ds.drop n) gs' fs' ρ') ∧ m' = ds.length - n ∧ n ≤ ds.length, ⟨ds.length, gs, fs, ρ, own, RB, by simpa using k1, by simp, by simp⟩, ?_⟩
    rintro n m' σ' H' ⟨gs', fs', ρ', own', R', k', rfl, hn⟩
    obtain ⟨w1, w2, w3⟩ := wk _ H' R'.fr R'.rel.same R'.rel.own0 n
    by_cases hlt : n < ds.length
    · refine .inr ⟨w1 hlt, fun σ2 H2 => ∃ gs2 fs2 ρ2 own2, RelQ X.K S0 H0 i j own H1 gs2 fs2 ρ2 σ2 own2 H2 ∧ PSQ X S0 H0 i j own H1 D (forQ ks ft fb (ds.drop (n + 1)) gs2 fs2 ρ2), fun σ2 H2 ⟨gs2, fs2, ρ2, own2, a, b⟩ => ⟨ds.length - (n + 1), by omega, gs2, fs2, ρ2, own2, a, b, rfl, hlt⟩, fun x H2 hy => ?_⟩
      obtain ⟨s2, d, hd, rd⟩ := w3 x H2 hlt hy
      have ed : ds.drop n = d :: ds.drop (n + 1) := by
        rw [List.drop_eq_getElem_cons hlt]
        rw [List.getElem?_eq_getElem hlt] at hd
        rw [Option.some.inj hd]
      rw [ed] at k'
      unfold forQ at k'
      cases et : ft d ρ' with
      | none => rw [et] at k'; exact k'.elim
      | some ρ1 =>
        rw [et] at k'
        have R2 := R'.grow s2
        refine qg x d ρ' ρ1 σ' own' H2 _ R2.rel rd et fun σ3 R3 o3 => ?_
        obtain ⟨t1, t2⟩ := ho d ρ' ρ1 et
        obtain ⟨⟨a, f0, as, RH, h1, h2, h3, h4⟩, F⟩ := R2
        have R4 : RelQ X.K S0 H0 i j own H1 gs' fs' ρ1 σ3 own' H2 := ⟨⟨a, f0, as, RH.slots R3 (fun l e p e1 e2 => by
          by_cases hl : l ∈ ks
          · exact absurd e1 (t2 l e hl)
          · exact ⟨l, e, by rw [← t1 l hl]; exact e1, by rw [← o3.2 l hl]; exact e2⟩), by rw [t1 i hik]; exact h1, by rw [t1 j hjk]; exact h2, by rw [o3.2 i hik]; exact h3, by rw [o3.2 j hjk]; exact h4⟩, F⟩
        refine qb _ _ gs' fs' ρ1 σ3 own' H2 _ R4 ?_
        revert k'
        dsimp only
        cases fb gs' fs' ρ1 with
        | none => exact fun k => k.elim
        | some t => exact fun k2 σ4 o4 H4 a => ⟨t.1, t.2.1, wipeR ks t.2.2, o4, a.wipe ks, k2⟩
    · refine .inl ⟨w2 (by omega), ?_⟩
      rw [List.drop_of_length_le (by omega)] at k'
      exact k' σ' own' H' R'
theorem vk_cons (h : VQ1 X S0 H0 i j st f) (h2 : VK X W S0 H0 i j rm sts g) : VK X W S0 H0 i j rm (st :: sts) (kQ f g) := by
  obtain ⟨t, p, q⟩ := h.p
  obtain ⟨t2, p2, q2⟩ := h2.p
  refine ⟨_, pss_cons p p2, fun ownB HB gs fs ρ σ own H D R k => q ownB HB gs fs ρ σ own H _ R ?_⟩
  unfold kQ at k
  revert k
  cases f gs fs ρ with
  | none => exact fun k => k.elim
  | some t => exact fun k σ' own' H' R' => q2 ownB HB t.1 t.2.1 t.2.2 σ' own' H' D R' k
theorem vk_end (h : VSs X W S0 H0 rm sts r) : VK X W S0 H0 i j rm sts (kEnd i r) := by
  obtain ⟨t, p, q⟩ := h.p
  refine ⟨t, p, fun ownB HB gs fs ρ σ own H D R k => ?_⟩
  obtain ⟨⟨a, f0, as, R1, h1, h2, h3, h4⟩, F⟩ := R
  obtain ⟨own', R', F'⟩ := R1.out h1 h3
  exact q _ σ own' H D R' (k.weak (F.trans F'))
theorem vss_q (h : VK X W S0 H0 i j rm sts g) (hNd : X.N.Nodup) (hi : X.N[i]? = some x := by rfl) (hx : Loc X.env.scope x := by first | exact Or.inl rfl | exact Or.inr rfl) (hj : X.N[j]? = some y := by rfl) (hy : Loc X.env.scope y := by first | exact Or.inl rfl | exact Or.inr rfl)
    (hs : swapsWith (.List [] pl1) (some (.Name x px)) p1.line X.env = pure false := by rfl) (hf : X.fn x = true ∨ X.env.scope.names.lookup x = some .local := by first | exact .inl rfl | exact .inr rfl)
    (hs2 : swapsWith (.List [] pl2) (some (.Name y py)) p2.line X.env = pure false := by rfl) (hf2 : X.fn y = true ∨ X.env.scope.names.lookup y = some .local := by first | exact .inl rfl | exact .inr rfl) :
    VSs X W S0 H0 rm (.Assign [.Name x px] (.List [] pl1) p1 :: .Assign [.Name y py] (.List [] pl2) p2 :: sts) (sQ i j g) := by
  obtain ⟨t, p, q⟩ := h.p
  refine ⟨_, pss_cons (ps_set hNd hi hx (pe_lst pa_nil) hs hf) (pss_cons (ps_set hNd hj hy (pe_lst pa_nil) hs2 hf2) p), fun ρ σ own H D R k => ?_⟩
  unfold sQ at k
  split at k
  case h_2 => exact k.elim
  next c1 c2 =>
  split at k
  case isFalse => exact k.elim
  next c3 =>
  refine ⟨by rw [sizeLine_eq]; simp, fun L hL => ?_⟩
  refine ⟨by rw [sizeLine_eq]; simp, fun M hM => ?_⟩
  have s1 : Same H (upd H L (.lst [])) := same_upd hL
  have s2 : Same (upd H L (.lst [])) (upd (upd H L (.lst [])) M (.lst [])) := same_upd hM
  have hML : M ≠ L := fun z => by
    rw [z, upd_same] at hM
    cases hM
  have new : ∀ x, x ∈ own → ∃ u, H x = some u := fun x hx => mt_some (R.own0 x hx).2
  have hLo : L ∉ own := fun z => by
    obtain ⟨u, e⟩ := new L z
    rw [hL] at e
    cases e
  have hMo : M ∉ own := fun z => by
    obtain ⟨u, e⟩ := new M z
    rw [s1 M u e] at hM
    cases hM
  have P1 := R.plus s1 hL (by rw [upd_same]; trivial)
  have P2 := P1.plus s2 hM (by rw [upd_same]; trivial)
  have hw : wipeR [i, j] ρ = ρ := by
    show (ρ.set j .no).set i .no = ρ
    rw [set_no c2, set_no c1]
  have il : i < σ.length := by rw [R.len]; exact (List.getElem?_eq_some_iff.mp c1).1
  have jl : j < σ.length := by rw [R.len]; exact (List.getElem?_eq_some_iff.mp c2).1
  have P3 := P2.only (ks := [i, j]) (σ' := (σ.set i (some (.ref L))).set j (some (.ref M))) ((OnlyS.set List.mem_cons_self).trans (OnlyS.set (List.mem_cons_of_mem _ List.mem_cons_self)))
  rw [hw] at P3
  have sg : ∀ (k : Nat) (d : VL.D) (p : Addr), ρ[k]? = some (.ow d) → ((σ.set i (some (.ref L))).set j (some (.ref M)))[k]? = some (some (.ref p)) → p ∈ own ∧ ∀ x, x ∈ sb (upd (upd H L (.lst [])) M (.lst [])) p → x ∈ own := fun k d p e1 e2 => by
    have ki : i ≠ k := fun z => by rw [← z, c1] at e1; cases e1
    have kj : j ≠ k := fun z => by rw [← z, c2] at e1; cases e1
    rw [List.getElem?_set_ne kj, List.getElem?_set_ne ki] at e2
    obtain ⟨p', g1, g2, _⟩ := R.ow k d e1
    rw [e2] at g1
    cases g1
    refine ⟨g2, fun x hx => ?_⟩
    rw [R.sbS (s1.trans s2) e1 e2] at hx
    exact (R.sub k d p e1 e2 x hx).1
  refine q own H [] [] ρ _ (M :: L :: own) _ D ⟨⟨L, M, [], ⟨P3, ?_, ?_, ?_, ?_, ?_, trivial⟩, c1, c2, ?_, ?_⟩, ?_⟩ k
  · rw [List.nodup_cons, List.mem_singleton]
    exact ⟨fun z => hML z.symm, by simp⟩
  · intro x hx
    simp only [List.mem_cons, List.not_mem_nil, or_false] at hx ⊢
    rcases hx with h | h
    · exact .inr (.inl h)
    · exact .inl h
  · intro k d p e1 e2 x hx
    obtain ⟨g1, g2⟩ := sg k d p e1 e2
    simp only [List.mem_cons, List.not_mem_nil, or_false] at hx
    rcases hx with rfl | rfl
    · exact ⟨fun z => hLo (z ▸ g1), fun z => hLo (g2 _ z)⟩
    · exact ⟨fun z => hMo (z ▸ g1), fun z => hMo (g2 _ z)⟩
  · rw [upd_ne (Ne.symm hML), upd_same]
    rfl
  · exact ⟨[], upd_same, .nil⟩
  · rw [List.getElem?_set_ne (Ne.symm c3), List.getElem?_set_self il]
  · rw [List.getElem?_set_self (by rw [List.length_set]; exact jl)]
  · refine ⟨fun x o e _ => (s1.trans s2) x o e, fun x hx => ?_⟩
    simp only [List.mem_cons] at hx
    rcases hx with rfl | rfl | h
    · refine .inr ?_
      cases e : H x with
      | none => rfl
      | some u => rw [s1 _ u e] at hM; cases hM
    · exact .inr hL
    · exact .inl h
end
end VL
set_option Elab.async false
set_option linter.all false
set_option maxRecDepth 100000
/-! VO58: methods that give parts of their object; x.f.remove(e), all seen as shared while e is found; y = [..] likewise; y = xs.pop(e). -/
namespace VL
open PySem L2 PySem.Spec PyProof.Rows
/-- a method that may be called: it gives g of the object and the arguments, perhaps a part of them -/
structure CalME (P : Program) (w : World) (K : PySem.W.Frag) (mg : Str → Option Value) (base : Heap) (k : Nat) (c m : Str) (g : List D → M D) : Prop where
  p : ∃ (C f : Addr) (fd : FuncData) (ps : List Str), ClsAt K c C ∧ Cls K C ∧ Meth K C m f ∧ FnOk P w K mg base (L2N.CX P w) k f fd ps (spE mg K g) ∧ Binds K fd ps []
section
variable {X : Cx} {W : WX} {S0 : Addr → Prop} {H0 : Hp} {rm mb : Md} {pos px py pf apos cpos pos' : Pos} {o e : Expr} {es : List Expr} {fo fe : Rho → M D} {fa : Rho → M (List D)} {c f m x y : Str} {i j k : Nat} {g : List D → M D}
theorem vx_methE {pl : Sem Bool} (cm : CalME X.prog X.w X.K X.mg X.base k c m g) (tk : L2N.Takes X W) (hr : Room j X.A) (hk : k ≤ j) (ho : VX X W S0 H0 .E o fo) (ha : VA X W S0 H0 .E (e :: es) fa)
    (hst : starEach (e :: es) X.env = (false, eval e X.env) :: starEach es X.env := by rfl) (hpl : (backTo pos (starEach es X.env)).any (·.1) = false := by rfl)
    (ht : eval (.Call (.Attribute o m apos) (e :: es) [] pos) X.env = (do
      let ov ← eval o X.env
      standAt apos.atName
      let (f, first) ← holding [ov] (getMethod ov m pl)
      callWith pos f first (backTo pos (starEach (e :: es) X.env)) (backToKw pos (keywordEach [] X.env))) := by rfl) : VX X W S0 H0 .E (.Call (.Attribute o m apos) (e :: es) [] pos) (eMeth c m g fo fa) := by
  obtain ⟨C, f, fd, ps, h1, h2, h3, F, h5⟩ := cm.p
  obtain ⟨to', po, qo⟩ := ho.p
  obtain ⟨ta, pa, qa⟩ := ha.p
  refine ⟨_, pe_methX po h2 h3 F (hr.mono hk) h5 (fun σ => L2N.passAt tk σ) pa hst hpl ht, fun ρ σ own H Q R k => qo ρ σ own H _ R ?_⟩
  unfold eMeth at k
  revert k
  cases fo ρ with
  | er => exact id
  | ex c => exact id
  | ok d =>
    intro k v H1 s1 r1
    rw [bind_ok] at k
    split at k
    · next p c' ns ds =>
      split at k
      · next hcm =>
        obtain ⟨rfl, hm⟩ := hcm
        obtain ⟨a, C', dx, vs, rfl, hH, hC, hns⟩ := obj_at r1
        cases h1.one hC
        refine ⟨a, dx, vs, rfl, hH, look_none hns hm, qa ρ σ own H1 _ (R.grow s1) ?_⟩
        revert k
        cases fa ρ with
        | er => exact id
        | ex c => exact fun k cv dd H' i s => k cv dd H' i (s1.trans s)
        | ok as =>
          intro k ws H2 s2 r2
          rw [bind_ok] at k
          have r1' : Rp X.K (SA S0 H0 own) H1 (.ref a) (.obj p c' ns ds) := r1
          refine ⟨_, SA S0 H0 own, .cons (r1'.keep (.same s2)) (RpA.ofE r2), ?_⟩
          revert k
          cases g (.obj p c' ns ds :: as) with
          | er => exact id
          | ex c => exact fun k cv dd H' i s => k cv dd H' i (s1.trans (s2.trans s))
          | ok d => exact fun k v H' s r => k v H' (s1.trans (s2.trans s)) (r.keep (.wide fun a ha => ha.elim id fun hn => SF.sa _ (sf_new (R.grow (s1.trans s2)) hn)))
      · exact k.elim
    · exact k.elim
/-- y = e, new: what is one's own is seen as shared while e is found -/
def sFrA (i : Nat) (fe : Rho → M D) : Rho → Res := fun ρ => match fe (shAll ρ) with
  | .ok d => .nx (ρ.set i (.fr d))
  | .ex c => .ex c ρ
  | .er => .er
/-- x.f.remove(e) -/
def sRemF (i : Nat) (c f : Str) (fe : Rho → M D) : Rho → Res := fun ρ => match ρ[i]? with
  | some (.ow (.obj p c' ns ds)) => (match lookF f ns ds with
    | some (.lst es) => if c' = c then (match fe (shAll ρ) with
      | .ok d => (match remE es [d] with | .ok es' => .nx (ρ.set i (.ow (.obj p c' ns (putDs f (.lst es') ns ds)))) | _ => .er)
      | .ex c => .ex c ρ
      | .er => .er) else .er
    | _ => .er)
  | _ => .er
theorem rp_true {K : PySem.W.Frag} {S : Addr → Prop} {H : Hp} {v : V} {d : D} (r : Rp K S H v d) : Rp K (fun _ => True) H v d := r.keep (.wide fun _ _ => trivial)
theorem vs_remF (hu : X.A.units + 65 < cLine) (hc : ClsK X.K c) (hn : NoF X.K c f) (h : ∀ H1, VX X W (fun _ => True) H1 .E e fe)
    (ho : ownF f = true := by decide) (hN : X.N[i]? = some x := by rfl) (hv : Vis X.env.scope x := by first | exact Or.inl rfl | exact Or.inr (Or.inl rfl) | exact Or.inr (Or.inr rfl)) (hd : (x == ("__debug__" : Str)) = false := by decide) (hcd : (x == ("__classdict__" : Str)) = false := by decide)
    (hbf : attributeBase (.Name x px) f X.env (eval (.Name x px) X.env) = eval (.Name x px) X.env := by rfl)
    (hbase : attributeBase (.Attribute (.Name x px) f pf) "remove" X.env (eval (.Attribute (.Name x px) f pf) X.env) = eval (.Attribute (.Name x px) f pf) X.env := by rfl)
    (hfew : ((backTo cpos (starEach [e] X.env)).all (fun x => !x.1) && (backToKw cpos (keywordEach [] X.env)).all (fun x => x.1.isSome)
      && decide (([e] : List Expr).length + ([] : List Keyword).length + (if ([] : List Keyword).isEmpty then 0 else 1) < 30)) = true := by rfl)
    (hline : (apos.endLine == cpos.line) = true := by rfl) (hs : starEach [e] X.env = (false, eval e X.env) :: starEach [] X.env := by rfl) (hplain : (backTo cpos (starEach [] X.env)).any (·.1) = false := by rfl)
    (hsw : swapsWith (.Call (.Attribute (.Attribute (.Name x px) f pf) "remove" apos) [e] [] cpos) none pos.line X.env = pure false := by rfl) :
    VS X W S0 H0 rm (.Expr (.Call (.Attribute (.Attribute (.Name x px) f pf) "remove" apos) [e] [] cpos) pos) (sRemF i c f fe) := by
  obtain ⟨C, h1, h2⟩ := hc.p
  have hp := fun H1 => (h H1).p
  have p : PE X e (fun σ H Q => ∃ H1, Classical.choose (hp H1) σ H Q) := ⟨fun pins s σ H Q I ⟨H1, k⟩ => (Classical.choose_spec (hp H1)).1.run pins s σ H Q I k⟩
  refine ⟨_, ps_expr (pe_bm PySem.F.plainAttrs_list PySem.F.slot_list_remove PySem.F.type_list_remove (mt_removeD hu) (pe_fld (pe_var hN hv hd hcd) hbf) (pa_cons p pa_nil hs) hbase hfew hline hs hplain) hsw, fun ρ σ own H D R k => ?_⟩
  unfold sRemF at k
  split at k
  · next p' c' ns ds eq =>
    split at k
    · next es0 hl =>
      split at k
      · next hcc =>
        subst hcc
        obtain ⟨a, ha, ma, hap, C', dx, vs, hH, hC, hns, ro, nd⟩ := R.ow i _ eq
        cases h1.one hC
        obtain ⟨w, hw, hr⟩ := look_own hns ro hl
        rw [if_pos ho] at hr
        obtain ⟨b, xs, es1, rfl, e1, hb, rb, hsb⟩ := hr
        cases e1
        refine ⟨.ref a, ha, a, C, dx, vs, .ref b, rfl, hH, h2, hn C h1, hw, .inl ⟨rfl, xs, SqL.of hb⟩, H, (Classical.choose_spec (hp H)).2 (shAll ρ) σ [] H _ R.shAll ?_⟩
        revert k
        cases fe (shAll ρ) with
        | er => exact id
        | ex c => exact fun k cv d H' i s => k cv d σ own H' i (R.grow s) (.same s)
        | ok d =>
          intro k wv H' s r
          dsimp only at k
          split at k
          · next es' ee =>
            have R' := R.grow s
            have hH' := s a _ hH
            have hmem : b ∈ sb H' a := by rw [sb_ins hH']; exact hsb
            have hbo := (R'.sub i _ a eq ha b hmem).1
            have hba : b ≠ a := ((R'.sub i _ a eq ha b hmem).2 i _ a eq ha).1
            unfold remE at ee
            dsimp only at ee
            split at ee
            case isFalse => cases ee
            next hl2 =>
            split at ee
            case h_2 => cases ee
            next q hj =>
            cases ee
            obtain ⟨z, z1, z2, z3⟩ := findP_spec hj
            have rb' := rb.keep (.same s)
            have rd : Rp X.K (fun _ => True) H' wv d := rp_true (r : Rp X.K (SA (fun _ => True) H []) H' wv d)
            refine ⟨b, xs, wv, toP d, toPA es0, q, z, rfl, rfl, s b _ hb, rb'.dp (SeqAt.canLay_of_shaped hl2.1), rd.dp (SeqAt.canLay_of_shaped hl2.2), hl2.1, hl2.2, z1, z2, z3, ?_⟩
            have kp := keep_upd (o := .lst (xs.eraseIdx q)) R' hbo
            have ro' := ro.keep (.same s) (fun z _ o e => s z o e)
            obtain ⟨R2, F2⟩ := R'.chgX (d' := .obj p' c' ns (putDs f (.lst (es0.eraseIdx q)) ns ds)) (o := .lst (xs.eraseIdx q)) eq ha (.inr hmem) trivial
              ⟨hap, C, dx, vs, by rw [upd_ne (Ne.symm hba)]; exact hH', hC, hns, by rw [← hns]; exact own_upd kp (fun z hz => upd_ne hz) upd_same ((rb'.eraseIdx q).keep kp) ho ro' hw nd, nd⟩
              (fun z hz => .inl (by rw [sb_eq (upd_ne (Ne.symm hba))] at hz; exact hz))
            exact k σ own _ R2 ((Fra.same s).trans F2)
          · exact k.elim
      · exact k.elim
    · exact k.elim
  · exact k.elim
/-- y = xs.pop(e), xs one's own -/
def sPopX (i j : Nat) (fe : Rho → M D) : Rho → Res := fun ρ => match ρ[j]? with
  | some (.ow (.lst bs)) => ofM ρ (fun d => match d with
    | .int n => if 0 ≤ n ∧ n < bs.length ∧ n < 2 ^ 62 ∧ i ≠ j then (match bs[n.toNat]? with
      | some d => .nx ((ρ.set j (.ow (.lst (bs.eraseIdx n.toNat)))).set i (.fr d))
      | none => .er) else .er
    | _ => .er) (fe ρ)
  | _ => .er
theorem vs_popX (i j : Nat) {apos2 cpos2 : Pos} (h : VX X W S0 H0 mb e fe) (hNd : X.N.Nodup) (hi : X.N[i]? = some x := by rfl) (hx : Loc X.env.scope x := by first | exact Or.inl rfl | exact Or.inr rfl) (hM : X.N[j]? = some y := by rfl)
    (hv2 : Vis X.env.scope y := by first | exact Or.inl rfl | exact Or.inr (Or.inl rfl) | exact Or.inr (Or.inr rfl)) (hd2 : (y == ("__debug__" : Str)) = false := by decide) (hcd2 : (y == ("__classdict__" : Str)) = false := by decide)
    (hbase2 : attributeBase (.Name y py) "pop" X.env (eval (.Name y py) X.env) = eval (.Name y py) X.env := by rfl)
    (hfew2 : ((backTo cpos2 (starEach [e] X.env)).all (fun x => !x.1) && (backToKw cpos2 (keywordEach [] X.env)).all (fun x => x.1.isSome)
      && decide (([e] : List Expr).length + ([] : List Keyword).length + (if ([] : List Keyword).isEmpty then 0 else 1) < 30)) = true := by rfl)
    (hline2 : (apos2.endLine == cpos2.line) = true := by rfl) (hs2 : starEach (e :: []) X.env = (false, eval e X.env) :: starEach [] X.env := by rfl)
    (hplain2 : (backTo cpos2 (starEach [] X.env)).any (·.1) = false := by rfl)
    (hsw : swapsWith (.Call (.Attribute (.Name y py) "pop" apos2) [e] [] cpos2) (some (.Name x pos')) pos.line X.env = pure false := by rfl) (hf : X.fn x = true ∨ X.env.scope.names.lookup x = some .local := by first | exact .inl rfl | exact .inr rfl) :
    VS X W S0 H0 rm (.Assign [.Name x pos'] (.Call (.Attribute (.Name y py) "pop" apos2) [e] [] cpos2) pos) (sPopX i j fe) := by
  obtain ⟨te, p, q⟩ := h.p
  refine ⟨_, ps_set hNd hi hx (pe_bm PySem.F.plainAttrs_list PySem.F.slot_list_pop PySem.F.type_list_pop mt_popAt (pe_var hM hv2 hd2 hcd2) (pa_cons p pa_nil hs2) hbase2 hfew2 hline2 hs2 hplain2) hsw hf, fun ρ σ own H D R k => ?_⟩
  unfold sPopX at k
  split at k
  · next bs eb =>
    obtain ⟨b, ys, g1, g2, g3, g4⟩ := own_lst R eb
    refine ⟨.ref b, g1, .inl ⟨rfl, ys, SqL.of g3⟩, q ρ σ own H _ R ?_⟩
    revert k
    cases fe ρ with
    | er => exact id
    | ex c => exact fun k cv d H' i s => k cv d σ own H' i (R.grow s) (.same s)
    | ok d =>
      intro k v H' s r
      rw [ofM_ok] at k
      cases d with
      | int n =>
        dsimp only at k
        split at k
        · next hc =>
          obtain ⟨c0, c1, c2, c3⟩ := hc
          split at k
          · next d hd' =>
            have hvn := r.isInt
            subst hvn
            obtain ⟨w, hw, rw'⟩ := g4.get hd'
            have hyl : ys.length = bs.length := g4.length
            have R' := R.grow s
            refine ⟨b, ys, n, n.toNat, w, rfl, rfl, s b _ g3, by omega, by omega, ?_, hw, ?_⟩
            · unfold seqIndex?
              rw [if_neg (by omega : ¬ n < 0)]
              simp only
              rw [if_pos (by simp; omega)]
            · obtain ⟨R2, F2⟩ := R'.chg (d' := .lst (bs.eraseIdx n.toNat)) (o := .lst (ys.eraseIdx n.toNat)) eb g1 trivial ⟨_, upd_same, (g4.eraseIdx n.toNat |>.keep (.same s)).keep (keep_upd R' g2)⟩
              exact k _ own _ (R2.setFr ((rw'.keep (.same s)).keep (keep_upd R' g2))) ((Fra.same s).trans F2)
          · exact k.elim
        · exact k.elim
      | _ => exact k.elim
  · exact k.elim
end
section
variable {X : Cx} {W W0 : WX} {S0 : Addr → Prop} {H0 : Hp} {rm : Md} {pos spos py : Pos} {elt tg iter : Expr} {ifs : List Expr} {scope : Scope} {own : List (Str × Nat)} {k1 : List Nat} {i : Nat} {y : Str} {fi : Rho → M (List D)} {ft : D → Rho → Option Rho} {fc : Rho → M Bool} {fe : Rho → M D}
theorem vs_lcFrA (hc : X.calm = true) (hN : X.N.Nodup) (hsw : swapsWith (.ListComp elt [⟨tg, iter, ifs, 0⟩] scope pos) (some (.Name y py)) spos.line X.env = pure true) (hi : ∀ H1, VI X W (fun _ => True) H1 tg iter fi) (ok : BlkOk X.N X.env.scope scope own) (hg : ∀ H1, ∀ i : Bi, VG (blkOf X scope i) (fun _ => True) H1 k1 tg ft) (ht : ∀ H1, ∀ i : Bi, VTs (blkOf X scope i) (fun _ _ _ _ => False) (fun _ => True) H1 ifs fc)
    (he : ∀ H1, ∀ i : Bi, VX (blkOf X scope i) (fun _ _ _ _ => False) (fun _ => True) H1 .F elt fe) (hk : ∀ k ∈ k1, k ∈ own.map (·.2) := by decide) (hy : X.N[i]? = some y := by rfl) (hyl : X.env.scope.names.lookup y = some .local := by rfl) :
    VS X W S0 H0 rm (.Assign [.Name y py] (.ListComp elt [⟨tg, iter, ifs, 0⟩] scope pos) spos) (sFrA i (eComp (own.map (·.2)) fi ft fc fe)) := by
  have h := fun H1 => lcs (i := i) (W := W) (m := .F) (by intro z; cases z) hc hN hy hyl hsw (hi H1) ok (hg H1) (ht H1) (he H1) hk
  refine ⟨_, ps_any fun H1 => (Classical.choose_spec (h H1)).1, fun ρ σ ow H D R k => ⟨H, (Classical.choose_spec (h H)).2 (shAll ρ) σ [] H _ R.shAll ?_⟩⟩
  unfold sFrA at k
  revert k
  cases eComp (own.map (·.2)) fi ft fc fe (shAll ρ) with
  | er => exact id
  | ex c => exact fun k cv d H' i s => k cv d σ ow H' i (R.grow s) (.same s)
  | ok x =>
    intro k v H' s r
    have r' : Rp X.K (SF H []) H' v x := r
    exact k _ ow H' ((R.grow s).setFr (r'.keep (.wide fun a z => sf_new R z.2))) (.same s)
end
end VL
set_option Elab.async false
set_option linter.all false
set_option maxRecDepth 100000
/-! VM: the plain law's tools: the combinators applied, loops as folds, the shared helpers of the laws. -/
namespace VL
open PySem L2 PySem.Spec PyProof.Rows
/-! ### the combinators applied -/
section
variable (ρ : Rho) (i j : Nat) (a b c : Rho → M D) (fb gb : Rho → M Bool) (fa : Rho → M (List D)) (f g : Rho → Res)
@[simp] theorem eV_ap : eV i ρ = match ρ[i]? with | some (.sh d) => .ok d | some (.fr d) => .ok d | some (.ow d) => .ok d | _ => .er := rfl
@[simp] theorem eVE_ap : eVE i ρ = match ρ[i]? with | some (.sh d) => .ok d | some (.fr d) => .ok d | _ => .er := rfl
@[simp] theorem eVF_ap : eVF i ρ = match ρ[i]? with | some (.fr d) => .ok d | _ => .er := rfl
@[simp] theorem eC_ap (d : D) : eC d ρ = .ok d := rfl
@[simp] theorem eOp_ap (h : D → D → M D) : eOp h a b ρ = M.bind (a ρ) fun x => M.bind (b ρ) fun y => h x y := rfl
@[simp] theorem eB_ap : eB a ρ = M.bind (a ρ) toB := rfl
@[simp] theorem eTr_ap : eTr a ρ = M.bind (a ρ) truG := rfl
@[simp] theorem eNot_ap : eNot fb ρ = M.bind (fb ρ) fun b => .ok (!b) := rfl
@[simp] theorem eAnd_ap : eAnd fb gb ρ = M.bind (fb ρ) fun b => if b = true then gb ρ else .ok false := rfl
@[simp] theorem eOr_ap : eOr fb gb ρ = M.bind (fb ρ) fun b => if b = true then .ok true else gb ρ := rfl
@[simp] theorem aNil_ap : aNil ρ = .ok [] := rfl
@[simp] theorem aCons_ap : aCons a fa ρ = M.bind (a ρ) fun x => M.bind (fa ρ) fun xs => .ok (x :: xs) := rfl
@[simp] theorem eTup_ap : eTup fa ρ = M.bind (fa ρ) fun xs => if xs.length ≤ sizeLine then .ok (.tup xs) else .er := rfl
@[simp] theorem eLst_ap : eLst fa ρ = M.bind (fa ρ) fun xs => if xs.length ≤ sizeLine then .ok (.lst xs) else .er := rfl
@[simp] theorem eLf_ap : eLf a ρ = M.bind (a ρ) fun x => if lf x = true then .ok x else .er := rfl
@[simp] theorem eBlt_ap (h : List D → M D) : eBlt h fa ρ = M.bind (fa ρ) h := rfl
@[simp] theorem eCall_ap (h : List D → M D) : eCall h fa ρ = M.bind (fa ρ) h := rfl
@[simp] theorem eIsi_ap (n : Cn) : eIsi n a ρ = M.bind (a ρ) fun d => if isOb d = true then .er else .ok (.bl (instD n d)) := rfl
@[simp] theorem eIsi2_ap (n n2 : Cn) : eIsi2 n n2 a ρ = M.bind (a ρ) fun d => if isOb d = true then .er else .ok (.bl (instD n d || instD n2 d)) := rfl
@[simp] theorem isOb_obj (p : Addr) (c : Str) (ns : List Str) (b : List D) : isOb (.obj p c ns b) = true := rfl
@[simp] theorem isOb_non : isOb .non = false := rfl
@[simp] theorem isOb_bl (b : Bool) : isOb (.bl b) = false := rfl
@[simp] theorem isOb_int (b : Int) : isOb (.int b) = false := rfl
@[simp] theorem isOb_str (b : Str) : isOb (.str b) = false := rfl
@[simp] theorem isOb_tup (b : List D) : isOb (.tup b) = false := rfl
@[simp] theorem isOb_kt (b : List D) : isOb (.kt b) = false := rfl
@[simp] theorem isOb_lst (b : List D) : isOb (.lst b) = false := rfl
@[simp] theorem isOb_fz (b : List D) : isOb (.fz b) = false := rfl
@[simp] theorem isOb_dct (b : List (List Key × D)) : isOb (.dct b) = false := rfl
@[simp] theorem isOb_dk (b : List (Key × D)) : isOb (.dk b) = false := rfl
@[simp] theorem eZip_ap : eZip fa ρ = M.bind (fa ρ) zipG := rfl
@[simp] theorem eLL_ap : eLL a ρ = M.bind (a ρ) itemsG := rfl
@[simp] theorem eTT_ap : eTT a ρ = M.bind (a ρ) itemsG := rfl
@[simp] theorem items_lst (ds : List D) : itemsG (.lst ds) = .ok ds := rfl
@[simp] theorem items_tup (ds : List D) : itemsG (.tup ds) = .ok ds := rfl
@[simp] theorem items_fz (ds : List D) : itemsG (.fz ds) = .ok ds := rfl
@[simp] theorem items_kt (ds : List D) : itemsG (.kt ds) = .ok ds := rfl
@[simp] theorem eR1_ap : eR1 fa ρ = M.bind (fa ρ) fun d => match d with
  | [.int j] => if -(2 ^ 62) ≤ j ∧ j < 2 ^ 62 then .ok (rngD 0 j.toNat) else .er
  | _ => .er := rfl
@[simp] theorem cYes_ap : cYes ρ = .ok true := rfl
@[simp] theorem eComp_ap (ks : List Nat) (fi : Rho → M (List D)) (tg : D → Rho → Option Rho) : eComp ks fi tg fb a ρ = M.bind (fi ρ) fun ds =>
  if ds.length ≤ sizeLine then M.bind (compL tg fb a (wipeR ks ρ) ds) fun ys => .ok (.lst ys) else .er := rfl
@[simp] theorem sNil_ap : sNil ρ = .nx ρ := rfl
@[simp] theorem sSeq_ap : sSeq f g ρ = thenR (f ρ) g := rfl
@[simp] theorem sIf_ap : sIf fb f g ρ = ofMB ρ (fun b => if b = true then f ρ else g ρ) (fb ρ) := rfl
@[simp] theorem sRet_ap : sRet a ρ = ofM ρ (fun d => .rt d) (a ρ) := rfl
@[simp] theorem sDrop_ap : sDrop a ρ = ofM ρ (fun _ => .nx ρ) (a ρ) := rfl
@[simp] theorem sSh_ap : sSh i a ρ = ofM ρ (fun d => .nx (ρ.set i (.sh d))) (a ρ) := rfl
@[simp] theorem sFr_ap : sFr i a ρ = ofM ρ (fun d => .nx (ρ.set i (.fr d))) (a ρ) := rfl
@[simp] theorem sOw_ap : sOw i a ρ = ofM ρ (fun d => if isMut d = true then .nx (ρ.set i (.ow d)) else .er) (a ρ) := rfl
@[simp] theorem sShare_ap : sShare i f ρ = f (shareR i ρ) := rfl
@[simp] theorem shareR_ap : shareR i ρ = match ρ[i]? with | some (.ow d) => if isObj d = true then ρ else ρ.set i (.fr d) | _ => ρ := rfl
@[simp] theorem isObj_lst (b : List D) : isObj (.lst b) = false := rfl
@[simp] theorem isObj_dct (b : List (List Key × D)) : isObj (.dct b) = false := rfl
@[simp] theorem isObj_dk (b : List (Key × D)) : isObj (.dk b) = false := rfl
@[simp] theorem isObj_obj (p : Addr) (c : Str) (ns : List Str) (b : List D) : isObj (.obj p c ns b) = true := rfl
@[simp] theorem wipeR_nil : wipeR [] ρ = ρ := rfl
@[simp] theorem wipeR_cons (ks : List Nat) : wipeR (i :: ks) ρ = (wipeR ks ρ).set i .no := rfl
@[simp] theorem wipeS_nx (ks : List Nat) : wipeS ks (.nx ρ) = .nx (wipeR ks ρ) := rfl
@[simp] theorem wipeS_bk (ks : List Nat) : wipeS ks (.bk ρ) = .bk (wipeR ks ρ) := rfl
@[simp] theorem wipeS_ct (ks : List Nat) : wipeS ks (.ct ρ) = .ct (wipeR ks ρ) := rfl
@[simp] theorem wipeS_rt (ks : List Nat) (d : D) : wipeS ks (.rt d) = .rt d := rfl
@[simp] theorem wipeS_ex (ks : List Nat) (d : Xc) : wipeS ks (.ex d ρ) = .ex d ρ := rfl
@[simp] theorem sWipe_ap (ks : List Nat) : sWipe ks f ρ = wipeS ks (f ρ) := rfl
@[simp] theorem sFor_ap (fi : Rho → M (List D)) (tg : D → Rho → Option Rho) : sFor fi tg f ρ = match fi ρ with | .ok ds => forR tg f ds ρ | .ex c => .ex c ρ | .er => .er := rfl
@[simp] theorem sWhile_ap (n : Nat) : sWhile n fb f ρ = whileN fb f n ρ := rfl
@[simp] theorem tgN_ap (d : D) : tgN i d ρ = some (ρ.set i (.sh d)) := rfl
@[simp] theorem tgNil_ap (ds : List D) : tgNil ds ρ = match ds with | [] => some ρ | _ => none := rfl
@[simp] theorem tgCons_ap (t : D → Rho → Option Rho) (u : List D → Rho → Option Rho) (ds : List D) : tgCons t u ds ρ = match ds with
  | d :: r => (match t d ρ with | some ρ' => u r ρ' | none => none)
  | [] => none := rfl
@[simp] theorem tgT_ap (n : Nat) (u : List D → Rho → Option Rho) (d : D) : tgT n u d ρ = match d with
  | .tup ds => if ds.length = n then u ds ρ else none
  | .kt ds => if ds.length = n then u ds ρ else none
  | _ => none := rfl
@[simp] theorem sUnp_ap (t : D → Rho → Option Rho) : sUnp a t ρ = ofM ρ (fun d => match t d ρ with | some ρ' => .nx ρ' | none => .er) (a ρ) := rfl
@[simp] theorem sBm_ap (eff : List D → List D → M (List D)) : sBm i eff fa ρ = match ρ[i]? with
  | some (.ow (.lst ds)) => (match fa ρ with
    | .ok as => (match eff ds as with | .ok ds' => .nx (ρ.set i (.ow (.lst ds'))) | _ => .er)
    | .ex c => .ex c ρ
    | .er => .er)
  | _ => .er := rfl
@[simp] theorem sPut_ap : sPut i a b ρ = match ρ[i]? with
  | some (.ow (.dct kvs)) => ofM ρ (fun v => ofM ρ (fun k => match k with
    | .tup ks => (match keyOf ks with
      | some ks => if kvs.length < sizeLine then .nx (ρ.set i (.ow (.dct (putT kvs ks v)))) else .er
      | none => .er)
    | _ => .er) (a ρ)) (b ρ)
  | _ => .er := rfl
end
/-! ### operators at work -/
@[simp] theorem in_ap (x y : D) : inG x y = M.bind (inB_ x y) fun b => .ok (.bl b) := rfl
@[simp] theorem nin_ap (x y : D) : ninG x y = M.bind (inB_ x y) fun b => .ok (.bl (!b)) := rfl
@[simp] theorem isN_non (x : D) : isNG x .non = .ok (.bl (isNonD x)) := by cases x <;> rfl
@[simp] theorem isNonD_non : isNonD .non = true := rfl
@[simp] theorem isNonD_int (i : Int) : isNonD (.int i) = false := rfl
@[simp] theorem isNonD_bl (i : Bool) : isNonD (.bl i) = false := rfl
@[simp] theorem isNonD_str (i : Str) : isNonD (.str i) = false := rfl
@[simp] theorem isNonD_tup (ds : List D) : isNonD (.tup ds) = false := rfl
@[simp] theorem isNonD_lst (ds : List D) : isNonD (.lst ds) = false := rfl
@[simp] theorem inst_int_int (i : Int) : instD .int (.int i) = true := rfl
@[simp] theorem inst_bool_int (i : Int) : instD .bool (.int i) = false := rfl
@[simp] theorem inst_list_int (i : Int) : instD .list (.int i) = false := rfl
@[simp] theorem inst_tuple_int (i : Int) : instD .tuple (.int i) = false := rfl
@[simp] theorem inst_str_int (i : Int) : instD .str (.int i) = false := rfl
@[simp] theorem inst_list_lst (ds : List D) : instD .list (.lst ds) = true := rfl
@[simp] theorem inst_tuple_lst (ds : List D) : instD .tuple (.lst ds) = false := rfl
@[simp] theorem inst_bool_lst (ds : List D) : instD .bool (.lst ds) = false := rfl
@[simp] theorem inst_int_lst (ds : List D) : instD .int (.lst ds) = false := rfl
@[simp] theorem inst_str_lst (ds : List D) : instD .str (.lst ds) = false := rfl
@[simp] theorem inst_list_tup (ds : List D) : instD .list (.tup ds) = false := rfl
@[simp] theorem inst_tuple_tup (ds : List D) : instD .tuple (.tup ds) = true := rfl
@[simp] theorem inst_bool_tup (ds : List D) : instD .bool (.tup ds) = false := rfl
@[simp] theorem inst_int_tup (ds : List D) : instD .int (.tup ds) = false := rfl
@[simp] theorem inst_str_tup (ds : List D) : instD .str (.tup ds) = false := rfl
@[simp] theorem inst_str_str (z : Str) : instD .str (.str z) = true := rfl
@[simp] theorem inst_list_str (z : Str) : instD .list (.str z) = false := rfl
@[simp] theorem inst_tuple_str (z : Str) : instD .tuple (.str z) = false := rfl
@[simp] theorem inst_bool_str (z : Str) : instD .bool (.str z) = false := rfl
@[simp] theorem inst_int_str (z : Str) : instD .int (.str z) = false := rfl
@[simp] theorem inst_bool_bl (z : Bool) : instD .bool (.bl z) = true := rfl
@[simp] theorem inst_int_bl (z : Bool) : instD .int (.bl z) = true := rfl
@[simp] theorem inst_list_bl (z : Bool) : instD .list (.bl z) = false := rfl
@[simp] theorem inst_tuple_bl (z : Bool) : instD .tuple (.bl z) = false := rfl
@[simp] theorem inst_str_bl (z : Bool) : instD .str (.bl z) = false := rfl
@[simp] theorem inst_bool_non : instD .bool .non = false := rfl
@[simp] theorem inst_int_non : instD .int .non = false := rfl
@[simp] theorem inst_list_non : instD .list .non = false := rfl
@[simp] theorem inst_tuple_non : instD .tuple .non = false := rfl
@[simp] theorem inst_str_non : instD .str .non = false := rfl
@[simp] theorem all_lst (ds : List D) : allG [.lst ds] = match bools ds with | some bs => .ok (.bl (bs.all id)) | none => .er := rfl
@[simp] theorem zip_ll (xs ys : List D) : zipG [.lst xs, .lst ys] = .ok (zipD xs ys) := rfl
@[simp] theorem sub_ii (i j : Int) : subG (.int i) (.int j) = .ok (.int (i - j)) := rfl
@[simp] theorem add_ii (i j : Int) : addG (.int i) (.int j) = .ok (.int (i + j)) := rfl
@[simp] theorem lt_ii (i j : Int) : ltG (.int i) (.int j) = .ok (.bl (decide (i < j))) := rfl
@[simp] theorem lt_ss (i j : Str) : ltG (.str i) (.str j) = .ok (.bl (decide (i.cps.toList < j.cps.toList))) := rfl
@[simp] theorem gt_ii (i j : Int) : gtG (.int i) (.int j) = .ok (.bl (decide (j < i))) := rfl
@[simp] theorem ge_ii (i j : Int) : geG (.int i) (.int j) = .ok (.bl (decide (j ≤ i))) := rfl
@[simp] theorem eq_ii (i j : Int) : eqG (.int i) (.int j) = .ok (.bl (decide (i = j))) := rfl
@[simp] theorem eq_bb (i j : Bool) : eqG (.bl i) (.bl j) = .ok (.bl (decide (i = j))) := rfl
@[simp] theorem eq_ss (i j : Str) : eqG (.str i) (.str j) = .ok (.bl (decide (i = j))) := rfl
@[simp] theorem eq_nn : eqG .non .non = .ok (.bl true) := rfl
@[simp] theorem ne_ii (i j : Int) : neG (.int i) (.int j) = .ok (.bl (!decide (i = j))) := rfl
@[simp] theorem ne_bb (i j : Bool) : neG (.bl i) (.bl j) = .ok (.bl (!decide (i = j))) := rfl
@[simp] theorem ne_ss (i j : Str) : neG (.str i) (.str j) = .ok (.bl (!decide (i = j))) := rfl
@[simp] theorem toB_bl (b : Bool) : toB (.bl b) = .ok b := rfl
@[simp] theorem tru_bl (b : Bool) : truG (.bl b) = .ok b := rfl
@[simp] theorem tru_lst (ds : List D) : truG (.lst ds) = .ok (!ds.isEmpty) := rfl
@[simp] theorem tru_tup (ds : List D) : truG (.tup ds) = .ok (!ds.isEmpty) := rfl
@[simp] theorem tru_int (i : Int) : truG (.int i) = .ok (i != 0) := rfl
@[simp] theorem tru_non : truG .non = .ok false := rfl
@[simp] theorem abs_i (i : Int) : absG [.int i] = .ok (.int (if i < 0 then -i else i)) := rfl
@[simp] theorem len_lst (ds : List D) : lenG [.lst ds] = .ok (.int ds.length) := rfl
@[simp] theorem len_fz (ds : List D) : lenG [.fz ds] = .ok (.int ds.length) := rfl
@[simp] theorem len_tup (ds : List D) : lenG [.tup ds] = .ok (.int ds.length) := rfl
@[simp] theorem len_kt (ds : List D) : lenG [.kt ds] = .ok (.int ds.length) := rfl
@[simp] theorem lf_int (i : Int) : lf (.int i) = true := by simp [lf]
@[simp] theorem lf_bl (i : Bool) : lf (.bl i) = true := by simp [lf]
@[simp] theorem lf_str (i : Str) : lf (.str i) = true := by simp [lf]
@[simp] theorem lf_non : lf .non = true := by simp [lf]
@[simp] theorem lf_tup (ds : List D) : lf (.tup ds) = lfA ds := by simp [lf]
@[simp] theorem lf_kt (ds : List D) : lf (.kt ds) = lfA ds := by simp [lf]
@[simp] theorem lfA_nil : lfA [] = true := by simp [lfA]
@[simp] theorem lfA_cons (d : D) (ds : List D) : lfA (d :: ds) = (lf d && lfA ds) := by simp [lfA]
@[simp] theorem lfA_ap (xs ys : List D) : lfA (xs ++ ys) = (lfA xs && lfA ys) := by
  induction xs with
  | nil => simp
  | cons x xs ih => simp [ih, Bool.and_assoc]
theorem lfA_map {α : Type} {e : α → D} (h : ∀ x, lf (e x) = true) : ∀ xs : List α, lfA (xs.map e) = true
  | [] => rfl
  | x :: xs => by simp [h, lfA_map h xs]
@[simp] theorem lfA_ints (xs : List Int) : lfA (xs.map D.int) = true := lfA_map lf_int xs
@[simp] theorem isMut_lst (ds : List D) : isMut (.lst ds) = lfA ds := rfl
@[simp] theorem isMut_dct (ds : List (List Key × D)) : isMut (.dct ds) = lfT ds := rfl
@[simp] theorem appE_1 (ds : List D) (d : D) : appE ds [d] = if ds.length < sizeLine then .ok (ds ++ [d]) else .er := rfl
@[simp] theorem idx_lst (ds : List D) (i : Int) : idxG (.lst ds) (.int i) = match atI ds i with | some d => .ok d | none => .er := rfl
@[simp] theorem idx_tup (ds : List D) (i : Int) : idxG (.tup ds) (.int i) = match atI ds i with | some d => .ok d | none => .er := rfl
@[simp] theorem idx_kt (ds : List D) (i : Int) : idxG (.kt ds) (.int i) = match atI ds i with | some d => .ok d | none => .er := rfl
@[simp] theorem idx_fz (ds : List D) (i : Int) : idxG (.fz ds) (.int i) = match atI ds i with | some d => .ok d | none => .er := rfl
@[simp] theorem tuple_lst (ds : List D) : tupleG [.lst ds] = if lfA ds = true then .ok (.tup ds) else .er := rfl
@[simp] theorem tuple_tup (ds : List D) : tupleG [.tup ds] = if lfA ds = true then .ok (.tup ds) else .er := rfl
@[simp] theorem list_lst (ds : List D) : listG [.lst ds] = if lfA ds = true then .ok (.lst ds) else .er := rfl
@[simp] theorem list_tup (ds : List D) : listG [.tup ds] = if lfA ds = true then .ok (.lst ds) else .er := rfl
theorem mul_ok {i j : Int} (h : (-(2 ^ 64) < i ∧ i < 2 ^ 64) ∨ (-(2 ^ 64) < j ∧ j < 2 ^ 64)) : mulG (.int i) (.int j) = .ok (.int (i * j)) := if_pos h
theorem fdiv_ok {i j : Int} (h : 0 < j ∧ j < 1073741824) : fdivG (.int i) (.int j) = .ok (.int (i / j)) := if_pos h
theorem fdivN_ok {i j : Int} (h : 0 < j ∧ j < 1073741824) : fdivNG (.int i) (.int j) = .ok (.int (i / j)) := by
  have e : fdivNG (.int i) (.int j) = .ok (.int (i.fdiv j)) := if_pos (show j ≠ 0 ∧ j.natAbs < 1073741824 by omega)
  rw [e, Int.fdiv_eq_ediv_of_nonneg i (by omega)]
theorem mod_ok {i j : Int} (h : 0 < j) : modG (.int i) (.int j) = .ok (.int (i % j)) := if_pos h
theorem pow_ok {i j : Int} (h : 0 ≤ j ∧ j ≤ 1000000 ∧ i.natAbs < 2 ^ 64) : powG (.int i) (.int j) = .ok (.int (i ^ j.toNat)) := if_pos h
@[simp] theorem pow_10_18 : powG (.int 10) (.int 18) = .ok (.int (10 ^ 18)) := pow_ok (by decide)
@[simp] theorem pow_10_30 : powG (.int 10) (.int 30) = .ok (.int (10 ^ 30)) := pow_ok (by decide)
/-! ### what stands at a place -/
theorem atI_ok {α : Type} {xs : List α} {i : Int} {x : α} (h0 : 0 ≤ i) (h : xs[i.toNat]? = some x) : atI xs i = some x := by
  have hl : i.toNat < xs.length := (List.getElem?_eq_some_iff.mp h).1
  unfold atI ixN
  rw [if_pos h0, if_pos (by omega)]
  exact h
@[simp] theorem atI_0 {α : Type} (x : α) (xs : List α) : atI (x :: xs) 0 = some x := atI_ok (by decide) rfl
@[simp] theorem atI_1 {α : Type} (x y : α) (xs : List α) : atI (x :: y :: xs) 1 = some y := atI_ok (by decide) rfl
@[simp] theorem atI_2 {α : Type} (x y z : α) (xs : List α) : atI (x :: y :: z :: xs) 2 = some z := atI_ok (by decide) rfl
@[simp] theorem atI_3 {α : Type} (x y z w : α) (xs : List α) : atI (x :: y :: z :: w :: xs) 3 = some w := atI_ok (by decide) rfl
@[simp] theorem atI_4 {α : Type} (x y z w u : α) (xs : List α) : atI (x :: y :: z :: w :: u :: xs) 4 = some u := atI_ok (by decide) rfl
@[simp] theorem atI_5 {α : Type} (x y z w u v : α) (xs : List α) : atI (x :: y :: z :: w :: u :: v :: xs) 5 = some v := atI_ok (by decide) rfl
/-! ### loops -/
/-- one turn -/
def turn (tg : D → Rho → Option Rho) (b : Rho → Res) (d : D) (ρ : Rho) : Res := match tg d ρ with
  | none => .er
  | some ρ1 => b ρ1
def nextR (r : Res) (g : Rho → Res) : Res := match r with
  | .nx ρ => g ρ
  | .ct ρ => g ρ
  | .bk ρ => .nx ρ
  | .rt d => .rt d
  | .ex c ρ => .ex c ρ
  | .er => .er
  | .rs d ρ => .rs d ρ
@[simp] theorem next_rs (d : D) (ρ : Rho) (g : Rho → Res) : nextR (.rs d ρ) g = .rs d ρ := rfl
@[simp] theorem next_nx (ρ : Rho) (g : Rho → Res) : nextR (.nx ρ) g = g ρ := rfl
@[simp] theorem next_ct (ρ : Rho) (g : Rho → Res) : nextR (.ct ρ) g = g ρ := rfl
@[simp] theorem next_bk (ρ : Rho) (g : Rho → Res) : nextR (.bk ρ) g = .nx ρ := rfl
@[simp] theorem next_rt (d : D) (g : Rho → Res) : nextR (.rt d) g = .rt d := rfl
@[simp] theorem next_ex (c : Xc) (ρ : Rho) (g : Rho → Res) : nextR (.ex c ρ) g = .ex c ρ := rfl
@[simp] theorem turn_N (i : Nat) (b : Rho → Res) (d : D) (ρ : Rho) : turn (tgN i) b d ρ = b (ρ.set i (.sh d)) := rfl
theorem forR_cons (tg : D → Rho → Option Rho) (b : Rho → Res) (d : D) (ds : List D) (ρ : Rho) : forR tg b (d :: ds) ρ = nextR (turn tg b d ρ) (forR tg b ds) := by
  unfold turn
  rw [forR]
  cases tg d ρ with
  | none => rfl
  | some ρ1 =>
    show (match b ρ1 with | .nx ρ2 => _ | .ct ρ2 => _ | .bk ρ2 => _ | .rt d => _ | .ex c ρ2 => _ | .er => _ | .rs d ρ2 => _) = nextR (b ρ1) _
    cases b ρ1 <;> rfl
@[simp] theorem forR_nil (tg : D → Rho → Option Rho) (b : Rho → Res) (ρ : Rho) : forR tg b [] ρ = .nx ρ := rfl
section
variable {α β : Type} {tg : D → Rho → Option Rho} {b : Rho → Res}
theorem forR_fold (e : β → D) (st : α → Rho) (I : α → Prop) (g : α → β → α) : ∀ (xs : List β) (s : α), I s → (∀ s x, x ∈ xs → I s → I (g s x) ∧ turn tg b (e x) (st s) = .nx (st (g s x))) →
    forR tg b (xs.map e) (st s) = .nx (st (xs.foldl g s)) ∧ I (xs.foldl g s)
  | [], s, hs, _ => ⟨rfl, hs⟩
  | x :: xs, s, hs, h => by
    obtain ⟨h1, h2⟩ := h s x List.mem_cons_self hs
    rw [List.map_cons, forR_cons, h2]
    exact forR_fold e st I g xs _ h1 fun s y hy => h s y (List.mem_cons_of_mem _ hy)
/-- an accumulator that grows -/
theorem forR_acc (e : β → D) (st : List D → Rho) (g : β → List D) : ∀ (xs : List β) (acc : List D) (n : Nat), acc.length + (xs.flatMap g).length ≤ n → (∀ acc x, x ∈ xs → acc.length + (g x).length ≤ n → turn tg b (e x) (st acc) = .nx (st (acc ++ g x))) →
    forR tg b (xs.map e) (st acc) = .nx (st (acc ++ xs.flatMap g))
  | [], acc, n, _, _ => by simp
  | x :: xs, acc, n, hn, h => by
    simp only [List.flatMap_cons, List.length_append] at hn
    rw [List.map_cons, forR_cons, h acc x List.mem_cons_self (by omega), next_nx, List.flatMap_cons, ← List.append_assoc]
    refine forR_acc e st g xs (acc ++ g x) n (by simp only [List.length_append]; omega) fun acc y hy => h acc y (List.mem_cons_of_mem _ hy)
theorem forR_find (e : β → D) (p : β → Bool) (r : β → D) (ρ : Rho) : ∀ (xs : List β), (∀ x, x ∈ xs → turn tg b (e x) ρ = if p x = true then .rt (r x) else .nx ρ) →
    forR tg b (xs.map e) ρ = match xs.find? p with | some x => .rt (r x) | none => .nx ρ
  | [], _ => rfl
  | x :: xs, h => by
    rw [List.map_cons, forR_cons, h x List.mem_cons_self, List.find?_cons]
    cases p x with
    | true => rfl
    | false => simpa using forR_find e p r ρ xs fun y hy => h y (List.mem_cons_of_mem _ hy)
/-- a turn of a comprehension -/
def pickC (tg : D → Rho → Option Rho) (c : Rho → M Bool) (f : Rho → M D) (d : D) (ρ : Rho) : M (Option D) := match tg d ρ with
  | none => .er
  | some ρ1 => match c ρ1 with
    | .ok true => (match f ρ1 with | .ok y => .ok (some y) | _ => .er)
    | .ok false => .ok none
    | _ => .er
variable {c : Rho → M Bool} {f : Rho → M D}
@[simp] theorem pick_all (d : D) (ρ : Rho) : pickC tg cYes f d ρ = match tg d ρ with
  | none => .er
  | some ρ1 => (match f ρ1 with | .ok y => .ok (some y) | _ => .er) := by
  unfold pickC
  cases tg d ρ <;> rfl
theorem compL_cons (ρ : Rho) (d : D) (ds : List D) : compL tg c f ρ (d :: ds) = M.bind (pickC tg c f d ρ) fun o => match o with
    | some y => M.bind (compL tg c f ρ ds) fun ys => .ok (y :: ys)
    | none => compL tg c f ρ ds := by
  unfold pickC
  rw [compL]
  cases tg d ρ with
  | none => rfl
  | some ρ1 =>
    simp only
    cases hc : c ρ1 with
    | ok k =>
      cases k with
      | true =>
        simp only
        cases f ρ1 <;> rfl
      | false => rfl
    | ex _ => rfl
    | er => rfl
theorem compL_pick (e : β → D) (ρ : Rho) (g : β → Option D) : ∀ (xs : List β), (∀ x, x ∈ xs → pickC tg c f (e x) ρ = .ok (g x)) → compL tg c f ρ (xs.map e) = .ok (xs.filterMap g)
  | [], _ => rfl
  | x :: xs, h => by
    rw [List.map_cons, compL_cons, h x List.mem_cons_self, compL_pick e ρ g xs fun y hy => h y (List.mem_cons_of_mem _ hy), bind_ok]
    cases hg : g x with
    | none => rw [List.filterMap_cons_none hg]
    | some y => rw [List.filterMap_cons_some hg]; rfl
theorem compL_map (e : β → D) (ρ : Rho) (g : β → D) (xs : List β) (h : ∀ x, x ∈ xs → pickC tg c f (e x) ρ = .ok (some (g x))) : compL tg c f ρ (xs.map e) = .ok (xs.map g) := by
  rw [compL_pick e ρ (fun x => some (g x)) xs h]
  congr 1
  induction xs with
  | nil => rfl
  | cons x xs ih => simp only [List.filterMap_cons, ih fun y hy => h y (List.mem_cons_of_mem _ hy), List.map_cons]
theorem compL_filt (e : β → D) (ρ : Rho) (p : β → Bool) (g : β → D) (xs : List β) (h : ∀ x, x ∈ xs → pickC tg c f (e x) ρ = .ok (if p x = true then some (g x) else none)) : compL tg c f ρ (xs.map e) = .ok ((xs.filter p).map g) := by
  rw [compL_pick e ρ (fun x => if p x = true then some (g x) else none) xs h]
  congr 1
  induction xs with
  | nil => rfl
  | cons x xs ih =>
    have ih := ih fun y hy => h y (List.mem_cons_of_mem _ hy)
    cases hp : p x with
    | true => rw [List.filterMap_cons_some (by rw [hp]; rfl), List.filter_cons_of_pos hp, ih]; rfl
    | false => rw [List.filterMap_cons_none (by rw [hp]; rfl), List.filter_cons_of_neg (by rw [hp]; decide), ih]
end
@[simp] theorem rngD_len (lo : Int) (n : Nat) : (rngD lo n).length = n := by simp [rngD]
theorem rngD_map (lo : Int) (n : Nat) : rngD lo n = (List.range n).map fun i => D.int (lo + (i : Nat)) := rfl
end VL
set_option Elab.async false
set_option linter.all false
set_option maxRecDepth 100000
/-! VM2: places, ranges. -/
namespace VL
open PySem L2 PySem.Spec PyProof.Rows
abbrev P3 := Int × Int × Int
def e3 (p : P3) : D := .tup [.int p.1, .int p.2.1, .int p.2.2]
@[simp] theorem isOb_e3 (p : P3) : isOb (e3 p) = false := rfl
@[simp] theorem lf_e3 (p : P3) : lf (e3 p) = true := by simp [e3]
@[simp] theorem lfA_e3 (xs : List P3) : lfA (xs.map e3) = true := lfA_map lf_e3 xs
@[simp] theorem inst_tuple_e3 (p : P3) : instD .tuple (e3 p) = true := rfl
@[simp] theorem inst_list_e3 (p : P3) : instD .list (e3 p) = false := rfl
@[simp] theorem inst_bool_e3 (p : P3) : instD .bool (e3 p) = false := rfl
@[simp] theorem inst_int_e3 (p : P3) : instD .int (e3 p) = false := rfl
@[simp] theorem inst_str_e3 (p : P3) : instD .str (e3 p) = false := rfl
@[simp] theorem isNonD_e3 (p : P3) : isNonD (e3 p) = false := rfl
@[simp] theorem len_e3 (p : P3) : lenG [e3 p] = .ok (.int 3) := rfl
@[simp] theorem idx_e3_0 (p : P3) : idxG (e3 p) (.int 0) = .ok (.int p.1) := by simp [e3]
@[simp] theorem idx_e3_1 (p : P3) : idxG (e3 p) (.int 1) = .ok (.int p.2.1) := by simp [e3]
@[simp] theorem idx_e3_2 (p : P3) : idxG (e3 p) (.int 2) = .ok (.int p.2.2) := by simp [e3]
@[simp] theorem list_e3 (p : P3) : listG [e3 p] = .ok (.lst [.int p.1, .int p.2.1, .int p.2.2]) := by simp [e3]
@[simp] theorem tuple_e3 (p : P3) : tupleG [e3 p] = .ok (e3 p) := by simp [e3]
@[simp] theorem shaped_e3 (p : P3) : SeqAt.shaped (toP (e3 p)) = true := by simp [e3, toP, toPA, SeqAt.shaped, PyData.canLay0, PyData.canLayAll0, PyData.depth, PyData.depthAll]
theorem eqv_e3 (p q : P3) : PyData.eqv (toP (e3 p)) (toP (e3 q)) = decide (p = q) := by
  obtain ⟨a, b, c⟩ := p
  obtain ⟨x, y, z⟩ := q
  rw [Bool.eq_iff_iff]
  simp [e3, toP, toPA, PyData.eqv, PyData.eqvAll, Prod.ext_iff]
@[simp] theorem eq_e3 (p q : P3) : eqG (e3 p) (e3 q) = .ok (.bl (decide (p = q))) := by
  have h : eqG (e3 p) (e3 q) = if SeqAt.shaped (toP (e3 p)) = true ∧ SeqAt.shaped (toP (e3 q)) = true then M.ok (D.bl (PyData.eqv (toP (e3 p)) (toP (e3 q)))) else M.er := by rfl
  rw [h, if_pos ⟨shaped_e3 p, shaped_e3 q⟩, eqv_e3]
@[simp] theorem items_e3 (p : P3) : itemsG (e3 p) = .ok [.int p.1, .int p.2.1, .int p.2.2] := rfl
def rng (n : Int) : List Int := (List.range n.toNat).map fun (i : Nat) => (i : Int)
theorem rngD_0 (n : Int) : rngD 0 n.toNat = (rng n).map D.int := by
  rw [rngD_map, rng, List.map_map]
  exact List.map_congr_left fun i _ => by simp
theorem mem_rng {n x : Int} : x ∈ rng n ↔ 0 ≤ x ∧ x < n := by
  unfold rng
  rw [List.mem_map]
  constructor
  · rintro ⟨i, hi, rfl⟩
    have := List.mem_range.mp hi
    omega
  · intro h
    exact ⟨x.toNat, List.mem_range.mpr (by omega), by omega⟩
@[simp] theorem rng_len (n : Int) : (rng n).length = n.toNat := by simp [rng]
def places (s : P3) : List P3 := (rng s.1).flatMap fun x => (rng s.2.1).flatMap fun y => (rng s.2.2).map fun z => (x, y, z)
theorem mem_places {s p : P3} : p ∈ places s ↔ (0 ≤ p.1 ∧ p.1 < s.1) ∧ (0 ≤ p.2.1 ∧ p.2.1 < s.2.1) ∧ (0 ≤ p.2.2 ∧ p.2.2 < s.2.2) := by
  unfold places
  simp only [List.mem_flatMap, List.mem_map, mem_rng]
  constructor
  · rintro ⟨x, hx, y, hy, z, hz, rfl⟩
    exact ⟨hx, hy, hz⟩
  · rintro ⟨hx, hy, hz⟩
    exact ⟨p.1, hx, p.2.1, hy, p.2.2, hz, rfl⟩
theorem flatMap_len {α β : Type} (f : α → List β) (n : Nat) : ∀ xs : List α, (∀ x, x ∈ xs → (f x).length = n) → (xs.flatMap f).length = xs.length * n
  | [], _ => by simp
  | x :: xs, h => by
    rw [List.flatMap_cons, List.length_append, h x List.mem_cons_self, flatMap_len f n xs fun y hy => h y (List.mem_cons_of_mem _ hy), List.length_cons, Nat.add_mul, Nat.one_mul, Nat.add_comm]
theorem places_len (s : P3) : (places s).length = s.1.toNat * (s.2.1.toNat * s.2.2.toNat) := by
  unfold places
  rw [flatMap_len _ (s.2.1.toNat * s.2.2.toNat), rng_len]
  intro x _
  rw [flatMap_len _ s.2.2.toNat, rng_len]
  intro y _
  simp
theorem prod3_le {a b c n : Nat} (ha : a ≤ n) (hb : b ≤ n) (hc : c ≤ n) : a * (b * c) ≤ n * (n * n) := Nat.mul_le_mul ha (Nat.mul_le_mul hb hc)
/-- sizes of a block -/
def Sz (n : Int) (s : P3) : Prop := (1 ≤ s.1 ∧ s.1 ≤ n) ∧ (1 ≤ s.2.1 ∧ s.2.1 ≤ n) ∧ (1 ≤ s.2.2 ∧ s.2.2 ≤ n)
theorem Sz.len {n : Nat} {s : P3} (h : Sz n s) : (places s).length ≤ n * (n * n) := by
  rw [places_len]
  obtain ⟨h1, h2, h3⟩ := h
  exact prod3_le (by omega) (by omega) (by omega)
@[simp] theorem zipD_nil (ys : List D) : zipD [] ys = [] := by cases ys <;> rfl
@[simp] theorem rngD_01 : rngD 0 1 = [.int 0] := rfl
@[simp] theorem rngD_02 : rngD 0 2 = [.int 0, .int 1] := rfl
@[simp] theorem rngD_03 : rngD 0 3 = [.int 0, .int 1, .int 2] := rfl
@[simp] theorem rngD_06 : rngD 0 6 = [.int 0, .int 1, .int 2, .int 3, .int 4, .int 5] := rfl
def inB (s p : P3) : Bool := (decide (0 ≤ p.1) && decide (p.1 < s.1)) && ((decide (0 ≤ p.2.1) && decide (p.2.1 < s.2.1)) && (decide (0 ≤ p.2.2) && decide (p.2.2 < s.2.2)))
theorem inB_iff {s p : P3} : inB s p = true ↔ (0 ≤ p.1 ∧ p.1 < s.1) ∧ (0 ≤ p.2.1 ∧ p.2.1 < s.2.1) ∧ (0 ≤ p.2.2 ∧ p.2.2 < s.2.2) := by simp [inB]
/-! ### steps -/
def stp (p w : P3) (m : Int) : P3 := (p.1 + m * w.1, p.2.1 + m * w.2.1, p.2.2 + m * w.2.2)
def Nz (w : P3) : Prop := w.1 ≠ 0 ∨ w.2.1 ≠ 0 ∨ w.2.2 ≠ 0
theorem stp_stp (p w : P3) (a b : Int) : stp (stp p w a) w b = stp p w (a + b) := by
  simp only [stp, Int.add_mul]
  refine Prod.ext ?_ (Prod.ext ?_ ?_) <;> simp only <;> omega
@[simp] theorem stp_0 (p w : P3) : stp p w 0 = p := by simp [stp]
/-- how far it is from the edge, against the way -/
def mu (s w p : P3) : Nat := if 0 < w.1 then p.1.toNat else if w.1 < 0 then (s.1 - p.1).toNat else if 0 < w.2.1 then p.2.1.toNat else if w.2.1 < 0 then (s.2.1 - p.2.1).toNat else if 0 < w.2.2 then p.2.2.toNat else (s.2.2 - p.2.2).toNat
theorem mu_lt {s w p : P3} (hw : Nz w) (h1 : inB s p = true) (h2 : inB s (stp p w (-1)) = true) : mu s w (stp p w (-1)) < mu s w p := by
  rw [inB_iff] at h1 h2
  unfold Nz at hw
  simp only [stp] at h2 ⊢
  unfold mu
  simp only
  repeat' split
  all_goals omega
theorem mu_le {n : Nat} {s w p : P3} (hs : Sz n s) (h1 : inB s p = true) : mu s w p ≤ n := by
  rw [inB_iff] at h1
  unfold Sz at hs
  unfold mu
  repeat' split
  all_goals omega
def back (s w : P3) : Nat → P3 → Nat
  | 0, _ => 0
  | n + 1, p => if inB s (stp p w (-1)) = true then back s w n (stp p w (-1)) + 1 else 0
theorem back_spec {s w : P3} (hw : Nz w) : ∀ (n : Nat) (p : P3), inB s p = true → mu s w p < n → (∀ i : Nat, i ≤ back s w n p → inB s (stp p w (-(i : Int))) = true) ∧ inB s (stp p w (-(back s w n p : Int) - 1)) = false ∧ back s w n p ≤ mu s w p
  | 0, _, _, h => by omega
  | n + 1, p, hp, h => by
    unfold back
    by_cases c : inB s (stp p w (-1)) = true
    · rw [if_pos c]
      have hl := mu_lt hw hp c
      obtain ⟨h1, h2, h3⟩ := back_spec hw n (stp p w (-1)) c (by omega)
      refine ⟨fun i hi => ?_, ?_, by omega⟩
      · cases i with
        | zero => simpa using hp
        | succ i =>
          have := h1 i (by omega)
          rw [stp_stp] at this
          rw [show (-((i + 1 : Nat) : Int)) = -1 + -(i : Int) by omega]
          exact this
      · rw [stp_stp] at h2
        rw [show (-((back s w n (stp p w (-1)) + 1 : Nat) : Int) - 1) = -1 + (-(back s w n (stp p w (-1)) : Int) - 1) by omega]
        exact h2
    · rw [if_neg c]
      refine ⟨fun i hi => ?_, ?_, Nat.zero_le _⟩
      · have : i = 0 := by omega
        subst this
        simpa using hp
      · simpa using c
def depth (s w p : P3) : Nat := back s w 1000 p
def door (s w p : P3) : P3 := stp p w (-(depth s w p : Int))
theorem depth_spec {s w p : P3} (hs : Sz 100 s) (hw : Nz w) (hp : inB s p = true) : (∀ i : Nat, i ≤ depth s w p → inB s (stp p w (-(i : Int))) = true) ∧ inB s (stp p w (-(depth s w p : Int) - 1)) = false ∧ depth s w p ≤ 100 := by
  have hm : mu s w p ≤ 100 := mu_le (n := 100) hs hp
  obtain ⟨h1, h2, h3⟩ := back_spec hw 1000 p hp (by omega)
  exact ⟨h1, h2, Nat.le_trans h3 hm⟩
def neg3 (w : P3) : P3 := (-w.1, -w.2.1, -w.2.2)
theorem stp_neg (p w : P3) (m : Int) : stp p (neg3 w) m = stp p w (-m) := by
  simp [stp, neg3, Int.mul_neg, Int.neg_mul]
theorem Nz.neg {w : P3} (h : Nz w) : Nz (neg3 w) := by
  unfold Nz neg3 at *
  simp only
  omega
/-- the line from a door on -/
def fore (s w d : P3) : Nat := depth s (neg3 w) d + 1
def line (s w d : P3) : List P3 := (List.range (fore s w d)).map fun i => stp d w (i : Nat)
theorem fore_spec {s w d : P3} (hs : Sz 100 s) (hw : Nz w) (hp : inB s d = true) : (∀ i : Nat, i < fore s w d → inB s (stp d w (i : Nat)) = true) ∧ inB s (stp d w (fore s w d : Nat)) = false ∧ fore s w d ≤ 101 := by
  obtain ⟨h1, h2, h3⟩ := depth_spec hs hw.neg hp
  unfold fore
  refine ⟨fun i hi => ?_, ?_, by omega⟩
  · have := h1 i (by omega)
    rw [stp_neg, Int.neg_neg] at this
    exact this
  · rw [stp_neg, show -(-(depth s (neg3 w) d : Int) - 1) = ((depth s (neg3 w) d + 1 : Nat) : Int) by omega] at h2
    exact h2
theorem canLay_e3s : ∀ xs : List P3, PyData.canLayAll0 (toPA (xs.map e3)) = true
  | [] => by simp [toPA, PyData.canLayAll0]
  | x :: xs => by simp [toPA, PyData.canLayAll0, canLay_e3s xs, e3, toP, PyData.canLay0]
theorem depth_e3s : ∀ xs : List P3, PyData.depthAll (toPA (xs.map e3)) ≤ 2
  | [] => by simp [toPA, PyData.depthAll]
  | x :: xs => by
    have := depth_e3s xs
    simp [toPA, PyData.depthAll, e3, toP, PyData.depth]
    omega
theorem shaped_e3s (xs : List P3) : SeqAt.shaped (toP (.lst (xs.map e3))) = true := by
  have h := depth_e3s xs
  simp only [toP, SeqAt.shaped, PyData.canLay0, PyData.depth, canLay_e3s, Bool.true_and, decide_eq_true_eq]
  omega
/-! ### ways -/
def Way (w : P3) : Prop := ((-3 ≤ w.1 ∧ w.1 ≤ 3) ∧ (-3 ≤ w.2.1 ∧ w.2.1 ≤ 3) ∧ (-3 ≤ w.2.2 ∧ w.2.2 ≤ 3)) ∧ Int.gcd (Int.gcd w.1 w.2.1) w.2.2 = 1
theorem Sz.le {m n : Int} {s : P3} (h : Sz m s) (hm : m ≤ n) : Sz n s := by
  unfold Sz at h ⊢
  omega
end VL
set_option Elab.async false
set_option linter.all false
set_option maxRecDepth 100000
/-! VM3: what hides what. -/
namespace VL
open PySem L2 PySem.Spec PyProof.Rows
def ones : List Int := [-1, 0, 1]
end VL
set_option Elab.async false
set_option linter.all false
set_option maxRecDepth 100000
/-! VM4: dicts by places; what is seen along a line. -/
namespace VL
open PySem L2 PySem.Spec PyProof.Rows
/-! ### dicts -/
def k3 (p : P3) : List Key := [.inl p.1, .inl p.2.1, .inl p.2.2]
theorem k3_inj {p q : P3} : k3 p = k3 q ↔ p = q := by
  constructor
  · intro h
    simp only [k3, List.cons.injEq, Sum.inl.injEq, and_true] at h
    exact Prod.ext h.1 (Prod.ext h.2.1 h.2.2)
  · rintro rfl
    rfl
@[simp] theorem keyOf_e3 (p : P3) : keyOf [.int p.1, .int p.2.1, .int p.2.2] = some (k3 p) := rfl
@[simp] theorem lookD_e3 (p : P3) (kvs : List (List Key × D)) : lookD (e3 p) (.dct kvs) = some (lookT kvs (k3 p)) := rfl
@[simp] theorem lookT_nil (k : List Key) : lookT [] k = none := rfl
theorem lookT_cons (kv : List Key × D) (kvs : List (List Key × D)) (k : List Key) : lookT (kv :: kvs) k = if kv.1 = k then some kv.2 else lookT kvs k := by
  unfold lookT
  rw [List.find?_cons]
  by_cases h : kv.1 = k
  · simp [h]
  · simp [h]
theorem lookT_append (xs ys : List (List Key × D)) (k : List Key) : lookT (xs ++ ys) k = (lookT xs k).or (lookT ys k) := by
  induction xs with
  | nil => rfl
  | cons x xs ih =>
    rw [List.cons_append, lookT_cons, lookT_cons, ih]
    split <;> rfl
theorem lookT_none {kvs : List (List Key × D)} {k : List Key} : lookT kvs k = none ↔ ¬ (kvs.any fun kv => decide (kv.1 = k)) = true := by
  induction kvs with
  | nil => simp
  | cons x xs ih =>
    rw [lookT_cons, List.any_cons]
    by_cases h : x.1 = k
    · simp [h]
    · simp [h, ih]
theorem lookT_map {kvs : List (List Key × D)} {k k' : List Key} {v : D} : lookT (kvs.map fun kv => if kv.1 = k then (kv.1, v) else kv) k' = if k' = k then (lookT kvs k').map fun _ => v else lookT kvs k' := by
  induction kvs with
  | nil => simp
  | cons x xs ih =>
    rw [List.map_cons, lookT_cons, lookT_cons, ih]
    by_cases h : x.1 = k <;> by_cases h' : k' = k <;> by_cases h2 : x.1 = k'
    all_goals first
      | (simp [h, h', h2]; done)
      | (subst h'; simp_all; done)
      | (exfalso; apply h'; rw [← h2, h])
      | (rw [if_pos h, if_neg (fun z => h' (z.symm.trans h)), if_neg h', if_neg (fun z => h2 z), if_neg h'])
      | skip
theorem lookT_put (kvs : List (List Key × D)) (k k' : List Key) (v : D) : lookT (putT kvs k v) k' = if k' = k then some v else lookT kvs k' := by
  unfold putT
  by_cases h : (kvs.any fun kv => decide (kv.1 = k)) = true
  · rw [if_pos h, lookT_map]
    by_cases h' : k' = k
    · subst h'
      rw [if_pos rfl, if_pos rfl]
      cases e : lookT kvs k' with
      | none => exact absurd h (lookT_none.mp e)
      | some d => rfl
    · rw [if_neg h', if_neg h']
  · rw [if_neg h, lookT_append, lookT_cons, lookT_nil]
    by_cases h' : k' = k
    · subst h'
      rw [lookT_none.mpr h, if_pos rfl]
      simp
    · rw [if_neg h', if_neg (fun z => h' z.symm), Option.or_none]
theorem putT_len (kvs : List (List Key × D)) (k : List Key) (v : D) : (putT kvs k v).length ≤ kvs.length + 1 := by
  unfold putT
  split <;> simp
@[simp] theorem lfT_nil : lfT [] = true := by simp [lfT]
@[simp] theorem lfT_cons (x : List Key × D) (xs : List (List Key × D)) : lfT (x :: xs) = (lf x.2 && lfT xs) := by simp [lfT]
/-- the marks of a stone -/
def markD (xs : List P3) (kvs : List (List Key × D)) : List (List Key × D) := xs.foldl (fun acc p => putT acc (k3 p) (.bl true)) kvs
def marksD (xs : List P3) : List (List Key × D) := markD xs []
theorem markD_len : ∀ (xs : List P3) (kvs : List (List Key × D)), (markD xs kvs).length ≤ kvs.length + xs.length
  | [], kvs => by simp [markD]
  | x :: xs, kvs => by
    have := markD_len xs (putT kvs (k3 x) (.bl true))
    have h2 := putT_len kvs (k3 x) (.bl true)
    simp only [markD, List.foldl_cons, List.length_cons] at this ⊢
    omega
theorem look_markD : ∀ (xs : List P3) (kvs : List (List Key × D)) (p : P3), lookT (markD xs kvs) (k3 p) = if p ∈ xs then some (.bl true) else lookT kvs (k3 p)
  | [], kvs, p => by simp [markD]
  | x :: xs, kvs, p => by
    show lookT (markD xs (putT kvs (k3 x) (.bl true))) (k3 p) = _
    rw [look_markD xs _ p, lookT_put]
    by_cases h : p ∈ xs
    · simp [h]
    · by_cases h2 : p = x
      · subst h2; simp
      · simp [h, h2, k3_inj]
theorem look_marks (xs : List P3) (p : P3) : lookT (marksD xs) (k3 p) = if p ∈ xs then some (.bl true) else none := look_markD xs [] p
@[simp] theorem in_marks (xs : List P3) (p : P3) : inB_ (e3 p) (.dct (marksD xs)) = .ok (decide (p ∈ xs)) := by
  unfold inB_
  rw [lookD_e3, look_marks]
  by_cases h : p ∈ xs <;> simp [h]
/-! ### lists of places, told apart -/
theorem eqvAll_e3s : ∀ xs ys : List P3, PyData.eqvAll (toPA (xs.map e3)) (toPA (ys.map e3)) = decide (xs = ys)
  | [], [] => by simp [toPA, PyData.eqvAll]
  | [], y :: ys => by simp [toPA, PyData.eqvAll]
  | x :: xs, [] => by simp [toPA, PyData.eqvAll]
  | x :: xs, y :: ys => by
    simp only [List.map_cons, toPA, PyData.eqvAll, eqv_e3, eqvAll_e3s xs ys]
    rw [Bool.eq_iff_iff]
    simp
@[simp] theorem eq_e3s (xs ys : List P3) : eqG (.lst (xs.map e3)) (.lst (ys.map e3)) = .ok (.bl (decide (xs = ys))) := by
  have h : eqG (.lst (xs.map e3)) (.lst (ys.map e3)) = if SeqAt.shaped (toP (.lst (xs.map e3))) = true ∧ SeqAt.shaped (toP (.lst (ys.map e3))) = true then M.ok (D.bl (PyData.eqv (toP (.lst (xs.map e3))) (toP (.lst (ys.map e3))))) else M.er := by rfl
  rw [h, if_pos ⟨shaped_e3s xs, shaped_e3s ys⟩]
  simp only [toP, PyData.eqv, eqvAll_e3s]
@[simp] theorem ne_e3s (xs ys : List P3) : neG (.lst (xs.map e3)) (.lst (ys.map e3)) = .ok (.bl (!decide (xs = ys))) := by
  unfold neG notM
  rw [eq_e3s]
  rfl
@[simp] theorem ne_e3 (p q : P3) : neG (e3 p) (e3 q) = .ok (.bl (!decide (p = q))) := by
  unfold neG notM
  rw [eq_e3]
  rfl
/-! ### the first of a kind -/
/-- nothing stands ahead of p, looked at along the way -/
def seenB (s w : P3) (M : P3 → Bool) (p : P3) : Bool := (List.range (depth s w p)).all fun i => !M (stp p w (-((i : Int) + 1)))
/-! ### doors and what is first on a line -/
theorem depth_unique {s w p : P3} {n : Nat} (hs : Sz 100 s) (hw : Nz w) (h1 : ∀ i : Nat, i ≤ n → inB s (stp p w (-(i : Int))) = true) (h2 : inB s (stp p w (-(n : Int) - 1)) = false) : depth s w p = n := by
  have hp : inB s p = true := by have := h1 0 (Nat.zero_le _); simpa using this
  obtain ⟨d1, d2, d3⟩ := depth_spec hs hw hp
  rcases Nat.lt_trichotomy (depth s w p) n with h | h | h
  · have := h1 (depth s w p + 1) h
    rw [show -((depth s w p + 1 : Nat) : Int) = -(depth s w p : Int) - 1 by omega, d2] at this
    cases this
  · exact h
  · have := d1 (n + 1) h
    rw [show -((n + 1 : Nat) : Int) = -(n : Int) - 1 by omega, h2] at this
    cases this
/-- a door: in the block, and what is ahead of it is not -/
def IsDoor (s w d : P3) : Prop := inB s d = true ∧ inB s (stp d w (-1)) = false
theorem IsDoor.depth {s w d : P3} (hs : Sz 100 s) (hw : Nz w) (h : IsDoor s w d) {i : Nat} (hi : i < fore s w d) : VL.depth s w (stp d w (i : Nat)) = i ∧ VL.door s w (stp d w (i : Nat)) = d := by
  obtain ⟨f1, f2, f3⟩ := fore_spec hs hw h.1
  have e : VL.depth s w (stp d w (i : Nat)) = i := by
    refine depth_unique hs hw (fun j hj => ?_) ?_
    · rw [stp_stp, show (i : Int) + -(j : Int) = ((i - j : Nat) : Int) by omega]
      exact f1 _ (by omega)
    · rw [stp_stp, show (i : Int) + (-(i : Int) - 1) = -1 by omega]
      exact h.2
  refine ⟨e, ?_⟩
  rw [VL.door, e, stp_stp, show (i : Int) + -(i : Int) = 0 by omega, stp_0]
/-! ### order -/
def lt3 (p q : P3) : Bool := HT.lexLt [p.1, p.2.1, p.2.2] [q.1, q.2.1, q.2.2]
@[simp] theorem lt_e3 (p q : P3) : ltG (e3 p) (e3 q) = .ok (.bl (lt3 p q)) := rfl
theorem lt3_iff {p q : P3} : lt3 p q = true ↔ p.1 < q.1 ∨ (p.1 = q.1 ∧ (p.2.1 < q.2.1 ∨ (p.2.1 = q.2.1 ∧ p.2.2 < q.2.2))) := by
  unfold lt3
  simp only [HT.lexLt]
  by_cases h1 : p.1 = q.1
  · rw [if_pos h1]
    by_cases h2 : p.2.1 = q.2.1
    · rw [if_pos h2]
      by_cases h3 : p.2.2 = q.2.2
      · rw [if_pos h3]; simp only [Bool.false_eq_true, false_iff]; omega
      · rw [if_neg h3]; simp only [decide_eq_true_eq]; omega
    · rw [if_neg h2]; simp only [decide_eq_true_eq]; omega
  · rw [if_neg h1]; simp only [decide_eq_true_eq]; omega
def Up (xs : List P3) : Prop := xs.Pairwise fun p q => lt3 p q = true
theorem Up.nodup {xs : List P3} (h : Up xs) : xs.Nodup := List.Pairwise.imp (fun {a b} h e => by
  subst e
  have := lt3_iff.mp h
  omega) h
theorem Up.sub {xs ys : List P3} (h : Up ys) (hs : xs.Sublist ys) : Up xs := List.Pairwise.sublist hs h
theorem rng_up (n : Int) : (rng n).Pairwise (· < ·) := by
  unfold rng
  rw [List.pairwise_map]
  exact List.Pairwise.imp (fun {a b} (h : a < b) => Int.ofNat_lt.mpr h) (List.pairwise_lt_range (n := n.toNat))
theorem places_up (s : P3) : Up (places s) := by
  unfold Up places
  rw [List.pairwise_flatMap]
  refine ⟨fun x _ => ?_, List.Pairwise.imp (fun {a b} (h : a < b) => ?_) (rng_up s.1)⟩
  · rw [List.pairwise_flatMap]
    refine ⟨fun y _ => ?_, List.Pairwise.imp (fun {a b} (h : a < b) => ?_) (rng_up s.2.1)⟩
    · rw [List.pairwise_map]
      exact List.Pairwise.imp (fun {a b} (h : a < b) => show lt3 (x, y, a) (x, y, b) = true from lt3_iff.mpr (.inr ⟨rfl, .inr ⟨rfl, h⟩⟩)) (rng_up s.2.2)
    · intro p hp q hq
      obtain ⟨z, _, rfl⟩ := List.mem_map.mp hp
      obtain ⟨z', _, rfl⟩ := List.mem_map.mp hq
      exact lt3_iff.mpr (.inr ⟨rfl, .inl h⟩)
  · intro p hp q hq
    obtain ⟨y, _, hp⟩ := List.mem_flatMap.mp hp
    obtain ⟨z, _, rfl⟩ := List.mem_map.mp hp
    obtain ⟨y', _, hq⟩ := List.mem_flatMap.mp hq
    obtain ⟨z', _, rfl⟩ := List.mem_map.mp hq
    exact lt3_iff.mpr (by simp only; omega)
/-- seen: nothing marked behind it in the block -/
theorem seen_iff {s w p : P3} {M : P3 → Bool} : seenB s w M p = true ↔ ∀ i : Nat, i < depth s w p → M (stp p w (-((i : Int) + 1))) = false := by
  unfold seenB
  rw [List.all_eq_true]
  constructor
  · intro h i hi
    simpa using h i (List.mem_range.mpr hi)
  · intro h i hi
    rw [h i (List.mem_range.mp hi)]
    rfl
theorem between {a b n i m : Int} (ha : 0 ≤ a ∧ a < n) (hb : 0 ≤ a + -m * b ∧ a + -m * b < n) (hi : 0 ≤ i ∧ i ≤ m) : 0 ≤ a + -i * b ∧ a + -i * b < n := by
  rcases Int.lt_or_le b 0 with h | h
  · have h1 : i * b ≤ 0 := Int.mul_nonpos_of_nonneg_of_nonpos hi.1 (by omega)
    have h2 : m * b ≤ i * b := Int.mul_le_mul_of_nonpos_right hi.2 (by omega)
    rw [Int.neg_mul] at hb ⊢
    omega
  · have h1 : 0 ≤ i * b := Int.mul_nonneg hi.1 h
    have h2 : i * b ≤ m * b := Int.mul_le_mul_of_nonneg_right hi.2 h
    rw [Int.neg_mul] at hb ⊢
    omega
end VL
set_option Elab.async false
set_option linter.all false
set_option maxRecDepth 100000
/-! VM5: dicts built place by place, doors, signs, looks. -/
namespace VL
open PySem L2 PySem.Spec PyProof.Rows
/-! ### a dict built item by item -/
def putAll (kvs : List (List Key × D)) (l : List (P3 × D)) : List (List Key × D) := l.foldl (fun acc x => putT acc (k3 x.1) x.2) kvs
def mkD (l : List (P3 × D)) : List (List Key × D) := putAll [] l
/-! ### doors -/
def doors (s w : P3) : List P3 := (places s).filter fun p => !inB s (stp p w (-1))
/-! ### signs -/
def eS (c : Nat) : D := .str ⟨#[c]⟩
@[simp] theorem isOb_eS (c : Nat) : isOb (eS c) = false := rfl
@[simp] theorem lf_eS (c : Nat) : lf (eS c) = true := by simp [eS]
def sg (ds : List P3) (cs : List Nat) (p : P3) : Nat := cs.getD (ds.idxOf p) 0
/-! ### looks -/
structure Lk where
  w : P3
  pic : List Nat
/-- a look of the block: a way, a sign for each door -/
def LkOk (s : P3) (l : Lk) : Prop := Way l.w ∧ l.pic.length = (doors s l.w).length
/-- the sign a place meets -/
def sign (s : P3) (l : Lk) (p : P3) : Nat := sg (doors s l.w) l.pic (door s l.w p)
theorem str1_inj {a b : Nat} : (⟨#[a]⟩ : Str) = ⟨#[b]⟩ ↔ a = b := by
  constructor
  · intro h
    have h2 := congrArg (fun s : Str => s.cps.toList) h
    simpa using h2
  · rintro rfl
    rfl
theorem sky_eq : (Str.ofString ".") = ⟨#[46]⟩ := by decide +kernel
theorem veil_eq : (Str.ofString "?") = ⟨#[63]⟩ := by decide +kernel
@[simp] theorem eq_eS (a b : Nat) : eqG (eS a) (eS b) = .ok (.bl (decide (a = b))) := by
  show eqG (.str ⟨#[a]⟩) (.str ⟨#[b]⟩) = _
  rw [eq_ss]
  congr 2
  exact decide_eq_decide.mpr str1_inj
@[simp] theorem ne_eS (a b : Nat) : neG (eS a) (eS b) = .ok (.bl (!decide (a = b))) := by
  unfold neG notM
  rw [eq_eS]
  rfl
@[simp] theorem eq_sky (a : Nat) : eqG (eS a) (.str (Str.ofString ".")) = .ok (.bl (decide (a = 46))) := by rw [sky_eq]; exact eq_eS a 46
@[simp] theorem ne_veil (a : Nat) : neG (eS a) (.str (Str.ofString "?")) = .ok (.bl (!decide (a = 63))) := by rw [veil_eq]; exact ne_eS a 63
@[simp] theorem eq_veil (a : Nat) : eqG (eS a) (.str (Str.ofString "?")) = .ok (.bl (decide (a = 63))) := by rw [veil_eq]; exact eq_eS a 63
@[simp] theorem ne_sky (a : Nat) : neG (eS a) (.str (Str.ofString ".")) = .ok (.bl (!decide (a = 46))) := by rw [sky_eq]; exact ne_eS a 46
/-! ### what bars a grain -/
/-- of what each look tells: seen or not, and the sign; the looks told of so far, or the look that shows sky -/
def barL : Nat → List (Nat × Nat) → List (Bool × Nat) → Nat ⊕ List (Nat × Nat)
  | _, told, [] => .inr told
  | n, told, (sn, c) :: r => if sn = true then (if c = 46 then .inl n else if c ≠ 63 then barL (n + 1) (told ++ [(n, c)]) r else barL (n + 1) told r) else barL (n + 1) told r
def barT : List (Nat × Nat) → Option (Nat × Nat)
  | [] => none
  | t :: ts => ((t :: ts).find? fun z => !decide (z.2 = t.2)).map fun z => (t.1, z.1)
def bar (v : List (Bool × Nat)) : Option (Nat × Nat) := match barL 0 [] v with
  | .inl n => some (n, n)
  | .inr told => barT told
/-- a view: the places it tells of, and the sign at each -/
structure Vw where
  ps : List P3
  f : P3 → Nat
def seenL (s : P3) (l : Lk) (xs : List P3) : P3 → Bool := seenB s l.w fun q => decide (q ∈ xs)
def entL (s : P3) (xs : List P3) (p : P3) (l : Lk) : Bool × Nat := (seenL s l xs p, sign s l p)
/-! ### texts of signs -/
theorem atI_str {z : Str} {i : Int} {c : Nat} (hz : z.length ≤ sizeLine) (h : atI z.cps.toList i = some c) : idxG (.str z) (.int i) = .ok (eS c) := by
  show (if z.length ≤ sizeLine then (match atI z.cps.toList i with | some c => M.ok (D.str ⟨#[c]⟩) | none => .er) else .er) = _
  rw [if_pos hz, h]
  rfl
def abc : List Nat := [97, 98, 99, 100, 101, 102, 103, 104, 105, 106, 107, 108, 109, 110, 111, 112, 113, 114, 115, 116, 117, 118, 119, 120, 121, 122]
theorem abc_eq : (Str.ofString "abcdefghijklmnopqrstuvwxyz") = ⟨abc.toArray⟩ := by decide +kernel
/-- a sign: a letter, the sky, the veil -/
def Letter (c : Nat) : Prop := 97 ≤ c ∧ c ≤ 122
def Sgn (c : Nat) : Prop := c = 46 ∨ c = 63 ∨ Letter c
/-! ### a snapped picture -/
/-- a look whose signs are signs -/
def LkSg (l : Lk) : Prop := ∀ c, c ∈ l.pic → Sgn c
end VL
set_option Elab.async false
set_option linter.all false
set_option maxRecDepth 100000
/-! VM6: rows of what is barred; carving. -/
namespace VL
open PySem L2 PySem.Spec PyProof.Rows
/-! ### lists of looks -/
abbrev BRow := P3 × Nat × Nat
def rowL (f : P3 → Option (Nat × Nat)) (xs : List P3) : List BRow := xs.filterMap fun p => (f p).map fun z => (p, z)
theorem mem_rowL {f : P3 → Option (Nat × Nat)} {xs : List P3} {r : BRow} : r ∈ rowL f xs ↔ r.1 ∈ xs ∧ f r.1 = some r.2 := by
  unfold rowL
  rw [List.mem_filterMap]
  constructor
  · rintro ⟨p, hp, h⟩
    cases hf : f p with
    | none => rw [hf] at h; cases h
    | some z => rw [hf] at h; cases h; exact ⟨hp, hf⟩
  · rintro ⟨h1, h2⟩
    exact ⟨r.1, h1, by rw [h2]; rfl⟩
/-! ### the bar of a grain -/
def barP (s : P3) (ls : List Lk) (xs : List P3) (p : P3) : Option (Nat × Nat) := bar (ls.map (entL s xs p))
def brows (s : P3) (ls : List Lk) (xs : List P3) : List BRow := rowL (barP s ls xs) xs
/-- two entries that bar -/
def Bars (v : List (Bool × Nat)) : Prop := (∃ e, e ∈ v ∧ e.1 = true ∧ e.2 = 46) ∨ ∃ e e', e ∈ v ∧ e' ∈ v ∧ e.1 = true ∧ e'.1 = true ∧ e.2 ≠ 46 ∧ e.2 ≠ 63 ∧ e'.2 ≠ 46 ∧ e'.2 ≠ 63 ∧ e.2 ≠ e'.2
/-- what barL tells -/
theorem barL_spec : ∀ (v : List (Bool × Nat)) (n : Nat) (told : List (Nat × Nat)), (match barL n told v with
    | .inl m => ∃ i c, m = n + i ∧ v[i]? = some (true, c) ∧ c = 46 ∧ ∀ j e, j < i → v[j]? = some e → e.1 = true → e.2 ≠ 46
    | .inr t => (∀ e, e ∈ v → e.1 = true → e.2 ≠ 46) ∧ t = told ++ ((v.zipIdx n).filter fun z => z.1.1 && !decide (z.1.2 = 63)).map fun z => (z.2, z.1.2))
  | [], n, told => by simp [barL]
  | (sn, c) :: r, n, told => by
    rw [barL]
    cases sn with
    | false =>
      rw [if_neg Bool.false_ne_true]
      have ih := barL_spec r (n + 1) told
      revert ih
      cases barL (n + 1) told r with
      | inl m =>
        rintro ⟨i, c', h1, h2, h3, h4⟩
        refine ⟨i + 1, c', by omega, by simpa using h2, h3, fun j e hj he ht => ?_⟩
        cases j with
        | zero => simp at he; subst he; cases ht
        | succ j => exact h4 j e (by omega) (by simpa using he) ht
      | inr t =>
        rintro ⟨h1, h2⟩
        refine ⟨fun e he ht => ?_, ?_⟩
        · rcases List.mem_cons.mp he with rfl | he
          · cases ht
          · exact h1 e he ht
        · rw [h2, List.zipIdx_cons, List.filter_cons_of_neg (by simp)]
    | true =>
      rw [if_pos rfl]
      by_cases c46 : c = 46
      · rw [if_pos c46]
        exact ⟨0, c, rfl, rfl, c46, fun j e hj => absurd hj (Nat.not_lt_zero j)⟩
      · rw [if_neg c46]
        by_cases c63 : c = 63
        · rw [if_neg (by simpa using c63)]
          have ih := barL_spec r (n + 1) told
          revert ih
          cases barL (n + 1) told r with
          | inl m =>
            rintro ⟨i, c', h1, h2, h3, h4⟩
            refine ⟨i + 1, c', by omega, by simpa using h2, h3, fun j e hj he ht => ?_⟩
            cases j with
            | zero => simp at he; subst he; exact c46
            | succ j => exact h4 j e (by omega) (by simpa using he) ht
          | inr t =>
            rintro ⟨h1, h2⟩
            refine ⟨fun e he ht => ?_, ?_⟩
            · rcases List.mem_cons.mp he with rfl | he
              · exact c46
              · exact h1 e he ht
            · rw [h2, List.zipIdx_cons, List.filter_cons_of_neg (by simp [c63])]
        · rw [if_pos c63]
          have ih := barL_spec r (n + 1) (told ++ [(n, c)])
          revert ih
          cases barL (n + 1) (told ++ [(n, c)]) r with
          | inl m =>
            rintro ⟨i, c', h1, h2, h3, h4⟩
            refine ⟨i + 1, c', by omega, by simpa using h2, h3, fun j e hj he ht => ?_⟩
            cases j with
            | zero => simp at he; subst he; exact c46
            | succ j => exact h4 j e (by omega) (by simpa using he) ht
          | inr t =>
            rintro ⟨h1, h2⟩
            refine ⟨fun e he ht => ?_, ?_⟩
            · rcases List.mem_cons.mp he with rfl | he
              · exact c46
              · exact h1 e he ht
            · rw [h2, List.zipIdx_cons, List.filter_cons_of_pos (by simp [c63]), List.map_cons, List.append_assoc]
              rfl
theorem barT_some {told : List (Nat × Nat)} : (barT told).isSome = true ↔ ∃ z z', z ∈ told ∧ z' ∈ told ∧ z.2 ≠ z'.2 := by
  cases told with
  | nil => simp [barT]
  | cons t ts =>
    unfold barT
    rw [Option.isSome_map, List.find?_isSome]
    constructor
    · rintro ⟨z, hz, h⟩
      exact ⟨z, t, hz, List.mem_cons_self, by simpa using h⟩
    · rintro ⟨z, z', hz, hz', h⟩
      by_cases e : z.2 = t.2
      · exact ⟨z', hz', by simpa using fun e2 => h (e.trans e2.symm)⟩
      · exact ⟨z, hz, by simpa using e⟩
theorem bar_some {v : List (Bool × Nat)} : (bar v).isSome = true ↔ Bars v := by
  have h := barL_spec v 0 []
  unfold bar
  revert h
  cases barL 0 [] v with
  | inl m =>
    rintro ⟨i, c, h1, h2, h3, h4⟩
    simp only [Option.isSome_some, true_iff]
    exact .inl ⟨(true, c), List.mem_of_getElem? h2, rfl, h3⟩
  | inr t =>
    rintro ⟨h1, h2⟩
    simp only
    rw [barT_some, h2, List.nil_append]
    have mem (z : Nat × Nat) : z ∈ ((v.zipIdx 0).filter fun z => z.1.1 && !decide (z.1.2 = 63)).map (fun z => (z.2, z.1.2)) ↔ v[z.1]? = some (true, z.2) ∧ z.2 ≠ 63 := by
      rw [List.mem_map]
      constructor
      · rintro ⟨⟨⟨b, c⟩, i⟩, hx, rfl⟩
        obtain ⟨hx1, hx2⟩ := List.mem_filter.mp hx
        have := List.mk_mem_zipIdx_iff_getElem?.mp hx1
        simp only [Bool.and_eq_true, Bool.not_eq_true', decide_eq_false_iff_not] at hx2
        obtain ⟨rfl, hx3⟩ := hx2
        exact ⟨this, hx3⟩
      · rintro ⟨h1, h2⟩
        refine ⟨((true, z.2), z.1), List.mem_filter.mpr ⟨List.mk_mem_zipIdx_iff_getElem?.mpr h1, by simpa using h2⟩, rfl⟩
    constructor
    · rintro ⟨z, z', hz, hz', hne⟩
      obtain ⟨a1, a2⟩ := (mem z).mp hz
      obtain ⟨b1, b2⟩ := (mem z').mp hz'
      have m1 := List.mem_of_getElem? a1
      have m2 := List.mem_of_getElem? b1
      exact .inr ⟨_, _, m1, m2, rfl, rfl, h1 _ m1 rfl, a2, h1 _ m2 rfl, b2, hne⟩
    · rintro (⟨e, he, e1, e2⟩ | ⟨e, e', he, he', e1, e1', n1, n2, n3, n4, n5⟩)
      · exact absurd e2 (h1 e he e1)
      · obtain ⟨i, hi⟩ := List.mem_iff_getElem?.mp he
        obtain ⟨j, hj⟩ := List.mem_iff_getElem?.mp he'
        obtain ⟨b, c⟩ := e
        obtain ⟨b', c'⟩ := e'
        simp only at e1 e1'
        subst e1 e1'
        exact ⟨(i, c), (j, c'), (mem _).mpr ⟨hi, n2⟩, (mem _).mpr ⟨hj, n4⟩, n5⟩
/-! ### more grains hide more -/
theorem seenL_mono {s : P3} {l : Lk} {xs ys : List P3} {p : P3} (h : ∀ q, q ∈ ys → q ∈ xs) (hs : seenL s l xs p = true) : seenL s l ys p = true := by
  unfold seenL at hs ⊢
  rw [seen_iff] at hs ⊢
  intro i hi
  have := hs i hi
  simp only [decide_eq_false_iff_not] at this ⊢
  exact fun hm => this (h _ hm)
theorem Bars_mono {s : P3} {ls : List Lk} {xs ys : List P3} {p : P3} (h : ∀ q, q ∈ ys → q ∈ xs) (hb : Bars (ls.map (entL s xs p))) : Bars (ls.map (entL s ys p)) := by
  have up (e : Bool × Nat) (he : e ∈ ls.map (entL s xs p)) (h1 : e.1 = true) : e ∈ ls.map (entL s ys p) := by
    obtain ⟨l, hl, rfl⟩ := List.mem_map.mp he
    refine List.mem_map.mpr ⟨l, hl, ?_⟩
    have h1' : seenL s l xs p = true := h1
    show (seenL s l ys p, sign s l p) = (seenL s l xs p, sign s l p)
    rw [h1', seenL_mono h h1']
  rcases hb with ⟨e, he, e1, e2⟩ | ⟨e, e', he, he', e1, e1', n⟩
  · exact .inl ⟨e, up e he e1, e1, e2⟩
  · exact .inr ⟨e, e', up e he e1, up e' he' e1', e1, e1', n⟩
theorem barP_mono {s : P3} {ls : List Lk} {xs ys : List P3} {p : P3} (h : ∀ q, q ∈ ys → q ∈ xs) (hb : (barP s ls xs p).isSome = true) : (barP s ls ys p).isSome = true := bar_some.mpr (Bars_mono h (bar_some.mp hb))
/-! ### carving -/
/-- nothing in it is barred -/
def Agr (s : P3) (ls : List Lk) (xs : List P3) : Prop := ∀ p, p ∈ xs → barP s ls xs p = none
/-- an agreeing stone within keeps clear of what is barred -/
theorem Agr.clear {s : P3} {ls : List Lk} {xs ys : List P3} {p : P3} (ha : Agr s ls ys) (h : ∀ q, q ∈ ys → q ∈ xs) (hb : (barP s ls xs p).isSome = true) : p ∉ ys := fun hp => by
  have := barP_mono h hb
  rw [ha p hp] at this
  cases this
end VL
set_option Elab.async false
set_option linter.all false
set_option maxRecDepth 100000
/-! VM7: bare doors, sole grains. -/
namespace VL
open PySem L2 PySem.Spec PyProof.Rows
/-- a letter: neither sky nor veil -/
def inkB (c : Nat) : Bool := !decide (c = 46) && !decide (c = 63)
end VL
set_option Elab.async false
set_option linter.all false
set_option maxRecDepth 100000
/-! VM8: carving grain by grain; sorted lists of places. -/
namespace VL
open PySem L2 PySem.Spec PyProof.Rows
/-! ### list.remove of a place -/
/-! ### sorted -/
theorem trisD_e3 : ∀ xs : List P3, trisD (xs.map e3) = some xs
  | [] => rfl
  | x :: xs => by
    rw [List.map_cons, trisD, trisD_e3 xs]
    rfl
theorem sorted_e3 (xs : List P3) : sortedG [.lst (xs.map e3)] = .ok (.lst ((sort3 xs).map e3)) := by
  show (match trisD (xs.map e3) with | some ts => M.ok (D.lst ((sort3 ts).map eT)) | none => .er) = _
  rw [trisD_e3]
  rfl
theorem lt3_lex (p q : P3) : lt3 p q = lex3 p q := by
  rw [Bool.eq_iff_iff, lt3_iff, lex3_iff]
theorem up_srtd {xs : List P3} (h : Up xs) : SrtO.Srtd lex3 xs := h.imp fun {a b} h => by
  rw [lt3_lex] at h
  have := lex3_iff.mp h
  exact lex3_no.mpr (by omega)
/-- the sorted list of what makes up a rising list -/
theorem sort3_up {xs ys : List P3} (h : Up xs) (hp : ys.Perm xs) : sort3 ys = xs := srtd_uniq (sort3_srtd ys) (up_srtd h) ((sort3_perm ys).trans hp)
/-- the keys of a dict built by places -/
def KeysAre (kvs : List (List Key × D)) (ps : List P3) : Prop := keysT kvs = some ps ∧ ps.Nodup
theorem keysT_append {α : Type} : ∀ (xs ys : List (List Key × α)) (a b : List T3), keysT xs = some a → keysT ys = some b → keysT (xs ++ ys) = some (a ++ b)
  | [], ys, a, b, h, h2 => by cases h; exact h2
  | x :: xs, ys, a, b, h, h2 => by
    rw [List.cons_append]
    unfold keysT at h ⊢
    split at h
    · next k ts e1 e2 =>
      cases h
      rw [e1, keysT_append xs ys ts b e2 h2]
      rfl
    · cases h
theorem keysT_any {α : Type} : ∀ (xs : List (List Key × α)) (ps : List T3) (p : P3), keysT xs = some ps → ((xs.any fun kv => decide (kv.1 = k3 p)) = true ↔ p ∈ ps)
  | [], ps, p, h => by cases h; simp
  | x :: xs, ps, p, h => by
    unfold keysT at h
    split at h
    · next k ts e1 e2 =>
      cases h
      rw [List.any_cons, Bool.or_eq_true, keysT_any xs ts p e2, decide_eq_true_eq, List.mem_cons]
      have : x.1 = k3 p ↔ p = k := by
        constructor
        · intro e
          rw [e] at e1
          cases e1
          rfl
        · rintro rfl
          have := triK_eq e1
          revert e1
          unfold triK
          split
          · next a b c e => intro z; cases z; rw [e]; rfl
          · intro z; cases z
      rw [this]
    · cases h
theorem keysT_map {α : Type} (f : List Key × α → List Key × α) (hf : ∀ x, (f x).1 = x.1) : ∀ xs : List (List Key × α), keysT (xs.map f) = keysT xs
  | [] => rfl
  | x :: xs => by
    rw [List.map_cons]
    unfold keysT
    rw [hf, keysT_map f hf xs]
theorem keys_put {kvs : List (List Key × D)} {ps : List P3} (h : KeysAre kvs ps) (p : P3) (v : D) : KeysAre (putT kvs (k3 p) v) (if p ∈ ps then ps else ps ++ [p]) := by
  unfold putT
  have ha := keysT_any kvs ps p h.1
  by_cases hp : p ∈ ps
  · rw [if_pos (ha.mpr hp), if_pos hp]
    exact ⟨by rw [keysT_map _ (fun x => by split <;> rfl)]; exact h.1, h.2⟩
  · rw [if_neg (fun z => hp (ha.mp z)), if_neg hp]
    refine ⟨keysT_append _ _ _ _ h.1 rfl, ?_⟩
    rw [List.nodup_append]
    exact ⟨h.2, by simp, fun a ha b hb => by rw [List.mem_singleton.mp hb]; exact fun e => hp (e ▸ ha)⟩
def keyStep (ps : List P3) (p : P3) : List P3 := if p ∈ ps then ps else ps ++ [p]
def keyAll (l : List P3) : List P3 := l.foldl keyStep []
theorem keys_putAll : ∀ (l : List (P3 × D)) (kvs : List (List Key × D)) (ps : List P3), KeysAre kvs ps → KeysAre (putAll kvs l) ((l.map (·.1)).foldl keyStep ps)
  | [], _, _, h => h
  | x :: l, kvs, ps, h => keys_putAll l _ _ (keys_put h x.1 x.2)
theorem keys_mkD (l : List (P3 × D)) : KeysAre (mkD l) (keyAll (l.map (·.1))) := keys_putAll l [] [] ⟨rfl, by simp⟩
theorem mem_keyFold : ∀ (l ps : List P3) (q : P3), q ∈ l.foldl keyStep ps ↔ q ∈ ps ∨ q ∈ l
  | [], ps, q => by simp
  | x :: l, ps, q => by
    rw [List.foldl_cons, mem_keyFold l _ q]
    unfold keyStep
    by_cases h : x ∈ ps
    · rw [if_pos h, List.mem_cons]
      constructor
      · rintro (h1 | h1)
        · exact .inl h1
        · exact .inr (.inr h1)
      · rintro (h1 | h1 | h1)
        · exact .inl h1
        · exact .inl (h1 ▸ h)
        · exact .inr h1
    · rw [if_neg h, List.mem_append, List.mem_singleton, List.mem_cons, or_assoc]
theorem mem_keyAll {l : List P3} {q : P3} : q ∈ keyAll l ↔ q ∈ l := by
  unfold keyAll
  rw [mem_keyFold]
  simp
/-- sorted of a dict by places -/
theorem sorted_keys {kvs : List (List Key × D)} {ps xs : List P3} (h : KeysAre kvs ps) (hu : Up xs) (hm : ∀ q, q ∈ ps ↔ q ∈ xs) : sortedG [.dct kvs] = .ok (.lst (xs.map e3)) := by
  show (match keysT kvs with | some ts => M.ok (D.lst ((sort3 ts).map eT)) | none => .er) = _
  rw [h.1]
  simp only
  rw [sort3_up hu ((List.perm_ext_iff_of_nodup h.2 hu.nodup).mpr hm)]
  rfl
/-! ### carving grain by grain -/
/-- a paper that stands: each row is the bar of its place in the stone as it is then -/
inductive PaperOk (s : P3) (ls : List Lk) : List P3 → List BRow → List P3 → Prop
  | nil (xs : List P3) : PaperOk s ls xs [] xs
  | cons {xs ys : List P3} {r : BRow} {rs : List BRow} : r ∈ brows s ls xs → PaperOk s ls (xs.erase r.1) rs ys → PaperOk s ls xs (r :: rs) ys
theorem PaperOk.sub {s : P3} {ls : List Lk} {xs ys : List P3} {rs : List BRow} (h : PaperOk s ls xs rs ys) : ys.Sublist xs := by
  induction h with
  | nil => exact List.Sublist.refl _
  | cons _ _ ih => exact ih.trans List.erase_sublist
/-- the rows' places are what went -/
theorem PaperOk.perm {s : P3} {ls : List Lk} {xs ys : List P3} {rs : List BRow} (h : PaperOk s ls xs rs ys) : xs.Perm (rs.map (·.1) ++ ys) := by
  induction h with
  | nil => exact List.Perm.refl _
  | cons h1 _ ih =>
    have := (mem_rowL.mp h1).1
    exact (List.perm_cons_erase this).trans (ih.cons _)
/-- agreeing stones within stay within -/
theorem PaperOk.keeps {s : P3} {ls : List Lk} {xs ys : List P3} {rs : List BRow} (h : PaperOk s ls xs rs ys) {zs : List P3} (ha : Agr s ls zs) (hz : ∀ q, q ∈ zs → q ∈ xs) : ∀ q, q ∈ zs → q ∈ ys := by
  induction h with
  | nil => exact hz
  | cons h1 _ ih =>
    refine ih fun q hq => ?_
    have hb := (mem_rowL.mp h1).2
    have hc := ha.clear hz (by rw [hb]; rfl)
    exact (List.mem_erase_of_ne (fun e => hc (by rw [← e]; exact hq))).mpr (hz q hq)
theorem PaperOk.len {s : P3} {ls : List Lk} {xs ys : List P3} {rs : List BRow} (h : PaperOk s ls xs rs ys) : rs.length + ys.length = xs.length := by
  have := h.perm.length_eq
  rw [List.length_append, List.length_map] at this
  omega
/-! ### a dict built by puts -/
/-! ### sole grains -/
/-! ### slices, comprehensions whose items are not told -/
end VL
set_option Elab.async false
set_option linter.all false
set_option maxRecDepth 100000
/-! VM9: more looks, looks in another order; slices told. -/
namespace VL
open PySem L2 PySem.Spec PyProof.Rows
theorem Bars_sub {v v' : List (Bool × Nat)} (h : ∀ e, e ∈ v → e.1 = true → e ∈ v') (hb : Bars v) : Bars v' := by
  rcases hb with ⟨e, he, e1, e2⟩ | ⟨e, e', he, he', e1, e1', n⟩
  · exact .inl ⟨e, h e he e1, e1, e2⟩
  · exact .inr ⟨e, e', h e he e1, h e' he' e1', e1, e1', n⟩
theorem barP_looks {s : P3} {ls ls' : List Lk} {xs : List P3} {p : P3} (h : ∀ l, l ∈ ls → l ∈ ls') (hb : (barP s ls xs p).isSome = true) : (barP s ls' xs p).isSome = true := by
  refine bar_some.mpr (Bars_sub (fun e he _ => ?_) (bar_some.mp hb))
  obtain ⟨l, hl, rfl⟩ := List.mem_map.mp he
  exact List.mem_map.mpr ⟨l, h l hl, rfl⟩
theorem Agr.looks {s : P3} {ls ls' : List Lk} {xs : List P3} (h : ∀ l, l ∈ ls → l ∈ ls') (ha : Agr s ls' xs) : Agr s ls xs := fun p hp => by
  cases hb : barP s ls xs p with
  | none => rfl
  | some z =>
    have := barP_looks h (p := p) (xs := xs) (by rw [hb]; rfl)
    rw [ha p hp] at this
    cases this
@[simp] theorem add_ll (xs ys : List D) : addG (.lst xs) (.lst ys) = if xs.length + ys.length ≤ sizeLine ∧ lfA xs = true ∧ lfA ys = true then .ok (.lst (xs ++ ys)) else .er := rfl
/-! ### thinning -/
end VL
set_option Elab.async false
set_option linter.all false
set_option maxRecDepth 100000
/-! VM10: veils. -/
namespace VL
open PySem L2 PySem.Spec PyProof.Rows
theorem repS_one (c : Nat) (n : Int) (h : 0 ≤ n) : repS ⟨#[c]⟩ n = ⟨(List.replicate n.toNat c).toArray⟩ := by
  have key : ∀ (m : Nat) (acc : Array Nat), (List.replicate m (⟨#[c]⟩ : Str).cps).foldl (· ++ ·) acc = acc ++ (List.replicate m c).toArray := by
    intro m
    induction m with
    | zero => intro acc; simp
    | succ m ih =>
      intro acc
      rw [List.replicate_succ, List.foldl_cons, ih, List.replicate_succ, Array.append_assoc]
      congr 1
      simp
  unfold repS
  by_cases h0 : n < 1
  · rw [if_pos h0]
    have : n = 0 := by omega
    subst this
    rfl
  · rw [if_neg h0]
    by_cases h1 : n = 1
    · subst h1
      rfl
    · rw [if_neg (by
        rw [Bool.or_eq_true]
        rintro (h | h)
        · exact h1 (eq_of_beq h)
        · rw [show (⟨#[c]⟩ : Str).length = 1 from rfl] at h
          exact absurd h (by decide)), key]
      simp
/-! ### two texts side by side -/
end VL
set_option Elab.async false
set_option linter.all false
set_option maxRecDepth 100000
/-! VM11: dicts by places put together, places taken out. -/
namespace VL
open PySem L2 PySem.Spec PyProof.Rows
theorem marks_mkD (xs : List P3) : marksD xs = mkD (xs.map fun p => (p, D.bl true)) := by
  unfold marksD markD mkD putAll
  rw [List.foldl_map]
theorem keys_marks (xs : List P3) : KeysAre (marksD xs) (keyAll xs) := by
  have := keys_mkD (xs.map fun p => (p, D.bl true))
  rw [List.map_map, show ((fun x : P3 × D => x.1) ∘ fun p : P3 => (p, D.bl true)) = id from rfl, List.map_id] at this
  rw [marks_mkD]
  exact this
/-- two stones laid together -/
def joinP (s : P3) (xs ys : List P3) : List P3 := (places s).filter fun p => decide (p ∈ xs) || decide (p ∈ ys)
end VL
set_option Elab.async false
set_option linter.all false
set_option maxRecDepth 100000
/-! VM: raised errors; lists of numbers told apart. -/
namespace VL
open PySem L2 PySem.Spec PyProof.Rows
@[simp] theorem sRaise_ap (c : Str) (ρ : Rho) : sRaise c ρ = .ex (.own c) ρ := rfl
theorem forR_ex {β : Type} {tg : D → Rho → Option Rho} {b : Rho → Res} (e : β → D) (p : β → Bool) (c : Xc) (ρx : β → Rho) (ρ : Rho) : ∀ (xs : List β), (∀ x, x ∈ xs → turn tg b (e x) ρ = if p x = true then .ex c (ρx x) else .nx ρ) →
    forR tg b (xs.map e) ρ = match xs.find? p with | some x => .ex c (ρx x) | none => .nx ρ
  | [], _ => rfl
  | x :: xs, h => by
    rw [List.map_cons, forR_cons, h x List.mem_cons_self, List.find?_cons]
    cases p x with
    | true => rfl
    | false => simpa using forR_ex e p c ρx ρ xs fun y hy => h y (List.mem_cons_of_mem _ hy)
theorem canLay_ints : ∀ xs : List Int, PyData.canLayAll0 (toPA (xs.map D.int)) = true
  | [] => rfl
  | x :: xs => by simp [toPA, PyData.canLayAll0, toP, PyData.canLay0, canLay_ints xs]
theorem depth_ints : ∀ xs : List Int, PyData.depthAll (toPA (xs.map D.int)) ≤ 1
  | [] => by simp [toPA, PyData.depthAll]
  | x :: xs => by
    have := depth_ints xs
    simp [toPA, PyData.depthAll, toP, PyData.depth]
    omega
theorem shaped_ints (xs : List Int) : SeqAt.shaped (toP (.lst (xs.map D.int))) = true := by
  have h := depth_ints xs
  simp only [toP, SeqAt.shaped, PyData.canLay0, PyData.depth, canLay_ints, Bool.true_and, decide_eq_true_eq]
  omega
theorem eqvAll_ints : ∀ xs : List Int, PyData.eqvAll (toPA (xs.map D.int)) (toPA (xs.map D.int)) = true
  | [] => rfl
  | x :: xs => by simp [toPA, PyData.eqvAll, eqvAll_ints xs, toP, PyData.eqv]
theorem eq_ints (xs : List Int) : eqG (.lst (xs.map D.int)) (.lst (xs.map D.int)) = .ok (.bl true) := by
  have h : eqG (.lst (xs.map D.int)) (.lst (xs.map D.int)) = if SeqAt.shaped (toP (.lst (xs.map D.int))) = true ∧ SeqAt.shaped (toP (.lst (xs.map D.int))) = true then M.ok (D.bl (PyData.eqv (toP (.lst (xs.map D.int))) (toP (.lst (xs.map D.int))))) else M.er := by rfl
  rw [h, if_pos ⟨shaped_ints xs, shaped_ints xs⟩]
  simp only [toP, PyData.eqv, eqvAll_ints]
@[simp] theorem ne_ints (xs : List Int) : neG (.lst (xs.map D.int)) (.lst (xs.map D.int)) = .ok (.bl false) := by
  unfold neG notM
  rw [eq_ints]
  rfl
end VL
set_option Elab.async false
set_option linter.all false
set_option maxRecDepth 100000
/-! VM: where a place stands in a list; lists of signs; a line from both its ends. -/
namespace VL
open PySem L2 PySem.Spec PyProof.Rows
/-! ### a line from both its ends -/
theorem Way.neg {w : P3} (h : Way w) : Way (neg3 w) := by
  obtain ⟨⟨h1, h2, h3⟩, h4⟩ := h
  refine ⟨⟨by simp only [neg3]; omega, by simp only [neg3]; omega, by simp only [neg3]; omega⟩, ?_⟩
  simpa [neg3, Int.gcd, Int.natAbs_neg] using h4
end VL
set_option Elab.async false
set_option linter.all false
set_option maxRecDepth 100000
/-! VM: what a row of a paper says; marks without one. -/
namespace VL
open PySem L2 PySem.Spec PyProof.Rows
theorem zipIdx_lt {α : Type} (v : List α) (n : Nat) : (v.zipIdx n).Pairwise fun a b => a.2 < b.2 := by
  have h : ((v.zipIdx n).map (·.2)).Pairwise (· < ·) := by
    rw [List.zipIdx_map_snd]
    exact List.pairwise_lt_range'
  rwa [List.pairwise_map] at h
/-- what bar tells: the least that sees and shows the sky, or two that see and show unlike letters -/
theorem bar_row {v : List (Bool × Nat)} {i j : Nat} (h : bar v = some (i, j)) : ∃ ci cj, i ≤ j ∧ v[i]? = some (true, ci) ∧ v[j]? = some (true, cj) ∧ ((i = j ∧ ci = 46) ∨ (i < j ∧ ci ≠ 46 ∧ ci ≠ 63 ∧ cj ≠ 46 ∧ cj ≠ 63 ∧ ci ≠ cj)) := by
  have sp := barL_spec v 0 []
  unfold bar at h
  cases hb : barL 0 [] v with
  | inl m =>
    rw [hb] at h sp
    simp only [Option.some.injEq, Prod.mk.injEq] at h
    obtain ⟨k, c, h1, h2, h3, _⟩ := sp
    have e1 : i = k := by omega
    have e2 : j = k := by omega
    subst e1 e2
    exact ⟨c, c, Nat.le_refl _, h2, h2, .inl ⟨rfl, h3⟩⟩
  | inr t =>
    rw [hb] at h sp
    obtain ⟨s1, s2⟩ := sp
    rw [List.nil_append] at s2
    have hmem : ∀ z, z ∈ t → v[z.1]? = some (true, z.2) ∧ z.2 ≠ 46 ∧ z.2 ≠ 63 := fun z hz => by
      rw [s2] at hz
      obtain ⟨⟨⟨b, c⟩, k⟩, hy, rfl⟩ := List.mem_map.mp hz
      obtain ⟨hy1, hy2⟩ := List.mem_filter.mp hy
      have hk := List.mem_zipIdx_iff_getElem?.mp hy1
      simp at hy2
      obtain ⟨rfl, h63⟩ := hy2
      have hm : (true, c) ∈ v := List.mem_of_getElem? hk
      exact ⟨hk, s1 _ hm rfl, h63⟩
    have hpw : t.Pairwise fun a b => a.1 < b.1 := by
      rw [s2, List.pairwise_map]
      exact (zipIdx_lt v 0).sublist List.filter_sublist
    cases t with
    | nil => simp [barT] at h
    | cons z ts =>
      simp only [barT, Option.map_eq_some_iff, Prod.mk.injEq] at h
      obtain ⟨y, hy, e1, e2⟩ := h
      subst e1 e2
      have hy1 := List.mem_of_find?_eq_some hy
      have hy2 := List.find?_some hy
      have hne : y.2 ≠ z.2 := by simpa using hy2
      obtain ⟨a1, a2, a3⟩ := hmem z List.mem_cons_self
      obtain ⟨b1, b2, b3⟩ := hmem y hy1
      have hlt : z.1 < y.1 := by
        rcases List.mem_cons.mp hy1 with e | e
        · exact absurd (by rw [e]) hne
        · exact (List.pairwise_cons.mp hpw).1 y e
      exact ⟨z.2, y.2, by omega, a1, b1, .inr ⟨hlt, a2, a3, b2, b3, fun e => hne e.symm⟩⟩
/-- what a row of the bars says, of the looks themselves -/
theorem brow_says {s : P3} {ls : List Lk} {xs : List P3} {r : BRow} (h : r ∈ brows s ls xs) : r.1 ∈ xs ∧ ∃ l1 l2 : Lk, r.2.1 ≤ r.2.2 ∧ ls[r.2.1]? = some l1 ∧ ls[r.2.2]? = some l2 ∧ seenL s l1 xs r.1 = true ∧ seenL s l2 xs r.1 = true ∧
    ((r.2.1 = r.2.2 ∧ sign s l1 r.1 = 46) ∨ (r.2.1 < r.2.2 ∧ sign s l1 r.1 ≠ 46 ∧ sign s l1 r.1 ≠ 63 ∧ sign s l2 r.1 ≠ 46 ∧ sign s l2 r.1 ≠ 63 ∧ sign s l1 r.1 ≠ sign s l2 r.1)) := by
  obtain ⟨h1, h2⟩ := mem_rowL.mp h
  obtain ⟨ci, cj, hij, hi, hj, hc⟩ := bar_row (i := r.2.1) (j := r.2.2) h2
  rw [List.getElem?_map] at hi hj
  obtain ⟨l1, a1, a2⟩ := Option.map_eq_some_iff.mp hi
  obtain ⟨l2, b1, b2⟩ := Option.map_eq_some_iff.mp hj
  simp only [entL, Prod.mk.injEq] at a2 b2
  obtain ⟨a2, rfl⟩ := a2
  obtain ⟨b2, rfl⟩ := b2
  exact ⟨h1, l1, l2, hij, a1, b1, a2, b2, hc⟩
end VL
set_option Elab.async false
set_option linter.all false
set_option maxRecDepth 100000
/-! VM: what an agreeing stone's paint shows. -/
namespace VL
open PySem L2 PySem.Spec PyProof.Rows
/-! ### letters told -/
def toldB (s : P3) (xs : List P3) (p : P3) (l : Lk) : Bool := seenL s l xs p && inkB (sign s l p)
section
variable {s : P3} {ls : List Lk} {xs : List P3} {p : P3} {l l' : Lk} {free : Nat}
/-- in an agreeing stone no look that sees a grain tells it the sky -/
theorem Agr.sky (ha : Agr s ls xs) (hp : p ∈ xs) (hl : l ∈ ls) (h : seenL s l xs p = true) : sign s l p ≠ 46 := by
  intro e
  have : (barP s ls xs p).isSome = true := bar_some.mpr (.inl ⟨entL s xs p l, List.mem_map.mpr ⟨l, hl, rfl⟩, h, e⟩)
  rw [ha p hp] at this
  cases this
theorem inkB_iff {c : Nat} : inkB c = true ↔ c ≠ 46 ∧ c ≠ 63 := by
  unfold inkB
  simp
theorem told_iff : toldB s xs p l = true ↔ seenL s l xs p = true ∧ sign s l p ≠ 46 ∧ sign s l p ≠ 63 := by
  unfold toldB
  rw [Bool.and_eq_true, inkB_iff]
/-- and no two tell it unlike letters -/
theorem Agr.one (ha : Agr s ls xs) (hp : p ∈ xs) (hl : l ∈ ls) (hl' : l' ∈ ls) (h : toldB s xs p l = true) (h' : toldB s xs p l' = true) : sign s l p = sign s l' p := by
  refine Classical.byContradiction fun e => ?_
  obtain ⟨a1, a2, a3⟩ := told_iff.mp h
  obtain ⟨b1, b2, b3⟩ := told_iff.mp h'
  have : (barP s ls xs p).isSome = true := bar_some.mpr (.inr ⟨entL s xs p l, entL s xs p l', List.mem_map.mpr ⟨l, hl, rfl⟩, List.mem_map.mpr ⟨l', hl', rfl⟩, a1, b1, a2, a3, b2, b3, e⟩)
  rw [ha p hp] at this
  cases this
/-! ### a stone's own pictures -/
/-! ### a true look: snapped of the stone with its paint, some signs veiled -/
/-! ### bare doors told apart -/
end
end VL
set_option Elab.async false
set_option linter.all false
set_option maxRecDepth 100000
/-! VM: loops whose turns lead somewhere. -/
namespace VL
open PySem L2 PySem.Spec PyProof.Rows
end VL
set_option Elab.async false
set_option linter.all false
set_option maxRecDepth 100000
/-! VM: moves. -/
namespace VL
open PySem L2 PySem.Spec PyProof.Rows
/-! ### lists of data told apart by their encoding -/
section
variable {α : Type} {e : α → D}
theorem toPA_map : ∀ xs : List α, toPA (xs.map e) = xs.map fun x => toP (e x)
  | [] => rfl
  | x :: xs => by simp only [List.map_cons, toPA, toPA_map xs]
variable [DecidableEq α] (hq : ∀ a b, PyData.eqv (toP (e a)) (toP (e b)) = decide (a = b)) (h1 : ∀ x, (toP (e x)).canLay0 = true) (h2 : ∀ x, (toP (e x)).depth ≤ 10)
include hq h1 h2
end
/-! ### triples by their parts -/
def Ix (i : Int) : Prop := i = 0 ∨ i = 1 ∨ i = 2
def cmp (p : P3) (i : Int) : Int := if i = 0 then p.1 else if i = 1 then p.2.1 else p.2.2
def mk3 (f : Int → Int) : P3 := (f 0, f 1, f 2)
/-- data that stand for a triple -/
def Is3 (d : D) (p : P3) : Prop := ∀ i, Ix i → idxG d (.int i) = .ok (.int (cmp p i))
theorem is3_e3 (p : P3) : Is3 (e3 p) p := by
  rintro i (rfl | rfl | rfl) <;> simp [cmp]
def e3k (p : P3) : D := .kt [.int p.1, .int p.2.1, .int p.2.2]
theorem is3_e3k (p : P3) : Is3 (e3k p) p := by
  rintro i (rfl | rfl | rfl) <;> simp [cmp, e3k]
/-! ### moves -/
abbrev Mv := P3 × P3
def eMv (m : Mv) : D := .tup [e3 m.1, e3 m.2]
def eMk (m : Mv) : D := .tup [e3k m.1, e3 m.2]
def ordersL : List P3 := [(0, 1, 2), (0, 2, 1), (1, 0, 2), (1, 2, 0), (2, 0, 1), (2, 1, 0)]
def bitsL : List P3 := [(0, 0, 0), (0, 0, 1), (0, 1, 0), (0, 1, 1), (1, 0, 0), (1, 0, 1), (1, 1, 0), (1, 1, 1)]
def movesL : List Mv := ordersL.flatMap fun o => bitsL.map fun b => (o, b)
theorem mem_moves {m : Mv} : m ∈ movesL ↔ m.1 ∈ ordersL ∧ m.2 ∈ bitsL := by
  unfold movesL
  simp only [List.mem_flatMap, List.mem_map]
  constructor
  · rintro ⟨o, ho, b, hb, rfl⟩
    exact ⟨ho, hb⟩
  · rintro ⟨h1, h2⟩
    exact ⟨m.1, h1, m.2, h2, rfl⟩
theorem mem_orders {o : P3} (h : o ∈ ordersL) : o = (0, 1, 2) ∨ o = (0, 2, 1) ∨ o = (1, 0, 2) ∨ o = (1, 2, 0) ∨ o = (2, 0, 1) ∨ o = (2, 1, 0) := by
  simpa [ordersL] using h
theorem order_ix {o : P3} (h : o ∈ ordersL) {i : Int} (hi : Ix i) : Ix (cmp o i) := by
  rcases mem_orders h with rfl | rfl | rfl | rfl | rfl | rfl <;> rcases hi with rfl | rfl | rfl <;> simp [cmp, Ix]
def mvC (s : P3) (m : Mv) (p : P3) (i : Int) : Int := if cmp m.2 i = 1 then cmp s (cmp m.1 i) - 1 - cmp p (cmp m.1 i) else cmp p (cmp m.1 i)
def mvP (s : P3) (m : Mv) (p : P3) : P3 := mk3 (mvC s m p)
def mvS (s : P3) (m : Mv) : P3 := mk3 fun i => cmp s (cmp m.1 i)
section
variable {m n : Mv} (hm : m ∈ movesL) (hn : n ∈ movesL)
include hm
theorem ordIx {i : Int} (hi : Ix i) : Ix (cmp m.1 i) := order_ix (mem_moves.mp hm).1 hi
include hn
end
/-! ### moves as data -/
@[simp] theorem lf_eMv (m : Mv) : lf (eMv m) = true := by simp [eMv]
@[simp] theorem lf_e3k (p : P3) : lf (e3k p) = true := by simp [e3k]
@[simp] theorem lf_eMk (m : Mv) : lf (eMk m) = true := by simp [eMk]
end VL
set_option Elab.async false
set_option linter.all false
set_option maxRecDepth 100000
/-! VM: stones moved. -/
namespace VL
open PySem L2 PySem.Spec PyProof.Rows
/-- the stone moved, rising -/
def mvX (s : P3) (m : Mv) (xs : List P3) : List P3 := sort3 (xs.map (mvP s m))
end VL
set_option Elab.async false
set_option linter.all false
set_option maxRecDepth 100000
/-! VM: forms, the order of forms, the least one. -/
namespace VL
open PySem L2 PySem.Spec PyProof.Rows PySem.SeqAt
abbrev Fm := P3 × List P3
def eF (f : Fm) : D := .tup [e3 f.1, .lst (f.2.map e3)]
def ltX : List P3 → List P3 → Bool
  | [], [] => false
  | [], _ :: _ => true
  | _ :: _, [] => false
  | x :: xs, y :: ys => if x = y then ltX xs ys else lt3 x y
def ltF (f g : Fm) : Bool := if f.1 = g.1 then ltX f.2 g.2 else lt3 f.1 g.1
theorem lt3_irr (p : P3) : lt3 p p = false := by
  rw [Bool.eq_false_iff]
  intro h
  have := lt3_iff.mp h
  omega
theorem lt3_trans {p q r : P3} (h1 : lt3 p q = true) (h2 : lt3 q r = true) : lt3 p r = true := by
  rw [lt3_iff] at *
  omega
theorem lt3_tri {p q : P3} (h1 : lt3 p q = false) (h2 : lt3 q p = false) : p = q := by
  rw [Bool.eq_false_iff] at h1 h2
  rw [ne_eq, lt3_iff] at h1 h2
  exact Prod.ext (by omega) (Prod.ext (by omega) (by omega))
theorem ltX_irr : ∀ xs, ltX xs xs = false
  | [] => rfl
  | x :: xs => by rw [ltX, if_pos rfl, ltX_irr xs]
theorem ltX_trans : ∀ {xs ys zs : List P3}, ltX xs ys = true → ltX ys zs = true → ltX xs zs = true
  | [], [], _, h, _ => by cases h
  | [], _ :: _, [], _, h => by cases h
  | [], _ :: _, _ :: _, _, _ => rfl
  | _ :: _, [], _, h, _ => by cases h
  | _ :: _, _ :: _, [], _, h => by cases h
  | x :: xs, y :: ys, z :: zs, h1, h2 => by
    rw [ltX] at h1 h2 ⊢
    by_cases a : x = y
    · rw [if_pos a] at h1
      subst a
      by_cases b : x = z
      · rw [if_pos b] at h2 ⊢
        exact ltX_trans h1 h2
      · rw [if_neg b] at h2 ⊢
        exact h2
    · rw [if_neg a] at h1
      by_cases b : y = z
      · subst b
        rw [if_neg a]
        exact h1
      · rw [if_neg b] at h2
        have h3 := lt3_trans h1 h2
        have hne : x ≠ z := fun e => by rw [e, lt3_irr] at h3; cases h3
        rw [if_neg hne]
        exact h3
theorem ltX_tri : ∀ {xs ys : List P3}, ltX xs ys = false → ltX ys xs = false → xs = ys
  | [], [], _, _ => rfl
  | [], _ :: _, h, _ => by cases h
  | _ :: _, [], _, h => by cases h
  | x :: xs, y :: ys, h1, h2 => by
    rw [ltX] at h1 h2
    by_cases a : x = y
    · rw [if_pos a] at h1
      rw [if_pos a.symm] at h2
      rw [a, ltX_tri h1 h2]
    · rw [if_neg a] at h1
      rw [if_neg (Ne.symm a)] at h2
      exact absurd (lt3_tri h1 h2) a
theorem ltF_irr (f : Fm) : ltF f f = false := by
  unfold ltF
  rw [if_pos rfl, ltX_irr]
theorem ltF_trans {f g h : Fm} (h1 : ltF f g = true) (h2 : ltF g h = true) : ltF f h = true := by
  unfold ltF at *
  by_cases a : f.1 = g.1
  · rw [if_pos a] at h1
    by_cases b : g.1 = h.1
    · rw [if_pos b] at h2
      rw [if_pos (a.trans b)]
      exact ltX_trans h1 h2
    · rw [if_neg b] at h2
      rw [a, if_neg b]
      exact h2
  · rw [if_neg a] at h1
    by_cases b : g.1 = h.1
    · rw [← b, if_neg a]
      exact h1
    · rw [if_neg b] at h2
      have h3 := lt3_trans h1 h2
      have hne : f.1 ≠ h.1 := fun e => by rw [e, lt3_irr] at h3; cases h3
      rw [if_neg hne]
      exact h3
theorem ltF_tri {f g : Fm} (h1 : ltF f g = false) (h2 : ltF g f = false) : f = g := by
  unfold ltF at *
  by_cases a : f.1 = g.1
  · rw [if_pos a] at h1
    rw [if_pos a.symm] at h2
    exact Prod.ext a (ltX_tri h1 h2)
  · rw [if_neg a] at h1
    rw [if_neg (Ne.symm a)] at h2
    exact absurd (lt3_tri h1 h2) a
theorem ltF_or (f g : Fm) : (lt3 f.1 g.1 || (decide (f.1 = g.1) && ltX f.2 g.2)) = ltF f g := by
  unfold ltF
  by_cases a : f.1 = g.1
  · rw [if_pos a, a, lt3_irr]
    simp
  · rw [if_neg a]
    simp [a]
/-! ### the order of data -/
theorem lexT_self (x : Int ⊕ List Nat) (l m : List (Int ⊕ List Nat)) : PyProof.Rows.lexLt itemOrd (x :: l) (x :: m) = PyProof.Rows.lexLt itemOrd l m := PySem.W.lex_pre [x] l m
theorem ltAll_cons {x y : PyData} {xs ys : List PyData} (h : PySem.W.alike x y = true) : PyProof.Rows.lexLt itemOrd (PySem.W.keyToksAll (x :: xs)) (PySem.W.keyToksAll (y :: ys)) = if PyData.eqv x y = true then PyProof.Rows.lexLt itemOrd (PySem.W.keyToksAll xs) (PySem.W.keyToksAll ys) else PySem.W.dataLt x y := by
  obtain ⟨a1, a2⟩ := PySem.W.toks_eqv x y h
  rw [PySem.W.toks_all_cons, PySem.W.toks_all_cons, lexT_self]
  cases hx : PyData.eqv x y with
  | true =>
    rw [if_pos rfl, a1 hx, PySem.W.lex_pre]
  | false =>
    rw [if_neg Bool.false_ne_true, a2 hx]
    rfl
theorem ltD_int (a b : Int) : PySem.W.dataLt (.int a) (.int b) = decide (a < b) := by
  unfold PySem.W.dataLt
  rw [Bool.eq_iff_iff]
  simp [PySem.W.keyToks, PyProof.Rows.lexLt, itemLt]
theorem ltAll_nn : PyProof.Rows.lexLt itemOrd (PySem.W.keyToksAll []) (PySem.W.keyToksAll []) = false := by
  simp [PySem.W.keyToksAll, PyProof.Rows.lexLt, itemLt]
theorem ltAll_nc (y : PyData) (ys : List PyData) : PyProof.Rows.lexLt itemOrd (PySem.W.keyToksAll []) (PySem.W.keyToksAll (y :: ys)) = true := by
  simp [PySem.W.keyToksAll, PyProof.Rows.lexLt, itemLt]
theorem ltAll_cn (y : PyData) (ys : List PyData) : PyProof.Rows.lexLt itemOrd (PySem.W.keyToksAll (y :: ys)) (PySem.W.keyToksAll []) = false := by
  simp [PySem.W.keyToksAll, PyProof.Rows.lexLt, itemLt]
theorem alike_e3 (p q : P3) : PySem.W.alike (toP (e3 p)) (toP (e3 q)) = true := by simp [e3, toP, toPA, PySem.W.alike, PySem.W.alikeAll]
theorem ltD_e3 (p q : P3) : PySem.W.dataLt (toP (e3 p)) (toP (e3 q)) = lt3 p q := by
  have hi (a b : Int) : PySem.W.alike (.int a) (.int b) = true := rfl
  show PyProof.Rows.lexLt itemOrd (PySem.W.keyToksAll [.int p.1, .int p.2.1, .int p.2.2]) (PySem.W.keyToksAll [.int q.1, .int q.2.1, .int q.2.2]) = _
  rw [ltAll_cons (hi _ _), ltAll_cons (hi _ _), ltAll_cons (hi _ _), ltAll_nn, ltD_int, ltD_int, ltD_int]
  unfold lt3
  simp only [HT.lexLt, PyData.eqv, beq_iff_eq]
theorem alike_e3s : ∀ xs ys : List P3, PySem.W.alikeAll (toPA (xs.map e3)) (toPA (ys.map e3)) = true
  | [], _ => by simp [toPA, PySem.W.alikeAll]
  | _ :: _, [] => by simp [toPA, PySem.W.alikeAll]
  | x :: xs, y :: ys => by simp only [List.map_cons, toPA, PySem.W.alikeAll, alike_e3, alike_e3s xs ys, Bool.and_self]
theorem ltD_e3s : ∀ xs ys : List P3, PyProof.Rows.lexLt itemOrd (PySem.W.keyToksAll (toPA (xs.map e3))) (PySem.W.keyToksAll (toPA (ys.map e3))) = ltX xs ys
  | [], [] => ltAll_nn
  | [], y :: ys => ltAll_nc _ _
  | x :: xs, [] => ltAll_cn _ _
  | x :: xs, y :: ys => by
    simp only [List.map_cons, toPA]
    rw [ltAll_cons (alike_e3 x y), ltD_e3s xs ys, ltD_e3, eqv_e3, ltX]
    by_cases h : x = y <;> simp [h]
theorem alike_e3L (xs ys : List P3) : PySem.W.alike (toP (.lst (xs.map e3))) (toP (.lst (ys.map e3))) = true := alike_e3s xs ys
theorem eqv_e3L (xs ys : List P3) : PyData.eqv (toP (.lst (xs.map e3))) (toP (.lst (ys.map e3))) = decide (xs = ys) := by
  simp only [toP, PyData.eqv]
  exact eqvAll_e3s xs ys
theorem ltD_e3L (xs ys : List P3) : PySem.W.dataLt (toP (.lst (xs.map e3))) (toP (.lst (ys.map e3))) = ltX xs ys := ltD_e3s xs ys
theorem lt_lists (xs ys : List P3) : ltDG (.lst (xs.map e3)) (.lst (ys.map e3)) = .ok (.bl (ltX xs ys)) := by
  unfold ltDG
  rw [if_pos ⟨shaped_e3s xs, shaped_e3s ys, alike_e3L xs ys, rfl⟩, ltD_e3L]
theorem shaped_eF (f : Fm) : SeqAt.shaped (toP (eF f)) = true := by
  have h1 := canLay_e3s f.2
  have h2 := depth_e3s f.2
  have h3 : PyData.canLayAll0 [PyData.int f.1.1, PyData.int f.1.2.1, PyData.int f.1.2.2] = true := by simp [PyData.canLayAll0, PyData.canLay0]
  simp only [eF, e3, toP, toPA, SeqAt.shaped, PyData.canLay0, PyData.canLayAll0, PyData.depth, PyData.depthAll, Bool.and_true, Bool.and_eq_true, decide_eq_true_eq, true_and]
  have h4 : PyData.canLayAll0 (toPA (f.2.map fun p => D.tup [.int p.1, .int p.2.1, .int p.2.2])) = true := h1
  have h5 : PyData.depthAll (toPA (f.2.map fun p => D.tup [.int p.1, .int p.2.1, .int p.2.2])) ≤ 2 := h2
  refine ⟨h4, ?_⟩
  omega
theorem lt_forms (f g : Fm) : ltDG (eF f) (eF g) = .ok (.bl (ltF f g)) := by
  have al : PySem.W.alike (toP (eF f)) (toP (eF g)) = true := by
    simp only [eF, toP, toPA, PySem.W.alike, PySem.W.alikeAll, Bool.and_true, Bool.and_eq_true]
    exact ⟨alike_e3 f.1 g.1, alike_e3s f.2 g.2⟩
  unfold ltDG
  rw [if_pos ⟨shaped_eF f, shaped_eF g, al, rfl⟩]
  congr 2
  show PyProof.Rows.lexLt itemOrd (PySem.W.keyToksAll [toP (e3 f.1), toP (.lst (f.2.map e3))]) (PySem.W.keyToksAll [toP (e3 g.1), toP (.lst (g.2.map e3))]) = _
  rw [ltAll_cons (alike_e3 _ _), ltAll_cons (alike_e3L _ _), ltAll_nn, ltD_e3, ltD_e3L, eqv_e3, eqv_e3L]
  unfold ltF
  by_cases h : f.1 = g.1
  · simp only [h, decide_true, if_pos]
    by_cases h2 : f.2 = g.2
    · simp [h2, ltX_irr]
    · simp [h2]
  · simp [h]
/-! ### the least form -/
def formOf (s : P3) (xs : List P3) (m : Mv) : Fm := (mvS s m, mvX s m xs)
def lessF (acc : Option Fm) (f : Fm) : Option Fm := match acc with
  | none => some f
  | some l => if ltF f l = true then some f else some l
def leastF (fs : List Fm) : Option Fm := fs.foldl lessF none
theorem least_fold : ∀ (fs : List Fm) (l : Fm), ∃ r, fs.foldl lessF (some l) = some r ∧ (r = l ∨ r ∈ fs) ∧ ltF l r = false ∧ ∀ f, f ∈ fs → ltF f r = false
  | [], l => ⟨l, rfl, .inl rfl, ltF_irr l, fun f h => nomatch h⟩
  | f :: fs, l => by
    rw [List.foldl_cons]
    unfold lessF
    by_cases c : ltF f l = true
    · simp only [c, if_pos]
      obtain ⟨r, h1, h2, h3, h4⟩ := least_fold fs f
      refine ⟨r, h1, .inr (h2.elim (fun e => e ▸ List.mem_cons_self) fun h => List.mem_cons_of_mem _ h), ?_, fun g hg => ?_⟩
      · rw [Bool.eq_false_iff]
        intro hc
        have := ltF_trans c hc
        rw [h3] at this
        cases this
      · rcases List.mem_cons.mp hg with rfl | hg
        · exact h3
        · exact h4 g hg
    · simp only [c]
      obtain ⟨r, h1, h2, h3, h4⟩ := least_fold fs l
      refine ⟨r, h1, h2.imp id fun h => List.mem_cons_of_mem _ h, h3, fun g hg => ?_⟩
      rcases List.mem_cons.mp hg with rfl | hg
      · rw [Bool.eq_false_iff]
        intro hc
        -- g < r, r not above l
        rcases h2 with e | e
        · rw [e] at hc; exact c hc
        · by_cases c2 : ltF r l = true
          · exact c (ltF_trans hc c2)
          · have := ltF_tri (by simpa using c2) h3
            rw [this] at hc
            exact c hc
      · exact h4 g hg
theorem least_spec {fs : List Fm} (h : fs ≠ []) : ∃ r, leastF fs = some r ∧ r ∈ fs ∧ ∀ f, f ∈ fs → ltF f r = false := by
  cases fs with
  | nil => exact absurd rfl h
  | cons f fs =>
    obtain ⟨r, h1, h2, h3, h4⟩ := least_fold fs f
    refine ⟨r, h1, h2.elim (fun e => e ▸ List.mem_cons_self) fun h => List.mem_cons_of_mem _ h, fun g hg => ?_⟩
    rcases List.mem_cons.mp hg with rfl | hg
    · exact h3
    · exact h4 g hg
theorem moves_ne : movesL ≠ [] := by decide
def encF : Option Fm → D
  | some f => eF f
  | none => .non
end VL
set_option Elab.async false
set_option linter.all false
set_option maxRecDepth 100000
/-! VM: looks moved. -/
namespace VL
open PySem L2 PySem.Spec PyProof.Rows
section
variable {m : Mv} (hm : m ∈ movesL) {s w p d : P3}
include hm
omit hm
include hm
end
end VL
set_option Elab.async false
set_option linter.all false
set_option maxRecDepth 100000
/-! VM: a dict built of different places; its items; moved pictures. -/
namespace VL
open PySem L2 PySem.Spec PyProof.Rows
end VL
set_option Elab.async false
set_option linter.all false
set_option maxRecDepth 100000
/-! VM26: rows that nobody has looked through; papers that stand. -/
namespace VL
open PySem L2 PySem.Spec PyProof.Rows
theorem inkB_of {c : Nat} (h : c ≠ 46) (h2 : c ≠ 63) : inkB c = true := by simp [inkB, h, h2]
abbrev GRow := P3 × Int × Int
def toG (r : BRow) : GRow := (r.1, (r.2.1 : Int), (r.2.2 : Int))
/-- what two looks say of a grain -/
def pairB (s : P3) (a b : Lk) (same : Bool) (p : P3) : Bool := if same = true then decide (sign s a p = 46) else inkB (sign s a p) && (inkB (sign s b p) && !decide (sign s a p = sign s b p))
def sayB (s : P3) (ls : List Lk) (xs : List P3) (r : GRow) : Bool :=
  decide (r.1 ∈ xs) && (decide (0 ≤ r.2.1 ∧ r.2.1 ≤ r.2.2) && match ls[r.2.1.toNat]?, ls[r.2.2.toNat]? with
    | some a, some b => seenL s a xs r.1 && (seenL s b xs r.1 && pairB s a b (decide (r.2.1 = r.2.2)) r.1)
    | _, _ => false)
inductive Stands (s : P3) (ls : List Lk) : List P3 → List GRow → List P3 → Prop
  | nil (xs : List P3) : Stands s ls xs [] xs
  | cons {xs ys : List P3} {r : GRow} {rs : List GRow} : sayB s ls xs r = true → Stands s ls (xs.erase r.1) rs ys → Stands s ls xs (r :: rs) ys
section
variable {s : P3} {ls : List Lk} {xs ys : List P3} {r : GRow} {rs : List GRow}
theorem sayB_iff : sayB s ls xs r = true ↔ r.1 ∈ xs ∧ (0 ≤ r.2.1 ∧ r.2.1 ≤ r.2.2) ∧ ∃ a b, ls[r.2.1.toNat]? = some a ∧ ls[r.2.2.toNat]? = some b ∧ seenL s a xs r.1 = true ∧ seenL s b xs r.1 = true ∧ pairB s a b (decide (r.2.1 = r.2.2)) r.1 = true := by
  unfold sayB
  cases h1 : ls[r.2.1.toNat]? with
  | none => simp
  | some a =>
    cases h2 : ls[r.2.2.toNat]? with
    | none => simp
    | some b => simp [Bool.and_eq_true]
theorem sayB_brow {r : BRow} (h : r ∈ brows s ls xs) : sayB s ls xs (toG r) = true := by
  obtain ⟨h1, l1, l2, hij, g1, g2, s1, s2, hc⟩ := brow_says h
  refine sayB_iff.mpr ⟨h1, ⟨by simp only [toG]; omega, by simp only [toG]; omega⟩, l1, l2, by simpa [toG] using g1, by simpa [toG] using g2, s1, s2, ?_⟩
  show pairB s l1 l2 (decide ((r.2.1 : Int) = (r.2.2 : Int))) r.1 = true
  unfold pairB
  rcases hc with ⟨h2, h3⟩ | ⟨h2, h3, h4, h5, h6, h7⟩
  · rw [if_pos (by simp [h2])]
    exact decide_eq_true h3
  · rw [if_neg (by rw [decide_eq_true_eq]; omega), inkB_of h3 h4, inkB_of h5 h6, decide_eq_false h7]
    rfl
theorem PaperOk.stands {rs : List BRow} (h : PaperOk s ls xs rs ys) : Stands s ls xs (rs.map toG) ys := by
  induction h with
  | nil => exact .nil _
  | cons h1 _ ih => exact .cons (sayB_brow h1) ih
theorem Stands.app {zs : List P3} {ts : List GRow} (h : Stands s ls xs rs ys) (g : Stands s ls ys ts zs) : Stands s ls xs (rs ++ ts) zs := by
  induction h with
  | nil => exact g
  | cons h1 _ ih => exact .cons h1 (ih g)
theorem Stands.sub (h : Stands s ls xs rs ys) : ys.Sublist xs := by
  induction h with
  | nil => exact List.Sublist.refl _
  | cons _ _ ih => exact ih.trans List.erase_sublist
theorem Stands.len (h : Stands s ls xs rs ys) : rs.length + ys.length = xs.length := by
  induction h with
  | nil => simp
  | cons h1 _ ih =>
    have hm := (sayB_iff.mp h1).1
    have := List.length_erase_of_mem hm
    have := List.length_pos_of_mem hm
    rw [List.length_cons]
    omega
theorem sayB_mono {xs ys : List P3} (h : ∀ q, q ∈ ys → q ∈ xs) (hp : r.1 ∈ ys) (hs : sayB s ls xs r = true) : sayB s ls ys r = true := by
  obtain ⟨_, h2, a, b, g1, g2, s1, s2, hc⟩ := sayB_iff.mp hs
  exact sayB_iff.mpr ⟨hp, h2, a, b, g1, g2, seenL_mono h s1, seenL_mono h s2, hc⟩
/-- more looks behind: the rows stand still -/
theorem sayB_more {ls' : List Lk} (hs : sayB s ls xs r = true) : sayB s (ls ++ ls') xs r = true := by
  obtain ⟨h1, h2, a, b, g1, g2, c⟩ := sayB_iff.mp hs
  have k1 := (List.getElem?_eq_some_iff.mp g1).1
  have k2 := (List.getElem?_eq_some_iff.mp g2).1
  exact sayB_iff.mpr ⟨h1, h2, a, b, by rw [List.getElem?_append_left k1]; exact g1, by rw [List.getElem?_append_left k2]; exact g2, c⟩
theorem Stands.more {ls' : List Lk} (h : Stands s ls xs rs ys) : Stands s (ls ++ ls') xs rs ys := by
  induction h with
  | nil => exact .nil _
  | cons h1 _ ih => exact .cons (sayB_more h1) ih
/-- a grain that nobody asks for is taken out -/
theorem Stands.drop {q : P3} (hn : xs.Nodup) (h : Stands s ls xs rs ys) : Stands s ls (xs.filter fun o => !decide (o = q)) (rs.filter fun r => !decide (r.1 = q)) (ys.filter fun o => !decide (o = q)) := by
  induction h with
  | nil => exact .nil _
  | @cons xs ys r rs h1 _ ih =>
    have ih := ih (hn.sublist List.erase_sublist)
    by_cases e : r.1 = q
    · rw [List.filter_cons_of_neg (by simp [e])]
      have : (xs.erase r.1).filter (fun o => !decide (o = q)) = xs.filter fun o => !decide (o = q) := by
        rw [hn.erase_eq_filter, List.filter_filter]
        refine List.filter_congr fun o _ => ?_
        subst e
        by_cases g : o = r.1 <;> simp [g]
      rw [this] at ih
      exact ih
    · rw [List.filter_cons_of_pos (by simp [e])]
      refine .cons (sayB_mono (fun o ho => (List.mem_filter.mp ho).1) (List.mem_filter.mpr ⟨(sayB_iff.mp h1).1, by simp [e]⟩) h1) ?_
      have : (xs.erase r.1).filter (fun o => !decide (o = q)) = (xs.filter fun o => !decide (o = q)).erase r.1 := by
        rw [hn.erase_eq_filter, (hn.sublist List.filter_sublist).erase_eq_filter, List.filter_filter, List.filter_filter]
        refine List.filter_congr fun o _ => ?_
        rw [Bool.and_comm]
      rw [this] at ih
      exact ih
/-- agreeing stones within stay within -/
theorem Stands.keeps (h : Stands s ls xs rs ys) {zs : List P3} (ha : Agr s ls zs) (hz : ∀ q, q ∈ zs → q ∈ xs) : ∀ q, q ∈ zs → q ∈ ys := by
  induction h with
  | nil => exact hz
  | @cons xs ys r rs h1 _ ih =>
    refine ih fun q hq => ?_
    have hc : r.1 ∉ zs := by
      intro hm
      have := sayB_mono hz hm h1
      obtain ⟨_, ⟨h2, h3⟩, a, b, g1, g2, s1, s2, hc⟩ := sayB_iff.mp this
      have m1 : entL s zs r.1 a ∈ ls.map (entL s zs r.1) := List.mem_map_of_mem (List.mem_of_getElem? g1)
      have m2 : entL s zs r.1 b ∈ ls.map (entL s zs r.1) := List.mem_map_of_mem (List.mem_of_getElem? g2)
      have hB : Bars (ls.map (entL s zs r.1)) := by
        unfold pairB at hc
        by_cases c : decide (r.2.1 = r.2.2) = true
        · rw [if_pos c] at hc
          exact .inl ⟨_, m1, s1, of_decide_eq_true hc⟩
        · rw [if_neg c] at hc
          simp only [Bool.and_eq_true, inkB, Bool.not_eq_true', decide_eq_false_iff_not] at hc
          exact .inr ⟨_, _, m1, m2, s1, s2, hc.1.1, hc.1.2, hc.2.1.1, hc.2.1.2, hc.2.2⟩
      have hb : (barP s ls zs r.1).isSome = true := bar_some.mpr hB
      rw [ha r.1 hm] at hb
      cases hb
    exact (List.mem_erase_of_ne (fun e => hc (by rw [← e]; exact hq))).mpr (hz q hq)
end
end VL
set_option Elab.async false
set_option linter.all false
set_option maxRecDepth 100000
/-! VM27: what a row needs. -/
namespace VL
open PySem L2 PySem.Spec PyProof.Rows
/-- the grains nearer on a place's line, the nearest first -/
def hidL (s w : P3) (xs : List P3) (p : P3) : List P3 := ((List.range (depth s w p)).map fun (i : Nat) => stp p w (-((i : Int) + 1))).filter fun q => decide (q ∈ xs)
def wayAt (ls : List Lk) (i : Nat) : P3 := (ls.getD i ⟨(0, 0, 0), []⟩).w
def hids (s : P3) (ls : List Lk) (xs : List P3) (r : BRow) : List P3 := hidL s (wayAt ls r.2.1) xs r.1 ++ hidL s (wayAt ls r.2.2) xs r.1
/-- the rows that are wanted, of rows from the last on -/
def needR (s : P3) (ls : List Lk) (xs : List P3) : List P3 → List BRow → List BRow
  | _, [] => []
  | W, r :: rs => if r.1 ∈ W then needR s ls xs (W ++ hids s ls xs r) rs ++ [r] else needR s ls xs W rs
def needs (s : P3) (ls : List Lk) (xs : List P3) (rs : List BRow) (g : P3) : List BRow := needR s ls xs [g] rs.reverse
section
variable {s : P3} {ls : List Lk} {xs ys : List P3} {r : BRow} {rs : List BRow}
theorem Stands.perm (h : Stands s ls xs (rs.map toG) ys) : xs.Perm (rs.map (·.1) ++ ys) := by
  induction rs generalizing xs with
  | nil => cases h; exact List.Perm.refl _
  | cons r rs ih =>
    rw [List.map_cons] at h
    cases h with
    | cons h1 h2 =>
      have hm := (sayB_iff.mp h1).1
      have := ih h2
      exact (List.perm_cons_erase hm).trans (this.cons _)
theorem Stands.snoc {rs : List GRow} {r : GRow} {zs : List P3} : ∀ {xs : List P3}, Stands s ls xs (rs ++ [r]) zs ↔ ∃ ys, Stands s ls xs rs ys ∧ sayB s ls ys r = true ∧ zs = ys.erase r.1 := by
  induction rs with
  | nil =>
    intro xs
    constructor
    · intro h
      cases h with
      | cons h1 h2 =>
        cases h2
        exact ⟨xs, .nil _, h1, rfl⟩
    · rintro ⟨ys, h1, h2, rfl⟩
      cases h1
      exact .cons h2 (.nil _)
  | cons r0 rs ih =>
    intro xs
    constructor
    · intro h
      rw [List.cons_append] at h
      cases h with
      | cons h1 h2 =>
        obtain ⟨ys, a, b, c⟩ := ih.mp h2
        exact ⟨ys, .cons h1 a, b, c⟩
    · rintro ⟨ys, h1, h2, h3⟩
      cases h1 with
      | cons a b => exact .cons a (ih.mpr ⟨ys, b, h2, h3⟩)
/-- a row of a standing paper stands in a stone with all that no row names -/
theorem Stands.at {rs : List BRow} : ∀ {xs ys : List P3}, Stands s ls xs (rs.map toG) ys → ∀ r, r ∈ rs → ∃ zs, sayB s ls zs (toG r) = true ∧ ∀ q, q ∈ xs → q ∉ rs.map (·.1) → q ∈ zs := by
  induction rs with
  | nil => intro xs ys _ r hr; cases hr
  | cons r0 rs ih =>
    intro xs ys h r hr
    rw [List.map_cons] at h
    cases h with
    | cons h1 h2 =>
      rcases List.mem_cons.mp hr with e | hr
      · subst e
        exact ⟨xs, h1, fun q hq _ => hq⟩
      · obtain ⟨zs, a, b⟩ := ih h2 r hr
        refine ⟨zs, a, fun q hq hn => ?_⟩
        rw [List.map_cons, List.mem_cons, not_or] at hn
        exact b q ((List.mem_erase_of_ne hn.1).mpr hq) hn.2
end
end VL
namespace VL
open PySem L2 PySem.Spec PyProof.Rows
end VL
set_option Elab.async false
set_option linter.all false
set_option maxRecDepth 100000
/-! VM28: rows compared. -/
namespace VL
open PySem L2 PySem.Spec PyProof.Rows
end VL
set_option Elab.async false
set_option linter.all false
set_option maxRecDepth 100000
/-! VM22: the combinators of objects, for simp. -/
namespace Q
open PySem L2 VL PySem.Spec PyProof.Rows
variable {ρ : Rho} {i j : Nat} {c f g m : Str} {a b : Rho → M D} {as : Rho → M (List D)} {G : List D → MO} {q : List D → M D} {h : Rho → MR} {t : Rho → MT}
@[simp] theorem eFldE_ap : eFldE i c f ρ = match ρ[i]? with
  | some (.sh (.obj _ c' ns ds)) => (match lookF f ns ds with | some d => if c' = c then .ok d else .er | none => .er)
  | _ => .er := rfl
@[simp] theorem sSetL_ap : sSetL i c f a ρ = match ρ[i]? with
  | some (.ow (.obj p c' ns ds)) => ofM ρ (fun d => match d with
    | .lst es => if c' = c ∧ ns.length < 1000 ∧ lfA es = true then .nx (ρ.set i (.ow (.obj p c' (putN f ns) (putDs f (.lst es) ns ds)))) else .er
    | _ => .er) (a ρ)
  | _ => .er := rfl
@[simp] theorem eMeth_ap : eMeth c m q a as ρ = M.bind (a ρ) fun d => match d with
  | .obj p c' ns ds => if c' = c ∧ m ∉ ns then M.bind (as ρ) fun xs => q (.obj p c' ns ds :: xs) else .er
  | _ => .er := rfl
@[simp] theorem moR_ok (d o : D) : moR i ρ (.ok d o) = .ok d (ρ.set i (.ow o)) := rfl
@[simp] theorem moR_ex (x : Xc) (o : D) : moR i ρ (.ex x o) = .ex x (ρ.set i (.ow o)) := rfl
@[simp] theorem sExO_ap : sExO h ρ = match h ρ with
  | .ok _ ρ' => .nx ρ'
  | .ex c ρ' => .ex c ρ'
  | .er => .er := rfl
@[simp] theorem sRetS_ap : sRetS a ρ = ofM ρ (fun d => .rs d ρ) (a ρ) := rfl
@[simp] theorem tTru_ap : tTru h ρ = match h ρ with
  | .ok d ρ' => (match truG d with | .ok b => .ok b ρ' | _ => .er)
  | .ex c ρ' => .ex c ρ'
  | .er => .er := rfl
@[simp] theorem tNot_ap : tNot t ρ = match t ρ with
  | .ok b ρ' => .ok (!b) ρ'
  | r => r := rfl
@[simp] theorem sIfM_ap (s1 s2 : Rho → Res) : sIfM t s1 s2 ρ = match t ρ with
  | .ok true ρ' => s1 ρ'
  | .ok false ρ' => s2 ρ'
  | .ex c ρ' => .ex c ρ'
  | .er => .er := rfl
@[simp] theorem eMethO_ap : eMethO i c m G as ρ = match ρ[i]? with
  | some (.ow (.obj p c' ns ds)) => if c' = c ∧ m ∉ ns then (match as ρ with
    | .ok xs => moR i ρ (G (.obj p c' ns ds :: xs))
    | .ex c => .ex c ρ
    | .er => .er) else .er
  | _ => .er := rfl
@[simp] theorem sFbm_ap (eff : List D → List D → M (List D)) : sFbm i c f eff as ρ = match ρ[i]? with
  | some (.ow (.obj p c' ns ds)) => (match lookF f ns ds with
    | some (.lst es) => if c' = c then (match as ρ with
      | .ok xs => (match eff es xs with | .ok es' => .nx (ρ.set i (.ow (.obj p c' ns (putDs f (.lst es') ns ds)))) | _ => .er)
      | .ex c => .ex c ρ
      | .er => .er) else .er
    | _ => .er)
  | _ => .er := rfl
@[simp] theorem finO_rs (d0 d : D) : finO d0 (.rs d ρ) = objOf d0 (.ok d) ρ := rfl
@[simp] theorem finO_nx (d0 : D) : finO d0 (.nx ρ) = objOf d0 (.ok .non) ρ := rfl
@[simp] theorem finO_ex (d0 : D) (x : Xc) : finO d0 (.ex x ρ) = objOf d0 (.ex x) ρ := rfl
theorem objOf_obj (p : Addr) (c c2 : Str) (ns ns2 : List Str) (ds ds2 : List D) (k : D → MO) (r : Rho) : objOf (.obj p c2 ns2 ds2) k (.ow (.obj p c ns ds) :: r) = k (.obj p c ns ds) := by
  show (if isObj (.obj p c ns ds) = true ∧ pinD (.obj p c ns ds) = pinD (.obj p c2 ns2 ds2) then k (.obj p c ns ds) else .er) = _
  rw [if_pos ⟨rfl, rfl⟩]
theorem runO_obj (n N : Nat) (F : Rho → Res) (p : Addr) (c : Str) (ns : List Str) (ds as : List D) (hl : as.length + 1 = n) : runO n N F (.obj p c ns ds :: as) = finO (.obj p c ns ds) (F (.ow (.obj p c ns ds) :: (as.map .sh ++ List.replicate (N - n) .no))) := by
  show (if as.length + 1 = n ∧ isObj (.obj p c ns ds) = true then _ else _) = _
  rw [if_pos ⟨hl, rfl⟩]
end Q
set_option Elab.async false
set_option linter.all false
set_option maxRecDepth 100000
/-! VM23: combinators of VO16-VO21 for simp; the workshop as it stands. -/
namespace Q
open PySem L2 VL PySem.Spec PyProof.Rows
section
variable {ρ : Rho} {i j : Nat} {c f m : Str} {a b : Rho → M D} {as : Rho → M (List D)} {G : List D → MO} {q : List D → M D} {h h2 : Rho → MR} {t t2 : Rho → MT}
@[simp] theorem eCallM_ap : eCallM q h as ρ = match h ρ with
  | .ok d ρ' => (match as ρ' with
    | .ok xs => (match q (d :: xs) with
      | .ok u => .ok u ρ'
      | .ex c => .ex c ρ'
      | .er => .er)
    | .ex c => .ex c ρ'
    | .er => .er)
  | .ex c ρ' => .ex c ρ'
  | .er => .er := rfl
theorem runO_at (n N : Nat) (F : Rho → Res) (p : Addr) (c : Str) (ns : List Str) (ds as : List D) (hl : as.length + 1 = n) : runO n N F (.obj p c ns ds :: as) = finO (.obj p c ns ds) (F (.ow (.obj p c ns ds) :: (as.map .sh ++ List.replicate (N - n) .no))) := runO_obj n N F p c ns ds as hl
end

/-! ### the workshop -/
structure Ey where
  nm : List Nat
  l : Lk
abbrev eT (cs : List Nat) : D := .str ⟨cs.toArray⟩
structure Now where
  eyes : List Ey
  gone : List P3
  sure : List P3
  stand : List P3
  paper : List BRow
structure Shop where
  s : P3
  now : Now
  past : List Now
  ahead : List Now
theorem eq_eT (a b : List Nat) : eqG (eT a) (eT b) = .ok (.bl (decide (a = b))) := by
  show M.ok (D.bl (decide ((⟨a.toArray⟩ : Str) = ⟨b.toArray⟩))) = _
  congr 2
  rw [decide_eq_decide]
  constructor
  · intro h
    injection h with h
    exact List.toArray_inj h
  · intro h
    rw [h]
/-- a text of true signs -/
def Cok (cs : List Nat) : Prop := ∀ c, c ∈ cs → c < 1114112
theorem strok_eT {cs : List Nat} (h : Cok cs) : (toP (eT cs)).canLay0 = true := by
  simp only [toP, PyData.canLay0, PyData.strOk]
  simp
  exact h
theorem canLay_eTs : ∀ L : List (List Nat), (∀ c, c ∈ L → Cok c) → PyData.canLayAll0 (toPA (L.map eT)) = true
  | [], _ => rfl
  | x :: xs, h => by
    have hx := strok_eT (h x List.mem_cons_self)
    simp only [List.map_cons, toPA, PyData.canLayAll0, hx, Bool.true_and]
    exact canLay_eTs xs fun c hc => h c (List.mem_cons_of_mem _ hc)
theorem depth_eTs : ∀ xs : List (List Nat), PyData.depthAll (toPA (xs.map eT)) ≤ 1
  | [] => by simp [toPA, PyData.depthAll]
  | x :: xs => by
    have := depth_eTs xs
    simp [toPA, PyData.depthAll, toP, PyData.depth] at this ⊢
    omega
theorem eqv_eT (a c : List Nat) : PyData.eqv (toP (eT a)) (toP (eT c)) = decide (a = c) := by
  rw [Bool.eq_iff_iff]
  simp [toP, PyData.eqv]
theorem in_eTs (L : List (List Nat)) (c : List Nat) (hc : Cok c) (hL : ∀ c, c ∈ L → Cok c) : inB_ (eT c) (.lst (L.map eT)) = .ok (decide (c ∈ L)) := by
  have h : inB_ (eT c) (.lst (L.map eT)) = if SeqAt.shaped (toP (eT c)) = true ∧ SeqAt.shaped (toP (.lst (L.map eT))) = true then M.ok ((L.map eT).any fun z => PyData.eqv (toP z) (toP (eT c))) else M.er := by rfl
  have s1 : SeqAt.shaped (toP (eT c)) = true := by
    have := strok_eT hc
    simp only [SeqAt.shaped, this, Bool.true_and]
    simp [toP, PyData.depth]
  have s2 : SeqAt.shaped (toP (.lst (L.map eT))) = true := by
    have h1 := depth_eTs L
    have h2 := canLay_eTs L hL
    simp only [toP, SeqAt.shaped, PyData.canLay0, PyData.depth, h2, Bool.true_and, decide_eq_true_eq]
    omega
  rw [h, if_pos ⟨s1, s2⟩, List.any_map]
  congr 1
  rw [Bool.eq_iff_iff, List.any_eq_true, decide_eq_true_eq]
  simp only [Function.comp, eqv_eT, decide_eq_true_eq]
  constructor
  · rintro ⟨x, hx, rfl⟩; exact hx
  · exact fun h => ⟨c, h, rfl⟩
theorem cok_abc {cs : List Nat} (h : cs.all (fun c => decide (c ∈ abc)) = true) : Cok cs := fun c hc => by
  have h2 : c ∈ abc := by simpa using List.all_eq_true.mp h c hc
  simp [abc] at h2
  omega
/-- a new one -/
def fresh (s : P3) : Shop := ⟨s, ⟨[], [], [], places s, []⟩, [], []⟩
end Q
set_option Elab.async false
set_option linter.all false
set_option maxRecDepth 100000
/-! VM24: texts. -/
namespace Q
open PySem L2 VL PySem.Spec PyProof.Rows
theorem add_eT (a b : List Nat) (h : a.length + b.length ≤ 1000000) : addG (eT a) (eT b) = .ok (eT (a ++ b)) := by
  show (if (⟨a.toArray⟩ : Str).length + (⟨b.toArray⟩ : Str).length ≤ sizeLine then M.ok (D.str (⟨a.toArray⟩ ++ ⟨b.toArray⟩)) else .er) = _
  rw [show (⟨a.toArray⟩ : Str).length = a.length from List.size_toArray, show (⟨b.toArray⟩ : Str).length = b.length from List.size_toArray, if_pos (by rw [sizeLine_eq]; omega)]
  show M.ok (D.str ⟨a.toArray ++ b.toArray⟩) = _
  rw [List.append_toArray]
theorem mul_eS (c : Nat) (n : Int) (h : 0 ≤ n ∧ n ≤ 1000000) : mulSG (eS c) (.int n) = .ok (eT (List.replicate n.toNat c)) := by
  show (if (⟨#[c]⟩ : Str).length = 1 ∧ (0 : Int) ≤ n ∧ n ≤ 1000000 then M.ok (D.str (repS ⟨#[c]⟩ n)) else .er) = _
  rw [if_pos ⟨rfl, h.1, h.2⟩, repS_one c n h.1]
theorem len_eT (cs : List Nat) (h : cs.length ≤ 1000000) : lenG [eT cs] = .ok (.int cs.length) := by
  show (if (⟨cs.toArray⟩ : Str).length ≤ sizeLine then M.ok (D.int (⟨cs.toArray⟩ : Str).length) else .er) = _
  rw [show (⟨cs.toArray⟩ : Str).length = cs.length from List.size_toArray, if_pos (by rw [sizeLine_eq]; omega)]
theorem eS_eT (c : Nat) : eS c = eT [c] := rfl
theorem str_e : (Str.ofString "e") = ⟨#[101]⟩ := by decide +kernel
/-- a loop that keeps an invariant by the number of turns -/
theorem forR_nat {α : Type} {tg : D → Rho → Option Rho} {b : Rho → Res} (st : α → Rho) (I : Nat → α → Prop) : ∀ (ds : List D) (k : Nat) (s : α), I k s → (∀ i s d, ds[i]? = some d → I (k + i) s → ∃ s', I (k + i + 1) s' ∧ turn tg b d (st s) = .nx (st s')) →
    ∃ s', I (k + ds.length) s' ∧ forR tg b ds (st s) = .nx (st s')
  | [], k, s, h, _ => ⟨s, h, rfl⟩
  | d :: ds, k, s, h, hb => by
    obtain ⟨s1, h1, e1⟩ := hb 0 s d rfl h
    obtain ⟨s2, h2, e2⟩ := forR_nat st I ds (k + 1) s1 h1 fun i s d hd hi => by
      obtain ⟨s', h', e'⟩ := hb (i + 1) s d (by simpa using hd) (by rw [show k + (i + 1) = k + 1 + i by omega]; exact hi)
      exact ⟨s', by rw [show k + 1 + i + 1 = k + (i + 1) + 1 by omega]; exact h', e'⟩
    refine ⟨s2, by rw [List.length_cons, show k + (ds.length + 1) = k + 1 + ds.length by omega]; exact h2, ?_⟩
    rw [forR_cons, e1, next_nx, e2]
theorem rngD_get {n i : Nat} {d : D} (h : (rngD 0 n)[i]? = some d) : d = .int (i : Nat) ∧ i < n := by
  have e := rngD_0 (n : Nat)
  rw [Int.toNat_natCast] at e
  rw [e, List.getElem?_map] at h
  unfold rng at h
  simp at h
  obtain ⟨a, h1, h2⟩ := h
  by_cases hi : i < n
  · simp [List.getElem?_range, hi] at h1
    simp_all
  · rw [List.getElem?_eq_none (by simp; omega)] at h1
    cases h1
end Q
set_option Elab.async false
set_option linter.all false
set_option maxRecDepth 100000
/-! VM25: what each deed makes of a workshop. -/
namespace Q
open PySem L2 VL PySem.Spec PyProof.Rows
def goodNm (cs : List Nat) : Bool := decide (1 ≤ cs.length) && decide (cs.length ≤ 12) && cs.all fun c => decide (c ∈ abc)
theorem goodNm_cok {cs : List Nat} (h : goodNm cs = true) : Cok cs := by
  unfold goodNm at h
  rw [Bool.and_eq_true] at h
  exact cok_abc h.2
def keepA (S : Shop) (q : P3) : Str ⊕ Now := if inB S.s q = false then .inl "NoPlace" else if q ∈ S.now.gone ∨ q ∈ S.now.sure then .inl "Contrary"
  else .inr { S.now with sure := joinP S.s S.now.sure [q] }
structure NowOk (s : P3) (n : Now) : Prop where
  el : n.eyes.length ≤ 8
  nm : ∀ y, y ∈ n.eyes → goodNm y.nm = true
  lk : ∀ y, y ∈ n.eyes → LkOk s y.l ∧ LkSg y.l
  nd : (n.eyes.map Ey.nm).Nodup
  gn : n.gone.Sublist (places s)
  su : n.sure.Sublist (places s)
  st : n.stand.Sublist (places s)
  pp : n.paper.length + n.stand.length ≤ (places s).length
  pin : ∀ r, r ∈ n.paper → inB s r.1 = true
structure ShopOk (S : Shop) : Prop where
  sz : Sz 6 S.s
  now : NowOk S.s S.now
section
variable {s : P3} {n : Now} {S : Shop}
theorem places216 (h : Sz 6 s) : (places s).length ≤ 216 := Nat.le_trans (Sz.len (n := 6) h) (by decide)
theorem sub_in {xs : List P3} (h : xs.Sublist (places s)) {p : P3} (hp : p ∈ xs) : inB s p = true := inB_iff.mpr (mem_places.mp (h.subset hp))
theorem sub_len {xs : List P3} (hs : Sz 6 s) (h : xs.Sublist (places s)) : xs.length ≤ 216 := Nat.le_trans h.length_le (places216 hs)
theorem NowOk.l1 (h : NowOk s n) (hs : Sz 6 s) : n.paper.length ≤ 216 := by have := h.pp; have := places216 hs; omega
end
end Q
set_option Elab.async false
set_option linter.all false
set_option maxRecDepth 100000
/-! VM29: the combinators of pinned lists, for simp. -/
namespace Q
open PySem L2 VL PySem.Spec PyProof.Rows
variable {ρ : Rho} {i j : Nat} {a b : Rho → M D} {as : Rho → M (List D)} {ks : List Bool} {G : List D → ML}
@[simp] theorem pinA_pls (p : Addr) (ds : List D) : pinA (.pls p ds) = some p := rfl
@[simp] theorem pinA_obj (p : Addr) (c : Str) (ns : List Str) (ds : List D) : pinA (.obj p c ns ds) = some p := rfl
@[simp] theorem putP_some (sl : List (Option Nat)) (o : D) (os : List D) : putP (some i :: sl) (o :: os) ρ = putP sl os (ρ.set i (.ow o)) := rfl
@[simp] theorem putP_none (sl : List (Option Nat)) (o : D) (os : List D) : putP (none :: sl) (o :: os) ρ = putP sl os ρ := rfl
@[simp] theorem putP_nil (os : List D) : putP [] os ρ = ρ := by cases os <;> rfl
end Q
set_option Elab.async false
set_option linter.all false
set_option maxRecDepth 100000
/-! VM30: blocks, for simp. -/
namespace Q
open PySem L2 VL PySem.Spec PyProof.Rows
variable {ρ ρi : Rho} {ks ls : List Nat} {f g : Rho → Res} {Φ : Rho → Rho → Res}
@[simp] theorem shAll_nil : shAll [] = [] := rfl
@[simp] theorem shAll_sh (d : D) : shAll (.sh d :: ρ) = .sh d :: shAll ρ := rfl
@[simp] theorem shAll_fr (d : D) : shAll (.fr d :: ρ) = .sh d :: shAll ρ := rfl
@[simp] theorem shAll_ow (d : D) : shAll (.ow d :: ρ) = .sh d :: shAll ρ := rfl
@[simp] theorem shAll_no : shAll (.no :: ρ) = .no :: shAll ρ := rfl
end Q
set_option Elab.async false
set_option linter.all false
set_option maxRecDepth 100000
/-! VM31: the combinators of VO33 to VO36, for simp. -/
namespace Q
open PySem L2 VL PySem.Spec PyProof.Rows
variable {ρ : Rho} {i j : Nat} {c f m : Str} {a b : Rho → M D} {as : Rho → M (List D)} {q : List D → M D} {h h2 : Rho → MR} {t : Rho → MT} {G : List D → MT2}
end Q
set_option Elab.async false
set_option linter.all false
set_option maxRecDepth 100000
/-! VM32: the combinators of VO37 and VO38, for simp. -/
namespace Q
open PySem L2 VL PySem.Spec PyProof.Rows
variable {ρ ρi : Rho} {fe : Rho → M D} {ft : Rho → M Bool} {g : Rho → Res} {ks : List Nat} {i j : Nat} {c f m : Str} {b : Bool} {fb : Rho → Res} {hs : List (Str × (Addr → Rho → Res))}
end Q
set_option Elab.async false
set_option linter.all false
set_option maxRecDepth 100000
/-! VM33: the combinators of VO40 to VO44, for simp. -/
namespace Q
open PySem L2 VL PySem.Spec PyProof.Rows
variable {ρ : Rho} {i j : Nat} {c c0 f m : Str} {kvs : List (Str × Int)} {a b : Rho → M D} {fa : Rho → M (List D)} {g : Rho → MB} {q : List D → MB} {G : List D → MO} {cs : List Str} {bs : List String}
end Q
set_option Elab.async false
set_option linter.all false
set_option maxRecDepth 100000
set_option maxHeartbeats 4000000
namespace Q
open PySem L2 VL PySem.Spec PyProof.Rows
/-! ### the text -/
def top (i : Nat) : Stmt := PySem.Challenge.pw_sightstone_k65_a_long_shelf.main.body.getD i (.Pass ⟨0, 0, 0, 0⟩)
abbrev s_wall : Stmt := top 0
abbrev s_checked_block : Stmt := top 10
abbrev s_inside : Stmt := top 11
abbrev s_checked_stone : Stmt := top 13
abbrev s_all_moves : Stmt := top 17
abbrev s_moved_block : Stmt := top 18
abbrev s_moved_place : Stmt := top 19
abbrev s_moved_stone : Stmt := top 20
abbrev s_least_form : Stmt := top 22
abbrev s_checked_name : Stmt := top 25
abbrev s_L_alike : Stmt := top 29
abbrev s_L_digits : Stmt := top 30
abbrev s_L_one : Stmt := top 31
abbrev s_L_all : Stmt := top 32
abbrev s_L_letter : Stmt := top 33
abbrev s_L_moved : Stmt := top 34
abbrev s_L_moved_sizes : Stmt := top 35
abbrev s_L_moved_stone : Stmt := top 36
abbrev s_L_moves : Stmt := top 37
abbrev s_L_name : Stmt := top 38
abbrev s_L_least : Stmt := top 39
abbrev s_L_pebble : Stmt := top 40
abbrev s_L_kinds : Stmt := top 41
abbrev s_Shelf___init__ : Stmt := inClass (top 27) 0
abbrev s_Shelf_kinds : Stmt := inClass (top 27) 6
abbrev s_Shelf_names : Stmt := inClass (top 27) 4
abbrev s_Shelf_put : Stmt := inClass (top 27) 2
abbrev s_Shelf_row_of : Stmt := inClass (top 27) 1
abbrev s_Shelf_take : Stmt := inClass (top 27) 3
abbrev s_law : Stmt := top 42
/-! ### what each def gives -/
def b_wall_1 : Rho → Res := sNil
def c_wall_2 : Rho → M Bool := (eTr (eC (.bl true)))
def d_wall : Rho → Res := (sWhile 1000 c_wall_2 b_wall_1)
def q_wall : List D → M D := runF 1 1 d_wall
def b_checked_block_1 : Rho → Res := (sWipe [2] (sIf (eOr (eB (eOp ltG (eV 2) (eC (.int 1)))) (eB (eOp gtG (eV 2) (eC (.int 6))))) (sRaise "BadBlock") sNil))
def d_checked_block : Rho → Res := (sSeq (sFr 1 (eBlt tupleG (aCons (eV 0) aNil))) (sSeq (sIf (eB (eOp neG (eBlt lenG (aCons (eV 1) aNil)) (eC (.int 3)))) (sRaise "BadBlock") sNil) (sSeq (sFor (eLL (eVE 1)) (tgN 2) b_checked_block_1) (sRet (eVF 1)))))
def q_checked_block : List D → M D := runF 1 3 d_checked_block
def b_inside_1 : Rho → Res := (sWipe [2] (sIf (eOr (eB (eOp ltG (eOp idxG (eV 1) (eV 2)) (eC (.int 0)))) (eB (eOp geG (eOp idxG (eV 1) (eV 2)) (eOp idxG (eV 0) (eV 2))))) (sRet (eC (.bl false))) sNil))
def d_inside : Rho → Res := (sSeq (sFor (eR1 (aCons (eC (.int 3)) aNil)) (tgN 2) b_inside_1) (sRet (eC (.bl true))))
def q_inside : List D → M D := runF 2 3 d_inside
def b_checked_stone_1 : Rho → Res := (sWipe [3, 4] (sSeq (sFr 4 (eBlt tupleG (aCons (eV 3) aNil))) (sSeq (sIf (eOr (eB (eOp neG (eBlt lenG (aCons (eV 4) aNil)) (eC (.int 3)))) (eOr (eNot (eTr (eCall q_inside (aCons (eV 0) (aCons (eV 4) aNil))))) (eB (eOp inG (eV 4) (eV 2))))) (sRaise "BadStone") sNil) (sPut 2 (eV 4) (eC (.bl true))))))
def d_checked_stone : Rho → Res := (sSeq (sOw 2 (eC (.dct []))) (sSeq (sFor (eLL (eVE 1)) (tgN 3) b_checked_stone_1) (sRet (eBlt sortedG (aCons (eV 2) aNil)))))
def q_checked_stone : List D → M D := runF 2 5 d_checked_stone
def b_all_moves_1 : Rho → Res := (sWipe [2] (sBm 0 appE (aCons (eTup (aCons (eLf (eV 1)) (aCons (eTup (aCons (eOp fdivG (eV 2) (eC (.int 4))) (aCons (eOp modG (eOp fdivG (eV 2) (eC (.int 2))) (eC (.int 2))) (aCons (eOp modG (eV 2) (eC (.int 2))) aNil)))) aNil))) aNil)))
def b_all_moves_2 : Rho → Res := (sWipe [1, 2] (sFor (eR1 (aCons (eC (.int 8)) aNil)) (tgN 2) b_all_moves_1))
def d_all_moves : Rho → Res := (sSeq (sOw 0 (eLst aNil)) (sSeq (sFor (eTT (eC (.kt [(.kt [(.int 0), (.int 1), (.int 2)]), (.kt [(.int 0), (.int 2), (.int 1)]), (.kt [(.int 1), (.int 0), (.int 2)]), (.kt [(.int 1), (.int 2), (.int 0)]), (.kt [(.int 2), (.int 0), (.int 1)]), (.kt [(.int 2), (.int 1), (.int 0)])]))) (tgN 1) b_all_moves_2) (sShare 0 (sRet (eVF 0)))))
def q_all_moves : List D → M D := runF 0 3 d_all_moves
def d_moved_block : Rho → Res := (sSeq (sSh 2 (eOp idxG (eV 1) (eC (.int 0)))) (sRet (eTup (aCons (eLf (eOp idxG (eV 0) (eOp idxG (eV 2) (eC (.int 0))))) (aCons (eLf (eOp idxG (eV 0) (eOp idxG (eV 2) (eC (.int 1))))) (aCons (eLf (eOp idxG (eV 0) (eOp idxG (eV 2) (eC (.int 2))))) aNil))))))
def q_moved_block : List D → M D := runF 2 3 d_moved_block
def b_moved_place_1 : Rho → Res := (sWipe [6, 7] (sSeq (sSh 7 (eOp idxG (eV 2) (eOp idxG (eV 3) (eV 6)))) (sSeq (sIf (eB (eOp eqG (eOp idxG (eV 4) (eV 6)) (eC (.int 1)))) (sSh 7 (eOp subG (eOp subG (eOp idxG (eV 0) (eOp idxG (eV 3) (eV 6))) (eC (.int 1))) (eV 7))) sNil) (sBm 5 appE (aCons (eLf (eV 7)) aNil)))))
def d_moved_place : Rho → Res := (sSeq (sUnp (eVE 1) (tgT 2 (tgCons (tgN 3) (tgCons (tgN 4) tgNil)))) (sSeq (sOw 5 (eLst aNil)) (sSeq (sFor (eR1 (aCons (eC (.int 3)) aNil)) (tgN 6) b_moved_place_1) (sRet (eBlt tupleG (aCons (eV 5) aNil))))))
def q_moved_place : List D → M D := runF 3 8 d_moved_place
def e_moved_stone_1 : Rho → M D := (eCall q_moved_place (aCons (eV 0) (aCons (eV 1) (aCons (eV 3) aNil))))
def d_moved_stone : Rho → Res := (sRet (eBlt sortedG (aCons (eComp [3] (eLL (eVE 2)) (tgN 3) cYes e_moved_stone_1) aNil)))
def q_moved_stone : List D → M D := runF 3 4 d_moved_stone
def b_least_form_1 : Rho → Res := (sWipe [3, 4] (sSeq (sFr 4 (eTup (aCons (eCall q_moved_block (aCons (eV 0) (aCons (eV 3) aNil))) (aCons (eCall q_moved_stone (aCons (eV 0) (aCons (eV 3) (aCons (eV 1) aNil)))) aNil)))) (sIf (eOr (eB (eOp isNG (eV 2) (eC .non))) (eB (eOp ltDG (eV 4) (eV 2)))) (sFr 2 (eVF 4)) sNil)))
def d_least_form : Rho → Res := (sSeq (sFr 2 (eC .non)) (sSeq (sFor (eLL (fun _ => q_all_moves [])) (tgN 3) b_least_form_1) (sRet (eVF 2))))
def q_least_form : List D → M D := runF 2 5 d_least_form
def b_checked_name_1 : Rho → Res := (sWipe [1] (sIf (eB (eOp ninG (eV 1) (eC (.str ("abcdefghijklmnopqrstuvwxyz" : Str))))) (sRaise "BadName") sNil))
def d_checked_name : Rho → Res := (sSeq (sIf (eOr (eB (eOp ltG (eBlt lenG (aCons (eV 0) aNil)) (eC (.int 1)))) (eB (eOp gtG (eBlt lenG (aCons (eV 0) aNil)) (eC (.int 12))))) (sRaise "BadName") sNil) (sSeq (sFor (eSS (eV 0)) (tgN 1) b_checked_name_1) (sRet (eLf (eV 0)))))
def q_checked_name : List D → M D := runF 1 2 d_checked_name
def e_L_alike_1 (rec : List D → M D) : Rho → M D := (eCall rec (aCons (eV 2) (aCons (eV 3) aNil)))
def d_L_alike (rec : List D → M D) : Rho → Res := (sSeq (sIf (eOr (eB (eOp neG (eIsi .bool (eV 0)) (eIsi .bool (eV 1)))) (eB (eOp neG (eIsi .tuple (eV 0)) (eIsi .tuple (eV 1))))) (sRet (eC (.bl false))) sNil) (sSeq (sIf (eNot (eTr (eIsi2 .list .tuple (eV 1)))) (sRet (eOp eqG (eV 0) (eV 1))) sNil) (sSeq (sIf (eOr (eNot (eTr (eIsi2 .list .tuple (eV 0)))) (eB (eOp neG (eBlt lenG (aCons (eV 0) aNil)) (eBlt lenG (aCons (eV 1) aNil))))) (sRet (eC (.bl false))) sNil) (sRet (eBlt allG (aCons (eComp [2, 3] (eZip (aCons (eVE 0) (aCons (eVE 1) aNil))) (tgT 2 (tgCons (tgN 2) (tgCons (tgN 3) tgNil))) cYes (e_L_alike_1 rec)) aNil))))))
def q_L_alike : Nat → List D → M D
  | 0 => fun _ => .er
  | n + 1 => runF 2 4 (d_L_alike (q_L_alike n))
def b_L_digits_1 : Rho → Res := (sWipe [7] (sSeq (sBm 6 appE (aCons (eOp modG (eV 5) (eV 2)) aNil)) (sFr 5 (eOp fdivNG (eV 5) (eV 2)))))
def b_L_digits_2 : Rho → Res := (sWipe [7] (sSeq (sFr 5 (eOp modG (eOp addG (eOp mulG (eV 5) (eC (.int 48271))) (eC (.int 1))) (eC (.int 2147483647)))) (sBm 6 appE (aCons (eOp modG (eOp fdivG (eV 5) (eC (.int 1009))) (eV 2)) aNil))))
def d_L_digits : Rho → Res := (sSeq (sSh 4 (eC (.int 0))) (sSeq (sIf (eB (eOp ltG (eV 1) (eBlt lenG (aCons (eV 0) aNil)))) (sSh 4 (eOp idxG (eV 0) (eV 1))) sNil) (sSeq (sFr 5 (eBlt absG (aCons (eV 4) aNil))) (sSeq (sOw 6 (eLst aNil)) (sSeq (sIf (eB (eOp geG (eV 5) (eOp powG (eC (.int 10)) (eC (.int 18))))) (sSeq (sFor (eR1 (aCons (eV 3) aNil)) (tgN 7) b_L_digits_1) (sShare 6 (sRet (eVF 6)))) sNil) (sSeq (sFr 5 (eOp modG (eOp addG (eOp addG (eOp mulG (eV 4) (eC (.int 7919))) (eOp mulG (eV 1) (eC (.int 104729)))) (eC (.int 17))) (eC (.int 2147483647)))) (sSeq (sFr 5 (eOp addG (eV 5) (eOp modG (eOp mulG (eV 5) (eV 5)) (eC (.int 1000000007))))) (sSeq (sFor (eR1 (aCons (eV 3) aNil)) (tgN 7) b_L_digits_2) (sShare 6 (sRet (eVF 6)))))))))))
def q_L_digits : List D → M D := runF 4 8 d_L_digits
def d_L_one : Rho → Res := (sRet (eLf (eOp idxG (eCall q_L_digits (aCons (eV 0) (aCons (eV 1) (aCons (eV 2) (aCons (eC (.int 1)) aNil))))) (eC (.int 0)))))
def q_L_one : List D → M D := runF 3 3 d_L_one
def b_L_all_1 : Rho → Res := (sWipe [4] (sBm 1 appE (aCons (eTup (aCons (eLf (eV 2)) (aCons (eLf (eV 3)) (aCons (eLf (eV 4)) aNil)))) aNil)))
def b_L_all_2 : Rho → Res := (sWipe [3, 4] (sFor (eR1 (aCons (eOp idxG (eV 0) (eC (.int 2))) aNil)) (tgN 4) b_L_all_1))
def b_L_all_3 : Rho → Res := (sWipe [2, 3, 4] (sFor (eR1 (aCons (eOp idxG (eV 0) (eC (.int 1))) aNil)) (tgN 3) b_L_all_2))
def d_L_all : Rho → Res := (sSeq (sOw 1 (eLst aNil)) (sSeq (sFor (eR1 (aCons (eOp idxG (eV 0) (eC (.int 0))) aNil)) (tgN 2) b_L_all_3) (sShare 1 (sRet (eVF 1)))))
def q_L_all : List D → M D := runF 1 5 d_L_all
def d_L_letter : Rho → Res := (sRet (eLf (eOp idxG (eC (.str ("abcdefghijklmnopqrstuvwxyz" : Str))) (eOp modG (eV 0) (eC (.int 26))))))
def q_L_letter : List D → M D := runF 1 1 d_L_letter
def b_L_moved_1 : Rho → Res := (sWipe [4, 5] (sSeq (sSh 5 (eOp idxG (eV 2) (eOp idxG (eOp idxG (eV 1) (eC (.int 0))) (eV 4)))) (sSeq (sIf (eB (eOp eqG (eOp idxG (eOp idxG (eV 1) (eC (.int 1))) (eV 4)) (eC (.int 1)))) (sSh 5 (eOp subG (eOp subG (eOp idxG (eV 0) (eOp idxG (eOp idxG (eV 1) (eC (.int 0))) (eV 4))) (eC (.int 1))) (eV 5))) sNil) (sBm 3 appE (aCons (eLf (eV 5)) aNil)))))
def d_L_moved : Rho → Res := (sSeq (sOw 3 (eLst aNil)) (sSeq (sFor (eR1 (aCons (eC (.int 3)) aNil)) (tgN 4) b_L_moved_1) (sRet (eTup (aCons (eLf (eOp idxG (eV 3) (eC (.int 0)))) (aCons (eLf (eOp idxG (eV 3) (eC (.int 1)))) (aCons (eLf (eOp idxG (eV 3) (eC (.int 2)))) aNil)))))))
def q_L_moved : List D → M D := runF 3 6 d_L_moved
def d_L_moved_sizes : Rho → Res := (sRet (eTup (aCons (eLf (eOp idxG (eV 0) (eOp idxG (eOp idxG (eV 1) (eC (.int 0))) (eC (.int 0))))) (aCons (eLf (eOp idxG (eV 0) (eOp idxG (eOp idxG (eV 1) (eC (.int 0))) (eC (.int 1))))) (aCons (eLf (eOp idxG (eV 0) (eOp idxG (eOp idxG (eV 1) (eC (.int 0))) (eC (.int 2))))) aNil)))))
def q_L_moved_sizes : List D → M D := runF 2 2 d_L_moved_sizes
def e_L_moved_stone_1 : Rho → M D := (eCall q_L_moved (aCons (eV 0) (aCons (eV 1) (aCons (eV 3) aNil))))
def d_L_moved_stone : Rho → Res := (sRet (eBlt sortedG (aCons (eComp [3] (eLL (eVE 2)) (tgN 3) cYes e_L_moved_stone_1) aNil)))
def q_L_moved_stone : List D → M D := runF 3 4 d_L_moved_stone
def b_L_moves_1 : Rho → Res := (sWipe [3, 4] (sIf (eB (eOp neG (eV 1) (eV 2))) (sSeq (sSh 4 (eTup (aCons (eVE 1) (aCons (eVE 2) (aCons (eOp subG (eOp subG (eC (.int 3)) (eV 1)) (eV 2)) aNil))))) (sBm 0 appE (aCons (eTup (aCons (eLf (eV 4)) (aCons (eTup (aCons (eOp modG (eOp fdivG (eV 3) (eC (.int 4))) (eC (.int 2))) (aCons (eOp modG (eOp fdivG (eV 3) (eC (.int 2))) (eC (.int 2))) (aCons (eOp modG (eV 3) (eC (.int 2))) aNil)))) aNil))) aNil))) sNil))
def b_L_moves_2 : Rho → Res := (sWipe [2, 3, 4] (sFor (eR1 (aCons (eC (.int 8)) aNil)) (tgN 3) b_L_moves_1))
def b_L_moves_3 : Rho → Res := (sWipe [1, 2, 3, 4] (sFor (eR1 (aCons (eC (.int 3)) aNil)) (tgN 2) b_L_moves_2))
def d_L_moves : Rho → Res := (sSeq (sOw 0 (eLst aNil)) (sSeq (sFor (eR1 (aCons (eC (.int 3)) aNil)) (tgN 1) b_L_moves_3) (sShare 0 (sRet (eVF 0)))))
def q_L_moves : List D → M D := runF 0 5 d_L_moves
def d_L_name : Rho → Res := (sSeq (sSh 1 (eOp idxG (eTup (aCons (eC (.int 1)) (aCons (eC (.int 4)) (aCons (eC (.int 7)) (aCons (eC (.int 12)) (aCons (eC (.int 2)) aNil)))))) (eOp modG (eV 0) (eC (.int 5))))) (sSeq (sSh 2 (eOp idxG (eTup (aCons (eC (.int 0)) (aCons (eC (.int 2)) (aCons (eC (.int 6)) (aCons (eC (.int 3)) (aCons (eC (.int 1)) aNil)))))) (eOp modG (eV 0) (eC (.int 5))))) (sRet (eOp addG (eOp addG (eOp mulSG (eC (.str ("e" : Str))) (eV 2)) (eCall q_L_letter (aCons (eOp addG (eOp fdivG (eV 0) (eC (.int 5))) (eC (.int 8))) aNil))) (eOp mulSG (eC (.str ("e" : Str))) (eOp subG (eOp subG (eV 1) (eC (.int 1))) (eV 2)))))))
def q_L_name : List D → M D := runF 1 3 d_L_name
def b_L_least_1 : Rho → Res := (sWipe [3, 4] (sSeq (sFr 4 (eTup (aCons (eCall q_L_moved_sizes (aCons (eV 0) (aCons (eV 3) aNil))) (aCons (eCall q_L_moved_stone (aCons (eV 0) (aCons (eV 3) (aCons (eV 1) aNil)))) aNil)))) (sIf (eOr (eB (eOp isNG (eV 2) (eC .non))) (eOr (eB (eOp ltG (eOp idxG (eV 4) (eC (.int 0))) (eOp idxG (eV 2) (eC (.int 0))))) (eAnd (eB (eOp eqG (eOp idxG (eV 4) (eC (.int 0))) (eOp idxG (eV 2) (eC (.int 0))))) (eB (eOp ltDG (eOp idxG (eV 4) (eC (.int 1))) (eOp idxG (eV 2) (eC (.int 1)))))))) (sFr 2 (eVF 4)) sNil)))
def d_L_least : Rho → Res := (sSeq (sFr 2 (eC .non)) (sSeq (sFor (eLL (fun _ => q_L_moves [])) (tgN 3) b_L_least_1) (sRet (eVF 2))))
def q_L_least : List D → M D := runF 2 5 d_L_least
def b_L_pebble_1 : Rho → Res := (sWipe [6] (sPut 5 (eOp idxG (eV 4) (eOp modG (eOp fdivNG (eOp idxG (eV 2) (eOp addG (eC (.int 4)) (eOp modG (eV 6) (eC (.int 3))))) (eOp addG (eC (.int 1)) (eV 6))) (eBlt lenG (aCons (eV 4) aNil)))) (eC (.bl true))))
def d_L_pebble : Rho → Res := (sSeq (sFr 2 (eCall q_L_digits (aCons (eV 0) (aCons (eV 1) (aCons (eC (.int 210)) (aCons (eC (.int 7)) aNil)))))) (sSeq (sFr 3 (eTup (aCons (eOp addG (eC (.int 1)) (eOp modG (eOp idxG (eV 2) (eC (.int 0))) (eC (.int 2)))) (aCons (eOp addG (eC (.int 1)) (eOp modG (eOp idxG (eV 2) (eC (.int 1))) (eC (.int 2)))) (aCons (eOp addG (eC (.int 1)) (eOp modG (eOp idxG (eV 2) (eC (.int 2))) (eC (.int 2)))) aNil))))) (sSeq (sFr 4 (eCall q_L_all (aCons (eV 3) aNil))) (sSeq (sOw 5 (eC (.dct []))) (sSeq (sFor (eR1 (aCons (eOp modG (eOp idxG (eV 2) (eC (.int 3))) (eC (.int 4))) aNil)) (tgN 6) b_L_pebble_1) (sRet (eTup (aCons (eVF 3) (aCons (eBlt sortedG (aCons (eV 5) aNil)) aNil)))))))))
def q_L_pebble : List D → M D := runF 2 7 d_L_pebble
def b_L_kinds_1 : QF := (seqQ (sIfQ 2 (eB (eOp ninG (eV 4) (eV 2))) (seqQ (sAppQ (aCons (eVE 4) aNil)) (sNewQ aNil)) nilQ) (sPutQ 2 (eIndex (eV 2) (eV 4)) (aCons (eLf (eV 3)) aNil)))
def d_L_kinds : Rho → Res := (sQ 1 2 (kQ (sForQ 1 2 [3, 4] (eLL (eVE 0)) (tgT 2 (tgCons (tgN 3) (tgCons (tgN 4) tgNil))) b_L_kinds_1) (kEnd 1 (sRet (eVF 1)))))
def q_L_kinds : List D → M D := runF 1 5 d_L_kinds
def d_Shelf___init__ : Rho → Res := (sSetL 0 "Shelf" "rows" (eLst aNil))
def q_Shelf___init__ : List D → MO := runO 1 1 d_Shelf___init__
def b_Shelf_kinds_1 : QF := (sIfQ 2 (eB (eOp inG (eOp idxG (eV 3) (eC (.int 3))) (eV 2))) (sPutQ 2 (eIndex (eV 2) (eOp idxG (eV 3) (eC (.int 3)))) (aCons (eLf (eOp idxG (eV 3) (eC (.int 0)))) aNil)) (seqQ (sAppQ (aCons (eOp idxG (eV 3) (eC (.int 3))) aNil)) (sNewQ (aCons (eLf (eOp idxG (eV 3) (eC (.int 0)))) aNil))))
def d_Shelf_kinds : Rho → Res := (sQ 1 2 (kQ (sForQ 1 2 [3] (eLL (eFldE 0 "Shelf" "rows")) (tgN 3) b_Shelf_kinds_1) (kEnd 1 (sRet (eVF 1)))))
def q_Shelf_kinds : List D → M D := runF 1 4 d_Shelf_kinds
def e_Shelf_names_1 : Rho → M D := (eLf (eOp idxG (eV 1) (eC (.int 0))))
def d_Shelf_names : Rho → Res := (sRet (eComp [1] (eLL (eFldE 0 "Shelf" "rows")) (tgN 1) cYes e_Shelf_names_1))
def q_Shelf_names : List D → M D := runF 1 2 d_Shelf_names
def e_Shelf_put_1 : Rho → M D := (eLf (eOp idxG (eV 8) (eC (.int 0))))
def c_Shelf_put_2 : Rho → M Bool := (eB (eOp eqG (eOp idxG (eV 8) (eC (.int 3))) (eV 6)))
def d_Shelf_put : Rho → Res := (sSeq (sDrop (eCall q_checked_name (aCons (eV 1) aNil))) (sSeq (sIf (eB (eOp inG (eV 1) (eMeth "Shelf" "names" q_Shelf_names (eV 0) aNil))) (sRaise "Taken") sNil) (sSeq (sFr 4 (eCall q_checked_block (aCons (eV 2) aNil))) (sSeq (sFr 5 (eCall q_checked_stone (aCons (eV 4) (aCons (eV 3) aNil)))) (sSeq (sFr 6 (eCall q_least_form (aCons (eV 4) (aCons (eV 5) aNil)))) (sSeq (sFrA 7 (eComp [8] (eLL (eFldE 0 "Shelf" "rows")) (tgN 8) c_Shelf_put_2 e_Shelf_put_1)) (sSeq (sFbm 0 "Shelf" "rows" appE (aCons (eTup (aCons (eLf (eV 1)) (aCons (eVF 4) (aCons (eVF 5) (aCons (eVF 6) aNil))))) aNil)) (sRetS (eVF 7)))))))))
def q_Shelf_put : List D → MO := runO 4 9 d_Shelf_put
def b_Shelf_row_of_1 : Rho → Res := (sWipe [2] (sIf (eB (eOp eqG (eOp idxG (eV 2) (eC (.int 0))) (eV 1))) (sRet (eVE 2)) sNil))
def d_Shelf_row_of : Rho → Res := (sSeq (sFor (eLL (eFldE 0 "Shelf" "rows")) (tgN 2) b_Shelf_row_of_1) (sRaise "Unknown"))
def q_Shelf_row_of : List D → M D := runF 2 3 d_Shelf_row_of
def d_Shelf_take : Rho → Res := (sRemF 0 "Shelf" "rows" (eMeth "Shelf" "row_of" q_Shelf_row_of (eVE 0) (aCons (eVE 1) aNil)))
def q_Shelf_take : List D → MO := runO 2 2 d_Shelf_take
def e_law_1 : Rho → M D := (eLf (eOp idxG (eV 9) (eC (.int 0))))
def c_law_2 : Rho → M Bool := (eB (eOp eqG (eOp idxG (eV 9) (eC (.int 1))) (eV 6)))
def b_law_3 : Rho → Res := (sWipe [3, 4, 5, 6, 7, 8, 10] (sSeq (sUnp (eCall q_L_pebble (aCons (eV 0) (aCons (eOp addG (eC (.int 2)) (eV 3)) aNil))) (tgT 2 (tgCons (tgN 4) (tgCons (tgN 5) tgNil)))) (sSeq (sFr 6 (eCall q_L_least (aCons (eV 4) (aCons (eV 5) aNil)))) (sSeq (sFr 7 (eCall q_L_name (aCons (eV 3) aNil))) (sSeq (sFrA 8 (eComp [9] (eLL (eVE 2)) (tgN 9) c_law_2 e_law_1)) (sSeq (sIfM (tNot (tTru (eCallM (q_L_alike 6) (eMethO 1 "Shelf" "put" q_Shelf_put (aCons (eVE 7) (aCons (eVE 4) (aCons (eBlt listG (aCons (eV 5) aNil)) aNil)))) (aCons (eV 8) aNil)))) (sRet (eC (.bl false))) sNil) (sSeq (sBm 2 appE (aCons (eTup (aCons (eVF 7) (aCons (eVF 6) aNil))) aNil)) (sIf (eB (eOp eqG (eOp modG (eV 3) (eC (.int 3))) (eC (.int 2)))) (sSeq (sPopX 10 2 (eOp modG (eCall q_L_one (aCons (eV 0) (aCons (eOp addG (eC (.int 30)) (eV 3)) (aCons (eC (.int 60)) aNil)))) (eBlt lenG (aCons (eV 2) aNil)))) (sExO (eMethO 1 "Shelf" "take" q_Shelf_take (aCons (eOp idxG (eV 10) (eC (.int 0))) aNil)))) sNil))))))))
def e_law_4 : Rho → M D := (eLf (eOp idxG (eV 9) (eC (.int 0))))
noncomputable def d_law : Rho → Res := (sMk 1 "Shelf" q_Shelf___init__ aNil (sSeq (sOw 2 (eLst aNil)) (sSeq (sFor (eR1 (aCons (eOp addG (eC (.int 8)) (eCall q_L_one (aCons (eV 0) (aCons (eC (.int 0)) (aCons (eC (.int 17)) aNil))))) aNil)) (tgN 3) b_law_3) (sSeq (sShare 2 (sIf (eNot (eTr (eCall (q_L_alike 6) (aCons (eMeth "Shelf" "names" q_Shelf_names (eV 1) aNil) (aCons (eComp [9] (eLL (eVE 2)) (tgN 9) cYes e_law_4) aNil))))) (sRet (eC (.bl false))) sNil)) (sRet (eCall (q_L_alike 6) (aCons (eMeth "Shelf" "kinds" q_Shelf_kinds (eV 1) aNil) (aCons (eCall q_L_kinds (aCons (eV 2) aNil)) aNil))))))))
noncomputable def q_law : List D → M D := runF 1 11 d_law
end Q
set_option Elab.async false
set_option linter.all false
set_option maxRecDepth 100000
set_option maxHeartbeats 4000000
namespace Q
open PySem L2 VL PySem.Spec PyProof.Rows
/-! ### the walk -/
structure Txt (K : PySem.W.Frag) (mg : Str → Option Value) (w : World) : Prop where
  dummy : True
  m_abs : mg "abs" = none
  m_all : mg "all" = none
  m_bool : mg "bool" = none
  m_isinstance : mg "isinstance" = none
  m_len : mg "len" = none
  m_list : mg "list" = none
  m_range : mg "range" = none
  m_sorted : mg "sorted" = none
  m_tuple : mg "tuple" = none
  m_zip : mg "zip" = none
  c_COLOURS : GS mg "COLOURS" ("abcdefghijklmnopqrstuvwxyz" : Str)
  c_GREATEST_SIZE : GI mg "GREATEST_SIZE" 6
  c_LONGEST_NAME : GI mg "LONGEST_NAME" 12
  c_ORDERS : GK K mg "ORDERS" (.kt [(.kt [(.int 0), (.int 1), (.int 2)]), (.kt [(.int 0), (.int 2), (.int 1)]), (.kt [(.int 1), (.int 0), (.int 2)]), (.kt [(.int 1), (.int 2), (.int 0)]), (.kt [(.int 2), (.int 0), (.int 1)]), (.kt [(.int 2), (.int 1), (.int 0)])])
  x_BadBlock : OwnX K mg "BadBlock"
  x_BadName : OwnX K mg "BadName"
  x_BadStone : OwnX K mg "BadStone"
  x_Taken : OwnX K mg "Taken"
  x_Unknown : OwnX K mg "Unknown"
  cls_Shelf : ClsK K "Shelf"
  nf_Shelf_rows : NoF K "Shelf" "rows"
theorem sc_wall : FnScope ["k"] ["k"] (defScope s_wall) := ⟨rfl, rfl, rfl, by decide +kernel, rfl, by decide +kernel, by decide +kernel⟩
theorem ok_wall {P : Program} {w : World} {K : PySem.W.Frag} {mg : Str → Option Value} {base : Heap} {f : Addr} {fd : FuncData} (T : Txt K mg w) (F : Fun K "_wall" "_wall" s_wall f fd) (hm : mg "_wall" = some (.ref f)) (hb : Binds K fd ["k"] [])  : Cal P w K mg base 1 "_wall" q_wall := by
  refine Cal.mk' (fn_ok (N := ["k"]) (F := d_wall) F sc_wall fun cdv A outer s H E S0 hr => ?_) F hm hb
  exact (vss_one (vs_while 1000 (passes_of rfl) (vt_tru (vx_bl (m := .N))) (vss_one vs_pass)))
theorem sc_checked_block : FnScope ["sizes", "row", "size"] ["sizes"] (defScope s_checked_block) := ⟨rfl, rfl, rfl, by decide +kernel, rfl, by decide +kernel, by decide +kernel⟩
theorem ok_checked_block {P : Program} {w : World} {K : PySem.W.Frag} {mg : Str → Option Value} {base : Heap} {f : Addr} {fd : FuncData} (T : Txt K mg w) (F : Fun K "checked_block" "checked_block" s_checked_block f fd) (hm : mg "checked_block" = some (.ref f)) (hb : Binds K fd ["sizes"] [])  : Cal P w K mg base 1 "checked_block" q_checked_block := by
  refine Cal.mk' (fn_ok (N := ["sizes", "row", "size"]) (F := d_checked_block) F sc_checked_block fun cdv A outer s H E S0 hr => ?_) F hm hb
  exact (vss_cons (vs_fr (i := 1) sc_checked_block.nd (VX.any (vx_callTy call_tuple_of cg_tuple T.m_tuple (by decide +kernel) (va_cons (vx_var 0) va_nil)))) (vss_cons (vs_if (vt_cmp (op_neA hr.units) og_ne (vx_callB (m := .N) call_len cg_len T.m_len (by decide +kernel) (va_cons (vx_var 1) va_nil)) (vx_int (m := .N))) (vss_one (vs_raise T.x_BadBlock (L2N.takes_of rfl rfl rfl rfl))) vss_nil) (vss_cons (vs_for (passes_of rfl) rfl (vi_list (vx_varE 1)) (vg_name sc_checked_block.nd) (vss_wipe (ks := [2]) (vss_one (vs_if (VW.t (vw_or (vt_cmp (op_ltA (hu_of hr)) og_lt (vx_var 2) (vx_int (m := .N))) (vw_or1 (vt_cmp op_gt og_gt (vx_var 2) (vx_gi (m := .N) T.c_GREATEST_SIZE))))) (vss_one (vs_raise T.x_BadBlock (L2N.takes_of rfl rfl rfl rfl))) vss_nil)))) (vss_one (vs_retF (vx_varF 1))))))
theorem sc_inside : FnScope ["sizes", "place", "at"] ["sizes", "place"] (defScope s_inside) := ⟨rfl, rfl, rfl, by decide +kernel, rfl, by decide +kernel, by decide +kernel⟩
theorem ok_inside {P : Program} {w : World} {K : PySem.W.Frag} {mg : Str → Option Value} {base : Heap} {f : Addr} {fd : FuncData} (T : Txt K mg w) (F : Fun K "inside" "inside" s_inside f fd) (hm : mg "inside" = some (.ref f)) (hb : Binds K fd ["sizes", "place"] [])  : Cal P w K mg base 1 "inside" q_inside := by
  refine Cal.mk' (fn_ok (N := ["sizes", "place", "at"]) (F := d_inside) F sc_inside fun cdv A outer s H E S0 hr => ?_) F hm hb
  exact (vss_cons (vs_for (passes_of rfl) rfl (vi_range1 T.m_range (va_cons vx_int va_nil)) (vg_name sc_inside.nd) (vss_wipe (ks := [2]) (vss_one (vs_if (VW.t (vw_or (vt_cmp (op_ltA (hu_of hr)) og_lt (vx_ix (hu_of hr) (vx_var 1) (vx_var 2)) (vx_int (m := .N))) (vw_or1 (vt_cmp op_ge og_ge (vx_ix (hu_of hr) (vx_var 1) (vx_var 2)) (vx_ix (hu_of hr) (vx_var 0) (vx_var 2)))))) (vss_one (vs_retF vx_bl)) vss_nil)))) (vss_one (vs_retF vx_bl)))
theorem sc_checked_stone : FnScope ["sizes", "rows", "marks", "row", "place"] ["sizes", "rows"] (defScope s_checked_stone) := ⟨rfl, rfl, rfl, by decide +kernel, rfl, by decide +kernel, by decide +kernel⟩
theorem ok_checked_stone {P : Program} {w : World} {K : PySem.W.Frag} {mg : Str → Option Value} {base : Heap} {f : Addr} {fd : FuncData} (T : Txt K mg w) (F : Fun K "checked_stone" "checked_stone" s_checked_stone f fd) (hm : mg "checked_stone" = some (.ref f)) (hb : Binds K fd ["sizes", "rows"] []) (c_inside : Cal P w K mg base 1 "inside" q_inside) : Cal P w K mg base 2 "checked_stone" q_checked_stone := by
  refine Cal.mk' (fn_ok (N := ["sizes", "rows", "marks", "row", "place"]) (F := d_checked_stone) F sc_checked_stone fun cdv A outer s H E S0 hr => ?_) F hm hb
  exact (vss_cons (vs_ow (i := 2) sc_checked_stone.nd vx_dnewT) (vss_cons (vs_for (passes_of rfl) rfl (vi_list (vx_varE 1)) (vg_name sc_checked_stone.nd) (vss_wipe (ks := [3, 4]) (vss_cons (vs_fr (i := 4) sc_checked_stone.nd (VX.any (vx_callTy call_tuple_of cg_tuple T.m_tuple (by decide +kernel) (va_cons (vx_var 3) va_nil)))) (vss_cons (vs_if (VW.t (vw_or (vt_cmp (op_neA hr.units) og_ne (vx_callB (m := .N) call_len cg_len T.m_len (by decide +kernel) (va_cons (vx_var 4) va_nil)) (vx_int (m := .N))) (vw_or (vt_not (vt_tru (vx_call c_inside (L2N.takes_of rfl rfl rfl rfl) hr (by decide) (va_cons (vx_var 0) (va_cons (vx_var 4) va_nil))))) (vw_or1 (vt_cmp (op_inA (hu65 hr)) og_in (vx_var 4) (vx_var 2)))))) (vss_one (vs_raise T.x_BadStone (L2N.takes_of rfl rfl rfl rfl))) vss_nil) (vss_one (vs_put 2 (hu_of hr) (vx_var 4) vx_bl)))))) (vss_one (vs_retF (VX.any (vx_callB (cr_sorted3 rfl) cg_sorted T.m_sorted (by decide +kernel) (va_cons (vx_var 2) va_nil)))))))
theorem sc_all_moves : FnScope ["moves", "order", "number"] [] (defScope s_all_moves) := ⟨rfl, rfl, rfl, by decide +kernel, rfl, by decide +kernel, by decide +kernel⟩
theorem ok_all_moves {P : Program} {w : World} {K : PySem.W.Frag} {mg : Str → Option Value} {base : Heap} {f : Addr} {fd : FuncData} (T : Txt K mg w) (F : Fun K "all_moves" "all_moves" s_all_moves f fd) (hm : mg "all_moves" = some (.ref f)) (hb : Binds K fd [] [])  : Cal P w K mg base 1 "all_moves" q_all_moves := by
  refine Cal.mk' (fn_ok (N := ["moves", "order", "number"]) (F := d_all_moves) F sc_all_moves fun cdv A outer s H E S0 hr => ?_) F hm hb
  exact (vss_cons (vs_ow (i := 0) sc_all_moves.nd (vx_lst (m := .N) (by intro z; cases z) va_nil)) (vss_cons (vs_for (passes_of rfl) rfl (vi_tup (vx_gk T.c_ORDERS)) (vg_name sc_all_moves.nd) (vss_wipe (ks := [1, 2]) (vss_one (vs_for (passes_of rfl) rfl (vi_range1 T.m_range (va_cons vx_int va_nil)) (vg_name sc_all_moves.nd) (vss_wipe (ks := [2]) (vss_one (vs_bm 0 PySem.F.slot_list_append PySem.F.type_list_append mt_append mg_app (va_cons (vx_tup (m := .F) (by intro z; cases z) (va_cons (VX.any (vx_lf (vx_var 1))) (va_cons (vx_tup (m := .F) (by intro z; cases z) (va_cons (vx_fdiv (vx_var 2) (vx_int (m := .N))) (va_cons (vx_mod (vx_fdiv (m := .N) (vx_var 2) (vx_int (m := .N))) (vx_int (m := .N))) (va_cons (vx_mod (vx_var 2) (vx_int (m := .N))) va_nil)))) va_nil))) va_nil)))))))) (vss_one (vs_share (i := 0) (vs_retF (vx_varF 0))))))
theorem sc_moved_block : FnScope ["sizes", "move", "order"] ["sizes", "move"] (defScope s_moved_block) := ⟨rfl, rfl, rfl, by decide +kernel, rfl, by decide +kernel, by decide +kernel⟩
theorem ok_moved_block {P : Program} {w : World} {K : PySem.W.Frag} {mg : Str → Option Value} {base : Heap} {f : Addr} {fd : FuncData} (T : Txt K mg w) (F : Fun K "moved_block" "moved_block" s_moved_block f fd) (hm : mg "moved_block" = some (.ref f)) (hb : Binds K fd ["sizes", "move"] [])  : Cal P w K mg base 1 "moved_block" q_moved_block := by
  refine Cal.mk' (fn_ok (N := ["sizes", "move", "order"]) (F := d_moved_block) F sc_moved_block fun cdv A outer s H E S0 hr => ?_) F hm hb
  exact (vss_cons (vs_sh (i := 2) sc_moved_block.nd (vx_ix (hu_of hr) (vx_var 1) (vx_int (m := .N)))) (vss_one (vs_retF (vx_tup (m := .F) (by intro z; cases z) (va_cons (VX.any (vx_lf (vx_ix (hu_of hr) (vx_var 0) (vx_ix (hu_of hr) (vx_var 2) (vx_int (m := .N)))))) (va_cons (VX.any (vx_lf (vx_ix (hu_of hr) (vx_var 0) (vx_ix (hu_of hr) (vx_var 2) (vx_int (m := .N)))))) (va_cons (VX.any (vx_lf (vx_ix (hu_of hr) (vx_var 0) (vx_ix (hu_of hr) (vx_var 2) (vx_int (m := .N)))))) va_nil)))))))
theorem sc_moved_place : FnScope ["sizes", "move", "place", "order", "turned", "found", "at", "part"] ["sizes", "move", "place"] (defScope s_moved_place) := ⟨rfl, rfl, rfl, by decide +kernel, rfl, by decide +kernel, by decide +kernel⟩
theorem ok_moved_place {P : Program} {w : World} {K : PySem.W.Frag} {mg : Str → Option Value} {base : Heap} {f : Addr} {fd : FuncData} (T : Txt K mg w) (F : Fun K "moved_place" "moved_place" s_moved_place f fd) (hm : mg "moved_place" = some (.ref f)) (hb : Binds K fd ["sizes", "move", "place"] [])  : Cal P w K mg base 1 "moved_place" q_moved_place := by
  refine Cal.mk' (fn_ok (N := ["sizes", "move", "place", "order", "turned", "found", "at", "part"]) (F := d_moved_place) F sc_moved_place fun cdv A outer s H E S0 hr => ?_) F hm hb
  exact (vss_cons (vs_unp (vx_varE 1) (vg_tup rfl (vgs_cons (vg_name sc_moved_place.nd) (vgs_cons (vg_name sc_moved_place.nd) vgs_nil)))) (vss_cons (vs_ow (i := 5) sc_moved_place.nd (vx_lst (m := .N) (by intro z; cases z) va_nil)) (vss_cons (vs_for (passes_of rfl) rfl (vi_range1 T.m_range (va_cons vx_int va_nil)) (vg_name sc_moved_place.nd) (vss_wipe (ks := [6, 7]) (vss_cons (vs_sh (i := 7) sc_moved_place.nd (vx_ix (hu_of hr) (vx_var 2) (vx_ix (hu_of hr) (vx_var 3) (vx_var 6)))) (vss_cons (vs_if (vt_cmp (op_eqA hr.units) og_eq (vx_ix (hu_of hr) (vx_var 4) (vx_var 6)) (vx_int (m := .N))) (vss_one (vs_sh (i := 7) sc_moved_place.nd (vx_sub (vx_sub (m := .N) (vx_ix (hu_of hr) (vx_var 0) (vx_ix (hu_of hr) (vx_var 3) (vx_var 6))) (vx_int (m := .N))) (vx_var 7)))) vss_nil) (vss_one (vs_bm 5 PySem.F.slot_list_append PySem.F.type_list_append mt_append mg_app (va_cons (VX.any (vx_lf (vx_var 7))) va_nil))))))) (vss_one (vs_retF (VX.any (vx_callTy call_tuple_of cg_tuple T.m_tuple (by decide +kernel) (va_cons (vx_var 5) va_nil))))))))
theorem sc_moved_stone : FnScope ["sizes", "move", "stone", "place"] ["sizes", "move", "stone"] (defScope s_moved_stone) := ⟨rfl, rfl, rfl, by decide +kernel, rfl, by decide +kernel, by decide +kernel⟩
theorem ok_moved_stone {P : Program} {w : World} {K : PySem.W.Frag} {mg : Str → Option Value} {base : Heap} {f : Addr} {fd : FuncData} (T : Txt K mg w) (F : Fun K "moved_stone" "moved_stone" s_moved_stone f fd) (hm : mg "moved_stone" = some (.ref f)) (hb : Binds K fd ["sizes", "move", "stone"] []) (c_moved_place : Cal P w K mg base 1 "moved_place" q_moved_place) : Cal P w K mg base 2 "moved_stone" q_moved_stone := by
  refine Cal.mk' (fn_ok (N := ["sizes", "move", "stone", "place"]) (F := d_moved_stone) F sc_moved_stone fun cdv A outer s H E S0 hr => ?_) F hm hb
  exact (vss_one (vs_retF (VX.any (vx_callB (cr_sorted3 rfl) cg_sorted T.m_sorted (by decide +kernel) (va_cons (VX.toO (vx_lc (own := [("place", 3)]) (m := .N) (by intro z; cases z) rfl sc_moved_stone.nd (vi_list (vx_varE 2)) (blkOk_by (own := [("place", 3)]) (N := ["sizes", "move", "stone", "place"]) (sc := defScope s_moved_stone) (by decide +kernel)) (fun _ => (vg_name sc_moved_stone.nd)) (fun _ => vts_nil) (fun _ => (vx_call c_moved_place takesN0 hr (by decide) (va_cons (vx_var 0) (va_cons (vx_var 1) (va_cons (vx_var 3) va_nil))))))) va_nil)))))
theorem sc_least_form : FnScope ["sizes", "stone", "least", "move", "form"] ["sizes", "stone"] (defScope s_least_form) := ⟨rfl, rfl, rfl, by decide +kernel, rfl, by decide +kernel, by decide +kernel⟩
theorem ok_least_form {P : Program} {w : World} {K : PySem.W.Frag} {mg : Str → Option Value} {base : Heap} {f : Addr} {fd : FuncData} (T : Txt K mg w) (F : Fun K "least_form" "least_form" s_least_form f fd) (hm : mg "least_form" = some (.ref f)) (hb : Binds K fd ["sizes", "stone"] []) (c_all_moves : Cal P w K mg base 1 "all_moves" q_all_moves) (c_moved_block : Cal P w K mg base 1 "moved_block" q_moved_block) (c_moved_stone : Cal P w K mg base 2 "moved_stone" q_moved_stone) : Cal P w K mg base 3 "least_form" q_least_form := by
  refine Cal.mk' (fn_ok (N := ["sizes", "stone", "least", "move", "form"]) (F := d_least_form) F sc_least_form fun cdv A outer s H E S0 hr => ?_) F hm hb
  exact (vss_cons (vs_fr (i := 2) sc_least_form.nd vx_non) (vss_cons (vs_for (passes_of rfl) rfl (vi_list (VX.any (vx_call0 c_all_moves hr (by decide) (L2N.takes_of rfl rfl rfl rfl)))) (vg_name sc_least_form.nd) (vss_wipe (ks := [3, 4]) (vss_cons (vs_fr (i := 4) sc_least_form.nd (vx_tup (m := .F) (by intro z; cases z) (va_cons (VX.any (vx_call c_moved_block (L2N.takes_of rfl rfl rfl rfl) hr (by decide) (va_cons (vx_var 0) (va_cons (vx_var 3) va_nil)))) (va_cons (VX.any (vx_call c_moved_stone (L2N.takes_of rfl rfl rfl rfl) hr (by decide) (va_cons (vx_var 0) (va_cons (vx_var 3) (va_cons (vx_var 1) va_nil))))) va_nil)))) (vss_one (vs_if (VW.t (vw_or (vt_cmp op_isN og_isN (vx_var 2) (vx_non (m := .N))) (vw_or1 (vt_cmp (op_ltD hr.units) og_ltD (vx_var 4) (vx_var 2))))) (vss_one (vs_fr (i := 2) sc_least_form.nd (vx_varF 4))) vss_nil))))) (vss_one (vs_retF (vx_varF 2)))))
theorem sc_checked_name : FnScope ["name", "sign"] ["name"] (defScope s_checked_name) := ⟨rfl, rfl, rfl, by decide +kernel, rfl, by decide +kernel, by decide +kernel⟩
theorem ok_checked_name {P : Program} {w : World} {K : PySem.W.Frag} {mg : Str → Option Value} {base : Heap} {f : Addr} {fd : FuncData} (T : Txt K mg w) (F : Fun K "checked_name" "checked_name" s_checked_name f fd) (hm : mg "checked_name" = some (.ref f)) (hb : Binds K fd ["name"] [])  : Cal P w K mg base 1 "checked_name" q_checked_name := by
  refine Cal.mk' (fn_ok (N := ["name", "sign"]) (F := d_checked_name) F sc_checked_name fun cdv A outer s H E S0 hr => ?_) F hm hb
  exact (vss_cons (vs_if (VW.t (vw_or (vt_cmp (op_ltA (hu_of hr)) og_lt (vx_callB (m := .N) call_len cg_len T.m_len (by decide +kernel) (va_cons (vx_var 0) va_nil)) (vx_int (m := .N))) (vw_or1 (vt_cmp op_gt og_gt (vx_callB (m := .N) call_len cg_len T.m_len (by decide +kernel) (va_cons (vx_var 0) va_nil)) (vx_gi (m := .N) T.c_LONGEST_NAME))))) (vss_one (vs_raise T.x_BadName (L2N.takes_of rfl rfl rfl rfl))) vss_nil) (vss_cons (vs_for (passes_of rfl) rfl (vi_str (vx_var 0)) (vg_name sc_checked_name.nd) (vss_wipe (ks := [1]) (vss_one (vs_if (vt_cmp (op_ninA (hu65 hr)) og_nin (vx_var 1) (vx_gs (m := .N) T.c_COLOURS)) (vss_one (vs_raise T.x_BadName (L2N.takes_of rfl rfl rfl rfl))) vss_nil)))) (vss_one (vs_retF (VX.any (vx_lf (vx_var 0)))))))
theorem sc_L_alike : FnScope ["_law_found", "_law_due", "_law_one_here", "_law_other"] ["_law_found", "_law_due"] (defScope s_L_alike) := ⟨rfl, rfl, rfl, by decide +kernel, rfl, by decide +kernel, by decide +kernel⟩
theorem ok_L_alike {P : Program} {w : World} {K : PySem.W.Frag} {mg : Str → Option Value} {base : Heap} {f : Addr} {fd : FuncData} (T : Txt K mg w) (F : Fun K "_law_alike" "_law_alike" s_L_alike f fd) (hm : mg "_law_alike" = some (.ref f)) (hb : Binds K fd ["_law_found", "_law_due"] [])  : ∀ n : Nat, Cal P w K mg base n "_law_alike" (q_L_alike n)
  | 0 => ⟨f, fd, ["_law_found", "_law_due"], ⟨fun vs H Q E ⟨ds, _, p⟩ => p.elim, fun A outer s H args us vs Q E hr e b v ⟨ds, _, p⟩ => p.elim⟩, hm, F.kp, hb⟩
  | n + 1 => by
    have ih := ok_L_alike (P := P) (w := w) (base := base) T F hm hb  n
    refine Cal.mk' (fn_ok (N := ["_law_found", "_law_due", "_law_one_here", "_law_other"]) (F := d_L_alike (q_L_alike n)) F sc_L_alike fun cdv A outer s H E S0 hr => ?_) F hm hb
    exact (vss_cons (vs_if (VW.t (vw_or (vt_cmp (op_neA hr.units) og_ne (vx_isi (m := .N) .bool T.m_isinstance T.m_bool (vx_var 0)) (vx_isi (m := .N) .bool T.m_isinstance T.m_bool (vx_var 1))) (vw_or1 (vt_cmp (op_neA hr.units) og_ne (vx_isi (m := .N) .tuple T.m_isinstance T.m_tuple (vx_var 0)) (vx_isi (m := .N) .tuple T.m_isinstance T.m_tuple (vx_var 1)))))) (vss_one (vs_retF vx_bl)) vss_nil) (vss_cons (vs_if (vt_not (vt_tru (vx_isi2 (m := .N) .list .tuple T.m_isinstance T.m_list T.m_tuple (vx_var 1)))) (vss_one (vs_retF (vx_cmp (op_eqA hr.units) og_eq (vx_var 0) (vx_var 1)))) vss_nil) (vss_cons (vs_if (VW.t (vw_or (vt_not (vt_tru (vx_isi2 (m := .N) .list .tuple T.m_isinstance T.m_list T.m_tuple (vx_var 0)))) (vw_or1 (vt_cmp (op_neA hr.units) og_ne (vx_callB (m := .N) call_len cg_len T.m_len (by decide +kernel) (va_cons (vx_var 0) va_nil)) (vx_callB (m := .N) call_len cg_len T.m_len (by decide +kernel) (va_cons (vx_var 1) va_nil)))))) (vss_one (vs_retF vx_bl)) vss_nil) (vss_one (vs_retF (vx_callB (cr_all rfl) cg_all T.m_all (by decide +kernel) (va_cons (VX.toO (vx_lc (own := [("_law_one_here", 2), ("_law_other", 3)]) (m := .N) (by intro z; cases z) rfl sc_L_alike.nd (vi_zip T.m_zip (va_cons (vx_varE 0) (va_cons (vx_varE 1) va_nil))) (blkOk_by (own := [("_law_one_here", 2), ("_law_other", 3)]) (N := ["_law_found", "_law_due", "_law_one_here", "_law_other"]) (sc := defScope s_L_alike) (by decide +kernel)) (fun _ => (vg_tup rfl (vgs_cons (vg_name sc_L_alike.nd) (vgs_cons (vg_name sc_L_alike.nd) vgs_nil)))) (fun _ => vts_nil) (fun _ => (vx_call ih takesN0 hr (by omega) (va_cons (vx_var 2) (va_cons (vx_var 3) va_nil)))))) va_nil)))))))
theorem sc_L_digits : FnScope ["_law_script", "_law_k", "_law_base", "_law_many", "_law_cell", "_law_number", "_law_row", "_law_turn"] ["_law_script", "_law_k", "_law_base", "_law_many"] (defScope s_L_digits) := ⟨rfl, rfl, rfl, by decide +kernel, rfl, by decide +kernel, by decide +kernel⟩
theorem ok_L_digits {P : Program} {w : World} {K : PySem.W.Frag} {mg : Str → Option Value} {base : Heap} {f : Addr} {fd : FuncData} (T : Txt K mg w) (F : Fun K "_law_digits" "_law_digits" s_L_digits f fd) (hm : mg "_law_digits" = some (.ref f)) (hb : Binds K fd ["_law_script", "_law_k", "_law_base", "_law_many"] [])  : Cal P w K mg base 1 "_law_digits" q_L_digits := by
  refine Cal.mk' (fn_ok (N := ["_law_script", "_law_k", "_law_base", "_law_many", "_law_cell", "_law_number", "_law_row", "_law_turn"]) (F := d_L_digits) F sc_L_digits fun cdv A outer s H E S0 hr => ?_) F hm hb
  exact (vss_cons (vs_sh (i := 4) sc_L_digits.nd vx_int) (vss_cons (vs_if (vt_cmp (op_ltA (hu_of hr)) og_lt (vx_var 1) (vx_callB (m := .N) call_len cg_len T.m_len (by decide +kernel) (va_cons (vx_var 0) va_nil))) (vss_one (vs_sh (i := 4) sc_L_digits.nd (vx_ix (hu_of hr) (vx_var 0) (vx_var 1)))) vss_nil) (vss_cons (vs_fr (i := 5) sc_L_digits.nd (vx_callB call_abs cg_abs T.m_abs (by decide +kernel) (va_cons (vx_var 4) va_nil))) (vss_cons (vs_ow (i := 6) sc_L_digits.nd (vx_lst (m := .N) (by intro z; cases z) va_nil)) (vss_cons (vs_if (vt_cmp op_ge og_ge (vx_var 5) (vx_pow (m := .N) (vx_int (m := .N)) (vx_int (m := .N)))) (vss_cons (vs_for (passes_of rfl) rfl (vi_range1 T.m_range (va_cons (vx_var 3) va_nil)) (vg_name sc_L_digits.nd) (vss_wipe (ks := [7]) (vss_cons (vs_bm 6 PySem.F.slot_list_append PySem.F.type_list_append mt_append mg_app (va_cons (vx_mod (vx_var 5) (vx_var 2)) va_nil)) (vss_one (vs_fr (i := 5) sc_L_digits.nd (vx_fdivN (vx_var 5) (vx_var 2))))))) (vss_one (vs_share (i := 6) (vs_retF (vx_varF 6))))) vss_nil) (vss_cons (vs_fr (i := 5) sc_L_digits.nd (vx_mod (vx_add (m := .N) (vx_add (m := .N) (vx_mul (m := .N) (vx_var 4) (vx_int (m := .N))) (vx_mul (m := .N) (vx_var 1) (vx_int (m := .N)))) (vx_int (m := .N))) (vx_int (m := .N)))) (vss_cons (vs_fr (i := 5) sc_L_digits.nd (vx_add (vx_var 5) (vx_mod (m := .N) (vx_mul (m := .N) (vx_var 5) (vx_var 5)) (vx_int (m := .N))))) (vss_cons (vs_for (passes_of rfl) rfl (vi_range1 T.m_range (va_cons (vx_var 3) va_nil)) (vg_name sc_L_digits.nd) (vss_wipe (ks := [7]) (vss_cons (vs_fr (i := 5) sc_L_digits.nd (vx_mod (vx_add (m := .N) (vx_mul (m := .N) (vx_var 5) (vx_int (m := .N))) (vx_int (m := .N))) (vx_int (m := .N)))) (vss_one (vs_bm 6 PySem.F.slot_list_append PySem.F.type_list_append mt_append mg_app (va_cons (vx_mod (vx_fdiv (m := .N) (vx_var 5) (vx_int (m := .N))) (vx_var 2)) va_nil)))))) (vss_one (vs_share (i := 6) (vs_retF (vx_varF 6))))))))))))
theorem sc_L_one : FnScope ["_law_script", "_law_k", "_law_base"] ["_law_script", "_law_k", "_law_base"] (defScope s_L_one) := ⟨rfl, rfl, rfl, by decide +kernel, rfl, by decide +kernel, by decide +kernel⟩
theorem ok_L_one {P : Program} {w : World} {K : PySem.W.Frag} {mg : Str → Option Value} {base : Heap} {f : Addr} {fd : FuncData} (T : Txt K mg w) (F : Fun K "_law_one" "_law_one" s_L_one f fd) (hm : mg "_law_one" = some (.ref f)) (hb : Binds K fd ["_law_script", "_law_k", "_law_base"] []) (c_L_digits : Cal P w K mg base 1 "_law_digits" q_L_digits) : Cal P w K mg base 2 "_law_one" q_L_one := by
  refine Cal.mk' (fn_ok (N := ["_law_script", "_law_k", "_law_base"]) (F := d_L_one) F sc_L_one fun cdv A outer s H E S0 hr => ?_) F hm hb
  exact (vss_one (vs_retF (VX.any (vx_lf (vx_ix (hu_of hr) (vx_call c_L_digits (L2N.takes_of rfl rfl rfl rfl) hr (by decide) (va_cons (vx_var 0) (va_cons (vx_var 1) (va_cons (vx_var 2) (va_cons vx_int va_nil))))) (vx_int (m := .N)))))))
theorem sc_L_all : FnScope ["_law_sizes", "_law_places", "_law_x", "_law_y", "_law_z"] ["_law_sizes"] (defScope s_L_all) := ⟨rfl, rfl, rfl, by decide +kernel, rfl, by decide +kernel, by decide +kernel⟩
theorem ok_L_all {P : Program} {w : World} {K : PySem.W.Frag} {mg : Str → Option Value} {base : Heap} {f : Addr} {fd : FuncData} (T : Txt K mg w) (F : Fun K "_law_all" "_law_all" s_L_all f fd) (hm : mg "_law_all" = some (.ref f)) (hb : Binds K fd ["_law_sizes"] [])  : Cal P w K mg base 1 "_law_all" q_L_all := by
  refine Cal.mk' (fn_ok (N := ["_law_sizes", "_law_places", "_law_x", "_law_y", "_law_z"]) (F := d_L_all) F sc_L_all fun cdv A outer s H E S0 hr => ?_) F hm hb
  exact (vss_cons (vs_ow (i := 1) sc_L_all.nd (vx_lst (m := .N) (by intro z; cases z) va_nil)) (vss_cons (vs_for (passes_of rfl) rfl (vi_range1 T.m_range (va_cons (VX.toO (vx_ix (hu_of hr) (vx_var 0) (vx_int (m := .N)))) va_nil)) (vg_name sc_L_all.nd) (vss_wipe (ks := [2, 3, 4]) (vss_one (vs_for (passes_of rfl) rfl (vi_range1 T.m_range (va_cons (VX.toO (vx_ix (hu_of hr) (vx_var 0) (vx_int (m := .N)))) va_nil)) (vg_name sc_L_all.nd) (vss_wipe (ks := [3, 4]) (vss_one (vs_for (passes_of rfl) rfl (vi_range1 T.m_range (va_cons (VX.toO (vx_ix (hu_of hr) (vx_var 0) (vx_int (m := .N)))) va_nil)) (vg_name sc_L_all.nd) (vss_wipe (ks := [4]) (vss_one (vs_bm 1 PySem.F.slot_list_append PySem.F.type_list_append mt_append mg_app (va_cons (vx_tup (m := .F) (by intro z; cases z) (va_cons (VX.any (vx_lf (vx_var 2))) (va_cons (VX.any (vx_lf (vx_var 3))) (va_cons (VX.any (vx_lf (vx_var 4))) va_nil)))) va_nil))))))))))) (vss_one (vs_share (i := 1) (vs_retF (vx_varF 1))))))
theorem sc_L_letter : FnScope ["_law_number"] ["_law_number"] (defScope s_L_letter) := ⟨rfl, rfl, rfl, by decide +kernel, rfl, by decide +kernel, by decide +kernel⟩
theorem ok_L_letter {P : Program} {w : World} {K : PySem.W.Frag} {mg : Str → Option Value} {base : Heap} {f : Addr} {fd : FuncData} (T : Txt K mg w) (F : Fun K "_law_letter" "_law_letter" s_L_letter f fd) (hm : mg "_law_letter" = some (.ref f)) (hb : Binds K fd ["_law_number"] [])  : Cal P w K mg base 1 "_law_letter" q_L_letter := by
  refine Cal.mk' (fn_ok (N := ["_law_number"]) (F := d_L_letter) F sc_L_letter fun cdv A outer s H E S0 hr => ?_) F hm hb
  exact (vss_one (vs_retF (VX.any (vx_lf (vx_ix (hu_of hr) (vx_str (m := .N)) (vx_mod (m := .N) (vx_var 0) (vx_int (m := .N))))))))
theorem sc_L_moved : FnScope ["_law_sizes", "_law_move", "_law_place", "_law_parts", "_law_at", "_law_part"] ["_law_sizes", "_law_move", "_law_place"] (defScope s_L_moved) := ⟨rfl, rfl, rfl, by decide +kernel, rfl, by decide +kernel, by decide +kernel⟩
theorem ok_L_moved {P : Program} {w : World} {K : PySem.W.Frag} {mg : Str → Option Value} {base : Heap} {f : Addr} {fd : FuncData} (T : Txt K mg w) (F : Fun K "_law_moved" "_law_moved" s_L_moved f fd) (hm : mg "_law_moved" = some (.ref f)) (hb : Binds K fd ["_law_sizes", "_law_move", "_law_place"] [])  : Cal P w K mg base 1 "_law_moved" q_L_moved := by
  refine Cal.mk' (fn_ok (N := ["_law_sizes", "_law_move", "_law_place", "_law_parts", "_law_at", "_law_part"]) (F := d_L_moved) F sc_L_moved fun cdv A outer s H E S0 hr => ?_) F hm hb
  exact (vss_cons (vs_ow (i := 3) sc_L_moved.nd (vx_lst (m := .N) (by intro z; cases z) va_nil)) (vss_cons (vs_for (passes_of rfl) rfl (vi_range1 T.m_range (va_cons vx_int va_nil)) (vg_name sc_L_moved.nd) (vss_wipe (ks := [4, 5]) (vss_cons (vs_sh (i := 5) sc_L_moved.nd (vx_ix (hu_of hr) (vx_var 2) (vx_ix (hu_of hr) (vx_ix (hu_of hr) (vx_var 1) (vx_int (m := .N))) (vx_var 4)))) (vss_cons (vs_if (vt_cmp (op_eqA hr.units) og_eq (vx_ix (hu_of hr) (vx_ix (hu_of hr) (vx_var 1) (vx_int (m := .N))) (vx_var 4)) (vx_int (m := .N))) (vss_one (vs_sh (i := 5) sc_L_moved.nd (vx_sub (vx_sub (m := .N) (vx_ix (hu_of hr) (vx_var 0) (vx_ix (hu_of hr) (vx_ix (hu_of hr) (vx_var 1) (vx_int (m := .N))) (vx_var 4))) (vx_int (m := .N))) (vx_var 5)))) vss_nil) (vss_one (vs_bm 3 PySem.F.slot_list_append PySem.F.type_list_append mt_append mg_app (va_cons (VX.any (vx_lf (vx_var 5))) va_nil))))))) (vss_one (vs_retF (vx_tup (m := .F) (by intro z; cases z) (va_cons (VX.any (vx_lf (vx_ix (hu_of hr) (vx_var 3) (vx_int (m := .N))))) (va_cons (VX.any (vx_lf (vx_ix (hu_of hr) (vx_var 3) (vx_int (m := .N))))) (va_cons (VX.any (vx_lf (vx_ix (hu_of hr) (vx_var 3) (vx_int (m := .N))))) va_nil))))))))
theorem sc_L_moved_sizes : FnScope ["_law_sizes", "_law_move"] ["_law_sizes", "_law_move"] (defScope s_L_moved_sizes) := ⟨rfl, rfl, rfl, by decide +kernel, rfl, by decide +kernel, by decide +kernel⟩
theorem ok_L_moved_sizes {P : Program} {w : World} {K : PySem.W.Frag} {mg : Str → Option Value} {base : Heap} {f : Addr} {fd : FuncData} (T : Txt K mg w) (F : Fun K "_law_moved_sizes" "_law_moved_sizes" s_L_moved_sizes f fd) (hm : mg "_law_moved_sizes" = some (.ref f)) (hb : Binds K fd ["_law_sizes", "_law_move"] [])  : Cal P w K mg base 1 "_law_moved_sizes" q_L_moved_sizes := by
  refine Cal.mk' (fn_ok (N := ["_law_sizes", "_law_move"]) (F := d_L_moved_sizes) F sc_L_moved_sizes fun cdv A outer s H E S0 hr => ?_) F hm hb
  exact (vss_one (vs_retF (vx_tup (m := .F) (by intro z; cases z) (va_cons (VX.any (vx_lf (vx_ix (hu_of hr) (vx_var 0) (vx_ix (hu_of hr) (vx_ix (hu_of hr) (vx_var 1) (vx_int (m := .N))) (vx_int (m := .N)))))) (va_cons (VX.any (vx_lf (vx_ix (hu_of hr) (vx_var 0) (vx_ix (hu_of hr) (vx_ix (hu_of hr) (vx_var 1) (vx_int (m := .N))) (vx_int (m := .N)))))) (va_cons (VX.any (vx_lf (vx_ix (hu_of hr) (vx_var 0) (vx_ix (hu_of hr) (vx_ix (hu_of hr) (vx_var 1) (vx_int (m := .N))) (vx_int (m := .N)))))) va_nil))))))
theorem sc_L_moved_stone : FnScope ["_law_sizes", "_law_move", "_law_stone", "_law_place"] ["_law_sizes", "_law_move", "_law_stone"] (defScope s_L_moved_stone) := ⟨rfl, rfl, rfl, by decide +kernel, rfl, by decide +kernel, by decide +kernel⟩
theorem ok_L_moved_stone {P : Program} {w : World} {K : PySem.W.Frag} {mg : Str → Option Value} {base : Heap} {f : Addr} {fd : FuncData} (T : Txt K mg w) (F : Fun K "_law_moved_stone" "_law_moved_stone" s_L_moved_stone f fd) (hm : mg "_law_moved_stone" = some (.ref f)) (hb : Binds K fd ["_law_sizes", "_law_move", "_law_stone"] []) (c_L_moved : Cal P w K mg base 1 "_law_moved" q_L_moved) : Cal P w K mg base 2 "_law_moved_stone" q_L_moved_stone := by
  refine Cal.mk' (fn_ok (N := ["_law_sizes", "_law_move", "_law_stone", "_law_place"]) (F := d_L_moved_stone) F sc_L_moved_stone fun cdv A outer s H E S0 hr => ?_) F hm hb
  exact (vss_one (vs_retF (VX.any (vx_callB (cr_sorted3 rfl) cg_sorted T.m_sorted (by decide +kernel) (va_cons (VX.toO (vx_lc (own := [("_law_place", 3)]) (m := .N) (by intro z; cases z) rfl sc_L_moved_stone.nd (vi_list (vx_varE 2)) (blkOk_by (own := [("_law_place", 3)]) (N := ["_law_sizes", "_law_move", "_law_stone", "_law_place"]) (sc := defScope s_L_moved_stone) (by decide +kernel)) (fun _ => (vg_name sc_L_moved_stone.nd)) (fun _ => vts_nil) (fun _ => (vx_call c_L_moved takesN0 hr (by decide) (va_cons (vx_var 0) (va_cons (vx_var 1) (va_cons (vx_var 3) va_nil))))))) va_nil)))))
theorem sc_L_moves : FnScope ["_law_moves_here", "_law_one_here", "_law_two", "_law_number", "_law_order"] [] (defScope s_L_moves) := ⟨rfl, rfl, rfl, by decide +kernel, rfl, by decide +kernel, by decide +kernel⟩
theorem ok_L_moves {P : Program} {w : World} {K : PySem.W.Frag} {mg : Str → Option Value} {base : Heap} {f : Addr} {fd : FuncData} (T : Txt K mg w) (F : Fun K "_law_moves" "_law_moves" s_L_moves f fd) (hm : mg "_law_moves" = some (.ref f)) (hb : Binds K fd [] [])  : Cal P w K mg base 1 "_law_moves" q_L_moves := by
  refine Cal.mk' (fn_ok (N := ["_law_moves_here", "_law_one_here", "_law_two", "_law_number", "_law_order"]) (F := d_L_moves) F sc_L_moves fun cdv A outer s H E S0 hr => ?_) F hm hb
  exact (vss_cons (vs_ow (i := 0) sc_L_moves.nd (vx_lst (m := .N) (by intro z; cases z) va_nil)) (vss_cons (vs_for (passes_of rfl) rfl (vi_range1 T.m_range (va_cons vx_int va_nil)) (vg_name sc_L_moves.nd) (vss_wipe (ks := [1, 2, 3, 4]) (vss_one (vs_for (passes_of rfl) rfl (vi_range1 T.m_range (va_cons vx_int va_nil)) (vg_name sc_L_moves.nd) (vss_wipe (ks := [2, 3, 4]) (vss_one (vs_for (passes_of rfl) rfl (vi_range1 T.m_range (va_cons vx_int va_nil)) (vg_name sc_L_moves.nd) (vss_wipe (ks := [3, 4]) (vss_one (vs_if (vt_cmp (op_neA hr.units) og_ne (vx_var 1) (vx_var 2)) (vss_cons (vs_sh (i := 4) sc_L_moves.nd (vx_tup (m := .E) (by intro z; cases z) (va_cons (vx_varE 1) (va_cons (vx_varE 2) (va_cons (vx_sub (vx_sub (m := .N) (vx_int (m := .N)) (vx_var 1)) (vx_var 2)) va_nil))))) (vss_one (vs_bm 0 PySem.F.slot_list_append PySem.F.type_list_append mt_append mg_app (va_cons (vx_tup (m := .F) (by intro z; cases z) (va_cons (VX.any (vx_lf (vx_var 4))) (va_cons (vx_tup (m := .F) (by intro z; cases z) (va_cons (vx_mod (vx_fdiv (m := .N) (vx_var 3) (vx_int (m := .N))) (vx_int (m := .N))) (va_cons (vx_mod (vx_fdiv (m := .N) (vx_var 3) (vx_int (m := .N))) (vx_int (m := .N))) (va_cons (vx_mod (vx_var 3) (vx_int (m := .N))) va_nil)))) va_nil))) va_nil)))) vss_nil)))))))))) (vss_one (vs_share (i := 0) (vs_retF (vx_varF 0))))))
theorem sc_L_name : FnScope ["_law_number", "_law_long", "_law_at"] ["_law_number"] (defScope s_L_name) := ⟨rfl, rfl, rfl, by decide +kernel, rfl, by decide +kernel, by decide +kernel⟩
theorem ok_L_name {P : Program} {w : World} {K : PySem.W.Frag} {mg : Str → Option Value} {base : Heap} {f : Addr} {fd : FuncData} (T : Txt K mg w) (F : Fun K "_law_name" "_law_name" s_L_name f fd) (hm : mg "_law_name" = some (.ref f)) (hb : Binds K fd ["_law_number"] []) (c_L_letter : Cal P w K mg base 1 "_law_letter" q_L_letter) : Cal P w K mg base 2 "_law_name" q_L_name := by
  refine Cal.mk' (fn_ok (N := ["_law_number", "_law_long", "_law_at"]) (F := d_L_name) F sc_L_name fun cdv A outer s H E S0 hr => ?_) F hm hb
  exact (vss_cons (vs_sh (i := 1) sc_L_name.nd (vx_ix (hu_of hr) (vx_tup (m := .E) (by intro z; cases z) (va_cons vx_int (va_cons vx_int (va_cons vx_int (va_cons vx_int (va_cons vx_int va_nil)))))) (vx_mod (m := .N) (vx_var 0) (vx_int (m := .N))))) (vss_cons (vs_sh (i := 2) sc_L_name.nd (vx_ix (hu_of hr) (vx_tup (m := .E) (by intro z; cases z) (va_cons vx_int (va_cons vx_int (va_cons vx_int (va_cons vx_int (va_cons vx_int va_nil)))))) (vx_mod (m := .N) (vx_var 0) (vx_int (m := .N))))) (vss_one (vs_retF (vx_add (vx_add (m := .N) (vx_mulS (m := .N) (vx_str (m := .N)) (vx_var 2)) (vx_call c_L_letter (L2N.takes_of rfl rfl rfl rfl) hr (by decide) (va_cons (vx_add (vx_fdiv (m := .N) (vx_var 0) (vx_int (m := .N))) (vx_int (m := .N))) va_nil))) (vx_mulS (m := .N) (vx_str (m := .N)) (vx_sub (m := .N) (vx_sub (m := .N) (vx_var 1) (vx_int (m := .N))) (vx_var 2))))))))
theorem sc_L_least : FnScope ["_law_sizes", "_law_stone", "_law_due", "_law_other", "_law_form"] ["_law_sizes", "_law_stone"] (defScope s_L_least) := ⟨rfl, rfl, rfl, by decide +kernel, rfl, by decide +kernel, by decide +kernel⟩
theorem ok_L_least {P : Program} {w : World} {K : PySem.W.Frag} {mg : Str → Option Value} {base : Heap} {f : Addr} {fd : FuncData} (T : Txt K mg w) (F : Fun K "_law_least" "_law_least" s_L_least f fd) (hm : mg "_law_least" = some (.ref f)) (hb : Binds K fd ["_law_sizes", "_law_stone"] []) (c_L_moved_sizes : Cal P w K mg base 1 "_law_moved_sizes" q_L_moved_sizes) (c_L_moved_stone : Cal P w K mg base 2 "_law_moved_stone" q_L_moved_stone) (c_L_moves : Cal P w K mg base 1 "_law_moves" q_L_moves) : Cal P w K mg base 3 "_law_least" q_L_least := by
  refine Cal.mk' (fn_ok (N := ["_law_sizes", "_law_stone", "_law_due", "_law_other", "_law_form"]) (F := d_L_least) F sc_L_least fun cdv A outer s H E S0 hr => ?_) F hm hb
  exact (vss_cons (vs_fr (i := 2) sc_L_least.nd vx_non) (vss_cons (vs_for (passes_of rfl) rfl (vi_list (VX.any (vx_call0 c_L_moves hr (by decide) (L2N.takes_of rfl rfl rfl rfl)))) (vg_name sc_L_least.nd) (vss_wipe (ks := [3, 4]) (vss_cons (vs_fr (i := 4) sc_L_least.nd (vx_tup (m := .F) (by intro z; cases z) (va_cons (VX.any (vx_call c_L_moved_sizes (L2N.takes_of rfl rfl rfl rfl) hr (by decide) (va_cons (vx_var 0) (va_cons (vx_var 3) va_nil)))) (va_cons (VX.any (vx_call c_L_moved_stone (L2N.takes_of rfl rfl rfl rfl) hr (by decide) (va_cons (vx_var 0) (va_cons (vx_var 3) (va_cons (vx_var 1) va_nil))))) va_nil)))) (vss_one (vs_if (VW.t (vw_or (vt_cmp op_isN og_isN (vx_var 2) (vx_non (m := .N))) (vw_or (vt_cmp (op_ltA (hu_of hr)) og_lt (vx_ix (hu_of hr) (vx_var 4) (vx_int (m := .N))) (vx_ix (hu_of hr) (vx_var 2) (vx_int (m := .N)))) (vw_or1 (VW.t (vw_and (vt_cmp (op_eqA hr.units) og_eq (vx_ix (hu_of hr) (vx_var 4) (vx_int (m := .N))) (vx_ix (hu_of hr) (vx_var 2) (vx_int (m := .N)))) (vw_and1 (vt_cmp (op_ltD hr.units) og_ltD (vx_ix (hu_of hr) (vx_var 4) (vx_int (m := .N))) (vx_ix (hu_of hr) (vx_var 2) (vx_int (m := .N))))))))))) (vss_one (vs_fr (i := 2) sc_L_least.nd (vx_varF 4))) vss_nil))))) (vss_one (vs_retF (vx_varF 2)))))
theorem sc_L_pebble : FnScope ["_law_script", "_law_k", "_law_row", "_law_sizes", "_law_places", "_law_marks", "_law_number"] ["_law_script", "_law_k"] (defScope s_L_pebble) := ⟨rfl, rfl, rfl, by decide +kernel, rfl, by decide +kernel, by decide +kernel⟩
theorem ok_L_pebble {P : Program} {w : World} {K : PySem.W.Frag} {mg : Str → Option Value} {base : Heap} {f : Addr} {fd : FuncData} (T : Txt K mg w) (F : Fun K "_law_pebble" "_law_pebble" s_L_pebble f fd) (hm : mg "_law_pebble" = some (.ref f)) (hb : Binds K fd ["_law_script", "_law_k"] []) (c_L_all : Cal P w K mg base 1 "_law_all" q_L_all) (c_L_digits : Cal P w K mg base 1 "_law_digits" q_L_digits) : Cal P w K mg base 2 "_law_pebble" q_L_pebble := by
  refine Cal.mk' (fn_ok (N := ["_law_script", "_law_k", "_law_row", "_law_sizes", "_law_places", "_law_marks", "_law_number"]) (F := d_L_pebble) F sc_L_pebble fun cdv A outer s H E S0 hr => ?_) F hm hb
  exact (vss_cons (vs_fr (i := 2) sc_L_pebble.nd (VX.any (vx_call c_L_digits (L2N.takes_of rfl rfl rfl rfl) hr (by decide) (va_cons (vx_var 0) (va_cons (vx_var 1) (va_cons vx_int (va_cons vx_int va_nil))))))) (vss_cons (vs_fr (i := 3) sc_L_pebble.nd (vx_tup (m := .F) (by intro z; cases z) (va_cons (vx_add (vx_int (m := .N)) (vx_mod (m := .N) (vx_ix (hu_of hr) (vx_var 2) (vx_int (m := .N))) (vx_int (m := .N)))) (va_cons (vx_add (vx_int (m := .N)) (vx_mod (m := .N) (vx_ix (hu_of hr) (vx_var 2) (vx_int (m := .N))) (vx_int (m := .N)))) (va_cons (vx_add (vx_int (m := .N)) (vx_mod (m := .N) (vx_ix (hu_of hr) (vx_var 2) (vx_int (m := .N))) (vx_int (m := .N)))) va_nil))))) (vss_cons (vs_fr (i := 4) sc_L_pebble.nd (VX.any (vx_call c_L_all (L2N.takes_of rfl rfl rfl rfl) hr (by decide) (va_cons (vx_var 3) va_nil)))) (vss_cons (vs_ow (i := 5) sc_L_pebble.nd vx_dnewT) (vss_cons (vs_for (passes_of rfl) rfl (vi_range1 T.m_range (va_cons (vx_mod (vx_ix (hu_of hr) (vx_var 2) (vx_int (m := .N))) (vx_int (m := .N))) va_nil)) (vg_name sc_L_pebble.nd) (vss_wipe (ks := [6]) (vss_one (vs_put 5 (hu_of hr) (vx_ix (hu_of hr) (vx_var 4) (vx_mod (m := .N) (vx_fdivN (m := .N) (vx_ix (hu_of hr) (vx_var 2) (vx_add (m := .N) (vx_int (m := .N)) (vx_mod (m := .N) (vx_var 6) (vx_int (m := .N))))) (vx_add (m := .N) (vx_int (m := .N)) (vx_var 6))) (vx_callB (m := .N) call_len cg_len T.m_len (by decide +kernel) (va_cons (vx_var 4) va_nil)))) vx_bl)))) (vss_one (vs_retF (vx_tup (m := .F) (by intro z; cases z) (va_cons (vx_varF 3) (va_cons (VX.any (vx_callB (cr_sorted3 rfl) cg_sorted T.m_sorted (by decide +kernel) (va_cons (vx_var 5) va_nil))) va_nil))))))))))
theorem sc_L_kinds : FnScope ["_law_rows", "_law_groups", "_law_forms", "_law_name_here", "_law_form"] ["_law_rows"] (defScope s_L_kinds) := ⟨rfl, rfl, rfl, by decide +kernel, rfl, by decide +kernel, by decide +kernel⟩
theorem ok_L_kinds {P : Program} {w : World} {K : PySem.W.Frag} {mg : Str → Option Value} {base : Heap} {f : Addr} {fd : FuncData} (T : Txt K mg w) (F : Fun K "_law_kinds" "_law_kinds" s_L_kinds f fd) (hm : mg "_law_kinds" = some (.ref f)) (hb : Binds K fd ["_law_rows"] [])  : Cal P w K mg base 1 "_law_kinds" q_L_kinds := by
  refine Cal.mk' (fn_ok (N := ["_law_rows", "_law_groups", "_law_forms", "_law_name_here", "_law_form"]) (F := d_L_kinds) F sc_L_kinds fun cdv A outer s H E S0 hr => ?_) F hm hb
  exact (vss_q (i := 1) (j := 2) (vk_cons (vq_for (ks := [3, 4]) (passes_of rfl) rfl (vi_list (vx_varE 0)) (vg_tup rfl (vgs_cons (vg_name sc_L_kinds.nd) (vgs_cons (vg_name sc_L_kinds.nd) vgs_nil))) tgok_2 (vqs_cons (vq_if (vt_cmp (op_ninA (hu65 hr)) og_nin (vx_var 4) (vx_var 2)) (vqs_cons (vq_app (va_cons (vx_varE 4) va_nil)) (vqs_one (vq_new va_nil))) vqs_nil) (vqs_one (vq_put (hu_of hr) (vx_index (hu65 hr) (vx_var 2) (vx_var 4)) (va_cons (VX.any (vx_lf (vx_var 3))) va_nil))))) (vk_end (vss_one (vs_retF (vx_varF 1))))) sc_L_kinds.nd)
theorem sc_Shelf___init__ : FnScope ["self"] ["self"] (defScope s_Shelf___init__) := ⟨rfl, rfl, rfl, by decide +kernel, rfl, by decide +kernel, by decide +kernel⟩
theorem ok_Shelf___init__ {P : Program} {w : World} {K : PySem.W.Frag} {mg : Str → Option Value} {base : Heap} {f : Addr} {fd : FuncData} {C : Addr} (T : Txt K mg w) (F : Fun K "__init__" "Shelf.__init__" s_Shelf___init__ f fd) (ca : ClsAt K "Shelf" C) (hm : mg "Shelf" = some (.ref C)) (M : Mk K C f) (hb : Binds K fd ["self"] [])  : CalMk P w K mg base 1 "Shelf" q_Shelf___init__ := by
  refine ⟨⟨C, f, fd, _, ca, hm, M, fn_okO (N := ["self"]) (F := d_Shelf___init__) F sc_Shelf___init__ fun cdv A outer s H E S0 H0 hr => ?_, hb⟩⟩
  exact (vss_one (vs_setL (i := 0) T.cls_Shelf T.nf_Shelf_rows (vx_lst (m := .N) (by intro z; cases z) va_nil)))
theorem sc_Shelf_kinds : FnScope ["self", "groups", "forms", "row"] ["self"] (defScope s_Shelf_kinds) := ⟨rfl, rfl, rfl, by decide +kernel, rfl, by decide +kernel, by decide +kernel⟩
theorem ok_Shelf_kinds {P : Program} {w : World} {K : PySem.W.Frag} {mg : Str → Option Value} {base : Heap} {f : Addr} {fd : FuncData} {C : Addr} (T : Txt K mg w) (F : Fun K "kinds" "Shelf.kinds" s_Shelf_kinds f fd) (ca : ClsAt K "Shelf" C) (cl : Cls K C) (me : Meth K C "kinds" f) (hb : Binds K fd ["self"] [])  : CalM P w K mg base 1 "Shelf" "kinds" q_Shelf_kinds := by
  refine ⟨⟨C, f, fd, _, ca, cl, me, fn_ok (N := ["self", "groups", "forms", "row"]) (F := d_Shelf_kinds) F sc_Shelf_kinds fun cdv A outer s H E S0 hr => ?_, hb⟩⟩
  exact (vss_q (i := 1) (j := 2) (vk_cons (vq_for (ks := [3]) (passes_of rfl) rfl (vi_list (vx_fldE (i := 0) T.cls_Shelf T.nf_Shelf_rows)) (vg_name sc_Shelf_kinds.nd) tgok_name (vqs_one (vq_if (vt_cmp (op_inA (hu65 hr)) og_in (vx_ix (hu_of hr) (vx_var 3) (vx_int (m := .N))) (vx_var 2)) (vqs_one (vq_put (hu_of hr) (vx_index (hu65 hr) (vx_var 2) (vx_ix (hu_of hr) (vx_var 3) (vx_int (m := .N)))) (va_cons (VX.any (vx_lf (vx_ix (hu_of hr) (vx_var 3) (vx_int (m := .N))))) va_nil))) (vqs_cons (vq_app (va_cons (vx_ix (hu_of hr) (vx_var 3) (vx_int (m := .N))) va_nil)) (vqs_one (vq_new (va_cons (VX.any (vx_lf (vx_ix (hu_of hr) (vx_var 3) (vx_int (m := .N))))) va_nil))))))) (vk_end (vss_one (vs_retF (vx_varF 1))))) sc_Shelf_kinds.nd)
theorem sc_Shelf_names : FnScope ["self", "row"] ["self"] (defScope s_Shelf_names) := ⟨rfl, rfl, rfl, by decide +kernel, rfl, by decide +kernel, by decide +kernel⟩
theorem ok_Shelf_names {P : Program} {w : World} {K : PySem.W.Frag} {mg : Str → Option Value} {base : Heap} {f : Addr} {fd : FuncData} {C : Addr} (T : Txt K mg w) (F : Fun K "names" "Shelf.names" s_Shelf_names f fd) (ca : ClsAt K "Shelf" C) (cl : Cls K C) (me : Meth K C "names" f) (hb : Binds K fd ["self"] [])  : CalM P w K mg base 1 "Shelf" "names" q_Shelf_names := by
  refine ⟨⟨C, f, fd, _, ca, cl, me, fn_ok (N := ["self", "row"]) (F := d_Shelf_names) F sc_Shelf_names fun cdv A outer s H E S0 hr => ?_, hb⟩⟩
  exact (vss_one (vs_retF (vx_lc (own := [("row", 1)]) (m := .F) (by intro z; cases z) rfl sc_Shelf_names.nd (vi_list (vx_fldE (i := 0) T.cls_Shelf T.nf_Shelf_rows)) (blkOk_by (own := [("row", 1)]) (N := ["self", "row"]) (sc := defScope s_Shelf_names) (by decide +kernel)) (fun _ => (vg_name sc_Shelf_names.nd)) (fun _ => vts_nil) (fun _ => (VX.any (vx_lf (vx_ix (hu_of hr) (vx_var 1) (vx_int (m := .N)))))))))
theorem sc_Shelf_put : FnScope ["self", "name", "sizes", "places", "block", "stone", "form", "found", "row"] ["self", "name", "sizes", "places"] (defScope s_Shelf_put) := ⟨rfl, rfl, rfl, by decide +kernel, rfl, by decide +kernel, by decide +kernel⟩
theorem ok_Shelf_put {P : Program} {w : World} {K : PySem.W.Frag} {mg : Str → Option Value} {base : Heap} {f : Addr} {fd : FuncData} {C : Addr} (T : Txt K mg w) (F : Fun K "put" "Shelf.put" s_Shelf_put f fd) (ca : ClsAt K "Shelf" C) (cl : Cls K C) (me : Meth K C "put" f) (hb : Binds K fd ["self", "name", "sizes", "places"] []) (c_Shelf_names : CalM P w K mg base 1 "Shelf" "names" q_Shelf_names) (c_checked_block : Cal P w K mg base 1 "checked_block" q_checked_block) (c_checked_name : Cal P w K mg base 1 "checked_name" q_checked_name) (c_checked_stone : Cal P w K mg base 2 "checked_stone" q_checked_stone) (c_least_form : Cal P w K mg base 3 "least_form" q_least_form) : CalMO P w K mg base 4 "Shelf" "put" q_Shelf_put := by
  refine ⟨⟨C, f, fd, _, ca, cl, me, fn_okO (N := ["self", "name", "sizes", "places", "block", "stone", "form", "found", "row"]) (F := d_Shelf_put) F sc_Shelf_put fun cdv A outer s H E S0 H0 hr => ?_, hb⟩⟩
  exact (vss_cons (vs_drop (vx_call c_checked_name (L2N.takes_of rfl rfl rfl rfl) hr (by decide) (va_cons (vx_var 1) va_nil))) (vss_cons (vs_if (vt_cmp (op_inA (hu65 hr)) og_in (vx_var 1) (vx_meth0 c_Shelf_names (L2N.takes_of rfl rfl rfl rfl) hr (by decide) (vx_var 0))) (vss_one (vs_raise T.x_Taken (L2N.takes_of rfl rfl rfl rfl))) vss_nil) (vss_cons (vs_fr (i := 4) sc_Shelf_put.nd (VX.any (vx_call c_checked_block (L2N.takes_of rfl rfl rfl rfl) hr (by decide) (va_cons (vx_var 2) va_nil)))) (vss_cons (vs_fr (i := 5) sc_Shelf_put.nd (VX.any (vx_call c_checked_stone (L2N.takes_of rfl rfl rfl rfl) hr (by decide) (va_cons (vx_var 4) (va_cons (vx_var 3) va_nil))))) (vss_cons (vs_fr (i := 6) sc_Shelf_put.nd (VX.any (vx_call c_least_form (L2N.takes_of rfl rfl rfl rfl) hr (by decide) (va_cons (vx_var 4) (va_cons (vx_var 5) va_nil))))) (vss_cons (vs_lcFrA (i := 7) (own := [("row", 8)]) rfl sc_Shelf_put.nd (sw_true rfl rfl rfl (by decide +kernel)) (fun _ => (vi_list (vx_fldE (i := 0) T.cls_Shelf T.nf_Shelf_rows))) (blkOk_by (own := [("row", 8)]) (N := ["self", "name", "sizes", "places", "block", "stone", "form", "found", "row"]) (sc := defScope s_Shelf_put) (by decide +kernel)) (fun _ _ => (vg_name sc_Shelf_put.nd)) (fun _ _ => (vts_one (vt_cmp (op_eqA hr.units) og_eq (vx_ix (hu_of hr) (vx_var 8) (vx_int (m := .N))) (vx_var 6)))) (fun _ _ => (VX.any (vx_lf (vx_ix (hu_of hr) (vx_var 8) (vx_int (m := .N))))))) (vss_cons (vs_fbm (i := 0) T.cls_Shelf T.nf_Shelf_rows PySem.F.slot_list_append PySem.F.type_list_append mt_append mg_app (va_cons (vx_tup (m := .F) (by intro z; cases z) (va_cons (VX.any (vx_lf (vx_var 1))) (va_cons (vx_varF 4) (va_cons (vx_varF 5) (va_cons (vx_varF 6) va_nil))))) va_nil)) (vss_one (vs_retS (vx_varF 7))))))))))
theorem sc_Shelf_row_of : FnScope ["self", "name", "row"] ["self", "name"] (defScope s_Shelf_row_of) := ⟨rfl, rfl, rfl, by decide +kernel, rfl, by decide +kernel, by decide +kernel⟩
theorem ok_Shelf_row_of {P : Program} {w : World} {K : PySem.W.Frag} {mg : Str → Option Value} {base : Heap} {f : Addr} {fd : FuncData} {C : Addr} (T : Txt K mg w) (F : Fun K "row_of" "Shelf.row_of" s_Shelf_row_of f fd) (ca : ClsAt K "Shelf" C) (cl : Cls K C) (me : Meth K C "row_of" f) (hb : Binds K fd ["self", "name"] [])  : CalME P w K mg base 1 "Shelf" "row_of" q_Shelf_row_of := by
  refine ⟨⟨C, f, fd, _, ca, cl, me, fn_okE (N := ["self", "name", "row"]) (F := d_Shelf_row_of) F sc_Shelf_row_of fun cdv A outer s H E S0 hr => ?_, hb⟩⟩
  exact (vss_cons (vs_for (passes_of rfl) rfl (vi_list (vx_fldE (i := 0) T.cls_Shelf T.nf_Shelf_rows)) (vg_name sc_Shelf_row_of.nd) (vss_wipe (ks := [2]) (vss_one (vs_if (vt_cmp (op_eqA hr.units) og_eq (vx_ix (hu_of hr) (vx_var 2) (vx_int (m := .N))) (vx_var 1)) (vss_one (vs_retE (vx_varE 2))) vss_nil)))) (vss_one (vs_raise T.x_Unknown (L2N.takes_of rfl rfl rfl rfl))))
theorem sc_Shelf_take : FnScope ["self", "name"] ["self", "name"] (defScope s_Shelf_take) := ⟨rfl, rfl, rfl, by decide +kernel, rfl, by decide +kernel, by decide +kernel⟩
theorem ok_Shelf_take {P : Program} {w : World} {K : PySem.W.Frag} {mg : Str → Option Value} {base : Heap} {f : Addr} {fd : FuncData} {C : Addr} (T : Txt K mg w) (F : Fun K "take" "Shelf.take" s_Shelf_take f fd) (ca : ClsAt K "Shelf" C) (cl : Cls K C) (me : Meth K C "take" f) (hb : Binds K fd ["self", "name"] []) (c_Shelf_row_of : CalME P w K mg base 1 "Shelf" "row_of" q_Shelf_row_of) : CalMO P w K mg base 2 "Shelf" "take" q_Shelf_take := by
  refine ⟨⟨C, f, fd, _, ca, cl, me, fn_okO (N := ["self", "name"]) (F := d_Shelf_take) F sc_Shelf_take fun cdv A outer s H E S0 H0 hr => ?_, hb⟩⟩
  exact (vss_one (vs_remF (hu65 hr) (i := 0) T.cls_Shelf T.nf_Shelf_rows (fun _ => (vx_methE c_Shelf_row_of (L2N.takes_of rfl rfl rfl rfl) hr (by decide) (vx_varE 0) (va_cons (vx_varE 1) va_nil)))))
theorem sc_law : FnScope ["_law_script", "_law_shelf", "_law_rows", "_law_number", "_law_sizes", "_law_stone", "_law_form", "_law_name_here", "_law_due", "_law_row", "_law_gone"] ["_law_script"] (defScope s_law) := ⟨rfl, rfl, rfl, by decide +kernel, rfl, by decide +kernel, by decide +kernel⟩
theorem okf_law {P : Program} {w : World} {K : PySem.W.Frag} {mg : Str → Option Value} {base : Heap} {f : Addr} {fd : FuncData} (T : Txt K mg w) (F : Fun K "law" "law" s_law f fd) (c_Shelf___init__ : CalMk P w K mg base 1 "Shelf" q_Shelf___init__) (c_Shelf_kinds : CalM P w K mg base 1 "Shelf" "kinds" q_Shelf_kinds) (c_Shelf_names : CalM P w K mg base 1 "Shelf" "names" q_Shelf_names) (c_Shelf_put : CalMO P w K mg base 4 "Shelf" "put" q_Shelf_put) (c_Shelf_take : CalMO P w K mg base 2 "Shelf" "take" q_Shelf_take) (c_L_alike : Cal P w K mg base 6 "_law_alike" (q_L_alike 6)) (c_L_kinds : Cal P w K mg base 1 "_law_kinds" q_L_kinds) (c_L_least : Cal P w K mg base 3 "_law_least" q_L_least) (c_L_name : Cal P w K mg base 2 "_law_name" q_L_name) (c_L_one : Cal P w K mg base 2 "_law_one" q_L_one) (c_L_pebble : Cal P w K mg base 2 "_law_pebble" q_L_pebble) : FnOk P w K mg base (L2N.CX P w) 7 f fd ["_law_script"] (spN mg K q_law) := by
  refine fn_ok (N := ["_law_script", "_law_shelf", "_law_rows", "_law_number", "_law_sizes", "_law_stone", "_law_form", "_law_name_here", "_law_due", "_law_row", "_law_gone"]) (F := d_law) F sc_law fun cdv A outer s H E S0 hr => ?_
  exact (vss_mk0 (j := 1) c_Shelf___init__ (L2N.takes_of rfl rfl rfl rfl) hr (by decide) sc_law.nd (vss_cons (vs_ow (i := 2) sc_law.nd (vx_lst (m := .N) (by intro z; cases z) va_nil)) (vss_cons (vs_for (passes_of rfl) rfl (vi_range1 T.m_range (va_cons (vx_add (vx_int (m := .N)) (vx_call c_L_one (L2N.takes_of rfl rfl rfl rfl) hr (by decide) (va_cons (vx_var 0) (va_cons vx_int (va_cons vx_int va_nil))))) va_nil)) (vg_name sc_law.nd) (vss_wipe (ks := [3, 4, 5, 6, 7, 8, 10]) (vss_cons (vs_unp (VX.any (vx_call c_L_pebble (L2N.takes_of rfl rfl rfl rfl) hr (by decide) (va_cons (vx_var 0) (va_cons (vx_add (vx_int (m := .N)) (vx_var 3)) va_nil)))) (vg_tup rfl (vgs_cons (vg_name sc_law.nd) (vgs_cons (vg_name sc_law.nd) vgs_nil)))) (vss_cons (vs_fr (i := 6) sc_law.nd (VX.any (vx_call c_L_least (L2N.takes_of rfl rfl rfl rfl) hr (by decide) (va_cons (vx_var 4) (va_cons (vx_var 5) va_nil))))) (vss_cons (vs_fr (i := 7) sc_law.nd (VX.any (vx_call c_L_name (L2N.takes_of rfl rfl rfl rfl) hr (by decide) (va_cons (vx_var 3) va_nil)))) (vss_cons (vs_lcFrA (i := 8) (own := [("_law_row", 9)]) rfl sc_law.nd (sw_true rfl rfl rfl (by decide +kernel)) (fun _ => (vi_list (vx_varE 2))) (blkOk_by (own := [("_law_row", 9)]) (N := ["_law_script", "_law_shelf", "_law_rows", "_law_number", "_law_sizes", "_law_stone", "_law_form", "_law_name_here", "_law_due", "_law_row", "_law_gone"]) (sc := defScope s_law) (by decide +kernel)) (fun _ _ => (vg_name sc_law.nd)) (fun _ _ => (vts_one (vt_cmp (op_eqA hr.units) og_eq (vx_ix (hu_of hr) (vx_var 9) (vx_int (m := .N))) (vx_var 6)))) (fun _ _ => (VX.any (vx_lf (vx_ix (hu_of hr) (vx_var 9) (vx_int (m := .N))))))) (vss_cons (vs_ifM (vtm_not (vtm_tru (vxm_callA c_L_alike (L2N.takes_of rfl rfl rfl rfl) hr (by decide) (vxm_meth (i := 1) c_Shelf_put (L2N.takes_of rfl rfl rfl rfl) hr (by decide) (va_cons (vx_varE 7) (va_cons (vx_varE 4) (va_cons (VX.any (vx_callTy call_list_of cg_list T.m_list (by decide +kernel) (va_cons (vx_var 5) va_nil))) va_nil)))) (va_cons (vx_var 8) va_nil)))) (vss_one (vs_retF vx_bl)) vss_nil) (vss_cons (vs_bm 2 PySem.F.slot_list_append PySem.F.type_list_append mt_append mg_app (va_cons (vx_tup (m := .F) (by intro z; cases z) (va_cons (vx_varF 7) (va_cons (vx_varF 6) va_nil))) va_nil)) (vss_one (vs_if (vt_cmp (op_eqA hr.units) og_eq (vx_mod (m := .N) (vx_var 3) (vx_int (m := .N))) (vx_int (m := .N))) (vss_cons (vs_popX 10 2 (vx_mod (m := .N) (vx_call c_L_one (L2N.takes_of rfl rfl rfl rfl) hr (by decide) (va_cons (vx_var 0) (va_cons (vx_add (vx_int (m := .N)) (vx_var 3)) (va_cons vx_int va_nil)))) (vx_callB (m := .N) call_len cg_len T.m_len (by decide +kernel) (va_cons (vx_var 2) va_nil))) sc_law.nd) (vss_one (vs_exO (vxm_meth (i := 1) c_Shelf_take (L2N.takes_of rfl rfl rfl rfl) hr (by decide) (va_cons (vx_ix (hu_of hr) (vx_var 10) (vx_int (m := .N))) va_nil))))) vss_nil)))))))))) (vss_cons (vs_share (i := 2) (vs_if (vt_not (vt_tru (vx_call c_L_alike (L2N.takes_of rfl rfl rfl rfl) hr (by decide) (va_cons (VX.toO (vx_meth0 c_Shelf_names (L2N.takes_of rfl rfl rfl rfl) hr (by decide) (vx_var 1))) (va_cons (VX.toO (vx_lc (own := [("_law_row", 9)]) (m := .N) (by intro z; cases z) rfl sc_law.nd (vi_list (vx_varE 2)) (blkOk_by (own := [("_law_row", 9)]) (N := ["_law_script", "_law_shelf", "_law_rows", "_law_number", "_law_sizes", "_law_stone", "_law_form", "_law_name_here", "_law_due", "_law_row", "_law_gone"]) (sc := defScope s_law) (by decide +kernel)) (fun _ => (vg_name sc_law.nd)) (fun _ => vts_nil) (fun _ => (vx_lf (vx_ix (hu_of hr) (vx_var 9) (vx_int (m := .N))))))) va_nil))))) (vss_one (vs_retF vx_bl)) vss_nil)) (vss_one (vs_retF (VX.any (vx_call c_L_alike (L2N.takes_of rfl rfl rfl rfl) hr (by decide) (va_cons (VX.toO (vx_meth0 c_Shelf_kinds (L2N.takes_of rfl rfl rfl rfl) hr (by decide) (vx_var 1))) (va_cons (VX.toO (vx_call c_L_kinds (L2N.takes_of rfl rfl rfl rfl) hr (by decide) (va_cons (vx_var 2) va_nil))) va_nil))))))))))
/-! ### what the top has written; the law's end -/
theorem all_mk {P : Program} {w : World} {K : PySem.W.Frag} {h : Heap} {mg : Str → Option Value} {fa f0 f1 f2 f3 f4 f5 f6 f7 f8 f9 f10 f11 f12 f13 f14 f15 f16 f17 f18 f19 f20 f21 f22 f23 f24 f25 f26 f27 f28 f29 : Addr} {od0 an0 od1 an1 od2 an2 od3 an3 od4 an4 od5 an5 od6 an6 od7 an7 od8 an8 od9 an9 od10 an10 od11 an11 od12 an12 od13 an13 od14 an14 od15 an15 od16 an16 od17 an17 od18 an18 od19 an19 od20 an20 od21 an21 od22 an22 od23 an23 od24 an24 od25 an25 od26 an26 od27 an27 od28 an28 od29 an29 : Option Addr} {sl0 sl1 sl2 sl3 sl4 sl5 sl6 sl7 sl8 sl9 sl10 sl11 sl12 sl13 sl14 sl15 sl16 sl17 sl18 sl19 sl20 sl21 sl22 sl23 sl24 sl25 sl26 sl27 sl28 sl29 : Array (Option Value)} {oc0 kV0 dc0 pm0 cd0 ct0 oc1 kV1 dc1 pm1 cd1 ct1 oc2 kV2 dc2 pm2 cd2 ct2 oc3 kV3 dc3 pm3 cd3 ct3 oc4 kV4 dc4 pm4 cd4 ct4 oc5 kV5 dc5 pm5 cd5 ct5 oc6 kV6 dc6 pm6 cd6 ct6 oc7 kV7 dc7 pm7 cd7 ct7 oc8 kV8 dc8 pm8 cd8 ct8 oc9 kV9 dc9 pm9 cd9 ct9 oc10 kV10 dc10 pm10 cd10 ct10 oc11 kV11 dc11 pm11 cd11 ct11 oc12 kV12 dc12 pm12 cd12 ct12 oc13 kV13 dc13 pm13 cd13 ct13 oc14 kV14 dc14 pm14 cd14 ct14 oc15 kV15 dc15 pm15 cd15 ct15 oc16 kV16 dc16 pm16 cd16 ct16 oc17 kV17 dc17 pm17 cd17 ct17 oc18 kV18 dc18 pm18 cd18 ct18 oc19 kV19 dc19 pm19 cd19 ct19 oc20 kV20 dc20 pm20 cd20 ct20 oc21 kV21 dc21 pm21 cd21 ct21 oc22 kV22 dc22 pm22 cd22 ct22 oc23 kV23 dc23 pm23 cd23 ct23 oc24 kV24 dc24 pm24 cd24 ct24 oc25 kV25 dc25 pm25 cd25 ct25 oc26 kV26 dc26 pm26 cd26 ct26 oc27 kV27 dc27 pm27 cd27 ct27 oc28 kV28 dc28 pm28 cd28 ct28 oc29 kV29 dc29 pm29 cd29 ct29 : Value} {yt0 yt1 yt2 : Tok} {C0 C1 C2 C3 C4 : Addr} {CC_Shelf : Addr} {gk3_0 : Addr} {gd3_0 : Option Addr} {gt3_0_0 gt3_0_1 gt3_0_2 : Tok} {gn3_0 : Nat} {gs3_0 : Array (Option Value)} {gk3_1 : Addr} {gd3_1 : Option Addr} {gt3_1_0 gt3_1_1 gt3_1_2 : Tok} {gn3_1 : Nat} {gs3_1 : Array (Option Value)} {gk3_2 : Addr} {gd3_2 : Option Addr} {gt3_2_0 gt3_2_1 gt3_2_2 : Tok} {gn3_2 : Nat} {gs3_2 : Array (Option Value)} {gk3_3 : Addr} {gd3_3 : Option Addr} {gt3_3_0 gt3_3_1 gt3_3_2 : Tok} {gn3_3 : Nat} {gs3_3 : Array (Option Value)} {gk3_4 : Addr} {gd3_4 : Option Addr} {gt3_4_0 gt3_4_1 gt3_4_2 : Tok} {gn3_4 : Nat} {gs3_4 : Array (Option Value)} {gk3_5 : Addr} {gd3_5 : Option Addr} {gt3_5_0 gt3_5_1 gt3_5_2 : Tok} {gn3_5 : Nat} {gs3_5 : Array (Option Value)} {gk3 : Addr} {gd3 : Option Addr} {gn3 : Nat} {gs3 : Array (Option Value)} (X : K.In h) (G : h.Ns mainGlobals mg) (hfa : mg "law" = some (.ref fa)) (math : ∀ ns : List Int, ns.length ≤ 63 → q_law [.fz (ns.map .int)] = .ok (.bl true))
    (a0 : PySem.W.nsIn K mainGlobals "_wall" = some (some (.ref f0))) (l0 : K.lookup f0 = some ⟨oc0, od0, .func (PySem.W.fnOf "_wall" "_wall" (defArgs s_wall) (defBody s_wall) (defScope s_wall) .none kV0 dc0 pm0 an0 cd0 ct0), sl0⟩) (c0 : PySem.W.codeIn K cd0 "_wall" = true) (k0 : PySem.W.keepIn K (.ref f0) = true)
    (a1 : PySem.W.nsIn K mainGlobals "checked_block" = some (some (.ref f1))) (l1 : K.lookup f1 = some ⟨oc1, od1, .func (PySem.W.fnOf "checked_block" "checked_block" (defArgs s_checked_block) (defBody s_checked_block) (defScope s_checked_block) .none kV1 dc1 pm1 an1 cd1 ct1), sl1⟩) (c1 : PySem.W.codeIn K cd1 "checked_block" = true) (k1 : PySem.W.keepIn K (.ref f1) = true)
    (a2 : PySem.W.nsIn K mainGlobals "inside" = some (some (.ref f2))) (l2 : K.lookup f2 = some ⟨oc2, od2, .func (PySem.W.fnOf "inside" "inside" (defArgs s_inside) (defBody s_inside) (defScope s_inside) .none kV2 dc2 pm2 an2 cd2 ct2), sl2⟩) (c2 : PySem.W.codeIn K cd2 "inside" = true) (k2 : PySem.W.keepIn K (.ref f2) = true)
    (a3 : PySem.W.nsIn K mainGlobals "checked_stone" = some (some (.ref f3))) (l3 : K.lookup f3 = some ⟨oc3, od3, .func (PySem.W.fnOf "checked_stone" "checked_stone" (defArgs s_checked_stone) (defBody s_checked_stone) (defScope s_checked_stone) .none kV3 dc3 pm3 an3 cd3 ct3), sl3⟩) (c3 : PySem.W.codeIn K cd3 "checked_stone" = true) (k3 : PySem.W.keepIn K (.ref f3) = true)
    (a4 : PySem.W.nsIn K mainGlobals "all_moves" = some (some (.ref f4))) (l4 : K.lookup f4 = some ⟨oc4, od4, .func (PySem.W.fnOf "all_moves" "all_moves" (defArgs s_all_moves) (defBody s_all_moves) (defScope s_all_moves) .none kV4 dc4 pm4 an4 cd4 ct4), sl4⟩) (c4 : PySem.W.codeIn K cd4 "all_moves" = true) (k4 : PySem.W.keepIn K (.ref f4) = true)
    (a5 : PySem.W.nsIn K mainGlobals "moved_block" = some (some (.ref f5))) (l5 : K.lookup f5 = some ⟨oc5, od5, .func (PySem.W.fnOf "moved_block" "moved_block" (defArgs s_moved_block) (defBody s_moved_block) (defScope s_moved_block) .none kV5 dc5 pm5 an5 cd5 ct5), sl5⟩) (c5 : PySem.W.codeIn K cd5 "moved_block" = true) (k5 : PySem.W.keepIn K (.ref f5) = true)
    (a6 : PySem.W.nsIn K mainGlobals "moved_place" = some (some (.ref f6))) (l6 : K.lookup f6 = some ⟨oc6, od6, .func (PySem.W.fnOf "moved_place" "moved_place" (defArgs s_moved_place) (defBody s_moved_place) (defScope s_moved_place) .none kV6 dc6 pm6 an6 cd6 ct6), sl6⟩) (c6 : PySem.W.codeIn K cd6 "moved_place" = true) (k6 : PySem.W.keepIn K (.ref f6) = true)
    (a7 : PySem.W.nsIn K mainGlobals "moved_stone" = some (some (.ref f7))) (l7 : K.lookup f7 = some ⟨oc7, od7, .func (PySem.W.fnOf "moved_stone" "moved_stone" (defArgs s_moved_stone) (defBody s_moved_stone) (defScope s_moved_stone) .none kV7 dc7 pm7 an7 cd7 ct7), sl7⟩) (c7 : PySem.W.codeIn K cd7 "moved_stone" = true) (k7 : PySem.W.keepIn K (.ref f7) = true)
    (a8 : PySem.W.nsIn K mainGlobals "least_form" = some (some (.ref f8))) (l8 : K.lookup f8 = some ⟨oc8, od8, .func (PySem.W.fnOf "least_form" "least_form" (defArgs s_least_form) (defBody s_least_form) (defScope s_least_form) .none kV8 dc8 pm8 an8 cd8 ct8), sl8⟩) (c8 : PySem.W.codeIn K cd8 "least_form" = true) (k8 : PySem.W.keepIn K (.ref f8) = true)
    (a9 : PySem.W.nsIn K mainGlobals "checked_name" = some (some (.ref f9))) (l9 : K.lookup f9 = some ⟨oc9, od9, .func (PySem.W.fnOf "checked_name" "checked_name" (defArgs s_checked_name) (defBody s_checked_name) (defScope s_checked_name) .none kV9 dc9 pm9 an9 cd9 ct9), sl9⟩) (c9 : PySem.W.codeIn K cd9 "checked_name" = true) (k9 : PySem.W.keepIn K (.ref f9) = true)
    (a10 : PySem.W.nsIn K mainGlobals "_law_alike" = some (some (.ref f10))) (l10 : K.lookup f10 = some ⟨oc10, od10, .func (PySem.W.fnOf "_law_alike" "_law_alike" (defArgs s_L_alike) (defBody s_L_alike) (defScope s_L_alike) .none kV10 dc10 pm10 an10 cd10 ct10), sl10⟩) (c10 : PySem.W.codeIn K cd10 "_law_alike" = true) (k10 : PySem.W.keepIn K (.ref f10) = true)
    (a11 : PySem.W.nsIn K mainGlobals "_law_digits" = some (some (.ref f11))) (l11 : K.lookup f11 = some ⟨oc11, od11, .func (PySem.W.fnOf "_law_digits" "_law_digits" (defArgs s_L_digits) (defBody s_L_digits) (defScope s_L_digits) .none kV11 dc11 pm11 an11 cd11 ct11), sl11⟩) (c11 : PySem.W.codeIn K cd11 "_law_digits" = true) (k11 : PySem.W.keepIn K (.ref f11) = true)
    (a12 : PySem.W.nsIn K mainGlobals "_law_one" = some (some (.ref f12))) (l12 : K.lookup f12 = some ⟨oc12, od12, .func (PySem.W.fnOf "_law_one" "_law_one" (defArgs s_L_one) (defBody s_L_one) (defScope s_L_one) .none kV12 dc12 pm12 an12 cd12 ct12), sl12⟩) (c12 : PySem.W.codeIn K cd12 "_law_one" = true) (k12 : PySem.W.keepIn K (.ref f12) = true)
    (a13 : PySem.W.nsIn K mainGlobals "_law_all" = some (some (.ref f13))) (l13 : K.lookup f13 = some ⟨oc13, od13, .func (PySem.W.fnOf "_law_all" "_law_all" (defArgs s_L_all) (defBody s_L_all) (defScope s_L_all) .none kV13 dc13 pm13 an13 cd13 ct13), sl13⟩) (c13 : PySem.W.codeIn K cd13 "_law_all" = true) (k13 : PySem.W.keepIn K (.ref f13) = true)
    (a14 : PySem.W.nsIn K mainGlobals "_law_letter" = some (some (.ref f14))) (l14 : K.lookup f14 = some ⟨oc14, od14, .func (PySem.W.fnOf "_law_letter" "_law_letter" (defArgs s_L_letter) (defBody s_L_letter) (defScope s_L_letter) .none kV14 dc14 pm14 an14 cd14 ct14), sl14⟩) (c14 : PySem.W.codeIn K cd14 "_law_letter" = true) (k14 : PySem.W.keepIn K (.ref f14) = true)
    (a15 : PySem.W.nsIn K mainGlobals "_law_moved" = some (some (.ref f15))) (l15 : K.lookup f15 = some ⟨oc15, od15, .func (PySem.W.fnOf "_law_moved" "_law_moved" (defArgs s_L_moved) (defBody s_L_moved) (defScope s_L_moved) .none kV15 dc15 pm15 an15 cd15 ct15), sl15⟩) (c15 : PySem.W.codeIn K cd15 "_law_moved" = true) (k15 : PySem.W.keepIn K (.ref f15) = true)
    (a16 : PySem.W.nsIn K mainGlobals "_law_moved_sizes" = some (some (.ref f16))) (l16 : K.lookup f16 = some ⟨oc16, od16, .func (PySem.W.fnOf "_law_moved_sizes" "_law_moved_sizes" (defArgs s_L_moved_sizes) (defBody s_L_moved_sizes) (defScope s_L_moved_sizes) .none kV16 dc16 pm16 an16 cd16 ct16), sl16⟩) (c16 : PySem.W.codeIn K cd16 "_law_moved_sizes" = true) (k16 : PySem.W.keepIn K (.ref f16) = true)
    (a17 : PySem.W.nsIn K mainGlobals "_law_moved_stone" = some (some (.ref f17))) (l17 : K.lookup f17 = some ⟨oc17, od17, .func (PySem.W.fnOf "_law_moved_stone" "_law_moved_stone" (defArgs s_L_moved_stone) (defBody s_L_moved_stone) (defScope s_L_moved_stone) .none kV17 dc17 pm17 an17 cd17 ct17), sl17⟩) (c17 : PySem.W.codeIn K cd17 "_law_moved_stone" = true) (k17 : PySem.W.keepIn K (.ref f17) = true)
    (a18 : PySem.W.nsIn K mainGlobals "_law_moves" = some (some (.ref f18))) (l18 : K.lookup f18 = some ⟨oc18, od18, .func (PySem.W.fnOf "_law_moves" "_law_moves" (defArgs s_L_moves) (defBody s_L_moves) (defScope s_L_moves) .none kV18 dc18 pm18 an18 cd18 ct18), sl18⟩) (c18 : PySem.W.codeIn K cd18 "_law_moves" = true) (k18 : PySem.W.keepIn K (.ref f18) = true)
    (a19 : PySem.W.nsIn K mainGlobals "_law_name" = some (some (.ref f19))) (l19 : K.lookup f19 = some ⟨oc19, od19, .func (PySem.W.fnOf "_law_name" "_law_name" (defArgs s_L_name) (defBody s_L_name) (defScope s_L_name) .none kV19 dc19 pm19 an19 cd19 ct19), sl19⟩) (c19 : PySem.W.codeIn K cd19 "_law_name" = true) (k19 : PySem.W.keepIn K (.ref f19) = true)
    (a20 : PySem.W.nsIn K mainGlobals "_law_least" = some (some (.ref f20))) (l20 : K.lookup f20 = some ⟨oc20, od20, .func (PySem.W.fnOf "_law_least" "_law_least" (defArgs s_L_least) (defBody s_L_least) (defScope s_L_least) .none kV20 dc20 pm20 an20 cd20 ct20), sl20⟩) (c20 : PySem.W.codeIn K cd20 "_law_least" = true) (k20 : PySem.W.keepIn K (.ref f20) = true)
    (a21 : PySem.W.nsIn K mainGlobals "_law_pebble" = some (some (.ref f21))) (l21 : K.lookup f21 = some ⟨oc21, od21, .func (PySem.W.fnOf "_law_pebble" "_law_pebble" (defArgs s_L_pebble) (defBody s_L_pebble) (defScope s_L_pebble) .none kV21 dc21 pm21 an21 cd21 ct21), sl21⟩) (c21 : PySem.W.codeIn K cd21 "_law_pebble" = true) (k21 : PySem.W.keepIn K (.ref f21) = true)
    (a22 : PySem.W.nsIn K mainGlobals "_law_kinds" = some (some (.ref f22))) (l22 : K.lookup f22 = some ⟨oc22, od22, .func (PySem.W.fnOf "_law_kinds" "_law_kinds" (defArgs s_L_kinds) (defBody s_L_kinds) (defScope s_L_kinds) .none kV22 dc22 pm22 an22 cd22 ct22), sl22⟩) (c22 : PySem.W.codeIn K cd22 "_law_kinds" = true) (k22 : PySem.W.keepIn K (.ref f22) = true)
    (a23 : PySem.W.findIn K (.ref CC_Shelf) "__init__" = some (some (.ref f23))) (i23 : PySem.W.isFn K (.ref f23) = true) (l23 : K.lookup f23 = some ⟨oc23, od23, .func (PySem.W.fnOf "__init__" "Shelf.__init__" (defArgs s_Shelf___init__) (defBody s_Shelf___init__) (defScope s_Shelf___init__) .none kV23 dc23 pm23 an23 cd23 ct23), sl23⟩) (c23 : PySem.W.codeIn K cd23 "Shelf.__init__" = true) (k23 : PySem.W.keepIn K (.ref f23) = true)
    (a24 : PySem.W.findIn K (.ref CC_Shelf) "kinds" = some (some (.ref f24))) (i24 : PySem.W.isFn K (.ref f24) = true) (l24 : K.lookup f24 = some ⟨oc24, od24, .func (PySem.W.fnOf "kinds" "Shelf.kinds" (defArgs s_Shelf_kinds) (defBody s_Shelf_kinds) (defScope s_Shelf_kinds) .none kV24 dc24 pm24 an24 cd24 ct24), sl24⟩) (c24 : PySem.W.codeIn K cd24 "Shelf.kinds" = true) (k24 : PySem.W.keepIn K (.ref f24) = true)
    (a25 : PySem.W.findIn K (.ref CC_Shelf) "names" = some (some (.ref f25))) (i25 : PySem.W.isFn K (.ref f25) = true) (l25 : K.lookup f25 = some ⟨oc25, od25, .func (PySem.W.fnOf "names" "Shelf.names" (defArgs s_Shelf_names) (defBody s_Shelf_names) (defScope s_Shelf_names) .none kV25 dc25 pm25 an25 cd25 ct25), sl25⟩) (c25 : PySem.W.codeIn K cd25 "Shelf.names" = true) (k25 : PySem.W.keepIn K (.ref f25) = true)
    (a26 : PySem.W.findIn K (.ref CC_Shelf) "put" = some (some (.ref f26))) (i26 : PySem.W.isFn K (.ref f26) = true) (l26 : K.lookup f26 = some ⟨oc26, od26, .func (PySem.W.fnOf "put" "Shelf.put" (defArgs s_Shelf_put) (defBody s_Shelf_put) (defScope s_Shelf_put) .none kV26 dc26 pm26 an26 cd26 ct26), sl26⟩) (c26 : PySem.W.codeIn K cd26 "Shelf.put" = true) (k26 : PySem.W.keepIn K (.ref f26) = true)
    (a27 : PySem.W.findIn K (.ref CC_Shelf) "row_of" = some (some (.ref f27))) (i27 : PySem.W.isFn K (.ref f27) = true) (l27 : K.lookup f27 = some ⟨oc27, od27, .func (PySem.W.fnOf "row_of" "Shelf.row_of" (defArgs s_Shelf_row_of) (defBody s_Shelf_row_of) (defScope s_Shelf_row_of) .none kV27 dc27 pm27 an27 cd27 ct27), sl27⟩) (c27 : PySem.W.codeIn K cd27 "Shelf.row_of" = true) (k27 : PySem.W.keepIn K (.ref f27) = true)
    (a28 : PySem.W.findIn K (.ref CC_Shelf) "take" = some (some (.ref f28))) (i28 : PySem.W.isFn K (.ref f28) = true) (l28 : K.lookup f28 = some ⟨oc28, od28, .func (PySem.W.fnOf "take" "Shelf.take" (defArgs s_Shelf_take) (defBody s_Shelf_take) (defScope s_Shelf_take) .none kV28 dc28 pm28 an28 cd28 ct28), sl28⟩) (c28 : PySem.W.codeIn K cd28 "Shelf.take" = true) (k28 : PySem.W.keepIn K (.ref f28) = true)
    (a29 : PySem.W.nsIn K mainGlobals "law" = some (some (.ref f29))) (l29 : K.lookup f29 = some ⟨oc29, od29, .func (PySem.W.fnOf "law" "law" (defArgs s_law) (defBody s_law) (defScope s_law) .none kV29 dc29 pm29 an29 cd29 ct29), sl29⟩) (c29 : PySem.W.codeIn K cd29 "law" = true) (k29 : PySem.W.keepIn K (.ref f29) = true)
    (z0 : PySem.W.nsIn K mainGlobals "abs" = some none) (z1 : PySem.W.nsIn K mainGlobals "all" = some none) (z2 : PySem.W.nsIn K mainGlobals "bool" = some none) (z3 : PySem.W.nsIn K mainGlobals "isinstance" = some none) (z4 : PySem.W.nsIn K mainGlobals "len" = some none) (z5 : PySem.W.nsIn K mainGlobals "list" = some none) (z6 : PySem.W.nsIn K mainGlobals "range" = some none) (z7 : PySem.W.nsIn K mainGlobals "sorted" = some none) (z8 : PySem.W.nsIn K mainGlobals "tuple" = some none) (z9 : PySem.W.nsIn K mainGlobals "zip" = some none) (y0 : PySem.W.nsIn K mainGlobals "COLOURS" = some (some (.str ("abcdefghijklmnopqrstuvwxyz" : Str) yt0))) (y1 : PySem.W.nsIn K mainGlobals "GREATEST_SIZE" = some (some (.int (6) yt1))) (y2 : PySem.W.nsIn K mainGlobals "LONGEST_NAME" = some (some (.int (12) yt2))) (y3 : PySem.W.nsIn K mainGlobals "ORDERS" = some (some (.ref gk3)))
    (hgc0 : PySem.W.nsIn K mainGlobals "BadBlock" = some (some (.ref C0)))
    (hgc1 : PySem.W.nsIn K mainGlobals "BadName" = some (some (.ref C1)))
    (hgc2 : PySem.W.nsIn K mainGlobals "BadStone" = some (some (.ref C2)))
    (hgc3 : PySem.W.nsIn K mainGlobals "Taken" = some (some (.ref C3)))
    (hgc4 : PySem.W.nsIn K mainGlobals "Unknown" = some (some (.ref C4)))
    (xe0 : PySem.W.excIn K C0 [.type "ValueError", .type "Exception", .type "BaseException", .type "object"] "ValueError.__new__" = true)
    (xk0 : PySem.W.keepIn K (.ref C0) = true)
    (xs0 : PySem.W.subIn K (.ref C0) (.type "BaseException") = some true)
    (xt0 : PySem.W.typeIn K (.ref C0) = some (.type "type"))
    (xe1 : PySem.W.excIn K C1 [.type "ValueError", .type "Exception", .type "BaseException", .type "object"] "ValueError.__new__" = true)
    (xk1 : PySem.W.keepIn K (.ref C1) = true)
    (xs1 : PySem.W.subIn K (.ref C1) (.type "BaseException") = some true)
    (xt1 : PySem.W.typeIn K (.ref C1) = some (.type "type"))
    (xe2 : PySem.W.excIn K C2 [.type "ValueError", .type "Exception", .type "BaseException", .type "object"] "ValueError.__new__" = true)
    (xk2 : PySem.W.keepIn K (.ref C2) = true)
    (xs2 : PySem.W.subIn K (.ref C2) (.type "BaseException") = some true)
    (xt2 : PySem.W.typeIn K (.ref C2) = some (.type "type"))
    (xe3 : PySem.W.excIn K C3 [.type "ValueError", .type "Exception", .type "BaseException", .type "object"] "ValueError.__new__" = true)
    (xk3 : PySem.W.keepIn K (.ref C3) = true)
    (xs3 : PySem.W.subIn K (.ref C3) (.type "BaseException") = some true)
    (xt3 : PySem.W.typeIn K (.ref C3) = some (.type "type"))
    (xe4 : PySem.W.excIn K C4 [.type "ValueError", .type "Exception", .type "BaseException", .type "object"] "ValueError.__new__" = true)
    (xk4 : PySem.W.keepIn K (.ref C4) = true)
    (xs4 : PySem.W.subIn K (.ref C4) (.type "BaseException") = some true)
    (xt4 : PySem.W.typeIn K (.ref C4) = some (.type "type"))
    (gc_Shelf : PySem.W.nsIn K mainGlobals "Shelf" = some (some (.ref CC_Shelf)))
    (pg_Shelf : PySem.W.plainGet K CC_Shelf Str.empty = true)
    (hd_Shelf : PySem.W.hasDictIn K CC_Shelf = true)
    (po_Shelf : PySem.W.plainOver K CC_Shelf = true)
    (sa_Shelf : PySem.W.findIn K (.ref CC_Shelf) "__setattr__" = some (some (.builtin "object.__setattr__")))
    (mk_Shelf : PySem.W.makesIn K CC_Shelf = true)
    (kc_Shelf : PySem.W.keepIn K (.ref CC_Shelf) = true)
    (nf_Shelf_rows : PySem.W.findIn K (.ref CC_Shelf) "rows" = some none)
    (gl3 : K.lookup gk3 = some ⟨.type "tuple", gd3, .seq #[.ref gk3_0, .ref gk3_1, .ref gk3_2, .ref gk3_3, .ref gk3_4, .ref gk3_5] gn3, gs3⟩)
    (gl3_0 : K.lookup gk3_0 = some ⟨.type "tuple", gd3_0, .seq #[.int 0 gt3_0_0, .int 1 gt3_0_1, .int 2 gt3_0_2] gn3_0, gs3_0⟩)
    (gl3_1 : K.lookup gk3_1 = some ⟨.type "tuple", gd3_1, .seq #[.int 0 gt3_1_0, .int 2 gt3_1_1, .int 1 gt3_1_2] gn3_1, gs3_1⟩)
    (gl3_2 : K.lookup gk3_2 = some ⟨.type "tuple", gd3_2, .seq #[.int 1 gt3_2_0, .int 0 gt3_2_1, .int 2 gt3_2_2] gn3_2, gs3_2⟩)
    (gl3_3 : K.lookup gk3_3 = some ⟨.type "tuple", gd3_3, .seq #[.int 1 gt3_3_0, .int 2 gt3_3_1, .int 0 gt3_3_2] gn3_3, gs3_3⟩)
    (gl3_4 : K.lookup gk3_4 = some ⟨.type "tuple", gd3_4, .seq #[.int 2 gt3_4_0, .int 0 gt3_4_1, .int 1 gt3_4_2] gn3_4, gs3_4⟩)
    (gl3_5 : K.lookup gk3_5 = some ⟨.type "tuple", gd3_5, .seq #[.int 2 gt3_5_0, .int 1 gt3_5_1, .int 0 gt3_5_2] gn3_5, gs3_5⟩) :
    ∃ fd : FuncData, (∀ (s : Shared) (v : Value), BindsTo s fd ⟨[v], []⟩ [("_law_script", v)]) ∧ ∀ base : Heap, K.In base → base.Ns mainGlobals mg → FnOk P w K mg base (L2N.CX P w) 7 fa fd ["_law_script"] (spLaw K) := by
  have e := hfa.symm.trans (PySem.W.mg_of X G a29)
  cases e
  have T : Txt K mg w := ⟨trivial, PySem.W.mg_none_of X G z0, PySem.W.mg_none_of X G z1, PySem.W.mg_none_of X G z2, PySem.W.mg_none_of X G z3, PySem.W.mg_none_of X G z4, PySem.W.mg_none_of X G z5, PySem.W.mg_none_of X G z6, PySem.W.mg_none_of X G z7, PySem.W.mg_none_of X G z8, PySem.W.mg_none_of X G z9, ⟨_, PySem.W.mg_of X G y0⟩, ⟨_, PySem.W.mg_of X G y1⟩, ⟨_, PySem.W.mg_of X G y2⟩, ⟨_, PySem.W.mg_of X G y3, kt6 gl3 (ktI3 gl3_0) (ktI3 gl3_1) (ktI3 gl3_2) (ktI3 gl3_3) (ktI3 gl3_4) (ktI3 gl3_5)⟩, ⟨C0, PySem.W.mg_of X G hgc0, xe0, xk0, xs0, xt0⟩, ⟨C1, PySem.W.mg_of X G hgc1, xe1, xk1, xs1, xt1⟩, ⟨C2, PySem.W.mg_of X G hgc2, xe2, xk2, xs2, xt2⟩, ⟨C3, PySem.W.mg_of X G hgc3, xe3, xk3, xs3, xt3⟩, ⟨C4, PySem.W.mg_of X G hgc4, xe4, xk4, xs4, xt4⟩, ⟨CC_Shelf, gc_Shelf, ⟨pg_Shelf, hd_Shelf, po_Shelf, sa_Shelf⟩⟩, noF_mk gc_Shelf nf_Shelf_rows⟩
  have F0 := fun_mk (st := s_wall) l0 c0 k0
  have b0 := F0.binds (ps := ["k"]) fun _ _ _ _ _ _ us hl => match us, hl with | [_], _ => rfl
  have F1 := fun_mk (st := s_checked_block) l1 c1 k1
  have b1 := F1.binds (ps := ["sizes"]) fun _ _ _ _ _ _ us hl => match us, hl with | [_], _ => rfl
  have F2 := fun_mk (st := s_inside) l2 c2 k2
  have b2 := F2.binds (ps := ["sizes", "place"]) fun _ _ _ _ _ _ us hl => match us, hl with | [_, _], _ => rfl
  have F3 := fun_mk (st := s_checked_stone) l3 c3 k3
  have b3 := F3.binds (ps := ["sizes", "rows"]) fun _ _ _ _ _ _ us hl => match us, hl with | [_, _], _ => rfl
  have F4 := fun_mk (st := s_all_moves) l4 c4 k4
  have b4 := F4.binds (ps := []) fun _ _ _ _ _ _ us hl => match us, hl with | [], _ => rfl
  have F5 := fun_mk (st := s_moved_block) l5 c5 k5
  have b5 := F5.binds (ps := ["sizes", "move"]) fun _ _ _ _ _ _ us hl => match us, hl with | [_, _], _ => rfl
  have F6 := fun_mk (st := s_moved_place) l6 c6 k6
  have b6 := F6.binds (ps := ["sizes", "move", "place"]) fun _ _ _ _ _ _ us hl => match us, hl with | [_, _, _], _ => rfl
  have F7 := fun_mk (st := s_moved_stone) l7 c7 k7
  have b7 := F7.binds (ps := ["sizes", "move", "stone"]) fun _ _ _ _ _ _ us hl => match us, hl with | [_, _, _], _ => rfl
  have F8 := fun_mk (st := s_least_form) l8 c8 k8
  have b8 := F8.binds (ps := ["sizes", "stone"]) fun _ _ _ _ _ _ us hl => match us, hl with | [_, _], _ => rfl
  have F9 := fun_mk (st := s_checked_name) l9 c9 k9
  have b9 := F9.binds (ps := ["name"]) fun _ _ _ _ _ _ us hl => match us, hl with | [_], _ => rfl
  have F10 := fun_mk (st := s_L_alike) l10 c10 k10
  have b10 := F10.binds (ps := ["_law_found", "_law_due"]) fun _ _ _ _ _ _ us hl => match us, hl with | [_, _], _ => rfl
  have F11 := fun_mk (st := s_L_digits) l11 c11 k11
  have b11 := F11.binds (ps := ["_law_script", "_law_k", "_law_base", "_law_many"]) fun _ _ _ _ _ _ us hl => match us, hl with | [_, _, _, _], _ => rfl
  have F12 := fun_mk (st := s_L_one) l12 c12 k12
  have b12 := F12.binds (ps := ["_law_script", "_law_k", "_law_base"]) fun _ _ _ _ _ _ us hl => match us, hl with | [_, _, _], _ => rfl
  have F13 := fun_mk (st := s_L_all) l13 c13 k13
  have b13 := F13.binds (ps := ["_law_sizes"]) fun _ _ _ _ _ _ us hl => match us, hl with | [_], _ => rfl
  have F14 := fun_mk (st := s_L_letter) l14 c14 k14
  have b14 := F14.binds (ps := ["_law_number"]) fun _ _ _ _ _ _ us hl => match us, hl with | [_], _ => rfl
  have F15 := fun_mk (st := s_L_moved) l15 c15 k15
  have b15 := F15.binds (ps := ["_law_sizes", "_law_move", "_law_place"]) fun _ _ _ _ _ _ us hl => match us, hl with | [_, _, _], _ => rfl
  have F16 := fun_mk (st := s_L_moved_sizes) l16 c16 k16
  have b16 := F16.binds (ps := ["_law_sizes", "_law_move"]) fun _ _ _ _ _ _ us hl => match us, hl with | [_, _], _ => rfl
  have F17 := fun_mk (st := s_L_moved_stone) l17 c17 k17
  have b17 := F17.binds (ps := ["_law_sizes", "_law_move", "_law_stone"]) fun _ _ _ _ _ _ us hl => match us, hl with | [_, _, _], _ => rfl
  have F18 := fun_mk (st := s_L_moves) l18 c18 k18
  have b18 := F18.binds (ps := []) fun _ _ _ _ _ _ us hl => match us, hl with | [], _ => rfl
  have F19 := fun_mk (st := s_L_name) l19 c19 k19
  have b19 := F19.binds (ps := ["_law_number"]) fun _ _ _ _ _ _ us hl => match us, hl with | [_], _ => rfl
  have F20 := fun_mk (st := s_L_least) l20 c20 k20
  have b20 := F20.binds (ps := ["_law_sizes", "_law_stone"]) fun _ _ _ _ _ _ us hl => match us, hl with | [_, _], _ => rfl
  have F21 := fun_mk (st := s_L_pebble) l21 c21 k21
  have b21 := F21.binds (ps := ["_law_script", "_law_k"]) fun _ _ _ _ _ _ us hl => match us, hl with | [_, _], _ => rfl
  have F22 := fun_mk (st := s_L_kinds) l22 c22 k22
  have b22 := F22.binds (ps := ["_law_rows"]) fun _ _ _ _ _ _ us hl => match us, hl with | [_], _ => rfl
  have F23 := fun_mk (st := s_Shelf___init__) l23 c23 k23
  have b23 := F23.binds (ps := ["self"]) fun _ _ _ _ _ _ us hl => match us, hl with | [_], _ => rfl
  have F24 := fun_mk (st := s_Shelf_kinds) l24 c24 k24
  have b24 := F24.binds (ps := ["self"]) fun _ _ _ _ _ _ us hl => match us, hl with | [_], _ => rfl
  have F25 := fun_mk (st := s_Shelf_names) l25 c25 k25
  have b25 := F25.binds (ps := ["self"]) fun _ _ _ _ _ _ us hl => match us, hl with | [_], _ => rfl
  have F26 := fun_mk (st := s_Shelf_put) l26 c26 k26
  have b26 := F26.binds (ps := ["self", "name", "sizes", "places"]) fun _ _ _ _ _ _ us hl => match us, hl with | [_, _, _, _], _ => rfl
  have F27 := fun_mk (st := s_Shelf_row_of) l27 c27 k27
  have b27 := F27.binds (ps := ["self", "name"]) fun _ _ _ _ _ _ us hl => match us, hl with | [_, _], _ => rfl
  have F28 := fun_mk (st := s_Shelf_take) l28 c28 k28
  have b28 := F28.binds (ps := ["self", "name"]) fun _ _ _ _ _ _ us hl => match us, hl with | [_, _], _ => rfl
  have F29 := fun_mk (st := s_law) l29 c29 k29
  refine ⟨PySem.W.fnOf "law" "law" (defArgs s_law) (defBody s_law) (defScope s_law) .none kV29 dc29 pm29 an29 cd29 ct29, fun s v => .of_eq rfl, fun base hK hN => ?_⟩
  have k_wall : Cal P w K mg base 1 "_wall" q_wall := ok_wall T F0 (PySem.W.mg_of X G a0) b0 
  have k_checked_block : Cal P w K mg base 1 "checked_block" q_checked_block := ok_checked_block T F1 (PySem.W.mg_of X G a1) b1 
  have k_inside : Cal P w K mg base 1 "inside" q_inside := ok_inside T F2 (PySem.W.mg_of X G a2) b2 
  have k_checked_stone : Cal P w K mg base 2 "checked_stone" q_checked_stone := ok_checked_stone T F3 (PySem.W.mg_of X G a3) b3 k_inside
  have k_all_moves : Cal P w K mg base 1 "all_moves" q_all_moves := ok_all_moves T F4 (PySem.W.mg_of X G a4) b4 
  have k_moved_block : Cal P w K mg base 1 "moved_block" q_moved_block := ok_moved_block T F5 (PySem.W.mg_of X G a5) b5 
  have k_moved_place : Cal P w K mg base 1 "moved_place" q_moved_place := ok_moved_place T F6 (PySem.W.mg_of X G a6) b6 
  have k_moved_stone : Cal P w K mg base 2 "moved_stone" q_moved_stone := ok_moved_stone T F7 (PySem.W.mg_of X G a7) b7 k_moved_place
  have k_least_form : Cal P w K mg base 3 "least_form" q_least_form := ok_least_form T F8 (PySem.W.mg_of X G a8) b8 k_all_moves k_moved_block k_moved_stone
  have k_checked_name : Cal P w K mg base 1 "checked_name" q_checked_name := ok_checked_name T F9 (PySem.W.mg_of X G a9) b9 
  have k_L_alike : Cal P w K mg base 6 "_law_alike" (q_L_alike 6) := ok_L_alike T F10 (PySem.W.mg_of X G a10) b10  6
  have k_L_digits : Cal P w K mg base 1 "_law_digits" q_L_digits := ok_L_digits T F11 (PySem.W.mg_of X G a11) b11 
  have k_L_one : Cal P w K mg base 2 "_law_one" q_L_one := ok_L_one T F12 (PySem.W.mg_of X G a12) b12 k_L_digits
  have k_L_all : Cal P w K mg base 1 "_law_all" q_L_all := ok_L_all T F13 (PySem.W.mg_of X G a13) b13 
  have k_L_letter : Cal P w K mg base 1 "_law_letter" q_L_letter := ok_L_letter T F14 (PySem.W.mg_of X G a14) b14 
  have k_L_moved : Cal P w K mg base 1 "_law_moved" q_L_moved := ok_L_moved T F15 (PySem.W.mg_of X G a15) b15 
  have k_L_moved_sizes : Cal P w K mg base 1 "_law_moved_sizes" q_L_moved_sizes := ok_L_moved_sizes T F16 (PySem.W.mg_of X G a16) b16 
  have k_L_moved_stone : Cal P w K mg base 2 "_law_moved_stone" q_L_moved_stone := ok_L_moved_stone T F17 (PySem.W.mg_of X G a17) b17 k_L_moved
  have k_L_moves : Cal P w K mg base 1 "_law_moves" q_L_moves := ok_L_moves T F18 (PySem.W.mg_of X G a18) b18 
  have k_L_name : Cal P w K mg base 2 "_law_name" q_L_name := ok_L_name T F19 (PySem.W.mg_of X G a19) b19 k_L_letter
  have k_L_least : Cal P w K mg base 3 "_law_least" q_L_least := ok_L_least T F20 (PySem.W.mg_of X G a20) b20 k_L_moved_sizes k_L_moved_stone k_L_moves
  have k_L_pebble : Cal P w K mg base 2 "_law_pebble" q_L_pebble := ok_L_pebble T F21 (PySem.W.mg_of X G a21) b21 k_L_all k_L_digits
  have k_L_kinds : Cal P w K mg base 1 "_law_kinds" q_L_kinds := ok_L_kinds T F22 (PySem.W.mg_of X G a22) b22 
  have k_Shelf___init__ : CalMk P w K mg base 1 "Shelf" q_Shelf___init__ := ok_Shelf___init__ T F23 gc_Shelf (PySem.W.mg_of X G gc_Shelf) ⟨mk_Shelf, a23, i23, kc_Shelf⟩ b23 
  have k_Shelf_kinds : CalM P w K mg base 1 "Shelf" "kinds" q_Shelf_kinds := ok_Shelf_kinds T F24 gc_Shelf ⟨pg_Shelf, hd_Shelf, po_Shelf, sa_Shelf⟩ ⟨a24, i24, k24⟩ b24 
  have k_Shelf_names : CalM P w K mg base 1 "Shelf" "names" q_Shelf_names := ok_Shelf_names T F25 gc_Shelf ⟨pg_Shelf, hd_Shelf, po_Shelf, sa_Shelf⟩ ⟨a25, i25, k25⟩ b25 
  have k_Shelf_put : CalMO P w K mg base 4 "Shelf" "put" q_Shelf_put := ok_Shelf_put T F26 gc_Shelf ⟨pg_Shelf, hd_Shelf, po_Shelf, sa_Shelf⟩ ⟨a26, i26, k26⟩ b26 k_Shelf_names k_checked_block k_checked_name k_checked_stone k_least_form
  have k_Shelf_row_of : CalME P w K mg base 1 "Shelf" "row_of" q_Shelf_row_of := ok_Shelf_row_of T F27 gc_Shelf ⟨pg_Shelf, hd_Shelf, po_Shelf, sa_Shelf⟩ ⟨a27, i27, k27⟩ b27 
  have k_Shelf_take : CalMO P w K mg base 2 "Shelf" "take" q_Shelf_take := ok_Shelf_take T F28 gc_Shelf ⟨pg_Shelf, hd_Shelf, po_Shelf, sa_Shelf⟩ ⟨a28, i28, k28⟩ b28 k_Shelf_row_of
  exact law_imp (okf_law (P := P) (w := w) (base := base) T F29 k_Shelf___init__ k_Shelf_kinds k_Shelf_names k_Shelf_put k_Shelf_take k_L_alike k_L_kinds k_L_least k_L_name k_L_one k_L_pebble) math
end Q
set_option Elab.async false
set_option linter.all false
set_option maxRecDepth 100000
namespace Q
open PySem L2 VL PySem.Spec PyProof.Rows
/-! ### blocks let by -/
def goodB (L : List Int) : Bool := decide (L.length = 3) && !(L.any fun x => decide (x < 1) || decide (6 < x))
theorem q_block_ok (d : D) (L : List Int) (hL : L.length ≤ 1000) (hd : tupleG [d] = .ok (.tup (L.map .int))) : q_checked_block [d] = if goodB L = true then .ok (.tup (L.map .int)) else .ex (.own "BadBlock") := by
  have loop := forR_ex (tg := tgN 2) (b := b_checked_block_1) D.int (fun x => decide (x < 1) || decide (6 < x)) (.own "BadBlock") (fun x => [.sh d, .fr (.tup (L.map .int)), .sh (.int x)]) [.sh d, .fr (.tup (L.map .int)), .no] L (fun x _ => by
    rw [turn_N]
    by_cases h : x < 1
    · simp [b_checked_block_1, h]
    · by_cases h2 : 6 < x <;> simp [b_checked_block_1, h, h2])
  by_cases h3 : L.length = 3
  · have h3' : ((L.length : Int) = 3) := by omega
    have e : goodB L = !(L.any fun x => decide (x < 1) || decide (6 < x)) := by simp [goodB, h3]
    rw [e]
    generalize hp : (fun x : Int => decide (x < 1) || decide (6 < x)) = p at loop ⊢
    cases hf : L.find? p with
    | none =>
      rw [hf] at loop
      have ha : L.any p = false := by
        rw [List.any_eq_false]
        exact fun x hx => by simpa using List.find?_eq_none.mp hf x hx
      simp only at loop
      simp [q_checked_block, runF, d_checked_block, hd, h3', ha, loop, resM]
    | some y =>
      rw [hf] at loop
      have ha : L.any p = true := by
        rw [List.any_eq_true]
        exact ⟨y, List.mem_of_find?_eq_some hf, List.find?_some hf⟩
      simp only at loop
      simp [q_checked_block, runF, d_checked_block, hd, h3', ha, loop, resM]
  · have h3' : ¬ ((L.length : Int) = 3) := by omega
    have e : goodB L = false := by simp [goodB, h3]
    rw [e]
    simp [q_checked_block, runF, d_checked_block, hd, h3', resM]

/-! ### names let by -/
theorem q_name_ok (cs : List Nat) (hl : cs.length ≤ 1000) : q_checked_name [eT cs] = if goodNm cs = true then .ok (eT cs) else .ex (.own "BadName") := by
  have loop := forR_ex (tg := tgN 1) (b := b_checked_name_1) eS (fun c => !decide (c ∈ abc)) (.own "BadName") (fun c => [.sh (eT cs), .sh (eS c)]) [.sh (eT cs), .no] cs (fun c _ => by
    rw [turn_N]
    have i : inB_ (eS c) (.str (Str.ofString "abcdefghijklmnopqrstuvwxyz")) = .ok (decide (c ∈ abc)) := by
      rw [abc_eq]
      rfl
    cases h : decide (c ∈ abc) <;> rw [h] at i <;> simp [b_checked_name_1, i])
  have hlen := len_eT cs (by omega)
  have hss : eSS (eV 0) [.sh (eT cs), .no] = .ok (cs.map eS) := by
    show M.ok ((⟨cs.toArray⟩ : Str).cps.toList.map fun c => D.str ⟨#[c]⟩) = _
    rfl
  unfold goodNm
  by_cases h1 : 1 ≤ cs.length
  · by_cases h2 : cs.length ≤ 12
    · have h1' : ¬ ((cs.length : Int) < 1) := by omega
      have h2' : ¬ ((12 : Int) < cs.length) := by omega
      rw [decide_eq_true h1, decide_eq_true h2, Bool.true_and, Bool.true_and]
      generalize hp : (fun c => !decide (c ∈ abc)) = p at loop
      have hall : (cs.all fun c => decide (c ∈ abc)) = !(cs.any p) := by
        rw [← hp, List.all_eq_not_any_not]
      rw [hall]
      cases hf : cs.find? p with
      | none =>
        rw [hf] at loop
        have ha : cs.any p = false := by
          rw [List.any_eq_false]
          exact fun x hx => by simpa using List.find?_eq_none.mp hf x hx
        simp only at loop
        rw [ha]
        simp -implicitDefEqProofs [q_checked_name, runF, d_checked_name, hlen, h1', h2', hss, loop, resM]
      | some y =>
        rw [hf] at loop
        have ha : cs.any p = true := by
          rw [List.any_eq_true]
          exact ⟨y, List.mem_of_find?_eq_some hf, List.find?_some hf⟩
        simp only at loop
        rw [ha]
        simp -implicitDefEqProofs [q_checked_name, runF, d_checked_name, hlen, h1', h2', hss, loop, resM]
    · have h1' : ¬ ((cs.length : Int) < 1) := by omega
      have h2' : ((12 : Int) < cs.length) := by omega
      rw [decide_eq_false h2]
      simp -implicitDefEqProofs [q_checked_name, runF, d_checked_name, hlen, h1', h2', resM]
  · have h1' : ((cs.length : Int) < 1) := by omega
    rw [decide_eq_false h1]
    simp -implicitDefEqProofs [q_checked_name, runF, d_checked_name, hlen, h1', resM]

/-! ### inside -/
theorem q_inside_gen (s p : P3) (d : D) (i0 : idxG d (.int 0) = .ok (.int p.1)) (i1 : idxG d (.int 1) = .ok (.int p.2.1)) (i2 : idxG d (.int 2) = .ok (.int p.2.2)) : q_inside [e3 s, d] = .ok (.bl (inB s p)) := by
  have t (i : Int) (a b : Int) (ha : idxG d (.int i) = .ok (.int a)) (hb : idxG (e3 s) (.int i) = .ok (.int b)) : turn (tgN 2) b_inside_1 (.int i) [.sh (e3 s), .sh d, .no] = if (decide (0 ≤ a) && decide (a < b)) = true then .nx [.sh (e3 s), .sh d, .no] else .rt (.bl false) := by
    by_cases h1 : a < 0
    · simp [b_inside_1, ha, hb, h1, show ¬ 0 ≤ a by omega]
    · by_cases h2 : a < b
      · simp [b_inside_1, ha, hb, h1, h2, show 0 ≤ a by omega, show ¬ b ≤ a by omega]
      · simp [b_inside_1, ha, hb, h1, h2, show 0 ≤ a by omega, show b ≤ a by omega]
  have t0 := t 0 p.1 s.1 i0 (idx_e3_0 s)
  have t1 := t 1 p.2.1 s.2.1 i1 (idx_e3_1 s)
  have t2 := t 2 p.2.2 s.2.2 i2 (idx_e3_2 s)
  simp only [q_inside, runF, d_inside, List.length_cons, List.length_nil, if_pos, List.map_cons, List.map_nil, sSeq_ap, sFor_ap, eR1_ap, aCons_ap, eC_ap, aNil_ap, bind_ok]
  rw [if_pos (by decide), show (3 : Int).toNat = 3 from rfl, rngD_03]
  simp only [forR_cons, List.replicate, List.cons_append, List.nil_append]
  rw [t0]
  cases c0 : (decide (0 ≤ p.1) && decide (p.1 < s.1)) with
  | false => simp [inB, c0, resM]
  | true =>
    rw [if_pos rfl, next_nx, forR_cons, t1]
    cases c1 : (decide (0 ≤ p.2.1) && decide (p.2.1 < s.2.1)) with
    | false => simp [inB, c0, c1, resM]
    | true =>
      rw [if_pos rfl, next_nx, forR_cons, t2]
      cases c2 : (decide (0 ≤ p.2.2) && decide (p.2.2 < s.2.2)) with
      | false => simp [inB, c0, c1, c2, resM]
      | true => simp [inB, c0, c1, c2, resM]
theorem q_inside_ok (s p : P3) : q_inside [e3 s, e3 p] = .ok (.bl (inB s p)) := q_inside_gen s p _ (by simp) (by simp) (by simp)

/-! ### stones let by -/
def l3 (p : P3) : D := .lst [.int p.1, .int p.2.1, .int p.2.2]
def encR (z : Bool × P3) : D := if z.1 = true then e3 z.2 else l3 z.2
theorem tuple_encR (z : Bool × P3) : tupleG [encR z] = .ok (e3 z.2) := by
  obtain ⟨b, p⟩ := z
  cases b <;> simp [encR, l3, e3]
def badS (s : P3) : List P3 → (P3 → Bool) → Bool
  | [], _ => false
  | p :: ps, M => !inB s p || M p || badS s ps fun q => M q || decide (q = p)
theorem badS_iff (s : P3) : ∀ (ps : List P3) (M : P3 → Bool), badS s ps M = false ↔ (∀ p, p ∈ ps → inB s p = true ∧ M p = false) ∧ ps.Nodup
  | [], M => by simp [badS]
  | p :: ps, M => by
    have ih := badS_iff s ps fun q => M q || decide (q = p)
    simp only [badS, Bool.or_eq_false_iff, ih, List.nodup_cons, List.mem_cons, forall_eq_or_imp, decide_eq_false_iff_not, Bool.not_eq_false']
    constructor
    · rintro ⟨⟨h1, h2⟩, h3, h4⟩
      exact ⟨⟨⟨h1, h2⟩, fun q hq => ⟨(h3 q hq).1, (h3 q hq).2.1⟩⟩, fun hp => (h3 p hp).2.2 rfl, h4⟩
    · rintro ⟨⟨⟨h1, h2⟩, h3⟩, h4, h5⟩
      exact ⟨⟨h1, h2⟩, fun q hq => ⟨(h3 q hq).1, (h3 q hq).2, fun e => h4 (e ▸ hq)⟩, h5⟩
theorem checked_loop (s : P3) (rows : D) : ∀ (Z : List (Bool × P3)) (kvs : List (List Key × D)) (M : P3 → Bool), (∀ q, (lookT kvs (k3 q)).isSome = M q) → kvs.length + Z.length ≤ 1000000 →
    (badS s (Z.map (·.2)) M = false → forR (tgN 3) b_checked_stone_1 (Z.map encR) [.sh (e3 s), .sh rows, .ow (.dct kvs), .no, .no] = .nx [.sh (e3 s), .sh rows, .ow (.dct (markD (Z.map (·.2)) kvs)), .no, .no]) ∧
    (badS s (Z.map (·.2)) M = true → ∃ ρ', forR (tgN 3) b_checked_stone_1 (Z.map encR) [.sh (e3 s), .sh rows, .ow (.dct kvs), .no, .no] = .ex (.own "BadStone") ρ')
  | [], kvs, M, _, _ => ⟨fun _ => rfl, fun h => by simp [badS] at h⟩
  | z :: Z, kvs, M, hM, hl => by
    rw [List.length_cons] at hl
    have ht := tuple_encR z
    have hi := q_inside_ok s z.2
    have hin : inB_ (e3 z.2) (.dct kvs) = .ok (M z.2) := by
      unfold inB_
      rw [lookD_e3, ← hM]
    have hlen : lenG [e3 z.2] = .ok (.int 3) := rfl
    have h2 := putT_len kvs (k3 z.2) (.bl true)
    have ih := checked_loop s rows Z (putT kvs (k3 z.2) (.bl true)) (fun q => M q || decide (q = z.2)) (fun q => by
      rw [lookT_put]
      by_cases e : q = z.2
      · simp [e]
      · simp [k3_inj, e, hM]) (by omega)
    obtain ⟨b, p⟩ := z
    simp only [List.map_cons] at ih ht hi hin hlen h2 ⊢
    generalize encR (b, p) = d at ht ⊢
    rw [forR_cons, turn_N]
    cases c1 : inB s p with
    | false =>
      rw [c1] at hi
      refine ⟨fun h => by simp [badS, c1] at h, fun _ => ?_⟩
      generalize e3 p = dp at ht hi hin hlen
      exact ⟨[.sh (e3 s), .sh rows, .ow (.dct kvs), .sh d, .fr dp], by simp -implicitDefEqProofs [b_checked_stone_1, ht, hlen, hi]⟩
    | true =>
      rw [c1] at hi
      cases c2 : M p with
      | true =>
        rw [c2] at hin
        refine ⟨fun h => by simp [badS, c1, c2] at h, fun _ => ?_⟩
        generalize e3 p = dp at ht hi hin hlen
        exact ⟨[.sh (e3 s), .sh rows, .ow (.dct kvs), .sh d, .fr dp], by simp -implicitDefEqProofs [b_checked_stone_1, ht, hlen, hi, hin]⟩
      | false =>
        rw [c2] at hin
        have t : b_checked_stone_1 ([Sl.sh (e3 s), .sh rows, .ow (.dct kvs), .no, .no].set 3 (.sh d)) = .nx [.sh (e3 s), .sh rows, .ow (.dct (putT kvs (k3 p) (.bl true))), .no, .no] := by
          simp -implicitDefEqProofs [b_checked_stone_1, ht, hlen, hi, hin]
          simp -implicitDefEqProofs [e3, sizeLine_eq, show kvs.length < 16777216 by omega]
        rw [t, next_nx]
        have hb : badS s (p :: Z.map (·.2)) M = badS s (Z.map (·.2)) fun q => M q || decide (q = p) := by simp [badS, c1, c2]
        rw [hb]
        exact ih
theorem q_checked_stone_ok (s : P3) (Z : List (Bool × P3)) (hl : Z.length ≤ 1000000) :
    q_checked_stone [e3 s, .lst (Z.map encR)] = if badS s (Z.map (·.2)) (fun _ => false) = true then .ex (.own "BadStone") else .ok (.lst (((places s).filter fun p => decide (p ∈ Z.map (·.2))).map e3)) := by
  obtain ⟨k1, k2⟩ := checked_loop s (.lst (Z.map encR)) Z [] (fun _ => false) (fun q => by simp) (by simpa using hl)
  have e : q_checked_stone [e3 s, .lst (Z.map encR)] = resM (d_checked_stone [.sh (e3 s), .sh (.lst (Z.map encR)), .no, .no, .no]) := rfl
  rw [e]
  cases h : badS s (Z.map (·.2)) (fun _ => false) with
  | true =>
    obtain ⟨ρ', k⟩ := k2 h
    simp -implicitDefEqProofs [d_checked_stone, k, resM]
  | false =>
    have k := k1 h
    obtain ⟨hb1, hb2⟩ := (badS_iff s _ _).mp h
    have hs := sorted_keys (keys_marks (Z.map (·.2))) (xs := (places s).filter fun p => decide (p ∈ Z.map (·.2))) ((places_up s).sub List.filter_sublist) (fun q => by
      rw [mem_keyAll, List.mem_filter, decide_eq_true_eq]
      constructor
      · exact fun hq => ⟨mem_places.mpr (inB_iff.mp (hb1 q hq).1), hq⟩
      · exact fun hq => hq.2)
    rw [show markD (Z.map (·.2)) [] = marksD (Z.map (·.2)) from rfl] at k
    simp -implicitDefEqProofs [d_checked_stone, k, hs, resM]

theorem q_all_moves_ok : q_all_moves [] = .ok (.lst (movesL.map eMk)) := by with_unfolding_all rfl

theorem q_moved_block_ok (s : P3) (do' dt : D) (m : Mv) (ho : Is3 do' m.1) (hm : m ∈ movesL) : q_moved_block [e3 s, .tup [do', dt]] = .ok (e3 (mvS s m)) := by
  have g (i : Int) (hi : Ix i) := ho i hi
  have h0 := g 0 (.inl rfl)
  have h1 := g 1 (.inr (.inl rfl))
  have h2 := g 2 (.inr (.inr rfl))
  have s0 := is3_e3 s _ (ordIx hm (i := 0) (.inl rfl))
  have s1 := is3_e3 s _ (ordIx hm (i := 1) (.inr (.inl rfl)))
  have s2 := is3_e3 s _ (ordIx hm (i := 2) (.inr (.inr rfl)))
  have e : q_moved_block [e3 s, .tup [do', dt]] = resM (d_moved_block [.sh (e3 s), .sh (.tup [do', dt]), .no]) := rfl
  rw [e, show e3 (mvS s m) = .tup [.int (cmp s (cmp m.1 0)), .int (cmp s (cmp m.1 1)), .int (cmp s (cmp m.1 2))] from rfl]
  generalize e3 s = sD at *
  simp -implicitDefEqProofs [d_moved_block, h0, h1, h2, s0, s1, s2, sizeLine_eq, resM]

/-! ### places moved -/
theorem q_moved_place_ok (s p : P3) (do' dt : D) (m : Mv) (ho : Is3 do' m.1) (ht : Is3 dt m.2) (hm : m ∈ movesL) : q_moved_place [e3 s, .tup [do', dt], e3 p] = .ok (e3 (mvP s m p)) := by
  let st (acc : List D) : Rho := [.sh (e3 s), .sh (.tup [do', dt]), .sh (e3 p), .sh do', .sh dt, .ow (.lst acc), .no, .no]
  have t (i : Int) (hi : Ix i) (acc : List D) (ha : acc.length < 100) : turn (tgN 6) b_moved_place_1 (.int i) (st acc) = .nx (st (acc ++ [.int (mvC s m p i)])) := by
    have h1 := ho i hi
    have h2 := ht i hi
    have hu := ordIx hm hi
    have h3 := is3_e3 p _ hu
    have h4 := is3_e3 s _ hu
    simp only [turn_N, st]
    unfold mvC
    generalize cmp m.1 i = u at *
    generalize cmp m.2 i = b at *
    generalize cmp p u = v at *
    generalize cmp s u = z at *
    generalize e3 p = pD at *
    generalize e3 s = sD at *
    have al : acc.length < 16777216 := by omega
    by_cases c : b = 1
    · subst c
      simp -implicitDefEqProofs [b_moved_place_1, h1, h2, h3, h4, sizeLine_eq, al]
    · simp -implicitDefEqProofs [b_moved_place_1, h1, h2, h3, h4, sizeLine_eq, al, c]
  have loop : forR (tgN 6) b_moved_place_1 [.int 0, .int 1, .int 2] (st []) = .nx (st [.int (mvC s m p 0), .int (mvC s m p 1), .int (mvC s m p 2)]) := by
    rw [forR_cons, t 0 (.inl rfl) [] (by decide), next_nx, forR_cons, t 1 (.inr (.inl rfl)) _ (by simp), next_nx, forR_cons, t 2 (.inr (.inr rfl)) _ (by simp), next_nx, forR_nil]
    rfl
  simp only [st] at loop
  have e : q_moved_place [e3 s, .tup [do', dt], e3 p] = resM (d_moved_place [.sh (e3 s), .sh (.tup [do', dt]), .sh (e3 p), .no, .no, .no, .no, .no]) := rfl
  rw [e, show e3 (mvP s m p) = .tup [.int (mvC s m p 0), .int (mvC s m p 1), .int (mvC s m p 2)] from rfl]
  generalize mvC s m p 0 = x0 at *
  generalize mvC s m p 1 = x1 at *
  generalize mvC s m p 2 = x2 at *
  simp -implicitDefEqProofs [d_moved_place, sizeLine_eq, loop, resM]

theorem q_moved_stone_ok (s : P3) (do' dt : D) (m : Mv) (xs : List P3) (ho : Is3 do' m.1) (ht : Is3 dt m.2) (hm : m ∈ movesL) (hl : xs.length ≤ 1000000) : q_moved_stone [e3 s, .tup [do', dt], .lst (xs.map e3)] = .ok (.lst ((mvX s m xs).map e3)) := by
  have c1 := compL_map (tg := tgN 3) (c := cYes) (f := e_moved_stone_1) e3 [.sh (e3 s), .sh (.tup [do', dt]), .sh (.lst (xs.map e3)), .no] (fun p => e3 (mvP s m p)) xs (fun p _ => by
    have q := q_moved_place_ok s p do' dt m ho ht hm
    generalize e3 p = pD at *
    generalize D.tup [do', dt] = mD at *
    generalize e3 (mvP s m p) = rD at *
    simp -implicitDefEqProofs [e_moved_stone_1, q])
  rw [show (xs.map fun p => e3 (mvP s m p)) = (xs.map (mvP s m)).map e3 by rw [List.map_map]; rfl] at c1
  have hs := sorted_e3 (xs.map (mvP s m))
  have hxl : (xs.map e3).length ≤ 16777216 := by rw [List.length_map]; omega
  have e : q_moved_stone [e3 s, .tup [do', dt], .lst (xs.map e3)] = resM (d_moved_stone [.sh (e3 s), .sh (.tup [do', dt]), .sh (.lst (xs.map e3)), .no]) := rfl
  rw [e]
  unfold mvX
  generalize (xs.map (mvP s m)).map e3 = ys at *
  generalize xs.map e3 = xe at *
  simp -implicitDefEqProofs [d_moved_stone, hxl, sizeLine_eq, c1, hs, resM]

theorem q_least_form_ok (s : P3) (xs : List P3) (hl : xs.length ≤ 1000000) : q_least_form [e3 s, .lst (xs.map e3)] = .ok (encF (leastF (movesL.map (formOf s xs)))) := by
  let st (acc : Option Fm) : Rho := [.sh (e3 s), .sh (.lst (xs.map e3)), .fr (encF acc), .no, .no]
  have loop := (forR_fold (tg := tgN 3) (b := b_least_form_1) eMk st (fun _ => True) (fun acc m => lessF acc (formOf s xs m)) movesL none trivial (fun acc m hm _ => by
    refine ⟨trivial, ?_⟩
    have h1 := q_moved_block_ok s _ (e3 m.2) m (is3_e3k m.1) hm
    have h2 := q_moved_stone_ok s _ _ m xs (is3_e3k m.1) (is3_e3 m.2) hm hl
    rw [← show eMk m = .tup [e3k m.1, e3 m.2] from rfl] at h1 h2
    have hF : eF (formOf s xs m) = .tup [e3 (mvS s m), .lst ((mvX s m xs).map e3)] := rfl
    rw [turn_N]
    simp only [st]
    unfold lessF
    cases acc with
    | none =>
      simp only [encF, hF]
      generalize e3 (mvS s m) = r1 at *
      generalize (mvX s m xs).map e3 = r2 at *
      generalize eMk m = mD at *
      generalize e3 s = sD at *
      generalize xs.map e3 = xD at *
      simp -implicitDefEqProofs [b_least_form_1, h1, h2, sizeLine_eq]
    | some l =>
      have hlt := lt_forms (formOf s xs m) l
      rw [hF] at hlt
      have hnn : isNonD (eF l) = false := rfl
      simp only [encF]
      generalize ltF (formOf s xs m) l = c at *
      generalize hfo : formOf s xs m = fo at *
      have hE : encF (if c = true then some fo else some l) = if c = true then eF fo else eF l := by cases c <;> rfl
      simp only [encF] at hE
      rw [hE]
      clear hE
      generalize eF l = lD at *
      generalize e3 (mvS s m) = r1 at *
      generalize (mvX s m xs).map e3 = r2 at *
      generalize eMk m = mD at *
      generalize e3 s = sD at *
      generalize xs.map e3 = xD at *
      cases c <;> simp -implicitDefEqProofs [b_least_form_1, h1, h2, hnn, hlt, sizeLine_eq, hF])).1
  have hfold : movesL.foldl (fun acc m => lessF acc (formOf s xs m)) none = leastF (movesL.map (formOf s xs)) := by
    unfold leastF
    rw [List.foldl_map]
  rw [hfold] at loop
  simp only [st] at loop
  have q := q_all_moves_ok
  have e : q_least_form [e3 s, .lst (xs.map e3)] = resM (d_least_form [.sh (e3 s), .sh (.lst (xs.map e3)), .no, .no, .no]) := rfl
  rw [e]
  have hE : encF none = .non := rfl
  rw [hE] at loop
  generalize encF (leastF (movesL.map (formOf s xs))) = r at *
  generalize movesL.map eMk = mvs at *
  generalize e3 s = sD at *
  generalize xs.map e3 = xD at *
  simp -implicitDefEqProofs [d_least_form, q, loop, resM]

/-! ### a shelf -/
structure Rw where
  nm : List Nat
  s : P3
  xs : List P3
def lfm (s : P3) (xs : List P3) : Fm := (leastF (movesL.map (formOf s xs))).getD (s, xs)
theorem leastF_lfm (s : P3) (xs : List P3) : leastF (movesL.map (formOf s xs)) = some (lfm s xs) := by
  obtain ⟨r, h1, _, _⟩ := least_spec (fs := movesL.map (formOf s xs)) (fun e => moves_ne (List.map_eq_nil_iff.mp e))
  unfold lfm
  rw [h1]
  rfl
def Rw.f (r : Rw) : Fm := lfm r.s r.xs
def eRw (r : Rw) : D := .tup [eT r.nm, e3 r.s, .lst (r.xs.map e3), eF r.f]
def eSf (p : Addr) (rs : List Rw) : D := .obj p "Shelf" [("rows" : Str)] [.lst (rs.map eRw)]
theorem eqv_eF (f g : Fm) : PyData.eqv (toP (eF f)) (toP (eF g)) = decide (f = g) := by
  show (PyData.eqv (toP (e3 f.1)) (toP (e3 g.1)) && (PyData.eqv (toP (.lst (f.2.map e3))) (toP (.lst (g.2.map e3))) && true)) = _
  rw [eqv_e3, eqv_e3L, Bool.eq_iff_iff]
  simp [Prod.ext_iff]
theorem eq_eF (f g : Fm) : eqG (eF f) (eF g) = .ok (.bl (decide (f = g))) := by
  have h : eqG (eF f) (eF g) = if SeqAt.shaped (toP (eF f)) = true ∧ SeqAt.shaped (toP (eF g)) = true then M.ok (D.bl (PyData.eqv (toP (eF f)) (toP (eF g)))) else M.er := by rfl
  rw [h, if_pos ⟨shaped_eF f, shaped_eF g⟩, eqv_eF]
theorem canLay_eF (f : Fm) : (toP (eF f)).canLay0 = true := by
  have := shaped_eF f
  unfold SeqAt.shaped at this
  rw [Bool.and_eq_true] at this
  exact this.1
theorem depth_eF (f : Fm) : (toP (eF f)).depth ≤ 4 := by
  have h2 := depth_e3s f.2
  have h5 : PyData.depthAll (toPA (f.2.map fun p => D.tup [.int p.1, .int p.2.1, .int p.2.2])) ≤ 2 := h2
  simp only [eF, e3, toP, toPA, PyData.depth, PyData.depthAll]
  omega
theorem canLay_eFs : ∀ fs : List Fm, PyData.canLayAll0 (toPA (fs.map eF)) = true
  | [] => by simp [toPA, PyData.canLayAll0]
  | f :: fs => by
    simp only [List.map_cons, toPA, PyData.canLayAll0, canLay_eFs fs, canLay_eF, Bool.and_self]
theorem depth_eFs : ∀ fs : List Fm, PyData.depthAll (toPA (fs.map eF)) ≤ 4
  | [] => by simp [toPA, PyData.depthAll]
  | f :: fs => by
    have h1 := depth_eFs fs
    have h2 := depth_eF f
    simp only [List.map_cons, toPA, PyData.depthAll]
    omega
theorem shaped_eFs (fs : List Fm) : SeqAt.shaped (toP (.lst (fs.map eF))) = true := by
  have h1 := depth_eFs fs
  have h2 := canLay_eFs fs
  simp only [toP, SeqAt.shaped, PyData.canLay0, PyData.depth, h2, Bool.true_and, decide_eq_true_eq]
  omega
theorem in_eFs (fs : List Fm) (f : Fm) : inB_ (eF f) (.lst (fs.map eF)) = .ok (decide (f ∈ fs)) := by
  have h : inB_ (eF f) (.lst (fs.map eF)) = if SeqAt.shaped (toP (eF f)) = true ∧ SeqAt.shaped (toP (.lst (fs.map eF))) = true then M.ok ((fs.map eF).any fun z => PyData.eqv (toP z) (toP (eF f))) else M.er := by rfl
  rw [h, if_pos ⟨shaped_eF f, shaped_eFs fs⟩, List.any_map]
  congr 1
  rw [Bool.eq_iff_iff, List.any_eq_true, decide_eq_true_eq]
  simp only [Function.comp, eqv_eF, decide_eq_true_eq]
  constructor
  · rintro ⟨x, hx, rfl⟩; exact hx
  · exact fun h => ⟨f, h, rfl⟩
theorem idx_eFs (fs : List Fm) (f : Fm) (hm : f ∈ fs) : indexG (.lst (fs.map eF)) (eF f) = .ok (.int (fs.idxOf f : Nat)) := by
  have hf : findE (fs.map eF) (eF f) = some (fs.idxOf f) := by
    unfold findE
    rw [toPA_map, List.findIdx?_map]
    have hc : (fun z => PyData.eqv z (toP (eF f))) ∘ (fun p => toP (eF p)) = fun p => p == f := by
      funext p
      show PyData.eqv (toP (eF p)) (toP (eF f)) = _
      rw [eqv_eF, Bool.eq_iff_iff]
      simp
    rw [hc, List.idxOf, List.findIdx?_eq_some_iff_findIdx_eq]
    exact ⟨List.idxOf_lt_length_of_mem hm, rfl⟩
  show (if SeqAt.shaped (toP (.lst (fs.map eF))) = true ∧ SeqAt.shaped (toP (eF f)) = true then (match findE (fs.map eF) (eF f) with | some j => M.ok (D.int (j : Nat)) | none => .er) else .er) = _
  rw [if_pos ⟨shaped_eFs fs, shaped_eF f⟩, hf]
theorem eqv_eRw (a b : Rw) : PyData.eqv (toP (eRw a)) (toP (eRw b)) = (decide (a.nm = b.nm) && (decide (a.s = b.s) && (decide (a.xs = b.xs) && decide (a.f = b.f)))) := by
  show (PyData.eqv (toP (eT a.nm)) (toP (eT b.nm)) && (PyData.eqv (toP (e3 a.s)) (toP (e3 b.s)) && (PyData.eqv (toP (.lst (a.xs.map e3))) (toP (.lst (b.xs.map e3))) && (PyData.eqv (toP (eF a.f)) (toP (eF b.f)) && true)))) = _
  rw [eqv_eT, eqv_e3, eqv_e3L, eqv_eF, Bool.and_true]
theorem canLay_eRw (r : Rw) (h : Cok r.nm) : (toP (eRw r)).canLay0 = true := by
  have h1 := strok_eT h
  have h2 := canLay_e3s r.xs
  have h3 := canLay_eF r.f
  have h4 : (toP (e3 r.s)).canLay0 = true := by simp [e3, toP, toPA, PyData.canLay0, PyData.canLayAll0]
  show ((toP (eT r.nm)).canLay0 && ((toP (e3 r.s)).canLay0 && (PyData.canLayAll0 (toPA (r.xs.map e3)) && ((toP (eF r.f)).canLay0 && true)))) = true
  rw [h1, h2, h3, h4]
  rfl
theorem depth_eRw (r : Rw) : (toP (eRw r)).depth ≤ 5 := by
  have h2 := depth_e3s r.xs
  have h3 := depth_eF r.f
  have h1 : (toP (eT r.nm)).depth ≤ 1 := by simp [toP, PyData.depth]
  have h4 : (toP (e3 r.s)).depth ≤ 2 := by simp [e3, toP, toPA, PyData.depth, PyData.depthAll]
  have h5 : (toP (.lst (r.xs.map e3))).depth = PyData.depthAll (toPA (r.xs.map e3)) + 1 := by simp [toP, PyData.depth]
  have e : (toP (eRw r)).depth = PyData.depthAll [toP (eT r.nm), toP (e3 r.s), toP (.lst (r.xs.map e3)), toP (eF r.f)] + 1 := by simp [eRw, toP, toPA, PyData.depth]
  rw [e]
  simp only [PyData.depthAll]
  omega
theorem canLay_eRws : ∀ rs : List Rw, (∀ r, r ∈ rs → Cok r.nm) → PyData.canLayAll0 (toPA (rs.map eRw)) = true
  | [], _ => by simp [toPA, PyData.canLayAll0]
  | r :: rs, h => by
    simp only [List.map_cons, toPA, PyData.canLayAll0, canLay_eRws rs (fun x hx => h x (List.mem_cons_of_mem _ hx)), canLay_eRw r (h r List.mem_cons_self), Bool.and_self]
theorem depth_eRws : ∀ rs : List Rw, PyData.depthAll (toPA (rs.map eRw)) ≤ 5
  | [] => by simp [toPA, PyData.depthAll]
  | r :: rs => by
    have h1 := depth_eRws rs
    have h2 := depth_eRw r
    simp only [List.map_cons, toPA, PyData.depthAll]
    omega
theorem findP_row {r : Rw} : ∀ {rs : List Rw} {j : Nat}, (rs.map Rw.nm).Nodup → rs[j]? = some r → findP (toP (eRw r)) (rs.map eRw) = some j
  | [], _, _, h => by simp at h
  | a :: rs, 0, _, h => by
    simp at h
    subst h
    rw [List.map_cons, findP, if_pos (by rw [eqv_eRw]; simp)]
  | a :: rs, j + 1, hd, h => by
    rw [List.map_cons, List.nodup_cons] at hd
    have h : rs[j]? = some r := by simpa using h
    have hne : a.nm ≠ r.nm := fun e => hd.1 (List.mem_map.mpr ⟨r, List.mem_of_getElem? h, e.symm⟩)
    rw [List.map_cons, findP, if_neg (by rw [eqv_eRw, decide_eq_false hne]; simp), findP_row hd.2 h]
    rfl
theorem map_erase {α β : Type} (e : α → β) : ∀ (xs : List α) (j : Nat), (xs.eraseIdx j).map e = (xs.map e).eraseIdx j
  | [], _ => rfl
  | _ :: _, 0 => rfl
  | x :: xs, j + 1 => congrArg (e x :: ·) (map_erase e xs j)
theorem rem_row {r : Rw} {rs : List Rw} {j : Nat} (hd : (rs.map Rw.nm).Nodup) (hc : ∀ r, r ∈ rs → Cok r.nm) (h : rs[j]? = some r) : remE (rs.map eRw) [eRw r] = .ok ((rs.eraseIdx j).map eRw) := by
  have s1 : SeqAt.shaped (toP (.lst (rs.map eRw))) = true := by
    have h1 := depth_eRws rs
    have h2 := canLay_eRws rs hc
    simp only [toP, SeqAt.shaped, PyData.canLay0, PyData.depth, h2, Bool.true_and, decide_eq_true_eq]
    omega
  have s2 : SeqAt.shaped (toP (eRw r)) = true := by
    have h1 := depth_eRw r
    have h2 := canLay_eRw r (hc r (List.mem_of_getElem? h))
    unfold SeqAt.shaped
    rw [h2, Bool.true_and, decide_eq_true_eq]
    omega
  have e : remE (rs.map eRw) [eRw r] = if SeqAt.shaped (.list (toPA (rs.map eRw))) = true ∧ SeqAt.shaped (toP (eRw r)) = true then (match findP (toP (eRw r)) (rs.map eRw) with | some j => M.ok ((rs.map eRw).eraseIdx j) | none => M.er) else M.er := rfl
  rw [e, if_pos ⟨s1, s2⟩, findP_row hd h]
  exact congrArg M.ok (map_erase eRw rs j).symm
/-! ### its methods -/
theorem q_shelf_init (x : Addr) : q_Shelf___init__ [.obj x "Shelf" [] []] = .ok .non (eSf x []) := by
  have a1 : putN "rows" [] = ([("rows" : Str)] : List Str) := rfl
  have b1 (d : D) : putDs "rows" d [] [] = [d] := rfl
  rw [q_Shelf___init__, runO_at _ _ _ _ _ _ _ _ (by rfl)]
  simp -implicitDefEqProofs [d_Shelf___init__, a1, b1, objOf_obj, sizeLine_eq]
  rfl
theorem look_rows (d : D) : lookF "rows" ([("rows" : Str)] : List Str) [d] = some d := by simp [lookF]
theorem q_shelf_names (p : Addr) (rs : List Rw) (hl : rs.length ≤ 1000) : q_Shelf_names [eSf p rs] = .ok (.lst (rs.map fun r => eT r.nm)) := by
  have c := compL_map (tg := tgN 1) (c := cYes) (f := e_Shelf_names_1) eRw [.sh (eSf p rs), .no] (fun r => eT r.nm) rs (fun r _ => by simp [e_Shelf_names_1, eRw])
  have hz : rs.length ≤ sizeLine := by rw [sizeLine_eq]; omega
  unfold eSf at *
  simp -implicitDefEqProofs [q_Shelf_names, runF, d_Shelf_names, look_rows, c, hz, resM]
theorem q_shelf_row (p : Addr) (rs : List Rw) (nm : List Nat) : q_Shelf_row_of [eSf p rs, eT nm] = match rs.find? fun r => decide (r.nm = nm) with | some r => .ok (eRw r) | none => .ex (.own "Unknown") := by
  have loop := forR_find (tg := tgN 2) (b := b_Shelf_row_of_1) eRw (fun r => decide (r.nm = nm)) eRw [.sh (eSf p rs), .sh (eT nm), .no] rs (fun r _ => by
    have e := eq_eT r.nm nm
    have i : idxG (eRw r) (.int 0) = .ok (eT r.nm) := by simp [eRw]
    by_cases h : r.nm = nm
    · simp [b_Shelf_row_of_1, turn, e, i, h]
    · simp [b_Shelf_row_of_1, turn, e, i, h])
  unfold eSf at *
  cases hf : rs.find? fun r => decide (r.nm = nm) with
  | none =>
    rw [hf] at loop
    simp -implicitDefEqProofs [q_Shelf_row_of, runF, d_Shelf_row_of, look_rows, loop, resM]
  | some z =>
    rw [hf] at loop
    simp -implicitDefEqProofs [q_Shelf_row_of, runF, d_Shelf_row_of, look_rows, loop, resM]
theorem find_at {r : Rw} : ∀ {rs : List Rw} {j : Nat}, (rs.map Rw.nm).Nodup → rs[j]? = some r → (rs.find? fun z => decide (z.nm = r.nm)) = some r
  | [], _, _, h => by simp at h
  | a :: rs, 0, _, h => by
    simp at h
    subst h
    simp
  | a :: rs, j + 1, hd, h => by
    rw [List.map_cons, List.nodup_cons] at hd
    have h : rs[j]? = some r := by simpa using h
    have hne : a.nm ≠ r.nm := fun e => hd.1 (List.mem_map.mpr ⟨r, List.mem_of_getElem? h, e.symm⟩)
    rw [List.find?_cons, decide_eq_false hne]
    exact find_at hd.2 h
theorem q_shelf_take (p : Addr) (rs : List Rw) (r : Rw) (j : Nat) (hd : (rs.map Rw.nm).Nodup) (hc : ∀ r, r ∈ rs → Cok r.nm) (h : rs[j]? = some r) : q_Shelf_take [eSf p rs, eT r.nm] = .ok .non (eSf p (rs.eraseIdx j)) := by
  have h1 := q_shelf_row p rs r.nm
  rw [find_at hd h] at h1
  have h2 := rem_row hd hc h
  have b1 (d a : D) : putDs "rows" d ([("rows" : Str)] : List Str) [a] = [d] := by simp [putDs]
  have hm : ¬ ("row_of" : Str) = "rows" := by decide +kernel
  rw [eSf, q_Shelf_take, runO_at _ _ _ _ _ _ _ _ (by rfl)]
  rw [eSf] at h1
  have ha : (eMeth "Shelf" "row_of" q_Shelf_row_of (eVE 0) (aCons (eVE 1) aNil)) (shAll [.ow (.obj p "Shelf" [("rows" : Str)] [.lst (rs.map eRw)]), .sh (eT r.nm)]) = .ok (eRw r) := by
    simp -implicitDefEqProofs [h1, hm]
  generalize eRw r = er at *
  generalize eT r.nm = et at *
  have : d_Shelf_take [.ow (.obj p "Shelf" [("rows" : Str)] [.lst (rs.map eRw)]), .sh et] = .nx [.ow (.obj p "Shelf" [("rows" : Str)] [.lst ((rs.eraseIdx j).map eRw)]), .sh et] := by
    unfold d_Shelf_take sRemF
    rw [ha]
    simp only [List.getElem?_cons_zero, look_rows, if_true]
    rw [h2]
    simp only [b1]
    rfl
  show finO _ (d_Shelf_take [.ow (.obj p "Shelf" [("rows" : Str)] [.lst (rs.map eRw)]), .sh et]) = _
  rw [this]
  simp -implicitDefEqProofs [objOf_obj]
  rfl

/-! ### a stone is put on the shelf -/
theorem sub_filterS {xs ys : List P3} (h : ys.Sublist xs) (hn : xs.Nodup) : xs.filter (fun p => decide (p ∈ ys)) = ys := by
  induction h with
  | slnil => rfl
  | @cons ys xs a h ih =>
    rw [List.nodup_cons] at hn
    rw [List.filter_cons_of_neg (by simpa using fun hm => hn.1 (h.subset hm)), ih hn.2]
  | @cons_cons ys xs a h ih =>
    rw [List.nodup_cons] at hn
    rw [List.filter_cons_of_pos (by simp)]
    congr 1
    refine Eq.trans (List.filter_congr fun p hp => ?_) (ih hn.2)
    have : p ≠ a := fun e => hn.1 (e ▸ hp)
    simp [this]
theorem q_shelf_put (p : Addr) (rs : List Rw) (nm : List Nat) (s : P3) (Z : List P3) (hn : goodNm nm = true) (hnew : nm ∉ rs.map Rw.nm) (hg : ∀ r, r ∈ rs → Cok r.nm) (hs : Sz 6 s) (hZ : Z.Sublist (places s)) (hl : rs.length ≤ 1000) :
    q_Shelf_put [eSf p rs, eT nm, e3 s, .lst (Z.map e3)] = .ok (.lst ((rs.filter fun r => decide (r.f = lfm s Z)).map fun r => eT r.nm)) (eSf p (rs ++ [⟨nm, s, Z⟩])) := by
  have hnl : nm.length ≤ 12 := by
    unfold goodNm at hn
    simp only [Bool.and_eq_true, decide_eq_true_eq] at hn
    exact hn.1.2
  have h1 := q_name_ok nm (by omega)
  rw [if_pos hn] at h1
  have h2 := q_shelf_names p rs hl
  have h3 := in_eTs (rs.map Rw.nm) nm (goodNm_cok hn) (fun c hc => by
    obtain ⟨r, hr, rfl⟩ := List.mem_map.mp hc
    exact hg r hr)
  rw [List.map_map, show (eT ∘ Rw.nm) = fun r : Rw => eT r.nm from rfl, decide_eq_false hnew] at h3
  have h4 := q_block_ok (e3 s) [s.1, s.2.1, s.2.2] (by simp) (by simp [e3])
  have hs2 := hs
  obtain ⟨g1, g2, g3⟩ := hs2
  rw [show goodB [s.1, s.2.1, s.2.2] = true by simp [goodB]; omega, if_pos rfl, show D.tup ([s.1, s.2.1, s.2.2].map .int) = e3 s from rfl] at h4
  have hzl := sub_len hs hZ
  have hnd := (places_up s).nodup
  have h5 := q_checked_stone_ok s (Z.map fun q => (true, q)) (by rw [List.length_map]; omega)
  have e1 : (Z.map fun q => ((true, q) : Bool × P3)).map encR = Z.map e3 := by rw [List.map_map]; rfl
  have e2 : (Z.map fun q => ((true, q) : Bool × P3)).map (·.2) = Z := by rw [List.map_map]; exact List.map_id Z
  have hb : badS s Z (fun _ => false) = false := (badS_iff s Z _).mpr ⟨fun q hq => ⟨sub_in hZ hq, rfl⟩, hZ.nodup hnd⟩
  rw [e1, e2, hb, if_neg (by decide), sub_filterS hZ hnd] at h5
  have h6 := q_least_form_ok s Z (by omega)
  rw [leastF_lfm] at h6
  change _ = M.ok (eF (lfm s Z)) at h6
  have c := compL_filt (tg := tgN 8) (c := c_Shelf_put_2) (f := e_Shelf_put_1) eRw [.sh (eSf p rs), .sh (eT nm), .sh (e3 s), .sh (.lst (Z.map e3)), .sh (e3 s), .sh (.lst (Z.map e3)), .sh (eF (lfm s Z)), .no, .no] (fun r => decide (r.f = lfm s Z)) (fun r => eT r.nm) rs (fun r _ => by
    have e := eq_eF r.f (lfm s Z)
    have i0 : idxG (eRw r) (.int 0) = .ok (eT r.nm) := by simp [eRw]
    have i3 : idxG (eRw r) (.int 3) = .ok (eF r.f) := by simp [eRw]
    by_cases h : r.f = lfm s Z
    · rw [decide_eq_true h] at e
      simp -implicitDefEqProofs [pickC, c_Shelf_put_2, e_Shelf_put_1, e, i0, i3, eq_true h]
    · rw [decide_eq_false h] at e
      simp -implicitDefEqProofs [pickC, c_Shelf_put_2, e_Shelf_put_1, e, i0, i3, h])
  have b1 (d a : D) : putDs "rows" d ([("rows" : Str)] : List Str) [a] = [d] := by simp [putDs]
  have hm : ¬ ("names" : Str) = "rows" := by decide +kernel
  have ecat : (rs ++ [(⟨nm, s, Z⟩ : Rw)]).map eRw = rs.map eRw ++ [.tup [eT nm, e3 s, .lst (Z.map e3), eF (lfm s Z)]] := by rw [List.map_append]; rfl
  have hz1 : (rs.map eRw).length + 1 ≤ 16777216 := by rw [List.length_map]; omega
  have hz0 : (rs.map eRw).length < 16777216 := by omega
  have hz2 : (rs.map eRw).length ≤ 16777216 := by omega
  have lft : lf (eT nm) = true := lf_str _
  rw [eSf, q_Shelf_put, runO_at _ _ _ _ _ _ _ _ (by rfl)]
  unfold eSf at *
  rw [ecat]
  generalize (rs.filter fun r => decide (r.f = lfm s Z)).map (fun r => eT r.nm) = found at *
  generalize (rs.map fun r => eT r.nm) = nms at *
  generalize rs.map eRw = rr at *
  generalize Z.map e3 = zz at *
  generalize eF (lfm s Z) = ff at *
  generalize eT nm = tn at *
  generalize e3 s = ss at *
  have st : sFrA 7 (eComp [8] (eLL (eFldE 0 "Shelf" "rows")) (tgN 8) c_Shelf_put_2 e_Shelf_put_1) [.ow (.obj p "Shelf" [("rows" : Str)] [.lst rr]), .sh tn, .sh ss, .sh (.lst zz), .fr ss, .fr (.lst zz), .fr ff, .no, .no] = .nx [.ow (.obj p "Shelf" [("rows" : Str)] [.lst rr]), .sh tn, .sh ss, .sh (.lst zz), .fr ss, .fr (.lst zz), .fr ff, .fr (.lst found), .no] := by
    unfold sFrA
    rw [show (eComp [8] (eLL (eFldE 0 "Shelf" "rows")) (tgN 8) c_Shelf_put_2 e_Shelf_put_1) (shAll [.ow (.obj p "Shelf" [("rows" : Str)] [.lst rr]), .sh tn, .sh ss, .sh (.lst zz), .fr ss, .fr (.lst zz), .fr ff, .no, .no]) = .ok (.lst found) by simp -implicitDefEqProofs [look_rows, c, hz2, sizeLine_eq]]
    rfl
  simp -implicitDefEqProofs [d_Shelf_put, h1, h2, h3, hm, h4, h5, h6, st, look_rows, b1, hz0, hz1, lft, appE, objOf_obj, sizeLine_eq]

/-! ### the kinds on the shelf -/
def grpS (z : List (List (List Nat)) × List Fm) (a : List Nat × Fm) : List (List (List Nat)) × List Fm := if a.2 ∈ z.2 then (z.1.set (z.2.idxOf a.2) (z.1.getD (z.2.idxOf a.2) [] ++ [a.1]), z.2) else (z.1 ++ [[a.1]], z.2 ++ [a.2])
def grp (l : List (List Nat × Fm)) : List (List (List Nat)) × List Fm := l.foldl grpS ([], [])
def GrpI (i : Nat) (z : List (List (List Nat)) × List Fm) : Prop := z.1.length = z.2.length ∧ z.1.length ≤ i ∧ ∀ g, g ∈ z.1 → g.length ≤ i
theorem grpS_ok {i : Nat} {z : List (List (List Nat)) × List Fm} {a : List Nat × Fm} (h : GrpI i z) : GrpI (i + 1) (grpS z a) := by
  obtain ⟨h1, h2, h3⟩ := h
  unfold grpS
  by_cases c : a.2 ∈ z.2
  · rw [if_pos c]
    refine ⟨by rw [List.length_set]; exact h1, by rw [List.length_set]; omega, fun g hg => ?_⟩
    rcases List.mem_or_eq_of_mem_set hg with hg | rfl
    · have := h3 g hg; omega
    · rw [List.length_append, List.length_singleton]
      have hi : z.2.idxOf a.2 < z.1.length := by rw [h1]; exact List.idxOf_lt_length_of_mem c
      rw [List.getD_eq_getElem?_getD, List.getElem?_eq_getElem hi]
      have := h3 _ (List.getElem_mem hi)
      simp only [Option.getD_some]
      omega
  · rw [if_neg c]
    refine ⟨by rw [List.length_append, List.length_append, h1]; rfl, by rw [List.length_append, List.length_singleton]; omega, fun g hg => ?_⟩
    rcases List.mem_append.mp hg with hg | hg
    · have := h3 g hg; omega
    · rw [List.mem_singleton] at hg
      subst hg
      simp
def gsD (z : List (List (List Nat)) × List Fm) : List (List D) := z.1.map fun g => g.map eT
theorem forQ_fold {β : Type} {ks : List Nat} {tg : D → Rho → Option Rho} {fb : QF} (e : β → D) (v : β → List Nat × Fm) (ρ : Rho) : ∀ (xs : List β) (i : Nat) (z : List (List (List Nat)) × List Fm), GrpI i z →
    (∀ x, x ∈ xs → ∀ j z, GrpI j z → j ≤ i + xs.length → ∃ ρ1 ρ2, tg (e x) ρ = some ρ1 ∧ fb (gsD z) (z.2.map eF) ρ1 = some (gsD (grpS z (v x)), (grpS z (v x)).2.map eF, ρ2) ∧ wipeR ks ρ2 = ρ) →
    forQ ks tg fb (xs.map e) (gsD z) (z.2.map eF) ρ = some (gsD ((xs.map v).foldl grpS z), ((xs.map v).foldl grpS z).2.map eF, ρ)
  | [], _, _, _, _ => rfl
  | x :: xs, i, z, hI, h => by
    obtain ⟨ρ1, ρ2, e1, e2, e3⟩ := h x List.mem_cons_self i z hI (by omega)
    rw [List.map_cons, forQ]
    dsimp only
    rw [e1]
    dsimp only
    rw [e2]
    dsimp only
    rw [e3, forQ_fold e v ρ xs (i + 1) (grpS z (v x)) (grpS_ok hI) fun y hy j z hz hj => h y (List.mem_cons_of_mem _ hy) j z hz (by rw [List.length_cons]; omega)]
    rfl
theorem gsD_get {z : List (List (List Nat)) × List Fm} {a : Fm} (h : z.1.length = z.2.length) (c : a ∈ z.2) : (gsD z)[z.2.idxOf a]? = some ((z.1.getD (z.2.idxOf a) []).map eT) := by
  have hi : z.2.idxOf a < z.1.length := by rw [h]; exact List.idxOf_lt_length_of_mem c
  unfold gsD
  rw [List.getElem?_map, List.getD_eq_getElem?_getD, List.getElem?_eq_getElem hi]
  rfl
theorem gsD_len (z : List (List (List Nat)) × List Fm) : (gsD z).length = z.1.length := List.length_map ..
/-- x is put where its form stands -/
theorem put_old {j : Nat} {fi : Rho → M D} {fa : Rho → M (List D)} {ρ : Rho} {z : List (List (List Nat)) × List Fm} {a : List Nat × Fm} {i : Nat} (hI : GrpI i z) (hi : i ≤ 1000000) (c : a.2 ∈ z.2) (h1 : fi (ρ.set j (.sh (.lst (z.2.map eF)))) = .ok (.int (z.2.idxOf a.2 : Nat))) (h2 : fa ρ = .ok [eT a.1]) : sPutQ j fi fa (gsD z) (z.2.map eF) ρ = some (gsD (grpS z a), (grpS z a).2.map eF, ρ) := by
  obtain ⟨g1, g2, g3⟩ := hI
  have hlt : z.2.idxOf a.2 < z.1.length := by rw [g1]; exact List.idxOf_lt_length_of_mem c
  have hg := gsD_get g1 c
  have hgl : (z.1.getD (z.2.idxOf a.2) []).length ≤ i := by
    rw [List.getD_eq_getElem?_getD, List.getElem?_eq_getElem hlt]
    exact g3 _ (List.getElem_mem hlt)
  unfold sPutQ
  rw [h1, h2]
  simp only
  rw [if_pos ⟨by omega, by rw [gsD_len]; omega, by omega, lf_str _⟩, Int.toNat_natCast, hg]
  simp only
  rw [if_pos (by rw [List.length_map, sizeLine_eq]; omega)]
  unfold grpS
  rw [if_pos c]
  simp only [gsD, List.map_set, List.map_append, List.map_cons, List.map_nil]
theorem q_shelf_kinds (p : Addr) (rs : List Rw) (hl : rs.length ≤ 1000) : q_Shelf_kinds [eSf p rs] = .ok (.lst ((gsD (grp (rs.map fun r => (r.nm, r.f)))).map D.lst)) := by
  have loop := forQ_fold (ks := [3]) (tg := tgN 3) (fb := b_Shelf_kinds_1) eRw (fun r => (r.nm, r.f)) [.sh (eSf p rs), .no, .no, .no] rs 0 ([], []) ⟨rfl, Nat.le_refl 0, fun g hg => by cases hg⟩ fun r _ j z hz hj => by
    refine ⟨[.sh (eSf p rs), .no, .no, .sh (eRw r)], [.sh (eSf p rs), .no, .no, .sh (eRw r)], rfl, ?_, rfl⟩
    have hin := in_eFs z.2 r.f
    have i0 : idxG (eRw r) (.int 0) = .ok (eT r.nm) := by simp [eRw]
    have i3 : idxG (eRw r) (.int 3) = .ok (eF r.f) := by simp [eRw]
    have hz2 := hz
    obtain ⟨g1, g2, g3⟩ := hz2
    have lft : lf (eT r.nm) = true := lf_str _
    have hc : (eB (eOp inG (eOp idxG (eV 3) (eC (.int 3))) (eV 2))) ([Sl.sh (eSf p rs), .no, .no, .sh (eRw r)].set 2 (.sh (.lst (z.2.map eF)))) = .ok (decide (r.f ∈ z.2)) := by
      simp -implicitDefEqProofs [i3, hin]
    unfold b_Shelf_kinds_1 sIfQ
    rw [hc]
    by_cases c : r.f ∈ z.2
    · rw [decide_eq_true c]
      simp only
      have hx := idx_eFs z.2 r.f c
      exact put_old (a := (r.nm, r.f)) hz (by omega) c (by simp -implicitDefEqProofs [eIndex, i3, hx]) (by simp -implicitDefEqProofs [i0, lft])
    · rw [decide_eq_false c]
      simp only
      have ha : sAppQ (aCons (eOp idxG (eV 3) (eC (.int 3))) aNil) (gsD z) (z.2.map eF) [.sh (eSf p rs), .no, .no, .sh (eRw r)] = some (gsD z, z.2.map eF ++ [eF r.f], [.sh (eSf p rs), .no, .no, .sh (eRw r)]) := by
        have hz1 : (z.2.map eF).length < 16777216 := by rw [List.length_map]; omega
        unfold sAppQ
        rw [show (aCons (eOp idxG (eV 3) (eC (.int 3))) aNil) [.sh (eSf p rs), .no, .no, .sh (eRw r)] = .ok [eF r.f] by simp -implicitDefEqProofs [i3]]
        simp only [appE]
        rw [if_pos (by rw [sizeLine_eq]; omega)]
      have hb : sNewQ (aCons (eLf (eOp idxG (eV 3) (eC (.int 0)))) aNil) (gsD z) (z.2.map eF ++ [eF r.f]) [.sh (eSf p rs), .no, .no, .sh (eRw r)] = some (gsD z ++ [[eT r.nm]], z.2.map eF ++ [eF r.f], [.sh (eSf p rs), .no, .no, .sh (eRw r)]) := by
        unfold sNewQ
        rw [show (aCons (eLf (eOp idxG (eV 3) (eC (.int 0)))) aNil) [.sh (eSf p rs), .no, .no, .sh (eRw r)] = .ok [eT r.nm] by simp -implicitDefEqProofs [i0, lft]]
        simp only
        rw [if_pos ⟨by simp, by rw [sizeLine_eq]; simp, by rw [gsD_len, sizeLine_eq]; omega⟩]
      unfold seqQ
      rw [ha]
      simp only
      rw [hb]
      unfold grpS
      rw [if_neg c]
      simp only [gsD, List.map_append, List.map_cons, List.map_nil]
  have hz : rs.length ≤ sizeLine := by rw [sizeLine_eq]; omega
  have e0 : gsD ([], []) = [] := rfl
  rw [e0] at loop
  have ap : q_Shelf_kinds [eSf p rs] = resM (d_Shelf_kinds [.sh (eSf p rs), .no, .no, .no]) := rfl
  have it : eLL (eFldE 0 "Shelf" "rows") [.sh (eSf p rs), .no, .no, .no] = .ok (rs.map eRw) := by
    unfold eSf
    simp -implicitDefEqProofs [look_rows]
  have lp : sForQ 1 2 [3] (eLL (eFldE 0 "Shelf" "rows")) (tgN 3) b_Shelf_kinds_1 [] [] [.sh (eSf p rs), .no, .no, .no] = some (gsD (grp (rs.map fun r => (r.nm, r.f))), (grp (rs.map fun r => (r.nm, r.f))).2.map eF, [.sh (eSf p rs), .no, .no, .no]) := by
    unfold sForQ
    rw [if_pos ⟨by decide, by decide⟩, it]
    exact loop
  rw [ap]
  have : d_Shelf_kinds [.sh (eSf p rs), .no, .no, .no] = .rt (.lst ((gsD (grp (rs.map fun r => (r.nm, r.f)))).map D.lst)) := by
    unfold d_Shelf_kinds sQ
    simp only [List.getElem?_cons_succ, List.getElem?_cons_zero]
    rw [if_pos (by decide)]
    unfold kQ
    rw [lp]
    rfl
  rw [this]
  rfl

/-! ### alike -/
def Al (n : Nat) (x y : D) : Prop := q_L_alike n [x, y] = .ok (.bl true)
def AlL (n : Nat) : List D → List D → Prop
  | [], [] => True
  | x :: xs, y :: ys => Al n x y ∧ AlL n xs ys
  | _, _ => False
theorem AlL.len {n : Nat} : ∀ {xs ys : List D}, AlL n xs ys → xs.length = ys.length
  | [], [], _ => rfl
  | x :: xs, y :: ys, h => congrArg (· + 1) (AlL.len h.2)
  | [], _ :: _, h => h.elim
  | _ :: _, [], h => h.elim
theorem AlL.refl {n : Nat} : ∀ {xs : List D}, (∀ x, x ∈ xs → Al n x x) → AlL n xs xs
  | [], _ => trivial
  | x :: xs, h => ⟨h x List.mem_cons_self, AlL.refl fun y hy => h y (List.mem_cons_of_mem _ hy)⟩
theorem al_comp {n : Nat} {ρ : Rho} (hρ : ∀ x y : D, eCall (q_L_alike n) (aCons (eV 2) (aCons (eV 3) aNil)) ((ρ.set 2 (.sh x)).set 3 (.sh y)) = q_L_alike n [x, y]) : ∀ {xs ys : List D}, AlL n xs ys →
    compL (tgT 2 (tgCons (tgN 2) (tgCons (tgN 3) tgNil))) cYes (e_L_alike_1 (q_L_alike n)) ρ (zipD xs ys) = .ok (xs.map fun _ => .bl true)
  | [], [], _ => rfl
  | x :: xs, y :: ys, h => by
    have ih := al_comp hρ h.2
    have e : q_L_alike n [x, y] = .ok (.bl true) := h.1
    rw [zipD, compL_cons, ih, pick_all]
    have e2 := hρ x y
    rw [e] at e2
    simp only [tgT_ap, tgCons_ap, tgNil_ap, tgN_ap, List.length_cons, List.length_nil, if_pos, e_L_alike_1, e2, bind_ok, List.map_cons]
  | [], _ :: _, h => h.elim
  | _ :: _, [], h => h.elim
theorem bools_true : ∀ xs : List D, bools (xs.map fun _ => D.bl true) = some (xs.map fun _ => true)
  | [] => rfl
  | x :: xs => by simp [bools, bools_true xs]
theorem al_seq {n : Nat} {x y : D} {xs ys : List D} (hx : (x = .lst xs ∧ y = .lst ys) ∨ (tupD x = some xs ∧ tupD y = some ys)) (hl : xs.length ≤ sizeLine) (h : AlL n xs ys) : Al (n + 1) x y := by
  unfold Al q_L_alike runF
  have hc := al_comp (n := n) (ρ := [.sh x, .sh y, .no, .no]) (fun a b => by simp) h
  have hz : zipG [x, y] = .ok (zipD xs ys) := by
    rcases hx with ⟨rfl, rfl⟩ | ⟨hx, hy⟩
    · rfl
    · cases x <;> try (cases hx; done)
      all_goals cases y <;> try (cases hy; done)
      all_goals (cases hx; cases hy; rfl)
  have i1 : instD .bool x = false ∧ instD .bool y = false ∧ ∃ t, instD .tuple x = t ∧ instD .tuple y = t ∧ instD .list x = (!t) ∧ instD .list y = (!t) := by
    rcases hx with ⟨rfl, rfl⟩ | ⟨hx, hy⟩
    · exact ⟨rfl, rfl, false, rfl, rfl, rfl, rfl⟩
    · cases x <;> try (cases hx; done)
      all_goals cases y <;> try (cases hy; done)
      all_goals exact ⟨rfl, rfl, true, rfl, rfl, rfl, rfl⟩
  have l1 : lenG [x] = .ok (.int xs.length) := by
    rcases hx with ⟨rfl, rfl⟩ | ⟨hx, hy⟩
    · rfl
    · cases x <;> try (cases hx; done)
      all_goals (cases hx; rfl)
  have l2 : lenG [y] = .ok (.int ys.length) := by
    rcases hx with ⟨rfl, rfl⟩ | ⟨hx, hy⟩
    · rfl
    · cases y <;> try (cases hy; done)
      all_goals (cases hy; rfl)
  obtain ⟨b1, b2, t, b3, b4, b5, b6⟩ := i1
  have hl2 := h.len
  have o1 : isOb x = false ∧ isOb y = false := by
    rcases hx with ⟨rfl, rfl⟩ | ⟨hx, hy⟩
    · exact ⟨rfl, rfl⟩
    · cases x <;> try (cases hx; done)
      all_goals cases y <;> try (cases hy; done)
      all_goals exact ⟨rfl, rfl⟩
  obtain ⟨o1, o2⟩ := o1
  cases t <;> simp [d_L_alike, o1, o2, b1, b2, b3, b4, b5, b6, l1, l2, hl2, hz, zipD_len, show ys.length ≤ sizeLine by omega, hc, resM, allG, bools_true]
theorem al_lst {n : Nat} {xs ys : List D} (hl : xs.length ≤ sizeLine) (h : AlL n xs ys) : Al (n + 1) (.lst xs) (.lst ys) := al_seq (.inl ⟨rfl, rfl⟩) hl h
theorem al_tup {n : Nat} {xs ys : List D} (hl : xs.length ≤ sizeLine) (h : AlL n xs ys) : Al (n + 1) (.tup xs) (.tup ys) := al_seq (.inr ⟨rfl, rfl⟩) hl h
theorem al_int (n : Nat) (i : Int) : Al (n + 1) (.int i) (.int i) := by
  unfold Al q_L_alike runF
  simp [d_L_alike, show instD .bool (.int i) = false from rfl, show instD .tuple (.int i) = false from rfl, show instD .list (.int i) = false from rfl, resM]
theorem al_bl (n : Nat) (i : Bool) : Al (n + 1) (.bl i) (.bl i) := by
  unfold Al q_L_alike runF
  simp [d_L_alike, show instD .bool (.bl i) = true from rfl, show instD .tuple (.bl i) = false from rfl, show instD .list (.bl i) = false from rfl, resM]
theorem al_str (n : Nat) (i : Str) : Al (n + 1) (.str i) (.str i) := by
  unfold Al q_L_alike runF
  simp [d_L_alike, show instD .bool (.str i) = false from rfl, show instD .tuple (.str i) = false from rfl, show instD .list (.str i) = false from rfl, resM]
theorem al_non (n : Nat) : Al (n + 1) .non .non := by
  unfold Al q_L_alike runF
  simp [d_L_alike, show instD .bool .non = false from rfl, show instD .tuple .non = false from rfl, show instD .list .non = false from rfl, resM]
mutual
def plainD : Nat → D → Bool
  | 0, _ => false
  | _ + 1, .int _ => true
  | _ + 1, .bl _ => true
  | _ + 1, .str _ => true
  | _ + 1, .non => true
  | n + 1, .lst ds => decide (ds.length ≤ sizeLine) && plainA n ds
  | n + 1, .tup ds => decide (ds.length ≤ sizeLine) && plainA n ds
  | n + 1, .kt ds => decide (ds.length ≤ sizeLine) && plainA n ds
  | _, _ => false
def plainA : Nat → List D → Bool
  | _, [] => true
  | n, d :: ds => plainD n d && plainA n ds
end
theorem plainA_mem {n : Nat} : ∀ {ds : List D}, plainA n ds = true → ∀ d, d ∈ ds → plainD n d = true
  | [], _, _, h => nomatch h
  | x :: xs, e, d, h => by
    simp [plainA] at e
    rcases List.mem_cons.mp h with rfl | h
    · exact e.1
    · exact plainA_mem e.2 d h
theorem al_self : ∀ (n : Nat) (d : D), plainD n d = true → Al n d d
  | 0, d, h => by cases d <;> simp [plainD] at h
  | n + 1, .int i, _ => al_int n i
  | n + 1, .bl i, _ => al_bl n i
  | n + 1, .str i, _ => al_str n i
  | n + 1, .non, _ => al_non n
  | n + 1, .lst ds, h => by
    simp only [plainD, Bool.and_eq_true, decide_eq_true_eq] at h
    exact al_lst h.1 (AlL.refl fun d hd => al_self n d (plainA_mem h.2 d hd))
  | n + 1, .tup ds, h => by
    simp only [plainD, Bool.and_eq_true, decide_eq_true_eq] at h
    exact al_tup h.1 (AlL.refl fun d hd => al_self n d (plainA_mem h.2 d hd))
  | n + 1, .kt ds, h => by
    simp only [plainD, Bool.and_eq_true, decide_eq_true_eq] at h
    exact al_seq (.inr ⟨rfl, rfl⟩) h.1 (AlL.refl fun d hd => al_self n d (plainA_mem h.2 d hd))
  | n + 1, .fz ds, h => by simp [plainD] at h
  | n + 1, .dct ds, h => by simp [plainD] at h
  | n + 1, .dk ds, h => by simp [plainD] at h
theorem plainA_map {α : Type} {n : Nat} {e : α → D} (h : ∀ x, plainD n (e x) = true) : ∀ xs : List α, plainA n (xs.map e) = true
  | [] => rfl
  | x :: xs => by simp [plainA, h, plainA_map h xs]
theorem alike_self {n : Nat} {d : D} (h : plainD n d = true) : q_L_alike n [d, d] = .ok (.bl true) := al_self n d h

theorem alike_e3 (p : P3) : q_L_alike 6 [e3 p, e3 p] = .ok (.bl true) := alike_self (by simp [e3, plainD, plainA, sizeLine_eq])
theorem plain_e3 (n : Nat) (p : P3) : plainD (n + 2) (e3 p) = true := by simp [e3, plainD, plainA, sizeLine_eq]
theorem alike_e3s (xs : List P3) (h : xs.length ≤ 16777216) : q_L_alike 6 [.lst (xs.map e3), .lst (xs.map e3)] = .ok (.bl true) := by
  refine alike_self ?_
  simp only [plainD, List.length_map, Bool.and_eq_true, decide_eq_true_eq]
  exact ⟨by rw [sizeLine_eq]; omega, plainA_map (fun p => plain_e3 3 p) _⟩

/-! ### digits -/
def digSt (a : D) (k base many c0 : Int) (s : Int × List Int) : Rho := [.sh a, .sh (.int k), .sh (.int base), .sh (.int many), .sh (.int c0), .fr (.int s.1), .ow (.lst (s.2.map .int)), .no]
theorem t_digits1 (a : D) (k base many c0 : Int) (s : Int × List Int) (t : Int) (hb : 0 < base ∧ base < 1000000) (hl : s.2.length < 1000) :
    turn (tgN 7) b_L_digits_1 (.int t) (digSt a k base many c0 s) = .nx (digSt a k base many c0 (s.1 / base, s.2 ++ [s.1 % base])) := by
  simp [digSt, b_L_digits_1, mod_ok (show 0 < base by omega), fdivN_ok (show 0 < base ∧ base < 1073741824 by omega), sizeLine_eq, show s.2.length < 16777216 by omega]
theorem t_digits2 (a : D) (k base many c0 : Int) (s : Int × List Int) (t : Int) (hb : 0 < base ∧ base < 1000000) (hl : s.2.length < 1000) :
    turn (tgN 7) b_L_digits_2 (.int t) (digSt a k base many c0 s) = .nx (digSt a k base many c0 ((s.1 * 48271 + 1) % 2147483647, s.2 ++ [(s.1 * 48271 + 1) % 2147483647 / 1009 % base])) := by
  simp [digSt, b_L_digits_2, mul_ok (j := 48271) (i := s.1) (by omega), mod_ok (j := 2147483647) (by omega), mod_ok (show 0 < base by omega), fdiv_ok (j := 1009) (by omega), sizeLine_eq, show s.2.length < 16777216 by omega]
theorem q_digits (ns : List Int) (k base many : Int) (hk : 0 ≤ k ∧ k < 1000000) (hb : 0 < base ∧ base < 1000000) (hm : 0 ≤ many ∧ many < 1000) (hn : ns.length ≤ 63) :
    ∃ L : List Int, L.length = many.toNat ∧ (∀ x, x ∈ L → 0 ≤ x ∧ x < base) ∧ q_L_digits [.fz (ns.map .int), .int k, .int base, .int many] = .ok (.lst (L.map .int)) := by
  have cell : ∃ c : Int, sIf (eB (eOp ltG (eV 1) (eBlt lenG (aCons (eV 0) aNil)))) (sSh 4 (eOp idxG (eV 0) (eV 1))) sNil [.sh (.fz (ns.map .int)), .sh (.int k), .sh (.int base), .sh (.int many), .sh (.int 0), .no, .no, .no]
      = .nx [.sh (.fz (ns.map .int)), .sh (.int k), .sh (.int base), .sh (.int many), .sh (.int c), .no, .no, .no] := by
    by_cases h : k < ns.length
    · have e : (ns.map D.int)[k.toNat]? = some (.int (ns[k.toNat]'(by omega))) := by simp [show k.toNat < ns.length by omega]
      exact ⟨ns[k.toNat]'(by omega), by simp [h, atI_ok hk.1 e]⟩
    · exact ⟨0, by simp [h]⟩
  obtain ⟨c, cell⟩ := cell
  have run : ∀ (b : Rho → Res) (g : Int → Int × Int) (n : Int), (∀ (s : Int × List Int) (t : Int), s.2.length < 1000 → turn (tgN 7) b (.int t) (digSt (.fz (ns.map .int)) k base many c s) = .nx (digSt (.fz (ns.map .int)) k base many c ((g s.1).1, s.2 ++ [(g s.1).2]))) → (∀ x, 0 ≤ (g x).2 ∧ (g x).2 < base) →
      ∃ (n' : Int) (L : List Int), L.length = many.toNat ∧ (∀ x, x ∈ L → 0 ≤ x ∧ x < base) ∧ forR (tgN 7) b (rngD 0 many.toNat) (digSt (.fz (ns.map .int)) k base many c (n, [])) = .nx (digSt (.fz (ns.map .int)) k base many c (n', L)) := by
    intro b g n ht hg
    have key : ∀ (m : Nat) (i : Nat) (n : Int) (L : List Int), L.length + m ≤ 1000 → (∀ x, x ∈ L → 0 ≤ x ∧ x < base) → ∃ (n' : Int) (L' : List Int), L'.length = L.length + m ∧ (∀ x, x ∈ L' → 0 ≤ x ∧ x < base) ∧
        forR (tgN 7) b ((List.range' i m).map fun i => D.int (0 + (i : Nat))) (digSt (.fz (ns.map .int)) k base many c (n, L)) = .nx (digSt (.fz (ns.map .int)) k base many c (n', L')) := by
      intro m
      induction m with
      | zero => exact fun i n L hl hL => ⟨n, L, rfl, hL, rfl⟩
      | succ m ih =>
        intro i n L hl hL
        obtain ⟨n', L', h1, h2, h3⟩ := ih (i + 1) (g n).1 (L ++ [(g n).2]) (by simp only [List.length_append, List.length_singleton]; omega) (fun x hx => by
          rcases List.mem_append.mp hx with h | h
          · exact hL x h
          · rw [List.mem_singleton.mp h]; exact hg n)
        refine ⟨n', L', by rw [h1]; simp only [List.length_append, List.length_singleton]; omega, h2, ?_⟩
        rw [List.range'_succ, List.map_cons, forR_cons, ht (n, L) _ (by simp only; omega), next_nx]
        exact h3
    obtain ⟨n', L, h1, h2, h3⟩ := key many.toNat 0 n [] (by simp only [List.length_nil]; omega) (fun x hx => nomatch hx)
    refine ⟨n', L, by simpa using h1, h2, ?_⟩
    rw [rngD_map, List.range_eq_range']
    exact h3
  have e0 : q_L_digits [.fz (ns.map .int), .int k, .int base, .int many] = resM (d_L_digits [.sh (.fz (ns.map .int)), .sh (.int k), .sh (.int base), .sh (.int many), .no, .no, .no, .no]) := rfl
  rw [e0]
  unfold d_L_digits
  rw [sSeq_ap, sSh_ap, eC_ap, ofM_ok, then_nx, sSeq_ap, show ([Sl.sh (.fz (ns.map .int)), .sh (.int k), .sh (.int base), .sh (.int many), .no, .no, .no, .no] : Rho).set 4 (.sh (.int 0)) = [.sh (.fz (ns.map .int)), .sh (.int k), .sh (.int base), .sh (.int many), .sh (.int 0), .no, .no, .no] from rfl, cell, then_nx]
  by_cases big : 10 ^ 18 ≤ (if c < 0 then -c else c)
  · obtain ⟨n', L, h1, h2, h3⟩ := run b_L_digits_1 (fun n => (n / base, n % base)) (if c < 0 then -c else c) (fun s t hs => t_digits1 _ k base many c s t hb hs) (fun x => ⟨Int.emod_nonneg _ (by omega), Int.emod_lt_of_pos _ (by omega)⟩)
    refine ⟨L, h1, h2, ?_⟩
    simp only [digSt, List.map_nil] at h3
    have big' : (1000000000000000000 : Int) ≤ if c < 0 then -c else c := big
    simp [big', show many < 4611686018427387904 by omega, show (-4611686018427387904 : Int) ≤ many by omega, h3, resM, sizeLine_eq]
  · obtain ⟨n', L, h1, h2, h3⟩ := run b_L_digits_2 (fun n => ((n * 48271 + 1) % 2147483647, (n * 48271 + 1) % 2147483647 / 1009 % base)) ((c * 7919 + k * 104729 + 17) % 2147483647 + (c * 7919 + k * 104729 + 17) % 2147483647 * ((c * 7919 + k * 104729 + 17) % 2147483647) % 1000000007) (fun s t hs => t_digits2 _ k base many c s t hb hs) (fun x => ⟨Int.emod_nonneg _ (by omega), Int.emod_lt_of_pos _ (by omega)⟩)
    refine ⟨L, h1, h2, ?_⟩
    simp only [digSt, List.map_nil] at h3
    have big' : ¬ (1000000000000000000 : Int) ≤ if c < 0 then -c else c := big
    have w1 := Int.emod_nonneg (c * 7919 + k * 104729 + 17) (show (2147483647 : Int) ≠ 0 by decide)
    have w2 := Int.emod_lt_of_pos (c * 7919 + k * 104729 + 17) (show (0 : Int) < 2147483647 by decide)
    simp [big', show many < 4611686018427387904 by omega, show (-4611686018427387904 : Int) ≤ many by omega, mul_ok (i := c) (j := 7919) (by omega), mul_ok (i := k) (j := 104729) (by omega), mod_ok (j := 2147483647) (by omega), mod_ok (j := 1000000007) (by omega), mul_ok (i := (c * 7919 + k * 104729 + 17) % 2147483647) (j := (c * 7919 + k * 104729 + 17) % 2147483647) (by omega), h3, resM, sizeLine_eq]

/-! ### one digit -/
theorem q_one (ns : List Int) (k base : Int) (hk : 0 ≤ k ∧ k < 1000000) (hb : 0 < base ∧ base < 1000000) (hn : ns.length ≤ 63) :
    ∃ x : Int, 0 ≤ x ∧ x < base ∧ q_L_one [.fz (ns.map .int), .int k, .int base] = .ok (.int x) := by
  obtain ⟨L, h1, h2, h3⟩ := q_digits ns k base 1 hk hb (by decide) hn
  match L, h1, h2, h3 with
  | [x], _, h2, h3 =>
    exact ⟨x, (h2 x List.mem_cons_self).1, (h2 x List.mem_cons_self).2, by simp [q_L_one, runF, d_L_one, h3, resM]⟩

/-! ### places -/
theorem q_Lall (s : P3) (h : Sz 100 s) : q_L_all [e3 s] = .ok (.lst ((places s).map e3)) := by
  obtain ⟨a, b, c⟩ := s
  obtain ⟨ha, hb, hc⟩ := h
  simp only at ha hb hc
  have t1 (x y : Int) (acc : List D) (z : Int) (hl : acc.length < 1000001) : turn (tgN 4) b_L_all_1 (.int z) [.sh (e3 (a, b, c)), .ow (.lst acc), .sh (.int x), .sh (.int y), .no] = .nx [.sh (e3 (a, b, c)), .ow (.lst (acc ++ [e3 (x, y, z)])), .sh (.int x), .sh (.int y), .no] := by
    simp [b_L_all_1, sizeLine_eq, show acc.length < 16777216 by omega, e3]
  have l1 (x y : Int) : ((rng c).flatMap fun z => [e3 (x, y, z)]).length = c.toNat := by rw [flatMap_len _ 1 _ fun _ _ => rfl, rng_len]; omega
  have f1 (x y : Int) (acc : List D) (hl : acc.length + c.toNat ≤ 1000000) : forR (tgN 4) b_L_all_1 ((rng c).map .int) [.sh (e3 (a, b, c)), .ow (.lst acc), .sh (.int x), .sh (.int y), .no] = .nx [.sh (e3 (a, b, c)), .ow (.lst (acc ++ (rng c).flatMap fun z => [e3 (x, y, z)])), .sh (.int x), .sh (.int y), .no] :=
    forR_acc .int (fun acc => [.sh (e3 (a, b, c)), .ow (.lst acc), .sh (.int x), .sh (.int y), .no]) _ _ acc 1000000 (by rw [l1]; exact hl) fun acc z _ h => t1 x y acc z (by omega)
  have t2 (x : Int) (acc : List D) (y : Int) (hl : acc.length + c.toNat ≤ 1000000) : turn (tgN 3) b_L_all_2 (.int y) [.sh (e3 (a, b, c)), .ow (.lst acc), .sh (.int x), .no, .no] = .nx [.sh (e3 (a, b, c)), .ow (.lst (acc ++ (rng c).flatMap fun z => [e3 (x, y, z)])), .sh (.int x), .no, .no] := by
    have f := f1 x y acc hl
    simp [b_L_all_2, show idxG (e3 (a, b, c)) (.int 2) = .ok (.int c) by simp [e3], show (-4611686018427387904 : Int) ≤ c by omega, show c < 4611686018427387904 by omega, rngD_0, f]
  have l2 (x : Int) : ((rng b).flatMap fun y => (rng c).flatMap fun z => [e3 (x, y, z)]).length = b.toNat * c.toNat := by rw [flatMap_len _ c.toNat _ fun y _ => l1 x y, rng_len]
  have hbc : b.toNat * c.toNat ≤ 100 * 100 := Nat.mul_le_mul (by omega) (by omega)
  have f2 (x : Int) (acc : List D) (hl : acc.length + b.toNat * c.toNat ≤ 1000000) : forR (tgN 3) b_L_all_2 ((rng b).map .int) [.sh (e3 (a, b, c)), .ow (.lst acc), .sh (.int x), .no, .no] = .nx [.sh (e3 (a, b, c)), .ow (.lst (acc ++ (rng b).flatMap fun y => (rng c).flatMap fun z => [e3 (x, y, z)])), .sh (.int x), .no, .no] :=
    forR_acc .int (fun acc => [.sh (e3 (a, b, c)), .ow (.lst acc), .sh (.int x), .no, .no]) _ _ acc 1000000 (by rw [l2]; exact hl) fun acc y _ h => t2 x acc y (by rw [l1] at h; exact h)
  have t3 (acc : List D) (x : Int) (hl : acc.length + b.toNat * c.toNat ≤ 1000000) : turn (tgN 2) b_L_all_3 (.int x) [.sh (e3 (a, b, c)), .ow (.lst acc), .no, .no, .no] = .nx [.sh (e3 (a, b, c)), .ow (.lst (acc ++ (rng b).flatMap fun y => (rng c).flatMap fun z => [e3 (x, y, z)])), .no, .no, .no] := by
    have f := f2 x acc hl
    simp [b_L_all_3, show idxG (e3 (a, b, c)) (.int 1) = .ok (.int b) by simp [e3], show (-4611686018427387904 : Int) ≤ b by omega, show b < 4611686018427387904 by omega, rngD_0, f]
  have l3 : ((rng a).flatMap fun x => (rng b).flatMap fun y => (rng c).flatMap fun z => [e3 (x, y, z)]).length = a.toNat * (b.toNat * c.toNat) := by rw [flatMap_len _ (b.toNat * c.toNat) _ fun x _ => l2 x, rng_len]
  have habc : a.toNat * (b.toNat * c.toNat) ≤ 100 * (100 * 100) := Nat.mul_le_mul (by omega) hbc
  have f3 : forR (tgN 2) b_L_all_3 ((rng a).map .int) [.sh (e3 (a, b, c)), .ow (.lst []), .no, .no, .no] = .nx [.sh (e3 (a, b, c)), .ow (.lst ([] ++ (rng a).flatMap fun x => (rng b).flatMap fun y => (rng c).flatMap fun z => [e3 (x, y, z)])), .no, .no, .no] :=
    forR_acc .int (fun acc => [.sh (e3 (a, b, c)), .ow (.lst acc), .no, .no, .no]) _ _ [] 1000000 (by rw [l3]; simp only [List.length_nil]; omega) fun acc x _ h => t3 acc x (by rw [l2] at h; exact h)
  rw [List.nil_append] at f3
  have e : ((rng a).flatMap fun x => (rng b).flatMap fun y => (rng c).flatMap fun z => [e3 (x, y, z)]) = (places (a, b, c)).map e3 := by
    simp only [places, List.map_flatMap, List.map_map]
    congr 1; funext x; congr 1; funext y
    induction rng c with
    | nil => rfl
    | cons z zs ih => simp [ih]
  rw [e] at f3
  simp [q_L_all, runF, d_L_all, sizeLine_eq, show idxG (e3 (a, b, c)) (.int 0) = .ok (.int a) by simp [e3], show (-4611686018427387904 : Int) ≤ a by omega, show a < 4611686018427387904 by omega, rngD_0, f3, resM]

theorem q_Lmoved (s p : P3) (m : Mv) (hm : m ∈ movesL) : q_L_moved [e3 s, eMv m, e3 p] = .ok (e3 (mvP s m p)) := by
  have m0 : idxG (eMv m) (.int 0) = .ok (e3 m.1) := by simp [eMv]
  have m1 : idxG (eMv m) (.int 1) = .ok (e3 m.2) := by simp [eMv]
  let st (acc : List D) : Rho := [.sh (e3 s), .sh (eMv m), .sh (e3 p), .ow (.lst acc), .no, .no]
  have t (i : Int) (hi : Ix i) (acc : List D) (ha : acc.length < 100) : turn (tgN 4) b_L_moved_1 (.int i) (st acc) = .nx (st (acc ++ [.int (mvC s m p i)])) := by
    have h1 := is3_e3 m.1 i hi
    have h2 := is3_e3 m.2 i hi
    have hu := ordIx hm hi
    have h3 := is3_e3 p _ hu
    have h4 := is3_e3 s _ hu
    simp only [turn_N, st]
    unfold mvC
    generalize cmp m.1 i = u at *
    generalize cmp m.2 i = b at *
    generalize cmp p u = v at *
    generalize cmp s u = z at *
    generalize e3 p = pD at *
    generalize e3 s = sD at *
    generalize e3 m.1 = d1 at *
    generalize e3 m.2 = d2 at *
    generalize eMv m = mD at *
    have al : acc.length < 16777216 := by omega
    by_cases c : b = 1
    · subst c
      simp -implicitDefEqProofs [b_L_moved_1, m0, m1, h1, h2, h3, h4, sizeLine_eq, al]
    · simp -implicitDefEqProofs [b_L_moved_1, m0, m1, h1, h2, h3, h4, sizeLine_eq, al, c]
  have loop : forR (tgN 4) b_L_moved_1 [.int 0, .int 1, .int 2] (st []) = .nx (st [.int (mvC s m p 0), .int (mvC s m p 1), .int (mvC s m p 2)]) := by
    rw [forR_cons, t 0 (.inl rfl) [] (by decide), next_nx, forR_cons, t 1 (.inr (.inl rfl)) _ (by simp), next_nx, forR_cons, t 2 (.inr (.inr rfl)) _ (by simp), next_nx, forR_nil]
    rfl
  simp only [st] at loop
  have e : q_L_moved [e3 s, eMv m, e3 p] = resM (d_L_moved [.sh (e3 s), .sh (eMv m), .sh (e3 p), .no, .no, .no]) := rfl
  rw [e, show e3 (mvP s m p) = .tup [.int (mvC s m p 0), .int (mvC s m p 1), .int (mvC s m p 2)] from rfl]
  generalize mvC s m p 0 = x0 at *
  generalize mvC s m p 1 = x1 at *
  generalize mvC s m p 2 = x2 at *
  simp -implicitDefEqProofs [d_L_moved, sizeLine_eq, loop, resM]

theorem q_Lmoved_sizes (s : P3) (m : Mv) (hm : m ∈ movesL) : q_L_moved_sizes [e3 s, eMv m] = .ok (e3 (mvS s m)) := by
  have h0 := is3_e3 m.1 0 (.inl rfl)
  have h1 := is3_e3 m.1 1 (.inr (.inl rfl))
  have h2 := is3_e3 m.1 2 (.inr (.inr rfl))
  have s0 := is3_e3 s _ (ordIx hm (i := 0) (.inl rfl))
  have s1 := is3_e3 s _ (ordIx hm (i := 1) (.inr (.inl rfl)))
  have s2 := is3_e3 s _ (ordIx hm (i := 2) (.inr (.inr rfl)))
  have m0 : idxG (eMv m) (.int 0) = .ok (e3 m.1) := by simp [eMv]
  have e : q_L_moved_sizes [e3 s, eMv m] = resM (d_L_moved_sizes [.sh (e3 s), .sh (eMv m)]) := rfl
  rw [e, show e3 (mvS s m) = .tup [.int (cmp s (cmp m.1 0)), .int (cmp s (cmp m.1 1)), .int (cmp s (cmp m.1 2))] from rfl]
  generalize e3 s = sD at *
  generalize e3 m.1 = oD at *
  generalize eMv m = mD at *
  simp -implicitDefEqProofs [d_L_moved_sizes, m0, h0, h1, h2, s0, s1, s2, sizeLine_eq, resM]

theorem q_Lmoved_stone (s : P3) (m : Mv) (xs : List P3) (hm : m ∈ movesL) (hl : xs.length ≤ 1000000) : q_L_moved_stone [e3 s, eMv m, .lst (xs.map e3)] = .ok (.lst ((mvX s m xs).map e3)) := by
  have c1 := compL_map (tg := tgN 3) (c := cYes) (f := e_L_moved_stone_1) e3 [.sh (e3 s), .sh (eMv m), .sh (.lst (xs.map e3)), .no] (fun p => e3 (mvP s m p)) xs (fun p _ => by
    have q := q_Lmoved s p m hm
    generalize e3 p = pD at *
    generalize eMv m = mD at *
    generalize e3 (mvP s m p) = rD at *
    simp -implicitDefEqProofs [e_L_moved_stone_1, q])
  rw [show (xs.map fun p => e3 (mvP s m p)) = (xs.map (mvP s m)).map e3 by rw [List.map_map]; rfl] at c1
  have hs := sorted_e3 (xs.map (mvP s m))
  have hxl : (xs.map e3).length ≤ 16777216 := by rw [List.length_map]; omega
  have e : q_L_moved_stone [e3 s, eMv m, .lst (xs.map e3)] = resM (d_L_moved_stone [.sh (e3 s), .sh (eMv m), .sh (.lst (xs.map e3)), .no]) := rfl
  rw [e]
  unfold mvX
  generalize (xs.map (mvP s m)).map e3 = ys at *
  generalize xs.map e3 = xe at *
  simp -implicitDefEqProofs [d_L_moved_stone, hxl, sizeLine_eq, c1, hs, resM]

theorem q_Lmoves : q_L_moves [] = .ok (.lst (movesL.map eMv)) := by with_unfolding_all rfl

/-! ### drawn names -/
theorem q_Lleast (s : P3) (xs : List P3) (hl : xs.length ≤ 1000000) : q_L_least [e3 s, .lst (xs.map e3)] = .ok (encF (leastF (movesL.map (formOf s xs)))) := by
  let R (acc : Option Fm) : Rho := [.sh (e3 s), .sh (.lst (xs.map e3)), .fr (encF acc), .no, .no]
  have loop := (forR_fold (tg := tgN 3) (b := b_L_least_1) eMv R (fun _ => True) (fun acc x => lessF acc (formOf s xs x)) movesL none trivial (fun acc x hx _ => by
    refine ⟨trivial, ?_⟩
    have q1 := q_Lmoved_sizes s x hx
    have q2 := q_Lmoved_stone s x xs hx (by omega)
    have hF : eF (formOf s xs x) = .tup [e3 (mvS s x), .lst ((mvX s x xs).map e3)] := rfl
    rw [turn_N]
    simp only [R]
    unfold lessF
    cases acc with
    | none =>
      simp only [encF, hF]
      generalize e3 (mvS s x) = r1 at *
      generalize (mvX s x xs).map e3 = r2 at *
      generalize eMv x = xD at *
      generalize e3 s = sD at *
      generalize xs.map e3 = xsD at *
      simp -implicitDefEqProofs [b_L_least_1, q1, q2, sizeLine_eq]
    | some l =>
      have h1 := lt_e3 (mvS s x) l.1
      have h2 := eq_e3 (mvS s x) l.1
      have h3 := lt_lists (mvX s x xs) l.2
      have hor : (lt3 (mvS s x) l.1 || (decide (mvS s x = l.1) && ltX (mvX s x xs) l.2)) = ltF (mvS s x, mvX s x xs) l := ltF_or (mvS s x, mvX s x xs) l
      rw [show formOf s xs x = (mvS s x, mvX s x xs) from rfl] at hF ⊢
      have l0 : idxG (eF l) (.int 0) = .ok (e3 l.1) := by simp [eF]
      have l1 : idxG (eF l) (.int 1) = .ok (.lst (l.2.map e3)) := by simp [eF]
      have hnn : isNonD (eF l) = false := rfl
      simp only [encF]
      generalize ltF (mvS s x, mvX s x xs) l = c at hor ⊢
      have hE : encF (if c = true then some (mvS s x, mvX s x xs) else some l) = if c = true then eF (mvS s x, mvX s x xs) else eF l := by cases c <;> rfl
      simp only [encF] at hE
      rw [hE]
      clear hE
      generalize lt3 (mvS s x) l.1 = c1 at h1 hor
      generalize decide (mvS s x = l.1) = c2 at h2 hor
      generalize ltX (mvX s x xs) l.2 = c3 at h3 hor
      generalize eF l = lD at *
      generalize l.2.map e3 = l2D at *
      generalize e3 l.1 = l1D at *
      generalize eF (mvS s x, mvX s x xs) = fD at *
      generalize e3 (mvS s x) = r1 at *
      generalize (mvX s x xs).map e3 = r2 at *
      generalize eMv x = xD at *
      generalize e3 s = sD at *
      generalize xs.map e3 = xsD at *
      cases c1 <;> cases c2 <;> cases c3 <;> cases c <;> first | (exfalso; simp at hor; done) | simp -implicitDefEqProofs [b_L_least_1, q1, q2, l0, l1, hnn, h1, h2, h3, sizeLine_eq, hF])).1
  rw [show movesL.foldl (fun acc m => lessF acc (formOf s xs m)) none = leastF (movesL.map (formOf s xs)) by unfold leastF; rw [List.foldl_map]] at loop
  simp only [R] at loop
  have q := q_Lmoves
  have e : q_L_least [e3 s, .lst (xs.map e3)] = resM (d_L_least [.sh (e3 s), .sh (.lst (xs.map e3)), .no, .no, .no]) := rfl
  rw [e]
  have hE : encF none = .non := rfl
  rw [hE] at loop
  generalize encF (leastF (movesL.map (formOf s xs))) = r at *
  generalize movesL.map eMv = mvs at *
  generalize e3 s = sD at *
  generalize xs.map e3 = xD at *
  simp -implicitDefEqProofs [d_L_least, q, loop, resM]

/-! ### a drawn pebble -/
theorem marksD_snoc (L : List P3) (q : P3) : marksD (L ++ [q]) = putT (marksD L) (k3 q) (.bl true) := by
  unfold marksD VL.markD
  rw [List.foldl_append]
  rfl
theorem q_pebble (ns : List Int) (k : Int) (hk : 0 ≤ k ∧ k < 1000000) (hn : ns.length ≤ 63) : ∃ (s : P3) (Z : List P3), Sz 6 s ∧ Z.Sublist (places s) ∧ q_L_pebble [.fz (ns.map .int), .int k] = .ok (.tup [e3 s, .lst (Z.map e3)]) := by
  obtain ⟨L, h1, h2, h3⟩ := q_digits ns k 210 7 hk (by decide) (by decide) hn
  match L, h1, h2, h3 with
  | [x0, x1, x2, x3, x4, x5, x6], _, h2, h3 =>
    have hx (x : Int) (hx : x ∈ [x0, x1, x2, x3, x4, x5, x6]) := h2 x hx
    have b4 := hx x4 (by simp)
    have b5 := hx x5 (by simp)
    have b6 := hx x6 (by simp)
    obtain ⟨s, hs⟩ : ∃ s : P3, s = (1 + x0 % 2, 1 + x1 % 2, 1 + x2 % 2) := ⟨_, rfl⟩
    have hz : Sz 6 s := by rw [hs]; unfold Sz; simp only; omega
    have hall := q_Lall s (hz.le (by decide))
    have m2 (i : Int) := mod_ok (i := i) (j := 2) (by decide)
    have m3 (i : Int) := mod_ok (i := i) (j := 3) (by decide)
    have m4 (i : Int) := mod_ok (i := i) (j := 4) (by decide)
    have hlen := hz.len (n := 6)
    have hpos : 0 < (places s).length := by
      have : inB s (0, 0, 0) = true := by
        rw [inB_iff]
        obtain ⟨g1, g2, g3⟩ := hz
        simp only
        omega
      exact List.length_pos_of_mem (mem_places.mpr (inB_iff.mp this))
    have mp (i : Int) := mod_ok (i := i) (j := ((places s).length : Nat)) (by omega)
    let st (M : List P3) : Rho := [.sh (.fz (ns.map .int)), .sh (.int k), .fr (.lst [.int x0, .int x1, .int x2, .int x3, .int x4, .int x5, .int x6]), .fr (e3 s), .fr (.lst ((places s).map e3)), .ow (.dct (marksD M)), .no]
    obtain ⟨M, ⟨hM, hMl⟩, loop⟩ := forR_nat (tg := tgN 6) (b := b_L_pebble_1) st (fun i M => (∀ q, q ∈ M → q ∈ places s) ∧ M.length ≤ i) (rngD 0 (x3 % 4).toNat) 0 [] ⟨fun q hq => (by cases hq), Nat.le_refl 0⟩ fun i M d hd hI => by
      obtain ⟨rfl, hi⟩ := rngD_get hd
      rw [Nat.zero_add] at hI ⊢
      obtain ⟨hM, hMl⟩ := hI
      obtain ⟨x, hx, ei, ed⟩ : ∃ x : Int, 0 ≤ x ∧ (idxG (.lst [.int x0, .int x1, .int x2, .int x3, .int x4, .int x5, .int x6]) (.int (4 + ((i : Nat) : Int) % 3)) = .ok (.int x)) ∧ fdivNG (.int x) (.int (1 + (i : Nat))) = .ok (.int (x / (1 + (i : Nat)))) := by
        have : i = 0 ∨ i = 1 ∨ i = 2 := by omega
        rcases this with rfl | rfl | rfl
        · exact ⟨x4, b4.1, rfl, fdivN_ok (by decide)⟩
        · exact ⟨x5, b5.1, rfl, fdivN_ok (by decide)⟩
        · exact ⟨x6, b6.1, rfl, fdivN_ok (by decide)⟩
      have t0 := Int.emod_nonneg (x / (1 + (i : Nat))) (show (((places s).length : Nat) : Int) ≠ 0 by omega)
      have t1 := Int.emod_lt_of_pos (x / (1 + (i : Nat))) (show 0 < (((places s).length : Nat) : Int) by omega)
      obtain ⟨t, ht⟩ : ∃ t, t = x / (1 + ((i : Nat) : Int)) % ((places s).length : Nat) := ⟨_, rfl⟩
      rw [← ht] at t0 t1
      have hp := mp (x / (1 + (i : Nat)))
      rw [← ht] at hp
      have htl : t.toNat < (places s).length := by omega
      have eq : atI ((places s).map e3) t = some (e3 (places s)[t.toNat]) := atI_ok t0 (by rw [List.getElem?_map, List.getElem?_eq_getElem htl]; rfl)
      refine ⟨M ++ [(places s)[t.toNat]], ⟨fun q hq => ?_, by rw [List.length_append, List.length_singleton]; omega⟩, ?_⟩
      · rcases List.mem_append.mp hq with hq | hq
        · exact hM q hq
        · rw [List.mem_singleton] at hq
          rw [hq]
          exact List.getElem_mem htl
      · simp only [st]
        rw [marksD_snoc]
        have hml : (marksD M).length ≤ 0 + M.length := markD_len M []
        have hz1 : (marksD M).length < 16777216 := by omega
        have hlp : ((((places s).map e3).length : Nat) : Int) = ((places s).length : Nat) := by rw [List.length_map]
        have m3i := m3 (i : Nat)
        generalize (places s)[t.toNat] = q at *
        generalize marksD M = kvs at *
        rw [turn_N]
        simp -implicitDefEqProofs [b_L_pebble_1, m3i, ei, ed, hp, eq, sizeLine_eq]
        simp -implicitDefEqProofs [e3, sizeLine_eq, hz1]
    have hsort := sorted_keys (keys_marks M) (xs := (places s).filter fun p => decide (p ∈ M)) ((places_up s).sub List.filter_sublist) (fun q => by
      rw [mem_keyAll, List.mem_filter, decide_eq_true_eq]
      exact ⟨fun hq => ⟨hM q hq, hq⟩, fun hq => hq.2⟩)
    refine ⟨s, (places s).filter fun p => decide (p ∈ M), hz, List.filter_sublist, ?_⟩
    have ap : q_L_pebble [.fz (ns.map .int), .int k] = resM (d_L_pebble [.sh (.fz (ns.map .int)), .sh (.int k), .no, .no, .no, .no, .no]) := rfl
    have e3s : e3 s = .tup [.int (1 + x0 % 2), .int (1 + x1 % 2), .int (1 + x2 % 2)] := by rw [hs]; rfl
    have c0 := Int.emod_nonneg x3 (show (4 : Int) ≠ 0 by decide)
    have c1 := Int.emod_lt_of_pos x3 (show (0 : Int) < 4 by decide)
    have e0 : marksD [] = [] := rfl
    simp only [st, e0] at loop
    rw [ap]
    generalize ((places s).filter fun p => decide (p ∈ M)).map e3 = zz at *
    generalize marksD M = kvs at *
    generalize (places s).map e3 = pp at *
    rw [e3s] at *
    simp -implicitDefEqProofs [d_L_pebble, h3, m2, m4, hall, loop, hsort, resM, sizeLine_eq, show (-4611686018427387904 : Int) ≤ x3 % 4 by omega, show x3 % 4 < 4611686018427387904 by omega]

/-! ### the law's own kinds -/
def eNF (a : List Nat × Fm) : D := .tup [eT a.1, eF a.2]
theorem q_Lkinds (l : List (List Nat × Fm)) (hl : l.length ≤ 1000) : q_L_kinds [.lst (l.map eNF)] = .ok (.lst ((gsD (grp l)).map D.lst)) := by
  have loop := forQ_fold (ks := [3, 4]) (tg := tgT 2 (tgCons (tgN 3) (tgCons (tgN 4) tgNil))) (fb := b_L_kinds_1) eNF id [.sh (.lst (l.map eNF)), .no, .no, .no, .no] l 0 ([], []) ⟨rfl, Nat.le_refl 0, fun g hg => by cases hg⟩ fun a _ j z hz hj => by
    refine ⟨[.sh (.lst (l.map eNF)), .no, .no, .sh (eT a.1), .sh (eF a.2)], [.sh (.lst (l.map eNF)), .no, .no, .sh (eT a.1), .sh (eF a.2)], rfl, ?_, rfl⟩
    have hin := in_eFs z.2 a.2
    have hz2 := hz
    obtain ⟨g1, g2, g3⟩ := hz2
    have lft : lf (eT a.1) = true := lf_str _
    have hc : (eB (eOp ninG (eV 4) (eV 2))) ([Sl.sh (.lst (l.map eNF)), .no, .no, .sh (eT a.1), .sh (eF a.2)].set 2 (.sh (.lst (z.2.map eF)))) = .ok (!decide (a.2 ∈ z.2)) := by
      by_cases c : a.2 ∈ z.2
      · rw [decide_eq_true c] at hin ⊢
        simp -implicitDefEqProofs [hin]
      · rw [decide_eq_false c] at hin ⊢
        simp -implicitDefEqProofs [hin]
    unfold b_L_kinds_1 seqQ sIfQ
    rw [hc]
    by_cases c : a.2 ∈ z.2
    · rw [decide_eq_true c]
      have hx := idx_eFs z.2 a.2 c
      exact put_old (a := a) hz (by omega) c (by simp -implicitDefEqProofs [eIndex, hx]) (by simp -implicitDefEqProofs [lft])
    · rw [decide_eq_false c]
      have ha : sAppQ (aCons (eVE 4) aNil) (gsD z) (z.2.map eF) [.sh (.lst (l.map eNF)), .no, .no, .sh (eT a.1), .sh (eF a.2)] = some (gsD z, z.2.map eF ++ [eF a.2], [.sh (.lst (l.map eNF)), .no, .no, .sh (eT a.1), .sh (eF a.2)]) := by
        have hz1 : (z.2.map eF).length < 16777216 := by rw [List.length_map]; omega
        unfold sAppQ
        rw [show (aCons (eVE 4) aNil) [.sh (.lst (l.map eNF)), .no, .no, .sh (eT a.1), .sh (eF a.2)] = .ok [eF a.2] by simp -implicitDefEqProofs []]
        simp only [appE]
        rw [if_pos (by rw [sizeLine_eq]; omega)]
      have hb : sNewQ aNil (gsD z) (z.2.map eF ++ [eF a.2]) [.sh (.lst (l.map eNF)), .no, .no, .sh (eT a.1), .sh (eF a.2)] = some (gsD z ++ [[]], z.2.map eF ++ [eF a.2], [.sh (.lst (l.map eNF)), .no, .no, .sh (eT a.1), .sh (eF a.2)]) := by
        unfold sNewQ
        rw [show aNil [.sh (.lst (l.map eNF)), .no, .no, .sh (eT a.1), .sh (eF a.2)] = .ok [] by rfl]
        simp only
        rw [if_pos ⟨by simp, by rw [sizeLine_eq]; simp, by rw [gsD_len, sizeLine_eq]; omega⟩]
      simp only [Bool.not_false]
      rw [ha]
      simp only
      rw [hb]
      simp only
      have hz' : GrpI (j + 1) (z.1 ++ [[]], z.2 ++ [a.2]) := ⟨by simp [g1], by simp; omega, fun g hg => by
        rcases List.mem_append.mp hg with hg | hg
        · have := g3 g hg; omega
        · rw [List.mem_singleton] at hg; subst hg; simp⟩
      have cm : a.2 ∈ z.2 ++ [a.2] := by simp
      have hx := idx_eFs (z.2 ++ [a.2]) a.2 cm
      simp only [List.map_append, List.map_cons, List.map_nil] at hx
      have eg : gsD z ++ [[]] = gsD (z.1 ++ [[]], z.2 ++ [a.2]) := by simp [gsD]
      have ef : z.2.map eF ++ [eF a.2] = (z.2 ++ [a.2]).map eF := by simp
      rw [eg, ef]
      have := put_old (j := 2) (fi := eIndex (eV 2) (eV 4)) (fa := aCons (eLf (eV 3)) aNil) (ρ := [.sh (.lst (l.map eNF)), .no, .no, .sh (eT a.1), .sh (eF a.2)]) (a := a) hz' (by omega) cm (by simp -implicitDefEqProofs [eIndex, hx]) (by simp -implicitDefEqProofs [lft])
      rw [this]
      have hio : (z.2 ++ [a.2]).idxOf a.2 = z.1.length := by
        rw [g1, List.idxOf_append, if_neg c]
        simp
      have es : grpS (z.1 ++ [[]], z.2 ++ [a.2]) a = grpS z a := by
        unfold grpS
        rw [if_pos cm, if_neg c]
        simp only
        rw [hio]
        refine Prod.ext ?_ rfl
        simp only
        rw [List.set_append_right _ _ (Nat.le_refl _), Nat.sub_self]
        simp
      rw [es]
      rfl
  have e0 : gsD ([], []) = [] := rfl
  rw [e0] at loop
  rw [List.map_id] at loop
  have ap : q_L_kinds [.lst (l.map eNF)] = resM (d_L_kinds [.sh (.lst (l.map eNF)), .no, .no, .no, .no]) := rfl
  have it : eLL (eVE 0) [.sh (.lst (l.map eNF)), .no, .no, .no, .no] = .ok (l.map eNF) := by simp -implicitDefEqProofs []
  have lp : sForQ 1 2 [3, 4] (eLL (eVE 0)) (tgT 2 (tgCons (tgN 3) (tgCons (tgN 4) tgNil))) b_L_kinds_1 [] [] [.sh (.lst (l.map eNF)), .no, .no, .no, .no] = some (gsD (grp l), (grp l).2.map eF, [.sh (.lst (l.map eNF)), .no, .no, .no, .no]) := by
    unfold sForQ
    rw [if_pos ⟨by decide, by decide⟩, it]
    exact loop
  rw [ap]
  have : d_L_kinds [.sh (.lst (l.map eNF)), .no, .no, .no, .no] = .rt (.lst ((gsD (grp l)).map D.lst)) := by
    unfold d_L_kinds sQ
    simp only [List.getElem?_cons_succ, List.getElem?_cons_zero]
    rw [if_pos (by decide)]
    unfold kQ
    rw [lp]
    rfl
  rw [this]
  rfl

/-! ### the first names -/
theorem q_letter_x (n : Int) (c : Nat) (h : abc[(n % 26).toNat]? = some c) : q_L_letter [.int n] = .ok (eS c) := by
  have m := mod_ok (i := n) (j := 26) (by decide)
  have h0 := Int.emod_nonneg n (show (26 : Int) ≠ 0 by decide)
  have hx : idxG (.str (Str.ofString "abcdefghijklmnopqrstuvwxyz")) (.int (n % 26)) = .ok (eS c) := by
    rw [abc_eq]
    exact atI_str (by decide) (atI_ok h0 h)
  simp -implicitDefEqProofs [q_L_letter, runF, d_L_letter, m, hx, resM]
theorem q_Lname_g (n l a : Int) (c : Nat) (hla : 0 ≤ a ∧ a < l ∧ l ≤ 12) (h0 : idxG (.tup [.int 1, .int 4, .int 7, .int 12, .int 2]) (.int (n % 5)) = .ok (.int l)) (h1 : idxG (.tup [.int 0, .int 2, .int 6, .int 3, .int 1]) (.int (n % 5)) = .ok (.int a)) (hc : abc[((n / 5 + 8) % 26).toNat]? = some c) :
    q_L_name [.int n] = .ok (eT (List.replicate a.toNat 101 ++ [c] ++ List.replicate (l - 1 - a).toNat 101)) := by
  have ec := q_letter_x (n / 5 + 8) c hc
  have m := mod_ok (i := n) (j := 5) (by decide)
  have f := fdiv_ok (i := n) (j := 5) (by decide)
  have r1 := mul_eS 101 a ⟨hla.1, by omega⟩
  have r2 := mul_eS 101 (l - 1 - a) ⟨by omega, by omega⟩
  have a1 := add_eT (List.replicate a.toNat 101) [c] (by simp; omega)
  have a2 := add_eT (List.replicate a.toNat 101 ++ [c]) (List.replicate (l - 1 - a).toNat 101) (by simp; omega)
  rw [← eS_eT] at a1
  have ee : D.str (Str.ofString "e") = eS 101 := by rw [str_e]; rfl
  generalize eT (List.replicate a.toNat 101) = d1 at *
  generalize eT (List.replicate a.toNat 101 ++ [c]) = d2 at *
  generalize eT (List.replicate (l - 1 - a).toNat 101) = d3 at *
  generalize eT (List.replicate a.toNat 101 ++ [c] ++ List.replicate (l - 1 - a).toNat 101) = d4 at *
  generalize eS c = d5 at *
  simp -implicitDefEqProofs [q_L_name, runF, d_L_name, m, f, h0, h1, ee, r1, r2, a1, a2, ec, resM, sizeLine_eq]
end Q
set_option Elab.async false
set_option linter.all false
set_option maxRecDepth 100000
namespace Q
open PySem L2 VL PySem.Spec PyProof.Rows
/-! ### the names are all apart -/
def nmY (n : Nat) : List Nat := match n % 5 with
  | 0 => [(abc[(n / 5 + 8) % 26]?).getD 0]
  | 1 => [101, 101, (abc[(n / 5 + 8) % 26]?).getD 0, 101]
  | 2 => [101, 101, 101, 101, 101, 101, (abc[(n / 5 + 8) % 26]?).getD 0]
  | 3 => [101, 101, 101, (abc[(n / 5 + 8) % 26]?).getD 0, 101, 101, 101, 101, 101, 101, 101, 101]
  | _ => [101, (abc[(n / 5 + 8) % 26]?).getD 0]
theorem nmY_good : ((List.range 32).all fun n => goodNm (nmY n)) = true := by decide +kernel
theorem nmY_inj_all : ((List.range 32).all fun a => (List.range 32).all fun b => decide (nmY a = nmY b → a = b)) = true := by decide +kernel
theorem nmY_inj {a b : Nat} (ha : a < 32) (hb : b < 32) (h : nmY a = nmY b) : a = b :=
  of_decide_eq_true (List.all_eq_true.mp (List.all_eq_true.mp nmY_inj_all a (List.mem_range.mpr ha)) b (List.mem_range.mpr hb)) h
theorem q_Lname_y (n : Nat) : q_L_name [.int (n : Nat)] = .ok (eT (nmY n)) := by
  obtain ⟨c, hc⟩ : ∃ c, abc[(n / 5 + 8) % 26]? = some c := ⟨_, List.getElem?_eq_getElem (show (n / 5 + 8) % 26 < abc.length from Nat.mod_lt _ (by decide))⟩
  have hc2 : abc[((((n : Nat) : Int) / 5 + 8) % 26).toNat]? = some c := by
    rw [show ((((n : Nat) : Int) / 5 + 8) % 26).toNat = (n / 5 + 8) % 26 by omega]
    exact hc
  have h5 : n % 5 = 0 ∨ n % 5 = 1 ∨ n % 5 = 2 ∨ n % 5 = 3 ∨ n % 5 = 4 := by omega
  have hi : (((n : Nat) : Int) % 5) = ((n % 5 : Nat) : Int) := by omega
  unfold nmY
  rw [hc]
  rcases h5 with q | q | q | q | q
  · have := q_Lname_g (n : Nat) 1 0 c (by decide) (by rw [hi, q]; simp) (by rw [hi, q]; simp) hc2
    rw [q]; exact this
  · have := q_Lname_g (n : Nat) 4 2 c (by decide) (by rw [hi, q]; simp) (by rw [hi, q]; simp) hc2
    rw [q]; exact this
  · have := q_Lname_g (n : Nat) 7 6 c (by decide) (by rw [hi, q]; simp) (by rw [hi, q]; simp) hc2
    rw [q]; exact this
  · have := q_Lname_g (n : Nat) 12 3 c (by decide) (by rw [hi, q]; simp) (by rw [hi, q]; simp) hc2
    rw [q]; exact this
  · have := q_Lname_g (n : Nat) 2 1 c (by decide) (by rw [hi, q]; simp) (by rw [hi, q]; simp) hc2
    rw [q]; exact this
structure Inv65 (i : Nat) (rs : List Rw) : Prop where
  nd : (rs.map Rw.nm).Nodup
  nm : ∀ r, r ∈ rs → ∃ k, k < i ∧ r.nm = nmY k
  l : rs.length ≤ i
def eNR (r : Rw) : D := .tup [eT r.nm, eF r.f]
theorem plain_texts (n : Nat) (L : List (List Nat)) (h : L.length ≤ 1000) : plainD (n + 2) (.lst (L.map eT)) = true := by
  simp only [plainD, Bool.and_eq_true, decide_eq_true_eq]
  exact ⟨by rw [List.length_map, sizeLine_eq]; omega, plainA_map (fun t => by rfl) _⟩
theorem grp_ok : ∀ (l : List (List Nat × Fm)) (i : Nat) (z : List (List (List Nat)) × List Fm), GrpI i z → GrpI (i + l.length) (l.foldl grpS z)
  | [], i, z, h => h
  | a :: l, i, z, h => by
    have := grp_ok l (i + 1) (grpS z a) (grpS_ok h)
    rw [List.length_cons, show i + (l.length + 1) = i + 1 + l.length by omega]
    exact this
theorem plain_groups (z : List (List (List Nat)) × List Fm) {i : Nat} (h : GrpI i z) (hi : i ≤ 1000) : plainD 6 (.lst ((gsD z).map D.lst)) = true := by
  obtain ⟨h1, h2, h3⟩ := h
  have hp : ∀ gs : List (List (List Nat)), (∀ g, g ∈ gs → g.length ≤ i) → plainA 5 ((gs.map fun g => g.map eT).map D.lst) = true := by
    intro gs
    induction gs with
    | nil => intro _; rfl
    | cons g gs ih =>
      intro hg
      have e1 := plain_texts 3 g (by have := hg g List.mem_cons_self; omega)
      have e2 := ih fun x hx => hg x (List.mem_cons_of_mem _ hx)
      show (plainD 5 (.lst (g.map eT)) && plainA 5 ((gs.map fun g => g.map eT).map D.lst)) = true
      rw [e1, e2]
      rfl
  show (decide (((gsD z).map D.lst).length ≤ sizeLine) && plainA 5 ((gsD z).map D.lst)) = true
  rw [Bool.and_eq_true, decide_eq_true_eq]
  exact ⟨by rw [List.length_map, gsD_len, sizeLine_eq]; omega, hp z.1 h3⟩
theorem math (ns : List Int) (hn : ns.length ≤ 63) : q_law [.fz (ns.map .int)] = .ok (.bl true) := by
  obtain ⟨m, hm0, hm1, em⟩ := q_one ns 0 17 (by decide) (by decide) hn
  have e : q_law [.fz (ns.map .int)] = resM (d_law [.sh (.fz (ns.map .int)), .no, .no, .no, .no, .no, .no, .no, .no, .no, .no]) := rfl
  rw [e]
  unfold d_law
  rw [sMk_eq (as := []) (r := .bl true) (by simp -implicitDefEqProofs []) ?_]
  · rfl
  intro x
  have hi := q_shelf_init x
  simp only [outMk, hi]
  rw [if_pos (by simp)]
  show sSeq _ _ [.sh (.fz (ns.map .int)), .ow (eSf x []), .no, .no, .no, .no, .no, .no, .no, .no, .no] = _
  let st (rs : List Rw) : Rho := [.sh (.fz (ns.map .int)), .ow (eSf x rs), .ow (.lst (rs.map eNR)), .no, .no, .no, .no, .no, .no, .no, .no]
  obtain ⟨rs, J, l1⟩ := forR_nat (tg := tgN 3) (b := b_law_3) st (fun i rs => Inv65 i rs) (rngD 0 (8 + m).toNat) 0 [] ⟨List.nodup_nil, fun r hr => (by cases hr), Nat.le_refl 0⟩ fun i rs d hd hI => by
    obtain ⟨rfl, hi⟩ := rngD_get hd
    rw [Nat.zero_add] at hI ⊢
    have hi24 : i < 25 := by omega
    obtain ⟨s, Z, hs, hZ, ep⟩ := q_pebble ns (2 + (i : Nat)) (by omega) hn
    have hzl := sub_len hs hZ
    have el := q_Lleast s Z (by omega)
    rw [leastF_lfm] at el
    change _ = M.ok (eF (lfm s Z)) at el
    have en := q_Lname_y i
    have hgood : goodNm (nmY i) = true := List.all_eq_true.mp nmY_good i (List.mem_range.mpr (by omega))
    have hnew : nmY i ∉ rs.map Rw.nm := fun hm => by
      obtain ⟨r, hr, he⟩ := List.mem_map.mp hm
      obtain ⟨k, hk, hk2⟩ := hI.nm r hr
      have := nmY_inj (a := k) (b := i) (by omega) (by omega) (by rw [← hk2, he])
      omega
    have cok (j : Nat) (hj : j ≤ 25) (qs : List Rw) (h : Inv65 j qs) : ∀ r, r ∈ qs → Cok r.nm := fun r hr => by
      obtain ⟨k, hk, hk2⟩ := h.nm r hr
      rw [hk2]
      exact goodNm_cok (List.all_eq_true.mp nmY_good k (List.mem_range.mpr (by omega)))
    have hl := hI.l
    have eput := q_shelf_put x rs (nmY i) s Z hgood hnew (cok i (by omega) rs hI) hs hZ (by omega)
    have I1 : Inv65 (i + 1) (rs ++ [⟨nmY i, s, Z⟩]) := ⟨by
      rw [List.map_append, List.nodup_append]
      refine ⟨hI.nd, by simp, fun a ha b hb e => ?_⟩
      rw [List.map_cons, List.map_nil, List.mem_singleton] at hb
      exact hnew (by rw [e, hb] at ha; exact ha), fun r hr => by
      rcases List.mem_append.mp hr with hr | hr
      · obtain ⟨k, hk, hk2⟩ := hI.nm r hr
        exact ⟨k, by omega, hk2⟩
      · rw [List.mem_singleton] at hr
        subst hr
        exact ⟨i, by omega, rfl⟩, by rw [List.length_append, List.length_singleton]; omega⟩
    have c := compL_filt (tg := tgN 9) (c := c_law_2) (f := e_law_1) eNR [.sh (.fz (ns.map .int)), .sh (eSf x rs), .sh (.lst (rs.map eNR)), .sh (.int (i : Nat)), .sh (e3 s), .sh (.lst (Z.map e3)), .sh (eF (lfm s Z)), .sh (eT (nmY i)), .no, .no, .no] (fun r => decide (r.f = lfm s Z)) (fun r => eT r.nm) rs (fun r _ => by
      have e := eq_eF r.f (lfm s Z)
      have i0 : idxG (eNR r) (.int 0) = .ok (eT r.nm) := by simp [eNR]
      have i1 : idxG (eNR r) (.int 1) = .ok (eF r.f) := by simp [eNR]
      by_cases h : r.f = lfm s Z
      · rw [decide_eq_true h] at e
        simp -implicitDefEqProofs [pickC, c_law_2, e_law_1, e, i0, i1, eq_true h]
      · rw [decide_eq_false h] at e
        simp -implicitDefEqProofs [pickC, c_law_2, e_law_1, e, i0, i1, h])
    have al : q_L_alike 6 [.lst ((rs.filter fun r => decide (r.f = lfm s Z)).map fun r => eT r.nm), .lst ((rs.filter fun r => decide (r.f = lfm s Z)).map fun r => eT r.nm)] = .ok (.bl true) := by
      refine alike_self ?_
      have := plain_texts 4 ((rs.filter fun r => decide (r.f = lfm s Z)).map Rw.nm) (by rw [List.length_map]; have := List.length_filter_le (fun r => decide (r.f = lfm s Z)) rs; omega)
      rw [List.map_map] at this
      exact this
    have ecat : (rs ++ [(⟨nmY i, s, Z⟩ : Rw)]).map eNR = rs.map eNR ++ [.tup [eT (nmY i), eF (lfm s Z)]] := by rw [List.map_append]; rfl
    have hz2 : (rs.map eNR).length ≤ 16777216 := by rw [List.length_map]; omega
    have hz1 : (rs.map eNR).length < 16777216 := by rw [List.length_map]; omega
    have sm : eSf x rs = .obj x "Shelf" [("rows" : Str)] [.lst (rs.map eRw)] := rfl
    have ob : isObj (eSf x rs) = true := rfl
    have hm1 : ¬ ("put" : Str) = "rows" := by decide +kernel
    have hm2 : ¬ ("take" : Str) = "rows" := by decide +kernel
    have m3 := mod_ok (i := (i : Nat)) (j := 3) (by decide)
    have emo (qs : List Rw) (G : List D → MO) (mm : Str) (hmm : ¬ mm = ("rows" : Str)) (fa : Rho → M (List D)) (ρ : Rho) (as : List D) (h1 : ρ[1]? = some (.ow (eSf x qs))) (h2 : fa ρ = .ok as) : eMethO 1 "Shelf" mm G fa ρ = moR 1 ρ (G (eSf x qs :: as)) := by
      unfold eMethO
      rw [h1]
      unfold eSf
      simp only
      rw [if_pos ⟨trivial, by simpa using hmm⟩, h2]
    -- the last statement
    generalize (rs.filter fun r => decide (r.f = lfm s Z)).map (fun r => eT r.nm) = DF at *
    have last : ∃ (qs : List Rw) (u : Sl), Inv65 (i + 1) qs ∧ (sIf (eB (eOp eqG (eOp modG (eV 3) (eC (.int 3))) (eC (.int 2)))) (sSeq (sPopX 10 2 (eOp modG (eCall q_L_one (aCons (eV 0) (aCons (eOp addG (eC (.int 30)) (eV 3)) (aCons (eC (.int 60)) aNil)))) (eBlt lenG (aCons (eV 2) aNil)))) (sExO (eMethO 1 "Shelf" "take" q_Shelf_take (aCons (eOp idxG (eV 10) (eC (.int 0))) aNil)))) sNil) [.sh (.fz (ns.map .int)), .ow (eSf x (rs ++ [⟨nmY i, s, Z⟩])), .ow (.lst ((rs ++ [(⟨nmY i, s, Z⟩ : Rw)]).map eNR)), .sh (.int (i : Nat)), .sh (e3 s), .sh (.lst (Z.map e3)), .fr (eF (lfm s Z)), .fr (eT (nmY i)), .fr (.lst DF), .no, .no] = .nx [.sh (.fz (ns.map .int)), .ow (eSf x qs), .ow (.lst (qs.map eNR)), .sh (.int (i : Nat)), .sh (e3 s), .sh (.lst (Z.map e3)), .fr (eF (lfm s Z)), .fr (eT (nmY i)), .fr (.lst DF), .no, u] := by
      by_cases c3 : ((i : Nat) : Int) % 3 = 2
      · obtain ⟨r, hr0, hr1, er⟩ := q_one ns (30 + (i : Nat)) 60 (by omega) (by decide) hn
        generalize hR : rs ++ [(⟨nmY i, s, Z⟩ : Rw)] = R1 at *
        have hRl : 0 < R1.length := by rw [← hR]; simp
        obtain ⟨t, ht⟩ : ∃ t, t = r % (R1.length : Nat) := ⟨_, rfl⟩
        have t0 := Int.emod_nonneg r (show ((R1.length : Nat) : Int) ≠ 0 by omega)
        have t1 := Int.emod_lt_of_pos r (show 0 < ((R1.length : Nat) : Int) by omega)
        have hmod := mod_ok (i := r) (j := (R1.length : Nat)) (by omega)
        rw [← ht] at t0 t1 hmod
        have htl : t.toNat < R1.length := by omega
        have hat : R1[t.toNat]? = some R1[t.toNat] := List.getElem?_eq_getElem htl
        have etk := q_shelf_take x R1 R1[t.toNat] t.toNat I1.nd (cok (i + 1) (by omega) R1 I1) hat
        refine ⟨R1.eraseIdx t.toNat, .fr (eNR R1[t.toNat]), ⟨?_, fun q hq => I1.nm q (List.mem_of_mem_eraseIdx hq), by have := List.length_eraseIdx_le R1 t.toNat; have := I1.l; omega⟩, ?_⟩
        · rw [map_erase]
          exact (List.eraseIdx_sublist _ _).nodup I1.nd
        · have hln : (((R1.map eNR).length : Nat) : Int) = (R1.length : Nat) := by rw [List.length_map]
          have hatD : (R1.map eNR)[t.toNat]? = some (eNR R1[t.toNat]) := by rw [List.getElem?_map, hat]; rfl
          have i0 : idxG (eNR R1[t.toNat]) (.int 0) = .ok (eT R1[t.toNat].nm) := by simp [eNR]
          have em2 := map_erase eNR R1 t.toNat
          have hl62 : (R1.length : Int) < 2 ^ 62 := by have := I1.l; omega
          generalize R1[t.toNat] = rt at *
          have hpop : sPopX 10 2 (eOp modG (eCall q_L_one (aCons (eV 0) (aCons (eOp addG (eC (.int 30)) (eV 3)) (aCons (eC (.int 60)) aNil)))) (eBlt lenG (aCons (eV 2) aNil))) [.sh (.fz (ns.map .int)), .ow (eSf x R1), .ow (.lst (R1.map eNR)), .sh (.int (i : Nat)), .sh (e3 s), .sh (.lst (Z.map e3)), .fr (eF (lfm s Z)), .fr (eT (nmY i)), .fr (.lst DF), .no, .no] = .nx [.sh (.fz (ns.map .int)), .ow (eSf x R1), .ow (.lst ((R1.eraseIdx t.toNat).map eNR)), .sh (.int (i : Nat)), .sh (e3 s), .sh (.lst (Z.map e3)), .fr (eF (lfm s Z)), .fr (eT (nmY i)), .fr (.lst DF), .no, .fr (eNR rt)] := by
            unfold sPopX
            rw [show (eOp modG (eCall q_L_one (aCons (eV 0) (aCons (eOp addG (eC (.int 30)) (eV 3)) (aCons (eC (.int 60)) aNil)))) (eBlt lenG (aCons (eV 2) aNil))) [.sh (.fz (ns.map .int)), .ow (eSf x R1), .ow (.lst (R1.map eNR)), .sh (.int (i : Nat)), .sh (e3 s), .sh (.lst (Z.map e3)), .fr (eF (lfm s Z)), .fr (eT (nmY i)), .fr (.lst DF), .no, .no] = .ok (.int t) by simp -implicitDefEqProofs [er, hmod]]
            simp only [List.getElem?_cons_succ, List.getElem?_cons_zero, ofM_ok]
            rw [if_pos ⟨t0, by rw [List.length_map]; omega, by omega, by decide⟩, hatD]
            rw [em2]
            rfl
          have htake : sExO (eMethO 1 "Shelf" "take" q_Shelf_take (aCons (eOp idxG (eV 10) (eC (.int 0))) aNil)) [.sh (.fz (ns.map .int)), .ow (eSf x R1), .ow (.lst ((R1.eraseIdx t.toNat).map eNR)), .sh (.int (i : Nat)), .sh (e3 s), .sh (.lst (Z.map e3)), .fr (eF (lfm s Z)), .fr (eT (nmY i)), .fr (.lst DF), .no, .fr (eNR rt)] = .nx [.sh (.fz (ns.map .int)), .ow (eSf x (R1.eraseIdx t.toNat)), .ow (.lst ((R1.eraseIdx t.toNat).map eNR)), .sh (.int (i : Nat)), .sh (e3 s), .sh (.lst (Z.map e3)), .fr (eF (lfm s Z)), .fr (eT (nmY i)), .fr (.lst DF), .no, .fr (eNR rt)] := by
            rw [sExO_ap, emo R1 q_Shelf_take "take" hm2 _ _ [eT rt.nm] rfl (by simp -implicitDefEqProofs [i0]), etk]
            rfl
          have hc : (eB (eOp eqG (eOp modG (eV 3) (eC (.int 3))) (eC (.int 2)))) [.sh (.fz (ns.map .int)), .ow (eSf x R1), .ow (.lst (R1.map eNR)), .sh (.int (i : Nat)), .sh (e3 s), .sh (.lst (Z.map e3)), .fr (eF (lfm s Z)), .fr (eT (nmY i)), .fr (.lst DF), .no, .no] = .ok true := by simp -implicitDefEqProofs [m3, c3]
          unfold sIf
          rw [hc]
          show sSeq _ _ _ = _
          rw [sSeq_ap, hpop, then_nx, htake]
      · refine ⟨_, .no, I1, ?_⟩
        generalize (rs ++ [(⟨nmY i, s, Z⟩ : Rw)]).map eNR = z1 at *
        simp -implicitDefEqProofs [m3, c3]
    obtain ⟨qs, u, Iq, last⟩ := last
    refine ⟨qs, Iq, ?_⟩
    have step : sIfM (tNot (tTru (eCallM (q_L_alike 6) (eMethO 1 "Shelf" "put" q_Shelf_put (aCons (eVE 7) (aCons (eVE 4) (aCons (eBlt listG (aCons (eV 5) aNil)) aNil)))) (aCons (eV 8) aNil)))) (sRet (eC (.bl false))) sNil [.sh (.fz (ns.map .int)), .ow (eSf x rs), .ow (.lst (rs.map eNR)), .sh (.int (i : Nat)), .sh (e3 s), .sh (.lst (Z.map e3)), .fr (eF (lfm s Z)), .fr (eT (nmY i)), .fr (.lst DF), .no, .no] = .nx [.sh (.fz (ns.map .int)), .ow (eSf x (rs ++ [⟨nmY i, s, Z⟩])), .ow (.lst (rs.map eNR)), .sh (.int (i : Nat)), .sh (e3 s), .sh (.lst (Z.map e3)), .fr (eF (lfm s Z)), .fr (eT (nmY i)), .fr (.lst DF), .no, .no] := by
      have := emo rs q_Shelf_put "put" hm1 (aCons (eVE 7) (aCons (eVE 4) (aCons (eBlt listG (aCons (eV 5) aNil)) aNil))) [.sh (.fz (ns.map .int)), .ow (eSf x rs), .ow (.lst (rs.map eNR)), .sh (.int (i : Nat)), .sh (e3 s), .sh (.lst (Z.map e3)), .fr (eF (lfm s Z)), .fr (eT (nmY i)), .fr (.lst DF), .no, .no] [eT (nmY i), e3 s, .lst (Z.map e3)] rfl (by simp -implicitDefEqProofs [])
      rw [eput] at this
      simp -implicitDefEqProofs [-eMethO_ap, this, al]
    show b_law_3 [.sh (.fz (ns.map .int)), .ow (eSf x rs), .ow (.lst (rs.map eNR)), .sh (.int (i : Nat)), .no, .no, .no, .no, .no, .no, .no] = .nx [.sh (.fz (ns.map .int)), .ow (eSf x qs), .ow (.lst (qs.map eNR)), .no, .no, .no, .no, .no, .no, .no, .no]
    rw [ecat] at last
    clear I1 cok hI eput emo
    have hlc : sFrA 8 (eComp [9] (eLL (eVE 2)) (tgN 9) c_law_2 e_law_1) [.sh (.fz (ns.map .int)), .ow (eSf x rs), .ow (.lst (rs.map eNR)), .sh (.int (i : Nat)), .sh (e3 s), .sh (.lst (Z.map e3)), .fr (eF (lfm s Z)), .fr (eT (nmY i)), .no, .no, .no] = .nx [.sh (.fz (ns.map .int)), .ow (eSf x rs), .ow (.lst (rs.map eNR)), .sh (.int (i : Nat)), .sh (e3 s), .sh (.lst (Z.map e3)), .fr (eF (lfm s Z)), .fr (eT (nmY i)), .fr (.lst DF), .no, .no] := by
      unfold sFrA
      rw [show (eComp [9] (eLL (eVE 2)) (tgN 9) c_law_2 e_law_1) (shAll [.sh (.fz (ns.map .int)), .ow (eSf x rs), .ow (.lst (rs.map eNR)), .sh (.int (i : Nat)), .sh (e3 s), .sh (.lst (Z.map e3)), .fr (eF (lfm s Z)), .fr (eT (nmY i)), .no, .no, .no]) = .ok (.lst DF) by simp -implicitDefEqProofs [c, show rs.length ≤ 16777216 by omega, sizeLine_eq]]
      rfl
    generalize eSf x (rs ++ [⟨nmY i, s, Z⟩]) = s1 at *
    generalize eSf x rs = s0 at *
    generalize eSf x qs = s2 at *
    generalize qs.map eNR = q2 at *
    generalize rs.map eNR = q0 at *
    generalize eF (lfm s Z) = ff at *
    generalize eT (nmY i) = tt at *
    generalize Z.map e3 = zz at *
    generalize e3 s = es at *
    generalize ((i : Nat) : Int) = ii at *
    show b_law_3 [.sh (.fz (ns.map .int)), .ow s0, .ow (.lst q0), .sh (.int ii), .no, .no, .no, .no, .no, .no, .no] = _
    unfold b_law_3
    rw [sWipe_ap]
    rw [sSeq_ap, show sUnp (eCall q_L_pebble (aCons (eV 0) (aCons (eOp addG (eC (.int 2)) (eV 3)) aNil))) (tgT 2 (tgCons (tgN 4) (tgCons (tgN 5) tgNil))) [.sh (.fz (ns.map .int)), .ow s0, .ow (.lst q0), .sh (.int ii), .no, .no, .no, .no, .no, .no, .no] = .nx [.sh (.fz (ns.map .int)), .ow s0, .ow (.lst q0), .sh (.int ii), .sh es, .sh (.lst zz), .no, .no, .no, .no, .no] by simp -implicitDefEqProofs [ep], then_nx]
    rw [sSeq_ap, show sFr 6 (eCall q_L_least (aCons (eV 4) (aCons (eV 5) aNil))) [.sh (.fz (ns.map .int)), .ow s0, .ow (.lst q0), .sh (.int ii), .sh es, .sh (.lst zz), .no, .no, .no, .no, .no] = .nx [.sh (.fz (ns.map .int)), .ow s0, .ow (.lst q0), .sh (.int ii), .sh es, .sh (.lst zz), .fr ff, .no, .no, .no, .no] by simp -implicitDefEqProofs [el], then_nx]
    rw [sSeq_ap, show sFr 7 (eCall q_L_name (aCons (eV 3) aNil)) [.sh (.fz (ns.map .int)), .ow s0, .ow (.lst q0), .sh (.int ii), .sh es, .sh (.lst zz), .fr ff, .no, .no, .no, .no] = .nx [.sh (.fz (ns.map .int)), .ow s0, .ow (.lst q0), .sh (.int ii), .sh es, .sh (.lst zz), .fr ff, .fr tt, .no, .no, .no] by simp -implicitDefEqProofs [en], then_nx]
    rw [sSeq_ap, hlc, then_nx]
    rw [sSeq_ap, step, then_nx]
    rw [sSeq_ap, show sBm 2 appE (aCons (eTup (aCons (eVF 7) (aCons (eVF 6) aNil))) aNil) [.sh (.fz (ns.map .int)), .ow s1, .ow (.lst q0), .sh (.int ii), .sh es, .sh (.lst zz), .fr ff, .fr tt, .fr (.lst DF), .no, .no] = .nx [.sh (.fz (ns.map .int)), .ow s1, .ow (.lst (q0 ++ [.tup [tt, ff]])), .sh (.int ii), .sh es, .sh (.lst zz), .fr ff, .fr tt, .fr (.lst DF), .no, .no] by simp -implicitDefEqProofs [appE, hz1, sizeLine_eq], then_nx]
    rw [last]
    rfl
  simp only [st, List.map_nil] at l1
  have e0 : eSf x [] = .obj x "Shelf" [("rows" : Str)] [.lst []] := rfl
  have hrl : rs.length ≤ 30 := by have := J.l; rw [rngD_len] at this; omega
  have h1 := q_shelf_names x rs (by omega)
  have h2 := q_shelf_kinds x rs (by omega)
  have h3 := q_Lkinds (rs.map fun r => (r.nm, r.f)) (by rw [List.length_map]; omega)
  rw [List.map_map, show (eNF ∘ fun r : Rw => (r.nm, r.f)) = eNR from rfl] at h3
  have a1 : q_L_alike 6 [.lst (rs.map fun r => eT r.nm), .lst (rs.map fun r => eT r.nm)] = .ok (.bl true) := by
    refine alike_self ?_
    have := plain_texts 4 (rs.map Rw.nm) (by rw [List.length_map]; omega)
    rw [List.map_map] at this
    exact this
  have a2 : q_L_alike 6 [.lst ((gsD (grp (rs.map fun r => (r.nm, r.f)))).map D.lst), .lst ((gsD (grp (rs.map fun r => (r.nm, r.f)))).map D.lst)] = .ok (.bl true) := by
    refine alike_self (plain_groups _ (grp_ok (rs.map fun r => (r.nm, r.f)) 0 ([], []) ⟨rfl, Nat.le_refl 0, fun g hg => by cases hg⟩) ?_)
    rw [List.length_map]
    omega
  have c (s1 : Sl) := compL_map (tg := tgN 9) (c := cYes) (f := e_law_4) eNR [.sh (.fz (ns.map .int)), s1, .fr (.lst (rs.map eNR)), .no, .no, .no, .no, .no, .no, .no, .no] (fun r => eT r.nm) rs (fun r _ => by
    have i0 : idxG (eNR r) (.int 0) = .ok (eT r.nm) := by simp [eNR]
    simp -implicitDefEqProofs [pickC, e_law_4, i0])
  have hn1 : ¬ ("names" : Str) = "rows" := by decide +kernel
  have hn2 : ¬ ("kinds" : Str) = "rows" := by decide +kernel
  have hz : rs.length ≤ 16777216 := by omega
  unfold eSf at h1 h2 l1 ⊢
  generalize (gsD (grp (rs.map fun r => (r.nm, r.f)))).map D.lst = kk at *
  generalize (rs.map fun r => eT r.nm) = nn at *
  simp only [List.map_nil] at l1 ⊢
  simp -implicitDefEqProofs [em, l1, h1, h2, h3, a1, a2, c, hn1, hn2, hz, sizeLine_eq, show (-4611686018427387904 : Int) ≤ 8 + m by omega, show 8 + m < 4611686018427387904 by omega]

end Q
set_option Elab.async false
set_option linter.all false
set_option maxRecDepth 100000
set_option maxHeartbeats 4000000
namespace Q
end Q
namespace PySem.W.Fast
def tw11989322465759819144 := 0
def tw6706880816317402359 := 0
def tw9932514545017698773 := 0
def tw17202899153838570934 := 0
def tw3926892159988017056 := 0
def tw9942382809150433414 := 0
def tw13207754908559277184 := 0
def tw7574126400393865237 := 0
def tw12283190694005931338 := 0
def tw5518183246946366075 := 0
def tw16589190469065563460 := 0
def tw14732527171983815060 := 0
def tw10511130709196859068 := 0
def tw414829754943985773 := 0
def tw15586177583504239723 := 0
def tw10092937042918437491 := 0
def tw15097513769930365768 := 0
def tw10477946797895150500 := 0
def tw13249275729787289262 := 0
def tw6793480862611844300 := 0
def tw1791717757421133298 := 0
def tw897051770510552947 := 0
def tw14774041821187646927 := 0
def tw5230219044858369022 := 0
def tw1123121648808842669 := 0
def tw12498049710368472276 := 0
def tw7942947687344388912 := 0
def tw4293071680271295789 := 0
def tw11473417315564005416 := 0
def tw5265800897613223201 := 0
def tw2096452967186472882 := 0
def tw11207553307863903851 := 0
def tw563962286972330602 := 0
def tw5307587686105696195 := 0
def tw7022864952121266119 := 0
def tw6298698523426245843 := 0
def tw9050691162263964067 := 0
def tw6156317503612935074 := 0
def tw9906963611833480252 := 0
def tw16329464822307797873 := 0
def tw5875811878542983246 := 0
def tw6056507634218257262 := 0
def tw3304686774867967632 := 0
def tw15849317661620653032 := 0
def tw17904145263254446633 := 0
def tw14158245558153060247 := 0
def tw4393604824240568534 := 0
def tw5595978216956156177 := 0
def tw10922722532469620525 := 0
def tw5676740478863099500 := 0
def tw16503698251350322882 := 0
def tw4072693962860977301 := 0
def tw2318430778189549455 := 0
def tw11583455277760223884 := 0
def tw9491078557953178169 := 0
def tw12676975947912222034 := 0
def tw1302339612021295391 := 0
def tw9125823733034488228 := 0
def tw16663415627045767438 := 0
def tw8874893928296373018 := 0
def tw12692560519010902363 := 0
def tw7125239479475280371 := 0
def tw8741067645982552107 := 0
def tw10731756432183002309 := 0
def tw12353390697348471721 := 0
def tw11853515150985958900 := 0
def tw14805159598808570618 := 0
def tw15005013246902606160 := 0
def tw200179479028749080 := 0
def tw8543124641061337317 := 0
def tw13792961032765242074 := 0
def tw9979332873949756317 := 0
def tw7318944591179484621 := 0
def tw1732126510844206571 := 0
def tw3254893253553520412 := 0
def tw7764826417477793892 := 0
def tw8775765234647791125 := 0
def tw18042393982308566622 := 0
def tw14778235801012852529 := 0
def tw8546291806388585743 := 0
def tw10802385467000698756 := 0
def tw2138438284067668696 := 0
def tw3468564751220814423 := 0
def tw3820741114671519161 := 0
def tw15784805290125342973 := 0
def tw9251633231857126814 := 0
def tw12170840060005170389 := 0
def tw16278639848128120110 := 0
def tw13635914529026227528 := 0
def tw7829844722142642649 := 0
def tw11828314292060645406 := 0
def tw3625251938171771431 := 0
def tw6616054940217553956 := 0
def tw17896421660312119228 := 0
def tw12866080618813187056 := 0
def tw4216680498489357013 := 0
def tw12882011235258812402 := 0
def tw13627446598038313878 := 0
def tw3922175880862178120 := 0
def tw10812025102719232908 := 0
def tw347652625370548960 := 0
def tw11609397540302909168 := 0
def tw13301687400100339028 := 0
def tw14701006971786819131 := 0
def tw7988018613810619199 := 0
def tw12637154611855645446 := 0
def tw10459143417568673949 := 0
def tw2527714553365716212 := 0
def tw13091327997747072344 := 0
def tw2493409615266476057 := 0
def tw2403356130920803078 := 0
def tw8990706511936857653 := 0
def tw14620603036624928908 := 0
def tw15336046798254348850 := 0
def tw4413370242357365297 := 0
def tw8054848051615558792 := 0
def tw949877976664256692 := 0
def tw12587008729773897917 := 0
def tw10913668436095465879 := 0
def tw9002568565250634384 := 0
def tw3956436612809339010 := 0
def tw790658773919068970 := 0
def tw5653240548605025250 := 0
def tw1423992615686925442 := 0
def tw15047028453040546121 := 0
def tw16999508575166053099 := 0
def tw9769817122207427781 := 0
def tw12114901449972963354 := 0
def tw10387976040162953648 := 0
def tw1857314678181559251 := 0
def tw1430563226413615601 := 0
def tw17384720136085497977 := 0
def tw16415721008537198320 := 0
def tw582390577586869315 := 0
def tw5166367810733572811 := 0
def tw12670011001903996283 := 0
def tw5899830557491970852 := 0
def tw10890739121728019697 := 0
def tw9155815221841411193 := 0
def tw5053647279142446955 := 0
def tw6214643978930419159 := 0
def tw12211660438080267357 := 0
def tw17549604630372704066 := 0
def tw9532898416264232525 := 0
def tw16040855811164814 := 0
def tw6587284097862715662 := 0
def tw2179825018311047010 := 0
def tw3942611936552831309 := 0
def tw12929766023531169251 := 0
def tw4532988933335848871 := 0
def tw3966006986152953833 := 0
def tw14768326295639755541 := 0
def tw14986149716276231850 := 0
def tw2390123561985017376 := 0
def tw16439198116476515072 := 0
def tw3691725481856974966 := 0
def tw10570308232259017496 := 0
def tw15707315097375928252 := 0
def tw2358042895962398031 := 0
def tw1397546701735150520 := 0
def tw13815425966318206537 := 0
def tw2820452498399990033 := 0
def tw12576816747485888853 := 0
def tw11797938783587159096 := 0
def tw8902289353322817321 := 0
def tw13774886188910914793 := 0
def tw4940918954821052229 := 0
def tw4623690416013345217 := 0
def tw16345121230510759415 := 0
def tw8337704927069858393 := 0
def tw11772229345618777979 := 0
def tw16995141776617467340 := 0
def tw13589991639495837550 := 0
def tw1439683805574615898 := 0
def tw15848478869650921353 := 0
def tw6903938128863110989 := 0
def tw16430033509994873525 := 0
def tw15870440045653591772 := 0
def tw17227225830724512759 := 0
def tw2444393174246574793 := 0
def tw2588092430478395825 := 0
def tw13676685638464904512 := 0
def tw9632647243570302451 := 0
def tw3976125468391339747 := 0
def tw13099488809732112080 := 0
def tw6435855987049008609 := 0
def tw4243494551612434979 := 0
def tw8625408513952114832 := 0
def tw12352175814857206255 := 0
def tw14857228149889514875 := 0
def tw11366477256815773524 := 0
def tw1309790073524445050 := 0
def tw12286865425882542120 := 0
def tw7795520561364442240 := 0
def tw11414530483047930301 := 0
def tw17498085557372022783 := 0
def tw13855747840979558349 := 0
def tw14364475690715856110 := 0
def tw154546893848512926 := 0
def tw15880183446213287368 := 0
def tw9594170457886743902 := 0
def tw12049127148604451871 := 0
def tw15869446752416482051 := 0
def tw4029334593130718197 := 0
def tw142773210707187958 := 0
def tw3359806376669924030 := 0
def tw11717756417887134119 := 0
def tw24885814956388880 := 0
def tw5129941206367551116 := 0
def tw40152729183702682 := 0
def tw6111744172405466286 := 0
def tw8481712429896591161 := 0
def tw14194549447229584641 := 0
def tw12942193111500549932 := 0
def tw1708824926814627345 := 0
def tw9421527932278496467 := 0
def tw11708420539007364222 := 0
def tw2989953954325808834 := 0
def tw6704252368514188555 := 0
def tw14471167614000229075 := 0
def tw6236724405022369654 := 0
def tw10143138987880017359 := 0
def tw17719686087891289024 := 0
def tw3899881940099564490 := 0
def tw8162835636161226763 := 0
def tw12978300896005706685 := 0
def tw18401003897940661838 := 0
def tw7587274392070801242 := 0
def tw11630490733816850597 := 0
def tw14125207965100634355 := 0
def tw11638021593891519336 := 0
def tw11209663195630928008 := 0
def tw14420304332566740414 := 0
def tw17256675932083352909 := 0
def tw7800061612873385616 := 0
def tw900313049735354644 := 0
def tw6573968984264048686 := 0
def tw6329658402734810064 := 0
def tw4468179306930683683 := 0
def tw14930203200238841889 := 0
def tw7531765869645854529 := 0
def tw2457047459424422790 := 0
def tw8684073760686407619 := 0
def tw13024999484519976023 := 0
def tw11781481754149827566 := 0
def tw3331262624779279192 := 0
def tw10981202859600144184 := 0
def tw9657974082980273834 := 0
def tw12767002375743236136 := 0
def tw10469530057372365813 := 0
def tw1505682359727159642 := 0
def tw9487776189495891727 := 0
def tw7889874419899408803 := 0
def tw4859230641827276839 := 0
def tw1126676846257250189 := 0
def tw18025183486576686542 := 0
def tw8665430148760563785 := 0
def tw4748709939621996641 := 0
def tw2963837986261350644 := 0
def tw4077116527857183098 := 0
def tw3798046521812771826 := 0
def tw1561560512346920669 := 0
def tw10246651929721932063 := 0
def tw9705412604855865510 := 0
def tw15170302250730810373 := 0
def tw15611405241775896453 := 0
def tw6907464691321644554 := 0
def tw2227551896184476629 := 0
def tw8328597616601443311 := 0
def tw13705458587156029278 := 0
def tw11023151202419058905 := 0
def tw2802373736474461850 := 0
def tw14672657401830313106 := 0
def tw7767346269818757362 := 0
def tw127422175407877670 := 0
def tw12473586056179367681 := 0
def tw17485070038531161527 := 0
def tw12179440116825343787 := 0
def tw3790985754312828254 := 0
def tw16343629403230081042 := 0
def tw11571173504056721862 := 0
def tw7169826922062558054 := 0
def tw16446298689889924743 := 0
def tw1578523296098105355 := 0
def tw2289914114608541719 := 0
def tw18105844858551358917 := 0
def tw16812480814870841699 := 0
def tw5859469393695853238 := 0
def tw6050097604893068601 := 0
def tw9691173012432880644 := 0
def tw9044049491356555961 := 0
def tw8936414584071462568 := 0
def tw9051554163946032375 := 0
def tw1307593773009170099 := 0
def tw7174103174260858653 := 0
def tw15207801700723700302 := 0
def tw1143721223579621379 := 0
def tw3625767922603949398 := 0
def tw12343018426109077381 := 0
def tw538601338690616774 := 0
def tw8728922387441717743 := 0
def tw5592252087170482150 := 0
def tw5280095142522907637 := 0
def tw9063573663786643676 := 0
def tw16556042278003819339 := 0
def tw3953115425166729278 := 0
def tw14894687649828752817 := 0
def tw2706316687556724231 := 0
def tw5657689309547706571 := 0
def tw5659582357117053847 := 0
def tw3903571361782239607 := 0
def tw17730979746536694102 := 0
def tw15374642019218985748 := 0
def tw2876987714827792433 := 0
def tw5953361708983369654 := 0
def tw13571751072997246325 := 0
def tw4568873026773982476 := 0
def tw12725464844222732441 := 0
def tw17696391646917014471 := 0
def tw6854448681851951439 := 0
def tw14214808272412307993 := 0
def tw9198047510006015735 := 0
def tw11398776206766683598 := 0
def tw7914915442953964606 := 0
def tw4604592610650049115 := 0
def tw9505947993007465100 := 0
def tw13072954369456288621 := 0
def tw9561345709523621222 := 0
def tw13991511056375993987 := 0
def tw1467392241019899729 := 0
def tw10167490868346146606 := 0
def tw9130925272986209676 := 0
def tw12366324797257375368 := 0
def tw4949708370280543008 := 0
def tw17185821852198453453 := 0
def tw8591219629184401437 := 0
def tw14604941472299986154 := 0
def tw17969800716784424748 := 0
def tw13356733936471834270 := 0
def tw7879012332560455044 := 0
def tw7154873853556765780 := 0
def tw1616359872669330021 := 0
def tw11707938387957113592 := 0
def tw3272543367807231631 := 0
def tw17697046096557103569 := 0
def tw9633692055079965984 := 0
def tw18180600434066356354 := 0
def tw5137268299682822571 := 0
def tw14968726198064143105 := 0
def tw6892787797193297342 := 0
def tw6966098456261038760 := 0
def tw2948020342949661099 := 0
def tw9563331954034993620 := 0
def tw13034745486570391127 := 0
def tw11969494009980174195 := 0
def tw15485121692834027245 := 0
def tw9329925823620660520 := 0
def tw750608554638184775 := 0
def tw11277508028351385398 := 0
def tw4204813338978302726 := 0
def tw527437465015267116 := 0
def tw16013370856840563542 := 0
def tw13298045563882394044 := 0
def tw2268970850344540460 := 0
def tw1040246458826176491 := 0
def tw14975953888672043166 := 0
def tw12033261022274245542 := 0
def tw2666901387113675472 := 0
def tw10800645816050196913 := 0
def tw4693050120914412125 := 0
def tw14690411314064805540 := 0
def tw9810602500686993405 := 0
def tw18308459999217202909 := 0
def tw4130254602169361367 := 0
def tw9543462875340339997 := 0
def tw8254421832884947347 := 0
def tw5859192037030347651 := 0
def tw5752551090008413322 := 0
def tw3356622550744385032 := 0
def tw2818082245403339311 := 0
def tw3683110819744389953 := 0
def tw7643139933571748188 := 0
def tw3143460790997474966 := 0
def tw11648975009888230288 := 0
def tw12926151446893219455 := 0
def tw12267672477472908004 := 0
def tw4971731763578060130 := 0
def tw4851175233020662763 := 0
def tw1686561987383788763 := 0
def tw7394380607777466167 := 0
def tw1788870166210268094 := 0
def tw17322707291995513727 := 0
def tw1483461641804393738 := 0
def tw8844239985450520906 := 0
def tw5920753548221635864 := 0
def tw3420245543795283507 := 0
def tw5138277039995552845 := 0
def tw1288350515233290941 := 0
def tw15971969081767946754 := 0
def tw17343797260184017052 := 0
def tw6797726591552770970 := 0
def tw9928933774832793581 := 0
def tw15096616714082175352 := 0
def tw14231680350128797921 := 0
def tw5485188093355440890 := 0
def tw13810008982812486446 := 0
def tw9432727007959880636 := 0
def tw4076114498974835803 := 0
def tw18398473573174286994 := 0
def tw12149016202557969356 := 0
def tw875753820273437751 := 0
def tw15207074338176224966 := 0
def tw13197208649718607962 := 0
def tw4191525629213524110 := 0
def tw13458715622195044767 := 0
def tw14930460649584736887 := 0
def tw2078439031406341596 := 0
def tw11228790906341797569 := 0
def tw7679000318891817903 := 0
def tw14291442428213794758 := 0
def tw18112232772234328 := 0
def tw14399851312115949470 := 0
def tw17784299091344973506 := 0
def tw1875581908751259883 := 0
def tw3102480738662118474 := 0
def tw2678972088703468211 := 0
def tw3509332191817686797 := 0
def tw5207394090463466676 := 0
def tw17285040158645077031 := 0
def tw5670239441599852150 := 0
def tw8542048706606609693 := 0
def tw17652160646213491932 := 0
def tw16893270175058898659 := 0
def tw13650353201121031468 := 0
def tw14598110621108423307 := 0
def tw2928773522447637459 := 0
def tw5783233385532425747 := 0
def tw16729436889685421217 := 0
def tw13266025004720888687 := 0
def tw13963803376913360844 := 0
def tw7458921537371477303 := 0
def tw4292028141062939788 := 0
def tw6959223073810893503 := 0
def tw16040116684294082441 := 0
def tw11188137348189284060 := 0
def tw6565002177144165886 := 0
def tw4884206914850192148 := 0
def tw1444430148943968822 := 0
def tw8990242718692296189 := 0
def tw8471322141468777326 := 0
def tw8668157537481024264 := 0
def tw11702996631940472583 := 0
def tw14516343174330111241 := 0
def tw12039665451490445566 := 0
def tw17223573044883126857 := 0
def tw6038789027221036660 := 0
def tw7459247324055431503 := 0
def tw1312859362230554789 := 0
def tw2350640997079966316 := 0
def tw13252765637931117571 := 0
def tw5458470731831220517 := 0
def tw14260625715408790206 := 0
def tw11543601497350478398 := 0
def tw1254787624380810144 := 0
def tw10058093804069869219 := 0
def tw10872676837879767359 := 0
def tw5007695471350494431 := 0
def tw4462588134313740758 := 0
def tw1700549987326420503 := 0
def tw3636850674418102607 := 0
def tw15751892604856812774 := 0
def tw4340420150761021394 := 0
def tw2773719929093423705 := 0
def tw4343125140533251469 := 0
def tw6054087854390232068 := 0
def tw13890659902921508878 := 0
def tw15166333104461874829 := 0
def tw17507791737481728738 := 0
def tw17489036665376126457 := 0
def tw14026097095269512801 := 0
def tw14919047609123980519 := 0
def tw12819771836765774288 := 0
def tw1434729478439642486 := 0
def tw5087889830215781041 := 0
def tw6021961575276082413 := 0
def tw5304983805798832572 := 0
def tw12625592738283724762 := 0
def tw9455810059598499143 := 0
def tw3409147843413612369 := 0
def tw14109938013148097397 := 0
def tw513773947824871116 := 0
def tw13143271508776753684 := 0
def tw13909952277184466629 := 0
def tw6484541466114595195 := 0
def tw4737431482846018676 := 0
def tw3370189237373028042 := 0
def tw544135786226488345 := 0
def tw16189999999647748512 := 0
def tw9765467874614314489 := 0
def tw12637010456831478716 := 0
def tw12453503654466269093 := 0
def tw12994754248186363917 := 0
def tw17374423214012389968 := 0
def tw8553107938337480225 := 0
def tw5980846991920656590 := 0
def tw641500211039093141 := 0
def tw9472019310832273361 := 0
def tw486313260186904112 := 0
def tw6372088533520695254 := 0
def tw15646305138297134726 := 0
def tw5815661822158995400 := 0
def tw11136932754176757381 := 0
def tw10921299870264544193 := 0
def tw7415188437982374226 := 0
def tw13498960618611801958 := 0
def tw150481031924776180 := 0
def tw8329409112688716615 := 0
def tw13670825033573555819 := 0
def tw7068430692046727747 := 0
def tw15258654269347768985 := 0
def tw3944269488600133008 := 0
def tw14566650771650211288 := 0
def tw4804179837512696758 := 0
def tw7249260553213674136 := 0
def tw10330229129866177372 := 0
def tw6674942343487559682 := 0
def tw17196022559179134619 := 0
def tw15528255554646934020 := 0
def tw8665413833599680206 := 0
def tw18239157704576623293 := 0
def tw18215883577569294726 := 0
def tw3084976253268854267 := 0
def tw1556764847751436953 := 0
def tw7006366403299703423 := 0
def tw3718711670904132067 := 0
def tw5141477200322505082 := 0
def tw18174574805320821963 := 0
def tw12644889517114926293 := 0
def tw16254913619506343872 := 0
def tw4387737923706453833 := 0
def tw13173790175029974709 := 0
def tw9805274449030581090 := 0
def tw13995781953694540844 := 0
def tw18055079808963640375 := 0
def tw10151295428471839543 := 0
def tw14886763082258467737 := 0
def tw1462700280893553496 := 0
def tw740650538650623017 := 0
def tw14995049442170742805 := 0
def tw3676337195863794404 := 0
def tw16352984512687737198 := 0
def tw5908541646570960353 := 0
def tw14022640810106997417 := 0
def tw17164181547768572475 := 0
def tw17977212130045764667 := 0
def tw11267112786605725209 := 0
def tw18073642459671548075 := 0
def tw558967770330430866 := 0
def tw13061091933018351629 := 0
def tw18104129415571119670 := 0
def tw12041802358539331722 := 0
def tw7500972838103013974 := 0
def tw1129387921559288349 := 0
def tw9835092098270443226 := 0
def tw2072945948169128449 := 0
def tw17698787601936134786 := 0
def tw6584122398708645964 := 0
def tw271589468170074541 := 0
def tw9313557853544066295 := 0
def tw14011457024694840860 := 0
def tw15388346075831368489 := 0
def tw10702831914294588093 := 0
def tw7612663758590887545 := 0
def tw4615917089108783178 := 0
def tw544029261174914416 := 0
def tw7740285384119098621 := 0
def tw11481459049651879284 := 0
def tw4433137130576522238 := 0
def tw4051293154713505032 := 0
def tw9574590447959031609 := 0
def tw787591870862036689 := 0
def tw3540533976227364287 := 0
def tw10397601368106039996 := 0
def tw8984621966464763085 := 0
def tw12709265481576047890 := 0
def tw12962406855963081497 := 0
def tw3214830871962018994 := 0
def tw7616824525655972485 := 0
def tw4538005011117292388 := 0
def tw9568725859847170914 := 0
def tw14109046954157432135 := 0
def tw14283445151587894346 := 0
def tw11369132688603849943 := 0
def tw9504601153628639059 := 0
def tw9722208620540600607 := 0
def tw15147011633592732350 := 0
def tw10287046783192087329 := 0
def tw6956379941418723123 := 0
def tw1668605358941287554 := 0
def tw16551691991629913135 := 0
def tw18087299475151027665 := 0
def tw7724298281297742706 := 0
def tw5254367538198622584 := 0
def tw7165784774683693687 := 0
def tw4743955611363736154 := 0
def tw17938967740069840676 := 0
def tw15035684802628772101 := 0
def tw11041721810960342593 := 0
def tw13548289835707348160 := 0
def tw13321426647916719985 := 0
def tw1701022240167095155 := 0
def tw512626455321095430 := 0
def tw9754153364892169621 := 0
def tw1936947591505798448 := 0
def tw17782195194580336422 := 0
def tw8237653448929141717 := 0
def tw12752374964406994959 := 0
def tw15388168971130578399 := 0
def tw6132728950163763721 := 0
def tw6470671487850769650 := 0
def tw10197220996079601470 := 0
def tw6972640977701089691 := 0
def tw15155294833174351842 := 0
def tw17209655393550364226 := 0
def tw3105747236913522550 := 0
def tw18084689863549312444 := 0
def tw9666160952584877302 := 0
def tw12470240399384419964 := 0
def tw9291822567963442406 := 0
def tw9321527302852412587 := 0
def tw10186977592975163782 := 0
def tw306579626336150765 := 0
def tw13676986257155063822 := 0
def tw4723234266267539615 := 0
def tw8970206869709879104 := 0
def tw13757278038431751265 := 0
def tw15162868441356122062 := 0
def tw3118109411240209126 := 0
def tw4384459015325834547 := 0
def tw1293889320740074008 := 0
def tw11349981759587048249 := 0
def tw9015659724991437553 := 0
def tw1989241449868745494 := 0
def tw10914980639501226615 := 0
def tw13979508729180063489 := 0
def tw143667794740468784 := 0
def tw2411490606585842322 := 0
def tw5768446860511915270 := 0
def tw11378347559436236620 := 0
def tw17991791953376438359 := 0
def tw993982148239315016 := 0
def tw17471219661539617074 := 0
def tw5974853985967122773 := 0
def tw4658675206921204704 := 0
def tw16871192635729338018 := 0
def tw7094190848135710671 := 0
def tw17019636570665423585 := 0
def tw16651162317670108199 := 0
def tw1033215107900898290 := 0
def tw9544599103192535849 := 0
def tw13896642515909318029 := 0
def tw13099300398985557877 := 0
def tw3719689308895674121 := 0
def tw7845247550196116860 := 0
def tw2824502254884667960 := 0
def tw17337097469825215628 := 0
def tw16924516667804727660 := 0
def tw10204680395439265787 := 0
def tw6383395475529834146 := 0
def tw9862130989501337821 := 0
def tw16401222315108867569 := 0
def tw11772475232072059293 := 0
def tw18427054491660357175 := 0
def tw18109294308284338917 := 0
def tw14257006214703889452 := 0
def tw15487623939579788452 := 0
def tw11394888048482161659 := 0
def tw9215556794851530774 := 0
def tw17535591873678415808 := 0
def tw4769033601877929517 := 0
def tw284152962577856620 := 0
def tw580729860257687699 := 0
def tw3742525599565795766 := 0
def tw205052246343438922 := 0
def tw11610305049721377688 := 0
def tw185109928093711120 := 0
def tw3363168473404570940 := 0
def tw12602872178970568674 := 0
def tw17823967119621528638 := 0
def tw12136872261504395484 := 0
def tw13514573152170925743 := 0
def tw9238077057539632255 := 0
def tw2675650755357614741 := 0
def tw16190756972013477819 := 0
def tw7325099980579751802 := 0
def tw14475569899990390473 := 0
def tw4407135107586936384 := 0
def tw1678628043307849053 := 0
def tw17738368219476091778 := 0
def tw14201776075118050562 := 0
def tw4069615114420379966 := 0
def tw5378338414363239767 := 0
def tw15555257867436649614 := 0
def tw3865125897513922269 := 0
def tw4146599959441425449 := 0
def tw15576415998885910395 := 0
def tw17121201629777376810 := 0
def tw4813957772883609066 := 0
def tw9834685213630383040 := 0
def tw2085160837695764763 := 0
def tw6154718462076963457 := 0
def tw12155121529597790253 := 0
def tw1973028459017100463 := 0
def tw1712795311331052250 := 0
def tw1030693835766939706 := 0
def tw13440107438406733280 := 0
def tw5493752055214746307 := 0
def tw5024950377233183642 := 0
def tw4392800043204655164 := 0
def tw4512871336053212494 := 0
def tw13460911044664790527 := 0
def tw16203051071549428968 := 0
def tw4949733205963466022 := 0
def tw4343284430534006720 := 0
def tw13662835773608242878 := 0
def tw13169149519241061649 := 0
def tw13591044434124634403 := 0
def tw2621381042440749265 := 0
def tw14304688141967097978 := 0
def tw7796798176459249732 := 0
def tw10772950828042987649 := 0
def tw12260065846210576547 := 0
def tw8163983497627282638 := 0
def tw9036140244317178358 := 0
def tw5029522841587215943 := 0
def tw2404406174721553857 := 0
def tw10725109014584715166 := 0
def tw12702656650281182286 := 0
def tw9540658507847806937 := 0
def tw13702522904563046043 := 0
def tw10657476250893093545 := 0
def tw7484014544745180385 := 0
def tw15174572493027824195 := 0
def tw12338979593605452594 := 0
def tw4988542528600411038 := 0
def tw16336332740740220097 := 0
def tw1799032406345842274 := 0
def tw13988275203376042362 := 0
def tw16394463763972208773 := 0
def tw14593838997249865195 := 0
def tw4763442088598616219 := 0
def tw866946347166440107 := 0
def tw18243045049172648041 := 0
def tw16137540795763198198 := 0
def tw17698845518098336715 := 0
def tw6792606465896856597 := 0
def tw3542783726458104009 := 0
def tw4275309603225569050 := 0
def tw2206119091856312347 := 0
def tw11926268648573325533 := 0
def tw8452908233502113560 := 0
def tw11142416744008528634 := 0
def tw1302897369069685507 := 0
def tw5630115997853815554 := 0
def tw8463583785240647609 := 0
def tw10820517986850258994 := 0
def tw12249704464244575113 := 0
def tw14173485007453054374 := 0
def tw11895968809328810595 := 0
def tw61236938174936312 := 0
def tw2922062501193227018 := 0
def tw13793500016914773794 := 0
def tw17852968757003595543 := 0
def tw4691735089910893819 := 0
def tw12154292281868858261 := 0
def tw13046972850670626145 := 0
def tw16423102593836349681 := 0
def tw8945449515620495752 := 0
def tw12500323979111013462 := 0
def tw14449568939969336259 := 0
def tw17480542467182650409 := 0
def tw14723775297826103225 := 0
def tw11633612601778564702 := 0
def tw15041255944854540235 := 0
def tw13202484573612859809 := 0
def tw2203963008028508229 := 0
def tw11383625119162924129 := 0
def tw4841773294675851663 := 0
def tw15908467266517524224 := 0
def tw15809795752751641575 := 0
def tw4827724805312175773 := 0
def tw3781892218583894412 := 0
def tw11699357828394614207 := 0
def tw16603640707511871145 := 0
def tw14136277990111204979 := 0
def tw9376783036159624473 := 0
def tw16313454345333744847 := 0
def tw10578118168423866488 := 0
def tw5420068782877442735 := 0
def tw13714358444181161944 := 0
def tw10681482675846750189 := 0
def tw12642801128293876200 := 0
def tw15058311698299755711 := 0
def tw5016277870734214524 := 0
def tw7814506019375912726 := 0
def tw15716732089610485496 := 0
def tw6253030800870341280 := 0
def tw13787945035279362680 := 0
def tw11736254497855954763 := 0
def tw10126183457456777817 := 0
def tw10034141210415424131 := 0
def tw13555165277814570914 := 0
def tw680997099071528161 := 0
def tw11880776376192367724 := 0
def tw8360500880993762180 := 0
def tw17859789912260894690 := 0
def tw15090732193260914229 := 0
def tw18042866190152408958 := 0
def tw8450263297895872237 := 0
def tw238853427052509142 := 0
def tw2319501206791983076 := 0
def tw1719092816895069753 := 0
def tw235026131466153321 := 0
def tw427051968580887018 := 0
def tw12620266151023396631 := 0
def tw16922008219247907761 := 0
def tw11262053439102786229 := 0
def tw10571786174329691022 := 0
def tw15979994841002784957 := 0
def tw5464685074731431452 := 0
def tw13847123980837084339 := 0
def tw16236467179540543040 := 0
def tw12425672136918429311 := 0
def tw9765067125460162720 := 0
def tw5330858400657630888 := 0
def tw8957406690614370744 := 0
def tw1129158972174968211 := 0
def tw11262922673102673369 := 0
def tw15810152394152819535 := 0
def tw7583243131419189988 := 0
def tw14543226430671295938 := 0
def tw11379279193525696927 := 0
def tw7259369057489506586 := 0
def tw8435774942833478651 := 0
def tw14299165368120261968 := 0
def tw4919884106795161180 := 0
def tw17277834287210741209 := 0
def tw5352245210012610317 := 0
def tw3680426909794952266 := 0
def tw2708974402170482391 := 0
def tw12666106835375536373 := 0
def tw12242344894835588340 := 0
def tw4519770097440389874 := 0
def tw6326113230153077911 := 0
def tw6435046739108423506 := 0
def tw16196134627910854423 := 0
def tw17683544745367629148 := 0
def tw17094508734704869415 := 0
def tw16013196746131215892 := 0
def tw5359189262976658111 := 0
def tw9569072807943340753 := 0
def tw11036086488445916808 := 0
def tw7651273910058789057 := 0
def tw15932653776980932226 := 0
def tw3711245138199857213 := 0
def tw6460672631952394022 := 0
def tw17599943590894623251 := 0
def tw7235401651637031738 := 0
def tw12508455412003314568 := 0
def tw12739864002634749167 := 0
def tw3794486952974509675 := 0
def tw8702824783171801560 := 0
def tw4429800310354177207 := 0
def tw1768403017482518213 := 0
def tw5117887605046371199 := 0
def tw16740906536005985872 := 0
def tw11988162873529814460 := 0
def tw9016267118513798239 := 0
def tw607335099538780772 := 0
def tw13847036056688530978 := 0
def tw10402514372760505840 := 0
def tw16063613346369477155 := 0
def tw13347834656640917461 := 0
def tw8771191505111688341 := 0
def tw3372937660984908547 := 0
def tw9438754973926269212 := 0
def tw9875043611107803173 := 0
def tw11410221777180079761 := 0
def tw16419559400953498294 := 0
def tw15585291572225620084 := 0
def tw10907924976434485254 := 0
def tw18086818060507328212 := 0
def tw304257233905815311 := 0
def tw4653317447903996844 := 0
def tw10765460243619557787 := 0
def tw7346732903185917908 := 0
def tw6009951611577005352 := 0
def tw3321294943028625529 := 0
def tw4312610068367660848 := 0
def tw4364017224124432435 := 0
def tw1700533102683611315 := 0
def tw17084529122457151400 := 0
def tw17513343636922397143 := 0
def tw8368745732834759466 := 0
def tw12346282833101016432 := 0
def tw17665489441222286032 := 0
def tw13212356207446393787 := 0
def tw458959045001904473 := 0
def tw13587392088943225336 := 0
def tw13317477464660283244 := 0
def tw1719585341573356533 := 0
def tw5459845098973028045 := 0
def tw4982138439727591930 := 0
def tw12681556781995177010 := 0
def tw10371903878163441661 := 0
def tw17179610930063967296 := 0
def tw6190178840530215147 := 0
def tw7140211790055357998 := 0
def tw17025581278919530321 := 0
def tw2519467857997737709 := 0
def tw8311397180683195741 := 0
def tw4900829054013303859 := 0
def tw4104146941752912803 := 0
def tw10483392659535587344 := 0
def tw12475085936073644831 := 0
def tw2622047885976806879 := 0
def tw11163364710049439859 := 0
def tw13311677545227984570 := 0
def tw14669490879583573526 := 0
def tw14437297194635928012 := 0
def tw13449698691838587609 := 0
def tw5801100325738676699 := 0
def tw1510925656052248345 := 0
def tw7667015828897529525 := 0
def tw14466630138462388780 := 0
def tw9806848298497257035 := 0
def tw17296481201559753002 := 0
def tw12079994532464631670 := 0
def tw7787867355970566887 := 0
def tw1943566550220062007 := 0
def tw7106146534853099893 := 0
def tw7553450643387144758 := 0
def tw3078936778467061658 := 0
def tw5055499958207656301 := 0
def tw17895753550298344294 := 0
def tw17066267056375190675 := 0
def tw9405598436055142364 := 0
def tw15247048527188330314 := 0
def tw12339447055887214500 := 0
def tw447067725163411439 := 0
def tw376570939730818023 := 0
def tw10983476839196940202 := 0
def tw338888894155349089 := 0
def tw16260484726181493126 := 0
def tw18310687283536069317 := 0
def tw8196498460562100896 := 0
def tw2124171161007778108 := 0
def tw4514971529042225061 := 0
def tw1448255776379380974 := 0
def tw6173883976794288063 := 0
def tw6032197911567930454 := 0
def tw16310805286851800709 := 0
def tw10875385748230366117 := 0
def tw2789705960765794767 := 0
def tw3696100327192953809 := 0
def tw8625696115921960951 := 0
def tw14319912171069451510 := 0
def tw17012468829553999728 := 0
def tw633930266075532533 := 0
def tw6826275135201004073 := 0
def tw4588250249438953589 := 0
def tw17386218402300756971 := 0
def tw14272748473235391437 := 0
def tw1150789888068736661 := 0
def tw2434339845880608705 := 0
def tw1672746216552989875 := 0
def tw6657321995206706243 := 0
def tw6852806923051544473 := 0
def tw9317902668493398081 := 0
def tw7525394455695688551 := 0
def tw11727676555214908842 := 0
def tw7022593040238084855 := 0
def tw4195628097717687872 := 0
def tw18294088720005386582 := 0
def tw12129006499371559695 := 0
def tw2025239773502716782 := 0
def tw15527657908145541538 := 0
def tw11889584399415862228 := 0
def tw1284699532239029504 := 0
def tw7633745387811386688 := 0
def tw3527579717426858079 := 0
def tw5083845973214772999 := 0
def tw2523918952836762007 := 0
def tw12543529683762002992 := 0
def tw18043735413091894569 := 0
def tw9766265950640917766 := 0
def tw16782087111499080864 := 0
def tw2765823118738508400 := 0
def tw1374886957116083241 := 0
def tw7339605467400873577 := 0
def tw16498181947762987324 := 0
def tw794332049558691046 := 0
def tw14428278980629899360 := 0
def tw13913835581623842324 := 0
def tw8094356275880599629 := 0
def tw3475771083062486697 := 0
def tw4810558948353455701 := 0
def tw13927328267629187974 := 0
def tw15188916486206398576 := 0
def tw605099549693112478 := 0
def tw8894030716402501051 := 0
def tw634167328783348516 := 0
def tw15854276019735652348 := 0
def tw7406901550129666968 := 0
def tw10383735119806153719 := 0
def tw17447634061921129704 := 0
def tw7710387192453777663 := 0
def tw3894547261110461986 := 0
def tw6318490894373376994 := 0
def tw18172799582445342445 := 0
def tw13400601543050374178 := 0
def tw775078184748247878 := 0
def tw14694192182047828992 := 0
def tw3954432825801479232 := 0
def tw14070822520702448671 := 0
def tw8504552664823267727 := 0
def tw1447792897432480823 := 0
def tw10549607583110025015 := 0
def tw3727372080844269072 := 0
def tw17679224766714318018 := 0
def tw8091538867888938136 := 0
def tw576014425196983466 := 0
def tw16415683512464409463 := 0
def tw10019007934418838847 := 0
def tw5448358049581376752 := 0
def tw13354009240476412048 := 0
def tw106441999021864586 := 0
def tw10491946815651311135 := 0
def tw13273928908478095597 := 0
def tw1828198717411361961 := 0
def tw9502661997061290547 := 0
def tw9324793443880320829 := 0
def tw7063146976585403604 := 0
def tw10941511584735581736 := 0
def tw17887441881134870746 := 0
def tw8363460998262335665 := 0
def tw7635373722108195364 := 0
def tw668331922146029157 := 0
def tw10247427424407428043 := 0
def tw2686839734660400479 := 0
def tw12440727570753235574 := 0
def tw9993957066368158695 := 0
def tw13824954830816878119 := 0
def tw6570694104565599388 := 0
def tw8486516165016393407 := 0
def tw10792570956511540502 := 0
def tw12801807371989727829 := 0
def tw1704074675821705150 := 0
def tw7459261354695709669 := 0
def tw1503953832857623702 := 0
def tw6636571890527013009 := 0
def tw4916598219846138254 := 0
def tw1768891638911282604 := 0
def tw3143890239309015993 := 0
def tw10731156431723578274 := 0
def tw2071824901013109701 := 0
def tw9298291445344625124 := 0
def tw13341295335283582867 := 0
def tw8650963288168948419 := 0
def tw9500111402933013964 := 0
def tw3627821700779159463 := 0
def tw7309108094444171209 := 0
def tw6541068239732948899 := 0
def tw14449069434818529503 := 0
def tw2315476020384989991 := 0
def tw18408789230180966255 := 0
def tw7872808218493647725 := 0
def tw11562673396356686156 := 0
def tw18098338740511362107 := 0
def tw13900830600756176803 := 0
def tw4989873867140127878 := 0
def tw7846974219660126208 := 0
def tw12377939651951455591 := 0
def tw2926003208074691535 := 0
def tw10256826516852675066 := 0
def tw16279900680291376466 := 0
def tw8505522745058846880 := 0
def tw7850667763521925567 := 0
def tw46390376532914969 := 0
def tw8294635366534105292 := 0
def tw3348428233459540519 := 0
def tw17032831796194651395 := 0
def tw3173843196976604782 := 0
def tw16441086021715092894 := 0
def tw4977041734332374162 := 0
def tw2268488525715941956 := 0
def tw6461425577911670234 := 0
def tw9670291047318860711 := 0
def tw16705945822736387928 := 0
def tw1558342697393133487 := 0
def tw15726193279032971174 := 0
def tw18301016534903023266 := 0
def tw14807515862491438699 := 0
def tw3221333599636334058 := 0
def tw14404524051253432223 := 0
def tw4875965735169363309 := 0
def tw2734438997316745517 := 0
def tw13342224936017746502 := 0
def tw16545689610953483235 := 0
def tw18109209547573684876 := 0
def tw598885135131030996 := 0
def tw11693155420308442656 := 0
def tw17170480163729478042 := 0
def tw11594530166710078396 := 0
def tw4671048998992191703 := 0
def tw9099234413864314526 := 0
def tw9368663916105393353 := 0
def tw249807920562076892 := 0
def tw12331485411229060537 := 0
def tw5488336522748259507 := 0
def tw12739817521141740473 := 0
def tw13458514935452444752 := 0
def tw15083196615835756992 := 0
def tw5006858573364100527 := 0
def tw3013065668298355224 := 0
def tw13388835046118024694 := 0
def tw5687426452347001119 := 0
def tw14613219087197719918 := 0
def tw4334927665095219370 := 0
def tw11066861431548332752 := 0
def tw1508836246122862058 := 0
def tw14032794657495856173 := 0
def tw13874024774781868751 := 0
def tw18369070580153888598 := 0
def tw13981413549362804315 := 0
def tw739806294461210956 := 0
def tw12984735320712801765 := 0
def tw9126606401416840469 := 0
def tw11943702081095158047 := 0
def tw5967430498480579659 := 0
def tw4483170445474172039 := 0
def tw5874935125684568576 := 0
def tw13914860100870257014 := 0
def tw14450778218533519655 := 0
def tw14377348690198324241 := 0
def tw11163672148856693383 := 0
def tw11710059773540210566 := 0
def tw2683513856236781343 := 0
def tw7279787043332311051 := 0
def tw5166845896104485549 := 0
def tw11301490904943991229 := 0
def tw3300350076219431252 := 0
def tw4543176164083591734 := 0
def tw2381539628449540703 := 0
def tw5665601388296658593 := 0
def tw1769677253664485084 := 0
def tw15466460747606775076 := 0
def tw11963918557842420316 := 0
def tw18393417687898926082 := 0
def tw10008315250340685749 := 0
def tw1640951064646742280 := 0
def tw573812923820676770 := 0
def tw111567588954605585 := 0
def tw8698909379540020419 := 0
def tw14338560637375690058 := 0
def tw9783239434601152397 := 0
def tw5845250509998271962 := 0
def tw14910996231359121412 := 0
def tw12595195818642035383 := 0
def tw9919412278050611546 := 0
def tw4231675235489366686 := 0
def tw9719488851265504939 := 0
def tw14482411972987991792 := 0
def tw4003428993152206564 := 0
def tw123545656718394713 := 0
def tw15422339428304742249 := 0
def tw5247698504056772926 := 0
def tw4166762501991118420 := 0
def tw2693705897476933345 := 0
def tw1411404574948735730 := 0
def tw16399891565526030368 := 0
def tw13201331975869632152 := 0
def tw3219469675896530279 := 0
def tw2536821558894808380 := 0
def tw17095595778985368718 := 0
def tw8027528107734283848 := 0
def tw11323696358896658169 := 0
def tw5138134931475314334 := 0
def tw5340694933785677449 := 0
def tw4892289935308818405 := 0
def tw6181043175461872033 := 0
def tw11038630803948896034 := 0
def tw13825342654817792881 := 0
def tw1999313034330742024 := 0
def tw14982456046840288976 := 0
def tw14568717893807454603 := 0
def tw4794051864944731038 := 0
def tw7371737550942386114 := 0
def tw2434085837696401910 := 0
def tw14272190195276330504 := 0
def tw16285527003717263226 := 0
def tw4272074077063372762 := 0
def tw16761154284709269279 := 0
def tw7208495933812270411 := 0
def tw11882783225025912450 := 0
def tw4866022626711300892 := 0
def tw12250985839298337115 := 0
def tw4950547595712054026 := 0
def tw5864104776570977680 := 0
def tw2978087333889156353 := 0
def tw15076663360268399918 := 0
def tw7000918374571793352 := 0
def tw13361397869183274076 := 0
def tw2726627247053595377 := 0
def tw16919099212657142528 := 0
def tw16009369472989698543 := 0
def tw6680173626266724166 := 0
def tw186005257570899187 := 0
def tw3879357867856160359 := 0
def tw18410857164400876028 := 0
def tw3040804988443119523 := 0
def tw7965912680217538223 := 0
def tw15457149399371530579 := 0
def tw10204840160199785202 := 0
def tw17780744634982548016 := 0
def tw13927450971240246605 := 0
def tw911724798399773145 := 0
def tw1620331726870790290 := 0
def tw7059887890496620971 := 0
def tw4145661177841992185 := 0
def tw14549464027593479926 := 0
def tw17776145041184379505 := 0
def tw361829120565894653 := 0
def tw6696645884583119827 := 0
def tw15224774768032442162 := 0
def tw3269449431721504437 := 0
def tw18445560784976058025 := 0
def tw5287844390520868988 := 0
def tw16665761510285179967 := 0
def tw15234210484537083183 := 0
def tw9002061847978198334 := 0
def tw7395376014787884519 := 0
def tw9435211765817662341 := 0
def tw1457315485836790052 := 0
def tw9326288340816410306 := 0
def tw17767358839108305261 := 0
def tw13637549844498661434 := 0
def tw7473236571057525559 := 0
def tw8174367580396476998 := 0
def tw782996331618930150 := 0
def tw5971805035808141900 := 0
def tw5752775188526037382 := 0
def tw13416271627948272818 := 0
def tw9869500484611242944 := 0
def tw3481760064524897250 := 0
def tw7259293240686085705 := 0
def tw18255345812984290155 := 0
def tw8574718888861344927 := 0
def tw2227420170293393 := 0
def tw10122130976964107246 := 0
def tw5634435392786265829 := 0
def tw8607245417649800000 := 0
def tw16200979134678661511 := 0
def tw2381519462507998600 := 0
def tw3673445337566100111 := 0
def tw10599414264068968707 := 0
def tw9218102823626506519 := 0
def tw12723666789552223414 := 0
def tw6856529534435575100 := 0
def tw13373935466636084802 := 0
def tw9300447081383214811 := 0
def tw17917778959725050857 := 0
def tw8024787088201696307 := 0
def tw16106699102076674273 := 0
def tw8454980358717658098 := 0
def tw12898777779301602348 := 0
def tw2347102928599154082 := 0
def tw13733110592411741954 := 0
def tw9203131929131923133 := 0
def tw5361914905527302326 := 0
def tw17943488202383879181 := 0
def tw13055823764309002260 := 0
def tw8771611089491748879 := 0
def tw11264529041442899191 := 0
def tw17710833952561702899 := 0
def tw6858960917307524769 := 0
def tw14790833421084156365 := 0
def tw9925440013956940405 := 0
def tw4520096938660273606 := 0
def tw14126588655933694819 := 0
def tw4564923829735960147 := 0
def tw10352690526772264769 := 0
def tw14665701844606366897 := 0
def tw11721169231673232017 := 0
def tw4927014812138491964 := 0
def tw1864822070928578666 := 0
def tw688495164426102481 := 0
def tw12716937167824809109 := 0
def tw7151933773858965602 := 0
def tw13954174864595880574 := 0
def tw8743420576162911515 := 0
def tw14848492325904622366 := 0
def tw12150968316342464356 := 0
def tw17507445967890349813 := 0
def tw141700849084474792 := 0
def tw16709841961014217859 := 0
def tw8347239541920769482 := 0
def tw16614591958955849857 := 0
def tw14949913675277070202 := 0
def tw4960992210540921682 := 0
def tw2620686424339661703 := 0
def tw9235054945552154029 := 0
def tw1865111574903762460 := 0
def tw14718222262540558391 := 0
def tw16767442715130491011 := 0
def tw6725477608540874988 := 0
def tw10068698442122361673 := 0
def tw15153935300316714109 := 0
def tw11136235494479291605 := 0
def tw10998108250116640042 := 0
def tw2767568620308457372 := 0
def tw15331004047939542175 := 0
def tw4575382930391432734 := 0
def tw17339671330381405224 := 0
def tw5593580382025103347 := 0
def tw1601850245309749392 := 0
def tw10302284546958260776 := 0
def tw13585654312159725256 := 0
def tw10283194062730731433 := 0
def tw13188325805192891941 := 0
def tw8828111130827236107 := 0
def tw7849957959368553764 := 0
def tw8825206181116101723 := 0
def tw17046651309186438969 := 0
def tw5875048237919749350 := 0
def tw7981734506766757554 := 0
def tw2955661016887314177 := 0
def tw10850764392679999414 := 0
def tw4154845343371066009 := 0
def tw16309496471129715760 := 0
def tw2758598464689561694 := 0
def tw17454574836567433971 := 0
def tw13812501306998465169 := 0
def tw843324460096912476 := 0
def tw1805569586639022024 := 0
def tw16100577631655001625 := 0
def tw6116805815708000858 := 0
def tw17431156805276078256 := 0
def tw10109122368968152766 := 0
def tw16597357732312988078 := 0
def tw9084942490936493917 := 0
def tw6338244227410297660 := 0
def tw3555332116421624164 := 0
def tw7484567627829586453 := 0
def tw11615354150132336285 := 0
def tw487563566218866384 := 0
def tw6238650272194801751 := 0
def tw6092211709730897341 := 0
def tw17810138018275496267 := 0
def tw9212467567937367263 := 0
def tw18039043636250741982 := 0
def tw824142731242614658 := 0
def tw14754159362274671143 := 0
def tw3311102358349154799 := 0
def tw14168695472537658678 := 0
def tw1069348928746045200 := 0
def tw2414024727168729432 := 0
def tw8924979925942550869 := 0
def tw5334316744392825959 := 0
def tw8598454180310347890 := 0
def tw17074767213069992674 := 0
def tw8373669393971145609 := 0
def tw9847385701334828145 := 0
def tw7679779820019430027 := 0
def tw10365160382272423846 := 0
def tw9339550782508245548 := 0
def tw15973285514538946982 := 0
def tw5435012162987851840 := 0
def tw13315036332470335256 := 0
def tw8232961769252284456 := 0
def tw14792987015148630537 := 0
def tw4012594770213196844 := 0
def tw4849828799902418282 := 0
def tw833344718444668398 := 0
def tw8274697475419014414 := 0
def tw9845034239179946158 := 0
def tw6693686593047172456 := 0
def tw13423068484569242077 := 0
def tw4282208863147853666 := 0
def tw6447030258493113012 := 0
def tw15498139349108420566 := 0
def tw18014181906652645568 := 0
def tw16162484192709855417 := 0
def tw687690823948548225 := 0
def tw15832326069374002067 := 0
def tw8485813840410174996 := 0
def tw1778434900780799627 := 0
def tw475514188420071455 := 0
def tw16793229455266741617 := 0
def tw9149922500764633193 := 0
def tw11719282639074772881 := 0
def tw2616930704405347589 := 0
def tw13829296956907391619 := 0
def tw11217948827172817017 := 0
def tw1622012833593125533 := 0
def tw1452366444488481425 := 0
def tw12631906643269429040 := 0
def tw10162096545894067908 := 0
def tw13805399383283504600 := 0
def tw13199609634885070760 := 0
def tw9914811561412226337 := 0
def tw8527966560193666444 := 0
def tw7440138498414164536 := 0
def tw2715806198833557560 := 0
def tw9326450749989520895 := 0
def tw12486124673678089289 := 0
def tw14860657665593058080 := 0
def tw5570397635365874128 := 0
def tw9878917584304594930 := 0
def tw16653884012135633092 := 0
def tw2071065350129990803 := 0
def tw10779469444021367259 := 0
def tw906214126617882504 := 0
def tw3314010982176918519 := 0
def tw1691141777829015105 := 0
def tw6306429841772581645 := 0
def tw997060450711093461 := 0
def tw5839210050153713923 := 0
def tw6480235899689292035 := 0
def tw16030663780678930468 := 0
def tw8128018710575634062 := 0
def tw17995997358167911626 := 0
def tw15588487068359421063 := 0
def tw751696737802262270 := 0
def tw3537505035580275195 := 0
def tw7071348627010207684 := 0
def tw15378630963220252811 := 0
def tw14012075819330602303 := 0
def tw5290236752029354600 := 0
def tw17244688827996283470 := 0
def tw887904819299981625 := 0
def tw1894507570019988789 := 0
def tw16124124409881888681 := 0
def tw4690862270433396619 := 0
def tw8972953195286172347 := 0
def tw13048763081389057155 := 0
def tw57727363021144051 := 0
def tw12124051220318158174 := 0
def tw17738115461142844875 := 0
def tw13592832157560130580 := 0
def tw453650863777290441 := 0
def tw17755317778302409600 := 0
def tw2556714272087543262 := 0
def tw11603110414876273925 := 0
def tw4825011529848925222 := 0
def tw9556050734777119903 := 0
def tw15403464958536964217 := 0
def tw2254979431815899898 := 0
def tw16626637729065861352 := 0
def tw17955685151308866532 := 0
def tw9944033952021973975 := 0
def tw286421480830687848 := 0
def tw2300019285318645 := 0
def tw6072312802789830048 := 0
def tw5138097861336267975 := 0
def tw8398307572816864270 := 0
def tw3521924819516361946 := 0
def tw11701888559006479586 := 0
def tw1239345556260078077 := 0
def tw11052404223603289332 := 0
def tw12703350588574350974 := 0
def tw17652442058917123389 := 0
def tw6810641452864372941 := 0
def tw14129547785610945457 := 0
def tw15037204632827417429 := 0
def tw11305645024593664623 := 0
def tw14931224632869375792 := 0
def tw7970382588991344764 := 0
def tw12984130375774902909 := 0
def tw1601179315856481728 := 0
def tw4520012124497073089 := 0
def tw10239138131676547278 := 0
def tw14963073007475726369 := 0
def tw14963342258377207873 := 0
def tw18159997467535382799 := 0
def tw1117798016601792876 := 0
def tw10248973607146122004 := 0
def tw17096063854609268497 := 0
def tw8338199489846495319 := 0
def tw4721155737915017618 := 0
def tw3085754253616627852 := 0
def tw11796224703588323230 := 0
def tw18300550048455312841 := 0
def tw6852101864905077680 := 0
def tw17771602130330761540 := 0
def tw15504477843886814567 := 0
def tw2267401018059092750 := 0
def tw1250950173218094127 := 0
def tw12678852035571045207 := 0
def tw8939366736911505239 := 0
def tw10232994498981185810 := 0
def tw18016677542138720970 := 0
def tw14762574135520253558 := 0
def tw2261974217968637281 := 0
def tw5215268872413243750 := 0
def tw7419230264876540130 := 0
def tw8914554432915298700 := 0
def tw6768853740579433037 := 0
def tw10896248974526111779 := 0
def tw13429331772373550346 := 0
def tw10863330328086218597 := 0
def tw14131961598452104215 := 0
def tw1103274936021527691 := 0
def tw5647754099367050785 := 0
def tw16520672762460631216 := 0
def tw13741591746616796408 := 0
def tw10117388783259687200 := 0
def tw8860164554974842766 := 0
def tw7335113504657322682 := 0
def tw417032807472763274 := 0
def tw1106586968603831243 := 0
def tw18098910009311439791 := 0
def tw1092907972514170921 := 0
def tw295511646796336757 := 0
def tw7416807150296461668 := 0
def tw4488608225510062913 := 0
def tw7790964847435614063 := 0
def tw7678240220468714247 := 0
def tw12314381127166142693 := 0
def tw3009817305991366697 := 0
def tw15592230385814411417 := 0
def tw17809193229683388188 := 0
def tw833989130519990645 := 0
def tw2585839388810550882 := 0
def tw84025117668509840 := 0
def tw1695038032087666805 := 0
def tw10255799659298317735 := 0
def tw5605044435844713774 := 0
def tw11105262658834298636 := 0
def tw17576443881761684743 := 0
def tw12656367175921605725 := 0
def tw17700107277584072494 := 0
def tw11026304715072868318 := 0
def tw11521572979771226544 := 0
def tw625153209902469556 := 0
def tw1638225596070923314 := 0
def tw9720649956846478460 := 0
def tw9817473274706061676 := 0
def tw4705350837020411100 := 0
def tw11275902358735035944 := 0
def tw9071847575355445684 := 0
def tw5135167868340948362 := 0
def tw12238022555616957643 := 0
def tw17247432699966720628 := 0
def tw4993705055308195610 := 0
def tw9700963871199013541 := 0
def tw2638214159418032814 := 0
def tw4031305686262172950 := 0
def tw7300236135189203174 := 0
def tw11216791234720183402 := 0
def tw2146022126308979445 := 0
def tw14713940001712449895 := 0
def tw1163001650874525941 := 0
def tw8745635019309274601 := 0
def tw10484999913393726463 := 0
def tw6054675096207925686 := 0
def tw10291800990743858160 := 0
def tw11198820084791542380 := 0
def tw5352749960703021967 := 0
def tw1900887832309674520 := 0
def tw13475986097093737006 := 0
def tw17324254039530443321 := 0
def tw12507233387308326737 := 0
def tw2370930194547914489 := 0
def tw5645455953176152926 := 0
def tw15808308414531203344 := 0
def tw10908847937752949095 := 0
def tw14528700227774174248 := 0
def tw15081899094990151398 := 0
def tw8678752678069551319 := 0
def tw11882840529837690336 := 0
def tw4554047314740265790 := 0
def tw3931264786283888045 := 0
def tw8050270154073953021 := 0
def tw17158904586458623739 := 0
def tw11089924577758501348 := 0
def tw10134923501893593126 := 0
def tw1817506176159639469 := 0
def tw6872999479442490854 := 0
def tw17129970343702859459 := 0
def tw10817694731194438225 := 0
def tw7413924148098811141 := 0
def tw11281270858003209309 := 0
def tw4160404909744401095 := 0
def tw15900869187950231122 := 0
def tw9639661663284856428 := 0
def tw479671530621777252 := 0
def tw6246306702078158876 := 0
def tw4833370159750930627 := 0
def tw4345795639803470942 := 0
def tw4988527288633971415 := 0
def tw11209570757374186158 := 0
def tw9394976442708820749 := 0
def tw17401087932289981204 := 0
def tw8204809644422427117 := 0
def tw17466491597177598391 := 0
def tw18001812210641598679 := 0
def tw9109598426675254178 := 0
def tw8032137396135254524 := 0
def tw11899962290644017872 := 0
def tw11800029097519698942 := 0
def tw7893528532345669827 := 0
def tw11030073852850623222 := 0
def tw10442053232567489028 := 0
def tw18009322942051976703 := 0
def tw11113487150494644049 := 0
def tw14645697758421500224 := 0
def tw1116018879000158290 := 0
def tw11992413648284809426 := 0
def tw3024555981969569439 := 0
def tw13469048293741238004 := 0
def tw4936550722591107370 := 0
def tw2483763132537932226 := 0
def tw1110389904922257252 := 0
def tw9205319705280704831 := 0
def tw1208186171948025388 := 0
def tw722812680236181230 := 0
def tw15167703055424403804 := 0
def tw16830143354367803993 := 0
def tw3323941701326798406 := 0
def tw7865914277833974360 := 0
def tw5943270732247437572 := 0
def tw8086473188280901884 := 0
def tw14946565859845000376 := 0
def tw12268987154484153149 := 0
def tw12172456733224526921 := 0
def tw8340525805801877115 := 0
def tw14136907286912343389 := 0
def tw6116811655537431451 := 0
def tw2471313310663150147 := 0
def tw10865106626364380089 := 0
def tw4935929480160060373 := 0
def tw4090378531326726330 := 0
def tw10579165793412595779 := 0
def tw7368164791358861721 := 0
def tw12308724748454574388 := 0
def tw9684092179987508824 := 0
def tw13782920963091804126 := 0
def tw16244826704203154940 := 0
def tw13456711246363032709 := 0
def tw2485785629216618160 := 0
def tw6513702685839795453 := 0
def tw8890143530710237221 := 0
def tw1525156358025342496 := 0
def tw11486359900363593402 := 0
def tw10271325233193029371 := 0
def tw8783128638462222564 := 0
def tw16283812723615837521 := 0
def tw1581086660623316333 := 0
def tw15089318798168142795 := 0
def tw6914600711787487362 := 0
def tw14561267332097667795 := 0
def tw14832079354140693401 := 0
def tw13402813284163323275 := 0
def tw21407182270201542 := 0
def tw7087867148210444311 := 0
def tw506246285831393824 := 0
def tw18073452230379922660 := 0
def tw8752269164346837768 := 0
def tw10606043235203416876 := 0
def tw16859523275461031547 := 0
def tw8577739240923377826 := 0
def tw6913127532775203750 := 0
def tw5870503138512263044 := 0
def tw1481490738043515582 := 0
def tw7702244368973687133 := 0
def tw8502821924935547422 := 0
def tw12366770532307730272 := 0
def tw15288769310100813225 := 0
def tw15372675404471865379 := 0
def tw2871679347072858259 := 0
def tw13976944654526589275 := 0
def tw111977983112027156 := 0
def tw12294583308290974323 := 0
def tw8145340762148821786 := 0
def tw4097676964833881148 := 0
def tw17384145622868810774 := 0
def tw8963398288971825978 := 0
def tw7015241828098506738 := 0
def tw240182940533231626 := 0
def tw16137958447222884211 := 0
def tw4984980232893496756 := 0
def tw16459580581185334405 := 0
def tw3843495699497065758 := 0
def tw5317619826424590349 := 0
def tw9146397705894626154 := 0
def tw11749321892033138073 := 0
def tw10651640688592848665 := 0
def tw18001991022215287495 := 0
def tw10702086455874592221 := 0
def tw7937558908257344220 := 0
def tw15670655434701289084 := 0
def tw2826093637947122342 := 0
def tw11993366809007128356 := 0
def tw1768991250010645162 := 0
def tw3657404992849122230 := 0
def tw1577438406441831318 := 0
def tw10593420322438095494 := 0
def tw69939175626938612 := 0
def tw1890578644810257597 := 0
def tw458416524488253508 := 0
def tw8960070052218129786 := 0
def tw15102040069506413163 := 0
def tw18250657520051779603 := 0
def tw2317597189471945354 := 0
def tw13068162705350999778 := 0
def tw7520866277284135385 := 0
def tw8916472303486192294 := 0
def tw18436213649298931769 := 0
def tw17617592538669813572 := 0
def tw18019567917190975070 := 0
def tw3716075160803281994 := 0
def tw13477063185253683466 := 0
def tw13460096914132254909 := 0
def tw8767998015231215180 := 0
def tw15228221208995184505 := 0
def tw6516532139382686722 := 0
def tw15184600396016800475 := 0
def tw3189907160850424924 := 0
def tw5702769267602353257 := 0
def tw7658123176165969541 := 0
def tw7371288391436463916 := 0
def tw14703607111427699649 := 0
def tw8398327054961114336 := 0
def tw811118635433184973 := 0
def tw15179342276851454002 := 0
def tw1309012213797054273 := 0
def tw18400761684258735894 := 0
def tw15250906744293425491 := 0
def tw7364048192996785213 := 0
def tw3387422164614906092 := 0
def tw7248634015122878884 := 0
def tw634895858828730522 := 0
def tw12849447029204159255 := 0
def tw1051873446427688790 := 0
def tw9919850316099823416 := 0
def tw8375587037919826673 := 0
def tw4546612392140569693 := 0
def tw5159313739623099991 := 0
def tw7195551779684175274 := 0
def tw5540041210311089538 := 0
def tw11299807555270378321 := 0
def tw3665431512545852798 := 0
def tw1369699391900897557 := 0
def tw5011921973115128898 := 0
def tw1657964433073989317 := 0
def tw12480164465284398627 := 0
def tw16393052583930110356 := 0
def tw6200809232235400224 := 0
def tw5995608644781300845 := 0
def tw18014414192191720052 := 0
def tw6620568283223008855 := 0
def tw7444002342869444117 := 0
def tw8859533322823413303 := 0
def tw1970551283962180571 := 0
def tw9011594778799962381 := 0
def tw15622295094117988407 := 0
def tw11290494685025393581 := 0
def tw16624429300133612063 := 0
def tw4274856634292409958 := 0
def tw12774126492688109917 := 0
def tw17084533118123944262 := 0
def tw9806765873386677322 := 0
def tw421093429321122651 := 0
def tw10143783528309448005 := 0
def tw5326386945647816627 := 0
def tw1818830455184575056 := 0
def tw7049853458588780088 := 0
def tw15914882983861977422 := 0
def tw3911968734012783001 := 0
def tw839436206175957535 := 0
def tw13545279201676255422 := 0
def tw12936167305500654143 := 0
def tw5033371692328491569 := 0
def tw3588572903190947339 := 0
def tw16960387101723111189 := 0
def tw16788996331401523837 := 0
def tw17935676120194375232 := 0
def tw1059471180151267500 := 0
def tw5922129685628529867 := 0
def tw11100285508205088276 := 0
def tw13527992644413045962 := 0
def tw2080084316953479120 := 0
def tw5415156136279780590 := 0
def tw2569934414057043892 := 0
def tw10228379881989455854 := 0
def tw939469712616152569 := 0
def tw3072511549026775637 := 0
def tw15742837910104198067 := 0
def tw9257336263295272718 := 0
def tw5029089995028159129 := 0
def tw14128590215551208075 := 0
def tw3052519901164373325 := 0
def tw5075760535809304721 := 0
def tw6793474923987427842 := 0
def tw2853244657188223196 := 0
def tw9904242844244941916 := 0
def tw9539293211786950240 := 0
def tw3040553265307249778 := 0
def tw2013257163573932124 := 0
def tw9780161183884277299 := 0
def tw2960870922039272221 := 0
def tw1202695798402783606 := 0
def tw16245346068081251421 := 0
def tw4028838957689607123 := 0
def tw12761591509576422090 := 0
def tw4629035792123470918 := 0
def tw14816871200313998760 := 0
def tw6442149497084879745 := 0
def tw14745215581021492736 := 0
def tw3610512759819464681 := 0
def tw17562675422622301982 := 0
def tw9355948181541445530 := 0
def tw17978711925151744272 := 0
def tw5270091019189953533 := 0
def tw7349066739788047431 := 0
def tw12141324874283124178 := 0
def tw7857702416394403344 := 0
def tw13105003698758071171 := 0
def tw18412353388492757675 := 0
def tw9343611789469575811 := 0
def tw4520674581580448534 := 0
def tw9870951365062110047 := 0
def tw11135449393729267215 := 0
def tw6885916888490942823 := 0
def tw8821539857567996945 := 0
def tw15711075461990835513 := 0
def tw5450212612487778272 := 0
def tw4610194292270087061 := 0
def tw4730438255016957040 := 0
def tw7011056685949589223 := 0
def tw5653561523910159254 := 0
def tw15304804680310366232 := 0
def tw2728755701503447190 := 0
def tw17067784768414113425 := 0
def tw5640009445959051713 := 0
def tw15767413396139262210 := 0
def tw10410257940837404463 := 0
def tw7021296606323808650 := 0
def tw13145240458559122040 := 0
def tw13362969111053183021 := 0
def tw3139910777146606205 := 0
def tw17550334524792018365 := 0
def tw1678127426256250273 := 0
def tw7506662350401659219 := 0
def tw3105130077001342129 := 0
def tw15730189166876808550 := 0
def tw17389816103783481536 := 0
def tw1353365514403273224 := 0
def tw12041163179193555360 := 0
def tw15791062148880905905 := 0
def tw8697671432046688690 := 0
def tw11378180382236977339 := 0
def tw14264430280535354357 := 0
def tw18108539056915329102 := 0
def tw13863728612408915327 := 0
def tw3720038123949826413 := 0
def tw12256752631180168352 := 0
def tw10829685482065860407 := 0
def tw10872798213468504568 := 0
def tw18298254418365887627 := 0
def tw3739637478976691017 := 0
def tw3208994012772974 := 0
def tw17652591566374650876 := 0
def tw4061465361455390944 := 0
def tw5682140305647928857 := 0
def tw15062689327562685319 := 0
def tw3031348905845989110 := 0
def tw8336774325806403778 := 0
def tw18018082258108416374 := 0
def tw6701920970153739469 := 0
def tw5527407457905472191 := 0
def tw8507047013211592768 := 0
def tw12896737265359446 := 0
def tw18085971084677001750 := 0
def tw1567037791721005160 := 0
def tw11936388338266977677 := 0
def tw12466892594770816636 := 0
def tw6636889171477414131 := 0
def tw2510691247501662002 := 0
def tw6098936556869675139 := 0
def tw9475773492969967087 := 0
def tw1421650556198570716 := 0
def tw5663696587889638893 := 0
def tw10760878074052687949 := 0
def tw1690211613536984032 := 0
def tw14245429433085052225 := 0
def tw9506011240086070437 := 0
def tw17299491228167916257 := 0
def tw6827269511079262297 := 0
def tw6708296399515664092 := 0
def tw3640023407565051497 := 0
def tw9843692103515765841 := 0
def tw9735568719984657575 := 0
def tw7282287075633416379 := 0
def tw15427301565041840935 := 0
def tw1947490403840641358 := 0
def tw17469630158494558850 := 0
def tw18425793624664004643 := 0
def tw9367312390020719756 := 0
def tw3362477724469164068 := 0
def tw3234023594452553629 := 0
def tw1631944257405351971 := 0
def tw1702534147238847621 := 0
def tw15809288881306898579 := 0
def tw3853256608698620138 := 0
def tw8011985522535366375 := 0
def tw2203777544112068463 := 0
def tw10818826548737648812 := 0
def tw17380129352593505673 := 0
def tw13377441690985710648 := 0
def tw11028726204152183584 := 0
def tw13465478375518155579 := 0
def tw17568080528467202762 := 0
def tw15438721899689349806 := 0
def tw14472983705247688039 := 0
def tw9776503103361737923 := 0
def tw1167570040892702812 := 0
def tw12060163166530539153 := 0
def tw15231609160281362495 := 0
def tw8725445837836184735 := 0
def tw9812384848491136337 := 0
def tw4176052067126009768 := 0
def tw16778054768187514500 := 0
def tw8413839491104348718 := 0
def tw8267115452400024310 := 0
def tw11668732405524394987 := 0
def tw18337860110192087686 := 0
def tw2593959284025290927 := 0
def tw11671383377519189621 := 0
def tw13726172943282007854 := 0
def tw12498044210215402446 := 0
def tw7013544036773929620 := 0
def tw14510490312265846156 := 0
def tw17140250537393568743 := 0
def tw14985506755783481235 := 0
def tw18087018822152006250 := 0
def tw14551010836404390074 := 0
def tw7164200066852176785 := 0
def tw4150895002078572326 := 0
def tw248041498654673800 := 0
def tw7038767312015890518 := 0
def tw1797229427001553692 := 0
def tw17591274731364863115 := 0
def tw8778184377395765505 := 0
def tw14798741122795607465 := 0
def tw11947028301017846133 := 0
def tw4310446084742677080 := 0
def tw15030309469722966773 := 0
def tw2748197691429155478 := 0
def tw4039106596373932024 := 0
def tw2180943200317488798 := 0
def tw3666129580675757805 := 0
def tw15625461647850313535 := 0
def tw11924986217543641088 := 0
def tw13744239022058350663 := 0
def tw5651858435758199186 := 0
def tw6599705906719846771 := 0
def tw7576639453488924646 := 0
def tw13849064196523524579 := 0
def tw14673204194011545294 := 0
def tw6378558004793004150 := 0
def tw11911729522363281627 := 0
def tw9822252940015469894 := 0
def tw10823298349769282465 := 0
def tw9451015061267227451 := 0
def tw11683916971119026911 := 0
def tw16099579626473623819 := 0
def tw15084864746624837804 := 0
def tw15728761837530298816 := 0
def tw618675392063254833 := 0
def tw12563500462500068792 := 0
def tw4727187406586482549 := 0
def tw11777336242805519207 := 0
def tw12963001894036390094 := 0
def tw16798500109922153807 := 0
def tw8078524469446749137 := 0
def tw17116578781131953358 := 0
def tw1317737425790135432 := 0
def tw850699107657838367 := 0
def tw10129623028056690878 := 0
def tw14225255068167767206 := 0
def tw16073704528643764441 := 0
def tw7904847498503458496 := 0
def tw15750416091353301470 := 0
def tw12665003896182128076 := 0
def tw2029028401663767067 := 0
def tw11224594212516713671 := 0
def tw16740956703423654504 := 0
def tw14508291538589001002 := 0
def tw14352937663304199639 := 0
def tw13475747624126492641 := 0
def tw9549912980315319300 := 0
def tw10772751649625717661 := 0
def tw3114045256757090271 := 0
def tw18446729768864017039 := 0
def tw14512162748562687041 := 0
def tw3967072012967707191 := 0
def tw3774087014844635015 := 0
def tw12261472331671005839 := 0
def tw12569684924975785847 := 0
def tw16371555850510895011 := 0
def tw1566429702290239535 := 0
def tw5944309685500402554 := 0
def tw17142807632529182277 := 0
def tw8221482149505229216 := 0
def tw3846944280979638729 := 0
def tw18361223041832150414 := 0
def tw517905505538383428 := 0
def tw16869596932191541745 := 0
def tw10815243520288832757 := 0
def tw16719042938720586556 := 0
def tw946757496069552770 := 0
def tw14647943460906567786 := 0
def tw653012994620962261 := 0
def tw8640142372212669709 := 0
def tw9666140379087145837 := 0
def tw9276088439616562993 := 0
def tw5179451184013468481 := 0
def tw4236205213099637102 := 0
def tw8988626243380261421 := 0
def tw6943569573945775071 := 0
def tw10333665308323124675 := 0
def tw12289701527030803243 := 0
def tw14029475707992397971 := 0
def tw3143366547279611101 := 0
def tw3901400708350894740 := 0
def tw685334481499124483 := 0
def tw11061370753770722148 := 0
def tw10029833147977015229 := 0
def tw3770200216444966007 := 0
def tw11804506603335173244 := 0
def tw6222385487108199 := 0
def tw15501032738704929134 := 0
def tw677123557537257204 := 0
def tw7668224909493583016 := 0
def tw17796847985481009196 := 0
def tw2689313980887983923 := 0
def tw3012261291984920106 := 0
def tw9170099911606035863 := 0
def tw14977623916967514597 := 0
def tw5203430990056862262 := 0
def tw14152141167839298690 := 0
def tw9046477910167272768 := 0
def tw1376537798937605316 := 0
def tw2950506780649024692 := 0
def tw9338452867330809412 := 0
def tw17435477289627855173 := 0
def tw554315148102525762 := 0
def tw6570618809511320181 := 0
def tw15487055310492013775 := 0
def tw8343754432335233488 := 0
def tw15261752281438674571 := 0
def tw6758446464571149228 := 0
def tw3181034598796342428 := 0
def tw10061975676339228011 := 0
def tw13615123336119226258 := 0
def tw9332364056813615446 := 0
def tw9236018367242056671 := 0
def tw15165702052286485673 := 0
def tw4856578386891608104 := 0
def tw8115269823771074899 := 0
def tw10222480022429303893 := 0
def tw3296338633838888003 := 0
def tw14622318750664466318 := 0
def tw14367040873957443033 := 0
def tw16370109812968530054 := 0
def tw9047132745068375687 := 0
def tw1429659738030869291 := 0
def tw8443178565410316212 := 0
def tw12478799174757715659 := 0
def tw6983960197813973818 := 0
def tw7217571273543454853 := 0
def tw2663533111156814555 := 0
def tw11460144131945044117 := 0
def tw7557288243175993474 := 0
def tw16166244154187429513 := 0
def tw9225193577217908697 := 0
def tw4613939460058711523 := 0
def tw7776723898458271090 := 0
def tw17190304399239713662 := 0
def tw16428023261358701491 := 0
def tw16186438254461097860 := 0
def tw5374382730472553111 := 0
def tw13947927363289101992 := 0
def tw9201878191556995060 := 0
def tw12395288505975196125 := 0
def tw15899207368659020417 := 0
def tw11108790095037927429 := 0
def tw1191947104519055892 := 0
def tw5484824661850338959 := 0
def tw12476145206993983557 := 0
def tw7307359075441710552 := 0
def tw179722235713471712 := 0
def tw6607879962686833159 := 0
def tw6824531084618717873 := 0
def tw3079048968487099781 := 0
def tw6555606749538972288 := 0
def tw7406568569066942606 := 0
def tw12289979117469422302 := 0
def tw3506518952403949576 := 0
def tw12831758907152183073 := 0
def tw3214804320667171649 := 0
def tw12617718677370915378 := 0
def tw9288529253789817428 := 0
def tw11086466667597451237 := 0
def tw16449148144929867605 := 0
def tw5169056201661332271 := 0
def tw3932100862583573359 := 0
def tw15246826895087964254 := 0
def tw6563782140881384679 := 0
def tw5501636991626514542 := 0
def tw151325348573703147 := 0
def tw13219539584067821378 := 0
def tw9541023438162905587 := 0
def tw18348403495300181229 := 0
def tw4003341843795635874 := 0
def tw5748596861709377011 := 0
def tw1668379918382760763 := 0
def tw8734190924276080252 := 0
def tw10803166888992951560 := 0
def tw980296423731601304 := 0
def tw5060959403021680896 := 0
def tw6682836315254767957 := 0
def tw4039581417802880710 := 0
def tw3991256019958853336 := 0
def tw8338041959489210268 := 0
def tw17165976991797588084 := 0
def tw17666570631031482349 := 0
def tw10436898348573909510 := 0
def tw8833256486323100239 := 0
def tw15877770819676307618 := 0
def tw15161340571861708725 := 0
def tw4054119287098449993 := 0
def tw12269368109220792834 := 0
def tw7592933318026373872 := 0
def tw17931034116615683621 := 0
def tw6616102518218967235 := 0
def tw455654087331585318 := 0
def tw670302674631851022 := 0
def tw4532272387266528160 := 0
def tw7781915835124153610 := 0
def tw2602465007202278271 := 0
def tw8504708688952877896 := 0
def tw8498029089734435780 := 0
def tw16640653843708273115 := 0
def tw781799420379092465 := 0
def tw12651198161267066908 := 0
def tw964359588256243301 := 0
def tw15055536353669202654 := 0
def tw17275419498700156640 := 0
def tw11249024680861755973 := 0
def tw11587607031421090953 := 0
def tw7840316380452052817 := 0
def tw8456344166980658827 := 0
def tw3464412654989632704 := 0
def tw3809145132869807583 := 0
def tw7084805496553441862 := 0
def tw9905703856957181037 := 0
def tw13172935382786387818 := 0
def tw10844695892541064014 := 0
def tw2241398133296789965 := 0
def tw8972404011029481548 := 0
def tw9747092571551434537 := 0
def tw8620918034241952012 := 0
def tw875185448561031377 := 0
def tw2364207145461433777 := 0
def tw9389185833337859821 := 0
def tw8519240956463226090 := 0
def tw1400781122432803839 := 0
def tw676927500421588564 := 0
def tw11001561138886768424 := 0
def tw3893910505370999268 := 0
def tw436853401663823156 := 0
def tw9601290714609574569 := 0
def tw6525343864710228839 := 0
def tw8844237370704651487 := 0
def tw8865513653077130824 := 0
def tw7020093043907384295 := 0
def tw6465725495745682987 := 0
def tw13189186913003968453 := 0
def tw6829422455565819653 := 0
def tw8148909797514852293 := 0
def tw2048403604764995350 := 0
def tw5748373472278115969 := 0
def tw16897338263924098843 := 0
def tw3098310681530944252 := 0
def tw15287217431034632141 := 0
def tw11602148720079158283 := 0
def tw15530757360625370846 := 0
def tw10769842969945428027 := 0
def tw11709567193805418739 := 0
def tw727073337593622287 := 0
def tw13974887177609269960 := 0
def tw6695780615644929587 := 0
def tw12376323604656374189 := 0
def tw16344295237333437211 := 0
def tw4838589425693996463 := 0
def tw326651125852891336 := 0
def tw727209228528393592 := 0
def tw15509539215793223989 := 0
def tw12975198487231124945 := 0
def tw3112204427717997898 := 0
def tw6000091068446467279 := 0
def tw16381545819938039051 := 0
def tw4558055044108894679 := 0
def tw11154090308733804680 := 0
def tw15052504884696101226 := 0
def tw8653094497566772584 := 0
def tw16814916857601378384 := 0
def tw8224124987013775671 := 0
def tw5673012651036053536 := 0
def tw546517279010109007 := 0
def tw18072572143329626340 := 0
def tw6520435560371492630 := 0
def tw15841835163250069012 := 0
def tw2354507013216400525 := 0
def tw8095619418247415794 := 0
def tw13504134056937787163 := 0
def tw6770006567130151001 := 0
def tw6134187123216298309 := 0
def tw10652187669417255657 := 0
def tw5476939520288519931 := 0
def tw7556442600128467741 := 0
def tw7158984364856133883 := 0
def tw18399482329034532559 := 0
def tw2272129716353348786 := 0
def tw7999998042013138335 := 0
def tw10671032823662427766 := 0
def tw7961307398209039740 := 0
def tw9935896756187643469 := 0
def tw1297949587328199111 := 0
def tw18418765352833668962 := 0
def tw14193149929041586119 := 0
def tw5917508447982618254 := 0
def tw16136083349682723930 := 0
def tw15708167906918408032 := 0
def tw17305709817982933650 := 0
def tw18136450355031038917 := 0
def tw15692914348007170271 := 0
def tw9387205709391875151 := 0
def tw2238437564239412717 := 0
def tw3939844523178619965 := 0
def tw16844654819418008653 := 0
def tw18100692025560854493 := 0
def tw12775060575478858720 := 0
def tw4675758166378329006 := 0
def tw2369152792036946178 := 0
def tw4827511014512096073 := 0
def tw10391443949448667148 := 0
def tw13909757676060027666 := 0
def tw12651816697025531397 := 0
def tw17166578530476173299 := 0
def tw7110508578992047241 := 0
def tw3758067913804224349 := 0
def tw500180967287778839 := 0
def tw9507291373035158688 := 0
def tw12918508524383441393 := 0
def tw5439301043503090494 := 0
def tw13448330243891023546 := 0
def tw6516094794105510913 := 0
def tw740855953801346769 := 0
def tw8673804382394252718 := 0
def tw9325901250089605504 := 0
def tw12324445257869556592 := 0
def tw10019084716218648044 := 0
def tw7790189813547200668 := 0
def tw10022655427530072105 := 0
def tw16393154132747843980 := 0
def tw15006344162565042025 := 0
def tw14963880175401104133 := 0
def tw7889389941587024654 := 0
def tw3196081140500458711 := 0
def tw532682690920284639 := 0
def tw4952419392573688646 := 0
def tw9106659606492804327 := 0
def tw1413062704184504848 := 0
def tw5213308553713780057 := 0
def tw15328940194494817501 := 0
def tw10906652036595940587 := 0
def tw512841837902947203 := 0
def tw10576036402861400832 := 0
def tw4490930158557204940 := 0
def tw9643762318677028342 := 0
def tw10830770831536270095 := 0
def tw7419942646802784171 := 0
def tw8629692175691485973 := 0
def tw17801089945643958327 := 0
def tw12246223596166636136 := 0
def tw3012085240375684932 := 0
def tw6595762589370108135 := 0
def tw10855472996769135945 := 0
def tw15655956070660384722 := 0
def tw3293090285660849608 := 0
def tw14040812184379128283 := 0
def tw17892335645744947774 := 0
def tw13908163982003358602 := 0
def tw7213834967897319587 := 0
def tw17150297672781425399 := 0
def tw10350259273534384747 := 0
def tw11689486746672262846 := 0
def tw6954907715418915105 := 0
def tw3482768075394687 := 0
def tw6660242399832865824 := 0
def tw7715435908861182570 := 0
def tw7628985770234847871 := 0
def tw4674053805641027180 := 0
def tw1490629296016478509 := 0
def tw381261172135129525 := 0
def tw874414858577723329 := 0
def tw2143770031340687938 := 0
def tw15334427497602749920 := 0
def tw13729202421031570789 := 0
def tw11642368885993568425 := 0
def tw2967809553567788763 := 0
def tw2449738330017579159 := 0
def tw6867188199425042543 := 0
def tw2426677893619702309 := 0
def tw14994702349444899645 := 0
def tw16558341242554563561 := 0
def tw14479689037864508835 := 0
def tw13298757096553579875 := 0
def tw16476709524249691480 := 0
def tw17971205965874648030 := 0
def tw11280521123295070980 := 0
def tw3125172910067494429 := 0
def tw16109055782525281528 := 0
def tw1180775370830390151 := 0
def tw3983757238490953789 := 0
def tw4708854628239467847 := 0
def tw4647192139123390529 := 0
def tw13356931164358579393 := 0
def tw7353642486024585281 := 0
def tw7191426659063870868 := 0
def tw595232619866318301 := 0
def tw878462795742292744 := 0
def tw4326591001890768538 := 0
def tw7787221340823301192 := 0
def tw8143698345744225858 := 0
def tw2868134762934015026 := 0
def tw16492299625858965678 := 0
def tw13718511801338027475 := 0
def tw8634780651247149374 := 0
def tw16275448024645797947 := 0
def tw12594515045154941586 := 0
def tw497872897497541718 := 0
def tw15430612759380274199 := 0
def tw1947270671275924857 := 0
def tw1251009318391087098 := 0
def tw14437413941193432350 := 0
def tw5395602869449515184 := 0
def tw4566861129876971617 := 0
def tw14894625307953087168 := 0
def tw5305594454263162217 := 0
def tw4536656491602648324 := 0
def tw4382572878366018644 := 0
def tw8648302503932025926 := 0
def tw3881981586247933054 := 0
def tw4302850629300934027 := 0
def tw8933963236645506972 := 0
def tw6261935811117263281 := 0
def tw13200249841413011189 := 0
def tw1652573398350400061 := 0
def tw3117576530527140702 := 0
def tw7594703651646587127 := 0
def tw7304034794265723884 := 0
def tw4455012982435029891 := 0
def tw14553491231216678174 := 0
def tw6244673036121843765 := 0
def tw7653718158170318408 := 0
def tw5022353247020059403 := 0
def tw17319917365623555212 := 0
def tw10161601239918997947 := 0
def tw10754792844756867522 := 0
def tw10317108705235968271 := 0
def tw7687274422543358103 := 0
def tw15566886743643951877 := 0
def tw8848452785382789309 := 0
def tw12671313294219301793 := 0
def tw11951489997908107529 := 0
def tw2922180354557181226 := 0
def tw6802991665380074673 := 0
def tw16366678174336630704 := 0
def tw4205924375249806185 := 0
def tw11865237549760444410 := 0
def tw949486361826684700 := 0
def tw5278729083927462553 := 0
def tw12867855197618261084 := 0
def tw10812771886765393783 := 0
def tw2320533449399145514 := 0
def tw12062281303388516075 := 0
def tw9632035016709125507 := 0
def tw9507484985340631742 := 0
def tw2201461164137961350 := 0
def tw3151467661753768061 := 0
def tw7775924303075205533 := 0
def tw7729642143725140814 := 0
def tw1997085773547139535 := 0
def tw15765690307147387921 := 0
def tw6254260598642387693 := 0
def tw5085986207365041639 := 0
def tw3121223328367136903 := 0
def tw11747119714588828799 := 0
def tw8350831879514307267 := 0
def tw16505853631281122362 := 0
def tw14680947175027902557 := 0
def tw4402923137251998917 := 0
def tw13477379732301963564 := 0
def tw3738917967875743991 := 0
def tw5947567668051629868 := 0
def tw14403291088408356590 := 0
def tw17595251656724204823 := 0
def tw10174302865986119150 := 0
def tw11165899710226628184 := 0
def tw9381742535048272244 := 0
def tw1685724381018868467 := 0
def tw2652724889533890259 := 0
def tw1779473679464033309 := 0
def tw748813172448373913 := 0
def tw12989004207836507732 := 0
def tw17493132469608743028 := 0
def tw8229392827972632802 := 0
def tw1461064009752405540 := 0
def tw10962810143204794196 := 0
def tw9824212657907003379 := 0
def tw82089836799449549 := 0
def tw3606368262437585692 := 0
def tw8763338232158517802 := 0
def tw7887496487341921870 := 0
def tw398586051706667545 := 0
def tw915913575052494456 := 0
def tw13274717614701580426 := 0
def tw12361524117712578656 := 0
def tw3236146961868972915 := 0
def tw15605579269570313268 := 0
def tw5287303176629338113 := 0
def tw4874211112332664184 := 0
def tw6448712128730838334 := 0
def tw7062352554690810934 := 0
def tw5000308735788444649 := 0
def tw17531733563998167684 := 0
def tw7630023062056838451 := 0
def tw17326626677577162855 := 0
def tw6086898546302894820 := 0
def tw8017195273538331943 := 0
def tw14326537731010083594 := 0
def tw14384669886587459579 := 0
def tw18227304214256821141 := 0
def tw3280707288940369492 := 0
def tw10380336286768162029 := 0
def tw17287141851429477426 := 0
def tw7483103009988971471 := 0
def tw4029746470743492413 := 0
def tw15371493134410203162 := 0
def tw11734263850987145642 := 0
def tw4073387774578002365 := 0
def tw10028649730353608163 := 0
def tw7841316885118406533 := 0
def tw15870068363003742470 := 0
def tw899981237890133774 := 0
def tw6610321921345152777 := 0
def tw8007293377367899339 := 0
def tw8037747207210204881 := 0
def tw7549950667595260391 := 0
def tw3905794660404458955 := 0
def tw6552338775798279161 := 0
def tw630720194100479272 := 0
def tw14008730000303907925 := 0
def tw11333641801379582182 := 0
def tw15285434216292483279 := 0
def tw5363852602027723449 := 0
def tw2656830848317587367 := 0
def tw1274338265644833384 := 0
def tw10642640819403267308 := 0
def tw445238013137761692 := 0
def tw9198004380118973283 := 0
def tw14896448236445289463 := 0
def tw14750085214907004566 := 0
def tw11258499203843836760 := 0
def tw11996489630241921285 := 0
def tw17526673342432902554 := 0
def tw16664322956551994262 := 0
def tw11918756002778964295 := 0
def tw5817043965399506707 := 0
def tw4542507051198140503 := 0
def tw7059960034058574309 := 0
def tw8191564708592747352 := 0
def tw15674788755787625476 := 0
def tw4584607299488657561 := 0
def tw9002785604856787418 := 0
def tw3278239377452194624 := 0
def tw10089496559287572808 := 0
def tw18322053664644953376 := 0
def tw8300041620269717550 := 0
def tw3590734629685272753 := 0
def tw12266033417376747125 := 0
def tw16561230865401492796 := 0
def tw3609837978630462116 := 0
def tw2035042287379167127 := 0
def tw17528314915852617766 := 0
def tw3069606809445662202 := 0
def tw14758456399565041622 := 0
def tw12830356167800187765 := 0
def tw459268856036819537 := 0
def tw5710986965808371248 := 0
def tw2629185189391338715 := 0
def tw5108358998177990194 := 0
def tw13490855201690317765 := 0
def tw15038714146199682218 := 0
def tw444907596231638823 := 0
def tw13403219020929838103 := 0
def tw3440431799279472135 := 0
def tw7891357138494579656 := 0
def tw17677394496899275073 := 0
def tw265391712381974714 := 0
def tw11529692323734037304 := 0
def tw7909387090323460545 := 0
def tw4556733592537689446 := 0
def tw503392694940020547 := 0
def tw5046292777973205288 := 0
def tw11986152375271973810 := 0
def tw7766882989835263386 := 0
def tw16025250986945812066 := 0
def tw9944752651122679128 := 0
def tw12198468853908000721 := 0
def tw16985961074325983739 := 0
def tw13335756069862660181 := 0
def tw45080830871027055 := 0
def tw14757915548464631706 := 0
def tw3962017402410505183 := 0
def tw4846870059327837722 := 0
def tw9178137272937768710 := 0
def tw16219563776495371244 := 0
def tw11775956586473188979 := 0
def tw4098162545174518752 := 0
def tw5122368940434530447 := 0
def tw6326932486963895948 := 0
def tw16182071910491535491 := 0
def tw8950204432755214298 := 0
def tw3680995843594276153 := 0
def tw14772947522441500488 := 0
def tw10230632346088665940 := 0
def tw17314029016308968177 := 0
def tw16628800345373731642 := 0
def tw4694555003329931691 := 0
def tw12198114761650571048 := 0
def tw17022359771420304163 := 0
def tw15351353616092379555 := 0
def tw7971872238975440700 := 0
def tw733867282882123088 := 0
def tw2525352785203833549 := 0
def tw3228374323252173639 := 0
def tw8115296226019105273 := 0
def tw15857244538242181808 := 0
def tw4158986060651374932 := 0
def tw8133974888684803964 := 0
def tw7508635476565295164 := 0
def tw15346111358633913873 := 0
def tw15782962282835750084 := 0
def tw13658242877444241682 := 0
def tw4392448225240669811 := 0
def tw11143909698610386042 := 0
def tw17295004937269584126 := 0
def tw13442991477922006756 := 0
def tw11807155700714583269 := 0
def tw11629530722563338765 := 0
def tw9474161892616653263 := 0
def tw10267713065199374099 := 0
def tw9099651388629705016 := 0
def tw7033237148498735372 := 0
def tw539072278741154581 := 0
def tw198820010121803425 := 0
def tw8166070777915990342 := 0
def tw4960963578087477975 := 0
def tw16194574384734984686 := 0
def tw7353119182950115660 := 0
def tw2255370943309811457 := 0
def tw16525481313196988880 := 0
def tw14107838228968624090 := 0
def tw7309696998222131581 := 0
def tw5768672080946943097 := 0
def tw15666320847212482286 := 0
def tw5194981201834341355 := 0
def tw4621838750433890977 := 0
def tw15482391654753204244 := 0
def tw4979704532035516279 := 0
def tw3325713274709459889 := 0
def tw12251172322380316620 := 0
def tw3878019008834254070 := 0
def tw12861213531704392208 := 0
def tw7446637860409368279 := 0
def tw711429212188089108 := 0
def tw13214675530683848021 := 0
def tw18145763512466087620 := 0
def tw16633893833282171121 := 0
def tw13536108512153652958 := 0
def tw14875886436184418092 := 0
def tw2924230401764894917 := 0
def tw14229027818871445395 := 0
def tw15258513189696854537 := 0
def tw10114776988849799885 := 0
def tw11132919731060205731 := 0
def tw14172823064887609497 := 0
def tw12131588284477523218 := 0
def tw15645225586316782480 := 0
def tw1188452273491070691 := 0
def tw664518228813100229 := 0
def tw15727106808407289065 := 0
def tw273166285583876082 := 0
def tw16037630839669561689 := 0
def tw16047912303066049073 := 0
def tw5612469463115594590 := 0
def tw8111924703624542851 := 0
def tw17039495241227206079 := 0
def tw8462835167118196480 := 0
def tw4244012687885182634 := 0
def tw2947853588170662270 := 0
def tw13061694869572323384 := 0
def tw9882264326605464857 := 0
def tw2074193097564242992 := 0
def tw16413602293530364030 := 0
def tw5010931334394824556 := 0
def tw13400020593807377749 := 0
def tw5117968543341263802 := 0
def tw3441133762799182865 := 0
def tw14144828517205899990 := 0
def tw873514876450814942 := 0
def tw3871900267973164708 := 0
def tw856321244820146320 := 0
def tw17971444404925862101 := 0
def tw14158408589532360334 := 0
def tw12270531601221564457 := 0
def tw7472312336178220038 := 0
def tw8949619880868335318 := 0
def tw6598733755430370055 := 0
def tw18059529535578001985 := 0
def tw14738264537996114071 := 0
def tw3076688941114858302 := 0
def tw4763766350987187897 := 0
def tw17243155330470576208 := 0
def tw13316142948795081315 := 0
def tw12680940922076767387 := 0
def tw8187901243674783120 := 0
def tw1053645349384561011 := 0
def tw6122128581684594399 := 0
def tw3814021774764123961 := 0
def tw2444135439970273209 := 0
def tw4555959770349953425 := 0
def tw3337629746429118207 := 0
def tw8021602193601814101 := 0
def tw9443528840667164091 := 0
def tw10264325091944865685 := 0
def tw13932701205900441814 := 0
def tw12415963780571365791 := 0
def tw16907530500142913645 := 0
def tw4885444842542106876 := 0
def tw5712902962546317398 := 0
def tw1363493144728320458 := 0
def tw16698155019258654855 := 0
def tw884434276274531806 := 0
def tw17602053135231500924 := 0
def tw10826607646110380801 := 0
def tw14653088062669115587 := 0
def tw3337120685185822650 := 0
def tw13838460462937052009 := 0
def tw2901044644403973226 := 0
def tw12616438891285126430 := 0
def tw5075225776597321225 := 0
def tw2455600548227464403 := 0
def tw13229619945788416646 := 0
def tw4630631873017216970 := 0
def tw9636613648501449182 := 0
def tw2367463885879558453 := 0
def tw5720112565857572193 := 0
def tw1457391772578604616 := 0
def tw16902439147787403734 := 0
def tw14360720976261901788 := 0
def tw8444520362064933776 := 0
def tw11019352968435813513 := 0
def tw7665512476944868792 := 0
def tw4489149007712766256 := 0
def tw7437292986827867435 := 0
def tw21280370977118866 := 0
def tw13885158774557485881 := 0
def tw5103664806453125125 := 0
def tw18094948667275515510 := 0
def tw6065613109816790269 := 0
def tw3712526855228763411 := 0
def tw6223188273840084808 := 0
def tw2004096396801730561 := 0
def tw6978133515734025054 := 0
def tw11038529586595252948 := 0
def tw8126212689305616786 := 0
def tw14407443859278451884 := 0
def tw17796000853700012795 := 0
def tw1508997771271348035 := 0
def tw1138877584368085568 := 0
def tw6561291269093210231 := 0
def tw11669361118810819010 := 0
def tw15864796580713879855 := 0
def tw12195575396276195277 := 0
def tw3930719056805580052 := 0
def tw13963601409262580850 := 0
def tw5419779411418222961 := 0
def tw16505278068567609076 := 0
def tw11507410440388253609 := 0
def tw1669689177070620792 := 0
def tw6962663085003434825 := 0
def tw8090727383040206318 := 0
def tw11200001294177916651 := 0
def tw13225759529338750164 := 0
def tw5382686830573796921 := 0
def tw8552756598853378758 := 0
def tw10978389703233328351 := 0
def tw8174154913816944583 := 0
def tw14021578167798666641 := 0
def tw13820051814536974710 := 0
def tw3974223982638234854 := 0
def tw17099968364131175088 := 0
def tw15054958418375782277 := 0
def tw369993031241666501 := 0
def tw2058933762967968002 := 0
def tw686495953649453559 := 0
def tw17357959814325057135 := 0
def tw6766317788539176838 := 0
def tw16349081043335056781 := 0
def tw6157840317066639720 := 0
def tw10404513294126223999 := 0
def tw14632591468156759750 := 0
def tw7809698727708503189 := 0
def tw831731902760755374 := 0
def tw16671287752375108911 := 0
def tw399445063839551629 := 0
def tw12015326602326306485 := 0
def tw8699528367025255622 := 0
def tw17430776003731087972 := 0
def tw10332110929518031059 := 0
def tw7840125697674227162 := 0
def tw13272149432989744385 := 0
def tw11790034879854720195 := 0
def tw4032229067730358879 := 0
def tw5590643961803082934 := 0
def tw7876740221431537279 := 0
def tw12174101826703942272 := 0
def tw17529111429491680633 := 0
def tw9017479852766833362 := 0
def tw16754691257118213330 := 0
def tw9302282008048462811 := 0
def tw15278478594694761016 := 0
def tw12397073842725583738 := 0
def tw13910015014497280941 := 0
def tw13460689715876131974 := 0
def tw16324235137171350465 := 0
def tw7578634647834290208 := 0
def tw16558986334285410647 := 0
def tw17672140965897166340 := 0
def tw816188689167471772 := 0
def tw7179990777130826597 := 0
def tw14995988617039835623 := 0
def tw3014444491353700084 := 0
def tw170335303854395956 := 0
def tw14632092751814383030 := 0
def tw13251708645303128693 := 0
def tw17764005081042221947 := 0
def tw892513776460695004 := 0
def tw17560718956194154061 := 0
def tw6066079721644690943 := 0
def tw1356835698741379721 := 0
def tw2394574878150029005 := 0
def tw570529725242179702 := 0
def tw12644881661182586432 := 0
def tw7571787663245367638 := 0
def tw2533019272475672349 := 0
def tw3483583922437136699 := 0
def tw3490366687055823102 := 0
def tw9133350664432561249 := 0
def tw13748040397054152383 := 0
def tw3387670702387231258 := 0
def tw2152799586559937365 := 0
def tw3501304319430124780 := 0
def tw7228443611240222872 := 0
def tw6987765831073476906 := 0
def tw7363223317600748650 := 0
def tw5901750069025740753 := 0
def tw18165037914622423179 := 0
def tw14117997249874922838 := 0
def tw7445770983670218691 := 0
def tw6816636872365874030 := 0
def tw9804640049607600686 := 0
def tw1367983216281226157 := 0
end PySem.W.Fast
open PySem PySem.W PyProof.Rows
set_option maxRecDepth 100000 in
set_option maxHeartbeats 0 in
theorem PySem.Challenge.cw_sightstone_k65_a_long_shelf_holds : PySem.Challenge.rw_sightstone_k65_a_long_shelf.Holds := by
  w_on; o_law; k_head; (case hw => w_witness2)
  k_fill
  refine VL.law_walk (l := PySem.Challenge.rw_sightstone_k65_a_long_shelf) (k := 7) (x := "_law_script") rfl rfl ⟨rfl, by decide, by decide⟩ (fun w h Y => PySem.W.kIn_of Y) ?F
  case F =>
    intro w mg fa h KX G hmg
    refine' Q.all_mk KX G hmg Q.math ?a0 ?l0 ?c0 ?k0 ?a1 ?l1 ?c1 ?k1 ?a2 ?l2 ?c2 ?k2 ?a3 ?l3 ?c3 ?k3 ?a4 ?l4 ?c4 ?k4 ?a5 ?l5 ?c5 ?k5 ?a6 ?l6 ?c6 ?k6 ?a7 ?l7 ?c7 ?k7 ?a8 ?l8 ?c8 ?k8 ?a9 ?l9 ?c9 ?k9 ?a10 ?l10 ?c10 ?k10 ?a11 ?l11 ?c11 ?k11 ?a12 ?l12 ?c12 ?k12 ?a13 ?l13 ?c13 ?k13 ?a14 ?l14 ?c14 ?k14 ?a15 ?l15 ?c15 ?k15 ?a16 ?l16 ?c16 ?k16 ?a17 ?l17 ?c17 ?k17 ?a18 ?l18 ?c18 ?k18 ?a19 ?l19 ?c19 ?k19 ?a20 ?l20 ?c20 ?k20 ?a21 ?l21 ?c21 ?k21 ?a22 ?l22 ?c22 ?k22 ?a23 ?i23 ?l23 ?c23 ?k23 ?a24 ?i24 ?l24 ?c24 ?k24 ?a25 ?i25 ?l25 ?c25 ?k25 ?a26 ?i26 ?l26 ?c26 ?k26 ?a27 ?i27 ?l27 ?c27 ?k27 ?a28 ?i28 ?l28 ?c28 ?k28 ?a29 ?l29 ?c29 ?k29 ?z0 ?z1 ?z2 ?z3 ?z4 ?z5 ?z6 ?z7 ?z8 ?z9 ?y0 ?y1 ?y2 ?y3 ?hgc0 ?hgc1 ?hgc2 ?hgc3 ?hgc4 ?xe0 ?xk0 ?xs0 ?xt0 ?xe1 ?xk1 ?xs1 ?xt1 ?xe2 ?xk2 ?xs2 ?xt2 ?xe3 ?xk3 ?xs3 ?xt3 ?xe4 ?xk4 ?xs4 ?xt4 ?gc_Shelf ?pg_Shelf ?hd_Shelf ?po_Shelf ?sa_Shelf ?mk_Shelf ?kc_Shelf ?nf_Shelf_rows ?gl3 ?gl3_0 ?gl3_1 ?gl3_2 ?gl3_3 ?gl3_4 ?gl3_5
    (case gc_Shelf => k_is)
    (case a0 => k_is)
    (case l0 => k_is)
    (case c0 => k_is)
    (case k0 => k_is)
    (case a1 => k_is)
    (case l1 => k_is)
    (case c1 => k_is)
    (case k1 => k_is)
    (case a2 => k_is)
    (case l2 => k_is)
    (case c2 => k_is)
    (case k2 => k_is)
    (case a3 => k_is)
    (case l3 => k_is)
    (case c3 => k_is)
    (case k3 => k_is)
    (case a4 => k_is)
    (case l4 => k_is)
    (case c4 => k_is)
    (case k4 => k_is)
    (case a5 => k_is)
    (case l5 => k_is)
    (case c5 => k_is)
    (case k5 => k_is)
    (case a6 => k_is)
    (case l6 => k_is)
    (case c6 => k_is)
    (case k6 => k_is)
    (case a7 => k_is)
    (case l7 => k_is)
    (case c7 => k_is)
    (case k7 => k_is)
    (case a8 => k_is)
    (case l8 => k_is)
    (case c8 => k_is)
    (case k8 => k_is)
    (case a9 => k_is)
    (case l9 => k_is)
    (case c9 => k_is)
    (case k9 => k_is)
    (case a10 => k_is)
    (case l10 => k_is)
    (case c10 => k_is)
    (case k10 => k_is)
    (case a11 => k_is)
    (case l11 => k_is)
    (case c11 => k_is)
    (case k11 => k_is)
    (case a12 => k_is)
    (case l12 => k_is)
    (case c12 => k_is)
    (case k12 => k_is)
    (case a13 => k_is)
    (case l13 => k_is)
    (case c13 => k_is)
    (case k13 => k_is)
    (case a14 => k_is)
    (case l14 => k_is)
    (case c14 => k_is)
    (case k14 => k_is)
    (case a15 => k_is)
    (case l15 => k_is)
    (case c15 => k_is)
    (case k15 => k_is)
    (case a16 => k_is)
    (case l16 => k_is)
    (case c16 => k_is)
    (case k16 => k_is)
    (case a17 => k_is)
    (case l17 => k_is)
    (case c17 => k_is)
    (case k17 => k_is)
    (case a18 => k_is)
    (case l18 => k_is)
    (case c18 => k_is)
    (case k18 => k_is)
    (case a19 => k_is)
    (case l19 => k_is)
    (case c19 => k_is)
    (case k19 => k_is)
    (case a20 => k_is)
    (case l20 => k_is)
    (case c20 => k_is)
    (case k20 => k_is)
    (case a21 => k_is)
    (case l21 => k_is)
    (case c21 => k_is)
    (case k21 => k_is)
    (case a22 => k_is)
    (case l22 => k_is)
    (case c22 => k_is)
    (case k22 => k_is)
    (case a23 => k_is)
    (case i23 => k_is)
    (case l23 => k_is)
    (case c23 => k_is)
    (case k23 => k_is)
    (case a24 => k_is)
    (case i24 => k_is)
    (case l24 => k_is)
    (case c24 => k_is)
    (case k24 => k_is)
    (case a25 => k_is)
    (case i25 => k_is)
    (case l25 => k_is)
    (case c25 => k_is)
    (case k25 => k_is)
    (case a26 => k_is)
    (case i26 => k_is)
    (case l26 => k_is)
    (case c26 => k_is)
    (case k26 => k_is)
    (case a27 => k_is)
    (case i27 => k_is)
    (case l27 => k_is)
    (case c27 => k_is)
    (case k27 => k_is)
    (case a28 => k_is)
    (case i28 => k_is)
    (case l28 => k_is)
    (case c28 => k_is)
    (case k28 => k_is)
    (case a29 => k_is)
    (case l29 => k_is)
    (case c29 => k_is)
    (case k29 => k_is)
    (case z0 => k_is)
    (case z1 => k_is)
    (case z2 => k_is)
    (case z3 => k_is)
    (case z4 => k_is)
    (case z5 => k_is)
    (case z6 => k_is)
    (case z7 => k_is)
    (case z8 => k_is)
    (case z9 => k_is)
    (case y0 => k_is)
    (case y1 => k_is)
    (case y2 => k_is)
    (case y3 => k_is)
    (case hgc0 => k_is)
    (case hgc1 => k_is)
    (case hgc2 => k_is)
    (case hgc3 => k_is)
    (case hgc4 => k_is)
    (case xe0 => k_exc)
    (case xk0 => k_is)
    (case xs0 => k_is)
    (case xt0 => k_is)
    (case xe1 => k_exc)
    (case xk1 => k_is)
    (case xs1 => k_is)
    (case xt1 => k_is)
    (case xe2 => k_exc)
    (case xk2 => k_is)
    (case xs2 => k_is)
    (case xt2 => k_is)
    (case xe3 => k_exc)
    (case xk3 => k_is)
    (case xs3 => k_is)
    (case xt3 => k_is)
    (case xe4 => k_exc)
    (case xk4 => k_is)
    (case xs4 => k_is)
    (case xt4 => k_is)
    (case pg_Shelf => k_is)
    (case hd_Shelf => k_is)
    (case po_Shelf => k_is)
    (case sa_Shelf => k_is)
    (case mk_Shelf => k_is)
    (case kc_Shelf => k_is)
    (case nf_Shelf_rows => k_is)
    (case gl3 => k_is)
    (case gl3_0 => k_is)
    (case gl3_1 => k_is)
    (case gl3_2 => k_is)
    (case gl3_3 => k_is)
    (case gl3_4 => k_is)
    (case gl3_5 => k_is)

