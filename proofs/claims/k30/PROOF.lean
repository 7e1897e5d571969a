import PyProof.Rows.All
import Wide.All
import OpenK.AllK
import Wide.FinOn
import HandS.ForMost
import HandS.ForExc
import HandS.ExcInit
import HandS.ExcField
import HandS.ExcIs
import HandS.IsInst
import HandS.Walk
import HandS.Conv
import HandS.Codes
import HandS.MakeKw
import HandS.Defaults
import HandS.CallSlots
import HandS.More
import HandS.Flow
import HandS.Style
import KE.KExcSuper
import HandS.TupAny
import HandS.DictComp
import HandS.Rev
import HandS.RevTup
import HandS.Zip
import KE.GoesMore
import KE.DataFind
import HandS.Nested
import HandS.MakeKwOnly
import HandS.Ends
import PySem.Challenge.RW_leastshifts_k30_stays_and_clashes
set_option Elab.async false
set_option linter.all false
set_option maxRecDepth 100000
section
set_option Elab.async false
set_option linter.all false
set_option maxRecDepth 100000
namespace Lp
open PySem PySem.Spec PyProof.Rows L2

/-! ### plain values: tuples by value, lists by value -/
inductive PV where
  | non | bl (b : Bool) | int (i : Int) | str (x : Str) | ty (n : String)
  | tup (xs : List PV) | lst (xs : List PV) | dK (kvs : List (Key × PV)) | ins (c : Nat) (fs : List (Str × PV)) | scr (ns : List Int) | exn (a d : Addr) (c : Nat) (fs : List (Str × PV))

instance : Inhabited PV := ⟨.non⟩

/-- what the def hands on: a value, an own error with its fields, or nothing that is said -/
inductive Res (α : Type) where
  | ok (a : α) | exc (c : Nat) (fs : List (Str × PV)) | bad
def Res.bind {α β : Type} (x : Res α) (f : α → Res β) : Res β := match x with
  | .ok a => f a
  | .exc c fs => .exc c fs
  | .bad => .bad
instance : Monad Res where
  pure a := .ok a
  bind x f := x.bind f
@[simp] theorem Res.ok_bind {α β : Type} (a : α) (f : α → Res β) : (Res.ok a >>= f) = f a := (rfl)
@[simp] theorem Res.exc_bind {α β : Type} (c fs) (f : α → Res β) : ((Res.exc c fs : Res α) >>= f) = Res.exc c fs := (rfl)
@[simp] theorem Res.bad_bind {α β : Type} (f : α → Res β) : ((Res.bad : Res α) >>= f) = Res.bad := (rfl)
@[simp] theorem Res.pure_eq {α : Type} (a : α) : (pure a : Res α) = .ok a := (rfl)

section
variable (G : Nat → Addr) (K : PySem.W.Frag)
mutual
/-- v stands for p over the heap H -/
inductive Rep (H : Hp) : V → PV → Prop
  | non : Rep H .non .non
  | bl (b : Bool) : Rep H (.bl b) (.bl b)
  | int (i : Int) : Rep H (.int i) (.int i)
  | str (x : Str) : Rep H (.str x) (.str x)
  | ty (n : String) : Rep H (.ty n) (.ty n)
  | exn {a d : Addr} {c : Nat} {fs : List (Str × V)} {ps : List (Str × PV)} : H d = some (.xd fs) → RepF H fs ps → Rep H (.ref a) (.exn a d c ps)
  | scr {a : Addr} {ns : List Int} : SqL K H a (ns.map V.int) → Rep H (.ref a) (.scr ns)
  | tup {a : Addr} {vs : List V} {ps : List PV} : SqT K H a vs → Reps H vs ps → Rep H (.ref a) (.tup ps)
  | lst {a : Addr} {vs : List V} {ps : List PV} : Rd H a (.lst vs) → Reps H vs ps → Rep H (.ref a) (.lst ps)
  | dK {a : Addr} {kvs : List (Key × V)} {ps : List (Key × PV)} : H a = some (.dK kvs) → RepK H kvs ps → Rep H (.ref a) (.dK ps)
  | ins {a dx : Addr} {c : Nat} {fs : List (Str × V)} {ps : List (Str × PV)} : H a = some (.ins (G c) dx fs) → RepF H fs ps → Rep H (.ref a) (.ins c ps)
inductive Reps (H : Hp) : List V → List PV → Prop
  | nil : Reps H [] []
  | cons {v : V} {vs : List V} {p : PV} {ps : List PV} : Rep H v p → Reps H vs ps → Reps H (v :: vs) (p :: ps)
inductive RepK (H : Hp) : List (Key × V) → List (Key × PV) → Prop
  | nil : RepK H [] []
  | cons {k : Key} {v : V} {vs : List (Key × V)} {p : PV} {ps : List (Key × PV)} : Rep H v p → RepK H vs ps → RepK H ((k, v) :: vs) ((k, p) :: ps)
inductive RepF (H : Hp) : List (Str × V) → List (Str × PV) → Prop
  | nil : RepF H [] []
  | cons {k : Str} {v : V} {vs : List (Str × V)} {p : PV} {ps : List (Str × PV)} : Rep H v p → RepF H vs ps → RepF H ((k, v) :: vs) ((k, p) :: ps)
end
end

section
variable {G : Nat → Addr} {K : PySem.W.Frag} {H H' : Hp}
theorem Same.rd {H H' : Hp} {a : Addr} {u : HO} (e : Same H H') (h : Rd H a u) : Rd H' a u := by
  rcases h with h | ⟨o, h⟩
  · exact .inl (e _ _ h)
  · exact .inr ⟨o, e _ _ h⟩
theorem Same.sqt {a : Addr} {xs : List V} (e : Same H H') (h : SqT K H a xs) : SqT K H' a xs := by
  rcases h with h | h
  · exact .inl (Same.rd e h)
  · exact .inr h
mutual
theorem Rep.mono (e : Same H H') : ∀ {v : V} {p : PV}, Rep G K H v p → Rep G K H' v p
  | _, _, .non => .non
  | _, _, .bl b => .bl b
  | _, _, .int i => .int i
  | _, _, .str x => .str x
  | _, _, .ty n => .ty n
  | _, _, .exn h r => .exn (e _ _ h) (RepF.mono e r)
  | _, _, .scr h => .scr (Same.seq e h)
  | _, _, .tup h r => .tup (Same.sqt e h) (Reps.mono e r)
  | _, _, .lst h r => .lst (Same.rd e h) (Reps.mono e r)
  | _, _, .dK h r => .dK (e _ _ h) (RepK.mono e r)
  | _, _, .ins h r => .ins (e _ _ h) (RepF.mono e r)
theorem Reps.mono (e : Same H H') : ∀ {vs : List V} {ps : List PV}, Reps G K H vs ps → Reps G K H' vs ps
  | _, _, .nil => .nil
  | _, _, .cons r rs => .cons (Rep.mono e r) (Reps.mono e rs)
theorem RepK.mono (e : Same H H') : ∀ {vs : List (Key × V)} {ps : List (Key × PV)}, RepK G K H vs ps → RepK G K H' vs ps
  | _, _, .nil => .nil
  | _, _, .cons r rs => .cons (Rep.mono e r) (RepK.mono e rs)
theorem RepF.mono (e : Same H H') : ∀ {vs : List (Str × V)} {ps : List (Str × PV)}, RepF G K H vs ps → RepF G K H' vs ps
  | _, _, .nil => .nil
  | _, _, .cons r rs => .cons (Rep.mono e r) (RepF.mono e rs)
end
theorem Reps.length : ∀ {vs : List V} {ps : List PV}, Reps G K H vs ps → vs.length = ps.length
  | _, _, .nil => rfl
  | _, _, .cons _ rs => congrArg (· + 1) (Reps.length rs)
theorem Reps.get : ∀ {vs : List V} {ps : List PV} {i : Nat} {p : PV}, Reps G K H vs ps → ps[i]? = some p → ∃ v, vs[i]? = some v ∧ Rep G K H v p
  | _, _, _, _, .nil, e => by simp at e
  | _, _, 0, _, .cons r _, e => by simp at e; subst e; exact ⟨_, rfl, r⟩
  | _, _, i + 1, _, .cons _ rs, e => by
    obtain ⟨v, e1, r⟩ := Reps.get (i := i) rs (by simpa using e)
    exact ⟨v, by simpa using e1, r⟩
theorem Reps.getV : ∀ {vs : List V} {ps : List PV} {i : Nat} {v : V}, Reps G K H vs ps → vs[i]? = some v → ∃ p, ps[i]? = some p ∧ Rep G K H v p
  | _, _, _, _, .nil, e => by simp at e
  | _, _, 0, _, .cons r _, e => by simp at e; subst e; exact ⟨_, rfl, r⟩
  | _, _, i + 1, _, .cons _ rs, e => by
    obtain ⟨v, e1, r⟩ := Reps.getV (i := i) rs (by simpa using e)
    exact ⟨v, by simpa using e1, r⟩
theorem Reps.append : ∀ {vs ws : List V} {ps qs : List PV}, Reps G K H vs ps → Reps G K H ws qs → Reps G K H (vs ++ ws) (ps ++ qs)
  | _, _, _, _, .nil, s => s
  | _, _, _, _, .cons r rs, s => .cons r (Reps.append rs s)
theorem Reps.take : ∀ {vs : List V} {ps : List PV} (n : Nat), Reps G K H vs ps → Reps G K H (vs.take n) (ps.take n)
  | _, _, 0, _ => .nil
  | _, _, _ + 1, .nil => .nil
  | _, _, n + 1, .cons r rs => .cons r (Reps.take n rs)
theorem Reps.drop : ∀ {vs : List V} {ps : List PV} (n : Nat), Reps G K H vs ps → Reps G K H (vs.drop n) (ps.drop n)
  | _, _, 0, r => r
  | _, _, _ + 1, .nil => .nil
  | _, _, n + 1, .cons _ rs => Reps.drop n rs
theorem Reps.set {v : V} {p : PV} (r : Rep G K H v p) : ∀ {vs : List V} {ps : List PV} (n : Nat), Reps G K H vs ps → Reps G K H (vs.set n v) (ps.set n p)
  | _, _, _, .nil => .nil
  | _, _, 0, .cons _ rs => .cons r rs
  | _, _, n + 1, .cons q rs => .cons q (Reps.set r n rs)
theorem Reps.eraseIdx : ∀ {vs : List V} {ps : List PV} (n : Nat), Reps G K H vs ps → Reps G K H (vs.eraseIdx n) (ps.eraseIdx n)
  | _, _, _, .nil => .nil
  | _, _, 0, .cons _ rs => rs
  | _, _, n + 1, .cons q rs => .cons q (Reps.eraseIdx n rs)
theorem Reps.reverse {vs : List V} {ps : List PV} (h : Reps G K H vs ps) : Reps G K H vs.reverse ps.reverse := by
  induction vs generalizing ps with
  | nil => cases h; exact .nil
  | cons v vs ih =>
    cases h with
    | cons r rs =>
      rw [List.reverse_cons, List.reverse_cons]
      exact Reps.append (ih rs) (.cons r .nil)
theorem Reps.snoc {vs : List V} {ps : List PV} {v : V} {p : PV} (h : Reps G K H vs ps) (r : Rep G K H v p) : Reps G K H (vs ++ [v]) (ps ++ [p]) := Reps.append h (.cons r .nil)
/-! the inversions -/
theorem Rep.non_inv {v : V} (r : Rep G K H v .non) : v = .non := by cases r; rfl
theorem Rep.bl_inv {v : V} {b : Bool} (r : Rep G K H v (.bl b)) : v = .bl b := by cases r; rfl
theorem Rep.int_inv {v : V} {i : Int} (r : Rep G K H v (.int i)) : v = .int i := by cases r; rfl
theorem Rep.str_inv {v : V} {x : Str} (r : Rep G K H v (.str x)) : v = .str x := by cases r; rfl
theorem Rep.exn_inv {v : V} {a d : Addr} {c : Nat} {ps : List (Str × PV)} (r : Rep G K H v (.exn a d c ps)) : v = .ref a ∧ ∃ fs, H d = some (.xd fs) ∧ RepF G K H fs ps := by cases r with | exn h r => exact ⟨rfl, _, h, r⟩
theorem Rep.ty_inv {v : V} {x : String} (r : Rep G K H v (.ty x)) : v = .ty x := by cases r; rfl
theorem Rep.tup_inv {v : V} {ps : List PV} (r : Rep G K H v (.tup ps)) : ∃ a vs, v = .ref a ∧ SqT K H a vs ∧ Reps G K H vs ps := by
  cases r with
  | tup h r => exact ⟨_, _, rfl, h, r⟩
theorem Rep.lst_inv {v : V} {ps : List PV} (r : Rep G K H v (.lst ps)) : ∃ a vs, v = .ref a ∧ Rd H a (.lst vs) ∧ Reps G K H vs ps := by
  cases r with
  | lst h r => exact ⟨_, _, rfl, h, r⟩
theorem Rep.ins_inv {v : V} {c : Nat} {ps : List (Str × PV)} (r : Rep G K H v (.ins c ps)) : ∃ a dx fs, v = .ref a ∧ H a = some (.ins (G c) dx fs) ∧ RepF G K H fs ps := by
  cases r with
  | ins h r => exact ⟨_, _, _, rfl, h, r⟩
theorem Rep.dK_inv {v : V} {ps : List (Key × PV)} (r : Rep G K H v (.dK ps)) : ∃ a kvs, v = .ref a ∧ H a = some (.dK kvs) ∧ RepK G K H kvs ps := by
  cases r with
  | dK h r => exact ⟨_, _, rfl, h, r⟩
theorem RepF.lookup {f : Str} : ∀ {fs : List (Str × V)} {ps : List (Str × PV)} {p : PV}, RepF G K H fs ps → ps.lookup f = some p → ∃ v, fs.lookup f = some v ∧ Rep G K H v p
  | _, _, _, .nil, e => by simp at e
  | _, _, p, .cons (k := k) r rs, e => by
    by_cases h : f = k
    · subst h
      simp only [List.lookup_cons_self, Option.some.injEq] at e
      subst e
      exact ⟨_, List.lookup_cons_self, r⟩
    · have hb : (f == k) = false := by simpa using h
      rw [List.lookup_cons, hb] at e
      obtain ⟨v, e1, r1⟩ := RepF.lookup rs e
      exact ⟨v, by rw [List.lookup_cons, hb]; exact e1, r1⟩
theorem RepF.length : ∀ {vs : List (Str × V)} {ps : List (Str × PV)}, RepF G K H vs ps → vs.length = ps.length
  | _, _, .nil => rfl
  | _, _, .cons _ rs => congrArg (· + 1) (RepF.length rs)
theorem RepK.length : ∀ {vs : List (Key × V)} {ps : List (Key × PV)}, RepK G K H vs ps → vs.length = ps.length
  | _, _, .nil => rfl
  | _, _, .cons _ rs => congrArg (· + 1) (RepK.length rs)
def putP (f : Str) (v : PV) : List (Str × PV) → List (Str × PV)
  | [] => [(f, v)]
  | (g, x) :: r => if g = f then (g, v) :: r else (g, x) :: putP f v r
theorem RepF.put {f : Str} {v : V} {p : PV} (r : Rep G K H v p) : ∀ {fs : List (Str × V)} {ps : List (Str × PV)}, RepF G K H fs ps → RepF G K H (putF f v fs) (putP f p ps)
  | _, _, .nil => .cons r .nil
  | _, _, .cons (k := k) q rs => by
    unfold putF putP
    by_cases h : k = f
    · rw [if_pos h, if_pos h]; exact .cons r rs
    · rw [if_neg h, if_neg h]; exact .cons q (RepF.put r rs)
end

/-! ### values without lists, dicts, instances: they lean on tuples alone -/
mutual
def PV.plain : PV → Bool
  | .tup xs => plains xs
  | .lst _ => false
  | .dK _ => false
  | .ins _ _ => false
  | .scr _ => false
  | .exn _ _ _ _ => false
  | _ => true
def plains : List PV → Bool
  | [] => true
  | x :: xs => x.plain && plains xs
end
theorem plains_iff : ∀ {xs : List PV}, plains xs = true ↔ ∀ x ∈ xs, x.plain = true
  | [] => by simp [plains]
  | x :: xs => by simp [plains, plains_iff (xs := xs)]
section
variable {G : Nat → Addr} {K : PySem.W.Frag} {H H' : Hp}
mutual
theorem Rep.plainMono (e : ∀ a xs, Rd H a (.tup xs) → Rd H' a (.tup xs)) : ∀ {v : V} {p : PV}, Rep G K H v p → p.plain = true → Rep G K H' v p
  | _, _, .non, _ => .non
  | _, _, .bl b, _ => .bl b
  | _, _, .int i, _ => .int i
  | _, _, .str x, _ => .str x
  | _, _, .ty n, _ => .ty n
  | _, _, .tup h r, q => .tup (h.imp_left (e _ _)) (Reps.plainMono e r (by simpa only [PV.plain] using q))
  | _, _, .scr _, q => absurd q (by simp [PV.plain])
  | _, _, .exn _ _, q => absurd q (by simp [PV.plain])
  | _, _, .lst _ _, q => absurd q (by simp [PV.plain])
  | _, _, .dK _ _, q => absurd q (by simp [PV.plain])
  | _, _, .ins _ _, q => absurd q (by simp [PV.plain])
theorem Reps.plainMono (e : ∀ a xs, Rd H a (.tup xs) → Rd H' a (.tup xs)) : ∀ {vs : List V} {ps : List PV}, Reps G K H vs ps → plains ps = true → Reps G K H' vs ps
  | _, _, .nil, _ => .nil
  | _, _, .cons r rs, q => by
    rw [plains, Bool.and_eq_true] at q; have q' := q
    exact .cons (Rep.plainMono e r q'.1) (Reps.plainMono e rs q'.2)
end
end

/-! ### the heap grows -/
/-- F: what is shared and never changes; H: all that is tracked -/
structure Ext (F H F' H' : Hp) : Prop where
  f : Same F F'
  h : Same H H'
  sub : Same F' H'
  new : ∀ a, F a = none → F' a ≠ none → H a = none
theorem Ext.refl {F H : Hp} (s : Same F H) : Ext F H F H := ⟨Same.refl _, Same.refl _, s, fun a h1 h2 => absurd h1 h2⟩
theorem Ext.trans {F H F1 H1 F2 H2 : Hp} (a : Ext F H F1 H1) (b : Ext F1 H1 F2 H2) : Ext F H F2 H2 :=
  ⟨a.f.trans b.f, a.h.trans b.h, b.sub, fun x h1 h2 => by
    by_cases h : F1 x = none
    · exact Same.free a.h (b.new x h h2)
    · exact a.new x h1 h⟩
theorem same_new {H : Hp} {p : Addr} {o : HO} (h : H p = none) : Same H (upd H p o) := fun b x e => by rw [upd_ne (ne_of_none e h)]; exact e
theorem same_upd2 {F H : Hp} {p : Addr} {o : HO} (s : Same F H) (h : H p = none) : Same (upd F p o) (upd H p o) := fun b x e => by
  by_cases hb : b = p
  · subst hb; rw [upd_same] at e ⊢; exact e
  · rw [upd_ne hb] at e ⊢; exact s _ _ e
theorem same_updR {F H : Hp} {p : Addr} {o : HO} (s : Same F H) (h : F p = none) : Same F (upd H p o) := fun b x e => by
  rw [upd_ne (ne_of_none e h)]; exact s _ _ e
/-- a new object that is shared at once -/
theorem Ext.push {F H F' H' : Hp} {p : Addr} (o : HO) (e : Ext F H F' H') (h : H' p = none) : Ext F H (upd F' p o) (upd H' p o) :=
  e.trans ⟨same_new (Same.free e.sub h), same_new h, same_upd2 e.sub h, fun a h1 h2 => by
    by_cases hb : a = p
    · rw [hb]; exact h
    · rw [upd_ne hb] at h2; exact absurd h1 h2⟩
/-- a new object that is kept apart -/
theorem Ext.pushOwn {F H F' H' : Hp} {p : Addr} (o : HO) (e : Ext F H F' H') (h : H' p = none) : Ext F H F' (upd H' p o) :=
  e.trans ⟨Same.refl _, same_new h, same_updR e.sub (Same.free e.sub h), fun a h1 h2 => absurd h1 h2⟩
end Lp
end
section
set_option Elab.async false
set_option linter.all false
set_option maxRecDepth 100000
namespace Lp
open PySem PySem.Spec L2

abbrev LE := List (Option PV)
abbrev Kd := Nat → Bool

section
variable (G : Nat → Addr) (K : PySem.W.Frag)
/-- an object that one slot alone holds -/
def OwnAt (F H : Hp) (a : Addr) : PV → Prop
  | .lst ps => ∃ vs, H a = some (.lst vs) ∧ Reps G K F vs ps
  | .dK ps => ∃ kvs, H a = some (.dK kvs) ∧ RepK G K F kvs ps
  | .ins c ps => ∃ dx fs, H a = some (.ins (G c) dx fs) ∧ RepF G K F fs ps
  | _ => False
/-- a value that is shared, or an object kept apart -/
def Top (F H : Hp) (v : V) (p : PV) : Prop := Rep G K F v p ∨ ∃ a, v = .ref a ∧ F a = none ∧ OwnAt G K F H a p
/-- new: apart from all that stood there before -/
def Frs (H0 F H : Hp) (v : V) (p : PV) : Prop := ∃ a, v = .ref a ∧ H0 a = none ∧ F a = none ∧ OwnAt G K F H a p
inductive Mode | sh | fr | top
def RM (m : Mode) (H0 F H : Hp) (v : V) (p : PV) : Prop := match m with
  | .sh => Rep G K F v p
  | .fr => Frs G K H0 F H v p
  | .top => Top G K F H v p
/-- the slots -/
structure Lc (κ : Kd) (F H : Hp) (σ : St) (τ : LE) : Prop where
  sub : Same F H
  len : σ.length = τ.length
  sh : ∀ i p, τ[i]? = some (some p) → κ i = false → ∃ v, σ[i]? = some (some v) ∧ Rep G K F v p
  ow : ∀ i p, τ[i]? = some (some p) → κ i = true → ∃ a, σ[i]? = some (some (.ref a)) ∧ F a = none ∧ OwnAt G K F H a p
  ap : ∀ i j p q a, κ i = true → κ j = true → τ[i]? = some (some p) → τ[j]? = some (some q) → σ[i]? = some (some (.ref a)) → σ[j]? = some (some (.ref a)) → i = j
end

section
variable {G : Nat → Addr} {K : PySem.W.Frag} {F H F' H' F0 H0 : Hp} {σ : St} {τ : LE} {κ : Kd} {v : V} {p : PV} {a : Addr}
theorem OwnAt.some (h : OwnAt G K F H a p) : ∃ o, H a = some o := by
  cases p <;> first | exact h.elim | (obtain ⟨_, e, _⟩ := h; exact ⟨_, e⟩) | (obtain ⟨_, _, e, _⟩ := h; exact ⟨_, e⟩)
theorem OwnAt.mono (h : OwnAt G K F H a p) (f : Same F F') (e : H' a = H a) : OwnAt G K F' H' a p := by
  cases p <;> first | exact h.elim | skip
  · obtain ⟨vs, q, r⟩ := h; exact ⟨vs, e.trans q, Reps.mono f r⟩
  · obtain ⟨vs, q, r⟩ := h; exact ⟨vs, e.trans q, RepK.mono f r⟩
  · obtain ⟨dx, vs, q, r⟩ := h; exact ⟨dx, vs, e.trans q, RepF.mono f r⟩
theorem Ext.apart (e : Ext F H F' H') {o : HO} (hF : F a = none) (hH : H a = some o) : F' a = none := by
  cases q : F' a with
  | none => rfl
  | some u => have := e.new a hF (by rw [q]; simp); rw [hH] at this; cases this
theorem OwnAt.ext (h : OwnAt G K F H a p) (e : Ext F H F' H') : OwnAt G K F' H' a p := by
  obtain ⟨o, ho⟩ := h.some
  exact h.mono e.f ((e.h _ _ ho).trans ho.symm)
theorem Top.ext (h : Top G K F H v p) (e : Ext F H F' H') : Top G K F' H' v p := by
  rcases h with h | ⟨a, rfl, hF, h⟩
  · exact .inl (h.mono e.f)
  · obtain ⟨o, ho⟩ := h.some
    exact .inr ⟨a, rfl, e.apart hF ho, h.ext e⟩
theorem Frs.ext (h : Frs G K H0 F H v p) (e : Ext F H F' H') : Frs G K H0 F' H' v p := by
  obtain ⟨a, rfl, h0, hF, h⟩ := h
  obtain ⟨o, ho⟩ := h.some
  exact ⟨a, rfl, h0, e.apart hF ho, h.ext e⟩
theorem Frs.before {H1 : Hp} (h : Frs G K H1 F H v p) (e : Same H0 H1) : Frs G K H0 F H v p := by
  obtain ⟨a, rfl, h0, hF, h⟩ := h
  exact ⟨a, rfl, Same.free e h0, hF, h⟩
theorem RM.ext {m : Mode} (h : RM G K m H0 F H v p) (e : Ext F H F' H') : RM G K m H0 F' H' v p := by
  cases m with
  | sh => exact Rep.mono e.f h
  | fr => exact Frs.ext h e
  | top => exact Top.ext h e
theorem RM.before {m : Mode} {H1 : Hp} (h : RM G K m H1 F H v p) (e : Same H0 H1) : RM G K m H0 F H v p := by
  cases m with
  | sh => exact h
  | fr => exact Frs.before h e
  | top => exact h
theorem RM.top {m : Mode} (h : RM G K m H0 F H v p) : Top G K F H v p := by
  cases m with
  | sh => exact .inl h
  | fr => obtain ⟨a, e, _, h1, h2⟩ := h; exact .inr ⟨a, e, h1, h2⟩
  | top => exact h
theorem Lc.ext (l : Lc G K κ F H σ τ) (e : Ext F H F' H') : Lc G K κ F' H' σ τ :=
  ⟨e.sub, l.len, fun i p h1 h2 => let ⟨v, e1, r⟩ := l.sh i p h1 h2; ⟨v, e1, r.mono e.f⟩,
    fun i p h1 h2 => let ⟨a, e1, hF, o⟩ := l.ow i p h1 h2; let ⟨_, ho⟩ := o.some; ⟨a, e1, e.apart hF ho, o.ext e⟩, l.ap⟩
/-- an object kept apart is shared from now on -/
theorem freeze (s : Same F H) (hF : F a = none) (h : OwnAt G K F H a p) : ∃ o, H a = some o ∧ Same (upd F a o) H ∧ Rep G K (upd F a o) (.ref a) p := by
  obtain ⟨o, ho⟩ := h.some
  have s2 : Same (upd F a o) H := fun b x e => by
    by_cases hb : b = a
    · subst hb; rw [upd_same] at e; cases e; exact ho
    · rw [upd_ne hb] at e; exact s _ _ e
  refine ⟨o, ho, s2, ?_⟩
  have m := h.mono (H' := upd F a o) (same_new (o := o) hF) (by rw [upd_same, ho])
  cases p <;> first | exact m.elim | skip
  · obtain ⟨vs, q, r⟩ := m; exact .lst (.inl q) r
  · obtain ⟨vs, q, r⟩ := m; exact .dK q r
  · obtain ⟨dx, vs, q, r⟩ := m; exact .ins q r
/-- .. a new one: the slots stay -/
theorem Ext.freeze (e : Ext F H F' H') (hH : H a = none) (hF : F' a = none) (h : OwnAt G K F' H' a p) : ∃ F2, Ext F H F2 H' ∧ Rep G K F2 (.ref a) p := by
  obtain ⟨o, ho, s, r⟩ := Lp.freeze e.sub hF h
  refine ⟨_, ⟨e.f.trans (same_new hF), e.h, s, fun b h1 h2 => ?_⟩, r⟩
  by_cases hb : b = a
  · rw [hb]; exact hH
  · rw [upd_ne hb] at h2; exact e.new b h1 h2
end

/-! ### readings -/
section
variable (G : Nat → Addr) (K : PySem.W.Frag)
/-- an own error leaves -/
def ExcOk (E : XK) (F H : Hp) (c : Nat) (ps : List (Str × PV)) : Prop :=
  ∀ d fs F' H', Ext F H F' H' → F' d = some (.xd fs) → RepF G K F' fs ps → E (.ref (G c)) (some d) H'
def tE (m : Mode) (E : St → XK) (κ : Kd) (f : LE → Res PV) : TE := fun σ H Q => ∃ F τ, Lc G K κ F H σ τ ∧ match f τ with
  | .ok p => ∀ v F' H', Ext F H F' H' → RM G K m H F' H' v p → Q v H'
  | .exc c ps => ExcOk G K (E σ) F H c ps
  | .bad => False
def tT (E : St → XK) (κ : Kd) (f : LE → Res Bool) : TT := fun σ H Q => ∃ F τ, Lc G K κ F H σ τ ∧ match f τ with
  | .ok b => ∀ F' H', Ext F H F' H' → Q b H'
  | .exc c ps => ExcOk G K (E σ) F H c ps
  | .bad => False
inductive RMs (m : Mode) (H0 F H : Hp) : List V → List PV → Prop
  | nil : RMs m H0 F H [] []
  | cons {v : V} {vs : List V} {p : PV} {ps : List PV} : RM G K m H0 F H v p → RMs m H0 F H vs ps → RMs m H0 F H (v :: vs) (p :: ps)
def tA (m : Mode) (E : St → XK) (κ : Kd) (f : LE → Res (List PV)) : TA := fun σ H Q => ∃ F τ, Lc G K κ F H σ τ ∧ match f τ with
  | .ok ps => ∀ vs F' H', Ext F H F' H' → RMs G K m H F' H' vs ps → Q vs H'
  | .exc c ps => ExcOk G K (E σ) F H c ps
  | .bad => False
end
section
variable {G : Nat → Addr} {K : PySem.W.Frag} {F H F' H' F0 H0 : Hp} {σ : St} {τ : LE} {κ : Kd} {v : V} {p : PV} {a : Addr} {m : Mode} {E : St → XK} {X : Cx} {e : Expr}
theorem ExcOk.ext {E : XK} {c : Nat} {ps : List (Str × PV)} (h : ExcOk G K E F H c ps) (e : Ext F H F' H') : ExcOk G K E F' H' c ps :=
  fun d fs F2 H2 e2 h1 h2 => h d fs F2 H2 (e.trans e2) h1 h2
theorem RMs.ext : ∀ {vs : List V} {ps : List PV}, RMs G K m H0 F H vs ps → Ext F H F' H' → RMs G K m H0 F' H' vs ps
  | _, _, .nil, _ => .nil
  | _, _, .cons r rs, e => .cons (r.ext e) (RMs.ext rs e)
theorem RMs.before {H1 : Hp} (s : Same H0 H1) : ∀ {vs : List V} {ps : List PV}, RMs G K m H1 F H vs ps → RMs G K m H0 F H vs ps
  | _, _, .nil => .nil
  | _, _, .cons r rs => .cons (r.before s) (RMs.before s rs)
theorem RMs.shared : ∀ {vs : List V} {ps : List PV}, RMs G K .sh H0 F H vs ps → Reps G K F vs ps
  | _, _, .nil => .nil
  | _, _, .cons r rs => .cons r (RMs.shared rs)
theorem RMs.ofReps : ∀ {vs : List V} {ps : List PV}, Reps G K F vs ps → RMs G K .sh H0 F H vs ps
  | _, _, .nil => .nil
  | _, _, .cons r rs => .cons r (RMs.ofReps rs)

theorem pe_weak {t t' : TE} (h : PE X e t) (w : ∀ σ H Q, t' σ H Q → t σ H Q) : PE X e t' := ⟨fun pins s σ H Q I q => h.run pins s σ H Q I (w σ H Q q)⟩
theorem pt_weak {t t' : TT} (h : PT X e t) (w : ∀ σ H Q, t' σ H Q → t σ H Q) : PT X e t' := ⟨fun pins s σ H Q I q => h.run pins s σ H Q I (w σ H Q q)⟩
theorem pw_weak {t t' : TT} (h : PW X e t) (w : ∀ σ H Q, t' σ H Q → t σ H Q) : PW X e t' := ⟨fun wh pins s σ H Q I q => h.run wh pins s σ H Q I (w σ H Q q)⟩
theorem pa_weak {es : List Expr} {t t' : TA} (h : PA X es t) (w : ∀ σ H Q, t' σ H Q → t σ H Q) : PA X es t' := ⟨fun pos pins s σ H Q I q => h.run pos pins s σ H Q I (w σ H Q q)⟩
theorem ps_weak {st : Stmt} {t t' : TS} (h : PS X st t) (w : ∀ D σ H, t' D σ H → t D σ H) : PS X st t' := ⟨fun pins s σ H D I q => h.run pins s σ H D I (w D σ H q)⟩
theorem pss_weak {st : List Stmt} {t t' : TS} (h : PSs X st t) (w : ∀ D σ H, t' D σ H → t D σ H) : PSs X st t' := ⟨fun pins s σ H D I q => h.run pins s σ H D I (w D σ H q)⟩

/-! ### between the modes -/
theorem v_up {f : LE → Res PV} (h : PE X e (tE G K m E κ f)) : PE X e (tE G K .top E κ f) := pe_weak h fun σ H Q ⟨F, τ, l, q⟩ => ⟨F, τ, l, by
  cases hf : f τ with
  | ok p => rw [hf] at q; exact fun v F' H' e r => q v F' H' e r.top
  | exc c ps => rw [hf] at q; exact q
  | bad => rw [hf] at q; exact q⟩
theorem v_freeze {f : LE → Res PV} (h : PE X e (tE G K .fr E κ f)) : PE X e (tE G K .sh E κ f) := pe_weak h fun σ H Q ⟨F, τ, l, q⟩ => ⟨F, τ, l, by
  cases hf : f τ with
  | ok p =>
    rw [hf] at q
    rintro v F' H' e ⟨a, rfl, h0, hF, o⟩
    obtain ⟨F2, e2, r⟩ := e.freeze h0 hF o
    exact q _ F2 H' e2 r
  | exc c ps => rw [hf] at q; exact q
  | bad => rw [hf] at q; exact q⟩

/-! ### names, constants -/
def eVar (i : Nat) : LE → Res PV := fun τ => match τ[i]? with
  | some (some p) => .ok p
  | _ => .bad
theorem v_var (i : Nat) {x : Str} {pos : Pos} (k : κ i = false := by rfl) (hN : X.N[i]? = some x := by rfl) (hv : Vis X.env.scope x := by first | exact Or.inl rfl | exact Or.inr (Or.inl rfl) | exact Or.inr (Or.inr rfl)) (hd : (x == ("__debug__" : Str)) = false := by decide)
    (hcd : (x == ("__classdict__" : Str)) = false := by decide) : PE X (.Name x pos) (tE G K .sh E κ (eVar i)) := pe_weak (pe_var hN hv hd hcd) fun σ H Q ⟨F, τ, l, q⟩ => by
  unfold eVar at q
  cases h : τ[i]? with
  | none => rw [h] at q; exact q.elim
  | some o =>
    cases o with
    | none => rw [h] at q; exact q.elim
    | some p =>
      rw [h] at q
      obtain ⟨v, e1, r⟩ := l.sh i p h k
      exact ⟨v, e1, q v F H (Ext.refl l.sub) r⟩
/-- a slot that is owned, read as it is -/
theorem v_own (i : Nat) {x : Str} {pos : Pos} (k : κ i = true := by rfl) (hN : X.N[i]? = some x := by rfl) (hv : Vis X.env.scope x := by first | exact Or.inl rfl | exact Or.inr (Or.inl rfl) | exact Or.inr (Or.inr rfl)) (hd : (x == ("__debug__" : Str)) = false := by decide)
    (hcd : (x == ("__classdict__" : Str)) = false := by decide) : PE X (.Name x pos) (tE G K .top E κ (eVar i)) := pe_weak (pe_var hN hv hd hcd) fun σ H Q ⟨F, τ, l, q⟩ => by
  unfold eVar at q
  cases h : τ[i]? with
  | none => rw [h] at q; exact q.elim
  | some o =>
    cases o with
    | none => rw [h] at q; exact q.elim
    | some p =>
      rw [h] at q
      obtain ⟨a, e1, hF, r⟩ := l.ow i p h k
      exact ⟨.ref a, e1, q _ F H (Ext.refl l.sub) (.inr ⟨a, rfl, hF, r⟩)⟩
def eC (p : PV) : LE → Res PV := fun _ => .ok p
theorem c_of {v : V} {p : PV} {t : TE} (h : PE X e (tC v)) (r : ∀ F, Rep G K F v p) : PE X e (tE G K .sh E κ (eC p)) := pe_weak h fun σ H Q ⟨F, τ, l, q⟩ => q v F H (Ext.refl l.sub) (r F)
theorem v_int {i j pos} : PE X (.Constant (.int i) j pos) (tE G K .sh E κ (eC (.int i))) := c_of (t := tC .non) pe_int fun _ => .int i
theorem v_str {x j pos} : PE X (.Constant (.str x) j pos) (tE G K .sh E κ (eC (.str x))) := c_of (t := tC .non) pe_str fun _ => .str x
theorem v_bl {b j pos} : PE X (.Constant (.bool b) j pos) (tE G K .sh E κ (eC (.bl b))) := c_of (t := tC .non) pe_bl fun _ => .bl b
theorem v_non {j pos} : PE X (.Constant .none j pos) (tE G K .sh E κ (eC .non)) := c_of (t := tC .non) pe_non fun _ => .non
/-- a constant of the module -/
theorem v_gint {x : Str} {i : Int} {t : Tok} {pos : Pos} (hm : X.mg x = some (.int i t)) (hg : Gl X x := by rfl) (hd : (x == ("__debug__" : Str)) = false := by decide) : PE X (.Name x pos) (tE G K .sh E κ (eC (.int i))) :=
  c_of (t := tC .non) (pe_glob (v := .int i) hg hm ⟨_, rfl⟩ hd) fun _ => .int i
theorem v_gstr {x z : Str} {t : Tok} {pos : Pos} (hm : X.mg x = some (.str z t)) (hg : Gl X x := by rfl) (hd : (x == ("__debug__" : Str)) = false := by decide) : PE X (.Name x pos) (tE G K .sh E κ (eC (.str z))) :=
  c_of (t := tC .non) (pe_glob (v := .str z) hg hm ⟨_, rfl⟩ hd) fun _ => .str z
/-- a built-in type as a value -/
theorem v_gty {x : Str} {n : String} {pos : Pos} (hm : X.mg x = none) (hv : bootBuiltins x = some (.type n)) (hg : Gl X x := by rfl) (hn : x ≠ "__name__" := by decide) (hd : (x == ("__debug__" : Str)) = false := by decide) : PE X (.Name x pos) (tE G K .sh E κ (eC (.ty n))) :=
  c_of (t := tC .non) (pe_bltn (v := .ty n) hg hm hv rfl hn hd) fun _ => .ty n

/-! ### argument lists -/
def aNil : LE → Res (List PV) := fun _ => .ok []
def aCons (f : LE → Res PV) (g : LE → Res (List PV)) : LE → Res (List PV) := fun τ => f τ >>= fun p => g τ >>= fun ps => .ok (p :: ps)
theorem a_nil : PA X [] (tA G K m E κ aNil) := pa_weak pa_nil fun σ H Q ⟨F, τ, l, q⟩ => q [] F H (Ext.refl l.sub) .nil
theorem a_cons {es : List Expr} {f : LE → Res PV} {g : LE → Res (List PV)} (h : PE X e (tE G K m E κ f)) (hr : PA X es (tA G K m E κ g)) (hs : starEach (e :: es) X.env = (false, eval e X.env) :: starEach es X.env := by rfl) : PA X (e :: es) (tA G K m E κ (aCons f g)) :=
  pa_weak (pa_cons h hr hs) fun σ H Q ⟨F, τ, l, q⟩ => by
    refine ⟨F, τ, l, ?_⟩
    unfold aCons at q
    cases hf : f τ with
    | exc c ps => rw [hf] at q; exact q
    | bad => rw [hf] at q; exact q
    | ok p =>
      rw [hf] at q
      intro v F1 H1 e1 r1
      refine ⟨F1, τ, l.ext e1, ?_⟩
      cases hg : g τ with
      | exc c ps => rw [Res.ok_bind, hg] at q; exact ExcOk.ext q e1
      | bad => rw [Res.ok_bind, hg] at q; exact q
      | ok ps =>
        rw [Res.ok_bind, hg] at q
        exact fun vs F2 H2 e2 r2 => q (v :: vs) F2 H2 (e1.trans e2) (.cons (r1.ext e2) (r2.before e1.h))
end
end Lp
end
section
set_option Elab.async false
set_option linter.all false
set_option maxRecDepth 100000
namespace Lp
open PySem PySem.Spec L2
/-! ### operations on plain values -/
def up {α : Type} : Option α → Res α
  | some a => .ok a
  | none => .bad
@[simp] theorem up_some {α : Type} (a : α) : up (some a) = .ok a := (rfl)
@[simp] theorem up_none {α : Type} : up (none : Option α) = .bad := (rfl)
def e1 (g : PV → Option PV) (f : LE → Res PV) : LE → Res PV := fun τ => f τ >>= fun p => up (g p)
def e2 (g : PV → PV → Option PV) (f f' : LE → Res PV) : LE → Res PV := fun τ => f τ >>= fun p => f' τ >>= fun q => up (g p q)
section
variable (G : Nat → Addr) (K : PySem.W.Frag)
def OpV (r : R2) (m : Mode) (g : PV → PV → Option PV) : Prop := ∀ (F H : Hp) (x y : V) (p q z : PV) (Q : VK), Same F H → Top G K F H x p → Top G K F H y q → g p q = some z →
  (∀ v F' H', Ext F H F' H' → RM G K m H F' H' v z → Q v H') → r x y H Q
def UnV (r : V → Hp → VK → Prop) (m : Mode) (g : PV → Option PV) : Prop := ∀ (F H : Hp) (x : V) (p z : PV) (Q : VK), Same F H → Top G K F H x p → g p = some z →
  (∀ v F' H', Ext F H F' H' → RM G K m H F' H' v z → Q v H') → r x H Q
end
section
variable {G : Nat → Addr} {K : PySem.W.Frag} {κ : Kd} {E : St → XK} {X : Cx} {a b c : Expr} {m : Mode} {f f' f'' : LE → Res PV} {pos : Pos}

/-- two readings in a row, then a step on the values -/
theorem w_op {r : R2} {g : PV → PV → Option PV} (hg : OpV G K r m g) {σ : St} {H : Hp} {Q : VK} (h : tE G K m E κ (e2 g f f') σ H Q) : tOp r (tE G K .top E κ f) (tE G K .top E κ f') σ H Q := by
  obtain ⟨F, τ, l, q⟩ := h
  refine ⟨F, τ, l, ?_⟩
  unfold e2 at q
  cases hf : f τ with
  | exc c ps => rw [hf] at q; exact q
  | bad => rw [hf] at q; exact q
  | ok p =>
    rw [hf] at q
    intro v F1 H1 e1 r1
    refine ⟨F1, τ, l.ext e1, ?_⟩
    cases hf' : f' τ with
    | exc c ps => rw [Res.ok_bind, hf'] at q; exact ExcOk.ext q e1
    | bad => rw [Res.ok_bind, hf'] at q; exact q
    | ok p' =>
      rw [Res.ok_bind, hf', Res.ok_bind] at q
      intro v' F2 H2 e2 r2
      cases hz : g p p' with
      | none => rw [hz] at q; exact q.elim
      | some z =>
        rw [hz] at q
        exact hg F2 H2 v v' p p' z Q e2.sub (Top.ext r1 e2) r2 hz fun w F3 H3 e3 r3 => q w F3 H3 ((e1.trans e2).trans e3) (r3.before (e1.h.trans e2.h))
theorem w_un {r : V → Hp → VK → Prop} {g : PV → Option PV} (hg : UnV G K r m g) {σ : St} {H : Hp} {Q : VK} (h : tE G K m E κ (e1 g f) σ H Q) : (tE G K .top E κ f) σ H fun x H1 => r x H1 Q := by
  obtain ⟨F, τ, l, q⟩ := h
  refine ⟨F, τ, l, ?_⟩
  unfold e1 at q
  cases hf : f τ with
  | exc c ps => rw [hf] at q; exact q
  | bad => rw [hf] at q; exact q
  | ok p =>
    rw [hf, Res.ok_bind] at q
    intro v F1 H1 e1 r1
    cases hz : g p with
    | none => rw [hz] at q; exact q.elim
    | some z =>
      rw [hz] at q
      exact hg F1 H1 v p z Q e1.sub r1 hz fun w F3 H3 e3 r3 => q w F3 H3 (e1.trans e3) (r3.before e1.h)
theorem v_op {op : Operator} {r : R2} {g : PV → PV → Option PV} (ho : OpR X (binaryOp op) r) (hg : OpV G K r m g) (ha : PE X a (tE G K .top E κ f)) (hb : PE X b (tE G K .top E κ f')) : PE X (.BinOp a op b pos) (tE G K m E κ (e2 g f f')) :=
  pe_weak (pe_op ho ha hb) fun _ _ _ h => w_op hg h
theorem v_un {op : UnaryOp} {r : V → Hp → VK → Prop} {g : PV → Option PV} (ho : UnR X (unaryOp op) r) (hg : UnV G K r m g) (ha : PE X a (tE G K .top E κ f)) : PE X (.UnaryOp op a pos) (tE G K m E κ (e1 g f)) :=
  pe_weak (pe_un ho ha) fun _ _ _ h => w_un hg h
theorem v_cmp {op : CmpOp} {r : R2} {g : PV → PV → Option PV} (ho : OpR X (compareOp op) r) (hg : OpV G K r m g) (ha : PE X a (tE G K .top E κ f)) (hb : PE X b (tE G K .top E κ f')) (hm : behindInMarks op b = false := by first | exact nomark _ | rfl | with_unfolding_all rfl) :
    PE X (.Compare a [op] [b] pos) (tE G K m E κ (e2 g f f')) :=
  pe_weak (pe_cmpR ho ha hb hm) fun _ _ _ h => w_op hg h
/-- a reading as a test -/
def tst (f : LE → Res PV) : LE → Res Bool := fun τ => f τ >>= fun p => match p with
  | .bl b => .ok b
  | _ => .bad
theorem w_tst {t : TE} (h : ∀ σ H Q, tE G K .sh E κ f σ H Q → t σ H Q) {σ : St} {H : Hp} {Q : Bool → Hp → Prop} (q : tT G K E κ (tst f) σ H Q) : t σ H fun x H' => ∃ k, x = .bl k ∧ Q k H' := by
  obtain ⟨F, τ, l, q⟩ := q
  refine h σ H _ ⟨F, τ, l, ?_⟩
  unfold tst at q
  cases hf : f τ with
  | exc c ps => rw [hf] at q; exact q
  | bad => rw [hf] at q; exact q
  | ok p =>
    rw [hf, Res.ok_bind] at q
    intro v F1 H1 e1 r1
    cases p with
    | bl b => exact ⟨b, Rep.bl_inv r1, q F1 H1 e1⟩
    | _ => exact q.elim
theorem t_cmp {op : CmpOp} {r : R2} {g : PV → PV → Option PV} (ho : OpR X (compareOp op) r) (hg : OpV G K r .sh g) (ha : PE X a (tE G K .top E κ f)) (hb : PE X b (tE G K .top E κ f')) (hm : behindInMarks op b = false := by first | exact nomark _ | rfl | with_unfolding_all rfl) :
    PT X (.Compare a [op] [b] pos) (tT G K E κ (tst (e2 g f f'))) :=
  pt_weak (pt_cmpR ho ha hb hm) fun _ _ _ q => w_tst (fun _ _ _ h => w_op hg h) q
/-! chains -/
def eChain (g g' : PV → PV → Option PV) (f f' f'' : LE → Res PV) : LE → Res PV := fun τ => f τ >>= fun p => f' τ >>= fun p' => match g p p' with
  | some (.bl true) => f'' τ >>= fun p'' => up (g' p' p'')
  | some (.bl false) => .ok (.bl false)
  | _ => .bad
theorem w_chain {r r' : R2} {g g' : PV → PV → Option PV} (hg : OpV G K r .sh g) (hg' : OpV G K r' m g') (hm : ∀ b H0 F H, RM G K m H0 F H (.bl b) (.bl b)) {σ : St} {H : Hp} {Q : VK} (h : tE G K m E κ (eChain g g' f f' f'') σ H Q) :
    tChain r r' (tE G K .top E κ f) (tE G K .top E κ f') (tE G K .top E κ f'') σ H Q := by
  obtain ⟨F, τ, l, q⟩ := h
  refine ⟨F, τ, l, ?_⟩
  unfold eChain at q
  cases hf : f τ with
  | exc c ps => rw [hf] at q; exact q
  | bad => rw [hf] at q; exact q
  | ok p =>
    rw [hf] at q
    intro v F1 H1 e1 r1
    refine ⟨F1, τ, l.ext e1, ?_⟩
    cases hf' : f' τ with
    | exc c ps => rw [Res.ok_bind, hf'] at q; exact ExcOk.ext q e1
    | bad => rw [Res.ok_bind, hf'] at q; exact q
    | ok p' =>
      rw [Res.ok_bind, hf', Res.ok_bind] at q
      intro v' F2 H2 e2 r2
      have e12 := e1.trans e2
      cases hz : g p p' with
      | none => rw [hz] at q; exact q.elim
      | some z =>
        rw [hz] at q
        refine hg F2 H2 v v' p p' z _ e2.sub (Top.ext r1 e2) r2 hz fun w F3 H3 e3 r3 => ?_
        cases z with
        | bl k =>
          refine ⟨k, Rep.bl_inv r3, ?_⟩
          cases k with
          | false => rw [if_neg (by decide)]; exact q _ F3 H3 (e12.trans e3) (hm false _ _ _)
          | true =>
            rw [if_pos rfl]
            refine ⟨F3, τ, (l.ext e12).ext e3, ?_⟩
            cases hf'' : f'' τ with
            | exc c ps => simp only [hf''] at q; exact ExcOk.ext q (e12.trans e3)
            | bad => simp only [hf''] at q; exact q
            | ok p'' =>
              simp only [hf'', Res.ok_bind] at q
              intro v'' F4 H4 e4 r4
              cases hz' : g' p' p'' with
              | none => rw [hz'] at q; exact q.elim
              | some z' =>
                rw [hz'] at q
                exact hg' F4 H4 v' v'' p' p'' z' Q e4.sub (Top.ext (Top.ext r2 e3) e4) r4 hz' fun u F5 H5 e5 r5 => q u F5 H5 ((e12.trans e3).trans (e4.trans e5)) (r5.before ((e12.h.trans e3.h).trans e4.h))
        | _ => exact q.elim
theorem v_chain {op op' : CmpOp} {r r' : R2} {g g' : PV → PV → Option PV} (ho : OpR X (compareOp op) r) (ho' : OpR X (compareOp op') r') (hg : OpV G K r .sh g) (hg' : OpV G K r' .sh g') (ha : PE X a (tE G K .top E κ f)) (hb : PE X b (tE G K .top E κ f')) (hc : PE X c (tE G K .top E κ f''))
    (hm : lastMarks [op, op'] [b, c] = false := by with_unfolding_all rfl) : PE X (.Compare a [op, op'] [b, c] pos) (tE G K .sh E κ (eChain g g' f f' f'')) :=
  pe_weak (pe_chain ho ho' ha hb hc hm) fun _ _ _ h => w_chain hg hg' (fun b _ _ _ => .bl b) h
theorem t_chain {op op' : CmpOp} {r r' : R2} {g g' : PV → PV → Option PV} (ho : OpR X (compareOp op) r) (ho' : OpR X (compareOp op') r') (hg : OpV G K r .sh g) (hg' : OpV G K r' .sh g') (ha : PE X a (tE G K .top E κ f)) (hb : PE X b (tE G K .top E κ f')) (hc : PE X c (tE G K .top E κ f''))
    (hm : lastMarks [op, op'] [b, c] = false := by with_unfolding_all rfl) : PT X (.Compare a [op, op'] [b, c] pos) (tT G K E κ (tst (eChain g g' f f' f''))) :=
  pt_weak (pt_chain ho ho' ha hb hc hm) fun _ _ _ q => w_tst (fun _ _ _ h => w_chain hg hg' (fun b _ _ _ => .bl b) h) q

/-! and, or, not, if -/
def tAndM (f g : LE → Res Bool) : LE → Res Bool := fun τ => f τ >>= fun b => if b = true then g τ else .ok false
def tOrM (f g : LE → Res Bool) : LE → Res Bool := fun τ => f τ >>= fun b => if b = true then .ok true else g τ
def tNotM (f : LE → Res Bool) : LE → Res Bool := fun τ => f τ >>= fun b => .ok (!b)
variable {t t' : LE → Res Bool} {rest : List Expr}
theorem w_if {A B C : Prop} {b : Bool} (h1 : b = true → A → B) (h2 : b = false → A → C) (h : A) : if b = true then B else C := by
  cases b with
  | true => rw [if_pos rfl]; exact h1 rfl h
  | false => rw [if_neg (by decide)]; exact h2 rfl h
theorem tw_and1 (ha : PT X a (tT G K E κ t)) : PW X (.BoolOp .And [a] pos) (tT G K E κ t) := pw_and1 ha
theorem tw_or1 (ha : PT X a (tT G K E κ t)) : PW X (.BoolOp .Or [a] pos) (tT G K E κ t) := pw_or1 ha
theorem tw_and (ha : PT X a (tT G K E κ t)) (hb : PW X (.BoolOp .And (b :: rest) pos) (tT G K E κ t')) : PW X (.BoolOp .And (a :: b :: rest) pos) (tT G K E κ (tAndM t t')) :=
  pw_weak (pw_and ha hb) fun σ H Q ⟨F, τ, l, q⟩ => by
    refine ⟨F, τ, l, ?_⟩
    unfold tAndM at q
    cases hf : t τ with
    | exc c ps => rw [hf] at q; exact q
    | bad => rw [hf] at q; exact q
    | ok k =>
      rw [hf, Res.ok_bind] at q
      intro F1 H1 e1
      refine w_if (A := True) (fun hk _ => ?_) (fun hk _ => ?_) trivial
      · subst hk
        rw [if_pos rfl] at q
        refine ⟨F1, τ, l.ext e1, ?_⟩
        cases hg : t' τ with
        | exc c ps => rw [hg] at q; exact ExcOk.ext q e1
        | bad => rw [hg] at q; exact q
        | ok k' => rw [hg] at q; exact fun F2 H2 e2 => q F2 H2 (e1.trans e2)
      · subst hk
        rw [if_neg (by decide)] at q
        exact q F1 H1 e1
theorem tw_or (ha : PT X a (tT G K E κ t)) (hb : PW X (.BoolOp .Or (b :: rest) pos) (tT G K E κ t')) : PW X (.BoolOp .Or (a :: b :: rest) pos) (tT G K E κ (tOrM t t')) :=
  pw_weak (pw_or ha hb) fun σ H Q ⟨F, τ, l, q⟩ => by
    refine ⟨F, τ, l, ?_⟩
    unfold tOrM at q
    cases hf : t τ with
    | exc c ps => rw [hf] at q; exact q
    | bad => rw [hf] at q; exact q
    | ok k =>
      rw [hf, Res.ok_bind] at q
      intro F1 H1 e1
      refine w_if (A := True) (fun hk _ => ?_) (fun hk _ => ?_) trivial
      · subst hk
        rw [if_pos rfl] at q
        exact q F1 H1 e1
      · subst hk
        rw [if_neg (by decide)] at q
        refine ⟨F1, τ, l.ext e1, ?_⟩
        cases hg : t' τ with
        | exc c ps => rw [hg] at q; exact ExcOk.ext q e1
        | bad => rw [hg] at q; exact q
        | ok k' => rw [hg] at q; exact fun F2 H2 e2 => q F2 H2 (e1.trans e2)
theorem t_w (h : PW X a (tT G K E κ t)) : PT X a (tT G K E κ t) := h.pt
theorem t_not (ha : PT X a (tT G K E κ t)) : PT X (.UnaryOp .Not a pos) (tT G K E κ (tNotM t)) :=
  pt_weak (pt_not ha) fun σ H Q ⟨F, τ, l, q⟩ => by
    refine ⟨F, τ, l, ?_⟩
    unfold tNotM at q
    cases hf : t τ with
    | exc c ps => rw [hf] at q; exact q
    | bad => rw [hf] at q; exact q
    | ok k => rw [hf, Res.ok_bind] at q; exact fun F1 H1 e1 => q F1 H1 e1
def eIf (t : LE → Res Bool) (f f' : LE → Res PV) : LE → Res PV := fun τ => t τ >>= fun b => if b = true then f τ else f' τ
theorem v_if (hc : PT X c (tT G K E κ t)) (ha : PE X a (tE G K m E κ f)) (hb : PE X b (tE G K m E κ f')) : PE X (.IfExp c a b pos) (tE G K m E κ (eIf t f f')) :=
  pe_weak (pe_ifExp hc ha hb) fun σ H Q ⟨F, τ, l, q⟩ => by
    refine ⟨F, τ, l, ?_⟩
    unfold eIf at q
    cases hf : t τ with
    | exc c ps => rw [hf] at q; exact q
    | bad => rw [hf] at q; exact q
    | ok k =>
      rw [hf, Res.ok_bind] at q
      intro F1 H1 e1
      refine w_if (A := True) (fun hk _ => ?_) (fun hk _ => ?_) trivial
      · subst hk
        rw [if_pos rfl] at q
        refine ⟨F1, τ, l.ext e1, ?_⟩
        cases hg : f τ with
        | exc c ps => rw [hg] at q; exact ExcOk.ext q e1
        | bad => rw [hg] at q; exact q
        | ok k' => rw [hg] at q; exact fun v F2 H2 e2 r2 => q v F2 H2 (e1.trans e2) (r2.before e1.h)
      · subst hk
        rw [if_neg (by decide)] at q
        refine ⟨F1, τ, l.ext e1, ?_⟩
        cases hg : f' τ with
        | exc c ps => rw [hg] at q; exact ExcOk.ext q e1
        | bad => rw [hg] at q; exact q
        | ok k' => rw [hg] at q; exact fun v F2 H2 e2 r2 => q v F2 H2 (e1.trans e2) (r2.before e1.h)
/-! and, or, not as values (bools) -/
def eAnd (f f' : LE → Res PV) : LE → Res PV := fun τ => f τ >>= fun p => match p with
  | .bl true => f' τ
  | .bl false => .ok (.bl false)
  | _ => .bad
def eOr (f f' : LE → Res PV) : LE → Res PV := fun τ => f τ >>= fun p => match p with
  | .bl true => .ok (.bl true)
  | .bl false => f' τ
  | _ => .bad
def eNot (f : LE → Res PV) : LE → Res PV := fun τ => f τ >>= fun p => match p with
  | .bl k => .ok (.bl (!k))
  | _ => .bad
theorem v_one {op} (h : PE X a (tE G K m E κ f)) : PE X (.BoolOp op [a] pos) (tE G K m E κ f) := pe_one h
theorem v_and (ha : PE X a (tE G K .sh E κ f)) (hb : PE X (.BoolOp .And (b :: rest) pos) (tE G K .sh E κ f')) : PE X (.BoolOp .And (a :: b :: rest) pos) (tE G K .sh E κ (eAnd f f')) :=
  pe_weak (pe_and ha hb) fun σ H Q ⟨F, τ, l, q⟩ => by
    refine ⟨F, τ, l, ?_⟩
    unfold eAnd at q
    cases hf : f τ with
    | exc c ps => rw [hf] at q; exact q
    | bad => rw [hf] at q; exact q
    | ok p =>
      rw [hf, Res.ok_bind] at q
      intro v F1 H1 e1 r1
      cases p with
      | bl k =>
        refine ⟨k, Rep.bl_inv r1, ?_⟩
        cases k with
        | true =>
          rw [if_pos rfl]
          refine ⟨F1, τ, l.ext e1, ?_⟩
          simp only at q
          cases hg : f' τ with
          | exc c ps => rw [hg] at q; exact ExcOk.ext q e1
          | bad => rw [hg] at q; exact q
          | ok k' => rw [hg] at q; exact fun v F2 H2 e2 r2 => q v F2 H2 (e1.trans e2) r2
        | false => rw [if_neg (by decide)]; exact q _ F1 H1 e1 (.bl false)
      | _ => exact q.elim
theorem v_or (ha : PE X a (tE G K .sh E κ f)) (hb : PE X (.BoolOp .Or (b :: rest) pos) (tE G K .sh E κ f')) : PE X (.BoolOp .Or (a :: b :: rest) pos) (tE G K .sh E κ (eOr f f')) :=
  pe_weak (pe_or ha hb) fun σ H Q ⟨F, τ, l, q⟩ => by
    refine ⟨F, τ, l, ?_⟩
    unfold eOr at q
    cases hf : f τ with
    | exc c ps => rw [hf] at q; exact q
    | bad => rw [hf] at q; exact q
    | ok p =>
      rw [hf, Res.ok_bind] at q
      intro v F1 H1 e1 r1
      cases p with
      | bl k =>
        refine ⟨k, Rep.bl_inv r1, ?_⟩
        cases k with
        | true => rw [if_pos rfl]; exact q _ F1 H1 e1 (.bl true)
        | false =>
          rw [if_neg (by decide)]
          refine ⟨F1, τ, l.ext e1, ?_⟩
          simp only at q
          cases hg : f' τ with
          | exc c ps => rw [hg] at q; exact ExcOk.ext q e1
          | bad => rw [hg] at q; exact q
          | ok k' => rw [hg] at q; exact fun v F2 H2 e2 r2 => q v F2 H2 (e1.trans e2) r2
      | _ => exact q.elim
theorem v_not (ha : PE X a (tE G K .sh E κ f)) : PE X (.UnaryOp .Not a pos) (tE G K .sh E κ (eNot f)) :=
  pe_weak (pe_not ha) fun σ H Q ⟨F, τ, l, q⟩ => by
    refine ⟨F, τ, l, ?_⟩
    unfold eNot at q
    cases hf : f τ with
    | exc c ps => rw [hf] at q; exact q
    | bad => rw [hf] at q; exact q
    | ok p =>
      rw [hf, Res.ok_bind] at q
      intro v F1 H1 e1 r1
      cases p with
      | bl k => exact ⟨k, Rep.bl_inv r1, q _ F1 H1 e1 (.bl _)⟩
      | _ => exact q.elim
end
end Lp
end
section
set_option Elab.async false
set_option linter.all false
set_option maxRecDepth 100000
namespace Lp
open PySem PySem.Spec L2
section
variable {G : Nat → Addr} {K : PySem.W.Frag} {F H F' H' F0 H0 : Hp} {X : Cx} {v x y : V} {p : PV}
/-! what a value is at the top -/
theorem Top.int_inv {i : Int} (r : Top G K F H v (.int i)) : v = .int i := by
  rcases r with r | ⟨_, _, _, h⟩
  · exact Rep.int_inv r
  · exact h.elim
theorem Top.str_inv {i : Str} (r : Top G K F H v (.str i)) : v = .str i := by
  rcases r with r | ⟨_, _, _, h⟩
  · exact Rep.str_inv r
  · exact h.elim
theorem Top.bl_inv {i : Bool} (r : Top G K F H v (.bl i)) : v = .bl i := by
  rcases r with r | ⟨_, _, _, h⟩
  · exact Rep.bl_inv r
  · exact h.elim
theorem Top.non_inv (r : Top G K F H v .non) : v = .non := by
  rcases r with r | ⟨_, _, _, h⟩
  · exact Rep.non_inv r
  · exact h.elim
theorem Top.ty_inv {n : String} (r : Top G K F H v (.ty n)) : v = .ty n := by
  rcases r with r | ⟨_, _, _, h⟩
  · exact Rep.ty_inv r
  · exact h.elim
theorem Top.tup_inv (s : Same F H) {ps : List PV} (r : Top G K F H v (.tup ps)) : ∃ a vs, v = .ref a ∧ SqT K H a vs ∧ Reps G K F vs ps := by
  rcases r with r | ⟨_, _, _, h⟩
  · obtain ⟨a, vs, e, h, r⟩ := Rep.tup_inv r
    exact ⟨a, vs, e, Same.sqt s h, r⟩
  · exact h.elim
theorem Top.lst_inv (s : Same F H) {ps : List PV} (r : Top G K F H v (.lst ps)) : ∃ a vs, v = .ref a ∧ Rd H a (.lst vs) ∧ Reps G K F vs ps := by
  rcases r with r | ⟨a, e, _, vs, h, r⟩
  · obtain ⟨a, vs, e, h, r⟩ := Rep.lst_inv r
    exact ⟨a, vs, e, Same.rd s h, r⟩
  · exact ⟨a, vs, e, .inl h, r⟩
theorem Top.dK_inv (s : Same F H) {ps : List (Key × PV)} (r : Top G K F H v (.dK ps)) : ∃ a kvs, v = .ref a ∧ H a = some (.dK kvs) ∧ RepK G K F kvs ps := by
  rcases r with r | ⟨a, e, _, vs, h, r⟩
  · obtain ⟨a, vs, e, h, r⟩ := Rep.dK_inv r
    exact ⟨a, vs, e, s _ _ h, r⟩
  · exact ⟨a, vs, e, h, r⟩
theorem Top.ins_inv (s : Same F H) {c : Nat} {ps : List (Str × PV)} (r : Top G K F H v (.ins c ps)) : ∃ a dx fs, v = .ref a ∧ H a = some (.ins (G c) dx fs) ∧ RepF G K F fs ps := by
  rcases r with r | ⟨a, e, _, dx, fs, h, r⟩
  · obtain ⟨a, dx, fs, e, h, r⟩ := Rep.ins_inv r
    exact ⟨a, dx, fs, e, s _ _ h, r⟩
  · exact ⟨a, dx, fs, e, h, r⟩
theorem Top.scr_inv (s : Same F H) {ns : List Int} (r : Top G K F H v (.scr ns)) : ∃ a, v = .ref a ∧ SqL K H a (ns.map V.int) := by
  rcases r with r | ⟨_, _, _, h⟩
  · cases r with
    | scr h => exact ⟨_, rfl, Same.seq s h⟩
  · exact h.elim
theorem seqL {a : Addr} {vs : List V} (h : Rd H a (.lst vs)) : SqL K H a vs := .inl h

/-! ### arithmetic -/
def pAdd : PV → PV → Option PV
  | .int i, .int j => some (.int (i + j))
  | .str x, .str y => if x.length + y.length ≤ sizeLine then some (.str (x ++ y)) else none
  | .tup xs, .tup ys => if xs.length + ys.length ≤ sizeLine then some (.tup (xs ++ ys)) else none
  | _, _ => none
def rAddV (K : PySem.W.Frag) : R2 := fun x y H Q => (rI0 fun i j => .int (i + j)) x y H Q ∨ (fun x y H Q => ∃ i j, x = .str i ∧ y = .str j ∧ i.length + j.length ≤ sizeLine ∧ Q (.str (i ++ j)) H) x y H Q ∨ rCatA K x y H Q
theorem op_addV : OpR X (binaryOp .Add) (rAddV X.K) := op_add.or (op_add_str.or op_catA)
theorem g_add : OpV G K (rAddV K) .sh pAdd := by
  intro F H x y p q z Q s rx ry hz k
  unfold pAdd at hz
  split at hz
  · obtain rfl := rx.int_inv
    obtain rfl := ry.int_inv
    cases hz
    exact .inl ⟨_, _, rfl, rfl, k _ F H (Ext.refl s) (.int _)⟩
  · obtain rfl := rx.str_inv
    obtain rfl := ry.str_inv
    split at hz
    · rename_i hl
      cases hz
      exact .inr (.inl ⟨_, _, rfl, rfl, hl, k _ F H (Ext.refl s) (.str _)⟩)
    · cases hz
  · obtain ⟨a, vs, rfl, ha, r1⟩ := rx.tup_inv s
    obtain ⟨b, ws, rfl, hb, r2⟩ := ry.tup_inv s
    split at hz
    · rename_i hl
      cases hz
      have l1 := r1.length
      have l2 := r2.length
      refine .inr (.inr ⟨a, b, vs, ws, rfl, rfl, ha, hb, by omega, fun e => ?_, fun _ e => ?_, fun _ _ p np => ?_⟩)
      · subst e
        cases r1
        refine k _ F H (Ext.refl s) ?_
        rcases ry with ry | ⟨_, _, _, h⟩
        · exact ry
        · exact h.elim
      · subst e
        cases r2
        refine k _ F H (Ext.refl s) ?_
        rw [List.append_nil]
        rcases rx with rx | ⟨_, _, _, h⟩
        · exact rx
        · exact h.elim
      · refine k _ _ _ (Ext.push (.tup (vs ++ ws)) (Ext.refl s) np) (.tup (.inl (.inl upd_same)) ?_)
        exact Reps.mono (same_new (Same.free s np)) (Reps.append r1 r2)
    · cases hz
  · cases hz
/-- lists: a new one -/
def pCat : PV → PV → Option PV
  | .lst xs, .lst ys => if xs.length + ys.length ≤ sizeLine then some (.lst (xs ++ ys)) else none
  | _, _ => none
def rCatR : R2 := fun x y H Q => ∃ l b xs zs, x = .ref l ∧ y = .ref b ∧ Rd H l (.lst xs) ∧ Rd H b (.lst zs) ∧ xs.length + zs.length ≤ sizeLine ∧ ∀ p, H p = none → Q (.ref p) (upd H p (.lst (xs ++ zs)))
theorem Rd.lstM {pins : List (Addr × Obj)} {σ : St} {s : Shared} {l : Addr} {xs : List V} (I : Inv X pins σ H s) (hH : Rd H l (.lst xs)) : xs.length ≤ sizeLine ∧ ∃ (its : List Value) (n : Nat), Vals xs its ∧ xs.length = its.length ∧ s.heap.get? l = some { cls := .type "list", data := .seq its.toArray n } := by
  obtain ⟨z, its, n, r, e⟩ := hH.ok I.hok
  exact ⟨z, its, n, r, r.length, e⟩
theorem op_catR : OpR X (binaryOp .Add) rCatR := by
  intro pins s σ H x y v u Q I rx ry h
  obtain ⟨l, b, xs, zs, rfl, rfl, hH, hB, hz, q⟩ := h
  cases rx
  cases ry
  obtain ⟨z, its, n, r, hl, e⟩ := Rd.lstM I hH
  obtain ⟨z2, its2, n2, r2, hl2, e2⟩ := Rd.lstM I hB
  refine PySem.P.add_list e e2 ?_ (by rw [List.size_toArray, List.size_toArray]; omega)
  have ea : its.toArray ++ its2.toArray = (its ++ its2).toArray := by simp
  rw [ea]
  exact ⟨.ref _, _, I.lnew (t' := s.toks) (r.append r2) (by rw [List.length_append]; omega), rfl, q _ I.fresh⟩
theorem frs_new {ws : List V} {ps : List PV} {a : Addr} (s : Same F H) (np : H a = none) (r : Reps G K F ws ps) : Ext F H F (upd H a (.lst ws)) ∧ Frs G K H F (upd H a (.lst ws)) (.ref a) (.lst ps) :=
  ⟨Ext.pushOwn _ (Ext.refl s) np, a, rfl, np, Same.free s np, ws, upd_same, r⟩
theorem g_cat : OpV G K rCatR .fr pCat := by
  intro F H x y p q z Q s rx ry hz k
  unfold pCat at hz
  split at hz
  · obtain ⟨a, vs, rfl, ha, r1⟩ := rx.lst_inv s
    obtain ⟨b, ws, rfl, hb, r2⟩ := ry.lst_inv s
    split at hz
    · rename_i hl
      cases hz
      refine ⟨a, b, vs, ws, rfl, rfl, ha, hb, by rw [r1.length, r2.length]; exact hl, fun p np => ?_⟩
      obtain ⟨e, f⟩ := frs_new s np (Reps.append r1 r2)
      exact k _ _ _ e f
    · cases hz
  · cases hz
def pSub : PV → PV → Option PV
  | .int i, .int j => some (.int (i - j))
  | _, _ => none
theorem g_sub : OpV G K (rI0 fun i j => .int (i - j)) .sh pSub := by
  intro F H x y p q z Q s rx ry hz k
  unfold pSub at hz
  split at hz
  · obtain rfl := rx.int_inv
    obtain rfl := ry.int_inv
    cases hz
    exact ⟨_, _, rfl, rfl, k _ F H (Ext.refl s) (.int _)⟩
  · cases hz
theorem CMul_iff {i j : Int} : (Nat.ble (i.natAbs + 1) (2 ^ 64) || Nat.ble (j.natAbs + 1) (2 ^ 64)) = true ↔ CMul i j := by
  rw [Bool.or_eq_true, Nat.ble_eq, Nat.ble_eq]
  unfold CMul
  omega
instance (i j : Int) : Decidable (CMul i j) := decidable_of_iff _ CMul_iff
theorem CDiv_iff {i j : Int} : (decide (0 < j) && Nat.ble (j.natAbs + 1) 1073741824) = true ↔ CDiv i j := by
  rw [Bool.and_eq_true, Nat.ble_eq, decide_eq_true_iff]
  unfold CDiv
  omega
instance (i j : Int) : Decidable (CDiv i j) := decidable_of_iff _ (CDiv_iff (i := i))
instance (i j : Int) : Decidable (CPow i j) := by unfold CPow; infer_instance
def pI (C : Int → Int → Prop) [∀ i j, Decidable (C i j)] (g : Int → Int → Int) : PV → PV → Option PV
  | .int i, .int j => if C i j then some (.int (g i j)) else none
  | _, _ => none
theorem g_I {C : Int → Int → Prop} [∀ i j, Decidable (C i j)] {g : Int → Int → Int} : OpV G K (rI C fun i j => .int (g i j)) .sh (pI C g) := by
  intro F H x y p q z Q s rx ry hz k
  unfold pI at hz
  split at hz
  · obtain rfl := rx.int_inv
    obtain rfl := ry.int_inv
    split at hz
    · rename_i hc
      cases hz
      exact ⟨_, _, rfl, rfl, hc, k _ F H (Ext.refl s) (.int _)⟩
    · cases hz
  · cases hz
abbrev pMul := pI CMul fun i j => i * j
abbrev pDiv := pI CDiv fun i j => i / j
abbrev pMod := pI (fun _ j => 0 < j) fun i j => i % j
abbrev pPow := pI CPow fun i j => i ^ j.toNat
def pNeg : PV → Option PV
  | .int i => some (.int (-i))
  | _ => none
theorem g_neg : UnV G K (rU fun i => .int (-i)) .sh pNeg := by
  intro F H x p z Q s rx hz k
  unfold pNeg at hz
  split at hz
  · obtain rfl := rx.int_inv
    cases hz
    exact ⟨_, rfl, k _ F H (Ext.refl s) (.int _)⟩
  · cases hz
/-! ### comparisons of ints -/
def pB (g : Int → Int → Bool) : PV → PV → Option PV
  | .int i, .int j => some (.bl (g i j))
  | _, _ => none
theorem g_B {g : Int → Int → Bool} : OpV G K (rI0 fun i j => .bl (g i j)) .sh (pB g) := by
  intro F H x y p q z Q s rx ry hz k
  unfold pB at hz
  split at hz
  · obtain rfl := rx.int_inv
    obtain rfl := ry.int_inv
    cases hz
    exact ⟨_, _, rfl, rfl, k _ F H (Ext.refl s) (.bl _)⟩
  · cases hz
abbrev pLt := pB fun i j => decide (i < j)
abbrev pLe := pB fun i j => decide (i ≤ j)
abbrev pGt := pB fun i j => decide (j < i)
abbrev pGe := pB fun i j => decide (j ≤ i)
/-! ### == over data -/
mutual
def PV.toD : PV → Option PyData
  | .non => some .none
  | .bl b => some (.bool b)
  | .int i => some (.int i)
  | .str x => some (.str x)
  | .tup xs => (toDs xs).map .tuple
  | .lst xs => (toDs xs).map .list
  | .ty _ => none
  | .dK _ => none
  | .ins _ _ => none
  | .scr _ => none
  | .exn _ _ _ _ => none
def toDs : List PV → Option (List PyData)
  | [] => some []
  | x :: xs => match x.toD, toDs xs with
    | some d, some ds => some (d :: ds)
    | _, _ => none
end
theorem toDs_cons {q : PV} {qs : List PV} {ds : List PyData} (h : toDs (q :: qs) = some ds) : ∃ d ds', q.toD = some d ∧ toDs qs = some ds' ∧ ds = d :: ds' := by
  rw [toDs] at h
  cases h1 : q.toD with
  | none => rw [h1] at h; cases h
  | some d =>
    cases h2 : toDs qs with
    | none => rw [h1, h2] at h; cases h
    | some ds' => rw [h1, h2] at h; cases h; exact ⟨d, ds', rfl, rfl, rfl⟩
mutual
theorem Rep.dp : ∀ {v : V} {p : PV} {d : PyData}, Rep G K H v p → p.toD = some d → Dp K H v d
  | _, _, _, .non, h => by rw [PV.toD] at h; cases h; exact .non
  | _, _, _, .bl b, h => by rw [PV.toD] at h; cases h; exact .bl b
  | _, _, _, .int b, h => by rw [PV.toD] at h; cases h; exact .int b
  | _, _, _, .str b, h => by rw [PV.toD] at h; cases h; exact .str b
  | _, _, _, .ty b, h => by rw [PV.toD] at h; cases h
  | _, _, _, .scr _, h => by rw [PV.toD] at h; cases h
  | _, _, _, .exn _ _, h => by rw [PV.toD] at h; cases h
  | _, _, _, .dK _ _, h => by rw [PV.toD] at h; cases h
  | _, _, _, .ins _ _, h => by rw [PV.toD] at h; cases h
  | _, _, _, .tup (ps := ps) e r, h => by
    rw [PV.toD] at h
    cases hd : toDs ps with
    | none => rw [hd] at h; cases h
    | some ds => rw [hd] at h; cases h; exact .tup e (Reps.dp r hd)
  | _, _, _, .lst (ps := ps) e r, h => by
    rw [PV.toD] at h
    cases hd : toDs ps with
    | none => rw [hd] at h; cases h
    | some ds => rw [hd] at h; cases h; exact .lst (.inl e) (Reps.dp r hd)
theorem Reps.dp : ∀ {vs : List V} {ps : List PV} {ds : List PyData}, Reps G K H vs ps → toDs ps = some ds → DpAll K H vs ds
  | _, _, _, .nil, h => by rw [toDs] at h; cases h; exact .nil
  | _, _, _, .cons r rs, h => by
    obtain ⟨d, ds', h1, h2, rfl⟩ := toDs_cons h
    exact .cons (Rep.dp r h1) (Reps.dp rs h2)
end
theorem Top.dp {d : PyData} (s : Same F H) (r : Top G K F H v p) (h : p.toD = some d) : Dp K H v d := by
  rcases r with r | ⟨a, rfl, _, o⟩
  · exact Rep.dp (r.mono s) h
  · cases p <;> first | exact o.elim | skip
    · obtain ⟨vs, e, r⟩ := o
      rename_i ps
      rw [PV.toD] at h
      cases hd : toDs ps with
      | none => rw [hd] at h; cases h
      | some ds => rw [hd] at h; cases h; exact .lst (.inl (.inl e)) (Reps.dp (Reps.mono s r) hd)
    · rw [PV.toD] at h; cases h
    · rw [PV.toD] at h; cases h
def eqB (p q : PV) : Option Bool := match p.toD, q.toD with
  | some d, some e => if SeqAt.shaped d && SeqAt.shaped e then some (PyData.eqv d e) else none
  | _, _ => none
def pEq (p q : PV) : Option PV := (eqB p q).map .bl
def pNe (p q : PV) : Option PV := (eqB p q).map fun b => .bl (!b)
theorem eqB_some {p q : PV} {b : Bool} (h : eqB p q = some b) : ∃ d e, p.toD = some d ∧ q.toD = some e ∧ SeqAt.shaped d = true ∧ SeqAt.shaped e = true ∧ b = PyData.eqv d e := by
  unfold eqB at h
  split at h
  · rename_i d e h1 h2
    split at h
    · rename_i hs
      rw [Bool.and_eq_true] at hs
      cases h
      exact ⟨d, e, h1, h2, hs.1, hs.2, rfl⟩
    · cases h
  · cases h
theorem g_eq : OpV G K (rEqD K) .sh pEq := by
  intro F H x y p q z Q s rx ry hz k
  unfold pEq at hz
  cases hb : eqB p q with
  | none => rw [hb] at hz; cases hz
  | some b =>
    rw [hb] at hz
    cases hz
    obtain ⟨d, e, h1, h2, s1, s2, rfl⟩ := eqB_some hb
    exact ⟨d, e, rx.dp s h1, ry.dp s h2, s1, s2, k _ F H (Ext.refl s) (.bl _)⟩
theorem g_ne : OpV G K (rNeD K) .sh pNe := by
  intro F H x y p q z Q s rx ry hz k
  unfold pNe at hz
  cases hb : eqB p q with
  | none => rw [hb] at hz; cases hz
  | some b =>
    rw [hb] at hz
    cases hz
    obtain ⟨d, e, h1, h2, s1, s2, rfl⟩ := eqB_some hb
    exact ⟨d, e, rx.dp s h1, ry.dp s h2, s1, s2, k _ F H (Ext.refl s) (.bl _)⟩
/-! ### is None -/
def PV.isN : PV → Bool
  | .non => true
  | _ => false
def pIsN : PV → PV → Option PV
  | p, .non => some (.bl p.isN)
  | _, _ => none
def pNotN : PV → PV → Option PV
  | p, .non => some (.bl (!p.isN))
  | _, _ => none
theorem Top.isN (r : Top G K F H v p) : decide (v = .non) = p.isN := by
  rcases r with r | ⟨a, rfl, _, o⟩
  · cases r <;> simp [PV.isN]
  · cases p <;> first | exact o.elim | simp [PV.isN]
theorem g_isN : OpV G K (fun x y H Q => y = .non ∧ Q (.bl (decide (x = .non))) H) .sh pIsN := by
  intro F H x y p q z Q s rx ry hz k
  unfold pIsN at hz
  split at hz
  · cases hz
    refine ⟨ry.non_inv, ?_⟩
    rw [rx.isN]
    exact k _ F H (Ext.refl s) (.bl _)
  · cases hz
theorem g_notN : OpV G K (fun x y H Q => y = .non ∧ Q (.bl (!decide (x = .non))) H) .sh pNotN := by
  intro F H x y p q z Q s rx ry hz k
  unfold pNotN at hz
  split at hz
  · cases hz
    refine ⟨ry.non_inv, ?_⟩
    rw [rx.isN]
    exact k _ F H (Ext.refl s) (.bl _)
  · cases hz
/-! ### in -/
def PV.flat : PV → Bool
  | .non => true
  | .bl _ => true
  | .int _ => true
  | .str _ => true
  | _ => false
def eqP : PV → PV → Bool
  | .non, .non => true
  | .bl a, .bl b => a == b
  | .bl a, .int b => (if a then 1 else 0) == b
  | .int a, .bl b => a == (if b then 1 else 0)
  | .int a, .int b => a == b
  | .str a, .str b => a == b
  | _, _ => false
def inP (x : PV) (xs : List PV) : Bool := xs.any fun y => eqP y x
theorem Rep.flat (r : Rep G K H v p) (h : p.flat = true) : flatV v = true := by
  cases r <;> first | rfl | (simp [PV.flat] at h)
theorem Rep.eqP {w : V} {q : PV} (r : Rep G K H v p) (r2 : Rep G K H' w q) (h : p.flat = true) (h2 : q.flat = true) : eqV v w = Lp.eqP p q := by
  cases r <;> first | (simp [PV.flat] at h; done) | (cases r2 <;> first | (simp [PV.flat] at h2; done) | rfl)
theorem Reps.flat : ∀ {vs : List V} {ps : List PV}, Reps G K H vs ps → ps.all PV.flat = true → vs.all flatV = true
  | _, _, .nil, _ => rfl
  | _, _, .cons r rs, h => by
    rw [List.all_cons, Bool.and_eq_true] at h ⊢
    exact ⟨r.flat h.1, Reps.flat rs h.2⟩
theorem Reps.inP {q : PV} (r2 : Rep G K H' x q) (h2 : q.flat = true) : ∀ {vs : List V} {ps : List PV}, Reps G K H vs ps → ps.all PV.flat = true → inV x vs = Lp.inP q ps
  | _, _, .nil, _ => rfl
  | _, _, .cons r rs, h => by
    rw [List.all_cons, Bool.and_eq_true] at h
    have ih := Reps.inP r2 h2 rs h.2
    unfold inV Lp.inP at ih ⊢
    rw [List.any_cons, List.any_cons, ih, r.eqP r2 h.1 h2]
def itemsP : PV → Option (List PV)
  | .lst xs => some xs
  | .tup xs => some xs
  | _ => none
theorem Top.items (s : Same F H) {ps : List PV} (r : Top G K F H v p) (h : itemsP p = some ps) : ∃ a vs, v = .ref a ∧ (SqL K H a vs ∨ SqT K H a vs) ∧ Reps G K F vs ps := by
  unfold itemsP at h
  split at h
  · cases h
    obtain ⟨a, vs, e, h, r⟩ := r.lst_inv s
    exact ⟨a, vs, e, .inl (.inl h), r⟩
  · cases h
    obtain ⟨a, vs, e, h, r⟩ := r.tup_inv s
    exact ⟨a, vs, e, .inr h, r⟩
  · cases h
/-- one text within another -/
def subIn (i j : Str) : Bool := !(Builtin.Str.occurrences j i 0 j.length 1).isEmpty
def pIn (n : Bool) (p q : PV) : Option PV := match p, q with
  | .str i, .str j => some (.bl (n ^^ subIn i j))
  | p, q => match itemsP q with
    | some ps => if p.flat && ps.all PV.flat then some (.bl (n ^^ inP p ps)) else none
    | none => none
def rInS (n : Bool) : R2 := fun x y H Q => ∃ i j, x = .str i ∧ y = .str j ∧ Q (.bl (n ^^ subIn i j)) H
def rInV (K : PySem.W.Frag) (n : Bool) : R2 := fun x y H Q => rInS n x y H Q ∨ rIn K n x y H Q
theorem op_inV : OpR X (compareOp .In) (rInV X.K false) := OpR.or (fun pins s σ H x y v u Q I rx ry ⟨i, j, e1, e2, q⟩ => op_in_str pins s σ H x y v u Q I rx ry ⟨i, j, e1, e2, by simpa [subIn] using q⟩) op_in_seq
theorem op_notInV : OpR X (compareOp .NotIn) (rInV X.K true) := OpR.or (fun pins s σ H x y v u Q I rx ry ⟨i, j, e1, e2, q⟩ => L2.op_notIn_str pins s σ H x y v u Q I rx ry ⟨i, j, e1, e2, by simpa [subIn] using q⟩) op_notIn_seq
theorem g_in {n : Bool} : OpV G K (rInV K n) .sh (pIn n) := by
  intro F H x y p q z Q s rx ry hz k
  unfold pIn at hz
  split at hz
  · obtain rfl := rx.str_inv
    obtain rfl := ry.str_inv
    cases hz
    exact .inl ⟨_, _, rfl, rfl, k _ F H (Ext.refl s) (.bl _)⟩
  · split at hz
    · rename_i ps hi
      split at hz
      · rename_i hf
        rw [Bool.and_eq_true] at hf
        cases hz
        obtain ⟨a, vs, rfl, hS, r⟩ := ry.items s hi
        have rx' : Rep G K F x p := by
          rcases rx with rx | ⟨_, _, _, o⟩
          · exact rx
          · have h := hf.1
            cases p <;> first | exact o.elim | (simp [PV.flat] at h)
        refine .inr ⟨a, vs, rfl, hS, rx'.flat hf.1, r.flat hf.2, ?_⟩
        have e : (if n = true then !inV x vs else inV x vs) = (n ^^ inP p ps) := by
          rw [r.inP rx' hf.1 hf.2]
          cases n <;> simp
        rw [e]
        exact k _ F H (Ext.refl s) (.bl _)
      · cases hz
    · cases hz
end
end Lp
end
section
set_option Elab.async false
set_option linter.all false
set_option maxRecDepth 100000
/-! enumerate(tuple) -/
namespace PySem
open Sem (wp)
open AutoSeq1 (wpAny_loadPart')
theorem meets_enumerate_newT (l : Addr) (items : Array Value) (n : Nat) (dct : Option Addr) (sl : Array (Option Value)) :
    Meets (Builtin.«enumerate.__new__» ⟨[.type "enumerate", .ref l], []⟩) (fun _ R s => s.heap.get? l = some { cls := .type "tuple", dict := dct, data := .seq items n, slots := sl } ∧
      R (.ok (.ret (.ref (s.heap.push { cls := .type "tuple_iterator", data := .fields #[.ref l, .int 0 0] }).objs.size)))
        { s with heap := (s.heap.push { cls := .type "tuple_iterator", data := .fields #[.ref l, .int 0 0] }).push { cls := .type "enumerate", data := .fields #[.none, .bool false, .ref s.heap.objs.size, rawInt 0, .none, .none] } }) :=
  .of_wp fun prog w A R s h => by
    obtain ⟨hp, g, d, tk, os⟩ := s; obtain ⟨hl, h⟩ := h
    have hsub := sub_enumerate
    have hL : Heap.IsTuple (Shared.heap ⟨hp, g, d, tk, os⟩) l items := ⟨_, hl, rfl, n, rfl⟩
    wp_walk using wpAny_loadPart' hl
    refine wpAny_stack_any fun st => wpAny_pure ?_
    split
    · rename_i c _ _ _ _ _
      cases (c == Value.type "enumerate")
      · wp_walk using wpAny_loadPart' hl, wpAny_pyIter_tuple hL
        exact ⟨_, rfl, h⟩
      · wp_walk using wpAny_loadPart' hl, wpAny_pyIter_tuple hL
        exact ⟨_, rfl, h⟩
    · wp_walk using wpAny_loadPart' hl, wpAny_pyIter_tuple hL
      exact ⟨_, rfl, h⟩
theorem call_enumerate_tup {prog : Program} {w : World} {A : Around} {E : Value → Shared → Prop} {s : Shared} {l : Addr} {items : Array Value} {Q : Value → Shared → Prop} (hL : s.heap.IsTuple l items)
    (h : ∀ h', IsEnum h' (s.heap.objs.size + 1) s.heap.objs.size 0 .none → h'.IsTupleIter s.heap.objs.size l 0 → h'.objs.size = s.heap.objs.size + 2 →
      (∀ b o, s.heap.get? b = some o → h'.get? b = some o) → Q (.ref (s.heap.objs.size + 1)) { s with heap := h' }) :
    wpAny (model prog w) A (call (.type "enumerate") [.ref l]) Q E s := by
  obtain ⟨⟨c, dct, dt, sl⟩, hl, hc, n, hd⟩ := hL
  replace hc : c = .type "tuple" := hc
  replace hd : dt = .seq items n := hd
  subst hc hd
  refine callType_new F.called_enumerate (by decide) (F.typeCall_enumerate_1 _) (F.newCall_enumerate_1 _) (fun obj => F.args_object_init_2 obj _) F.entry_enumerate_new
    (meets_enumerate_newT l items n dct sl) ⟨hl, ?_⟩
  have hz : (s.heap.push { cls := .type "tuple_iterator", data := .fields #[.ref l, .int 0 0] }).objs.size = s.heap.objs.size + 1 := Heap.size_push ..
  show _ ∧ _
  rw [hz]
  have he : IsEnum ((s.heap.push { cls := .type "tuple_iterator", data := .fields #[.ref l, .int 0 0] }).push
      { cls := .type "enumerate", data := .fields #[.none, .bool false, .ref s.heap.objs.size, rawInt 0, .none, .none] }) (s.heap.objs.size + 1) s.heap.objs.size 0 .none := by
    have := Heap.get?_push_size (s.heap.push { cls := .type "tuple_iterator", data := .fields #[.ref l, .int 0 0] })
      (o := { cls := .type "enumerate", data := .fields #[.none, .bool false, .ref s.heap.objs.size, rawInt 0, .none, .none] }) rfl
    rw [hz] at this; exact this
  refine ⟨⟨_, he, rfl⟩, h _ he ⟨_, Heap.get?_push_of_some _ (Heap.get?_push_size _ rfl), rfl, rfl⟩ (by rw [Heap.size_push, hz]) fun b o x => Heap.get?_push_of_some _ (Heap.get?_push_of_some _ x)⟩
end PySem
namespace L2
open PySem PySem.Spec PyProof.Rows
/-- the tuple at a, each item in a new pair -/
def IteT (K : PySem.W.Frag) (a : Addr) : It :=
  ⟨fun i H => ∃ (xs : List V) (x : V), SqT K H a xs ∧ xs[i]? = some x, fun i H v H' => ∃ T x, v = .ref T ∧ H T = none ∧ H' = upd H T (.tup [.int (i : Nat), x]) ∧ ∀ xs, SqT K H a xs → xs[i]? = some x, fun i H => ∃ xs : List V, SqT K H a xs ∧ xs.length ≤ i⟩
theorem turn_enumT {P : Program} {w : World} {K : PySem.W.Frag} {elts : List Expr} {kk : Nat} {tpos : Pos} (a e it : Addr) (hai : a ≠ it) (hae : a ≠ e) :
    Turn P w K (.Tuple elts kk tpos) (IteT K a) [e, it] e (fun i h => (∃ old, IsEnum h e it ((i : Nat) : Int) old) ∧ h.IsTupleIter it a i ∧ e ≠ it) where
  mem := by simp
  obj := fun i h st b hb => by
    obtain ⟨⟨old, he⟩, ⟨o, ho, hc, hd⟩, _⟩ := st
    have e' : b = e ∨ b = it := by simpa using hb
    rcases e' with z | z
    · rw [z]; exact ⟨_, he, fun v q => nomatch q⟩
    · rw [z]; exact ⟨o, ho, fun v q => by rw [hd] at q; cases q⟩
  keep := fun i h h' st k => let ⟨⟨old, he⟩, hi, hne⟩ := st; ⟨⟨old, k e (by simp) _ he⟩, hi.at fun o q => k it (by simp) o q, hne⟩
  item := by
    intro X hP hw hK hc i pins s σ H E I hf st hg
    subst hP hw hK
    obtain ⟨⟨old, he⟩, hit, hne⟩ := st
    obtain ⟨xs, x, hq, hx⟩ := hg
    obtain ⟨its, rv, p, hz⟩ := I.tuple hq
    obtain ⟨u, hu, ru⟩ := rv.get hx
    have hel : e < s.heap.objs.size := Heap.lt_size he
    have hil : it < s.heap.objs.size := by obtain ⟨_, q, _⟩ := hit; exact Heap.lt_size q
    have hlt : i < its.toArray.size := by
      have := (List.getElem?_eq_some_iff.mp hu).1
      simpa using this
    have D : Draws X.prog X.w X.A.in1 it [it, a] its.toArray.size (fun i v => its.toArray[i]? = some v) (fun i h => h.IsTupleIter it a i ∧ h.IsTuple a its.toArray) := Draws.tuple (A := X.A.in1) (show X.A.in1.handled = none from I.ok.hd hc) it a hai its.toArray
    refine wpAny_pyNext_enum_itemD D he ⟨hit, p⟩ hlt hne (by simp [hne, Ne.symm hae]) fun x' h' tk hx' ho st' hT hsz hk => ?_
    obtain ⟨hit', _⟩ := st'
    have ex : x' = u := by
      have h1 : its.toArray[i]? = some x' := hx'
      have h2 : its.toArray[i]? = some u := by simpa using hu
      exact Option.some.inj (h1.symm.trans h2)
    subst ex
    refine ⟨_, rfl, wpAny_letOwnedTupleGo_enum (s := { s with heap := h', toks := tk + 1 }) ho fun h'' he' sb => ?_⟩
    have hT2 : h''.get? s.heap.objs.size = some { cls := .type "tuple", data := .seq #[.int i tk, x'] } := (sb.2 _ (Nat.ne_of_gt hel)).trans hT
    have new : ObjOk X.prog X.w (upd H s.heap.objs.size (.tup [.int (i : Nat), x])) h'' s.heap.objs.size (.tup [.int (i : Nat), x]) :=
      ⟨by show 2 ≤ sizeLine; decide, [.int i tk, x'], .cons ⟨_, rfl⟩ (.cons ru .nil), ⟨_, hT2, rfl, _, rfl⟩⟩
    have I1 : Inv X pins σ (upd H s.heap.objs.size (.tup [.int (i : Nat), x])) { s with heap := h'', toks := tk + 1 } :=
      I.turnedNew (ch := [e, it]) (fun b ob hb q => (sb.2 b (fun z => hb (by simp [z]))).trans (hk b ob (fun z => hb (by simp [z])) (fun z => hb (by simp [z])) q)) hf (Nat.le_refl _) new
    refine ⟨.ref s.heap.objs.size, _, I1, rfl, ⟨_, x, rfl, I.hok.fresh (Nat.le_refl _), rfl, fun ys hy => by rw [I.tuple_inj hy hq]; exact hx⟩, ⟨⟨x', ?_⟩, hit'.at fun o q => (sb.2 it (Ne.symm hne)).trans q, hne⟩, fun b hb => ?_⟩
    · have e1 : ((i + 1 : Nat) : Int) = (i : Int) + 1 := by omega
      rw [e1]; exact he'
    · have hb' : b < s.heap.objs.size := by
        have e' : b = e ∨ b = it := by simpa using hb
        rcases e' with z | z
        · rw [z]; exact hel
        · rw [z]; exact hil
      rw [upd_ne (Nat.ne_of_lt hb')]
      exact (hf b hb).1
  done := by
    intro X hP hw hK hc i pins s σ H E I hf st hg
    subst hP hw hK
    obtain ⟨⟨old, he⟩, hit, hne⟩ := st
    obtain ⟨xs, hq, hx⟩ := hg
    obtain ⟨its, rv, p, hz⟩ := I.tuple hq
    obtain ⟨f0, f1, f2, f3, f4, f5⟩ := hf it (by simp)
    have hl := rv.length
    have hT : s.TypeIs (.ref e) "enumerate" := ⟨_, he, rfl⟩
    unfold pyNext
    refine wpAny_bind (wpAny_attempt (wpAny_callSpecial?_slot (name := Str.ofString "__next__") hT F.slot_enumerate_next
      (wpAny_call_entry F.slot_enumerate_next hT F.entry_enumerate_next ?_ (F.args_enumerate_next_1 _))))
    show wpAny _ _ (field (.ref e) 2 >>= _) _ _ _
    refine wpAny_bind (wpAny_field he rfl (x := .ref it) rfl ?_)
    refine wpAny_bind (wpAny_nextOf_tuple_end (I.ok.hd hc) hit p (by simp; omega) fun h' e he' hx' => ?_)
    obtain ⟨o, ho, hc'⟩ := hx'
    refine wpAny_bind (wpAny_isInstance (T := "StopIteration") (b := true) ⟨o, ho, hc'⟩ isSubtype_stop ?_)
    exact wpAny_pure ⟨rfl, I.turned (t' := s.toks) (fun b o hb q => he' b o hb q) f0 f1 f3 f4 f5⟩
  self := fun A i s Q E st h => let ⟨⟨_, he⟩, _⟩ := st; wpAny_pyIter_enum he h
def iEnumT (K : PySem.W.Frag) (ta : TA) : TI := fun σ H R => ta σ H fun vs H1 => ∃ a xs, vs = [.ref a] ∧ ((SqL K H1 a xs ∧ R (Ite K a) H1) ∨ (SqT K H1 a xs ∧ R (IteT K a) H1))
theorem pi_enumT {X : Cx} {e : Expr} {ta : TA} {p pos tpos : Pos} {elts : List Expr} {kk : Nat} (hg : Gl X "enumerate") (hm : X.mg "enumerate" = none) (ha : PA X [e] ta) (hs : starEach [e] X.env = [(false, eval e X.env)] := by rfl) :
    PI X (.Tuple elts kk tpos) (.Call (.Name "enumerate" p) [e] [] pos) (iEnumT X.K ta) := by
  refine ⟨fun pins s σ H R I h => ?_⟩
  refine Call_ (ld_blt I hg hm boot_enumerate (PyProof.Rows.callWith_type1 (thn (ha.run pos pins s σ H _ I h) fun us s1 ⟨vs, H1, I1, r1, q1⟩ => ?_) hs rfl))
  obtain ⟨a, xs, ex, q⟩ := q1
  subst ex
  cases r1 with
  | cons r rr =>
    cases rr
    cases r
    have fin : ∀ b ∈ [s1.heap.objs.size + 1, s1.heap.objs.size], FpOk X pins H1 b := fun b hb => by
      have e' : b = s1.heap.objs.size + 1 ∨ b = s1.heap.objs.size := by simpa using hb
      have hle : s1.heap.objs.size ≤ b := by
        rcases e' with z | z
        · rw [z]; exact Nat.le_add_right _ _
        · rw [z]; exact Nat.le_refl _
      exact I1.fpOk hle (I1.hok.fresh hle)
    rcases q with ⟨hq, q⟩ | ⟨hq, q⟩
    · obtain ⟨its, rv, p', hz⟩ := I1.list hq
      refine call_enumerate_list p'.isList fun h' he hit hsz hk => wpAny_pyIter_enum he ?_
      have I2 : Inv X pins σ H1 { s1 with heap := h' } := I1.kept (t' := s1.toks) hk
      exact ⟨s1.heap.objs.size + 1, [s1.heap.objs.size + 1, s1.heap.objs.size], _, _, H1, rfl, I2, turn_enum a (s1.heap.objs.size + 1) s1.heap.objs.size, ⟨⟨.none, he⟩, hit, Nat.succ_ne_self _⟩, fin, q⟩
    · obtain ⟨its, rv, p', hz⟩ := I1.tuple hq
      have hlt : a < s1.heap.objs.size := by obtain ⟨o, ho, _⟩ := p'; exact Heap.lt_size ho
      refine call_enumerate_tup p' fun h' he hit hsz hk => wpAny_pyIter_enum he ?_
      have I2 : Inv X pins σ H1 { s1 with heap := h' } := I1.kept (t' := s1.toks) hk
      exact ⟨s1.heap.objs.size + 1, [s1.heap.objs.size + 1, s1.heap.objs.size], _, _, H1, rfl, I2, turn_enumT a (s1.heap.objs.size + 1) s1.heap.objs.size (Nat.ne_of_lt hlt) (Nat.ne_of_lt (Nat.lt_succ_of_lt hlt)), ⟨⟨.none, he⟩, hit, Nat.succ_ne_self _⟩, fin, q⟩
end L2
end
section
set_option Elab.async false
set_option linter.all false
set_option maxRecDepth 100000
namespace L2
open PySem PySem.Spec PyProof.Rows
/-- a list, a tuple, a text walked -/
def iAny (K : PySem.W.Frag) (te : TE) : TI := fun σ H R => te σ H fun x H1 =>
  (∃ a xs, x = .ref a ∧ SqL K H1 a xs ∧ (xs.length ≤ sizeLine → R (Itl K a) H1)) ∨ (∃ a xs, x = .ref a ∧ SqT K H1 a xs ∧ (xs.length ≤ sizeLine → R (Itt K a) H1)) ∨ (∃ z, x = .str z ∧ R (Its z) H1)
theorem pi_any {X : Cx} {tg l : Expr} {tl : TE} (hl : PE X l tl) : PI X tg l (iAny X.K tl) := by
  refine ⟨fun pins s σ H R I h => ?_⟩
  refine thn (hl.run pins s σ H _ I h) fun v s1 ⟨x, H1, I1, r1, q1⟩ => ?_
  have fin : ∀ b ∈ [s1.heap.objs.size], FpOk X pins H1 b := fun b hb => by
    have e : b = s1.heap.objs.size := by simpa using hb
    subst e
    exact I1.fpOk (Nat.le_refl _) (I1.hok.fresh (Nat.le_refl _))
  rcases q1 with ⟨a, xs, e, hq, q⟩ | ⟨a, xs, e, hq, q⟩ | ⟨z, e, q⟩
  · subst e
    cases r1
    obtain ⟨its, rv, p, hz⟩ := I1.list hq
    refine wpAny_pyIter_list p.isList ?_
    exact ⟨s1.heap.objs.size, [s1.heap.objs.size], _, _, H1, rfl, I1.kept (t' := s1.toks) fun b o e => Heap.get?_push_of_some _ e, turn_list a _, ⟨_, Heap.get?_push_size _ rfl, rfl, rfl⟩, fin, q hz⟩
  · subst e
    cases r1
    obtain ⟨its, rv, p, hz⟩ := I1.tuple hq
    refine wpAny_pyIter_tuple (show s1.heap.IsTuple a its.toArray from p) ?_
    exact ⟨s1.heap.objs.size, [s1.heap.objs.size], _, _, H1, rfl, I1.kept (t' := s1.toks) fun b o e => Heap.get?_push_of_some _ e, turn_tuple a _, ⟨_, Heap.get?_push_size _ rfl, rfl, rfl⟩, fin, q hz⟩
  · subst e
    obtain ⟨t, rfl⟩ := r1
    cases ha : z.cps.all (· < 128)
    · exact wpAny_pyIter_wide ha (pi_one (tk := s1.toks) I1 _ (turn_str _ z t "str_iterator" (.inr rfl)) ⟨_, Heap.get?_push_size _ rfl, rfl, rfl⟩ q)
    · exact wpAny_pyIter_ascii ha (pi_one (tk := s1.toks) I1 _ (turn_str _ z t "str_ascii_iterator" (.inl rfl)) ⟨_, Heap.get?_push_size _ rfl, rfl, rfl⟩ q)
end L2
namespace Lp
open PySem PySem.Spec L2

/-! ### calls of built-ins -/
def eCall (g : List PV → Option PV) (f : LE → Res (List PV)) : LE → Res PV := fun τ => f τ >>= fun ps => up (g ps)
section
variable (G : Nat → Addr) (K : PySem.W.Frag)
inductive Tops (F H : Hp) : List V → List PV → Prop
  | nil : Tops F H [] []
  | cons {v : V} {vs : List V} {p : PV} {ps : List PV} : Top G K F H v p → Tops F H vs ps → Tops F H (v :: vs) (p :: ps)
def CalV (r : List V → Hp → VK → Prop) (m : Mode) (g : List PV → Option PV) : Prop := ∀ (F H : Hp) (xs : List V) (ps : List PV) (z : PV) (Q : VK), Same F H → Tops G K F H xs ps → g ps = some z →
  (∀ v F' H', Ext F H F' H' → RM G K m H F' H' v z → Q v H') → r xs H Q
end
section
variable {G : Nat → Addr} {K : PySem.W.Frag} {F H F' H' F0 H0 : Hp} {X : Cx} {v x y : V} {p : PV} {κ : Kd} {E : St → XK} {m md : Mode} {e a b : Expr} {es : List Expr} {pos : Pos}
theorem RMs.tops : ∀ {vs : List V} {ps : List PV}, RMs G K md H0 F H vs ps → Tops G K F H vs ps
  | _, _, .nil => .nil
  | _, _, .cons r rs => .cons r.top (RMs.tops rs)
theorem Tops.one {q : PV} {xs : List V} (h : Tops G K F H xs [q]) : ∃ v, xs = [v] ∧ Top G K F H v q := by
  cases h with
  | cons r rs => cases rs; exact ⟨_, rfl, r⟩
theorem Tops.two {q q' : PV} {xs : List V} (h : Tops G K F H xs [q, q']) : ∃ v w, xs = [v, w] ∧ Top G K F H v q ∧ Top G K F H w q' := by
  cases h with
  | cons r rs =>
    cases rs with
    | cons r' rs => cases rs; exact ⟨_, _, rfl, r, r'⟩
theorem w_call {r : List V → Hp → VK → Prop} {g : List PV → Option PV} {f : LE → Res (List PV)} (hg : CalV G K r m g) {σ : St} {H : Hp} {Q : VK} (h : tE G K m E κ (eCall g f) σ H Q) : tA G K md E κ f σ H fun vs H1 => r vs H1 Q := by
  obtain ⟨F, τ, l, q⟩ := h
  refine ⟨F, τ, l, ?_⟩
  unfold eCall at q
  cases hf : f τ with
  | exc c ps => rw [hf] at q; exact q
  | bad => rw [hf] at q; exact q
  | ok ps =>
    rw [hf, Res.ok_bind] at q
    intro vs F1 H1 e1 r1
    cases hz : g ps with
    | none => rw [hz] at q; exact q.elim
    | some z =>
      rw [hz] at q
      exact hg F1 H1 vs ps z Q e1.sub r1.tops hz fun w F3 H3 e3 r3 => q w F3 H3 (e1.trans e3) (r3.before e1.h)
variable {g : List PV → Option PV} {f : LE → Res (List PV)} {r : List V → Hp → VK → Prop} {id T : String} {x' : Str} {p' : Pos}
theorem v_callB (hc : CallR X (.builtin id) r) (hg' : CalV G K r m g) (hm : X.mg x' = none) (hv : bootBuiltins x' = some (.builtin id)) (ha : PA X (e :: es) (tA G K md E κ f)) (hg : Gl X x' := by rfl) (hn : x' ≠ "__name__" := by decide) (hdb : (x' == ("__debug__" : Str)) = false := by decide)
    (he : starEach (e :: es) X.env = (false, eval e X.env) :: starEach es X.env := by rfl) (hpl : (backTo pos (starEach es X.env)).any (·.1) = false := by rfl) : PE X (.Call (.Name x' p') (e :: es) [] pos) (tE G K m E κ (eCall g f)) :=
  pe_weak (pe_callB hc hg hm hv ha hn hdb he hpl) fun _ _ _ h => w_call hg' h
theorem v_callTy (hc : CallR X (.type T) r) (hg' : CalV G K r m g) (hm : X.mg x' = none) (hv : bootBuiltins x' = some (.type T)) (ha : PA X (e :: es) (tA G K md E κ f)) (hg : Gl X x' := by rfl) (hn : x' ≠ "__name__" := by decide) (hdb : (x' == ("__debug__" : Str)) = false := by decide)
    (he : starEach (e :: es) X.env = (false, eval e X.env) :: starEach es X.env := by rfl) (hpl : (backTo pos (starEach es X.env)).any (·.1) = false := by rfl) : PE X (.Call (.Name x' p') (e :: es) [] pos) (tE G K m E κ (eCall g f)) :=
  pe_weak (pe_callTy hc hg hm hv ha hn hdb he hpl) fun _ _ _ h => w_call hg' h
/-! len -/
def pLen : List PV → Option PV
  | [.lst xs] => some (.int xs.length)
  | [.tup xs] => some (.int xs.length)
  | [.scr xs] => some (.int xs.length)
  | [.str z] => if z.length ≤ sizeLine then some (.int z.length) else none
  | [.dK kvs] => some (.int kvs.length)
  | _ => none
def rLenV (K : PySem.W.Frag) : List V → Hp → VK → Prop := fun xs H Q => (∃ x n, xs = [x] ∧ LenV K x H n ∧ Q (.int n) H) ∨ ∃ a kvs, xs = [.ref a] ∧ H a = some (.dK kvs) ∧ Q (.int kvs.length) H
theorem call_lenV : CallR X (.builtin "len") (rLenV X.K) := call_len.or fun pins s σ H xs us Q I r ⟨a, kvs, e, h, q⟩ => call_lenD pins s σ H xs us Q I r ⟨a, kvs, e, h, q⟩
theorem g_len : CalV G K (rLenV K) .sh pLen := by
  intro F H xs ps z Q s r hz k
  have kk : ∀ n : Nat, z = .int n → Q (.int n) H := fun n e => by subst e; exact k _ F H (Ext.refl s) (.int _)
  unfold pLen at hz
  split at hz
  · obtain ⟨v, rfl, rv⟩ := r.one
    obtain ⟨a, vs, rfl, h, rr⟩ := rv.lst_inv s
    exact .inl ⟨_, vs.length, rfl, .inl ⟨vs, .inl h, rfl⟩, kk _ (by rw [rr.length]; cases hz; rfl)⟩
  · obtain ⟨v, rfl, rv⟩ := r.one
    obtain ⟨a, vs, rfl, h, rr⟩ := rv.tup_inv s
    exact .inl ⟨_, vs.length, rfl, .inr ⟨vs, h, rfl⟩, kk _ (by rw [rr.length]; cases hz; rfl)⟩
  · obtain ⟨v, rfl, rv⟩ := r.one
    obtain ⟨a, rfl, h⟩ := rv.scr_inv s
    exact .inl ⟨_, _, rfl, .inl ⟨_, h, rfl⟩, kk _ (by rw [List.length_map]; cases hz; rfl)⟩
  · obtain ⟨v, rfl, rv⟩ := r.one
    obtain rfl := rv.str_inv
    split at hz
    · rename_i hl
      exact .inl ⟨_, _, rfl, ⟨hl, rfl⟩, kk _ (by cases hz; rfl)⟩
    · cases hz
  · obtain ⟨v, rfl, rv⟩ := r.one
    obtain ⟨a, vs, rfl, h, rr⟩ := rv.dK_inv s
    exact .inr ⟨_, vs, rfl, h, kk _ (by rw [rr.length]; cases hz; rfl)⟩
  · cases hz
/-! int, abs, min, max of ints, str of an int -/
def pInt : List PV → Option PV
  | [.int i] => some (.int i)
  | [.bl k] => some (.int (if k then 1 else 0))
  | _ => none
theorem g_int : CalV G K (fun xs H Q => (∃ i, xs = [.int i] ∧ Q (.int i) H) ∨ ∃ k, xs = [.bl k] ∧ Q (.int (if k then 1 else 0)) H) .sh pInt := by
  intro F H xs ps z Q s r hz k
  unfold pInt at hz
  split at hz
  · obtain ⟨v, rfl, rv⟩ := r.one
    obtain rfl := rv.int_inv
    cases hz
    exact .inl ⟨_, rfl, k _ F H (Ext.refl s) (.int _)⟩
  · obtain ⟨v, rfl, rv⟩ := r.one
    obtain rfl := rv.bl_inv
    cases hz
    exact .inr ⟨_, rfl, k _ F H (Ext.refl s) (.int _)⟩
  · cases hz
def pAbs : List PV → Option PV
  | [.int i] => some (.int (if i < 0 then -i else i))
  | _ => none
theorem g_abs : CalV G K (fun xs H Q => ∃ i, xs = [.int i] ∧ Q (.int (if i < 0 then -i else i)) H) .sh pAbs := by
  intro F H xs ps z Q s r hz k
  unfold pAbs at hz
  split at hz
  · obtain ⟨v, rfl, rv⟩ := r.one
    obtain rfl := rv.int_inv
    cases hz
    exact ⟨_, rfl, k _ F H (Ext.refl s) (.int _)⟩
  · cases hz
def pI2 (g : Int → Int → Int) : List PV → Option PV
  | [.int i, .int j] => some (.int (g i j))
  | _ => none
theorem g_I2 {g : Int → Int → Int} : CalV G K (fun xs H Q => ∃ i j, xs = [.int i, .int j] ∧ Q (.int (g i j)) H) .sh (pI2 g) := by
  intro F H xs ps z Q s r hz k
  unfold pI2 at hz
  split at hz
  · obtain ⟨v, w, rfl, rv, rw⟩ := r.two
    obtain rfl := rv.int_inv
    obtain rfl := rw.int_inv
    cases hz
    exact ⟨_, _, rfl, k _ F H (Ext.refl s) (.int _)⟩
  · cases hz
abbrev pMax := pI2 fun i j => if j > i then j else i
abbrev pMin := pI2 fun i j => if j < i then j else i
def pStrI : List PV → Option PV
  | [.int i] => if i.natAbs.log2 < 1920 then some (.str (toString i)) else none
  | _ => none
theorem g_strI : CalV G K (fun xs H Q => ∃ i, xs = [.int i] ∧ i.natAbs.log2 < 1920 ∧ Q (.str (toString i)) H) .sh pStrI := by
  intro F H xs ps z Q s r hz k
  unfold pStrI at hz
  split at hz
  · obtain ⟨v, rfl, rv⟩ := r.one
    obtain rfl := rv.int_inv
    split at hz
    · rename_i h
      cases hz
      exact ⟨_, rfl, h, k _ F H (Ext.refl s) (.str _)⟩
    · cases hz
  · cases hz
/-! list(x), tuple(x) -/
def pList : List PV → Option PV
  | [.lst xs] => some (.lst xs)
  | [.tup xs] => some (.lst xs)
  | _ => none
theorem g_list : CalV G K (fun xs H Q => ∃ p ys, xs = [.ref p] ∧ (SqL K H p ys ∨ SqT K H p ys) ∧ ∀ l, H l = none → Q (.ref l) (upd H l (.lst ys))) .fr pList := by
  intro F H xs ps z Q s r hz k
  unfold pList at hz
  split at hz
  · obtain ⟨v, rfl, rv⟩ := r.one
    obtain ⟨a, vs, rfl, h, rr⟩ := rv.lst_inv s
    cases hz
    exact ⟨a, vs, rfl, .inl (.inl h), fun l nl => let ⟨e, f⟩ := frs_new s nl rr; k _ _ _ e f⟩
  · obtain ⟨v, rfl, rv⟩ := r.one
    obtain ⟨a, vs, rfl, h, rr⟩ := rv.tup_inv s
    cases hz
    exact ⟨a, vs, rfl, .inr h, fun l nl => let ⟨e, f⟩ := frs_new s nl rr; k _ _ _ e f⟩
  · cases hz
def pTuple : List PV → Option PV
  | [.lst xs] => some (.tup xs)
  | [.tup xs] => some (.tup xs)
  | _ => none
theorem rep_tup {ws : List V} {qs : List PV} {l : Addr} (s : Same F H) (nl : H l = none) (rr : Reps G K F ws qs) : Ext F H (upd F l (.tup ws)) (upd H l (.tup ws)) ∧ Rep G K (upd F l (.tup ws)) (.ref l) (.tup qs) :=
  ⟨Ext.push _ (Ext.refl s) nl, .tup (.inl (.inl upd_same)) (Reps.mono (same_new (Same.free s nl)) rr)⟩
theorem g_tuple : CalV G K (fun xs H Q => ∃ p ys, xs = [.ref p] ∧ ((SqL K H p ys ∧ ∀ l, H l = none → Q (.ref l) (upd H l (.tup ys))) ∨ (SqT K H p ys ∧ Q (.ref p) H))) .sh pTuple := by
  intro F H xs ps z Q s r hz k
  unfold pTuple at hz
  split at hz
  · obtain ⟨v, rfl, rv⟩ := r.one
    obtain ⟨a, vs, rfl, h, rr⟩ := rv.lst_inv s
    cases hz
    exact ⟨a, vs, rfl, .inl ⟨.inl h, fun l nl => let ⟨e, f⟩ := rep_tup s nl rr; k _ _ _ e f⟩⟩
  · obtain ⟨v, rfl, rv⟩ := r.one
    rcases rv with rv | ⟨_, _, _, o⟩
    · obtain ⟨a, vs, rfl, h, rr⟩ := rv.tup_inv
      cases hz
      exact ⟨a, vs, rfl, .inr ⟨Same.sqt s h, k _ F H (Ext.refl s) rv⟩⟩
    · exact o.elim
  · cases hz
/-! all, any, sum -/
def blsOf : List PV → Option (List Bool)
  | [] => some []
  | .bl b :: xs => (blsOf xs).map (b :: ·)
  | _ => none
theorem Reps.bls : ∀ {vs : List V} {ps : List PV} {bs : List Bool}, Reps G K F vs ps → blsOf ps = some bs → vs = bs.map V.bl
  | _, _, _, .nil, h => by simp [blsOf] at h; subst h; rfl
  | _, _, _, .cons (p := p) (ps := ps) r rs, h => by
    cases p <;> simp only [blsOf] at h <;> try cases h
    cases hb : blsOf ps with
    | none => rw [hb] at h; cases h
    | some bs' =>
      rw [hb] at h
      cases h
      rw [Rep.bl_inv r, Reps.bls rs hb]
      rfl
def pAll : List PV → Option PV
  | [.lst xs] => (blsOf xs).map fun bs => .bl (bs.all _root_.id)
  | _ => none
def pAny : List PV → Option PV
  | [.lst xs] => (blsOf xs).map fun bs => .bl (bs.any _root_.id)
  | _ => none
theorem g_all : CalV G K (rAll K) .sh pAll := by
  intro F H xs ps z Q s r hz k
  unfold pAll at hz
  split at hz
  · obtain ⟨v, rfl, rv⟩ := r.one
    obtain ⟨a, vs, rfl, h, rr⟩ := rv.lst_inv s
    rename_i qs
    cases hb : blsOf qs with
    | none => rw [hb] at hz; cases hz
    | some bs =>
      rw [hb] at hz
      cases hz
      have e := rr.bls hb
      subst e
      exact ⟨a, bs, rfl, .inl h, k _ F H (Ext.refl s) (.bl _)⟩
  · cases hz
theorem g_any : CalV G K (rAny K) .sh pAny := by
  intro F H xs ps z Q s r hz k
  unfold pAny at hz
  split at hz
  · obtain ⟨v, rfl, rv⟩ := r.one
    obtain ⟨a, vs, rfl, h, rr⟩ := rv.lst_inv s
    rename_i qs
    cases hb : blsOf qs with
    | none => rw [hb] at hz; cases hz
    | some bs =>
      rw [hb] at hz
      cases hz
      have e := rr.bls hb
      subst e
      exact ⟨a, bs, rfl, .inl h, k _ F H (Ext.refl s) (.bl _)⟩
  · cases hz
def intsOf : List PV → Option (List Int)
  | [] => some []
  | .int b :: xs => (intsOf xs).map (b :: ·)
  | _ => none
theorem Reps.ints : ∀ {vs : List V} {ps : List PV} {bs : List Int}, Reps G K F vs ps → intsOf ps = some bs → vs = bs.map V.int
  | _, _, _, .nil, h => by simp [intsOf] at h; subst h; rfl
  | _, _, _, .cons (p := p) (ps := ps) r rs, h => by
    cases p <;> simp only [intsOf] at h <;> try cases h
    cases hb : intsOf ps with
    | none => rw [hb] at h; cases h
    | some bs' =>
      rw [hb] at h
      cases h
      rw [Rep.int_inv r, Reps.ints rs hb]
      rfl
def pSum : List PV → Option PV
  | [.lst xs] => (intsOf xs).map fun bs => .int bs.sum
  | _ => none
theorem g_sum : CalV G K (rSum K) .sh pSum := by
  intro F H xs ps z Q s r hz k
  unfold pSum at hz
  split at hz
  · obtain ⟨v, rfl, rv⟩ := r.one
    obtain ⟨a, vs, rfl, h, rr⟩ := rv.lst_inv s
    rename_i qs
    cases hb : intsOf qs with
    | none => rw [hb] at hz; cases hz
    | some bs =>
      rw [hb] at hz
      cases hz
      have e := rr.ints hb
      subst e
      exact ⟨a, bs, rfl, .inl h, k _ F H (Ext.refl s) (.int _)⟩
  · cases hz

/-! ### displays -/
def eTup (f : LE → Res (List PV)) : LE → Res PV := fun τ => f τ >>= fun ps => if ps.length ≤ 1000 then .ok (.tup ps) else .bad
def eLst (f : LE → Res (List PV)) : LE → Res PV := fun τ => f τ >>= fun ps => if ps.length ≤ 1000 then .ok (.lst ps) else .bad
theorem v_tup {x1} (h : PA X es (tA G K .sh E κ f)) : PE X (.Tuple es x1 pos) (tE G K .sh E κ (eTup f)) := pe_weak (pe_tup h) fun σ H Q ⟨F, τ, l, q⟩ => by
  refine ⟨F, τ, l, ?_⟩
  unfold eTup at q
  cases hf : f τ with
  | exc c ps => rw [hf] at q; exact q
  | bad => rw [hf] at q; exact q
  | ok ps =>
    rw [hf, Res.ok_bind] at q
    intro vs F1 H1 e1 r1
    have r1' := r1.shared
    by_cases hl : ps.length ≤ 1000
    · rw [if_pos hl] at q
      refine ⟨by rw [r1'.length, sizeLine_eq]; omega, fun p np => ?_⟩
      obtain ⟨e, rr⟩ := rep_tup e1.sub np r1'
      exact q _ _ _ (e1.trans e) rr
    · rw [if_neg hl] at q; exact q.elim
theorem v_lst (h : PA X es (tA G K .sh E κ f)) : PE X (.List es pos) (tE G K .fr E κ (eLst f)) := pe_weak (pe_lst h) fun σ H Q ⟨F, τ, l, q⟩ => by
  refine ⟨F, τ, l, ?_⟩
  unfold eLst at q
  cases hf : f τ with
  | exc c ps => rw [hf] at q; exact q
  | bad => rw [hf] at q; exact q
  | ok ps =>
    rw [hf, Res.ok_bind] at q
    intro vs F1 H1 e1 r1
    have r1' := r1.shared
    by_cases hl : ps.length ≤ 1000
    · rw [if_pos hl] at q
      refine ⟨by rw [r1'.length, sizeLine_eq]; omega, fun p np => ?_⟩
      obtain ⟨e, rr⟩ := frs_new e1.sub np r1'
      exact q _ _ _ (e1.trans e) (rr.before e1.h)
    · rw [if_neg hl] at q; exact q.elim

/-! ### places and slices -/
theorem Reps.atI {vs : List V} {ps : List PV} {i : Int} (r : Reps G K F vs ps) {p : PV} (h : L2.atI ps i = some p) : ∃ v, L2.atI vs i = some v ∧ Rep G K F v p := by
  unfold L2.atI at h ⊢
  rw [r.length]
  cases hj : ixN ps.length i with
  | none => rw [hj] at h; cases h
  | some j =>
    rw [hj] at h
    obtain ⟨v, e, rr⟩ := r.get (show ps[j]? = some p from h)
    exact ⟨v, e, rr⟩
def pIx : PV → PV → Option PV
  | .lst xs, .int i => atI xs i
  | .tup xs, .int i => atI xs i
  | .scr xs, .int i => (atI xs i).map .int
  | .str z, .int i => if z.length ≤ sizeLine then (atI z.cps.toList i).map fun c => .str ⟨#[c]⟩ else none
  | _, _ => none
theorem atI_map {α β : Type} (g : α → β) (xs : List α) (i : Int) : atI (xs.map g) i = (atI xs i).map g := by
  unfold atI
  rw [List.length_map]
  cases ixN xs.length i with
  | none => rfl
  | some j => simp
theorem g_ix : OpV G K (rIx K) .sh pIx := by
  intro F H x y p q z Q s rx ry hz k
  unfold pIx at hz
  split at hz
  · obtain ⟨a, vs, rfl, h, rr⟩ := rx.lst_inv s
    obtain rfl := ry.int_inv
    obtain ⟨v, e, r⟩ := rr.atI hz
    exact .inl ⟨a, vs, _, v, rfl, rfl, .inl h, e, k _ F H (Ext.refl s) r⟩
  · obtain ⟨a, vs, rfl, h, rr⟩ := rx.tup_inv s
    obtain rfl := ry.int_inv
    obtain ⟨v, e, r⟩ := rr.atI hz
    exact .inr (.inl ⟨a, vs, _, v, rfl, rfl, h, e, k _ F H (Ext.refl s) r⟩)
  · obtain ⟨a, rfl, h⟩ := rx.scr_inv s
    obtain rfl := ry.int_inv
    rename_i ns i
    cases hj : atI ns i with
    | none => rw [hj] at hz; cases hz
    | some n =>
      rw [hj] at hz
      cases hz
      exact .inl ⟨a, _, _, .int n, rfl, rfl, h, by rw [atI_map, hj]; rfl, k _ F H (Ext.refl s) (.int _)⟩
  · obtain rfl := rx.str_inv
    obtain rfl := ry.int_inv
    split at hz
    · rename_i zz i hl
      cases hj : atI zz.cps.toList i with
      | none => rw [hj] at hz; cases hz
      | some n =>
        rw [hj] at hz
        cases hz
        exact .inr (.inr ⟨_, _, n, rfl, rfl, hl, hj, k _ F H (Ext.refl s) (.str _)⟩)
    · cases hz
  · cases hz
variable {h1 h2 : LE → Res PV}
theorem v_ix (ha : PE X a (tE G X.K .top E κ h1)) (hb : PE X b (tE G X.K .top E κ h2)) (hs : PlainIx b := by intro _ _; rfl) : PE X (.Subscript a b pos) (tE G X.K .sh E κ (e2 pIx h1 h2)) :=
  pe_weak (pe_ix ix_seq ha hb hs) fun _ _ _ h => w_op g_ix h
/-- the bound of a slice -/
def tO (E : St → XK) (κ : Kd) (G : Nat → Addr) (K : PySem.W.Frag) (f : LE → Res (Option Int)) : TO := fun σ H Q => ∃ F τ, Lc G K κ F H σ τ ∧ match f τ with
  | .ok o => ∀ F' H', Ext F H F' H' → Q o H'
  | .exc c ps => ExcOk G K (E σ) F H c ps
  | .bad => False
def oNone : LE → Res (Option Int) := fun _ => .ok none
def oSome (f : LE → Res PV) : LE → Res (Option Int) := fun τ => f τ >>= fun p => match p with
  | .int i => .ok (some i)
  | _ => .bad
theorem po_weak {e : Option Expr} {t t' : TO} (h : PO X e t) (w : ∀ σ H Q, t' σ H Q → t σ H Q) : PO X e t' := ⟨fun pins s σ H Q I q => h.run pins s σ H Q I (w σ H Q q)⟩
theorem o_none : PO X none (tO E κ G K oNone) := po_weak po_none fun σ H Q ⟨F, τ, l, q⟩ => q F H (Ext.refl l.sub)
theorem o_some (h : PE X e (tE G K .sh E κ h1)) : PO X (some e) (tO E κ G K (oSome h1)) := po_weak (po_some h) fun σ H Q ⟨F, τ, l, q⟩ => by
  refine ⟨F, τ, l, ?_⟩
  unfold oSome at q
  cases hf : h1 τ with
  | exc c ps => rw [hf] at q; exact q
  | bad => rw [hf] at q; exact q
  | ok p =>
    rw [hf, Res.ok_bind] at q
    intro v F1 H1 e1 r1
    cases p with
    | int i => exact ⟨i, Rep.int_inv r1, q F1 H1 e1⟩
    | _ => exact q.elim
def cut {α : Type} (xs : List α) (lo hi : Option Int) : List α := (xs.drop (HT.sIx xs.length 0 lo)).take (HT.sIx xs.length xs.length hi - HT.sIx xs.length 0 lo)
def pSl (p : PV) (lo hi : Option Int) : Option PV := match p with
  | .tup xs => some (.tup (cut xs lo hi))
  | .str z => if z.length ≤ sizeLine then some (.str (cutS z lo hi)) else none
  | _ => none
def pSlL (p : PV) (lo hi : Option Int) : Option PV := match p with
  | .lst xs => some (.lst (cut xs lo hi))
  | _ => none
def SlV (r : V → Option Int → Option Int → Hp → VK → Prop) (m : Mode) (G : Nat → Addr) (K : PySem.W.Frag) (g : PV → Option Int → Option Int → Option PV) : Prop := ∀ (F H : Hp) (x : V) (p z : PV) (lo hi : Option Int) (Q : VK), Same F H → Top G K F H x p → g p lo hi = some z →
  (∀ v F' H', Ext F H F' H' → RM G K m H F' H' v z → Q v H') → r x lo hi H Q
theorem Reps.cut {vs : List V} {ps : List PV} (r : Reps G K F vs ps) (lo hi : Option Int) : Reps G K F (cutV vs lo hi) (Lp.cut ps lo hi) := by
  unfold cutV Lp.cut
  rw [r.length]
  exact Reps.take _ (Reps.drop _ r)
def rSlV (K : PySem.W.Frag) : V → Option Int → Option Int → Hp → VK → Prop := fun x lo hi H Q => rSlA K x lo hi H Q ∨ rSlS x lo hi H Q
theorem sl_V : SlR X (rSlV X.K) := SlR.or sl_tupA sl_str
theorem g_sl : SlV (rSlV K) .sh G K pSl := by
  intro F H x p z lo hi Q s rx hz k
  unfold pSl at hz
  split at hz
  · rcases rx with rx | ⟨_, _, _, o⟩
    · obtain ⟨a, vs, rfl, h, rr⟩ := rx.tup_inv
      cases hz
      refine .inl ⟨a, vs, rfl, Same.sqt s h, fun hw => k _ F H (Ext.refl s) ?_, fun _ p np => ?_⟩
      · have e : cutV vs lo hi = vs := by
          unfold cutV
          rw [hw.1, hw.2, List.drop_zero, Nat.sub_zero, List.take_length]
        have r2 := rr.cut lo hi
        rw [e] at r2
        exact .tup h r2
      · obtain ⟨e, r⟩ := rep_tup s np (rr.cut lo hi)
        exact k _ _ _ e r
    · exact o.elim
  · obtain rfl := rx.str_inv
    split at hz
    · rename_i hl
      cases hz
      exact .inr ⟨_, rfl, hl, k _ F H (Ext.refl s) (.str _)⟩
    · cases hz
  · cases hz
theorem g_slL : SlV (rSlL K) .fr G K pSlL := by
  intro F H x p z lo hi Q s rx hz k
  unfold pSlL at hz
  split at hz
  · obtain ⟨a, vs, rfl, h, rr⟩ := rx.lst_inv s
    cases hz
    exact ⟨a, vs, rfl, .inl h, fun l nl => let ⟨e, f⟩ := frs_new s nl (rr.cut lo hi); k _ _ _ e f⟩
  · cases hz
def eSl (g : PV → Option Int → Option Int → Option PV) (f : LE → Res PV) (lo hi : LE → Res (Option Int)) : LE → Res PV := fun τ => f τ >>= fun p => lo τ >>= fun l => hi τ >>= fun h => up (g p l h)
theorem v_slice {r : V → Option Int → Option Int → Hp → VK → Prop} {g : PV → Option Int → Option Int → Option PV} {lo hi : Option Expr} {fl fh : LE → Res (Option Int)} {p2 : Pos} (hr : SlR X r) (hg : SlV r m G K g) (he : PE X e (tE G K .top E κ h1)) (hl : PO X lo (tO E κ G K fl)) (hh : PO X hi (tO E κ G K fh)) :
    PE X (.Subscript e (.Slice lo hi none p2) pos) (tE G K m E κ (eSl g h1 fl fh)) := pe_weak (pe_slice hr he hl hh) fun σ H Q ⟨F, τ, l, q⟩ => by
  refine ⟨F, τ, l, ?_⟩
  unfold eSl at q
  cases hf : h1 τ with
  | exc c ps => rw [hf] at q; exact q
  | bad => rw [hf] at q; exact q
  | ok p =>
    rw [hf] at q
    intro v F1 H1 e1 r1
    refine ⟨F1, τ, l.ext e1, ?_⟩
    cases hfl : fl τ with
    | exc c ps => rw [Res.ok_bind, hfl] at q; exact ExcOk.ext q e1
    | bad => rw [Res.ok_bind, hfl] at q; exact q
    | ok lo =>
      rw [Res.ok_bind, hfl] at q
      intro F2 H2 e2
      refine ⟨F2, τ, (l.ext e1).ext e2, ?_⟩
      cases hfh : fh τ with
      | exc c ps => rw [Res.ok_bind, hfh] at q; exact ExcOk.ext q (e1.trans e2)
      | bad => rw [Res.ok_bind, hfh] at q; exact q
      | ok hi =>
        rw [Res.ok_bind, hfh, Res.ok_bind] at q
        intro F3 H3 e3
        have ee := (e1.trans e2).trans e3
        cases hz : g p lo hi with
        | none => rw [hz] at q; exact q.elim
        | some z =>
          rw [hz] at q
          exact hg F3 H3 v p z lo hi Q e3.sub (Top.ext r1 (e2.trans e3)) hz fun w F4 H4 e4 r4 => q w F4 H4 (ee.trans e4) (r4.before ee.h)
end
end Lp
end
section
set_option Elab.async false
set_option linter.all false
set_option maxRecDepth 100000
namespace Lp
open PySem PySem.Spec L2

section
variable (G : Nat → Addr) (K : PySem.W.Frag)
/-- what J yields, one by one: B is what the container leans on, F0 what the items lean on -/
structure Itp (J : It) (B F0 : Hp) (ps : List PV) : Prop where
  len : ps.length ≤ sizeLine
  go : ∀ i H, Same B H → i < ps.length → J.go i H
  stop : ∀ H, Same B H → J.stop ps.length H
  yld : ∀ i x H H' F p, Same B H → Same F0 F → Same F H → J.yld i H x H' → ps[i]? = some p → ∃ F2, Ext F H F2 H' ∧ Rep G K F2 x p
def tI (sh : Bool) (E : St → XK) (κ : Kd) (f : LE → Res (List PV)) : TI := fun σ H R => ∃ F τ, Lc G K κ F H σ τ ∧ match f τ with
  | .ok ps => ∀ J F' H', Ext F H F' H' → Itp G K J (if sh = true then F' else H') F' ps → R J H'
  | .exc c ps => ExcOk G K (E σ) F H c ps
  | .bad => False
/-- a target: the slots at ws may change -/
def tG (ws : List Nat) (E : St → XK) (κ : Kd) (g : PV → LE → Res LE) : TG := fun v σ H Q => ∃ F τ p, Lc G K κ F H σ τ ∧ Rep G K F v p ∧ match g p τ with
  | .ok τ' => ∀ σ', Lc G K κ F H σ' τ' → (∀ j, j ∉ ws → σ'[j]? = σ[j]?) → Q σ' H
  | .exc c ps => ExcOk G K (E σ) F H c ps
  | .bad => False
def tGs (ws : List Nat) (E : St → XK) (κ : Kd) (g : List PV → LE → Res LE) : TGs := fun vs σ H Q => ∃ F τ ps, Lc G K κ F H σ τ ∧ Reps G K F vs ps ∧ match g ps τ with
  | .ok τ' => ∀ σ', Lc G K κ F H σ' τ' → (∀ j, j ∉ ws → σ'[j]? = σ[j]?) → Q σ' H
  | .exc c ps => ExcOk G K (E σ) F H c ps
  | .bad => False
end
section
variable {G : Nat → Addr} {K : PySem.W.Frag} {F H F' H' F0 H0 B : Hp} {X : Cx} {v x y : V} {p : PV} {κ : Kd} {E : St → XK} {m md : Mode} {e a b tg : Expr} {es : List Expr} {pos : Pos} {σ : St} {τ : LE}

/-! ### targets -/
theorem Lc.set {i : Nat} (l : Lc G K κ F H σ τ) (k : κ i = false) (hi : i < τ.length) (r : Rep G K F v p) : Lc G K κ F H (σ.set i (some v)) (τ.set i (some p)) := by
  refine ⟨l.sub, by rw [List.length_set, List.length_set]; exact l.len, fun j q h1 h2 => ?_, fun j q h1 h2 => ?_, fun j1 j2 q1 q2 a h1 h2 h3 h4 h5 h6 => ?_⟩
  · by_cases hj : i = j
    · subst hj
      rw [List.getElem?_set_self hi] at h1
      cases h1
      exact ⟨v, List.getElem?_set_self (by rw [l.len]; exact hi), r⟩
    · rw [List.getElem?_set_ne hj] at h1
      rw [List.getElem?_set_ne hj]
      exact l.sh j q h1 h2
  · have hj : i ≠ j := fun e => by subst e; rw [k] at h2; cases h2
    rw [List.getElem?_set_ne hj] at h1
    rw [List.getElem?_set_ne hj]
    exact l.ow j q h1 h2
  · have n1 : i ≠ j1 := fun e => by subst e; rw [k] at h1; cases h1
    have n2 : i ≠ j2 := fun e => by subst e; rw [k] at h2; cases h2
    rw [List.getElem?_set_ne n1] at h3 h5
    rw [List.getElem?_set_ne n2] at h4 h6
    exact l.ap j1 j2 q1 q2 a h1 h2 h3 h4 h5 h6
def gNm (i : Nat) : PV → LE → Res LE := fun p τ => if i < τ.length then .ok (τ.set i (some p)) else .bad
theorem gv_name (i : Nat) {x : Str} (k : κ i = false := by rfl) (hN : X.N.Nodup) (hi : X.N[i]? = some x := by rfl) (hx : Loc X.env.scope x := by first | exact .inl rfl | exact .inr rfl) (hf : X.fn x = true ∨ X.env.scope.names.lookup x = some .local := by first | exact .inl rfl | exact .inr rfl | assumption) :
    PG X (.Name x pos) (tG G K [i] E κ (gNm i)) := ⟨fun pins s σ H v u Q I r h => by
  refine (pg_name hN hi hx hf).run pins s σ H v u Q I r ?_
  obtain ⟨F, τ, p, l, rp, q⟩ := h
  unfold gNm at q
  by_cases hl : i < τ.length
  · rw [if_pos hl] at q
    exact q _ (l.set k hl rp) fun j hj => List.getElem?_set_ne fun e => hj (by simp [e])
  · rw [if_neg hl] at q; exact q.elim⟩
def gsN : List PV → LE → Res LE := fun ps τ => match ps with
  | [] => .ok τ
  | _ => .bad
def gsC (g : PV → LE → Res LE) (gs : List PV → LE → Res LE) : List PV → LE → Res LE := fun ps τ => match ps with
  | [] => .bad
  | p :: ps => g p τ >>= fun τ' => gs ps τ'
theorem gvs_nil : PGs X [] (tGs G K [] E κ gsN) := ⟨fun pins s σ H vs us Q I r h => by
  refine pgs_nil.run pins s σ H vs us Q I r ?_
  obtain ⟨F, τ, ps, l, rp, q⟩ := h
  cases rp with
  | nil => exact ⟨rfl, q σ l fun _ _ => rfl⟩
  | cons _ _ => exact q.elim⟩
theorem gvs_cons {ws1 ws2 : List Nat} {g : PV → LE → Res LE} {gs : List PV → LE → Res LE} (h1 : PG X e (tG G K ws1 E κ g)) (h2 : PGs X es (tGs G K ws2 E κ gs)) (hE : ∀ σ σ', E σ' = E σ)
    (hs : (assignEach (e :: es) X.env).map (·.2) = assign e X.env :: (assignEach es X.env).map (·.2) := by rfl) : PGs X (e :: es) (tGs G K (ws1 ++ ws2) E κ (gsC g gs)) := ⟨fun pins s σ H vs us Q I r h => by
  refine (pgs_cons h1 h2 hs).run pins s σ H vs us Q I r ?_
  obtain ⟨F, τ, ps, l, rp, q⟩ := h
  cases rp with
  | nil => exact q.elim
  | cons r0 rs =>
    rename_i v0 vr p0 pr
    refine ⟨v0, vr, rfl, F, τ, p0, l, r0, ?_⟩
    unfold gsC at q
    cases hg : g p0 τ with
    | exc c ps => simp only [hg] at q; exact q
    | bad => simp only [hg] at q; exact q
    | ok τ' =>
      simp only [hg, Res.ok_bind] at q
      intro σ' l' k'
      refine ⟨F, τ', pr, l', rs, ?_⟩
      cases hg2 : gs pr τ' with
      | exc c ps => rw [hg2] at q; rw [hE σ σ']; exact q
      | bad => rw [hg2] at q; exact q
      | ok τ'' =>
        rw [hg2] at q
        exact fun σ'' l'' k'' => q σ'' l'' fun j hj => by
          rw [List.mem_append, not_or] at hj
          rw [k'' j hj.2, k' j hj.1]⟩
def gTp (gs : List PV → LE → Res LE) (n : Nat) : PV → LE → Res LE := fun p τ => match p with
  | .tup ps => if ps.length = n then gs ps τ else .bad
  | _ => .bad
theorem gv_tup {ws : List Nat} {k n : Nat} {gs : List PV → LE → Res LE} (hc : X.calm = true) (h : PGs X es (tGs G X.K ws E κ gs)) (hn : (assignEach es X.env).length = n := by rfl) (hst : (assignEach es X.env).findIdx? (·.1) = none := by rfl) :
    PG X (.Tuple es k pos) (tG G X.K ws E κ (gTp gs n)) := ⟨fun pins s σ H v u Q I r h' => by
  refine (pg_tup hc h hn hst).run pins s σ H v u Q I r ?_
  obtain ⟨F, τ, p, l, rp, q⟩ := h'
  cases p with
  | tup ps =>
    unfold gTp at q
    obtain ⟨a, vs, rfl, hS, rr⟩ := rp.tup_inv
    by_cases hl : ps.length = n
    · simp only [if_pos hl] at q
      exact ⟨a, vs, rfl, Same.sqt l.sub hS, by rw [rr.length]; exact hl, F, τ, ps, l, rr, q⟩
    · simp only [if_neg hl] at q
  | _ => exact q.elim⟩

/-! ### what is walked -/
theorem Itp.list {a : Addr} {vs : List V} {ps : List PV} (hB : SqL K B a vs) (r : Reps G K F0 vs ps) (hl : vs.length ≤ sizeLine) : Itp G K (Itl K a) B F0 ps where
  len := by rw [← r.length]; exact hl
  go i H s hi := by
    obtain ⟨v, e, _⟩ := r.get (List.getElem?_eq_getElem hi)
    exact ⟨vs, v, Same.seq s hB, e⟩
  stop H s := ⟨vs, Same.seq s hB, by rw [r.length]; exact Nat.le_refl _⟩
  yld i x H H' F p s s0 sF hy hp := by
    obtain ⟨rfl, hx⟩ := hy
    obtain ⟨v, e, rv⟩ := r.get hp
    have := (hx vs (Same.seq s hB)).symm.trans e
    cases this
    exact ⟨F, Ext.refl sF, rv.mono s0⟩
theorem Itp.tup {a : Addr} {vs : List V} {ps : List PV} (hB : SqT K B a vs) (r : Reps G K F0 vs ps) (hl : vs.length ≤ sizeLine) : Itp G K (Itt K a) B F0 ps where
  len := by rw [← r.length]; exact hl
  go i H s hi := by
    obtain ⟨v, e, _⟩ := r.get (List.getElem?_eq_getElem hi)
    exact ⟨vs, v, Same.sqt s hB, e⟩
  stop H s := ⟨vs, Same.sqt s hB, by rw [r.length]; exact Nat.le_refl _⟩
  yld i x H H' F p s s0 sF hy hp := by
    obtain ⟨rfl, hx⟩ := hy
    obtain ⟨v, e, rv⟩ := r.get hp
    have := (hx vs (Same.sqt s hB)).symm.trans e
    cases this
    exact ⟨F, Ext.refl sF, rv.mono s0⟩
def signsP (z : Str) : List PV := z.cps.toList.map fun c => .str ⟨#[c]⟩
theorem Itp.str {z : Str} (hl : z.length ≤ sizeLine) : Itp G K (Its z) B F0 (signsP z) where
  len := by unfold signsP; rw [List.length_map, Array.length_toList]; exact hl
  go i H s hi := by unfold signsP at hi; rw [List.length_map, Array.length_toList] at hi; exact hi
  stop H s := by unfold signsP; rw [List.length_map, Array.length_toList]; exact Nat.le_refl _
  yld i x H H' F p s s0 sF hy hp := by
    obtain ⟨rfl, c, hc, rfl⟩ := hy
    unfold signsP at hp
    rw [List.getElem?_map, Array.getElem?_toList, hc] at hp
    cases hp
    exact ⟨F, Ext.refl sF, .str _⟩
theorem Itp.range {lo : Int} {n : Nat} (hl : n ≤ sizeLine) : Itp G K (Itr lo n) B F0 ((List.range n).map fun i => .int (lo + (i : Nat))) where
  len := by simpa using hl
  go i H s hi := by have h : i < n := by simpa using hi
                    exact h
  stop H s := by show n ≤ _; simp
  yld i x H H' F p s s0 sF hy hp := by
    obtain ⟨rfl, rfl⟩ := hy
    rw [List.getElem?_map] at hp
    by_cases hi : i < n
    · rw [List.getElem?_range hi] at hp
      cases hp
      exact ⟨F, Ext.refl sF, .int _⟩
    · rw [List.getElem?_eq_none (by simpa using hi)] at hp; cases hp
theorem Itp.rangeC {lo c : Int} {n : Nat} (hl : n ≤ sizeLine) : Itp G K (Itc lo c n) B F0 ((List.range n).map fun i => .int (lo + (i : Nat) * c)) where
  len := by simpa using hl
  go i H s hi := by have h : i < n := by simpa using hi
                    exact h
  stop H s := by show n ≤ _; simp
  yld i x H H' F p s s0 sF hy hp := by
    obtain ⟨rfl, rfl⟩ := hy
    rw [List.getElem?_map] at hp
    by_cases hi : i < n
    · rw [List.getElem?_range hi] at hp
      cases hp
      exact ⟨F, Ext.refl sF, .int _⟩
    · rw [List.getElem?_eq_none (by simpa using hi)] at hp; cases hp
def enumP (ps : List PV) : List PV := ps.zipIdx.map fun x => .tup [.int (x.2 : Nat), x.1]
theorem enumP_get {ps : List PV} {i : Nat} {p : PV} (h : (enumP ps)[i]? = some p) : ∃ q, ps[i]? = some q ∧ p = .tup [.int (i : Nat), q] := by
  unfold enumP at h
  rw [List.getElem?_map, List.getElem?_zipIdx] at h
  cases e : ps[i]? with
  | none => rw [e] at h; cases h
  | some q => rw [e] at h; simp at h; exact ⟨q, rfl, h.symm⟩
theorem rep_pair {T : Addr} {x y : V} {p q : PV} (sF : Same F H) (nT : H T = none) (rx : Rep G K F x p) (ry : Rep G K F y q) : ∃ F2, Ext F H F2 (upd H T (.tup [x, y])) ∧ Rep G K F2 (.ref T) (.tup [p, q]) :=
  ⟨_, Ext.push _ (Ext.refl sF) nT, .tup (.inl (.inl upd_same)) (Reps.mono (same_new (Same.free sF nT)) (.cons rx (.cons ry .nil)))⟩
theorem Itp.enum {a : Addr} {vs : List V} {ps : List PV} (hB : SqL K B a vs) (r : Reps G K F0 vs ps) (hl : vs.length ≤ sizeLine) : Itp G K (Ite K a) B F0 (enumP ps) where
  len := by unfold enumP; simp; rw [← r.length]; exact hl
  go i H s hi := by
    have hi' : i < ps.length := by unfold enumP at hi; simpa using hi
    obtain ⟨v, e, _⟩ := r.get (List.getElem?_eq_getElem hi')
    exact ⟨vs, v, Same.seq s hB, e⟩
  stop H s := ⟨vs, Same.seq s hB, by unfold enumP; simp; rw [r.length]; exact Nat.le_refl _⟩
  yld i x H H' F p s s0 sF hy hp := by
    obtain ⟨T, x', rfl, nT, rfl, hx⟩ := hy
    obtain ⟨q, hq, rfl⟩ := enumP_get hp
    obtain ⟨v, e, rv⟩ := r.get hq
    have := (hx vs (Same.seq s hB)).symm.trans e
    cases this
    exact rep_pair sF nT (.int _) (rv.mono s0)
theorem Itp.enumT {a : Addr} {vs : List V} {ps : List PV} (hB : SqT K B a vs) (r : Reps G K F0 vs ps) (hl : vs.length ≤ sizeLine) : Itp G K (IteT K a) B F0 (enumP ps) where
  len := by unfold enumP; simp; rw [← r.length]; exact hl
  go i H s hi := by
    have hi' : i < ps.length := by unfold enumP at hi; simpa using hi
    obtain ⟨v, e, _⟩ := r.get (List.getElem?_eq_getElem hi')
    exact ⟨vs, v, Same.sqt s hB, e⟩
  stop H s := ⟨vs, Same.sqt s hB, by unfold enumP; simp; rw [r.length]; exact Nat.le_refl _⟩
  yld i x H H' F p s s0 sF hy hp := by
    obtain ⟨T, x', rfl, nT, rfl, hx⟩ := hy
    obtain ⟨q, hq, rfl⟩ := enumP_get hp
    obtain ⟨v, e, rv⟩ := r.get hq
    have := (hx vs (Same.sqt s hB)).symm.trans e
    cases this
    exact rep_pair sF nT (.int _) (rv.mono s0)
def zipP (ps qs : List PV) : List PV := (ps.zip qs).map fun x => .tup [x.1, x.2]
theorem zipP_get {ps qs : List PV} {i : Nat} {p : PV} (h : (zipP ps qs)[i]? = some p) : ∃ a b, ps[i]? = some a ∧ qs[i]? = some b ∧ p = .tup [a, b] := by
  unfold zipP at h
  rw [List.getElem?_map] at h
  cases e : (ps.zip qs)[i]? with
  | none => rw [e] at h; cases h
  | some q =>
    rw [e] at h
    simp at h
    rw [List.getElem?_zip_eq_some] at e
    exact ⟨q.1, q.2, e.1, e.2, h.symm⟩
theorem zipP_len (ps qs : List PV) : (zipP ps qs).length = min ps.length qs.length := by unfold zipP; simp
theorem Itp.zip {a b : Addr} {vs ws : List V} {ps qs : List PV} (hB : SqL K B a vs) (hB2 : SqL K B b ws) (r : Reps G K F0 vs ps) (r2 : Reps G K F0 ws qs) (hl : ps.length ≤ sizeLine) : Itp G K (Itz K a b) B F0 (zipP ps qs) where
  len := by rw [zipP_len]; omega
  go i H s hi := by
    rw [zipP_len] at hi
    obtain ⟨v, e, _⟩ := r.get (List.getElem?_eq_getElem (show i < ps.length by omega))
    obtain ⟨v2, e2, _⟩ := r2.get (List.getElem?_eq_getElem (show i < qs.length by omega))
    exact ⟨vs, ws, v, v2, Same.seq s hB, Same.seq s hB2, e, e2⟩
  stop H s := ⟨vs, ws, Same.seq s hB, Same.seq s hB2, by rw [zipP_len, r.length, r2.length]; omega⟩
  yld i x H H' F p s s0 sF hy hp := by
    obtain ⟨T, x', y', rfl, nT, rfl, hx, hy⟩ := hy
    obtain ⟨c, d, hc, hd, rfl⟩ := zipP_get hp
    obtain ⟨v, e, rv⟩ := r.get hc
    obtain ⟨v2, e2, rv2⟩ := r2.get hd
    have := (hx vs (Same.seq s hB)).symm.trans e
    cases this
    have := (hy ws (Same.seq s hB2)).symm.trans e2
    cases this
    exact rep_pair sF nT (rv.mono s0) (rv2.mono s0)
theorem Itp.zipT {a b : Addr} {vs ws : List V} {ps qs : List PV} (hB : SqT K B a vs) (hB2 : SqT K B b ws) (r : Reps G K F0 vs ps) (r2 : Reps G K F0 ws qs) (hl : ps.length ≤ sizeLine) : Itp G K (RZ.ItzT K a b) B F0 (zipP ps qs) where
  len := by rw [zipP_len]; omega
  go i H s hi := by
    rw [zipP_len] at hi
    obtain ⟨v, e, _⟩ := r.get (List.getElem?_eq_getElem (show i < ps.length by omega))
    obtain ⟨v2, e2, _⟩ := r2.get (List.getElem?_eq_getElem (show i < qs.length by omega))
    exact ⟨vs, ws, v, v2, Same.sqt s hB, Same.sqt s hB2, e, e2⟩
  stop H s := ⟨vs, ws, Same.sqt s hB, Same.sqt s hB2, by rw [zipP_len, r.length, r2.length]; omega⟩
  yld i x H H' F p s s0 sF hy hp := by
    obtain ⟨T, x', y', rfl, nT, rfl, hx, hy⟩ := hy
    obtain ⟨c, d, hc, hd, rfl⟩ := zipP_get hp
    obtain ⟨v, e, rv⟩ := r.get hc
    obtain ⟨v2, e2, rv2⟩ := r2.get hd
    have := (hx vs (Same.sqt s hB)).symm.trans e
    cases this
    have := (hy ws (Same.sqt s hB2)).symm.trans e2
    cases this
    exact rep_pair sF nT (rv.mono s0) (rv2.mono s0)
theorem Itp.sub {J : It} {B' : Hp} {ps : List PV} (h : Itp G K J B F0 ps) (s : Same B B') : Itp G K J B' F0 ps :=
  ⟨h.len, fun i H s' => h.go i H (s.trans s'), fun H s' => h.stop H (s.trans s'), fun i x H H' F p s' => h.yld i x H H' F p (s.trans s')⟩

theorem pi_weak {t t' : TI} (h : PI X tg e t) (w : ∀ σ H R, t' σ H R → t σ H R) : PI X tg e t' := ⟨fun pins s σ H Q I q => h.run pins s σ H Q I (w σ H Q q)⟩
def itemsOf : PV → Option (List PV)
  | .lst xs => some xs
  | .tup xs => some xs
  | .str z => if z.length ≤ sizeLine then some (signsP z) else none
  | _ => none
def iSeq (f : LE → Res PV) : LE → Res (List PV) := fun τ => f τ >>= fun p => up (itemsOf p)
theorem i_seq {f : LE → Res PV} (h : PE X e (tE G X.K .sh E κ f)) : PI X tg e (tI G X.K true E κ (iSeq f)) := pi_weak (pi_any h) fun σ H R ⟨F, τ, l, q⟩ => by
  refine ⟨F, τ, l, ?_⟩
  unfold iSeq at q
  cases hf : f τ with
  | exc c ps => rw [hf] at q; exact q
  | bad => rw [hf] at q; exact q
  | ok p =>
    rw [hf, Res.ok_bind] at q
    intro v F1 H1 e1 r1
    cases p with
    | lst xs =>
      obtain ⟨a, vs, rfl, hS, rr⟩ := Rep.lst_inv r1
      exact .inl ⟨a, vs, rfl, .inl (Same.rd e1.sub hS), fun hl => q _ F1 H1 e1 (Itp.list (.inl hS) rr hl)⟩
    | tup xs =>
      obtain ⟨a, vs, rfl, hS, rr⟩ := Rep.tup_inv r1
      exact .inr (.inl ⟨a, vs, rfl, Same.sqt e1.sub hS, fun hl => q _ F1 H1 e1 (Itp.tup hS rr hl)⟩)
    | str z =>
      obtain rfl := Rep.str_inv r1
      unfold itemsOf at q
      by_cases hl : z.length ≤ sizeLine
      · simp only [if_pos hl, up_some] at q
        exact .inr (.inr ⟨z, rfl, q _ F1 H1 e1 (Itp.str hl)⟩)
      · simp only [if_neg hl, up_none] at q
    | _ => exact q.elim
/-- a list that a slot owns: for a comprehension -/
theorem i_own {f : LE → Res PV} (h : PE X e (tE G X.K .top E κ f)) : PI X tg e (tI G X.K false E κ (iSeq f)) := pi_weak (pi_any h) fun σ H R ⟨F, τ, l, q⟩ => by
  refine ⟨F, τ, l, ?_⟩
  unfold iSeq at q
  cases hf : f τ with
  | exc c ps => rw [hf] at q; exact q
  | bad => rw [hf] at q; exact q
  | ok p =>
    rw [hf, Res.ok_bind] at q
    intro v F1 H1 e1 r1
    cases p with
    | lst xs =>
      obtain ⟨a, vs, rfl, hS, rr⟩ := Top.lst_inv e1.sub r1
      exact .inl ⟨a, vs, rfl, .inl hS, fun hl => q _ F1 H1 e1 (Itp.list (.inl hS) rr hl)⟩
    | tup xs =>
      obtain ⟨a, vs, rfl, hS, rr⟩ := Top.tup_inv e1.sub r1
      exact .inr (.inl ⟨a, vs, rfl, hS, fun hl => q _ F1 H1 e1 (Itp.tup hS rr hl)⟩)
    | str z =>
      obtain rfl := Top.str_inv r1
      unfold itemsOf at q
      by_cases hl : z.length ≤ sizeLine
      · simp only [if_pos hl, up_some] at q
        exact .inr (.inr ⟨z, rfl, q _ F1 H1 e1 (Itp.str hl)⟩)
      · simp only [if_neg hl, up_none] at q
    | _ => exact q.elim
theorem i_loose {f : LE → Res (List PV)} (h : PI X tg e (tI G K true E κ f)) : PI X tg e (tI G K false E κ f) := pi_weak h fun σ H R ⟨F, τ, l, q⟩ => by
  refine ⟨F, τ, l, ?_⟩
  cases hf : f τ with
  | exc c ps => rw [hf] at q; exact q
  | bad => rw [hf] at q; exact q
  | ok ps => rw [hf] at q; exact fun J F' H' e1 i1 => q J F' H' e1 (by simpa using Itp.sub (by simpa using i1) e1.sub)
def iFn (g : List PV → Option (List PV)) (f : LE → Res (List PV)) : LE → Res (List PV) := fun τ => f τ >>= fun ps => up (g ps)
/-- a walk over what is reckoned from arguments -/
def IfV (r : List V → Hp → (It → Hp → Prop) → Prop) (G : Nat → Addr) (K : PySem.W.Frag) (g : List PV → Option (List PV)) : Prop := ∀ (F H : Hp) (xs : List V) (ps zs : List PV) (R : It → Hp → Prop), Same F H → Reps G K F xs ps → g ps = some zs →
  (∀ J, Itp G K J F F zs → R J H) → r xs H R
theorem w_ifn {r : List V → Hp → (It → Hp → Prop) → Prop} {g : List PV → Option (List PV)} {f : LE → Res (List PV)} (hg : IfV r G K g) {R : It → Hp → Prop} (h : tI G K true E κ (iFn g f) σ H R) : tA G K .sh E κ f σ H fun vs H1 => r vs H1 R := by
  obtain ⟨F, τ, l, q⟩ := h
  refine ⟨F, τ, l, ?_⟩
  unfold iFn at q
  cases hf : f τ with
  | exc c ps => rw [hf] at q; exact q
  | bad => rw [hf] at q; exact q
  | ok ps =>
    rw [hf, Res.ok_bind] at q
    intro vs F1 H1 e1 r1
    cases hz : g ps with
    | none => rw [hz] at q; exact q.elim
    | some zs =>
      rw [hz] at q
      exact hg F1 H1 vs ps zs R e1.sub r1.shared hz fun J i1 => q J F1 H1 e1 (by simpa using i1)
theorem Reps.one {q : PV} {xs : List V} (h : Reps G K F xs [q]) : ∃ v, xs = [v] ∧ Rep G K F v q := by
  cases h with
  | cons r rs => cases rs; exact ⟨_, rfl, r⟩
theorem Reps.two {q q' : PV} {xs : List V} (h : Reps G K F xs [q, q']) : ∃ v w, xs = [v, w] ∧ Rep G K F v q ∧ Rep G K F w q' := by
  cases h with
  | cons r rs =>
    cases rs with
    | cons r' rs => cases rs; exact ⟨_, _, rfl, r, r'⟩
theorem Reps.three {q q' q'' : PV} {xs : List V} (h : Reps G K F xs [q, q', q'']) : ∃ v w u, xs = [v, w, u] ∧ Rep G K F v q ∧ Rep G K F w q' ∧ Rep G K F u q'' := by
  cases h with
  | cons r rs =>
    cases rs with
    | cons r' rs =>
      cases rs with
      | cons r'' rs => cases rs; exact ⟨_, _, _, rfl, r, r', r''⟩
/-- lo, lo + c, ..: n of them -/
def rngP (lo : Int) (n : Nat) : List PV := (List.range n).map fun i => .int (lo + (i : Nat))
def rngC (lo c : Int) (n : Nat) : List PV := (List.range n).map fun i => .int (lo + (i : Nat) * c)
def pR1 : List PV → Option (List PV)
  | [.int j] => if -(2 ^ 62) ≤ j ∧ j ≤ 1000000 then some (rngP 0 j.toNat) else none
  | _ => none
def pR2 : List PV → Option (List PV)
  | [.int i, .int j] => if -(2 ^ 62) ≤ j ∧ j < 2 ^ 62 ∧ -(2 ^ 62) ≤ i ∧ i < 2 ^ 62 ∧ (j - i).toNat ≤ 1000000 then some (rngP i (j - i).toNat) else none
  | _ => none
instance {i j c : Int} {n : Nat} : Decidable (RgC i j c n) := by unfold RgC; infer_instance
def pR3 : List PV → Option (List PV)
  | [.int i, .int j, .int c] => if RgC i j c (Builtin.Range.rangeSize i j c).toNat ∧ (Builtin.Range.rangeSize i j c).toNat ≤ 1000000 then some (rngC i c (Builtin.Range.rangeSize i j c).toNat) else none
  | _ => none
theorem g_R1 : IfV (fun vs H1 R => ∃ j : Int, vs = [.int j] ∧ -(2 ^ 62) ≤ j ∧ j < 2 ^ 62 ∧ R (Itr 0 j.toNat) H1) G K pR1 := by
  intro F H xs ps zs R s r hz k
  unfold pR1 at hz
  split at hz
  · rename_i j
    split at hz
    · rename_i hj
      cases hz
      obtain ⟨v, rfl, rv⟩ := r.one
      obtain rfl := rv.int_inv
      exact ⟨j, rfl, hj.1, by omega, k _ (Itp.range (by rw [sizeLine_eq]; omega))⟩
    · cases hz
  · cases hz
theorem g_R2 : IfV (fun vs H1 R => ∃ i j : Int, vs = [.int i, .int j] ∧ (-(2 ^ 62) ≤ i ∧ i < 2 ^ 62 ∧ -(2 ^ 62) ≤ j ∧ j < 2 ^ 62) ∧ R (Itr i (j - i).toNat) H1) G K pR2 := by
  intro F H xs ps zs R s r hz k
  unfold pR2 at hz
  split at hz
  · rename_i i j
    split at hz
    · rename_i hj
      cases hz
      obtain ⟨v, w, rfl, rv, rw⟩ := r.two
      obtain rfl := rv.int_inv
      obtain rfl := rw.int_inv
      exact ⟨i, j, rfl, ⟨hj.2.2.1, hj.2.2.2.1, hj.1, hj.2.1⟩, k _ (Itp.range (by rw [sizeLine_eq]; omega))⟩
    · cases hz
  · cases hz
theorem g_R3 : IfV (fun vs H1 R => ∃ (i j c : Int) (n : Nat), vs = [.int i, .int j, .int c] ∧ RgC i j c n ∧ R (Itc i c n) H1) G K pR3 := by
  intro F H xs ps zs R s r hz k
  unfold pR3 at hz
  split at hz
  · rename_i i j c
    split at hz
    · rename_i hj
      cases hz
      obtain ⟨v, w, u, rfl, rv, rw, ru⟩ := r.three
      obtain rfl := rv.int_inv
      obtain rfl := rw.int_inv
      obtain rfl := ru.int_inv
      exact ⟨i, j, c, _, rfl, hj.1, k _ (Itp.rangeC (by rw [sizeLine_eq]; omega))⟩
    · cases hz
  · cases hz
variable {f : LE → Res (List PV)} {p' : Pos}
theorem i_range1 (hm : X.mg "range" = none) (ha : PA X [a] (tA G K .sh E κ f)) (hg : Gl X "range" := by rfl) (hs : starEach [a] X.env = [(false, eval a X.env)] := by rfl) :
    PI X tg (.Call (.Name "range" p') [a] [] pos) (tI G K true E κ (iFn pR1 f)) := pi_weak (pi_range1 hg hm ha hs) fun _ _ _ h => w_ifn g_R1 h
theorem i_range2 (hm : X.mg "range" = none) (ha : PA X [a, b] (tA G K .sh E κ f)) (hg : Gl X "range" := by rfl) (hs : starEach [a, b] X.env = [(false, eval a X.env), (false, eval b X.env)] := by rfl) (hs2 : starEach [b] X.env = [(false, eval b X.env)] := by rfl) :
    PI X tg (.Call (.Name "range" p') [a, b] [] pos) (tI G K true E κ (iFn pR2 f)) := pi_weak (pi_range2 hg hm ha hs hs2) fun _ _ _ h => w_ifn g_R2 h
theorem i_range3 {c : Expr} (hm : X.mg "range" = none) (ha : PA X [a, b, c] (tA G K .sh E κ f)) (hg : Gl X "range" := by rfl)
    (hs : starEach [a, b, c] X.env = (false, eval a X.env) :: starEach [b, c] X.env := by rfl) (hpl : (backTo pos (starEach [b, c] X.env)).any (·.1) = false := by rfl) :
    PI X tg (.Call (.Name "range" p') [a, b, c] [] pos) (tI G K true E κ (iFn pR3 f)) := pi_weak (pi_range3 hg hm ha hs hpl) fun _ _ _ h => w_ifn g_R3 h
end
section
variable {G : Nat → Addr} {X : Cx} {κ : Kd} {E : St → XK} {a b : Expr} {pos p' tpos : Pos} {f : LE → Res (List PV)} {elts : List Expr} {kk : Nat}
/-! enumerate, zip: the bound is asked -/
def pEnum : List PV → Option (List PV)
  | [.lst xs] => if xs.length ≤ 1000000 then some (enumP xs) else none
  | [.tup xs] => if xs.length ≤ 1000000 then some (enumP xs) else none
  | _ => none
theorem g_enum {K : PySem.W.Frag} : IfV (fun vs H1 R => ∃ a xs, vs = [.ref a] ∧ ((SqL K H1 a xs ∧ R (Ite K a) H1) ∨ (SqT K H1 a xs ∧ R (IteT K a) H1))) G K pEnum := by
  intro F H xs ps zs R s r hz k
  unfold pEnum at hz
  split at hz
  · split at hz
    · rename_i hl
      cases hz
      obtain ⟨v, rfl, rv⟩ := r.one
      obtain ⟨a, vs, rfl, hS, rr⟩ := rv.lst_inv
      exact ⟨a, vs, rfl, .inl ⟨.inl (Same.rd s hS), k _ (Itp.enum (.inl hS) rr (by rw [rr.length, sizeLine_eq]; omega))⟩⟩
    · cases hz
  · split at hz
    · rename_i hl
      cases hz
      obtain ⟨v, rfl, rv⟩ := r.one
      obtain ⟨a, vs, rfl, hS, rr⟩ := rv.tup_inv
      exact ⟨a, vs, rfl, .inr ⟨Same.sqt s hS, k _ (Itp.enumT hS rr (by rw [rr.length, sizeLine_eq]; omega))⟩⟩
    · cases hz
  · cases hz
def pZip : List PV → Option (List PV)
  | [.lst xs, .lst ys] => if xs.length ≤ 1000000 then some (zipP xs ys) else none
  | [.tup xs, .tup ys] => if xs.length ≤ 1000000 then some (zipP xs ys) else none
  | _ => none
theorem g_zip {K : PySem.W.Frag} : IfV (fun vs H1 R => ∃ a b xs ys, vs = [.ref a, .ref b] ∧ ((SqL K H1 a xs ∧ SqL K H1 b ys ∧ R (Itz K a b) H1) ∨ (SqT K H1 a xs ∧ SqT K H1 b ys ∧ R (RZ.ItzT K a b) H1))) G K pZip := by
  intro F H xs ps zs R s r hz k
  unfold pZip at hz
  split at hz
  · split at hz
    · rename_i hl
      cases hz
      obtain ⟨v, w, rfl, rv, rw'⟩ := r.two
      obtain ⟨a, vs, rfl, hS, rr⟩ := rv.lst_inv
      obtain ⟨b, ws, rfl, hS2, rr2⟩ := rw'.lst_inv
      exact ⟨a, b, vs, ws, rfl, .inl ⟨.inl (Same.rd s hS), .inl (Same.rd s hS2), k _ (Itp.zip (.inl hS) (.inl hS2) rr rr2 (by rw [sizeLine_eq]; omega))⟩⟩
    · cases hz
  · split at hz
    · rename_i hl
      cases hz
      obtain ⟨v, w, rfl, rv, rw'⟩ := r.two
      obtain ⟨a, vs, rfl, hS, rr⟩ := rv.tup_inv
      obtain ⟨b, ws, rfl, hS2, rr2⟩ := rw'.tup_inv
      exact ⟨a, b, vs, ws, rfl, .inr ⟨Same.sqt s hS, Same.sqt s hS2, k _ (Itp.zipT hS hS2 rr rr2 (by rw [sizeLine_eq]; omega))⟩⟩
    · cases hz
  · cases hz
theorem i_zip (hm : X.mg "zip" = none) (ha : PA X [a, b] (tA G X.K .sh E κ f)) (hg : Gl X "zip" := by rfl) (hs : starEach [a, b] X.env = (false, eval a X.env) :: starEach [b] X.env := by rfl) (hpl : (backTo pos (starEach [b] X.env)).any (·.1) = false := by rfl) :
    PI X (.Tuple elts kk tpos) (.Call (.Name "zip" p') [a, b] [] pos) (tI G X.K true E κ (iFn pZip f)) := pi_weak (RZ.pi_zipA hg hm ha hs hpl) fun _ _ _ h => w_ifn g_zip h
theorem i_enum (hm : X.mg "enumerate" = none) (ha : PA X [a] (tA G X.K .sh E κ f)) (hg : Gl X "enumerate" := by rfl) (hs : starEach [a] X.env = [(false, eval a X.env)] := by rfl) :
    PI X (.Tuple elts kk tpos) (.Call (.Name "enumerate" p') [a] [] pos) (tI G X.K true E κ (iFn pEnum f)) := pi_weak (pi_enumT hg hm ha hs) fun _ _ _ h => w_ifn g_enum h
end
end Lp
end
section
set_option Elab.async false
set_option linter.all false
set_option maxRecDepth 100000
namespace Lp
open PySem PySem.Spec L2

/-- an error may not leave from here -/
def Res.nx {α : Type} : Res α → Res α
  | .ok a => .ok a
  | .exc _ _ => .bad
  | .bad => .bad
@[simp] theorem Res.nx_ok {α : Type} (a : α) : (Res.ok a).nx = .ok a := (rfl)
@[simp] theorem Res.nx_exc {α : Type} (c fs) : (Res.exc c fs : Res α).nx = .bad := (rfl)
@[simp] theorem Res.nx_bad {α : Type} : (Res.bad : Res α).nx = .bad := (rfl)
theorem Res.nx_inv {α : Type} {x : Res α} {a : α} (h : x.nx = .ok a) : x = .ok a := by
  cases x with
  | ok b => exact h
  | exc c fs => cases h
  | bad => cases h
theorem Res.bind_ok {α β : Type} {x : Res α} {f : α → Res β} {b : β} (h : (x >>= f) = .ok b) : ∃ a, x = .ok a ∧ f a = .ok b := by
  cases x with
  | ok a => exact ⟨a, rfl, h⟩
  | exc c fs => cases h
  | bad => cases h
def tYesM : LE → Res Bool := fun _ => .ok true
def compL (tgt : PV → LE → Res LE) (cond : LE → Res Bool) (elt : LE → Res PV) (τ : LE) : List PV → Res (List PV)
  | [] => .ok []
  | p :: ps => (tgt p τ).nx >>= fun τ1 => (cond τ1).nx >>= fun b =>
    if b = true then (elt τ1).nx >>= fun q => compL tgt cond elt τ ps >>= fun r => .ok (q :: r) else compL tgt cond elt τ ps
def wipeL (τ : LE) : List Nat → LE
  | [] => τ
  | v :: vs => (wipeL τ vs).set v none
def eComp (own : List Nat) (it : LE → Res (List PV)) (tgt : PV → LE → Res LE) (cond : LE → Res Bool) (elt : LE → Res PV) : LE → Res PV := fun τ => it τ >>= fun ps => (compL tgt cond elt (wipeL τ own) ps).nx >>= fun rs => .ok (.lst rs)
def compL2 (tgt : PV → LE → Res LE) (cond : LE → Res Bool) (it1 : LE → Res (List PV)) (own1 : List Nat) (tgt1 : PV → LE → Res LE) (cond1 : LE → Res Bool) (elt : LE → Res PV) (τ : LE) : List PV → Res (List PV)
  | [] => .ok []
  | p :: ps => (tgt p τ).nx >>= fun τ1 => (cond τ1).nx >>= fun b =>
    if b = true then (it1 τ1).nx >>= fun qs => compL tgt1 cond1 elt (wipeL τ1 own1) qs >>= fun r1 => compL2 tgt cond it1 own1 tgt1 cond1 elt τ ps >>= fun r => .ok (r1 ++ r) else compL2 tgt cond it1 own1 tgt1 cond1 elt τ ps
def eComp2 (own : List Nat) (it : LE → Res (List PV)) (tgt : PV → LE → Res LE) (cond : LE → Res Bool) (it1 : LE → Res (List PV)) (own1 : List Nat) (tgt1 : PV → LE → Res LE) (cond1 : LE → Res Bool) (elt : LE → Res PV) : LE → Res PV :=
  fun τ => it τ >>= fun ps => (compL2 tgt cond it1 own1 tgt1 cond1 elt (wipeL τ own) ps).nx >>= fun rs => if rs.length ≤ 1000000 then .ok (.lst rs) else .bad

section
variable {G : Nat → Addr} {K : PySem.W.Frag} {F H F' H' F0 H0 B : Hp} {X : Cx} {v x y : V} {p : PV} {κ : Kd} {E : St → XK} {m md : Mode} {e a b tg iter elt : Expr} {es : List Expr} {pos : Pos} {σ : St} {τ : LE}
theorem wipeL_length : ∀ vs : List Nat, (wipeL τ vs).length = τ.length
  | [] => rfl
  | v :: vs => by unfold wipeL; rw [List.length_set]; exact wipeL_length vs
theorem wipeL_some {i : Nat} {p : PV} : ∀ {vs : List Nat}, (wipeL τ vs)[i]? = some (some p) → τ[i]? = some (some p) ∧ i ∉ vs
  | [], h => ⟨h, by simp⟩
  | v :: vs, h => by
    unfold wipeL at h
    by_cases hv : v = i
    · subst hv
      rw [List.getElem?_set] at h
      simp only [if_true] at h
      split at h <;> cases h
    · rw [List.getElem?_set_ne hv] at h
      obtain ⟨h1, h2⟩ := wipeL_some h
      exact ⟨h1, by simp [Ne.symm hv, h2]⟩
theorem Lc.wipe (l : Lc G K κ F H σ τ) (vs : List Nat) : Lc G K κ F H (wipe σ vs) (wipeL τ vs) := by
  refine ⟨l.sub, by rw [wipe_length, wipeL_length]; exact l.len, fun j q h1 h2 => ?_, fun j q h1 h2 => ?_, fun j1 j2 q1 q2 a h1 h2 h3 h4 h5 h6 => ?_⟩
  · obtain ⟨h3, h4⟩ := wipeL_some h1
    rw [wipe_out h4]
    exact l.sh j q h3 h2
  · obtain ⟨h3, h4⟩ := wipeL_some h1
    rw [wipe_out h4]
    exact l.ow j q h3 h2
  · obtain ⟨k3, m3⟩ := wipeL_some h3
    obtain ⟨k4, m4⟩ := wipeL_some h4
    rw [wipe_out m3] at h5
    rw [wipe_out m4] at h6
    exact l.ap j1 j2 q1 q2 a h1 h2 k3 k4 h5 h6
theorem wipe_mem {i : Nat} : ∀ {vs : List Nat}, i ∈ vs → (wipe σ vs)[i]? = if i < σ.length then some none else none
  | v :: vs, h => by
    unfold wipe
    by_cases hv : v = i
    · subst hv
      rw [List.getElem?_set]
      simp only [if_true, wipe_length]
    · rw [List.getElem?_set_ne hv]
      exact wipe_mem ((List.mem_cons.mp h).resolve_left fun z => hv z.symm)
theorem wipe_same {σ' : St} {vs ws : List Nat} (hw : ∀ j ∈ ws, j ∈ vs) (hl : σ'.length = σ.length) (h : ∀ j, j ∉ ws → σ'[j]? = σ[j]?) : wipe σ' vs = wipe σ vs := by
  refine List.ext_getElem? fun j => ?_
  by_cases hj : j ∈ vs
  · rw [wipe_mem hj, wipe_mem hj, hl]
  · rw [wipe_out hj, wipe_out hj]
    exact h j fun z => hj (hw j z)
theorem wipe_wipe {vs : List Nat} : wipe (wipe σ vs) vs = wipe σ vs := by
  refine List.ext_getElem? fun j => ?_
  by_cases hj : j ∈ vs
  · rw [wipe_mem hj, wipe_mem hj, wipe_length]
  · rw [wipe_out hj, wipe_out hj]
theorem Lc.len2 {τ' : LE} {σ' : St} (l : Lc G K κ F H σ τ) (l' : Lc G K κ F' H' σ' τ') (e : τ'.length = τ.length) : σ'.length = σ.length := by rw [l.len, l'.len, e]
abbrev EN : St → XK := fun _ => E0
/-- what a target leaves as it is -/
structure GOk (κ : Kd) (ws : List Nat) (g : PV → LE → Res LE) : Prop where
  len : ∀ p τ τ', g p τ = .ok τ' → τ'.length = τ.length
  keep : ∀ p τ τ', g p τ = .ok τ' → ∀ j, j ∉ ws → τ'[j]? = τ[j]?
  un : ∀ j ∈ ws, κ j = false
structure GOks (κ : Kd) (ws : List Nat) (g : List PV → LE → Res LE) : Prop where
  len : ∀ p τ τ', g p τ = .ok τ' → τ'.length = τ.length
  keep : ∀ p τ τ', g p τ = .ok τ' → ∀ j, j ∉ ws → τ'[j]? = τ[j]?
  un : ∀ j ∈ ws, κ j = false

theorem compL_len {tgt : PV → LE → Res LE} {cond : LE → Res Bool} {elt : LE → Res PV} : ∀ {ps rs : List PV}, compL tgt cond elt τ ps = .ok rs → rs.length ≤ ps.length
  | [], rs, h => by rw [compL] at h; cases h; exact Nat.le_refl _
  | p :: ps, rs, h => by
    rw [compL] at h
    obtain ⟨τ1, _, h⟩ := Res.bind_ok h
    obtain ⟨b, _, h⟩ := Res.bind_ok h
    cases b with
    | true =>
      rw [if_pos rfl] at h
      obtain ⟨q, _, h⟩ := Res.bind_ok h
      obtain ⟨r, h1, h⟩ := Res.bind_ok h
      cases h
      have := compL_len h1
      simp; exact this
    | false =>
      rw [if_neg (by decide)] at h
      have := compL_len h
      simp; omega
/-! ### the turns of a list comprehension -/
/-- the list that grows stands at D -/
structure Grow (F1 H1 : Hp) (D : Addr) (done : List PV) (F H : Hp) : Prop where
  ext : Ext F1 H1 F H
  nd : F D = none
  at_ : ∃ vs, H D = some (.lst vs) ∧ Reps G K F vs done
theorem Grow.ext2 {F1 H1 F2 H2 : Hp} {D : Addr} {done : List PV} (g : Grow (G := G) (K := K) F1 H1 D done F H) (e : Ext F H F2 H2) : Grow (G := G) (K := K) F1 H1 D done F2 H2 := by
  obtain ⟨vs, h, r⟩ := g.at_
  exact ⟨g.ext.trans e, e.apart g.nd h, vs, e.h _ _ h, Reps.mono e.f r⟩
theorem Grow.push {F1 H1 : Hp} {D : Addr} {done : List PV} {vs : List V} (g : Grow (G := G) (K := K) F1 H1 D done F H) (hD : H1 D = none) (h : H D = some (.lst vs)) (rv : Rep G K F v p) :
    Grow (G := G) (K := K) F1 H1 D (done ++ [p]) F (upd H D (.lst (vs ++ [v]))) := by
  obtain ⟨vs', h', r⟩ := g.at_
  rw [h] at h'
  cases h'
  exact ⟨⟨g.ext.f, same_updR g.ext.h hD, same_updR g.ext.sub g.nd, g.ext.new⟩, g.nd, _, upd_same, Reps.snoc r rv⟩

/-- one turn's end: the item is evaluated and appended -/
theorem elt_turn {te : LE → Res PV} {F1 H1 : Hp} {D : Addr} {done : List PV} {q : PV} {Nx : Hp → Prop} (g : Grow (G := G) (K := K) F1 H1 D done F H) (hD : H1 D = none) (hl : done.length < sizeLine) (l : Lc G K κ F H σ τ) (hq : te τ = .ok q)
    (k : ∀ F' H', Grow (G := G) (K := K) F1 H1 D (done ++ [q]) F' H' → Nx H') : tE G K .sh EN κ te σ H fun y H4 => ∃ acc, H4 D = some (.lst acc) ∧ acc.length < sizeLine ∧ Nx (upd H4 D (.lst (acc ++ [y]))) := by
  refine ⟨F, τ, l, ?_⟩
  rw [hq]
  intro v F2 H2 e2 r2
  have g2 := g.ext2 e2
  obtain ⟨vs, h, r⟩ := g2.at_
  exact ⟨vs, h, by rw [r.length]; exact hl, k _ _ (g2.push hD h r2)⟩

/-- behind i turns -/
def LcN (G : Nat → Addr) (K : PySem.W.Frag) (F1 H1 : Hp) (D : Addr) (f : List PV → Res (List PV)) (rs ps : List PV) (pre : List PV) (i : Nat) (H : Hp) : Prop :=
  ∃ F done rest, Grow (G := G) (K := K) F1 H1 D (pre ++ done) F H ∧ f (ps.drop i) = .ok rest ∧ rs = done ++ rest
theorem w_lc {own ws : List Nat} {wi : LE → Res (List PV)} {tgt : PV → LE → Res LE} {cond : LE → Res Bool} {te : LE → Res PV} {Q : VK} (hw : ∀ j ∈ ws, j ∈ own) (hl : GOk κ ws tgt)
    (h : tE G K .fr E κ (eComp own wi tgt cond te) σ H Q) : tLc (tI G K false E κ wi) (tG G K ws EN κ tgt) (tT G K EN κ cond) (tE G K .sh EN κ te) own σ H Q := by
  obtain ⟨F, τ, l, q⟩ := h
  refine ⟨F, τ, l, ?_⟩
  unfold eComp at q
  cases hwi : wi τ with
  | exc c ps => rw [hwi] at q; exact q
  | bad => rw [hwi] at q; exact q
  | ok ps =>
    rw [hwi, Res.ok_bind] at q
    intro J F1 H1 e1 i1 D hD
    simp only [Bool.false_eq_true, if_false] at i1
    cases hc : (compL tgt cond te (wipeL τ own) ps).nx with
    | exc c fs => cases hx : compL tgt cond te (wipeL τ own) ps <;> rw [hx] at hc <;> cases hc
    | bad => rw [hc] at q; exact q.elim
    | ok rs =>
      rw [hc, Res.ok_bind] at q
      have hc := Res.nx_inv hc
      have hlen : ∀ (d r : List PV), rs = d ++ r → d.length ≤ ps.length := fun d r e => by
        have h1 := compL_len hc
        have h2 := congrArg List.length e
        rw [List.length_append] at h2
        omega
      refine ⟨fun i m H => m = ps.length - i ∧ i ≤ ps.length ∧ LcN G K F1 H1 D (compL tgt cond te (wipeL τ own)) rs ps [] i H,
        ⟨ps.length, by simp, Nat.zero_le _, F1, [], rs, ?_, by simpa using hc, by simp⟩, ?_⟩
      · exact ⟨⟨Same.refl _, same_new hD, same_updR e1.sub (Same.free e1.sub hD), fun a h1 h2 => absurd h1 h2⟩, Same.free e1.sub hD, [], upd_same, .nil⟩
      · rintro i m H2 ⟨rfl, hi, F2, done, rest, g, hcr, hrs⟩
        by_cases hlt : i < ps.length
        · refine .inr ⟨i1.go i H2 g.ext.h hlt, LcN G K F1 H1 D (compL tgt cond te (wipeL τ own)) rs ps [] (i + 1), fun H' n => ⟨ps.length - (i + 1), by omega, rfl, hlt, n⟩, fun x H3 hy => ?_⟩
          have hp : ps[i]? = some ps[i] := List.getElem?_eq_getElem hlt
          obtain ⟨F3, e3, r3⟩ := i1.yld i x H2 H3 F2 _ g.ext.h g.ext.f g.ext.sub hy hp
          have g3 := g.ext2 e3
          have l3 : Lc G K κ F3 H3 (wipe σ own) (wipeL τ own) := ((l.ext e1).ext g3.ext).wipe own
          rw [List.drop_eq_getElem_cons hlt, compL] at hcr
          obtain ⟨τ1, ht, hcr⟩ := Res.bind_ok hcr
          obtain ⟨bb, hb, hcr⟩ := Res.bind_ok hcr
          have ht := Res.nx_inv ht
          have hb := Res.nx_inv hb
          refine ⟨F3, wipeL τ own, ps[i], l3, r3, ?_⟩
          rw [ht]
          intro σ' l4 k4
          refine ⟨?_, ?_⟩
          · have e := wipe_same (σ := wipe σ own) hw (Lc.len2 l3 l4 (hl.len _ _ _ ht)) k4
            rw [e, wipe_wipe]
          · refine ⟨F3, τ1, l4, ?_⟩
            rw [hb]
            intro F4 H4 e4
            have g4 := g3.ext2 e4
            cases bb with
            | true =>
              rw [if_pos rfl] at hcr ⊢
              obtain ⟨q0, hq0, hcr⟩ := Res.bind_ok hcr
              obtain ⟨r', hr', hcr⟩ := Res.bind_ok hcr
              cases hcr
              have hd := hlen (done ++ [q0]) r' (by rw [hrs]; simp)
              rw [List.length_append, List.length_singleton] at hd
              exact elt_turn g4 hD (by have := i1.len; simp; omega) (l4.ext e4) (Res.nx_inv hq0) fun F' H' g' => ⟨F', done ++ [q0], r', by simpa using g', hr', by rw [hrs]; simp⟩
            | false =>
              rw [if_neg (by decide)] at hcr ⊢
              exact ⟨F4, done, rest, g4, hcr, hrs⟩
        · have e : i = ps.length := by omega
          subst e
          rw [List.drop_length, compL] at hcr
          cases hcr
          refine .inl ⟨i1.stop H2 g.ext.h, ?_⟩
          rw [List.append_nil] at hrs
          subst hrs
          exact q _ F2 H2 (e1.trans g.ext) ⟨D, rfl, Same.free e1.h hD, g.nd, g.at_⟩

theorem ts_nil : PTs X [] (tT G K E κ tYesM) := ⟨fun pins s σ H Q I ⟨F, τ, l, q⟩ => pts_nil.run pins s σ H Q I (q F H (Ext.refl l.sub))⟩
theorem ts_one {c : Expr} {t : LE → Res Bool} (h : PT X c (tT G K E κ t)) : PTs X [c] (tT G K E κ t) := pts_one h
theorem gok_name {i : Nat} (k : κ i = false := by rfl) : GOk κ [i] (gNm i) where
  len p τ τ' h := by
    unfold gNm at h
    split at h
    · cases h; rw [List.length_set]
    · cases h
  keep p τ τ' h j hj := by
    unfold gNm at h
    split at h
    · cases h; exact List.getElem?_set_ne fun e => hj (by simp [e])
    · cases h
  un j hj := by rw [List.mem_singleton] at hj; rw [hj]; exact k
theorem goks_nil : GOks κ [] gsN where
  len ps τ τ' h := by
    unfold gsN at h
    split at h
    · cases h; rfl
    · cases h
  keep ps τ τ' h j _ := by
    unfold gsN at h
    split at h
    · cases h; rfl
    · cases h
  un j hj := by cases hj
theorem goks_cons {ws1 ws2 : List Nat} {g : PV → LE → Res LE} {gs : List PV → LE → Res LE} (h1 : GOk κ ws1 g) (h2 : GOks κ ws2 gs) : GOks κ (ws1 ++ ws2) (gsC g gs) where
  len ps τ τ' h := by
    unfold gsC at h
    split at h
    · cases h
    · obtain ⟨τ1, a, b⟩ := Res.bind_ok h
      rw [h2.len _ _ _ b, h1.len _ _ _ a]
  keep ps τ τ' h j hj := by
    rw [List.mem_append, not_or] at hj
    unfold gsC at h
    split at h
    · cases h
    · obtain ⟨τ1, a, b⟩ := Res.bind_ok h
      rw [h2.keep _ _ _ b j hj.2, h1.keep _ _ _ a j hj.1]
  un j hj := by
    rcases List.mem_append.mp hj with h | h
    · exact h1.un j h
    · exact h2.un j h
theorem gok_tup {ws : List Nat} {gs : List PV → LE → Res LE} {n : Nat} (h1 : GOks κ ws gs) : GOk κ ws (gTp gs n) where
  len p τ τ' h := by
    unfold gTp at h
    split at h
    · split at h
      · exact h1.len _ _ _ h
      · cases h
    · cases h
  keep p τ τ' h j hj := by
    unfold gTp at h
    split at h
    · split at h
      · exact h1.keep _ _ _ h j hj
      · cases h
    · cases h
  un := h1.un

/-- [elt for tg in iter if ..] -/
theorem v_lc {ifs : List Expr} {scope : Scope} {own : List (Str × Nat)} {ws : List Nat} {wi : LE → Res (List PV)} {tgt : PV → LE → Res LE} {cond : LE → Res Bool} {te : LE → Res PV} (hc : X.calm = true) (hN : X.N.Nodup)
    (hi : PI X tg iter (tI G X.K false E κ wi)) (ok : BlkOk X.N X.env.scope scope own)
    (hg : ∀ (s : Shared) (H : Hp) (C : Addr) (cl : List (Str × Addr)) (fp : List Addr), PG (X.blk s H scope (compEnvC scope cl C X.env) fp) tg (tG G X.K ws EN κ tgt))
    (ht : ∀ (s : Shared) (H : Hp) (C : Addr) (cl : List (Str × Addr)) (fp : List Addr), PTs (X.blk s H scope (compEnvC scope cl C X.env) fp) ifs (tT G X.K EN κ cond))
    (he : ∀ (s : Shared) (H : Hp) (C : Addr) (cl : List (Str × Addr)) (fp : List Addr), PE (X.blk s H scope (compEnvC scope cl C X.env) fp) elt (tE G X.K .sh EN κ te))
    (hw : ∀ j ∈ ws, j ∈ own.map (·.2)) (hl : GOk κ ws tgt) (hs : ∀ x, foldedSetIterable iter X.env x = pure x := by intro _; rfl) :
    PE X (.ListComp elt [⟨tg, iter, ifs, 0⟩] scope pos) (tE G X.K .fr E κ (eComp (own.map (·.2)) wi tgt cond te)) :=
  pe_weak (pe_lc hc hN hi ok hg ht he hs) fun _ _ _ h => w_lc hw hl h

/-! ### two clauses -/
theorem del_upd {H : Hp} {D : Addr} {o : HO} : del (upd H D o) D = del H D := by
  funext b
  unfold del upd
  by_cases h : b = D <;> simp [h]
theorem del_none {H : Hp} {D : Addr} (h : H D = none) : del H D = H := by
  funext b
  unfold del
  by_cases hb : b = D
  · subst hb; rw [if_pos rfl, h]
  · rw [if_neg hb]
theorem Ext.del {D : Addr} (e : Ext F H F' H') (h1 : F D = none) (h2 : F' D = none) : Ext F (del H D) F' (del H' D) := by
  have s : ∀ {A B : Hp}, Same A B → A D = none → Same A (L2.del B D) := fun {A B} s hA b o hb => by
    have : b ≠ D := fun z => by subst z; rw [hA] at hb; cases hb
    unfold L2.del
    rw [if_neg this]
    exact s b o hb
  refine ⟨e.f, fun b o hb => ?_, s e.sub h2, fun a q1 q2 => ?_⟩
  · unfold L2.del at hb ⊢
    by_cases z : b = D
    · rw [if_pos z] at hb; cases hb
    · rw [if_neg z] at hb ⊢; exact e.h b o hb
  · unfold L2.del
    by_cases z : a = D
    · rw [if_pos z]
    · rw [if_neg z]; exact e.new a q1 q2
theorem Lc.undel {D : Addr} (l : Lc G K κ F (del H D) σ τ) (s : Same F H) : Lc G K κ F H σ τ :=
  ⟨s, l.len, l.sh, fun i p h1 h2 => by
    obtain ⟨a, e1, hF, o⟩ := l.ow i p h1 h2
    obtain ⟨ob, ho⟩ := o.some
    have hne : a ≠ D := fun z => by rw [z, del_same] at ho; cases ho
    exact ⟨a, e1, hF, o.mono (Same.refl _) (del_ne hne).symm⟩, l.ap⟩
/-- the slots behind a target, D left out -/
theorem Lc.redel {D : Addr} {ws : List Nat} {σ' : St} {τ' : LE} (l : Lc G K κ F (del H D) σ τ) (l' : Lc G K κ F H σ' τ') (hun : ∀ j ∈ ws, κ j = false) (hk : ∀ j, j ∉ ws → τ'[j]? = τ[j]?) (hs : ∀ j, j ∉ ws → σ'[j]? = σ[j]?) (nd : F D = none) : Lc G K κ F (del H D) σ' τ' :=
  ⟨l.sub, l'.len, l'.sh, fun i p h1 h2 => by
    have hi : i ∉ ws := fun z => by rw [hun i z] at h2; cases h2
    obtain ⟨a, e1, hF, o⟩ := l.ow i p (by rw [← hk i hi]; exact h1) h2
    exact ⟨a, by rw [hs i hi]; exact e1, hF, o⟩, l'.ap⟩

theorem compL_inner {own1 ws1 : List Nat} {tgt1 : PV → LE → Res LE} {cond1 : LE → Res Bool} {te : LE → Res PV} {wi1 : LE → Res (List PV)} {F1 H1 : Hp} {D : Addr} {done qs r1 : List PV} {Nx : Hp → Prop} (hw : ∀ j ∈ ws1, j ∈ own1) (hl : GOk κ ws1 tgt1)
    (hD : H1 D = none) (g : Grow (G := G) (K := K) F1 H1 D done F H) (l : Lc G K κ F (del H D) σ τ) (hwi : wi1 τ = .ok qs) (hc : compL tgt1 cond1 te (wipeL τ own1) qs = .ok r1) (hz : done.length + r1.length ≤ 1000000)
    (k : ∀ F' H', Grow (G := G) (K := K) F1 H1 D (done ++ r1) F' H' → Nx H') :
    tI G K true EN κ wi1 σ H fun J1 H4 => ∃ W1 : Nat → Nat → Hp → Prop, (∃ m, W1 0 m H4) ∧ ∀ j k H, W1 j k H →
      (J1.stop j H ∧ Nx H) ∨ (J1.go j H ∧ ∃ Nx1 : Hp → Prop, (∀ H', Nx1 H' → ∃ k', k' < k ∧ W1 (j + 1) k' H') ∧ ∀ x H', J1.yld j H x H' → tG G K ws1 EN κ tgt1 x (wipe σ own1) H' fun σ3 H5 => wipe σ3 own1 = wipe σ own1 ∧ tT G K EN κ cond1 σ3 H5 fun b H6 =>
        if b = true then tE G K .sh EN κ te σ3 H6 fun y H7 => ∃ acc, H7 D = some (.lst acc) ∧ acc.length < sizeLine ∧ Nx1 (upd H7 D (.lst (acc ++ [y]))) else Nx1 H6) := by
  refine ⟨F, τ, l.undel g.ext.sub, ?_⟩
  rw [hwi]
  intro J Fa Ha ea i1
  rw [if_pos rfl] at i1
  have ga := g.ext2 ea
  have la := l.ext (ea.del g.nd ga.nd)
  refine ⟨fun i m H => m = qs.length - i ∧ i ≤ qs.length ∧ ∃ F2 dn rest, Grow (G := G) (K := K) F1 H1 D (done ++ dn) F2 H ∧ Same Fa F2 ∧ Lc G K κ F2 (del H D) σ τ ∧ compL tgt1 cond1 te (wipeL τ own1) (qs.drop i) = .ok rest ∧ r1 = dn ++ rest,
    ⟨qs.length, by simp, Nat.zero_le _, Fa, [], r1, by simpa using ga, Same.refl _, la, by simpa using hc, by simp⟩, ?_⟩
  rintro i m H2 ⟨rfl, hi, F2, dn, rest, g2, s2, l2, hcr, hrs⟩
  have sB : Same Fa H2 := s2.trans g2.ext.sub
  by_cases hlt : i < qs.length
  · refine .inr ⟨i1.go i H2 sB hlt, fun H => ∃ F2 dn rest, Grow (G := G) (K := K) F1 H1 D (done ++ dn) F2 H ∧ Same Fa F2 ∧ Lc G K κ F2 (del H D) σ τ ∧ compL tgt1 cond1 te (wipeL τ own1) (qs.drop (i + 1)) = .ok rest ∧ r1 = dn ++ rest, fun H' n => ⟨qs.length - (i + 1), by omega, rfl, hlt, n⟩, fun x H3 hy => ?_⟩
    have hp : qs[i]? = some qs[i] := List.getElem?_eq_getElem hlt
    obtain ⟨F3, e3, r3⟩ := i1.yld i x H2 H3 F2 _ sB s2 g2.ext.sub hy hp
    have g3 := g2.ext2 e3
    have l3 := l2.ext (e3.del g2.nd g3.nd)
    have l3w : Lc G K κ F3 H3 (wipe σ own1) (wipeL τ own1) := (l3.undel g3.ext.sub).wipe own1
    rw [List.drop_eq_getElem_cons hlt, compL] at hcr
    obtain ⟨τ1, ht, hcr⟩ := Res.bind_ok hcr
    obtain ⟨bb, hb, hcr⟩ := Res.bind_ok hcr
    have ht := Res.nx_inv ht
    have hb := Res.nx_inv hb
    refine ⟨F3, wipeL τ own1, qs[i], l3w, r3, ?_⟩
    rw [ht]
    intro σ' l4 k4
    refine ⟨?_, ?_⟩
    · have e := wipe_same (σ := wipe σ own1) hw (Lc.len2 l3w l4 (hl.len _ _ _ ht)) k4
      rw [e, wipe_wipe]
    · refine ⟨F3, τ1, l4, ?_⟩
      rw [hb]
      intro F4 H4 e4
      have g4 := g3.ext2 e4
      have l4d := l3.ext (e4.del g3.nd g4.nd)
      cases bb with
      | true =>
        rw [if_pos rfl] at hcr ⊢
        obtain ⟨q0, hq0, hcr⟩ := Res.bind_ok hcr
        obtain ⟨r', hr', hcr⟩ := Res.bind_ok hcr
        cases hcr
        have hdn : done.length + dn.length < 1000000 := by
          have := congrArg List.length hrs
          rw [List.length_append, List.length_cons] at this
          omega
        refine ⟨F4, τ1, l4.ext e4, ?_⟩
        rw [Res.nx_inv hq0]
        intro v F5 H5 e5 r5
        have g5 := g4.ext2 e5
        obtain ⟨vs, h, r⟩ := g5.at_
        refine ⟨vs, h, by rw [r.length, List.length_append, sizeLine_eq]; omega, F5, dn ++ [q0], r', by rw [← List.append_assoc]; exact g5.push hD h r5, ((s2.trans e3.f).trans e4.f).trans e5.f, ?_, hr', by rw [hrs]; simp⟩
        rw [del_upd]
        exact l4d.ext (e5.del g4.nd g5.nd)
      | false =>
        rw [if_neg (by decide)] at hcr ⊢
        exact ⟨F4, dn, rest, g4, (s2.trans e3.f).trans e4.f, l4d, hcr, hrs⟩
  · have e : i = qs.length := by omega
    subst e
    rw [List.drop_length, compL] at hcr
    cases hcr
    rw [List.append_nil] at hrs
    subst hrs
    exact .inl ⟨i1.stop H2 sB, k F2 H2 g2⟩

theorem w_lc2 {own own1 ws ws1 : List Nat} {wi wi1 : LE → Res (List PV)} {tgt tgt1 : PV → LE → Res LE} {cond cond1 : LE → Res Bool} {te : LE → Res PV} {Q : VK} (hw : ∀ j ∈ ws, j ∈ own) (hl : GOk κ ws tgt) (hw1 : ∀ j ∈ ws1, j ∈ own1) (hl1 : GOk κ ws1 tgt1)
    (h : tE G K .fr E κ (eComp2 own wi tgt cond wi1 own1 tgt1 cond1 te) σ H Q) : tLc2 (tI G K false E κ wi) (tG G K ws EN κ tgt) (tT G K EN κ cond) (tI G K true EN κ wi1) (tG G K ws1 EN κ tgt1) (tT G K EN κ cond1) (tE G K .sh EN κ te) own own1 σ H Q := by
  obtain ⟨F, τ, l, q⟩ := h
  refine ⟨F, τ, l, ?_⟩
  unfold eComp2 at q
  cases hwi : wi τ with
  | exc c ps => rw [hwi] at q; exact q
  | bad => rw [hwi] at q; exact q
  | ok ps =>
    rw [hwi, Res.ok_bind] at q
    intro J F1 H1 e1 i1 D hD
    simp only [Bool.false_eq_true, if_false] at i1
    cases hc : (compL2 tgt cond wi1 own1 tgt1 cond1 te (wipeL τ own) ps).nx with
    | exc c fs => cases hx : compL2 tgt cond wi1 own1 tgt1 cond1 te (wipeL τ own) ps <;> rw [hx] at hc <;> cases hc
    | bad => rw [hc] at q; exact q.elim
    | ok rs =>
      rw [hc, Res.ok_bind] at q
      have hc := Res.nx_inv hc
      by_cases hz : rs.length ≤ 1000000
      case neg => rw [if_neg hz] at q; exact q.elim
      rw [if_pos hz] at q
      refine ⟨fun i m H => m = ps.length - i ∧ i ≤ ps.length ∧ LcN G K F1 H1 D (compL2 tgt cond wi1 own1 tgt1 cond1 te (wipeL τ own)) rs ps [] i H ,
        ⟨ps.length, by simp, Nat.zero_le _, F1, [], rs, ?_, by simpa using hc, by simp⟩, ?_⟩
      · exact ⟨⟨Same.refl _, same_new hD, same_updR e1.sub (Same.free e1.sub hD), fun a h1 h2 => absurd h1 h2⟩, Same.free e1.sub hD, [], upd_same, .nil⟩
      · rintro i m H2 ⟨rfl, hi, F2, done, rest, g, hcr, hrs⟩
        by_cases hlt : i < ps.length
        · refine .inr ⟨i1.go i H2 g.ext.h hlt, LcN G K F1 H1 D (compL2 tgt cond wi1 own1 tgt1 cond1 te (wipeL τ own)) rs ps [] (i + 1), fun H' n => ⟨ps.length - (i + 1), by omega, rfl, hlt, n⟩, fun x H3 hy => ?_⟩
          have hp : ps[i]? = some ps[i] := List.getElem?_eq_getElem hlt
          obtain ⟨F3, e3, r3⟩ := i1.yld i x H2 H3 F2 _ g.ext.h g.ext.f g.ext.sub hy hp
          have g3 := g.ext2 e3
          have b1 : F1 D = none := Same.free e1.sub hD
          have ed : Ext F1 H1 F3 (del H3 D) := by
            have := g3.ext.del b1 g3.nd
            rw [del_none hD] at this
            exact this
          have l3 : Lc G K κ F3 H3 (wipe σ own) (wipeL τ own) := ((l.ext e1).ext g3.ext).wipe own
          have l3d : Lc G K κ F3 (del H3 D) (wipe σ own) (wipeL τ own) := ((l.ext e1).ext ed).wipe own
          rw [List.drop_eq_getElem_cons hlt, compL2] at hcr
          obtain ⟨τ1, ht, hcr⟩ := Res.bind_ok hcr
          obtain ⟨bb, hb, hcr⟩ := Res.bind_ok hcr
          have ht := Res.nx_inv ht
          have hb := Res.nx_inv hb
          refine ⟨F3, wipeL τ own, ps[i], l3, r3, ?_⟩
          rw [ht]
          intro σ' l4 k4
          refine ⟨?_, ?_⟩
          · have e := wipe_same (σ := wipe σ own) hw (Lc.len2 l3 l4 (hl.len _ _ _ ht)) k4
            rw [e, wipe_wipe]
          · refine ⟨F3, τ1, l4, ?_⟩
            rw [hb]
            intro F4 H4 e4
            have g4 := g3.ext2 e4
            have l4d : Lc G K κ F4 (del H4 D) σ' τ1 := (l3d.redel l4 hl.un (hl.keep _ _ _ ht) k4 g3.nd).ext (e4.del g3.nd g4.nd)
            cases bb with
            | true =>
              rw [if_pos rfl] at hcr ⊢
              obtain ⟨qs, hq0, hcr⟩ := Res.bind_ok hcr
              obtain ⟨r1, hr1, hcr⟩ := Res.bind_ok hcr
              obtain ⟨r', hr', hcr⟩ := Res.bind_ok hcr
              cases hcr
              have hlen := congrArg List.length hrs
              rw [List.length_append, List.length_append] at hlen
              exact compL_inner hw1 hl1 hD g4 l4d (Res.nx_inv hq0) hr1 (by simp; omega) fun F' H' g' => ⟨F', done ++ r1, r', by simpa using g', hr', by rw [hrs]; simp⟩
            | false =>
              rw [if_neg (by decide)] at hcr ⊢
              exact ⟨F4, done, rest, g4, hcr, hrs⟩
        · have e : i = ps.length := by omega
          subst e
          rw [List.drop_length, compL2] at hcr
          cases hcr
          refine .inl ⟨i1.stop H2 g.ext.h, ?_⟩
          rw [List.append_nil] at hrs
          subst hrs
          exact q _ F2 H2 (e1.trans g.ext) ⟨D, rfl, Same.free e1.h hD, g.nd, g.at_⟩
/-- [elt for tg in iter if .. for tg1 in iter1 if ..] -/
theorem v_lc2 {tg1 iter1 : Expr} {ifs ifs1 : List Expr} {scope : Scope} {own : List (Str × Nat)} {own1 ws ws1 : List Nat} {wi wi1 : LE → Res (List PV)} {tgt tgt1 : PV → LE → Res LE} {cond cond1 : LE → Res Bool} {te : LE → Res PV} (hc : X.calm = true) (hN : X.N.Nodup)
    (hi : PI X tg iter (tI G X.K false E κ wi)) (ok : BlkOk X.N X.env.scope scope own) (hv : ∀ i ∈ own1, i ∈ own.map (·.2))
    (hg : ∀ (s : Shared) (H : Hp) (C : Addr) (cl : List (Str × Addr)) (fp : List Addr), PG (X.blk s H scope (compEnvC scope cl C X.env) fp) tg (tG G X.K ws EN κ tgt))
    (ht : ∀ (s : Shared) (H : Hp) (C : Addr) (cl : List (Str × Addr)) (fp : List Addr), PTs (X.blk s H scope (compEnvC scope cl C X.env) fp) ifs (tT G X.K EN κ cond))
    (hi1 : ∀ (s : Shared) (H : Hp) (C : Addr) (cl : List (Str × Addr)) (fp : List Addr), PI (X.blk s H scope (compEnvC scope cl C X.env) fp) tg1 iter1 (tI G X.K true EN κ wi1))
    (hg1 : ∀ (s : Shared) (H : Hp) (C : Addr) (cl : List (Str × Addr)) (fp : List Addr), PG (X.blk s H scope (compEnvC scope cl C X.env) fp) tg1 (tG G X.K ws1 EN κ tgt1))
    (ht1 : ∀ (s : Shared) (H : Hp) (C : Addr) (cl : List (Str × Addr)) (fp : List Addr), PTs (X.blk s H scope (compEnvC scope cl C X.env) fp) ifs1 (tT G X.K EN κ cond1))
    (he : ∀ (s : Shared) (H : Hp) (C : Addr) (cl : List (Str × Addr)) (fp : List Addr), PE (X.blk s H scope (compEnvC scope cl C X.env) fp) elt (tE G X.K .sh EN κ te))
    (hw : ∀ j ∈ ws, j ∈ own.map (·.2)) (hl : GOk κ ws tgt) (hw1 : ∀ j ∈ ws1, j ∈ own1) (hl1 : GOk κ ws1 tgt1) (hs : ∀ x, foldedSetIterable iter X.env x = pure x := by intro _; rfl) (hs1 : ∀ env x, foldedSetIterable iter1 env x = pure x := by intro _ _; rfl) :
    PE X (.ListComp elt [⟨tg, iter, ifs, 0⟩, ⟨tg1, iter1, ifs1, 0⟩] scope pos) (tE G X.K .fr E κ (eComp2 (own.map (·.2)) wi tgt cond wi1 own1 tgt1 cond1 te)) :=
  pe_weak (pe_lc2 hc hN hi ok hv hg ht hi1 hg1 ht1 he hs hs1) fun _ _ _ h => w_lc2 hw hl hw1 hl1 h
end
end Lp
end
section
set_option Elab.async false
set_option linter.all false
set_option maxRecDepth 100000
namespace Lp
open PySem PySem.Spec L2

def keyP : PV → Option Key
  | .int i => some (.inl i)
  | .str x => some (.inr x)
  | _ => none
def valP (kvs : List (Key × PV)) (k : Key) : Option PV := (kvs.find? fun kv => decide (kv.1 = k)).map (·.2)
def hasP (kvs : List (Key × PV)) (k : Key) : Bool := kvs.any fun kv => decide (kv.1 = k)
def setP (kvs : List (Key × PV)) (k : Key) (v : PV) : List (Key × PV) := if hasP kvs k then kvs.map fun kv => if kv.1 = k then (kv.1, v) else kv else kvs ++ [(k, v)]
def dropP (kvs : List (Key × PV)) (k : Key) : List (Key × PV) := kvs.filter fun kv => decide (kv.1 ≠ k)
section
variable {G : Nat → Addr} {K : PySem.W.Frag} {F H F' H' F0 H0 B : Hp} {X : Cx} {v x y : V} {p : PV} {κ : Kd} {E : St → XK} {m md : Mode} {e a b tg iter elt : Expr} {es : List Expr} {pos : Pos} {σ : St} {τ : LE}
theorem keyP_rep {k : Key} (r : Rep G K F v p) (h : keyP p = some k) : v = kV k := by
  unfold keyP at h
  split at h
  · cases h; exact r.int_inv
  · cases h; exact r.str_inv
  · cases h
theorem kV_rep : ∀ k : Key, Rep G K F (kV k) (match k with | .inl i => .int i | .inr x => .str x)
  | .inl i => .int i
  | .inr x => .str x
theorem RepK.val {k : Key} : ∀ {kvs : List (Key × V)} {ps : List (Key × PV)}, RepK G K F kvs ps → (valV kvs k = none ∧ valP ps k = none) ∨ ∃ v p, valV kvs k = some v ∧ valP ps k = some p ∧ Rep G K F v p
  | _, _, .nil => .inl ⟨rfl, rfl⟩
  | _, _, .cons (k := j) r rs => by
    by_cases h : j = k
    · subst h
      refine .inr ⟨_, _, ?_, ?_, r⟩
      · exact valV_pos rfl
      · unfold valP; simp
    · rcases RepK.val rs with ⟨h1, h2⟩ | ⟨v, p, h1, h2, h3⟩
      · refine .inl ⟨(valV_neg h).trans h1, ?_⟩
        unfold valP at h2 ⊢
        simp only [List.find?_cons, h, decide_false]
        exact h2
      · refine .inr ⟨v, p, (valV_neg h).trans h1, ?_, h3⟩
        unfold valP at h2 ⊢
        simp only [List.find?_cons, h, decide_false]
        exact h2
theorem hasP_val (kvs : List (Key × PV)) (k : Key) : hasP kvs k = (valP kvs k).isSome := by
  unfold hasP valP
  induction kvs with
  | nil => rfl
  | cons kv r ih =>
    rw [List.any_cons, List.find?_cons]
    by_cases h : kv.1 = k
    · simp [h]
    · simp only [h, decide_false, Bool.false_or]; exact ih
theorem RepK.any {k : Key} : ∀ {kvs : List (Key × V)} {ps : List (Key × PV)}, RepK G K F kvs ps → (kvs.any fun kv => decide (kv.1 = k)) = hasP ps k
  | _, _, .nil => rfl
  | _, _, .cons r rs => by
    unfold hasP
    rw [List.any_cons, List.any_cons, RepK.any rs]
    rfl
theorem RepK.append : ∀ {a b : List (Key × V)} {c d : List (Key × PV)}, RepK G K F a c → RepK G K F b d → RepK G K F (a ++ b) (c ++ d)
  | _, _, _, _, .nil, s => s
  | _, _, _, _, .cons r rs, s => .cons r (RepK.append rs s)
theorem RepK.mapSet {k : Key} (r : Rep G K F v p) : ∀ {kvs : List (Key × V)} {ps : List (Key × PV)}, RepK G K F kvs ps → RepK G K F (kvs.map fun kv => if kv.1 = k then (kv.1, v) else kv) (ps.map fun kv => if kv.1 = k then (kv.1, p) else kv)
  | _, _, .nil => .nil
  | _, _, .cons (k := j) q rs => by
    rw [List.map_cons, List.map_cons]
    by_cases h : j = k
    · simp only [h, if_true]; exact .cons r (RepK.mapSet r rs)
    · simp only [h, if_false]; exact .cons q (RepK.mapSet r rs)
theorem RepK.set {k : Key} {kvs : List (Key × V)} {ps : List (Key × PV)} (h : RepK G K F kvs ps) (r : Rep G K F v p) : RepK G K F (putK kvs k v) (setP ps k p) := by
  unfold putK setP
  rw [h.any]
  by_cases hh : hasP ps k = true
  · rw [if_pos hh, if_pos hh]; exact RepK.mapSet r h
  · rw [if_neg hh, if_neg hh]; exact RepK.append h (.cons r .nil)
theorem RepK.drop {k : Key} : ∀ {kvs : List (Key × V)} {ps : List (Key × PV)}, RepK G K F kvs ps → RepK G K F (dropK kvs k) (dropP ps k)
  | _, _, .nil => .nil
  | _, _, .cons (k := j) r rs => by
    unfold dropK dropP
    by_cases h : j = k
    · simp only [List.filter_cons, h, ne_eq, not_true, decide_false, Bool.false_eq_true, if_false]
      exact RepK.drop rs
    · simp only [List.filter_cons, h, ne_eq, not_false_eq_true, decide_true, if_true]
      exact .cons r (RepK.drop rs)

/-! ### d[k], k in d -/
def pDGet : PV → PV → Option PV
  | .dK kvs, q => (keyP q).bind (valP kvs)
  | _, _ => none
def pDIn (n : Bool) : PV → PV → Option PV
  | q, .dK kvs => (keyP q).map fun k => .bl (n ^^ hasP kvs k)
  | _, _ => none
variable {f f' : LE → Res PV}
theorem v_dget (hu : X.A.units + 1 < cLine) (ha : PE X a (tE G K .top E κ f)) (hb : PE X b (tE G K .sh E κ f')) (hs : NoSl b := by exact fun _ _ => rfl) : PE X (.Subscript a b pos) (tE G K .sh E κ (e2 pDGet f f')) :=
  pe_weak (pe_dget hu ha hb hs) fun σ H Q ⟨F, τ, l, q⟩ => by
    refine ⟨F, τ, l, ?_⟩
    unfold e2 at q
    cases hf : f τ with
    | exc c ps => rw [hf] at q; exact q
    | bad => rw [hf] at q; exact q
    | ok p =>
      rw [hf] at q
      intro v F1 H1 e1 r1
      refine ⟨F1, τ, l.ext e1, ?_⟩
      cases hf' : f' τ with
      | exc c ps => rw [Res.ok_bind, hf'] at q; exact ExcOk.ext q e1
      | bad => rw [Res.ok_bind, hf'] at q; exact q
      | ok p' =>
        rw [Res.ok_bind, hf', Res.ok_bind] at q
        intro v' F2 H2 e2 r2
        cases p with
        | dK kvs =>
          unfold pDGet at q
          cases hk : keyP p' with
          | none => simp only [hk, Option.bind_none, up_none] at q
          | some k =>
            simp only [hk, Option.bind_some] at q
            obtain ⟨d, kv, rfl, hd, rr⟩ := (Top.ext r1 e2).dK_inv e2.sub
            obtain rfl := keyP_rep r2 hk
            rcases rr.val (k := k) with ⟨h1, h2⟩ | ⟨w, p0, h1, h2, h3⟩
            · rw [h2] at q; exact q.elim
            · rw [h2] at q
              exact ⟨d, w, rfl, by rw [← h1]; exact DGet.k hd, q w F2 H2 (e1.trans e2) h3⟩
        | _ => exact q.elim
theorem w_din {n : Bool} {t : TE} {σ : St} {H : Hp} {Q : VK} (h : tE G K .sh E κ (e2 (pDIn n) f f') σ H Q) :
    tE G K .sh E κ f σ H fun y H1 => tE G K .top E κ f' σ H1 fun x H2 => ∃ a o, x = .ref a ∧ DGet H2 a y o ∧ Q (.bl (n ^^ o.isSome)) H2 := by
  obtain ⟨F, τ, l, q⟩ := h
  refine ⟨F, τ, l, ?_⟩
  unfold e2 at q
  cases hf : f τ with
  | exc c ps => rw [hf] at q; exact q
  | bad => rw [hf] at q; exact q
  | ok p =>
    rw [hf] at q
    intro v F1 H1 e1 r1
    refine ⟨F1, τ, l.ext e1, ?_⟩
    cases hf' : f' τ with
    | exc c ps => rw [Res.ok_bind, hf'] at q; exact ExcOk.ext q e1
    | bad => rw [Res.ok_bind, hf'] at q; exact q
    | ok p' =>
      rw [Res.ok_bind, hf', Res.ok_bind] at q
      intro v' F2 H2 e2 r2
      cases p' with
      | dK kvs =>
        unfold pDIn at q
        cases hk : keyP p with
        | none => simp only [hk, Option.map_none, up_none] at q
        | some k =>
          simp only [hk, Option.map_some, up_some] at q
          obtain ⟨d, kv, rfl, hd, rr⟩ := r2.dK_inv e2.sub
          obtain rfl := keyP_rep r1 hk
          refine ⟨d, _, rfl, DGet.k hd, ?_⟩
          have hh : (valV kv k).isSome = hasP kvs k := by
            rw [hasP_val]
            rcases rr.val (k := k) with ⟨h1, h2⟩ | ⟨w, p0, h1, h2, h3⟩
            · rw [h1, h2]; rfl
            · rw [h1, h2]; rfl
          rw [hh]
          exact q _ F2 H2 (e1.trans e2) (.bl _)
      | _ => unfold pDIn at q; exact q.elim
theorem v_din (hu : X.A.units + 1 < cLine) (ha : PE X a (tE G K .sh E κ f)) (hb : PE X b (tE G K .top E κ f')) (h1 : behindInMarks .In b = false := by first | rfl | with_unfolding_all rfl) : PE X (.Compare a [.In] [b] pos) (tE G K .sh E κ (e2 (pDIn false) f f')) :=
  pe_weak (pe_cmp (pc_din hu ha hb) h1) fun σ H Q h => by have q := w_din (t := tC .non) h; simp only [Bool.false_xor] at q; exact q
theorem v_dnin (hu : X.A.units + 1 < cLine) (ha : PE X a (tE G K .sh E κ f)) (hb : PE X b (tE G K .top E κ f')) (h1 : behindInMarks .NotIn b = false := by first | rfl | with_unfolding_all rfl) : PE X (.Compare a [.NotIn] [b] pos) (tE G K .sh E κ (e2 (pDIn true) f f')) :=
  pe_weak (pe_cmp (pc_dnotin hu ha hb) h1) fun σ H Q h => by have q := w_din (t := tC .non) h; simp only [Bool.true_xor] at q; exact q
theorem t_din (hu : X.A.units + 1 < cLine) (ha : PE X a (tE G K .sh E κ f)) (hb : PE X b (tE G K .top E κ f')) (h1 : behindInMarks .In b = false := by first | rfl | with_unfolding_all rfl) : PT X (.Compare a [.In] [b] pos) (tT G K E κ (tst (e2 (pDIn false) f f'))) :=
  pt_weak (pt_cmp (pc_din hu ha hb) h1) fun σ H Q q => w_tst (fun σ H Q h => by have q := w_din (t := tC .non) h; simp only [Bool.false_xor] at q; exact q) q
theorem t_dnin (hu : X.A.units + 1 < cLine) (ha : PE X a (tE G K .sh E κ f)) (hb : PE X b (tE G K .top E κ f')) (h1 : behindInMarks .NotIn b = false := by first | rfl | with_unfolding_all rfl) : PT X (.Compare a [.NotIn] [b] pos) (tT G K E κ (tst (e2 (pDIn true) f f'))) :=
  pt_weak (pt_cmp (pc_dnotin hu ha hb) h1) fun σ H Q q => w_tst (fun σ H Q h => by have q := w_din (t := tC .non) h; simp only [Bool.true_xor] at q; exact q) q
/-- {} -/
theorem v_dnew : PE X (.Dict [] [] pos) (tE G K .fr E κ (eC (.dK []))) := pe_weak pe_dnewK fun σ H Q ⟨F, τ, l, q⟩ p np =>
  q (.ref p) F _ (Ext.pushOwn _ (Ext.refl l.sub) np) ⟨p, rfl, np, Same.free l.sub np, [], upd_same, .nil⟩

/-! ### {k: v for ..} -/
def dcL (tgt : PV → LE → Res LE) (cond : LE → Res Bool) (ek ev : LE → Res PV) (τ : LE) : List (Key × PV) → List PV → Res (List (Key × PV))
  | acc, [] => .ok acc
  | acc, p :: ps => (tgt p τ).nx >>= fun τ1 => (cond τ1).nx >>= fun b =>
    if b = true then (ek τ1).nx >>= fun q => (ev τ1).nx >>= fun r => match keyP q with
      | some k => dcL tgt cond ek ev τ (setP acc k r) ps
      | none => .bad
    else dcL tgt cond ek ev τ acc ps
def eDComp (own : List Nat) (it : LE → Res (List PV)) (tgt : PV → LE → Res LE) (cond : LE → Res Bool) (ek ev : LE → Res PV) : LE → Res PV := fun τ => it τ >>= fun ps => (dcL tgt cond ek ev (wipeL τ own) [] ps).nx >>= fun rs => .ok (.dK rs)
theorem setP_len (kvs : List (Key × PV)) (k : Key) (v : PV) : (setP kvs k v).length ≤ kvs.length + 1 := by
  unfold setP
  split <;> simp
structure GrowD (G : Nat → Addr) (K : PySem.W.Frag) (F1 H1 : Hp) (D : Addr) (done : List (Key × PV)) (F H : Hp) : Prop where
  ext : Ext F1 H1 F H
  nd : F D = none
  at_ : ∃ vs, H D = some (.dK vs) ∧ RepK G K F vs done
theorem GrowD.ext2 {F1 H1 F2 H2 : Hp} {D : Addr} {done : List (Key × PV)} (g : GrowD G K F1 H1 D done F H) (e : Ext F H F2 H2) : GrowD G K F1 H1 D done F2 H2 := by
  obtain ⟨vs, h, r⟩ := g.at_
  exact ⟨g.ext.trans e, e.apart g.nd h, vs, e.h _ _ h, RepK.mono e.f r⟩
theorem w_dc {own ws : List Nat} {wi : LE → Res (List PV)} {tgt : PV → LE → Res LE} {cond : LE → Res Bool} {ek ev : LE → Res PV} {Q : VK} (hw : ∀ j ∈ ws, j ∈ own) (hl : GOk κ ws tgt)
    (h : tE G K .fr E κ (eDComp own wi tgt cond ek ev) σ H Q) : tDc (tI G K false E κ wi) (tG G K ws EN κ tgt) (tT G K EN κ cond) (tE G K .sh EN κ ek) (tE G K .sh EN κ ev) own σ H Q := by
  obtain ⟨F, τ, l, q⟩ := h
  refine ⟨F, τ, l, ?_⟩
  unfold eDComp at q
  cases hwi : wi τ with
  | exc c ps => rw [hwi] at q; exact q
  | bad => rw [hwi] at q; exact q
  | ok ps =>
    rw [hwi, Res.ok_bind] at q
    intro J F1 H1 e1 i1 D hD
    simp only [Bool.false_eq_true, if_false] at i1
    cases hc : (dcL tgt cond ek ev (wipeL τ own) [] ps).nx with
    | exc c fs => cases hx : dcL tgt cond ek ev (wipeL τ own) [] ps <;> rw [hx] at hc <;> cases hc
    | bad => rw [hc] at q; exact q.elim
    | ok rs =>
      rw [hc, Res.ok_bind] at q
      have hc := Res.nx_inv hc
      refine ⟨fun i m H => m = ps.length - i ∧ i ≤ ps.length ∧ ∃ F acc, GrowD G K F1 H1 D acc F H ∧ acc.length ≤ i ∧ dcL tgt cond ek ev (wipeL τ own) acc (ps.drop i) = .ok rs,
        ⟨ps.length, by simp, Nat.zero_le _, F1, [], ?_, Nat.le_refl _, by simpa using hc⟩, ?_⟩
      · exact ⟨⟨Same.refl _, same_new hD, same_updR e1.sub (Same.free e1.sub hD), fun a h1 h2 => absurd h1 h2⟩, Same.free e1.sub hD, [], upd_same, .nil⟩
      · rintro i m H2 ⟨rfl, hi, F2, acc, g, hal, hcr⟩
        by_cases hlt : i < ps.length
        · refine .inr ⟨i1.go i H2 g.ext.h hlt, fun H => ∃ F acc, GrowD G K F1 H1 D acc F H ∧ acc.length ≤ i + 1 ∧ dcL tgt cond ek ev (wipeL τ own) acc (ps.drop (i + 1)) = .ok rs, fun H' n => ⟨ps.length - (i + 1), by omega, rfl, hlt, n⟩, fun x H3 hy => ?_⟩
          have hp : ps[i]? = some ps[i] := List.getElem?_eq_getElem hlt
          obtain ⟨F3, e3, r3⟩ := i1.yld i x H2 H3 F2 _ g.ext.h g.ext.f g.ext.sub hy hp
          have g3 := g.ext2 e3
          have l3 : Lc G K κ F3 H3 (wipe σ own) (wipeL τ own) := ((l.ext e1).ext g3.ext).wipe own
          rw [List.drop_eq_getElem_cons hlt, dcL] at hcr
          obtain ⟨τ1, ht, hcr⟩ := Res.bind_ok hcr
          obtain ⟨bb, hb, hcr⟩ := Res.bind_ok hcr
          have ht := Res.nx_inv ht
          have hb := Res.nx_inv hb
          refine ⟨F3, wipeL τ own, ps[i], l3, r3, ?_⟩
          rw [ht]
          intro σ' l4 k4
          refine ⟨?_, ?_⟩
          · have e := wipe_same (σ := wipe σ own) hw (Lc.len2 l3 l4 (hl.len _ _ _ ht)) k4
            rw [e, wipe_wipe]
          · refine ⟨F3, τ1, l4, ?_⟩
            rw [hb]
            intro F4 H4 e4
            have g4 := g3.ext2 e4
            cases bb with
            | true =>
              rw [if_pos rfl] at hcr ⊢
              obtain ⟨q0, hq0, hcr⟩ := Res.bind_ok hcr
              obtain ⟨r0, hr0, hcr⟩ := Res.bind_ok hcr
              cases hk : keyP q0 with
              | none => rw [hk] at hcr; cases hcr
              | some k =>
                rw [hk] at hcr
                refine ⟨F4, τ1, l4.ext e4, ?_⟩
                rw [Res.nx_inv hq0]
                intro v5 F5 H5 e5 r5
                refine ⟨F5, τ1, (l4.ext e4).ext e5, ?_⟩
                rw [Res.nx_inv hr0]
                intro v6 F6 H6 e6 r6
                have g6 := (g4.ext2 e5).ext2 e6
                obtain ⟨vs, h, r⟩ := g6.at_
                have hvl : vs.length < sizeLine := by rw [r.length]; have := i1.len; omega
                refine ⟨vs, k, keyP_rep r5 hk, h, hvl, F6, setP acc k r0, ?_, ?_, hcr⟩
                · exact ⟨⟨g6.ext.f, same_updR g6.ext.h hD, same_updR g6.ext.sub g6.nd, g6.ext.new⟩, g6.nd, _, upd_same, RepK.set r r6⟩
                · have := setP_len acc k r0; omega
            | false =>
              rw [if_neg (by decide)] at hcr ⊢
              exact ⟨F4, acc, g4, by omega, hcr⟩
        · have e : i = ps.length := by omega
          subst e
          rw [List.drop_length, dcL] at hcr
          cases hcr
          exact .inl ⟨i1.stop H2 g.ext.h, q _ F2 H2 (e1.trans g.ext) ⟨D, rfl, Same.free e1.h hD, g.nd, g.at_⟩⟩
theorem v_dc {kx vx : Expr} {ifs : List Expr} {scope : Scope} {own : List (Str × Nat)} {ws : List Nat} {wi : LE → Res (List PV)} {tgt : PV → LE → Res LE} {cond : LE → Res Bool} {ek ev : LE → Res PV} (hc : X.calm = true) (hN : X.N.Nodup)
    (hi : PI X tg iter (tI G X.K false E κ wi)) (ok : BlkOk X.N X.env.scope scope own)
    (hg : ∀ (s : Shared) (H : Hp) (C : Addr) (cl : List (Str × Addr)) (fp : List Addr), PG (X.blk s H scope (compEnvC scope cl C X.env) fp) tg (tG G X.K ws EN κ tgt))
    (ht : ∀ (s : Shared) (H : Hp) (C : Addr) (cl : List (Str × Addr)) (fp : List Addr), PTs (X.blk s H scope (compEnvC scope cl C X.env) fp) ifs (tT G X.K EN κ cond))
    (hk : ∀ (s : Shared) (H : Hp) (C : Addr) (cl : List (Str × Addr)) (fp : List Addr), PE (X.blk s H scope (compEnvC scope cl C X.env) fp) kx (tE G X.K .sh EN κ ek))
    (he : ∀ (s : Shared) (H : Hp) (C : Addr) (cl : List (Str × Addr)) (fp : List Addr), PE (X.blk s H scope (compEnvC scope cl C X.env) fp) vx (tE G X.K .sh EN κ ev))
    (hw : ∀ j ∈ ws, j ∈ own.map (·.2)) (hl : GOk κ ws tgt) (hs : ∀ x, foldedSetIterable iter X.env x = pure x := by intro _; rfl) :
    PE X (.DictComp kx vx [⟨tg, iter, ifs, 0⟩] scope pos) (tE G X.K .fr E κ (eDComp (own.map (·.2)) wi tgt cond ek ev)) :=
  pe_weak (pe_dc hc hN hi ok hg ht hk he hs) fun _ _ _ h => w_dc hw hl h
end
end Lp
end
section
set_option Elab.async false
set_option linter.all false
set_option maxRecDepth 100000
namespace L2
open PySem PySem.Spec PyProof.Rows
/-- xs.remove(y) over flat values -/
def rRemV : V → List V → Hp → VK → Prop := fun x xs H Q => ∃ (l : Addr) (ys : List V) (y : V) (j : Nat) (z : V), x = V.ref l ∧ xs = [y] ∧ H l = some (.lst ys) ∧ flatV y = true ∧ ys.all flatV = true ∧ ys[j]? = some z ∧ eqV z y = true ∧
  (∀ (m : Nat) (z' : V), m < j → ys[m]? = some z' → eqV z' y = false) ∧ Q .non (upd H l (.lst (ys.eraseIdx j)))
theorem mt_removeV {X : Cx} : MtM X "list.remove" rRemV := by
  intro pins s σ H x xs v us Q I rx rxs h
  obtain ⟨a, ys, y, j, z, rfl, rfl, hs, fy, fys, hz, hzj, hno, q⟩ := h
  cases rx
  cases rxs with
  | cons ry rt =>
    rename_i uy ut
    cases rt
    obtain ⟨hz', its, n, rv, hvl, ho⟩ := I.lstM hs
    obtain ⟨u, hu, ru⟩ := rv.get hz
    obtain ⟨hjl, hje⟩ := List.getElem?_eq_some_iff.mp hu
    have hj : j < its.toArray.size := by simpa using hjl
    have hsl := sizeLine_eq
    refine call_meets PySem.F.slot_list_remove ⟨_, ho, rfl⟩ PySem.F.entry_list_remove (PySem.F.args_list_remove_2 _ _)
      (SeqAt.list_removeAt a its.toArray n none #[] uy (eqU y) j hj ?_ ?_ (by rw [List.size_toArray]; omega)) ⟨ho, fun u' hu' => mem_eqAt ry fy rv fys u' (by simpa using hu'), ?_⟩
    · have e1 : its.toArray[j] = u := by simpa using hje
      rw [e1, eqU_of ru (flat_at fys hz)]
      exact hzj
    · intro m hm hmj
      have hml : m < its.length := by simpa using hm
      have hmy : m < ys.length := by omega
      have hy' : ys[m]? = some ys[m] := List.getElem?_eq_getElem hmy
      obtain ⟨u2, hu2, ru2⟩ := rv.get hy'
      obtain ⟨_, hme⟩ := List.getElem?_eq_some_iff.mp hu2
      have e1 : its.toArray[m] = u2 := by simpa using hme
      rw [e1, eqU_of ru2 (flat_at fys hy')]
      exact hno m _ hmj hy'
    · have rr := rv.eraseIdx j
      refine ⟨.non, _, I.lset (its' := its.eraseIdx j) (t' := s.toks) hs ho ?_ rr ?_, rfl, q⟩
      · show its.toArray.eraseIdxIfInBounds j = (its.eraseIdx j).toArray
        rw [List.eraseIdxIfInBounds_toArray]
      · have z2 := len_erase ys j
        omega
end L2
namespace Lp
open PySem PySem.Spec L2

/-- how a statement ends -/
inductive Fl where
  | nx (τ : LE) | bk (τ : LE) | ct (τ : LE) | rt (p : PV) | ex (c : Nat) (fs : List (Str × PV)) (τ : LE) | bad
def rs {α : Type} (r : Res α) (τ : LE) (k : α → Fl) : Fl := match r with
  | .ok a => k a
  | .exc c fs => .ex c fs τ
  | .bad => .bad
@[simp] theorem rs_ok {α : Type} (a : α) (τ : LE) (k : α → Fl) : rs (.ok a) τ k = k a := (rfl)
@[simp] theorem rs_exc {α : Type} (c fs) (τ : LE) (k : α → Fl) : rs (.exc c fs) τ k = .ex c fs τ := (rfl)
@[simp] theorem rs_bad {α : Type} (τ : LE) (k : α → Fl) : rs .bad τ k = .bad := (rfl)

section
variable (G : Nat → Addr) (K : PySem.W.Frag)
/-- the state within a def: F0, H0 its entry -/
structure Ls (κ : Kd) (zs : Option Addr) (F0 H0 F H : Hp) (σ : St) (τ : LE) : Prop where
  lc : Lc G K κ F H σ τ
  ext : Ext F0 H0 F H
  new : ∀ i p a, κ i = true → τ[i]? = some (some p) → σ[i]? = some (some (.ref a)) → H0 a = none
  me : ∀ a, zs = some a → κ 0 = true ∧ σ[0]? = some (some (.ref a))
def tStm (E : St → XK) (κ : Kd) (rm : Mode) (m : LE → Fl) : TS := fun D σ H => ∃ F0 H0 F τ zs, Ls G K κ zs F0 H0 F H σ τ ∧ match m τ with
  | .nx τ' => ∀ σ' F' H', Ls G K κ zs F0 H0 F' H' σ' τ' → D.nx σ' H'
  | .bk τ' => ∀ σ' F' H', Ls G K κ zs F0 H0 F' H' σ' τ' → D.bk σ' H'
  | .ct τ' => ∀ σ' F' H', Ls G K κ zs F0 H0 F' H' σ' τ' → D.ct σ' H'
  | .rt p => ∀ v F' H', Ext F0 H0 F' H' → RM G K rm H0 F' H' v p → D.rt v H'
  | .ex c ps τ' => ∀ σ' F' H' d fs, Ls G K κ zs F0 H0 F' H' σ' τ' → F' d = some (.xd fs) → RepF G K F' fs ps → E σ' (.ref (G c)) (some d) H'
  | .bad => False
end
section
variable {G : Nat → Addr} {K : PySem.W.Frag} {F H F' H' F0 H0 B : Hp} {X : Cx} {v x y : V} {p : PV} {κ : Kd} {E : St → XK} {m md rm : Mode} {e a b tg iter elt : Expr} {es : List Expr} {pos : Pos} {zs : Option Addr} {σ : St} {τ : LE}
theorem Ls.of_ext (l : Ls G K κ zs F0 H0 F H σ τ) (e : Ext F H F' H') : Ls G K κ zs F0 H0 F' H' σ τ := ⟨l.lc.ext e, l.ext.trans e, l.new, l.me⟩
theorem Ls.exc {c : Nat} {ps : List (Str × PV)} (l : Ls G K κ zs F0 H0 F H σ τ) (q : ∀ σ' F' H' d fs, Ls G K κ zs F0 H0 F' H' σ' τ → F' d = some (.xd fs) → RepF G K F' fs ps → E σ' (.ref (G c)) (some d) H') : ExcOk G K (E σ) F H c ps :=
  fun d fs F' H' e h1 h2 => q σ F' H' d fs (l.of_ext e) h1 h2
/-! ### blocks -/
def sSeq (m1 m2 : LE → Fl) : LE → Fl := fun τ => match m1 τ with
  | .nx τ' => m2 τ'
  | r => r
def sNil : LE → Fl := fun τ => .nx τ
variable {st : Stmt} {sts : List Stmt} {m1 m2 : LE → Fl}
theorem ss_nil : PSs X [] (tStm G K E κ rm sNil) := pss_weak pss_nil fun D σ H ⟨F0, H0, F, τ, zs, l, q⟩ => q σ F H l
theorem ss_cons (h1 : PS X st (tStm G K E κ rm m1)) (h2 : PSs X sts (tStm G K E κ rm m2)) : PSs X (st :: sts) (tStm G K E κ rm (sSeq m1 m2)) := pss_weak (pss_cons h1 h2) fun D σ H ⟨F0, H0, F, τ, zs, l, q⟩ => by
  refine ⟨F0, H0, F, τ, zs, l, ?_⟩
  unfold sSeq at q
  cases h : m1 τ with
  | nx τ' => simp only [h] at q; exact fun σ' F' H' l' => ⟨F0, H0, F', τ', zs, l', q⟩
  | bk τ' => simp only [h] at q; exact q
  | ct τ' => simp only [h] at q; exact q
  | rt p => simp only [h] at q; exact q
  | ex c ps τ' => simp only [h] at q; exact q
  | bad => simp only [h] at q
theorem ss_one (h1 : PS X st (tStm G K E κ rm m1)) : PSs X [st] (tStm G K E κ rm m1) := pss_one h1
theorem s_pass : PS X (.Pass pos) (tStm G K E κ rm sNil) := ps_weak ps_pass fun D σ H ⟨F0, H0, F, τ, zs, l, q⟩ => q σ F H l
theorem s_break : PS X (.Break pos) (tStm G K E κ rm .bk) := ps_weak ps_break fun D σ H ⟨F0, H0, F, τ, zs, l, q⟩ => q σ F H l
theorem s_continue : PS X (.Continue pos) (tStm G K E κ rm .ct) := ps_weak ps_continue fun D σ H ⟨F0, H0, F, τ, zs, l, q⟩ => q σ F H l
/-! ### if -/
def sIf (t : LE → Res Bool) (m1 m2 : LE → Fl) : LE → Fl := fun τ => rs (t τ) τ fun b => if b = true then m1 τ else m2 τ
theorem s_if {c : Expr} {s1 s2 : List Stmt} {t : LE → Res Bool} (hc : PT X c (tT G K E κ t)) (h1 : PSs X s1 (tStm G K E κ rm m1)) (h2 : PSs X s2 (tStm G K E κ rm m2)) : PS X (.If c s1 s2 pos) (tStm G K E κ rm (sIf t m1 m2)) :=
  ps_weak (ps_if hc h1 h2) fun D σ H ⟨F0, H0, F, τ, zs, l, q⟩ => by
    refine ⟨F, τ, l.lc, ?_⟩
    unfold sIf at q
    cases h : t τ with
    | exc c ps => rw [h] at q; exact l.exc q
    | bad => rw [h] at q; exact q
    | ok b =>
      rw [h, rs_ok] at q
      intro F1 H1 e1
      cases b with
      | true => rw [if_pos rfl] at q ⊢; exact ⟨F0, H0, F1, τ, zs, l.of_ext e1, q⟩
      | false => rw [if_neg (by decide)] at q ⊢; exact ⟨F0, H0, F1, τ, zs, l.of_ext e1, q⟩
/-! ### return, an expression alone -/
def sRet (f : LE → Res PV) : LE → Fl := fun τ => rs (f τ) τ .rt
def sRetN : LE → Fl := fun _ => .rt .non
def sExpr (f : LE → Res PV) : LE → Fl := fun τ => rs (f τ) τ fun _ => .nx τ
variable {f f' : LE → Res PV}
theorem s_ret (h : PE X e (tE G K rm E κ f)) : PS X (.Return (some e) pos) (tStm G K E κ rm (sRet f)) := ps_weak (ps_ret h) fun D σ H ⟨F0, H0, F, τ, zs, l, q⟩ => by
  refine ⟨F, τ, l.lc, ?_⟩
  unfold sRet at q
  cases h : f τ with
  | exc c ps => rw [h] at q; exact l.exc q
  | bad => rw [h] at q; exact q
  | ok p => rw [h, rs_ok] at q; exact fun v F1 H1 e1 r1 => q v F1 H1 (l.ext.trans e1) (r1.before l.ext.h)
theorem s_retN : PS X (.Return none pos) (tStm G K E κ .sh sRetN) := ps_weak ps_retN fun D σ H ⟨F0, H0, F, τ, zs, l, q⟩ => q _ F H l.ext .non
/-- return of an owned slot: as a new object -/
theorem s_retO (i : Nat) {x : Str} {p' : Pos} (k : κ i = true := by rfl) (hN : X.N[i]? = some x := by rfl) (hv : Vis X.env.scope x := by first | exact Or.inl rfl | exact Or.inr (Or.inl rfl) | exact Or.inr (Or.inr rfl)) (hd : (x == ("__debug__" : Str)) = false := by decide)
    (hcd : (x == ("__classdict__" : Str)) = false := by decide) : PS X (.Return (some (.Name x p')) pos) (tStm G K E κ .fr (sRet (eVar i))) := ps_weak (ps_ret (pe_var hN hv hd hcd)) fun D σ H ⟨F0, H0, F, τ, zs, l, q⟩ => by
  unfold sRet eVar at q
  cases h : τ[i]? with
  | none => rw [h] at q; exact q.elim
  | some o =>
    cases o with
    | none => rw [h] at q; exact q.elim
    | some p =>
      rw [h] at q
      obtain ⟨a, e1, hF, r⟩ := l.lc.ow i p h k
      exact ⟨.ref a, e1, q _ F H l.ext ⟨a, rfl, l.new i p a k h e1, hF, r⟩⟩
/-- .. shared -/
theorem s_retF (i : Nat) {x : Str} {p' : Pos} (k : κ i = true := by rfl) (hN : X.N[i]? = some x := by rfl) (hv : Vis X.env.scope x := by first | exact Or.inl rfl | exact Or.inr (Or.inl rfl) | exact Or.inr (Or.inr rfl)) (hd : (x == ("__debug__" : Str)) = false := by decide)
    (hcd : (x == ("__classdict__" : Str)) = false := by decide) : PS X (.Return (some (.Name x p')) pos) (tStm G K E κ .sh (sRet (eVar i))) := ps_weak (ps_ret (pe_var hN hv hd hcd)) fun D σ H ⟨F0, H0, F, τ, zs, l, q⟩ => by
  unfold sRet eVar at q
  cases h : τ[i]? with
  | none => rw [h] at q; exact q.elim
  | some o =>
    cases o with
    | none => rw [h] at q; exact q.elim
    | some p =>
      rw [h] at q
      obtain ⟨a, e1, hF, r⟩ := l.lc.ow i p h k
      obtain ⟨F2, e2, r2⟩ := l.ext.freeze (l.new i p a k h e1) hF r
      exact ⟨.ref a, e1, q _ F2 H e2 r2⟩
theorem s_expr (h : PE X e (tE G K m E κ f)) (hs : swapsWith e none pos.line X.env = pure false := by rfl) : PS X (.Expr e pos) (tStm G K E κ rm (sExpr f)) := ps_weak (ps_expr h hs) fun D σ H ⟨F0, H0, F, τ, zs, l, q⟩ => by
  refine ⟨F, τ, l.lc, ?_⟩
  unfold sExpr at q
  cases h : f τ with
  | exc c ps => rw [h] at q; exact l.exc q
  | bad => rw [h] at q; exact q
  | ok p => rw [h, rs_ok] at q; exact fun v F1 H1 e1 _ => q σ F1 H1 (l.of_ext e1)
/-! ### name = value, target = value -/
def sSet (i : Nat) (f : LE → Res PV) : LE → Fl := fun τ => rs (f τ) τ fun p => if i < τ.length then .nx (τ.set i (some p)) else .bad
theorem Ls.set {i : Nat} (l : Ls G K κ zs F0 H0 F H σ τ) (k : κ i = false) (hi : i < τ.length) (r : Rep G K F v p) : Ls G K κ zs F0 H0 F H (σ.set i (some v)) (τ.set i (some p)) :=
  ⟨l.lc.set k hi r, l.ext, fun j q a h1 h2 h3 => by
    have hj : i ≠ j := fun e => by subst e; rw [k] at h1; cases h1
    rw [List.getElem?_set_ne hj] at h2 h3
    exact l.new j q a h1 h2 h3, fun a e => ⟨(l.me a e).1, by
    rw [List.getElem?_set_ne fun z => by rw [z] at k; rw [(l.me a e).1] at k; cases k]
    exact (l.me a e).2⟩⟩
theorem s_set (i : Nat) {x : Str} {pos' : Pos} (h : PE X e (tE G K .sh E κ f)) (hN : X.N.Nodup) (k : κ i = false := by rfl) (hi : X.N[i]? = some x := by rfl) (hx : Loc X.env.scope x := by first | exact .inl rfl | exact .inr rfl) (hs : swapsWith e (some (.Name x pos')) pos.line X.env = pure false := by rfl)
    (hf : X.fn x = true ∨ X.env.scope.names.lookup x = some .local := by first | exact .inl rfl | exact .inr rfl | assumption) : PS X (.Assign [.Name x pos'] e pos) (tStm G K E κ rm (sSet i f)) := ps_weak (ps_set hN hi hx h hs hf) fun D σ H ⟨F0, H0, F, τ, zs, l, q⟩ => by
  refine ⟨F, τ, l.lc, ?_⟩
  unfold sSet at q
  cases h : f τ with
  | exc c ps => rw [h] at q; exact l.exc q
  | bad => rw [h] at q; exact q
  | ok p =>
    rw [h, rs_ok] at q
    intro v F1 H1 e1 r1
    by_cases hl : i < τ.length
    · rw [if_pos hl] at q
      exact q _ F1 H1 ((l.of_ext e1).set k hl r1)
    · rw [if_neg hl] at q; exact q.elim
/-- a new object into an owned slot -/
theorem Ls.setO {i : Nat} (l : Ls G K κ zs F0 H0 F H σ τ) (e : Ext F H F' H') (k : κ i = true) (hi0 : i ≠ 0) (hi : i < τ.length) (r : Frs G K H F' H' v p) : Ls G K κ zs F0 H0 F' H' (σ.set i (some v)) (τ.set i (some p)) := by
  obtain ⟨a, rfl, h0, hF, o⟩ := r
  have l1 := l.of_ext e
  have old : ∀ j q b, κ j = true → τ[j]? = some (some q) → σ[j]? = some (some (.ref b)) → b ≠ a := fun j q b h1 h2 h3 z => by
    obtain ⟨b', e1, _, o'⟩ := l.lc.ow j q h2 h1
    rw [h3] at e1
    cases e1
    obtain ⟨ob, ho⟩ := o'.some
    rw [z, h0] at ho
    cases ho
  refine ⟨⟨l1.lc.sub, by rw [List.length_set, List.length_set]; exact l.lc.len, fun j q h1 h2 => ?_, fun j q h1 h2 => ?_, fun j1 j2 q1 q2 b h1 h2 h3 h4 h5 h6 => ?_⟩, l1.ext, fun j q b h1 h2 h3 => ?_, fun a e => ⟨(l.me a e).1, by rw [List.getElem?_set_ne hi0]; exact (l.me a e).2⟩⟩
  · have hj : i ≠ j := fun e => by subst e; rw [k] at h2; cases h2
    rw [List.getElem?_set_ne hj] at h1 ⊢
    exact l1.lc.sh j q h1 h2
  · by_cases hj : i = j
    · subst hj
      rw [List.getElem?_set_self hi] at h1
      cases h1
      exact ⟨a, List.getElem?_set_self (by rw [l.lc.len]; exact hi), hF, o⟩
    · rw [List.getElem?_set_ne hj] at h1 ⊢
      exact l1.lc.ow j q h1 h2
  · by_cases n1 : i = j1
    · subst n1
      by_cases n2 : i = j2
      · exact n2
      · rw [List.getElem?_set_ne n2] at h4 h6
        rw [List.getElem?_set_self (by rw [l.lc.len]; exact hi)] at h5
        cases h5
        exact absurd rfl (old j2 q2 a h2 h4 h6)
    · rw [List.getElem?_set_ne n1] at h3 h5
      by_cases n2 : i = j2
      · subst n2
        rw [List.getElem?_set_self (by rw [l.lc.len]; exact hi)] at h6
        cases h6
        exact absurd rfl (old j1 q1 a h1 h3 h5)
      · rw [List.getElem?_set_ne n2] at h4 h6
        exact l.lc.ap j1 j2 q1 q2 b h1 h2 h3 h4 h5 h6
  · by_cases hj : i = j
    · subst hj
      rw [List.getElem?_set_self (by rw [l.lc.len]; exact hi)] at h3
      cases h3
      exact Same.free l.ext.h h0
    · rw [List.getElem?_set_ne hj] at h2 h3
      exact l.new j q b h1 h2 h3
theorem s_setO (i : Nat) {x : Str} {pos' : Pos} (h : PE X e (tE G K .fr E κ f)) (hN : X.N.Nodup) (k : κ i = true := by rfl) (hi0 : i ≠ 0 := by decide) (hi : X.N[i]? = some x := by rfl) (hx : Loc X.env.scope x := by first | exact .inl rfl | exact .inr rfl) (hs : swapsWith e (some (.Name x pos')) pos.line X.env = pure false := by rfl)
    (hf : X.fn x = true ∨ X.env.scope.names.lookup x = some .local := by first | exact .inl rfl | exact .inr rfl | assumption) : PS X (.Assign [.Name x pos'] e pos) (tStm G K E κ rm (sSet i f)) := ps_weak (ps_set hN hi hx h hs hf) fun D σ H ⟨F0, H0, F, τ, zs, l, q⟩ => by
  refine ⟨F, τ, l.lc, ?_⟩
  unfold sSet at q
  cases h : f τ with
  | exc c ps => rw [h] at q; exact l.exc q
  | bad => rw [h] at q; exact q
  | ok p =>
    rw [h, rs_ok] at q
    intro v F1 H1 e1 r1
    by_cases hl : i < τ.length
    · rw [if_pos hl] at q
      exact q _ F1 H1 (l.setO e1 k hi0 hl r1)
    · rw [if_neg hl] at q; exact q.elim
def sAsg (f : LE → Res PV) (g : PV → LE → Res LE) : LE → Fl := fun τ => rs (f τ) τ fun p => rs (g p τ).nx τ .nx
theorem s_asg {ws : List Nat} {g : PV → LE → Res LE} (h : PE X e (tE G K .sh E κ f)) (hg : PG X tg (tG G K ws E κ g)) (ok : GOk κ ws g) (hs : swapsWithSole [tg] e pos.line X.env = pure false := by rfl) (hw : swappedStores [tg] e X.env = pure none := by rfl)
    (h1 : (assignEach [tg] X.env).map (·.2) = [assign tg X.env] := by rfl) : PS X (.Assign [tg] e pos) (tStm G K E κ rm (sAsg f g)) := ps_weak (ps_asg h hg hs hw h1) fun D σ H ⟨F0, H0, F, τ, zs, l, q⟩ => by
  refine ⟨F, τ, l.lc, ?_⟩
  unfold sAsg at q
  cases h : f τ with
  | exc c ps => rw [h] at q; exact l.exc q
  | bad => rw [h] at q; exact q
  | ok p =>
    rw [h, rs_ok] at q
    intro v F1 H1 e1 r1
    refine ⟨F1, τ, p, l.lc.ext e1, r1, ?_⟩
    cases hg : g p τ with
    | exc c ps => rw [hg] at q; exact q.elim
    | bad => rw [hg] at q; exact q.elim
    | ok τ' =>
      rw [hg, Res.nx_ok, rs_ok] at q
      exact fun σ' l' k' => q σ' F1 H1 ⟨l', l.ext.trans e1, fun i p a h1 h2 h3 => by
        have hi : i ∉ ws := fun z => by rw [ok.un i z] at h1; cases h1
        rw [ok.keep _ _ _ hg i hi] at h2
        rw [k' i hi] at h3
        exact l.new i p a h1 h2 h3, fun a e => ⟨(l.me a e).1, by rw [k' 0 fun z => by have := ok.un 0 z; rw [(l.me a e).1] at this; cases this]; exact (l.me a e).2⟩⟩
/-! ### x op= e of ints -/
def sAug (i : Nat) (g : Int → Int → Int) (f : LE → Res PV) : LE → Fl := fun τ => match τ[i]? with
  | some (some (.int a)) => rs (f τ) τ fun q => match q with
    | .int b => .nx (τ.set i (some (.int (g a b))))
    | _ => .bad
  | _ => .bad
theorem s_aug (i : Nat) {x : Str} {op : Operator} {g : Int → Int → Int} {pos' : Pos} (h : PE X e (tE G K .sh E κ f)) (ho : PIp X op (ipI g)) (hN : X.N.Nodup) (k : κ i = false := by rfl) (hi : X.N[i]? = some x := by rfl) (hx : Loc X.env.scope x := by first | exact .inl rfl | exact .inr rfl)
    (hf : X.fn x = true ∨ X.env.scope.names.lookup x = some .local := by first | exact .inl rfl | exact .inr rfl | assumption) : PS X (.AugAssign (.Name x pos') op e pos) (tStm G K E κ rm (sAug i g f)) := ps_weak (ps_aug hN hi hx h ho hf) fun D σ H ⟨F0, H0, F, τ, zs, l, q⟩ => by
  have hτ : (∃ a, τ[i]? = some (some (.int a))) ∨ sAug i g f τ = .bad := by
    unfold sAug
    split
    · rename_i a ha; exact .inl ⟨a, ha⟩
    · exact .inr rfl
  rcases hτ with ⟨a, ht⟩ | hb
  case inr => rw [hb] at q; exact q.elim
  obtain ⟨w, e1, r0⟩ := l.lc.sh i _ ht k
  refine ⟨w, e1, F, τ, l.lc, ?_⟩
  unfold sAug at q
  simp only [ht] at q
  cases h : f τ with
  | bad => rw [h] at q; exact q.elim
  | exc c ps => rw [h, rs_exc] at q; exact l.exc q
  | ok p =>
    rw [h, rs_ok] at q
    intro v F1 H1 e1 r1
    cases p with
    | int b => exact ⟨a, b, Rep.int_inv r0, Rep.int_inv r1, q _ F1 H1 ((l.of_ext e1).set k (List.getElem?_eq_some_iff.mp ht).1 (.int _))⟩
    | _ => exact q.elim

/-! ### loops -/
open Classical in
/-- what stands now, but the objects of the slots, is the entry of what follows -/
theorem Ls.rebase (l : Ls G K κ zs F0 H0 F H σ τ) : ∃ H1, Ext F0 H0 F H1 ∧ Ls G K κ zs F H1 F H σ τ := by
  let own : Addr → Prop := fun a => ∃ i p, κ i = true ∧ τ[i]? = some (some p) ∧ σ[i]? = some (some (.ref a))
  let H1 : Hp := fun a => if own a then none else H a
  have sub : Same H1 H := fun a o h => by
    by_cases hw : own a
    · simp only [H1, if_pos hw] at h; cases h
    · simpa only [H1, if_neg hw] using h
  have none_of : ∀ a, own a → H1 a = none := fun a hw => by simp only [H1, if_pos hw]
  have keep : ∀ a o, ¬ own a → H a = some o → H1 a = some o := fun a o hw h => by simp only [H1, if_neg hw]; exact h
  refine ⟨H1, ⟨l.ext.f, fun a o h => ?_, fun a o h => ?_, l.ext.new⟩, l.lc, ⟨Same.refl _, sub, l.lc.sub, fun a h1 h2 => absurd h1 h2⟩, fun i p a h1 h2 h3 => none_of a ⟨i, p, h1, h2, h3⟩, l.me⟩
  · refine keep a o (fun ⟨i, p, h1, h2, h3⟩ => ?_) (l.ext.h a o h)
    rw [l.new i p a h1 h2 h3] at h; cases h
  · refine keep a o (fun ⟨i, p, h1, h2, h3⟩ => ?_) (l.lc.sub a o h)
    obtain ⟨b, e1, hF, _⟩ := l.lc.ow i p h2 h1
    rw [h3] at e1
    cases e1
    rw [hF] at h; cases h
theorem Ls.back {H1 : Hp} {σ' : St} {τ' : LE} (e : Ext F0 H0 F H1) (l : Ls G K κ zs F H1 F' H' σ' τ') : Ls G K κ zs F0 H0 F' H' σ' τ' :=
  ⟨l.lc, e.trans l.ext, fun i p a h1 h2 h3 => Same.free e.h (l.new i p a h1 h2 h3), l.me⟩
def forL (g : PV → LE → Res LE) (body : LE → Fl) : List PV → LE → Fl
  | [], τ => .nx τ
  | p :: ps, τ => rs (g p τ).nx τ fun τ1 => match body τ1 with
    | .nx τ2 => forL g body ps τ2
    | .ct τ2 => forL g body ps τ2
    | .bk τ2 => .nx τ2
    | r => r
def sFor (it : LE → Res (List PV)) (g : PV → LE → Res LE) (body : LE → Fl) : LE → Fl := fun τ => rs (it τ) τ fun ps => forL g body ps τ
theorem s_for {ws : List Nat} {wi : LE → Res (List PV)} {g : PV → LE → Res LE} {body : LE → Fl} {sb : List Stmt} (hp : PassesOwn (model X.prog X.w) X.A X.env X.xe) (hc : X.calm = true) (hi : PI X tg iter (tI G K true E κ wi)) (hg : PG X tg (tG G K ws E κ g)) (ok : GOk κ ws g)
    (hb : PSs X sb (tStm G K E κ rm body)) (hs : ∀ x, foldedSetIterable iter X.env x = pure x := by intro _; rfl) : PS X (.For tg iter sb [] pos) (tStm G K E κ rm (sFor wi g body)) := ps_weak (ps_for hp hc hi hg hb hs) fun D σ H ⟨F0, H0, F, τ, zs, l, q⟩ => by
  refine ⟨F, τ, l.lc, ?_⟩
  unfold sFor at q
  cases h : wi τ with
  | bad => rw [h] at q; exact q.elim
  | exc c ps => rw [h, rs_exc] at q; exact l.exc q
  | ok ps =>
    rw [h, rs_ok] at q
    intro J F1 H1 e1 i1
    rw [if_pos rfl] at i1
    have l1 := l.of_ext e1
    refine ⟨fun i m σ H => m = ps.length - i ∧ i ≤ ps.length ∧ ∃ F τ', Ls G K κ zs F0 H0 F H σ τ' ∧ Same F1 F ∧ forL g body (ps.drop i) τ' = forL g body ps τ,
      ⟨ps.length, by simp, Nat.zero_le _, F1, τ, l1, Same.refl _, rfl⟩, ?_⟩
    rintro i m σ2 H2 ⟨rfl, hi, F2, τ2, l2, s2, hq⟩
    have sB : Same F1 H2 := s2.trans l2.ext.sub
    by_cases hlt : i < ps.length
    · refine .inr ⟨i1.go i H2 sB hlt, fun σ H => ∃ F τ', Ls G K κ zs F0 H0 F H σ τ' ∧ Same F1 F ∧ forL g body (ps.drop (i + 1)) τ' = forL g body ps τ, fun σ' H' n => ⟨ps.length - (i + 1), by omega, rfl, hlt, n⟩, fun x H3 hy => ?_⟩
      have hp : ps[i]? = some ps[i] := List.getElem?_eq_getElem hlt
      obtain ⟨F3, e3, r3⟩ := i1.yld i x H2 H3 F2 _ sB s2 l2.ext.sub hy hp
      have l3 := l2.of_ext e3
      refine ⟨F3, τ2, ps[i], l3.lc, r3, ?_⟩
      rw [List.drop_eq_getElem_cons hlt, forL] at hq
      cases hg' : g ps[i] τ2 with
      | exc c fs => rw [hg', Res.nx_exc, rs_bad] at hq; rw [← hq] at q; exact q.elim
      | bad => rw [hg', Res.nx_bad, rs_bad] at hq; rw [← hq] at q; exact q.elim
      | ok τ3 =>
        rw [hg', Res.nx_ok, rs_ok] at hq
        intro σ' l' k'
        have l4 : Ls G K κ zs F0 H0 F3 H3 σ' τ3 := ⟨l', l3.ext, fun i p a h1 h2 h3 => by
          have hi : i ∉ ws := fun z => by rw [ok.un i z] at h1; cases h1
          rw [ok.keep _ _ _ hg' i hi] at h2
          rw [k' i hi] at h3
          exact l3.new i p a h1 h2 h3, fun a e => ⟨(l3.me a e).1, by rw [k' 0 fun z => by have := ok.un 0 z; rw [(l3.me a e).1] at this; cases this]; exact (l3.me a e).2⟩⟩
        obtain ⟨H5, e5, l5⟩ := l4.rebase
        refine ⟨F3, H5, F3, τ3, zs, l5, ?_⟩
        have nxt : ∀ τ4, forL g body (ps.drop (i + 1)) τ4 = forL g body ps τ → ∀ σ' F' H', Ls G K κ zs F3 H5 F' H' σ' τ4 → ∃ F τ', Ls G K κ zs F0 H0 F H' σ' τ' ∧ Same F1 F ∧ forL g body (ps.drop (i + 1)) τ' = forL g body ps τ :=
          fun τ4 h4 σ' F' H' l' => ⟨F', τ4, l'.back e5, (s2.trans e3.f).trans l'.ext.f, h4⟩
        cases hbd : body τ3 with
        | nx τ4 => rw [hbd] at hq; exact nxt τ4 hq
        | ct τ4 => rw [hbd] at hq; exact nxt τ4 hq
        | bk τ4 =>
          simp only [hbd] at hq
          rw [← hq] at q
          exact fun σ' F' H' l' => q σ' F' H' (l'.back e5)
        | rt p =>
          simp only [hbd] at hq
          rw [← hq] at q
          exact fun v F' H' e' r' => q v F' H' (e5.trans e') (r'.before e5.h)
        | ex c fs τ4 =>
          simp only [hbd] at hq
          rw [← hq] at q
          exact fun σ' F' H' d fs l' => q σ' F' H' d fs (l'.back e5)
        | bad =>
          simp only [hbd] at hq
          rw [← hq] at q
          exact q.elim
    · have e : i = ps.length := by omega
      subst e
      rw [List.drop_length, forL] at hq
      rw [← hq] at q
      exact .inl ⟨i1.stop H2 sB, q σ2 F2 H2 l2⟩
/-! while: n turns at most -/
def whileL (t : LE → Res Bool) (body : LE → Fl) : Nat → LE → Fl
  | 0, _ => .bad
  | n + 1, τ => rs (t τ) τ fun b => if b = true then match body τ with
      | .nx τ2 => whileL t body n τ2
      | .ct τ2 => whileL t body n τ2
      | .bk τ2 => .nx τ2
      | r => r
    else .nx τ
theorem s_while {c : Expr} {sb : List Stmt} {t : LE → Res Bool} {body : LE → Fl} (n : Nat) (hp : PassesOwn (model X.prog X.w) X.A X.env X.xe) (hc : PT X c (tT G K E κ t)) (hb : PSs X sb (tStm G K E κ rm body)) : PS X (.While c sb [] pos) (tStm G K E κ rm (whileL t body n)) :=
  ps_weak (ps_while hp hc hb) fun D σ H ⟨F0, H0, F, τ, zs, l, q⟩ => by
    refine ⟨fun m σ H => ∃ F τ', Ls G K κ zs F0 H0 F H σ τ' ∧ whileL t body m τ' = whileL t body n τ, ⟨n, F, τ, l, rfl⟩, ?_⟩
    rintro m σ2 H2 ⟨F2, τ2, l2, hq⟩
    cases m with
    | zero => rw [whileL] at hq; rw [← hq] at q; exact q.elim
    | succ m =>
      rw [whileL] at hq
      refine ⟨F2, τ2, l2.lc, ?_⟩
      cases ht : t τ2 with
      | bad => rw [ht] at hq; rw [rs_bad] at hq; rw [← hq] at q; exact q.elim
      | exc c ps => rw [ht] at hq; rw [rs_exc] at hq; rw [← hq] at q; exact l2.exc q
      | ok b =>
        rw [ht] at hq; rw [rs_ok] at hq
        intro F3 H3 e3
        have l3 := l2.of_ext e3
        cases b with
        | false =>
          rw [if_neg (by decide)] at hq ⊢
          rw [← hq] at q
          exact q σ2 F3 H3 l3
        | true =>
          rw [if_pos rfl] at hq ⊢
          refine ⟨fun σ H => ∃ F τ', Ls G K κ zs F0 H0 F H σ τ' ∧ whileL t body m τ' = whileL t body n τ, fun σ' H' w => ⟨m, Nat.lt_succ_self _, w⟩, F0, H0, F3, τ2, zs, l3, ?_⟩
          cases hbd : body τ2 with
          | nx τ4 => simp only [hbd] at hq; exact fun σ' F' H' l' => ⟨F', τ4, l', hq⟩
          | ct τ4 => simp only [hbd] at hq; exact fun σ' F' H' l' => ⟨F', τ4, l', hq⟩
          | bk τ4 => simp only [hbd] at hq; rw [← hq] at q; exact q
          | rt p => simp only [hbd] at hq; rw [← hq] at q; exact q
          | ex c fs τ4 => simp only [hbd] at hq; rw [← hq] at q; exact q
          | bad => simp only [hbd] at hq; rw [← hq] at q; exact q.elim

/-! ### what changes an owned slot -/
/-- the object of slot i is written -/
theorem Ls.write {i : Nat} {a : Addr} {o : HO} {p' : PV} (l : Ls G K κ zs F0 H0 F H σ τ) (k : κ i = true) (hτ : τ[i]? = some (some p)) (hσ : σ[i]? = some (some (.ref a))) (h : OwnAt G K F (upd H a o) a p') : Ls G K κ zs F0 H0 F (upd H a o) σ (τ.set i (some p')) := by
  obtain ⟨b, e1, hF, o0⟩ := l.lc.ow i p hτ k
  rw [hσ] at e1
  cases e1
  have h0 := l.new i p a k hτ hσ
  have hi : i < τ.length := (List.getElem?_eq_some_iff.mp hτ).1
  refine ⟨⟨same_updR l.lc.sub hF, by rw [List.length_set]; exact l.lc.len, fun j q h1 h2 => ?_, fun j q h1 h2 => ?_, fun j1 j2 q1 q2 b h1 h2 h3 h4 h5 h6 => ?_⟩, ⟨l.ext.f, same_updR l.ext.h h0, same_updR l.ext.sub hF, l.ext.new⟩, fun j q b h1 h2 h3 => ?_, l.me⟩
  · have hj : i ≠ j := fun e => by subst e; rw [k] at h2; cases h2
    rw [List.getElem?_set_ne hj] at h1
    exact l.lc.sh j q h1 h2
  · by_cases hj : i = j
    · subst hj
      rw [List.getElem?_set_self hi] at h1
      cases h1
      exact ⟨a, hσ, hF, h⟩
    · rw [List.getElem?_set_ne hj] at h1
      obtain ⟨b, e1, hb, ob⟩ := l.lc.ow j q h1 h2
      have hne : b ≠ a := fun z => by
        subst z
        exact hj (l.lc.ap i j p q b k h2 hτ h1 hσ e1)
      exact ⟨b, e1, hb, ob.mono (Same.refl _) (upd_ne hne)⟩
  · have t1 : ∃ q, τ[j1]? = some (some q) := by
      by_cases n1 : i = j1
      · subst n1; exact ⟨p, hτ⟩
      · rw [List.getElem?_set_ne n1] at h3; exact ⟨_, h3⟩
    have t2 : ∃ q, τ[j2]? = some (some q) := by
      by_cases n1 : i = j2
      · subst n1; exact ⟨p, hτ⟩
      · rw [List.getElem?_set_ne n1] at h4; exact ⟨_, h4⟩
    obtain ⟨q1', t1⟩ := t1
    obtain ⟨q2', t2⟩ := t2
    exact l.lc.ap j1 j2 q1' q2' b h1 h2 t1 t2 h5 h6
  · have t1 : ∃ q, τ[j]? = some (some q) := by
      by_cases n1 : i = j
      · subst n1; exact ⟨p, hτ⟩
      · rw [List.getElem?_set_ne n1] at h2; exact ⟨_, h2⟩
    obtain ⟨q', t1⟩ := t1
    exact l.new j q' b h1 t1 h3
/-- an expression that changes slots' objects -/
def tM (E : St → XK) (κ : Kd) (f : LE → Res (PV × LE)) : TE := fun σ H Q => ∃ F0 H0 F τ zs, Ls G K κ zs F0 H0 F H σ τ ∧ match f τ with
  | .ok r => ∀ v F' H', Ls G K κ zs F0 H0 F' H' σ r.2 → Rep G K F' v r.1 → Q v H'
  | .exc c ps => ExcOk G K (E σ) F H c ps
  | .bad => False
/-- a method of a list that a slot holds -/
def MutV (r : V → List V → Hp → VK → Prop) (G : Nat → Addr) (K : PySem.W.Frag) (g : List PV → List PV → Option (List PV × PV)) : Prop :=
  ∀ (F H : Hp) (a : Addr) (vs : List V) (ps : List PV) (args : List V) (qs ps' : List PV) (z : PV) (Q : VK), Same F H → H a = some (.lst vs) → Reps G K F vs ps → Reps G K F args qs → g ps qs = some (ps', z) →
    (∀ v vs', Reps G K F vs' ps' → Rep G K F v z → Q v (upd H a (.lst vs'))) → r (.ref a) args H Q
def eMut (i : Nat) (g : List PV → List PV → Option (List PV × PV)) (f : LE → Res (List PV)) : LE → Res (PV × LE) := fun τ => match τ[i]? with
  | some (some (.lst ps)) => f τ >>= fun qs => match g ps qs with
    | some (ps', z) => .ok (z, τ.set i (some (.lst ps')))
    | none => .bad
  | _ => .bad
theorem w_mut {i : Nat} {r : V → List V → Hp → VK → Prop} {g : List PV → List PV → Option (List PV × PV)} {f : LE → Res (List PV)} (k : κ i = true) (hg : MutV r G K g) {σ : St} {H : Hp} {Q : VK}
    (h : tM (G := G) (K := K) E κ (eMut i g f) σ H Q) : tBM K "list" r (tVar i) (tA G K .sh E κ f) σ H Q := by
  obtain ⟨F0, H0, F, τ, zs, l, q⟩ := h
  have hτ : (∃ ps, τ[i]? = some (some (.lst ps))) ∨ eMut i g f τ = .bad := by
    unfold eMut
    split
    · rename_i ps hp; exact .inl ⟨ps, hp⟩
    · exact .inr rfl
  rcases hτ with ⟨ps, ht⟩ | hb
  case inr => rw [hb] at q; exact q.elim
  obtain ⟨a, e1, hF, vs, hH, rr⟩ := l.lc.ow i _ ht k
  refine ⟨.ref a, e1, .inl ⟨rfl, vs, .inl (.inl hH)⟩, F, τ, l.lc, ?_⟩
  unfold eMut at q
  simp only [ht] at q
  cases hf : f τ with
  | bad => rw [hf] at q; exact q.elim
  | exc c ps => rw [hf] at q; exact q
  | ok qs =>
    rw [hf, Res.ok_bind] at q
    intro args F1 H1 e1' r1
    have l1 := l.of_ext e1'
    cases hz : g ps qs with
    | none => rw [hz] at q; exact q.elim
    | some pz =>
      obtain ⟨ps', z⟩ := pz
      rw [hz] at q
      refine hg F1 H1 a vs ps args qs ps' z Q e1'.sub (e1'.h _ _ hH) (Reps.mono e1'.f rr) r1.shared hz fun v vs' r2 r3 => ?_
      exact q v F1 _ (l1.write k ht e1 ⟨vs', upd_same, r2⟩) r3
theorem w_mut0 {i : Nat} {r : V → List V → Hp → VK → Prop} {g : List PV → List PV → Option (List PV × PV)} (k : κ i = true) (hg : MutV r G K g) {σ : St} {H : Hp} {Q : VK}
    (h : tM (G := G) (K := K) E κ (eMut i g aNil) σ H Q) : tBM0 K "list" r (tVar i) σ H Q := by
  obtain ⟨a, e1, ty, q⟩ := w_mut k hg h
  refine ⟨a, e1, ty, ?_⟩
  obtain ⟨F, τ, l, q⟩ := q
  exact q [] F H (Ext.refl l.sub) .nil
def gApp (ps qs : List PV) : Option (List PV × PV) := match qs with
  | [q] => if ps.length < 1000000 then some (ps ++ [q], .non) else none
  | _ => none
theorem g_app : MutV rAppend G K gApp := by
  intro F H a vs ps args qs ps' z Q s hH r1 r2 hz k
  unfold gApp at hz
  split at hz
  · obtain ⟨v, rfl, rv⟩ := r2.one
    split at hz
    · rename_i hl
      cases hz
      exact ⟨a, vs, v, rfl, rfl, hH, by rw [r1.length, sizeLine_eq]; omega, k _ _ (Reps.snoc r1 rv) .non⟩
    · cases hz
  · cases hz
def gPop (ps qs : List PV) : Option (List PV × PV) := match qs with
  | [] => ps[ps.length - 1]?.map fun z => (ps.dropLast, z)
  | _ => none
theorem Reps.dropLast : ∀ {vs : List V} {ps : List PV}, Reps G K F vs ps → Reps G K F vs.dropLast ps.dropLast
  | _, _, .nil => .nil
  | _, _, .cons _ .nil => .nil
  | _, _, .cons r (.cons r' rs) => .cons r (Reps.dropLast (.cons r' rs))
theorem g_pop : MutV rPop G K gPop := by
  intro F H a vs ps args qs ps' z Q s hH r1 r2 hz k
  unfold gPop at hz
  split at hz
  · cases r2
    cases hp : ps[ps.length - 1]? with
    | none => rw [hp] at hz; cases hz
    | some y =>
      rw [hp] at hz
      cases hz
      obtain ⟨v, e, rv⟩ := r1.get hp
      exact ⟨a, vs, v, rfl, rfl, hH, by rw [r1.length]; exact e, k _ _ r1.dropLast rv⟩
  · cases hz
def gPopAt (ps qs : List PV) : Option (List PV × PV) := match qs with
  | [.int i] => if -(2 ^ 63) ≤ i ∧ i < 2 ^ 63 then (ixN ps.length i).bind fun j => ps[j]?.map fun z => (ps.eraseIdx j, z) else none
  | _ => none
theorem g_popAt : MutV rPopAt G K gPopAt := by
  intro F H a vs ps args qs ps' z Q s hH r1 r2 hz k
  unfold gPopAt at hz
  split at hz
  · rename_i i
    obtain ⟨v, rfl, rv⟩ := r2.one
    obtain rfl := rv.int_inv
    split at hz
    · rename_i hb
      cases hj : ixN ps.length i with
      | none => rw [hj] at hz; cases hz
      | some j =>
        rw [hj] at hz
        cases hp : ps[j]? with
        | none => simp only [Option.bind_some, hp] at hz; cases hz
        | some y =>
          simp only [Option.bind_some, hp, Option.map_some] at hz
          cases hz
          obtain ⟨w, e, rw'⟩ := r1.get hp
          exact ⟨a, vs, i, j, w, rfl, rfl, hH, hb.1, hb.2, by rw [r1.length]; exact (ixN_seq hj).1, e, k _ _ (r1.eraseIdx j) rw'⟩
    · cases hz
  · cases hz
/-- the first place of a value -/
def firstP (q : PV) (ps : List PV) : Option Nat := ps.findIdx? fun y => eqP y q
def gRem (ps qs : List PV) : Option (List PV × PV) := match qs with
  | [q] => if q.flat && ps.all PV.flat then (firstP q ps).map fun j => (ps.eraseIdx j, .non) else none
  | _ => none
theorem g_rem : MutV rRemV G K gRem := by
  intro F H a vs ps args qs ps' z Q s hH r1 r2 hz k
  unfold gRem at hz
  split at hz
  · rename_i q
    obtain ⟨v, rfl, rv⟩ := r2.one
    split at hz
    · rename_i hf
      rw [Bool.and_eq_true] at hf
      cases hj : firstP q ps with
      | none => rw [hj] at hz; cases hz
      | some j =>
        rw [hj] at hz
        cases hz
        unfold firstP at hj
        rw [List.findIdx?_eq_some_iff_getElem] at hj
        obtain ⟨hjl, h1, h2⟩ := hj
        obtain ⟨w, e, rw'⟩ := r1.get (List.getElem?_eq_getElem hjl)
        have fl : ∀ (m : Nat) (hm : m < ps.length), ps[m].flat = true := fun m hm => List.all_eq_true.mp hf.2 _ (List.getElem_mem hm)
        refine ⟨a, vs, v, j, w, rfl, rfl, hH, rv.flat hf.1, r1.flat hf.2, e, by rw [rw'.eqP rv (fl j hjl) hf.1]; exact h1, fun m z' hm hz' => ?_, k _ _ (r1.eraseIdx j) .non⟩
        obtain ⟨p', e', rp'⟩ := r1.getV hz'
        have hml : m < ps.length := (List.getElem?_eq_some_iff.mp e').1
        have ep : ps[m] = p' := (List.getElem?_eq_some_iff.mp e').2
        have hfl := fl m hml
        rw [ep] at hfl
        rw [rp'.eqP rv hfl hf.1, ← ep]
        have := h2 m hm
        simpa using this
    · cases hz
  · cases hz
def gRev (ps qs : List PV) : Option (List PV × PV) := match qs with
  | [] => some (ps.reverse, .non)
  | _ => none
theorem g_rev : MutV rReverse G K gRev := by
  intro F H a vs ps args qs ps' z Q s hH r1 r2 hz k
  unfold gRev at hz
  split at hz
  · cases r2
    cases hz
    exact ⟨a, vs, rfl, rfl, hH, k _ _ r1.reverse .non⟩
  · cases hz
def gExt (ps qs : List PV) : Option (List PV × PV) := match qs with
  | [.lst zs] => if ps.length + zs.length ≤ 1000000 then some (ps ++ zs, .non) else none
  | _ => none
def rExtR : V → List V → Hp → VK → Prop := fun x vs H Q => ∃ l b xs zs, x = .ref l ∧ vs = [.ref b] ∧ H l = some (.lst xs) ∧ Rd H b (.lst zs) ∧ xs.length + zs.length ≤ sizeLine ∧ Q .non (upd H l (.lst (xs ++ zs)))
theorem mt_extR : MtM X "list.extend" rExtR := by
  intro pins s σ H x vs v us Q I rx rv h
  obtain ⟨l, b, xs, zs, rfl, rfl, hH, hB, hz, q⟩ := h
  cases rx
  obtain ⟨u, rfl, ru⟩ := rv.one
  cases ru
  obtain ⟨z, its, n, r, hl, e⟩ := I.lstM hH
  obtain ⟨z2, its2, n2, r2, hl2, e2⟩ := Rd.lstM I hB
  have hsz : its.toArray.size + its2.toArray.size ≤ sizeLine := by rw [List.size_toArray, List.size_toArray]; omega
  have hlong : ¬ (!its.toArray.isEmpty && Builtin.List.listTooLong (its.toArray.size + its2.toArray.size)) = true := by
    rw [notLongL hsz, Bool.and_false]
    exact Bool.false_ne_true
  refine PySem.call_meets F.slot_list_extend ⟨_, e, rfl⟩ F.entry_list_extend (F.args_list_extend_2 _ _)
    (AutoSeq1.list_extend_list_list_0 l its.toArray n b its2.toArray n2 hlong (by rw [List.size_toArray]; omega) (by omega)) ⟨e, e2, ?_⟩
  refine ⟨.non, _, I.lset (its' := its ++ its2) hH e (by simp) (r.append r2) ?_, rfl, q⟩
  rw [List.length_append]
  omega
theorem g_ext : MutV rExtR G K gExt := by
  intro F H a vs ps args qs ps' z Q s hH r1 r2 hz k
  unfold gExt at hz
  split at hz
  · obtain ⟨v, rfl, rv⟩ := r2.one
    obtain ⟨b, ws, rfl, hB, rw'⟩ := rv.lst_inv
    split at hz
    · rename_i hl
      cases hz
      exact ⟨a, b, vs, ws, rfl, rfl, hH, Same.rd s hB, by rw [r1.length, rw'.length, sizeLine_eq]; omega, k _ _ (Reps.append r1 rw') .non⟩
    · cases hz
  · cases hz
/-- xs.m(..) as a statement; name = xs.m(..) -/
def sExprM (f : LE → Res (PV × LE)) : LE → Fl := fun τ => rs (f τ) τ fun r => .nx r.2
def sSetM (j : Nat) (f : LE → Res (PV × LE)) : LE → Fl := fun τ => rs (f τ) τ fun r => if j < r.2.length then .nx (r.2.set j (some r.1)) else .bad
theorem s_exprM {f : LE → Res (PV × LE)} (h : PE X e (tM (G := G) (K := K) E κ f)) (hs : swapsWith e none pos.line X.env = pure false := by rfl) : PS X (.Expr e pos) (tStm G K E κ rm (sExprM f)) := ps_weak (ps_expr h hs) fun D σ H ⟨F0, H0, F, τ, zs, l, q⟩ => by
  refine ⟨F0, H0, F, τ, zs, l, ?_⟩
  unfold sExprM at q
  cases h : f τ with
  | bad => rw [h] at q; exact q.elim
  | exc c ps => rw [h, rs_exc] at q; exact l.exc q
  | ok r => rw [h, rs_ok] at q; exact fun v F' H' l' _ => q σ F' H' l'
theorem s_setM (j : Nat) {x : Str} {pos' : Pos} {f : LE → Res (PV × LE)} (h : PE X e (tM (G := G) (K := K) E κ f)) (hN : X.N.Nodup) (k : κ j = false := by rfl) (hi : X.N[j]? = some x := by rfl) (hx : Loc X.env.scope x := by first | exact .inl rfl | exact .inr rfl) (hs : swapsWith e (some (.Name x pos')) pos.line X.env = pure false := by rfl)
    (hf : X.fn x = true ∨ X.env.scope.names.lookup x = some .local := by first | exact .inl rfl | exact .inr rfl | assumption) : PS X (.Assign [.Name x pos'] e pos) (tStm G K E κ rm (sSetM j f)) := ps_weak (ps_set hN hi hx h hs hf) fun D σ H ⟨F0, H0, F, τ, zs, l, q⟩ => by
  refine ⟨F0, H0, F, τ, zs, l, ?_⟩
  unfold sSetM at q
  cases h : f τ with
  | bad => rw [h] at q; exact q.elim
  | exc c ps => rw [h, rs_exc] at q; exact l.exc q
  | ok r =>
    rw [h, rs_ok] at q
    intro v F' H' l' rr
    by_cases hl : j < r.2.length
    · rw [if_pos hl] at q
      exact q _ F' H' (l'.set k hl rr)
    · rw [if_neg hl] at q; exact q.elim
variable {o : Expr} {name : Str} {apos cpos : Pos} {id : String} {r : V → List V → Hp → VK → Prop} {g : List PV → List PV → Option (List PV × PV)} {x' : Str}
theorem m_list (i : Nat) (slot : PySem.Slot "list" name id) (hty : typeOf (.builtin id) = pure (.type "method_descriptor")) (hm : MtR X id r) (hg : MutV r G X.K g) {fa : LE → Res (List PV)} (ha : PA X (e :: es) (tA G X.K .sh E κ fa)) (k : κ i = true := by rfl) (hN : X.N[i]? = some x' := by rfl)
    (hv : Vis X.env.scope x' := by first | exact Or.inl rfl | exact Or.inr (Or.inl rfl) | exact Or.inr (Or.inr rfl)) (hd : (x' == ("__debug__" : Str)) = false := by decide) (hcd : (x' == ("__classdict__" : Str)) = false := by decide)
    (hbase : attributeBase (.Name x' pos) name X.env (eval (.Name x' pos) X.env) = eval (.Name x' pos) X.env := by rfl)
    (hfew : ((backTo cpos (starEach (e :: es) X.env)).all (fun x => !x.1) && (backToKw cpos (keywordEach [] X.env)).all (fun x => x.1.isSome)
      && decide ((e :: es).length + ([] : List Keyword).length + (if ([] : List Keyword).isEmpty then 0 else 1) < 30)) = true := by rfl)
    (hline : (apos.endLine == cpos.line) = true := by rfl) (hs : starEach (e :: es) X.env = (false, eval e X.env) :: starEach es X.env := by rfl) (hplain : (backTo cpos (starEach es X.env)).any (·.1) = false := by rfl) :
    PE X (.Call (.Attribute (.Name x' pos) name apos) (e :: es) [] cpos) (tM (G := G) (K := X.K) E κ (eMut i g fa)) :=
  pe_weak (pe_bm F.plainAttrs_list slot hty hm (pe_var hN hv hd hcd) ha hbase hfew hline hs hplain) fun _ _ _ h => w_mut k hg h
theorem m_list0 (i : Nat) (slot : PySem.Slot "list" name id) (hty : typeOf (.builtin id) = pure (.type "method_descriptor")) (hm : MtR X id r) (hg : MutV r G X.K g) (k : κ i = true := by rfl) (hN : X.N[i]? = some x' := by rfl)
    (hv : Vis X.env.scope x' := by first | exact Or.inl rfl | exact Or.inr (Or.inl rfl) | exact Or.inr (Or.inr rfl)) (hd : (x' == ("__debug__" : Str)) = false := by decide) (hcd : (x' == ("__classdict__" : Str)) = false := by decide)
    (hbase : attributeBase (.Name x' pos) name X.env (eval (.Name x' pos) X.env) = eval (.Name x' pos) X.env := by rfl) (hline : (apos.endLine == cpos.line) = true := by rfl) :
    PE X (.Call (.Attribute (.Name x' pos) name apos) [] [] cpos) (tM (G := G) (K := X.K) E κ (eMut i g aNil)) :=
  pe_weak (pe_bm0 F.plainAttrs_list slot hty hm (pe_var hN hv hd hcd) hbase hline) fun _ _ _ h => w_mut0 k hg h
end
end Lp
end
section
set_option Elab.async false
set_option linter.all false
set_option maxRecDepth 100000
namespace Lx
open PySem PySem.Spec PyProof.Rows L2

section
variable {X : Cx} {pins : List (Addr × Obj)} {σ : L2.St} {H : Hp} {s : Shared} {x C cda f u : Addr} {fd : FuncData} {ar : Arg} {oc oc2 : Value} {od od2 : Option Addr} {osl osl2 : Array (Option Value)} {vs : Array Value} {file : Str} {tf : Tok} {kc : Nat}
  {body : List Stmt} {m : Str} {j : Nat} {p0 p1 p2 p3 p4 pos : Pos} {Q : Value → Shared → Prop} {E : Value → Shared → Prop}

/-- the bound ValueError.__init__ called -/
theorem call_mw {A : Around} {us : List Value} (T : OexC X.K C) (I : Inv X pins σ H s) (e : H x = some (exo x C none)) (hu : s.heap.get? u = some (PySem.W.kxs_mw "ValueError.__init__" x)) (hl : us.length ≤ sizeLine) (h : ∀ s', Inv X pins σ H s' → Q .none s') :
    wpAny (model X.prog X.w) A (call (.ref u) us) Q E s := by
  obtain ⟨nm, q, N, bs, bm, sn, sub, ab, col, dd, k0, k1, k2, k3, k5, hC, hbm⟩ := T.cls
  obtain ⟨t1, ho⟩ := exo_at I.hok e
  have hC' := I.kIn _ _ hC
  obtain ⟨hp, g, d, t, os⟩ := s
  refine wpAny_call (codeAny_of_tree ?_)
  show wpAny _ A.in1 (callAny (.ref u) ⟨us, []⟩) _ _ _
  simp only [callAny]
  refine wpAny_bind (wpAny_load hu ?_)
  simp only [PySem.W.kxs_mw, show (Value.type "method-wrapper" == Value.type "method" || Value.type "method-wrapper" == Value.type "builtin_function_or_method" || Value.type "method-wrapper" == Value.type "method-wrapper") = true by decide, if_true]
  refine PySem.W.KFB.if_so (by decide) ?_
  refine wpAny_bind (PySem.W.check_bound_init F.excBase_ValueError.toExcCallFacts hC' ho rfl ?_)
  refine wpAny_bind (wpAny_pure (wpAny_pure ?_))
  refine ⟨Code.quiet_builtin _ (by decide +kernel), codeAny_builtin F.excBase_ValueError.initEntry ?_⟩
  refine PySem.W.exc_init_tree (cls := .ref C) (t0 := t1) (dv := none) (c2 := .none) (c3 := .none) (b4 := .bool false) ho hl (fun h' k hx _ => ?_)
  have J := I.write (t' := t) (x := x) (e := x) (o := exo x C none) (by rw [e]; exact True.intro) (.inl rfl) k ⟨_, hx⟩ (exo_ok hx)
  have eu : upd H x (exo x C none) = H := by
    funext b
    by_cases hb : b = x
    · rw [hb, upd_same, e]
    · rw [upd_ne hb]
  rw [eu] at J
  exact h _ J
/-- super().__init__('..') -/
theorem sup_stmt (T : OexC X.K C) (I : Inv X pins σ H s) (e : H x = some (exo x C none))
    (hfu : X.env.func = some f) (hf : X.K.lookup f = some ⟨oc, od, .func fd, osl⟩) (hp : (fd.params.posonlyargs ++ fd.params.args).head? = some ar)
    (hco : X.env.code = .ref cda) (hcode : X.K.lookup cda = some ⟨oc2, od2, .fields vs, osl2⟩) (hvs : vs[2]? = some (.str file tf)) (hfile : ((X.prog.main.file : Str) == file) = true) (htop : (X.prog.main.scope.names.lookup ("super" : Str)).isSome = false)
    (hN0 : X.N[0]? = some ar.arg) (h0 : σ[0]? = some (some (.ref x))) (k0 : X.env.scope.names.lookup ar.arg = some .local)
    (hNc : X.N[kc]? = some ("__class__" : Str)) (hc : σ[kc]? = some (some (.ref C))) (hkc : X.env.scope.names.lookup ("__class__" : Str) = some .free)
    (hks : X.env.scope.names.lookup ("super" : Str) = some .globalImplicit) (hsg : X.mg "super" = none)
    (ho : PySem.W.nsIn X.K cStatics "thirdparty.any" = some none) (hm : PySem.W.ks_superIn X.K C C "__init__" = some (some (.builtin "ValueError.__init__"))) (hB : PySem.W.subIn X.K (.ref C) (.type "ValueError") = some true)
    (hin : interactive X.env = false) (hs : swapsWith (.Call (.Attribute (.Call (.Name "super" p0) [] [] p1) "__init__" p2) [.Constant (.str m) j p3] [] p4) none pos.line X.env = pure false)
    {pl : Sem Bool} (hev : eval (.Call (.Attribute (.Call (.Name "super" p0) [] [] p1) "__init__" p2) [.Constant (.str m) j p3] [] p4) X.env = (do
      let ov ← attributeBase (.Call (.Name "super" p0) [] [] p1) "__init__" X.env (eval (.Call (.Name "super" p0) [] [] p1) X.env)
      standAt p2.atName
      let (f, first) ← holding [ov] (getMethod ov "__init__" pl)
      callWith p4 f first (backTo p4 (starEach [.Constant (.str m) j p3] X.env)) []))
    (he : starEach [.Constant (.str m) j p3] X.env = (false, eval (.Constant (.str m) j p3) X.env) :: starEach [] X.env := by rfl) (hpl : (backTo p4 (starEach [] X.env)).any (·.1) = false := by rfl) :
    PySem.wpAt (model X.prog X.w) X.A (.func body X.env) (exec (.Expr (.Call (.Attribute (.Call (.Name "super" p0) [] [] p1) "__init__" p2) [.Constant (.str m) j p3] [] p4) pos) X.env) (fun fl s' => fl = .next ∧ Inv X pins σ H s') X.xe s := by
  obtain ⟨nm, q, N, bs, bm, sn, sub, ab, col, dd, k0', k1, k2, k3, k5, hC, hbm⟩ := T.cls
  have hcl : PySem.W.clsIn X.K C = some { name := nm, bases := bs, mro := .ref C :: bm, ns := N, qualname := q, hasDict := true, slotNames := sn, subclasses := sub, abstract := ab, collection := col, hasDel := false } := by unfold PySem.W.clsIn; rw [hC] <;> rfl
  obtain ⟨t1, hox⟩ := exo_at I.hok e
  have KI := I.kIn
  obtain ⟨mL, hns, look⟩ := id I.loc
  have vx : mL ar.arg = some (.ref x) := by
    obtain ⟨u, ru, l⟩ := look 0 ar.arg (.ref x) hN0 h0 (.inl k0)
    obtain rfl : u = Value.ref x := ru
    rcases l with ⟨_, l⟩ | ⟨l, _⟩
    · exact l
    · rcases l with l | l <;> exact absurd ((show X.env.scope.names.lookup ar.arg = _ from l).symm.trans k0) (by decide)
  obtain ⟨cc, hcc, hcv⟩ : ∃ c, X.env.cells.lookup ("__class__" : Str) = some c ∧ s.heap.IsCell c (some (.ref C)) := by
    obtain ⟨u, ru, l⟩ := look kc "__class__" (.ref C) hNc hc (.inr (.inr hkc))
    obtain rfl : u = Value.ref C := ru
    rcases l with ⟨l, _⟩ | ⟨_, l⟩
    · exact absurd ((show X.env.scope.names.lookup ("__class__" : Str) = _ from l).symm.trans hkc) (by decide)
    · exact l
  have hmro : PySem.W.mroIn X.K C (.ref C) = some true := by
    unfold PySem.W.mroIn
    rw [hcl, Option.bind_some]
    simp
  obtain ⟨hp0, g, d, t, os⟩ := s
  refine PySem.ks_wpAt_Expr_any (PySem.ks_wpAt_MethodCall ?_ hev) hin hs
  refine PySem.ks_wpAt_super_base hks hkc (by decide) hfu (KI _ _ hf) rfl hp hco (KI _ _ hcode) rfl hvs hfile htop ?_
  obtain ⟨mb, hb1, hb2⟩ := I.mod.blt
  refine PySem.W.ks_loadName_global I.ok.kind hks (Calls.loadGlobal_builtin (by rw [I.ok.glob]; exact I.mod.glob.keeps I.bk) hsg (by rw [I.ok.blt]; exact hb1.keeps I.bk) ((hb2 "super" (by decide)).trans (show bootBuiltins "super" = some (.type "super") by kernel_rfl)) ⟨rfl, ?_⟩)
  refine wpAny_loadName_free I.ok.kind hkc hcc hcv ?_
  refine wpAny_loadName_local I.ok.kind k0 hns vx ?_
  refine PySem.ks_wpAny_isType_cls (KI _ _ hC) rfl ⟨rfl, ?_⟩
  refine PySem.ks_wpAny_call_super (KI _ _ hC) rfl hox rfl (fun c z => by cases z) (PySem.W.looks_mroIn KI hmro) (fun h1 eso k1' => ?_)
  have I1 : Inv X pins σ H ⟨h1, g, d, t, os⟩ := I.kept (t' := t) k1'
  have hox1 := k1' _ _ hox
  have hI : PySem.W.Looks (model X.prog X.w) h1 (isInstance (.ref x) (.type "ValueError")) true :=
    (show PySem.W.InstAt h1 x _ C none from ⟨hox1, rfl, rfl, trivial⟩).type.andThen (PySem.W.looks_subIn I1.kIn hB)
  have hm' : PySem.W.alongIn X.K "__init__" (((Value.ref C :: bm).dropWhile (· != .ref C)).drop 1) = some (some (.builtin "ValueError.__init__")) := by
    unfold PySem.W.ks_superIn at hm
    rw [hcl] at hm
    exact hm
  have hxC : x ≠ C := fun z => by
    rw [z] at hox
    have := KI _ _ hC
    rw [hox] at this
    cases this
  refine PySem.W.kxs_getMethod PySem.W.kxs_ValueError eso (PySem.W.looks_opaque I1.kIn ho) (l₀ := .ref C :: bm) ?_ rfl I1.kIn hm' hI hxC (by decide) ?_
  · exact fun A Q E s k q => wpAny_bind ((PySem.W.looks_clsIn I1.kIn hcl) A _ E s k (wpAny_pure q))
  have k2' : ∀ b o, h1.get? b = some o → (h1.push (PySem.W.kxs_mw "ValueError.__init__" x)).get? b = some o := fun b o z => Heap.get?_push_of_some _ z
  have I2 : Inv X pins σ H ⟨h1.push (PySem.W.kxs_mw "ValueError.__init__" x), g, d, t + 1, os⟩ := I1.kept (t' := t + 1) k2'
  have hu : (h1.push (PySem.W.kxs_mw "ValueError.__init__" x)).get? h1.objs.size = some (PySem.W.kxs_mw "ValueError.__init__" x) := Heap.get?_push_at rfl rfl
  have ha : PA X [.Constant (.str m) j p3] (tCons (tC (.str m)) tNil) := pa_cons pe_str pa_nil
  rw [he]
  refine PySem.W.kxs_callWith (i := "ValueError.__init__") (u := h1.objs.size) (x := x) (by show (false || (backTo p4 (starEach [] X.env)).any (·.1)) = false; rw [hpl]; rfl) ?_
  show wpAny _ _ (evalArgs _ true ((false, eval (.Constant (.str m) j p3) X.env) :: backTo p4 (starEach [] X.env)) []) _ _ _
  refine Calls.evalArgs_plain (Calls.spliced_cons (Calls.Constant_str (Calls.spliced_nil ⟨hu, ?_⟩)))
  exact call_mw T (I2.tok _) e hu (by show 1 ≤ sizeLine; rw [sizeLine_eq]; omega) fun s' J => ⟨rfl, J⟩
end
end Lx
end
section
set_option Elab.async false
set_option linter.all false
set_option maxRecDepth 100000
namespace Lx
open PySem PySem.Spec PyProof.Rows L2

section
variable {P : Program} {w : World} {K : PySem.W.Frag} {mg : Str → Option Value} {base : Heap} {CX : CXT} {k : Nat} {f C cc cda : Addr} {name qual : Str} {params : Arguments} {body rest : List Stmt} {scope : Scope} {dV kV doc pm ct oc oc1 oc2 : Value} {an od od1 od2 : Option Addr}
  {osl osl1 osl2 : Array (Option Value)} {N ps : List Str} {sp : Sp} {ar : Arg} {vs : Array Value} {file : Str} {tf : Tok} {m : Str} {j : Nat} {p0 p1 p2 p3 p4 pos : Pos}
abbrev nf (name qual : Str) (params : Arguments) (body : List Stmt) (scope : Scope) (cc cda : Addr) : NdefX.NF := ⟨name, qual, params, body, scope, [("__class__", cc)], cda⟩
theorem fn_exc (T : OexC K C) (lk : K.lookup f = some ⟨oc, od, .func (PySem.W.fnX name qual params body scope [("__class__", cc)] dV kV doc pm an (.ref cda) ct), osl⟩) (hcd : PySem.W.codeIn K (.ref cda) qual = true)
    (lc : K.lookup cc = some ⟨oc1, od1, .cell (some (.ref C)), osl1⟩) (lcd : K.lookup cda = some ⟨oc2, od2, .fields vs, osl2⟩) (hvs : vs[2]? = some (.str file tf)) (hfile : ((P.main.file : Str) == file) = true)
    (htop : (P.main.scope.names.lookup ("super" : Str)).isSome = false) (S : NdefX.NScope N ps ["__class__"] scope) (hp : (params.posonlyargs ++ params.args).head? = some ar) (har : ps.head? = some ar.arg)
    (hks : scope.names.lookup ("super" : Str) = some .globalImplicit) (hsg : mg "super" = none) (ho : PySem.W.nsIn K cStatics "thirdparty.any" = some none) (hm : PySem.W.ks_superIn K C C "__init__" = some (some (.builtin "ValueError.__init__")))
    (hB : PySem.W.subIn K (.ref C) (.type "ValueError") = some true)
    (hb : body = .Expr (.Call (.Attribute (.Call (.Name "super" p0) [] [] p1) "__init__" p2) [.Constant (.str m) j p3] [] p4) pos :: rest)
    {pl : Env → Sem Bool} (hev : ∀ env : Env, eval (.Call (.Attribute (.Call (.Name "super" p0) [] [] p1) "__init__" p2) [.Constant (.str m) j p3] [] p4) env = (do
      let ov ← attributeBase (.Call (.Name "super" p0) [] [] p1) "__init__" env (eval (.Call (.Name "super" p0) [] [] p1) env)
      standAt p2.atName
      let (f, first) ← holding [ov] (getMethod ov "__init__" (pl env))
      callWith p4 f first (backTo p4 (starEach [.Constant (.str m) j p3] env)) []))
    (hsw : ∀ env : Env, swapsWith (.Call (.Attribute (.Call (.Name "super" p0) [] [] p1) "__init__" p2) [.Constant (.str m) j p3] [] p4) none pos.line env = pure false)
    (hsp : ∀ vs H Q E, sp vs H Q E → vs.length = ps.length ∧ ∃ a vs', vs = .ref a :: vs' ∧ H a = some (exo a C none))
    (hrest : ∀ (A : Around) (outer : List Env) (s : Shared) (H : Hp) (E : XK), ∃ t, PSs (NdefX.ncx CX P w K mg base N (nf name qual params body scope cc cda) f A outer s H E) rest t ∧
      ∀ vs Q, sp vs H Q E → t { nx := fun _ H' => Q .non H', rt := Q } (NdefX.startF N vs [some (.ref C)]) H) :
    FnOk P w K mg base CX (k + 1) f (PySem.W.fnX name qual params body scope [("__class__", cc)] dV kV doc pm an (.ref cda) ct) ps sp := by
  refine ⟨fun vs H Q E h => (hsp vs H Q E h).1, fun A outer s H args us vs0 Q E hr e0 hbd r hs => ?_⟩
  obtain ⟨hl, a, vs', rfl, ea⟩ := hsp _ _ _ _ hs
  have KX : K.In s.heap := e0.mod.kin.keeps fun b o e => (e0.bs b o e).1
  have lim : s.heap.NoLimit := e0.mod.nolimit.keeps fun b o e => (e0.bs b o e).1
  refine ks_codeAny_call_defAt hr.depth (KX _ _ lk) rfl lim (PySem.W.codeRec_of KX hcd) rfl hbd S.nocell (fun ⟨n, _⟩ hy => S.par n (List.of_mem_zip hy).1) (fun h₁ hns kp => ?_) S.co S.gen S.kind
  have hcb := e0.mod.kin _ _ lc
  have CA : NdefX.CellsAt [(("__class__" : Str), cc)] ["__class__"] [some (.ref C)] s.heap H := by
    have l1 : ∀ {y : Str} {c : Addr}, [(("__class__" : Str), cc)].lookup y = some c → y = "__class__" ∧ c = cc := fun {y c} z => by
      by_cases hy : y = ("__class__" : Str)
      · subst hy
        rw [List.lookup_cons_self] at z
        exact ⟨rfl, (Option.some.inj z).symm⟩
      · have hb : (y == ("__class__" : Str)) = false := by simpa using hy
        rw [List.lookup_cons, hb] at z
        cases z
    refine ⟨rfl, fun y c z => ?_, fun x y c z1 z2 => (l1 z1).1.trans (l1 z2).1.symm, fun i y hi => ?_⟩
    · obtain ⟨_, rfl⟩ := l1 z
      exact ⟨(e0.bs _ _ hcb).2, _, _, (e0.bs _ _ hcb).1, rfl⟩
    · cases i with
      | succ i => cases hi
      | zero =>
        cases hi
        exact ⟨cc, List.lookup_cons_self, fun v hv => by
          cases hv
          exact ⟨.ref C, rfl, _, (e0.bs _ _ hcb).1, rfl⟩⟩
  have I := NdefX.inv_startN (CX := CX) (E := E) (f := f) (F := nf name qual params body scope cc cda) (tk := s.toks + (ps.zip us).length) S hr.hd e0 hl r CA hns kp
  obtain ⟨t, ht, hq⟩ := hrest A outer s H E
  have hpl : ps.length + 1 ≤ N.length := by
    have q := congrArg List.length S.pre
    rw [List.length_take, List.length_append] at q
    simp only [List.length_cons, List.length_nil] at q
    omega
  have hps : ps = ar.arg :: ps.tail := by
    cases ps with
    | nil => cases har
    | cons p q => cases har; rfl
  have hN0 : N[0]? = some ar.arg := by
    have := congrArg (fun l => l[0]?) S.pre
    simp only [List.length_cons, List.length_nil] at this
    rw [List.getElem?_take_of_lt (by omega), hps] at this
    exact this
  have hNc : N[ps.length]? = some ("__class__" : Str) := by
    have := congrArg (fun l => l[ps.length]?) S.pre
    simp only [List.length_cons, List.length_nil] at this
    rw [List.getElem?_take_of_lt (by omega), List.getElem?_append_right (Nat.le_refl _), Nat.sub_self] at this
    exact this
  have hS0 : (NdefX.startF N (V.ref a :: vs') [some (.ref C)])[0]? = some (some (V.ref a)) := rfl
  have hSc : (NdefX.startF N (V.ref a :: vs') [some (.ref C)])[ps.length]? = some (some (V.ref C)) := by
    unfold NdefX.startF
    rw [List.getElem?_append_right (by rw [List.length_map, hl]; exact Nat.le_refl _), List.length_map, hl, Nat.sub_self]
    rfl
  rw [hb]
  refine PySem.ks_wpAt_execs_cons (PySem.ks_wpAt_mono (sup_stmt (X := NdefX.ncx CX P w K mg base N (nf name qual params body scope cc cda) f A outer s H E) T I ea rfl lk hp rfl lcd hvs hfile htop hN0 hS0 (S.par _ (by rw [hps]; exact List.mem_cons_self)) hNc hSc (S.frk _ List.mem_cons_self) hks hsg ho hm hB (by show interactive (NdefX.envF (nf name qual params body scope cc cda) f s.heap.objs.size) = false; unfold interactive; simp [S.kind]) (hsw _) (hev _)) (fun fl s' h => ?_) fun _ _ h => h)
  obtain ⟨rfl, J⟩ := h
  refine wpAt_of_wpAny (wpAny_mono (ht.run [] s' _ H _ J (hq _ _ hs)) (fun fl s2 hs => ?_) fun e s' hs => hs)
  have fin : ∀ {σ' : L2.St} {H' : Hp} {v : V} {u : Value}, Inv (NdefX.ncx CX P w K mg base N (nf name qual params body scope cc cda) f A outer s H E) [] σ' H' s2 → L2.RelV v u → Q v H' → CE outer P w H s Q u s2 :=
    fun {σ' H' v u} J rv q => ⟨v, H', J.os, J.bare, J.base, J.hok, rv, q⟩
  cases fl with
  | ret u =>
    obtain ⟨v, σ', H', J, rv, q⟩ := hs
    exact fin J rv q
  | next =>
    obtain ⟨σ', H', J, q⟩ := hs
    exact fin (v := V.non) (u := Value.none) J rfl q
  | brk =>
    obtain ⟨_, _, _, q⟩ := hs
    exact False.elim q
  | cont =>
    obtain ⟨_, _, _, q⟩ := hs
    exact False.elim q
end
end Lx
end
section
set_option Elab.async false
set_option linter.all false
set_option maxRecDepth 100000
namespace Lp
open PySem PySem.Spec L2

/-- an own exception's __init__ with one field -/
def spX1 (C : Addr) (fld : Str) : Sp := fun vs H Q _ => ∃ a y, vs = [.ref a, y] ∧ H a = some (exo a C none) ∧ ∀ d, H d = none → d ≠ a → Q .non (upd (upd H d (exd d [(fld, y)])) a (exo a C (some d)))
/-- .. with two fields -/
def spX2 (C : Addr) (f1 f2 : Str) : Sp := fun vs H Q _ => ∃ a y z, vs = [.ref a, y, z] ∧ H a = some (exo a C none) ∧ ∀ d, H d = none → d ≠ a → Q .non (upd (upd (upd H d (exd d [(f1, y)])) a (exo a C (some d))) d (exd d [(f2, z), (f1, y)]))
section
variable {P : Program} {w : World} {K : PySem.W.Frag} {mg : Str → Option Value} {base : Heap} {CX : CXT} {A : Around} {outer : List Env} {s : Shared} {H : Hp} {E : XK} {C f : Addr} {F : NdefX.NF} {fld f1 f2 v v1 v2 : Str} {q1 q2 q3 q4 r1 r2 r3 r4 : Pos}
abbrev tX1 (K : PySem.W.Frag) (fld : Str) : TS := tOst K fld (tVar 0) (tVar 1)
theorem rest1 (h0 : F.scope.names.lookup ("self" : Str) = some .local) (h1 : F.scope.names.lookup v = some .local) (hd : (v == ("__debug__" : Str)) = false) (hcd : (v == ("__classdict__" : Str)) = false) (T : OexC K C) (hf : PySem.W.findIn K (.ref C) fld = some none) :
    ∃ t, PSs (NdefX.ncx CX P w K mg base ["self", v, "__class__"] F f A outer s H E) [.Assign [.Attribute (.Name "self" q1) fld q2] (.Name v q3) q4] t ∧
      ∀ vs Q, spX1 C fld vs H Q E → t { nx := fun _ H' => Q .non H', rt := Q } (NdefX.startF ["self", v, "__class__"] vs [some (.ref C)]) H := by
  refine ⟨_, pss_one (ps_ost (pe_var (i := 0) rfl (.inl h0) (by decide) (by decide)) (pe_var (i := 1) rfl (.inl h1) hd hcd)), fun vs Q q => ?_⟩
  obtain ⟨a, y, rfl, ea, q⟩ := q
  exact ⟨y, rfl, .ref a, rfl, a, C, rfl, T, hf, .inl ⟨ea, fun dx n ne => q dx n ne⟩⟩
theorem rest2 (h0 : F.scope.names.lookup ("self" : Str) = some .local) (h1 : F.scope.names.lookup v1 = some .local) (hd1 : (v1 == ("__debug__" : Str)) = false) (hcd1 : (v1 == ("__classdict__" : Str)) = false)
    (h2 : F.scope.names.lookup v2 = some .local) (hd2 : (v2 == ("__debug__" : Str)) = false) (hcd2 : (v2 == ("__classdict__" : Str)) = false) (T : OexC K C) (hf1 : PySem.W.findIn K (.ref C) f1 = some none) (hf2 : PySem.W.findIn K (.ref C) f2 = some none) :
    ∃ t, PSs (NdefX.ncx CX P w K mg base ["self", v1, v2, "__class__"] F f A outer s H E) [.Assign [.Attribute (.Name "self" q1) f1 q2] (.Name v1 q3) q4, .Assign [.Attribute (.Name "self" r1) f2 r2] (.Name v2 r3) r4] t ∧
      ∀ vs Q, spX2 C f1 f2 vs H Q E → t { nx := fun _ H' => Q .non H', rt := Q } (NdefX.startF ["self", v1, v2, "__class__"] vs [some (.ref C)]) H := by
  refine ⟨_, pss_cons (ps_ost (pe_var (i := 0) rfl (.inl h0) (by decide) (by decide)) (pe_var (i := 1) rfl (.inl h1) hd1 hcd1)) (pss_one (ps_ost (pe_var (i := 0) rfl (.inl h0) (by decide) (by decide)) (pe_var (i := 2) rfl (.inl h2) hd2 hcd2))), fun vs Q q => ?_⟩
  obtain ⟨a, y, z, rfl, ea, q⟩ := q
  refine ⟨y, rfl, .ref a, rfl, a, C, rfl, T, hf1, .inl ⟨ea, fun dx n ne => ?_⟩⟩
  exact ⟨z, rfl, .ref a, rfl, a, C, rfl, T, hf2, .inr ⟨dx, _, upd_same, by rw [upd_ne ne, upd_same], by simp, q dx n ne⟩⟩
end

/-- x: an own exception's class at C, made as sp says -/
structure ExcC (P : Program) (w : World) (K : PySem.W.Frag) (mg : Str → Option Value) (base : Heap) (k : Nat) (x : Str) (C : Addr) (sp : Sp) : Prop where
  oex : OexC K C
  ex : ∃ fI fd ps, PySem.W.findIn K (.ref C) "__init__" = some (some (.ref fI)) ∧ PySem.W.typeIn K (.ref fI) = some (.type "function") ∧ FnOk P w K mg base (L2.CX P w) k fI fd ps sp ∧ Binds K fd ps []
  glob : mg x = some (.ref C)

section
variable {G : Nat → Addr} {X : Cx} {κ : Kd} {W : WX} {rm : Mode} {e ea eb : Expr} {x fld f1 f2 : Str} {k c : Nat} {p p1 pos : Pos} {f fa fb : LE → Res PV}
theorem delX_upd {H1 : Hp} {a d : Addr} {o1 o2 o3 : HO} (ha : H1 a = none) : upd (del (upd (upd (upd H1 a o1) d o2) a o3) a) d (.xd fs) = upd H1 d (.xd fs) := by
  funext b
  by_cases hd : b = d
  · rw [hd, upd_same, upd_same]
  · rw [upd_ne hd, upd_ne hd]
    by_cases hb : b = a
    · rw [hb, del_same, ha]
    · rw [del_ne hb, upd_ne hb, upd_ne hd, upd_ne hb]
theorem delX_upd2 {H1 : Hp} {a d : Addr} {o1 o2 o3 o4 : HO} (ha : H1 a = none) : upd (del (upd (upd (upd (upd H1 a o1) d o2) a o3) d o4) a) d (.xd fs) = upd H1 d (.xd fs) := by
  funext b
  by_cases hd : b = d
  · rw [hd, upd_same, upd_same]
  · rw [upd_ne hd, upd_ne hd]
    by_cases hb : b = a
    · rw [hb, del_same, ha]
    · rw [del_ne hb, upd_ne hd, upd_ne hb, upd_ne hd, upd_ne hb]
def sRaise (c : Nat) (fld : Str) (f : LE → Res PV) : LE → Fl := fun τ => rs (f τ) τ fun p => .ex c [(fld, p)] τ
theorem s_raise (hc : X.calm = true) (tk : Takes X W) (XC : ExcC X.prog X.w X.K X.mg X.base k x (G c) (spX1 (G c) fld)) (hr : Room (k + 1) X.A) (h : PE X e (tE G X.K .sh (WE W) κ f)) (hg : Gl X x := by rfl)
    (hdb : (x == ("__debug__" : Str)) = false := by decide) (he : starEach (e :: []) X.env = (false, eval e X.env) :: starEach [] X.env := by rfl) (hpl : (backTo p1 (starEach [] X.env)).any (·.1) = false := by rfl) :
    PS X (.Raise (some (.Call (.Name x p) [e] [] p1)) none pos) (tStm G X.K (WE W) κ rm (sRaise c fld f)) := by
  obtain ⟨oex, ⟨fI, fd, ps, iC, tI, F1, hb⟩, gl⟩ := XC
  refine ps_weak (ps_raise hc tk (pmk_oex oex iC tI F1 hr hb .nil passL hg gl (a_cons h a_nil he) hdb he hpl)) fun D σ H ⟨F0, H0, F, τ, zs, l, q⟩ => ?_
  refine ⟨F, τ, l.lc, ?_⟩
  unfold sRaise at q
  unfold aCons
  cases hf : f τ with
  | bad => rw [hf] at q; exact q.elim
  | exc c ps => rw [hf, rs_exc] at q; exact l.exc q
  | ok p =>
    rw [hf, rs_ok] at q
    intro vs F1 H1 e1 r1
    cases r1 with
    | cons r1 rn =>
      rename_i v vs
      cases rn
      refine ⟨by simp, fun a ha => ⟨a, v, rfl, upd_same, fun d hd hne => ⟨rfl, d, [(fld, v)], upd_same, by rw [upd_ne hne, upd_same], by rw [upd_ne hne] at hd; exact hd, ?_⟩⟩⟩
      rw [delX_upd ha]
      rw [upd_ne hne] at hd
      have e2 := e1.push (.xd [(fld, v)]) hd
      exact q σ _ _ d [(fld, v)] (l.of_ext e2) upd_same (.cons (Rep.mono (same_new (Same.free e1.sub hd)) r1) .nil)
def sRaise2 (c : Nat) (f1 f2 : Str) (fa fb : LE → Res PV) : LE → Fl := fun τ => rs (fa τ) τ fun p => rs (fb τ) τ fun q => .ex c [(f2, q), (f1, p)] τ
theorem s_raise2 (hc : X.calm = true) (tk : Takes X W) (XC : ExcC X.prog X.w X.K X.mg X.base k x (G c) (spX2 (G c) f1 f2)) (hr : Room (k + 1) X.A) (ha : PE X ea (tE G X.K .sh (WE W) κ fa)) (hb' : PE X eb (tE G X.K .sh (WE W) κ fb)) (hg : Gl X x := by rfl)
    (hdb : (x == ("__debug__" : Str)) = false := by decide) (he : starEach [ea, eb] X.env = (false, eval ea X.env) :: starEach [eb] X.env := by rfl) (he2 : starEach [eb] X.env = (false, eval eb X.env) :: starEach [] X.env := by rfl) (hpl : (backTo p1 (starEach [eb] X.env)).any (·.1) = false := by rfl) :
    PS X (.Raise (some (.Call (.Name x p) [ea, eb] [] p1)) none pos) (tStm G X.K (WE W) κ rm (sRaise2 c f1 f2 fa fb)) := by
  obtain ⟨oex, ⟨fI, fd, ps, iC, tI, F1, hb⟩, gl⟩ := XC
  refine ps_weak (ps_raise hc tk (pmk_oex oex iC tI F1 hr hb .nil passL hg gl (a_cons ha (a_cons hb' a_nil he2) he) hdb he hpl)) fun D σ H ⟨F0, H0, F, τ, zs, l, q⟩ => ?_
  refine ⟨F, τ, l.lc, ?_⟩
  unfold sRaise2 at q
  unfold aCons
  cases hf : fa τ with
  | bad => rw [hf] at q; exact q.elim
  | exc c ps => rw [hf, rs_exc] at q; exact l.exc q
  | ok p =>
    rw [hf, rs_ok] at q
    cases hg : fb τ with
    | bad => rw [hg] at q; exact q.elim
    | exc c ps =>
      rw [hg, rs_exc] at q
      simp only [Res.ok_bind, Res.exc_bind]
      exact l.exc q
    | ok p2 =>
      rw [hg, rs_ok] at q
      intro vs F1 H1 e1 r1
      cases r1 with
      | cons r1 rn =>
        rename_i v vs
        cases rn with
        | cons r2 rn =>
          rename_i v2 vs
          cases rn
          refine ⟨by simp, fun a ha => ⟨a, v, v2, rfl, upd_same, fun d hd hne => ⟨rfl, d, [(f2, v2), (f1, v)], by rw [upd_ne (Ne.symm hne), upd_same], upd_same, by rw [upd_ne hne] at hd; exact hd, ?_⟩⟩⟩
          rw [delX_upd2 ha]
          rw [upd_ne hne] at hd
          have e2 := e1.push (.xd [(f2, v2), (f1, v)]) hd
          have s2 := same_new (o := .xd [(f2, v2), (f1, v)]) (Same.free e1.sub hd)
          exact q σ _ _ d _ (l.of_ext e2) upd_same (.cons (Rep.mono s2 r2) (.cons (Rep.mono s2 r1) .nil))
end
end Lp
end
section
set_option Elab.async false
set_option linter.all false
set_option maxRecDepth 100000
namespace Lp
open PySem PySem.Spec L2

/-! ### defs and their calls -/
section
variable (G : Nat → Addr) (K : PySem.W.Frag)
/-- what a def promises: it answers as g -/
def spM (rm : Mode) (n : Nat) (g : List PV → Res PV) : Sp := fun vs H Q E => ∃ F ps, Same F H ∧ Reps G K F vs ps ∧ ps.length = n ∧ match g ps with
  | .ok p => ∀ v F' H', Ext F H F' H' → RM G K rm H F' H' v p → Q v H'
  | .exc c fs => ExcOk G K E F H c fs
  | .bad => False
end
def eFn (g : List PV → Res PV) (fa : LE → Res (List PV)) : LE → Res PV := fun τ => fa τ >>= g
/-- how a def's body ends, told to the caller -/
def fin (rm : Mode) (r : Fl) : Res PV := match r with
  | .rt p => .ok p
  | .nx _ => match rm with
    | .sh => .ok .non
    | _ => .bad
  | .ex c fs _ => .exc c fs
  | _ => .bad
structure Dk (P : Program) (w : World) (K : PySem.W.Frag) (mg : Str → Option Value) (base : Heap) (k : Nat) (x : Str) (sp : Sp) : Prop where
  ex : ∃ f fd ps, FnOk P w K mg base (L2.CX P w) k f fd ps sp ∧ mg x = some (.ref f) ∧ PySem.W.keepIn K (.ref f) = true ∧ Binds K fd ps []
def ar1 (m : PV → Res PV) : List PV → Res PV
  | [a] => m a
  | _ => .bad
def ar2 (m : PV → PV → Res PV) : List PV → Res PV
  | [a, b] => m a b
  | _ => .bad
def ar3 (m : PV → PV → PV → Res PV) : List PV → Res PV
  | [a, b, c] => m a b c
  | _ => .bad
def ar4 (m : PV → PV → PV → PV → Res PV) : List PV → Res PV
  | [a, b, c, d] => m a b c d
  | _ => .bad
def ar5 (m : PV → PV → PV → PV → PV → Res PV) : List PV → Res PV
  | [a, b, c, d, e] => m a b c d e
  | _ => .bad
def ar6 (m : PV → PV → PV → PV → PV → PV → Res PV) : List PV → Res PV
  | [a, b, c, d, e, f] => m a b c d e f
  | _ => .bad
theorem ar1_len {m} : ∀ ps, ar1 m ps ≠ .bad → ps.length = 1 := fun ps h => by unfold ar1 at h; split at h <;> first | rfl | exact absurd rfl h
theorem ar2_len {m} : ∀ ps, ar2 m ps ≠ .bad → ps.length = 2 := fun ps h => by unfold ar2 at h; split at h <;> first | rfl | exact absurd rfl h
theorem ar3_len {m} : ∀ ps, ar3 m ps ≠ .bad → ps.length = 3 := fun ps h => by unfold ar3 at h; split at h <;> first | rfl | exact absurd rfl h
theorem ar4_len {m} : ∀ ps, ar4 m ps ≠ .bad → ps.length = 4 := fun ps h => by unfold ar4 at h; split at h <;> first | rfl | exact absurd rfl h
theorem ar5_len {m} : ∀ ps, ar5 m ps ≠ .bad → ps.length = 5 := fun ps h => by unfold ar5 at h; split at h <;> first | rfl | exact absurd rfl h
theorem ar6_len {m} : ∀ ps, ar6 m ps ≠ .bad → ps.length = 6 := fun ps h => by unfold ar6 at h; split at h <;> first | rfl | exact absurd rfl h

section
variable {G : Nat → Addr} {K : PySem.W.Frag} {F H F' H' F0 H0 : Hp} {X : Cx} {v : V} {p : PV} {κ : Kd} {E : St → XK} {W : WX} {m md rm : Mode} {e : Expr} {es : List Expr} {pos p' : Pos} {zs : Option Addr} {σ : St} {τ : LE} {x : Str} {k n : Nat} {g : List PV → Res PV} {fa : LE → Res (List PV)}
theorem spM_len {vs : List V} {Q : VK} {E : XK} (h : spM G K rm n g vs H Q E) : vs.length = n := by
  obtain ⟨F, ps, _, r, e, _⟩ := h
  rw [r.length, e]
theorem v_call (D : Dk X.prog X.w X.K X.mg X.base k x (spM G X.K rm n g)) (hr : Room k X.A) (tk : Takes X W) (ha : PA X (e :: es) (tA G X.K .sh (WE W) κ fa)) (hL : ∀ ps, g ps ≠ .bad → ps.length = n) (hg : Gl X x := by rfl)
    (hdb : (x == ("__debug__" : Str)) = false := by decide) (he : starEach (e :: es) X.env = (false, eval e X.env) :: starEach es X.env := by rfl) (hpl : (backTo pos (starEach es X.env)).any (·.1) = false := by rfl) :
    PE X (.Call (.Name x p') (e :: es) [] pos) (tE G X.K rm (WE W) κ (eFn g fa)) := by
  obtain ⟨f, fd, ps, Fk, hm, hk, hb⟩ := D.ex
  refine pe_weak (pe_callS Fk hr hg hm hk hb (fun σ => passAt tk σ) ha hdb he hpl) fun σ H Q ⟨F, τ, l, q⟩ => ?_
  refine ⟨F, τ, l, ?_⟩
  unfold eFn at q
  cases hf : fa τ with
  | bad => rw [hf] at q; exact q
  | exc c ps => rw [hf] at q; exact q
  | ok qs =>
    rw [hf, Res.ok_bind] at q
    intro vs F1 H1 e1 r1
    refine ⟨F1, qs, e1.sub, r1.shared, hL qs fun z => by rw [z] at q; exact q, ?_⟩
    cases hg : g qs with
    | bad => rw [hg] at q; exact q
    | exc c ps => rw [hg] at q; exact ExcOk.ext q e1
    | ok p => rw [hg] at q; exact fun v F2 H2 e2 r2 => q v F2 H2 (e1.trans e2) (r2.before e1.h)

theorem start_shared {N : List Str} {vs : List V} {qs : List PV} (s : Same F H) (r : Reps G K F vs qs) (hκ : ∀ i, i < qs.length → κ i = false) (hl : qs.length ≤ N.length) : Lc G K κ F H (start N vs) (qs.map some ++ List.replicate (N.length - qs.length) none) := by
  have hlen := r.length
  have key : ∀ i p, (qs.map some ++ List.replicate (N.length - qs.length) none)[i]? = some (some p) → qs[i]? = some p := fun i p h => by
    by_cases hi : i < qs.length
    · rw [List.getElem?_append_left (by rw [List.length_map]; exact hi), List.getElem?_map] at h
      cases e : qs[i]? with
      | none => rw [e] at h; cases h
      | some a => rw [e] at h; cases h; rfl
    · rw [List.getElem?_append_right (by rw [List.length_map]; omega), List.getElem?_replicate] at h
      split at h <;> cases h
  refine ⟨s, ?_, fun i p h1 h2 => ?_, fun i p h1 h2 => ?_, fun i j p q a h1 h2 h3 h4 _ _ => ?_⟩
  · unfold L2.start
    rw [List.length_append, List.length_append, List.length_map, List.length_map, List.length_replicate, List.length_replicate, hlen]
  · obtain ⟨v, e, rv⟩ := r.get (key i p h1)
    refine ⟨v, ?_, rv⟩
    unfold L2.start
    have hi : i < vs.length := (List.getElem?_eq_some_iff.mp e).1
    rw [List.getElem?_append_left (by rw [List.length_map]; exact hi), List.getElem?_map, e]
    rfl
  · have hi := (List.getElem?_eq_some_iff.mp (key i p h1)).1
    rw [hκ i hi] at h2; cases h2
  · have hi := (List.getElem?_eq_some_iff.mp (key i p h3)).1
    rw [hκ i hi] at h1; cases h1
/-- a def by its body -/
theorem d_of {P : Program} {w : World} {mg : Str → Option Value} {base : Heap} {qual : Str} {st : Stmt} {f : Addr} {fd : FuncData} {N ps : List Str} {k : Nat} {m : LE → Fl} (Fn : Fun K x qual st f fd) (S : FnScope N ps (defScope st)) (hκ : ∀ i, i < ps.length → κ i = false)
    (hg : ∀ qs, qs.length = ps.length → g qs = fin rm (m (qs.map some ++ List.replicate (N.length - qs.length) none)))
    (hbody : ∀ (cdv : Value) (A : Around) (outer : List Env) (s : Shared) (H : Hp) (E : XK), Room k (A.deeper (PyProof.Rows.envOfC qual (defScope st) s.heap.objs.size f cdv)) →
      PSs (cxOf (L2.CX P w) P w K mg base N qual (defScope st) f cdv A outer s H E) (defBody st) (tStm G K (WE fun cls d _ H => E cls d H) κ rm m)) :
    FnOk P w K mg base (L2.CX P w) (k + 1) f fd ps (spM G K rm ps.length g) := by
  have hpl : ps.length ≤ N.length := by have := congrArg List.length S.pre; rw [List.length_take] at this; omega
  refine Fn.okX S (fun vs H Q E h => spM_len h) fun cdv A outer s H vs Q E hr hsp => ?_
  obtain ⟨F, qs, sm, r, hl, q⟩ := hsp
  refine ⟨_, hbody cdv A outer s H E hr, F, H, F, _, none, ⟨start_shared sm r (by rw [hl]; exact hκ) (by omega), Ext.refl sm, fun i p a h1 h2 h3 => ?_, fun a z => nomatch z⟩, ?_⟩
  · exfalso
    by_cases hi : i < qs.length
    · rw [hκ i (by omega)] at h1; cases h1
    · rw [List.getElem?_append_right (by rw [List.length_map]; omega), List.getElem?_replicate] at h2
      split at h2 <;> cases h2
  · rw [hg qs hl] at q
    cases hm : m (qs.map some ++ List.replicate (N.length - qs.length) none) with
    | bk τ => rw [hm] at q; exact q.elim
    | ct τ => rw [hm] at q; exact q.elim
    | bad => rw [hm] at q; exact q.elim
    | rt p => rw [hm] at q; exact q
    | ex c fs τ => rw [hm] at q; exact fun σ' F' H' d fs l h1 h2 => q d fs F' H' l.ext h1 h2
    | nx τ =>
      rw [hm] at q
      cases rm with
      | sh => exact fun σ' F' H' l => q .non F' H' l.ext .non
      | fr => exact q.elim
      | top => exact q.elim
end
end Lp
end
section
set_option Elab.async false
set_option linter.all false
set_option maxRecDepth 100000
namespace Lp
open PySem PySem.Spec L2

/-! ### try .. except -/
def noEx : Fl → Fl
  | .ex _ _ _ => .bad
  | r => r
/-- the name of the clause goes -/
def tidy (i : Nat) : Fl → Fl
  | .nx τ => .nx (τ.set i none)
  | .bk τ => .bk (τ.set i none)
  | .ct τ => .ct (τ.set i none)
  | .ex _ _ _ => .bad
  | r => r
def sTryO (cov : Nat → Option Bool) (mb ms : LE → Fl) : LE → Fl := fun τ => match mb τ with
  | .ex c fs τ1 => match cov c with
    | some true => noEx (ms τ1)
    | some false => .ex c fs τ1
    | none => .bad
  | r => r
section
variable {G : Nat → Addr} {F H F' H' F0 H0 : Hp} {X : Cx} {κ : Kd} {E : St → XK} {W : WX} {rm : Mode} {zs : Option Addr} {σ : St} {τ : LE} {x n f : Str} {body suite : List Stmt} {b₀ : Stmt} {np pos pos' : Pos} {cv : Value} {mb ms : LE → Fl} {cov : Nat → Option Bool} {i : Nat}
theorem s_tryO (cov : Nat → Option Bool) (hcov : ∀ c b, cov c = some b → PySem.W.exmOne X.K (.ref (G c)) cv = some b) (hc : Names X x cv) (tk : Takes X W)
    (hb : ∀ (W : WX) (pn : List (Addr × Obj)) (xe : Value → Shared → Prop), Takes (X.tr pn xe) W → PassesOwn (model X.prog X.w) X.A X.env xe → PSs (X.tr pn xe) body (tStm G X.K (WE W) κ rm mb))
    (hsu : ∀ (a : Addr) (oe : Obj) (pn : List (Addr × Obj)), PSs (X.suite a ((a, oe) :: pn)) (b₀ :: suite) (tStm G X.K (fun _ _ _ _ => False) κ rm ms))
    (hs : X.stack = X.env :: X.outer := by rfl) (hf : X.env.frame = some X.env.locals := by rfl) :
    PS X (.Try body [.ExceptHandler (some (.Name x np)) none (b₀ :: suite) pos'] [] [] pos) (tStm G X.K (WE W) κ rm (sTryO cov mb ms)) := by
  refine ps_weak (ps_try_only (tb := fun W => tStm G X.K (WE W) κ rm mb) (ts := fun _ _ _ => tStm G X.K (fun _ _ _ _ => False) κ rm ms) hs hf hc tk hb fun a oe cls d pn _ _ => hsu a oe pn) fun D σ H ⟨F0, H0, F, τ, zs, l, q⟩ => ?_
  refine ⟨F0, H0, F, τ, zs, l, ?_⟩
  unfold sTryO at q
  cases h : mb τ with
  | nx τ' => simp only [h] at q; exact q
  | bk τ' => simp only [h] at q; exact q
  | ct τ' => simp only [h] at q; exact q
  | rt p => simp only [h] at q; exact q
  | bad => simp only [h] at q
  | ex c fs τ1 =>
    simp only [h] at q
    intro σ' F' H' d fs' l' h1 h2
    cases hcv : cov c with
    | none => simp only [hcv] at q
    | some b =>
      refine ⟨b, hcov c b hcv, fun hbt => ?_, fun hbf => ?_⟩
      · subst hbt
        simp only [hcv] at q
        refine fun a _ => ⟨F0, H0, F', τ1, zs, l', ?_⟩
        cases hm : ms τ1 with
        | ex c fs τ2 => rw [hm] at q; exact q.elim
        | _ => rw [hm] at q; exact q
      · subst hbf
        simp only [hcv] at q
        exact q σ' F' H' d fs' l' h1 h2

/-- except x as n: slot i -/
def sTryA (cov : Nat → Option Bool) (i : Nat) (mb : LE → Fl) (ms : Addr → Addr → Nat → LE → Fl) : LE → Fl := fun τ => match mb τ with
  | .ex c fs τ1 => match cov c with
    | some true => if i < τ1.length then tidy i (ms 0 0 c (τ1.set i (some (.exn 0 0 c fs)))) else .bad
    | some false => .ex c fs τ1
    | none => .bad
  | r => r
theorem Ls.clear (l : Ls G X.K κ zs F0 H0 F H σ τ) (k : κ i = false) : Ls G X.K κ zs F0 H0 F H (σ.set i none) (τ.set i none) := by
  have nn : ∀ j (q : PV), (τ.set i none)[j]? = some (some q) → j ≠ i ∧ τ[j]? = some (some q) := fun j q h => by
    by_cases hj : i = j
    · subst hj
      rw [List.getElem?_set] at h
      simp only [if_true] at h
      split at h <;> cases h
    · rw [List.getElem?_set_ne hj] at h
      exact ⟨Ne.symm hj, h⟩
  refine ⟨⟨l.lc.sub, by rw [List.length_set, List.length_set]; exact l.lc.len, fun j q h1 h2 => ?_, fun j q h1 h2 => ?_, fun j1 j2 q1 q2 b h1 h2 h3 h4 h5 h6 => ?_⟩, l.ext, fun j q a h1 h2 h3 => ?_, fun a e => ⟨(l.me a e).1, by rw [List.getElem?_set_ne fun z => by rw [z] at k; rw [(l.me a e).1] at k; cases k]; exact (l.me a e).2⟩⟩
  · obtain ⟨hj, h⟩ := nn j q h1
    rw [List.getElem?_set_ne (Ne.symm hj)]
    exact l.lc.sh j q h h2
  · obtain ⟨hj, h⟩ := nn j q h1
    rw [List.getElem?_set_ne (Ne.symm hj)]
    exact l.lc.ow j q h h2
  · obtain ⟨hj1, h3⟩ := nn j1 q1 h3
    obtain ⟨hj2, h4⟩ := nn j2 q2 h4
    rw [List.getElem?_set_ne (Ne.symm hj1)] at h5
    rw [List.getElem?_set_ne (Ne.symm hj2)] at h6
    exact l.lc.ap j1 j2 q1 q2 b h1 h2 h3 h4 h5 h6
  · obtain ⟨hj, h⟩ := nn j q h2
    rw [List.getElem?_set_ne (Ne.symm hj)] at h3
    exact l.new j q a h1 h h3
theorem s_tryA (cov : Nat → Option Bool) (i : Nat) {ms : Addr → Addr → Nat → LE → Fl} (hcov : ∀ c b, cov c = some b → PySem.W.exmOne X.K (.ref (G c)) cv = some b) (hind : ∀ a d c fs (τ : LE), tidy i (ms a d c (τ.set i (some (.exn a d c fs)))) = tidy i (ms 0 0 c (τ.set i (some (.exn 0 0 c fs)))))
    (hc : Names X x cv) (tk : Takes X W)
    (hb : ∀ (W : WX) (pn : List (Addr × Obj)) (xe : Value → Shared → Prop), Takes (X.tr pn xe) W → PassesOwn (model X.prog X.w) X.A X.env xe → PSs (X.tr pn xe) body (tStm G X.K (WE W) κ rm mb))
    (hsu : ∀ (a d : Addr) (oe : Obj) (pn : List (Addr × Obj)) (c : Nat), cov c = some true → Zc (.ref (G c)) (some d) oe → (∃ vs, oe.data = .fields vs) → PSs (X.suite a ((a, oe) :: pn)) (b₀ :: suite) (tStm G X.K (fun _ _ _ _ => False) κ rm (ms a d c)))
    (hN : X.N.Nodup) (k : κ i = false := by rfl) (hi : X.N[i]? = some n := by rfl) (hln : X.env.kindOf n = some .local := by rfl)
    (hs : X.stack = X.env :: X.outer := by rfl) (hf : X.env.frame = some X.env.locals := by rfl) :
    PS X (.Try body [.ExceptHandler (some (.Name x np)) (some n) (b₀ :: suite) pos'] [] [] pos) (tStm G X.K (WE W) κ rm (sTryA cov i mb ms)) := by
  refine ps_weak (ps_try_as (tb := fun W => tStm G X.K (WE W) κ rm mb) (ts := fun a cls d D σ H => ∃ c dd, cls = .ref (G c) ∧ d = some dd ∧ cov c = some true ∧ tStm G X.K (fun _ _ _ _ => False) κ rm (ms a dd c) D σ H) hs hf hN hi hln hc tk hb
    fun a oe cls d pn hz hfl => ⟨fun pins s σ H D I ⟨c, dd, e1, e2, e3, h⟩ => ?_⟩) fun D σ H ⟨F0, H0, F, τ, zs, l, q⟩ => ?_
  · subst e1 e2
    exact (hsu a dd oe pn c e3 hz hfl).run pins s σ H D I h
  refine ⟨F0, H0, F, τ, zs, l, ?_⟩
  unfold sTryA at q
  cases h : mb τ with
  | nx τ' => simp only [h] at q; exact q
  | bk τ' => simp only [h] at q; exact q
  | ct τ' => simp only [h] at q; exact q
  | rt p => simp only [h] at q; exact q
  | bad => simp only [h] at q
  | ex c fs τ1 =>
    simp only [h] at q
    intro σ' F' H' d fs' l' h1 h2
    cases hcv : cov c with
    | none => simp only [hcv] at q
    | some b =>
      refine ⟨b, hcov c b hcv, fun hbt => ?_, fun hbf => ?_⟩
      · subst hbt
        simp only [hcv] at q
        by_cases hlt : i < τ1.length
        · rw [if_pos hlt] at q
          refine fun a ha => ⟨c, d, rfl, rfl, hcv, F0, H0, F', τ1.set i (some (.exn a d c fs)), zs, l'.set k hlt (.exn h1 h2), ?_⟩
          rw [← hind a d c fs τ1] at q
          cases hm : ms a d c (τ1.set i (some (.exn a d c fs))) with
          | ex c fs τ2 => rw [hm] at q; exact q.elim
          | bad => rw [hm] at q; exact q.elim
          | rt p => rw [hm] at q; exact q
          | nx τ2 => rw [hm] at q; exact fun σ2 F2 H2 l2 => q _ F2 H2 (l2.clear k)
          | bk τ2 => rw [hm] at q; exact fun σ2 F2 H2 l2 => q _ F2 H2 (l2.clear k)
          | ct τ2 => rw [hm] at q; exact fun σ2 F2 H2 l2 => q _ F2 H2 (l2.clear k)
        · rw [if_neg hlt] at q; exact q.elim
      · subst hbf
        simp only [hcv] at q
        exact q σ' F' H' d fs' l' h1 h2
end
end Lp
end
section
set_option Elab.async false
set_option linter.all false
set_option maxRecDepth 100000
namespace PySem.W
open PySem PySem.Spec PySem.Calls PyProof.Rows
section
variable {prog : Program} {w : World} {A : Around} {E : Value → Shared → Prop} {s : Shared} {K : Frag} {x D : Addr} {ox : Obj} {od : Option Obj}
theorem lp_findObj_data {C : Addr} {name : Str} {a g : Value} (hc : (clsIn K C).isSome = true) (ha : findIn K (.ref C) name = some (some a)) (hg : specialIn K a "__get__" = some (some g)) (ht : takesIn K a = some true) : findObj K C od name = some (.bind g a) := by
  obtain ⟨cd, hc⟩ := Option.isSome_iff_exists.mp hc
  unfold findObj
  rw [hc, Option.bind_some, ha, Option.bind_some]
  simp [hg, ht]
theorem lp_kin_classE {Q : Option Value → Shared → Prop} (hga : findIn K (.ref D) "__getattribute__" = some (some (.builtin "BaseException.__getattribute__"))) (hgt : findIn K (.ref D) "__getattr__" = some none) (hsub : subIn K (.ref D) (.type "BaseException") = some true)
    (hdct : hasDictIn K D = true) (ha : findIn K (.ref D) "__class__" = some (some (.builtin "object.__class__")))
    (hn : specialIn K (.builtin "object.__class__") "__get__" = some (some (.builtin "getset_descriptor.__get__"))) (htk : takesIn K (.builtin "object.__class__") = some true) (hm : mroIn K D (.type "object") = some true)
    (X : K.In s.heap) (I : InstAt s.heap x ox D od) (h : Q (some (.ref D)) { s with toks := s.toks + 1 }) : wpAny (model prog w) A (getAttr? (.ref x) "__class__") Q E s := by
  have hf : findObj K D od "__class__" = some (.bind (.builtin "getset_descriptor.__get__") (.builtin "object.__class__")) := lp_findObj_data (by obtain ⟨cd, hc, _⟩ := any_some hdct; rw [hc]; rfl) ha hn htk
  obtain ⟨hp, g, d, t, os⟩ := s
  have L0 := I.type (M := model prog w)
  have L1 := looks_findIn (M := model prog w) X hga
  have L2 := looks_findIn (M := model prog w) X hgt
  have L3 := looks_find (M := model prog w) X I hf
  have sub : Looks (model prog w) hp (isInstance (.ref x) (.type "BaseException")) true := L0.andThen (looks_subIn X hsub)
  have hx0 : (false && onTheHeap (Value.builtin "BaseException.__getattribute__")) = false := rfl
  have hx2 : (Value.builtin "BaseException.__getattribute__" == Value.builtin "object.__getattribute__") = false := by decide +kernel
  have hx1 : (onTheHeap (Value.ref D) && Value.builtin "BaseException.__getattribute__" == Value.builtin "object.__getattribute__") = false := by rw [hx2]; rfl
  unfold getAttr? getAttrBy? getAttrBy
  refine wpAny_bind (wpAny_mkText (wpAny_bind (wpAny_attempt (wpAny_holding (wpAny_bind (L0.at (wpAny_bind (L1.at ?_))))))))
  show wpAny _ _ (if (onTheHeap (Value.ref D) && Value.builtin "BaseException.__getattribute__" == Value.builtin "object.__getattribute__") = true then _ else _) _ _ _
  rw [hx1, if_neg Bool.false_ne_true]
  unfold getAttrByItsOwn hookBefore
  refine wpAny_bind ?_
  rw [if_pos (show onTheHeap (Value.ref D) = true from rfl)]
  refine L2.at ?_
  refine wpAny_bind (wpAny_attempt (wpAny_holding ?_))
  unfold callGetattribute
  rw [hx0, if_neg Bool.false_ne_true]
  unfold boundAndCalled
  rw [PySem.F.excAttr_ValueError.ga.bind (.ref x)]
  refine wpAny_bind (wpAny_pure ?_)
  show wpAny _ _ (call (.builtin "BaseException.__getattribute__") [.ref x, .str "__class__" t]) _ _ _
  refine wpAny_call (codeAny_call_builtin PySem.F.excAttr_ValueError.ga.plain PySem.F.entry_bexc_ga ?_)
  refine @check_slot (model prog w) _ _ ⟨hp, g, d, t + 1, os⟩ "BaseException.__getattribute__" "BaseException" "__getattribute__" (.ref x) [.str "__class__" t] [] _ (by decide +kernel) (by decide +kernel) sub (PySem.F.args_bexc_ga (.ref x) (.str "__class__" t)) ?_
  unfold Builtin.«object.__getattribute__»
  refine wpAny_bind (wpAny_of_eq (a := ((Value.ref x : Value), [Value.str "__class__" t])) (by first | rfl | (simp only [slotArgs]; rfl)) ?_)
  refine wpAny_bind (wpAny_pure (wpAny_bind (L0.at (wpAny_bind (L3.at ?_)))))
  show wpAny _ _ (holding [Value.builtin "object.__class__"] (call (.builtin "getset_descriptor.__get__") [.builtin "object.__class__", .ref x, .ref D]) >>= ret) _ _ _
  refine wpAny_bind (wpAny_holding (wpAny_call (class_get (s := ⟨hp, g, d, t + 1, os⟩) (ox := ox) (od := od) X I hm ?_)))
  refine wpAny_pure ?_
  show wpAny _ _ (handedOut (.ref D)) _ _ _
  rw [handedOut_of (v := .ref D) rfl]
  first
    | exact wpAny_pure (wpAny_pure h)
    | exact wpAny_pure h
    | exact wpAny_pure (wpAny_bind (wpAny_pure (wpAny_pure h)))
theorem lp_kitx_exc (hga : findIn K (.ref D) "__getattribute__" = some (some (.builtin "BaseException.__getattribute__"))) (hgt : findIn K (.ref D) "__getattr__" = some none) (hsub : subIn K (.ref D) (.type "BaseException") = some true) (hdct : hasDictIn K D = true) (ha : findIn K (.ref D) "__class__" = some (some (.builtin "object.__class__")))
    (hn : specialIn K (.builtin "object.__class__") "__get__" = some (some (.builtin "getset_descriptor.__get__"))) (htk : takesIn K (.builtin "object.__class__") = some true) (hm : mroIn K D (.type "object") = some true) :
    KitX K (.ref x) (.ref D) (fun h => InstAt h x ox D od) where
  ty := fun _ _ _ I => I.type
  it := fun _ _ X _ => by
    obtain ⟨cdD, hcD, _⟩ := any_some hdct
    unfold clsIn at hcD
    split at hcD
    · rename_i c' d' cd' sl' ho
      intro A' Q' E' s' k q
      unfold isType loadHead
      exact wpAny_bind (wpAny_loadPart (k _ _ (X _ _ ho)) (wpAny_pure q))
    · cases hcD
  ne := fun h tp dd its n sl X htp => by
    obtain ⟨cdD, hcD, _⟩ := any_some hdct
    refine Bool.eq_false_iff.mpr fun q => ?_
    have e : D = tp := Value.ref.inj (beq_iff_eq.mp q)
    subst e
    unfold clsIn at hcD
    split at hcD
    · rename_i c' d' cd' sl' ho
      have z := (X _ _ ho).symm.trans htp
      cases z
    · cases hcD
  ca := fun X I k => lp_kin_classE hga hgt hsub hdct ha hn htk hm X I k
end
end PySem.W
namespace L2
open PySem PySem.Spec PyProof.Rows
/-- isinstance(e, c), e the exception (with its dict at dd) that the suite holds -/
def rIsD (K : PySem.W.Frag) (D a dd : Addr) : List V → Hp → VK → Prop := fun xs H Q => ∃ (c : V) (cv : Value) (b : Bool) (fs : List (Str × V)), xs = [.ref a, c] ∧ H dd = some (.xd fs) ∧ (∀ u, RelV c u → u = cv) ∧ PySem.W.kitOne K (.ref D) cv = some b ∧ Q (.bl b) H
theorem call_isD {X : Cx} {a D dd : Addr} {oe : Obj} {pn : List (Addr × Obj)} (C : L2.ExcC X.K D) (hz : Zc (.ref D) (some dd) oe) (hf : ∃ vs, oe.data = .fields vs) : CallR (X.suite a ((a, oe) :: pn)) (.builtin "isinstance") (rIsD X.K D a dd) := by
  intro pins s σ H xs us Q I r h
  obtain ⟨c, cv, b, fs, rfl, hd, hcv, e, q⟩ := h
  cases r with
  | cons rx rr =>
    cases rr with
    | cons rt rr =>
      cases rr
      cases rx
      have ec := hcv _ rt
      subst ec
      obtain ⟨hget, _⟩ := I.pin (a, oe) (List.mem_append.mpr (.inl List.mem_cons_self))
      obtain ⟨vs, hv⟩ := hf
      have hx : ObjOk X.prog X.w H s.heap dd (.xd fs) := I.hok dd _ hd
      obtain ⟨mA, hns, hr⟩ := hx
      obtain ⟨od, ho, hl⟩ := lookIn_ns hns
      have J : PySem.W.InstAt s.heap a oe D (some od) := ⟨hget, hz.1, by unfold PySem.W.notCls; rw [hv] <;> rfl, by rw [hz.2]; exact ho⟩
      exact PySem.W.kia_one (PySem.W.lp_kitx_exc C.hg C.hk C.hs C.hd C.ha C.hn C.ht C.hm) I.kIn J e (fun z => nomatch z) fun tk => ⟨.bl b, H, I.kept (t' := tk) fun _ _ z => z, rfl, q⟩
end L2
end
section
set_option Elab.async false
set_option linter.all false
set_option maxRecDepth 100000
namespace Lp
open PySem PySem.Spec L2

section
variable {G : Nat → Addr} {F H F' H' F0 H0 : Hp} {X : Cx} {v : V} {p : PV} {κ : Kd} {E : St → XK} {W : WX} {m md rm : Mode} {e e' o iv : Expr} {es : List Expr} {pos p' pos' tpos apos : Pos} {zs : Option Addr} {σ : St} {τ : LE} {x f fld : Str} {k n c : Nat} {fi fe : LE → Res PV}

def onLst (t : Option (Option PV)) (f : List PV → Fl) : Fl := match t with
  | some (some (.lst ps)) => f ps
  | _ => .bad
def onDK (t : Option (Option PV)) (f : List (Key × PV) → Fl) : Fl := match t with
  | some (some (.dK ps)) => f ps
  | _ => .bad
def onIns (t : Option (Option PV)) (f : Nat → List (Str × PV) → Fl) : Fl := match t with
  | some (some (.ins c ps)) => f c ps
  | _ => .bad
@[simp] theorem onLst_ok (ps : List PV) (f : List PV → Fl) : onLst (some (some (.lst ps))) f = f ps := (rfl)
@[simp] theorem onDK_ok (ps : List (Key × PV)) (f : List (Key × PV) → Fl) : onDK (some (some (.dK ps))) f = f ps := (rfl)
@[simp] theorem onIns_ok (c : Nat) (ps : List (Str × PV)) (f : Nat → List (Str × PV) → Fl) : onIns (some (some (.ins c ps))) f = f c ps := (rfl)
theorem onLst_or (t : Option (Option PV)) (f : List PV → Fl) : (∃ ps, t = some (some (.lst ps))) ∨ onLst t f = .bad := by
  unfold onLst
  split
  · exact .inl ⟨_, rfl⟩
  · exact .inr rfl
theorem onDK_or (t : Option (Option PV)) (f : List (Key × PV) → Fl) : (∃ ps, t = some (some (.dK ps))) ∨ onDK t f = .bad := by
  unfold onDK
  split
  · exact .inl ⟨_, rfl⟩
  · exact .inr rfl
theorem onIns_or (t : Option (Option PV)) (f : Nat → List (Str × PV) → Fl) : (∃ c ps, t = some (some (.ins c ps))) ∨ onIns t f = .bad := by
  unfold onIns
  split
  · exact .inl ⟨_, _, rfl⟩
  · exact .inr rfl
/-! ### xs[i] = e -/
def sSetI (i : Nat) (fi fe : LE → Res PV) : LE → Fl := fun τ => rs (fe τ) τ fun p => onLst τ[i]? fun ps => rs (fi τ) τ fun q => match q with
    | .int k => match ixN ps.length k with
      | some j => .nx (τ.set i (some (.lst (ps.set j p))))
      | none => .bad
    | _ => .bad
theorem s_setI (i : Nat) (hi : PE X iv (tE G X.K .sh E κ fi)) (he : PE X e (tE G X.K .sh E κ fe)) (k : κ i = true := by rfl) (hN : X.N[i]? = some x := by rfl) (hv : Vis X.env.scope x := by first | exact Or.inl rfl | exact Or.inr (Or.inl rfl) | exact Or.inr (Or.inr rfl)) (hd : (x == ("__debug__" : Str)) = false := by decide)
    (hcd : (x == ("__classdict__" : Str)) = false := by decide) (hs : swapsWithSole [.Subscript (.Name x p') iv pos'] e pos.line X.env = pure false := by rfl) (hw : swappedStores [.Subscript (.Name x p') iv pos'] e X.env = pure none := by rfl)
    (h1 : (assignEach [.Subscript (.Name x p') iv pos'] X.env).map (·.2) = [assign (.Subscript (.Name x p') iv pos') X.env] := by rfl)
    (ha : ∀ v, assign (.Subscript (.Name x p') iv pos') X.env v = (do
      let ov ← holding [v] (eval (.Name x p') X.env)
      let iv ← holding [v, ov] (eval iv X.env)
      standAt pos'
      holding [v, ov, iv] (setItem ov iv v)
      release [v, ov, iv] []) := by intro _; rfl) : PS X (.Assign [.Subscript (.Name x p') iv pos'] e pos) (tStm G X.K E κ rm (sSetI i fi fe)) :=
  ps_weak (ps_asg he (pg_sub (pe_var hN hv hd hcd) hi set_list ha) hs hw h1) fun D σ H ⟨F0, H0, F, τ, zs, l, q⟩ => by
    refine ⟨F, τ, l.lc, ?_⟩
    unfold sSetI at q
    cases h : fe τ with
    | bad => rw [h] at q; exact q.elim
    | exc c ps => rw [h, rs_exc] at q; exact l.exc q
    | ok pv =>
      rw [h, rs_ok] at q
      intro v F1 H1 e1 r1
      have l1 := l.of_ext e1
      rcases onLst_or τ[i]? _ with ⟨ps, ht⟩ | hb
      case inr => rw [hb] at q; exact q.elim
      obtain ⟨a, e2, hF, ow⟩ := l1.lc.ow i _ ht k
      simp only [ht, onLst_ok, onDK_ok, onIns_ok] at q
      refine ⟨.ref a, e2, F1, τ, l1.lc, ?_⟩
      cases h2 : fi τ with
      | bad => rw [h2] at q; exact q.elim
      | exc c ps => rw [h2, rs_exc] at q; exact l1.exc q
      | ok pi =>
        rw [h2, rs_ok] at q
        intro w F2 H2 e3 r3
        have l2 := l1.of_ext e3
        cases pi with
        | int kk =>
          simp only at q
          cases hj : ixN ps.length kk with
          | none => simp only [hj] at q
          | some j =>
            simp only [hj] at q
            obtain ⟨a', e2', hF', vs, hH, rr⟩ := l2.lc.ow i _ ht k
            rw [e2] at e2'
            cases e2'
            refine ⟨a, vs, kk, j, rfl, r3.int_inv, hH, by rw [rr.length]; exact hj, ?_⟩
            exact q σ F2 _ (l2.write k ht e2 ⟨_, upd_same, Reps.set (Rep.mono e3.f r1) j rr⟩)
        | _ => exact q.elim
/-! ### d[k] = e, del d[k] -/
def sPut (i : Nat) (fi fe : LE → Res PV) : LE → Fl := fun τ => rs (fe τ) τ fun p => onDK τ[i]? fun kvs => rs (fi τ) τ fun q => match keyP q with
    | some k => if kvs.length < 1000000 then .nx (τ.set i (some (.dK (setP kvs k p)))) else .bad
    | none => .bad
theorem s_put (i : Nat) (hu : X.A.units + 1 < cLine) (hi : PE X iv (tE G X.K .sh E κ fi)) (he : PE X e (tE G X.K .sh E κ fe)) (k : κ i = true := by rfl) (hN : X.N[i]? = some x := by rfl) (hv : Vis X.env.scope x := by first | exact Or.inl rfl | exact Or.inr (Or.inl rfl) | exact Or.inr (Or.inr rfl)) (hd : (x == ("__debug__" : Str)) = false := by decide)
    (hcd : (x == ("__classdict__" : Str)) = false := by decide) (hs : swapsWith e (some (.Subscript (.Name x p') iv pos')) pos.line X.env = pure false := by rfl) : PS X (.Assign [.Subscript (.Name x p') iv pos'] e pos) (tStm G X.K E κ rm (sPut i fi fe)) :=
  ps_weak (ps_dput hu (pe_var hN hv hd hcd) hi he hs) fun D σ H ⟨F0, H0, F, τ, zs, l, q⟩ => by
    refine ⟨F, τ, l.lc, ?_⟩
    unfold sPut at q
    cases h : fe τ with
    | bad => rw [h] at q; exact q.elim
    | exc c ps => rw [h, rs_exc] at q; exact l.exc q
    | ok pv =>
      rw [h, rs_ok] at q
      intro v F1 H1 e1 r1
      have l1 := l.of_ext e1
      rcases onDK_or τ[i]? _ with ⟨ps, ht⟩ | hb
      case inr => rw [hb] at q; exact q.elim
      obtain ⟨a, e2, hF, ow⟩ := l1.lc.ow i _ ht k
      simp only [ht, onLst_ok, onDK_ok, onIns_ok] at q
      refine ⟨.ref a, e2, F1, τ, l1.lc, ?_⟩
      cases h2 : fi τ with
      | bad => rw [h2] at q; exact q.elim
      | exc c ps => rw [h2, rs_exc] at q; exact l1.exc q
      | ok pi =>
        rw [h2, rs_ok] at q
        intro w F2 H2 e3 r3
        have l2 := l1.of_ext e3
        cases hk : keyP pi with
        | none => simp only [hk] at q
        | some kk =>
          simp only [hk] at q
          by_cases hl : ps.length < 1000000
          · rw [if_pos hl] at q
            obtain ⟨a', e2', hF', kvs, hH, rr⟩ := l2.lc.ow i _ ht k
            rw [e2] at e2'
            cases e2'
            have hw := keyP_rep r3 hk
            subst hw
            refine ⟨a, _, rfl, DPut.k hH (by rw [rr.length, sizeLine_eq]; omega), ?_⟩
            exact q σ F2 _ (l2.write k ht e2 ⟨_, upd_same, RepK.set rr (Rep.mono e3.f r1)⟩)
          · rw [if_neg hl] at q; exact q.elim
def sDel (i : Nat) (fi : LE → Res PV) : LE → Fl := fun τ => onDK τ[i]? fun kvs => rs (fi τ) τ fun q => match keyP q with
    | some k => if hasP kvs k then .nx (τ.set i (some (.dK (dropP kvs k)))) else .bad
    | none => .bad
theorem s_del (i : Nat) (hi : PE X iv (tE G X.K .sh E κ fi)) (k : κ i = true := by rfl) (hN : X.N[i]? = some x := by rfl) (hv : Vis X.env.scope x := by first | exact Or.inl rfl | exact Or.inr (Or.inl rfl) | exact Or.inr (Or.inr rfl)) (hd : (x == ("__debug__" : Str)) = false := by decide)
    (hcd : (x == ("__classdict__" : Str)) = false := by decide) : PS X (.Delete [.Subscript (.Name x p') iv pos'] pos) (tStm G X.K E κ rm (sDel i fi)) :=
  ps_weak (ps_ddel (pe_var hN hv hd hcd) hi) fun D σ H ⟨F0, H0, F, τ, zs, l, q⟩ => by
    unfold sDel at q
    rcases onDK_or τ[i]? _ with ⟨ps, ht⟩ | hb
    case inr => rw [hb] at q; exact q.elim
    obtain ⟨a, e2, hF, ow⟩ := l.lc.ow i _ ht k
    simp only [ht, onLst_ok, onDK_ok, onIns_ok] at q
    refine ⟨.ref a, e2, F, τ, l.lc, ?_⟩
    cases h2 : fi τ with
    | bad => rw [h2] at q; exact q.elim
    | exc c ps => rw [h2, rs_exc] at q; exact l.exc q
    | ok pi =>
      rw [h2, rs_ok] at q
      intro w F2 H2 e3 r3
      have l2 := l.of_ext e3
      cases hk : keyP pi with
      | none => simp only [hk] at q
      | some kk =>
        simp only [hk] at q
        by_cases hh : hasP ps kk = true
        · rw [if_pos hh] at q
          obtain ⟨a', e2', hF', kvs, hH, rr⟩ := l2.lc.ow i _ ht k
          rw [e2] at e2'
          cases e2'
          have hw := keyP_rep r3 hk
          subst hw
          have hs : (valV kvs kk).isSome = true := by
            rw [hasP_val] at hh
            rcases rr.val (k := kk) with ⟨_, z⟩ | ⟨v, p, z1, z2, _⟩
            · rw [z] at hh; cases hh
            · rw [z1]; rfl
          refine ⟨a, kvs, kk, rfl, hH, rfl, hs, ?_⟩
          exact q σ F2 _ (l2.write k ht e2 ⟨_, upd_same, RepK.drop rr⟩)
        · rw [if_neg hh] at q; exact q.elim
/-! ### self.f = e in __init__ (slot 0 is owned) -/
def sFld (i : Nat) (cl : Nat) (f : Str) (fe : LE → Res PV) : LE → Fl := fun τ => rs (fe τ) τ fun p => onIns τ[i]? fun c fs => if c = cl ∧ fs.length < 1000 then .nx (τ.set i (some (.ins c (putP f p fs)))) else .bad
theorem s_fld (i : Nat) (cl : Nat) (hC : Cls X.K (G cl)) (hno : NoAttr X.K (G cl) fld) (he : PE X e (tE G X.K .sh E κ fe)) (k : κ i = true := by rfl) (hN : X.N[i]? = some x := by rfl) (hv : Vis X.env.scope x := by first | exact Or.inl rfl | exact Or.inr (Or.inl rfl) | exact Or.inr (Or.inr rfl)) (hd : (x == ("__debug__" : Str)) = false := by decide)
    (hcd : (x == ("__classdict__" : Str)) = false := by decide) (hs : swapsWith e (some (.Attribute (.Name x p') fld pos')) pos.line X.env = pure false := by rfl) : PS X (.Assign [.Attribute (.Name x p') fld pos'] e pos) (tStm G X.K E κ rm (sFld i cl fld fe)) :=
  ps_weak (ps_fld (pe_var hN hv hd hcd) he hs) fun D σ H ⟨F0, H0, F, τ, zs, l, q⟩ => by
    refine ⟨F, τ, l.lc, ?_⟩
    unfold sFld at q
    cases h : fe τ with
    | bad => rw [h] at q; exact q.elim
    | exc c ps => rw [h, rs_exc] at q; exact l.exc q
    | ok pv =>
      rw [h, rs_ok] at q
      intro v F1 H1 e1 r1
      have l1 := l.of_ext e1
      rcases onIns_or τ[i]? _ with ⟨c, ps, ht⟩ | hb
      case inr => rw [hb] at q; exact q.elim
      obtain ⟨a, e2, hF, dx, fs, hH, rr⟩ := l1.lc.ow i _ ht k
      simp only [ht, onIns_ok] at q
      by_cases hl : c = cl ∧ ps.length < 1000
      · rw [if_pos hl] at q
        obtain ⟨rfl, hl⟩ := hl
        exact ⟨.ref a, e2, a, G c, dx, fs, rfl, hH, hC, hno, by rw [rr.length]; exact hl, q σ F1 _ (l1.write k ht e2 ⟨dx, _, upd_same, RepF.put r1 rr⟩)⟩
      · rw [if_neg hl] at q; exact q.elim
/-! ### e.f of an instance -/
def eAtt (ok : Nat → Bool) (f : Str) (fe : LE → Res PV) : LE → Res PV := fun τ => fe τ >>= fun p => match p with
  | .ins c fs => if ok c then (match fs.lookup f with
    | some q => .ok q
    | none => .bad) else .bad
  | _ => .bad
theorem v_att (ok : Nat → Bool) (hA : ∀ c, ok c = true → Cls X.K (G c) ∧ NoAttr X.K (G c) fld) (he : PE X e (tE G X.K m E κ fe)) (hb : attributeBase e fld X.env (eval e X.env) = eval e X.env := by rfl) : PE X (.Attribute e fld pos) (tE G X.K .sh E κ (eAtt ok fld fe)) :=
  pe_weak (pe_fld he hb) fun σ H Q ⟨F, τ, l, q⟩ => by
    refine ⟨F, τ, l, ?_⟩
    unfold eAtt at q
    cases h : fe τ with
    | bad => rw [h] at q; exact q
    | exc c ps => rw [h] at q; exact q
    | ok p =>
      rw [h, Res.ok_bind] at q
      intro v F1 H1 e1 r1
      cases p with
      | ins c fs =>
        simp only at q
        by_cases ho : ok c = true
        · rw [if_pos ho] at q
          cases hl : fs.lookup fld with
          | none => simp only [hl] at q
          | some z =>
            simp only [hl] at q
            have key : ∃ a dx vs, v = .ref a ∧ H1 a = some (.ins (G c) dx vs) ∧ RepF G X.K F1 vs fs := by
              rcases r1.top with r | ⟨a, rfl, _, o⟩
              · obtain ⟨a, dx, vs, rfl, hF, rr⟩ := r.ins_inv
                exact ⟨a, dx, vs, rfl, e1.sub _ _ hF, rr⟩
              · obtain ⟨dx, vs, hH, rr⟩ := o
                exact ⟨a, dx, vs, rfl, hH, rr⟩
            obtain ⟨a, dx, vs, rfl, hH, rr⟩ := key
            obtain ⟨w, hw, rw'⟩ := rr.lookup hl
            exact ⟨a, G c, dx, vs, w, rfl, hH, (hA c ho).1, (hA c ho).2, hw, q w F1 H1 e1 rw'⟩
        · rw [if_neg ho] at q; exact q.elim
      | _ => exact q.elim
end
end Lp
end
section
set_option Elab.async false
set_option linter.all false
set_option maxRecDepth 100000
namespace Lp
open PySem PySem.Spec L2

/-! ### isinstance -/
/-- is it one of the built-in type n? -/
def PV.isa (n : String) : PV → Option Bool
  | .non => some false
  | .bl _ => some (n == "bool" || n == "int")
  | .int _ => some (n == "int")
  | .str _ => some (n == "str")
  | .tup _ => some (n == "tuple")
  | .lst _ => some (n == "list")
  | .scr _ => some (n == "list")
  | .dK _ => some (n == "dict")
  | _ => none
def PV.tyN : PV → Option String
  | .non => some "NoneType"
  | .bl _ => some "bool"
  | .int _ => some "int"
  | .str _ => some "str"
  | .tup _ => some "tuple"
  | .lst _ => some "list"
  | .scr _ => some "list"
  | .dK _ => some "dict"
  | _ => none
def isaKnown (n : String) : Bool := n == "int" || n == "bool" || n == "str" || n == "tuple" || n == "list" || n == "dict"
theorem isa_kit {K : PySem.W.Frag} {p : PV} {n t : String} {b : Bool} (hn : isaKnown n = true) (h : p.isa n = some b) (ht : p.tyN = some t) : PySem.W.kitOne K (.type t) (.type n) = some b := by
  unfold isaKnown at hn
  simp only [Bool.or_eq_true, beq_iff_eq] at hn
  rcases hn with ((((rfl | rfl) | rfl) | rfl) | rfl) | rfl <;> cases p <;> first | (cases ht; done) | (cases ht; cases h; exact kit_ty (by decide +kernel))
section
variable {G : Nat → Addr} {K : PySem.W.Frag} {F H F' H' F0 H0 : Hp} {X : Cx} {v : V} {p : PV} {κ : Kd} {E : St → XK} {W : WX} {m md rm : Mode} {e e' o iv : Expr} {es : List Expr} {pos p' p1 p2 p3 p4 pos' tpos apos : Pos} {σ : St} {τ : LE} {x f fld : Str} {k n c : Nat} {fi fe : LE → Res PV} {g : List PV → Res PV} {fa : LE → Res (List PV)}
theorem isa_ty {n : String} {b : Bool} (h : p.isa n = some b) : ∃ t, p.tyN = some t := by
  cases p <;> first | exact ⟨_, rfl⟩ | cases h
theorem tyx_of (s : Same F H) (r : Top G K F H v p) {t : String} (ht : p.tyN = some t) : TyX K H v (.type t) := by
  rcases r with r | ⟨a, rfl, _, o⟩
  · cases r with
    | non => cases ht; exact .base .non
    | bl b => cases ht; exact .base (.bl b)
    | int b => cases ht; exact .base (.int b)
    | str b => cases ht; exact .base (.str b)
    | ty n => cases ht
    | exn _ _ => cases ht
    | ins _ _ => cases ht
    | scr h =>
      cases ht
      rcases h with (h | ⟨o, h⟩) | ⟨o, its, n, h, hc, _⟩
      · exact .base (.lst (s _ _ h))
      · exact .base (.frz (s _ _ h))
      · exact .kList h hc
    | tup h _ =>
      cases ht
      rcases h with (h | ⟨o, h⟩) | ⟨o, its, n, h, hc, _⟩
      · exact .base (.tup (s _ _ h))
      · exact .fTuple (s _ _ h)
      · exact .kTuple h hc
    | lst h _ =>
      cases ht
      rcases h with h | ⟨o, h⟩
      · exact .base (.lst (s _ _ h))
      · exact .base (.frz (s _ _ h))
    | dK h _ => cases ht; exact .base (.dK (s _ _ h))
  · cases p with
    | lst ps => cases ht; obtain ⟨vs, h, _⟩ := o; exact .base (.lst h)
    | dK ps => cases ht; obtain ⟨vs, h, _⟩ := o; exact .base (.dK h)
    | ins c ps => cases ht
    | _ => exact o.elim
def pIsi : List PV → Option PV
  | [p, .ty n] => if isaKnown n then (p.isa n).map .bl else none
  | _ => none
theorem g_isi : CalV G K (rIsi K) .sh pIsi := by
  intro F H xs ps z Q s r hz k
  unfold pIsi at hz
  split at hz
  · rename_i p n
    obtain ⟨v, w, rfl, rv, rw'⟩ := r.two
    by_cases hn : isaKnown n = true
    · rw [if_pos hn] at hz
      cases hb : p.isa n with
      | none => rw [hb] at hz; cases hz
      | some b =>
        rw [hb] at hz
        cases hz
        obtain ⟨t, ht⟩ := isa_ty hb
        have hw : w = .ty n := by
          rcases rw' with q | ⟨a, _, _, o⟩
          · exact q.ty_inv
          · exact o.elim
        subst hw
        exact ⟨v, .ty n, .type t, .type n, b, rfl, .ty n, tyx_of s rv ht, isa_kit hn hb ht, k _ F H (Ext.refl s) (.bl _)⟩
    · rw [if_neg hn] at hz; cases hz
  · cases hz
/-- isinstance(e, (A, B)) -/
def eIsi2 (a b : String) (fe : LE → Res PV) : LE → Res PV := fun τ => fe τ >>= fun p => match p.isa a, p.isa b with
  | some x, some y => .ok (.bl (x || y))
  | _, _ => .bad
theorem v_isi2 (a b : String) {x1 : Nat} {sa sb : Str} (he : PE X e (tE G X.K m E κ fe)) (hm : X.mg "isinstance" = none) (ma : X.mg sa = none) (mb : X.mg sb = none) (va : bootBuiltins sa = some (.type a)) (vb : bootBuiltins sb = some (.type b))
    (hka : isaKnown a = true := by decide) (hkb : isaKnown b = true := by decide) (hv : bootBuiltins "isinstance" = some (.builtin "isinstance") := by kernel_rfl) (hg : Gl X "isinstance" := by rfl) (ga : Gl X sa := by rfl) (gb : Gl X sb := by rfl)
    (na : sa ≠ "__name__" := by decide) (nb : sb ≠ "__name__" := by decide) (da : (sa == ("__debug__" : Str)) = false := by decide) (db : (sb == ("__debug__" : Str)) = false := by decide)
    (h1 : starEach [e, .Tuple [.Name sa p1, .Name sb p2] x1 p3] X.env = (false, eval e X.env) :: starEach [.Tuple [.Name sa p1, .Name sb p2] x1 p3] X.env := by rfl)
    (h2 : starEach [.Tuple [.Name sa p1, .Name sb p2] x1 p3] X.env = (false, eval (.Tuple [.Name sa p1, .Name sb p2] x1 p3) X.env) :: starEach [] X.env := by rfl)
    (h3 : starEach [.Name sa p1, .Name sb p2] X.env = (false, eval (.Name sa p1) X.env) :: starEach [.Name sb p2] X.env := by rfl) (h4 : starEach [.Name sb p2] X.env = (false, eval (.Name sb p2) X.env) :: starEach [] X.env := by rfl)
    (hpl : (backTo pos (starEach [.Tuple [.Name sa p1, .Name sb p2] x1 p3] X.env)).any (·.1) = false := by rfl) :
    PE X (.Call (.Name "isinstance" p') [e, .Tuple [.Name sa p1, .Name sb p2] x1 p3] [] pos) (tE G X.K .sh E κ (eIsi2 a b fe)) :=
  pe_weak (pe_callB call_isiT hg hm hv (pa_cons he (pa_cons (pe_tup (pa_cons (pe_bltn (v := .ty a) ga ma va rfl na da) (pa_cons (pe_bltn (v := .ty b) gb mb vb rfl nb db) pa_nil h4) h3)) pa_nil h2) h1) (by decide) (by decide) h1 hpl) fun σ H Q ⟨F, τ, l, q⟩ => by
    refine ⟨F, τ, l, ?_⟩
    unfold eIsi2 at q
    cases hf : fe τ with
    | exc c ps => rw [hf] at q; exact q
    | bad => rw [hf] at q; exact q
    | ok p =>
      rw [hf, Res.ok_bind] at q
      intro v F1 H1 e1 r1
      refine ⟨by rw [sizeLine_eq]; show 2 ≤ 16777216; omega, fun tp htp => ?_⟩
      cases ha : p.isa a with
      | none => simp only [ha] at q
      | some ba =>
        cases hb : p.isa b with
        | none => simp only [ha, hb] at q
        | some bb =>
          simp only [ha, hb] at q
          obtain ⟨t, ht⟩ := isa_ty ha
          have e2 := e1.push (.tup [V.ty a, V.ty b]) htp
          have r2 := (r1.top).ext (⟨same_new (Same.free e1.sub htp), same_new htp, same_upd2 e1.sub htp, fun c h1 h2 => by
            by_cases hc : c = tp
            · rw [hc]; exact htp
            · rw [upd_ne hc] at h2; exact absurd h1 h2⟩ : Ext F1 H1 (upd F1 tp (.tup [V.ty a, V.ty b])) (upd H1 tp (.tup [V.ty a, V.ty b])))
          refine ⟨v, tp, _, .type t, [.type a, .type b], ba || bb, rfl, upd_same, .cons (.ty a) (.cons (.ty b) .nil), tyx_of e2.sub r2 ht, ?_, q _ _ _ e2 (.bl _)⟩
          refine kitAny_cons (isa_kit hka ha ht) (fun h => ?_) (fun h => by rw [h]; rfl)
          subst h
          refine kitAny_cons (isa_kit hkb hb ht) (fun h => ?_) (fun h => by rw [h]; rfl)
          subst h
          exact kitAny_nil

/-! ### in the suite of an except clause: slot i holds the error -/
def eAt (a d : Addr) (i : Nat) (k : List (Str × PV) → Res PV) : LE → Res PV := fun τ => match τ[i]? with
  | some (some (.exn a' d' _ fs)) => if a' = a ∧ d' = d then k fs else .bad
  | _ => .bad
def xGet (f : Str) (fs : List (Str × PV)) : Res PV := match fs.lookup f with
  | some p => .ok p
  | none => .bad
@[simp] theorem eAt_set (a d : Addr) (i c : Nat) (k : List (Str × PV) → Res PV) (fs : List (Str × PV)) (τ : LE) : eAt a d i k (τ.set i (some (.exn a d c fs))) = if i < τ.length then k fs else .bad := by
  unfold eAt
  by_cases h : i < τ.length
  · rw [List.getElem?_set_self h, if_pos h]
    simp
  · rw [if_neg h, List.getElem?_eq_none (by rw [List.length_set]; omega)]
theorem eAt_or (a d : Addr) (i : Nat) (k : List (Str × PV) → Res PV) (τ : LE) : (∃ c fs, τ[i]? = some (some (.exn a d c fs)) ∧ eAt a d i k τ = k fs) ∨ eAt a d i k τ = .bad := by
  unfold eAt
  split
  · rename_i a' d' c' fs ht
    by_cases hh : a' = a ∧ d' = d
    · rw [if_pos hh]
      obtain ⟨rfl, rfl⟩ := hh
      exact .inl ⟨c', fs, ht, rfl⟩
    · rw [if_neg hh]; exact .inr rfl
  · exact .inr rfl
theorem v_xf {a d : Addr} {oe : Obj} {pn : List (Addr × Obj)} (i : Nat) (T : XfC X.K (G c)) (hno : PySem.W.findIn X.K (.ref (G c)) fld = some none) (hz : Zc (.ref (G c)) (some d) oe) (hf : ∃ vs, oe.data = .fields vs)
    (k : κ i = false := by rfl) (hN : X.N[i]? = some x := by rfl) (hv : Vis X.env.scope x := by first | exact Or.inl rfl | exact Or.inr (Or.inl rfl) | exact Or.inr (Or.inr rfl)) (hd : (x == ("__debug__" : Str)) = false := by decide)
    (hcd : (x == ("__classdict__" : Str)) = false := by decide) (hb : attributeBase (.Name x p1) fld X.env (eval (.Name x p1) X.env) = eval (.Name x p1) X.env := by rfl) :
    PE (X.suite a ((a, oe) :: pn)) (.Attribute (.Name x p1) fld pos) (tE G X.K .sh E κ (eAt a d i (xGet fld))) :=
  pe_weak (pe_xf T hno hz hf (pe_var (X := X.suite a ((a, oe) :: pn)) hN hv hd hcd) hb) fun σ H Q ⟨F, τ, l, q⟩ => by
    rcases eAt_or a d i (xGet fld) τ with ⟨c', fs, ht, e⟩ | e
    case inr => rw [e] at q; exact q.elim
    rw [e] at q
    obtain ⟨v, e1, r⟩ := l.sh i _ ht k
    obtain ⟨rfl, vs, hF, rr⟩ := r.exn_inv
    unfold xGet at q
    cases hl : fs.lookup fld with
    | none => simp only [hl] at q
    | some z =>
      simp only [hl] at q
      obtain ⟨w, hw, rw'⟩ := rr.lookup hl
      exact ⟨_, e1, rfl, rfl, d, vs, w, rfl, l.sub _ _ hF, hw, q w F H (Ext.refl l.sub) rw'⟩
/-- isinstance(e, c) -/
theorem v_xis {a d : Addr} {oe : Obj} {pn : List (Addr × Obj)} {ce : Expr} {cv : Value} {cw : V} {b : Bool} (i : Nat) (C : L2.ExcC X.K (G c)) (hz : Zc (.ref (G c)) (some d) oe) (hf : ∃ vs, oe.data = .fields vs) (hce : PE (X.suite a ((a, oe) :: pn)) ce (tC cw)) (hcv : ∀ u, RelV cw u → u = cv)
    (hk : PySem.W.kitOne X.K (.ref (G c)) cv = some b) (hm : X.mg "isinstance" = none)
    (k : κ i = false := by rfl) (hN : X.N[i]? = some x := by rfl) (hv : Vis X.env.scope x := by first | exact Or.inl rfl | exact Or.inr (Or.inl rfl) | exact Or.inr (Or.inr rfl)) (hd : (x == ("__debug__" : Str)) = false := by decide)
    (hcd : (x == ("__classdict__" : Str)) = false := by decide) (hv' : bootBuiltins "isinstance" = some (.builtin "isinstance") := by kernel_rfl) (hg : Gl X "isinstance" := by rfl)
    (h1 : starEach [.Name x p1, ce] X.env = (false, eval (.Name x p1) X.env) :: starEach [ce] X.env := by rfl)
    (h2 : starEach [ce] X.env = (false, eval ce X.env) :: starEach [] X.env := by rfl) (hpl : (backTo pos (starEach [ce] X.env)).any (·.1) = false := by rfl) :
    PE (X.suite a ((a, oe) :: pn)) (.Call (.Name "isinstance" p') [.Name x p1, ce] [] pos) (tE G X.K .sh E κ (eAt a d i fun _ => .ok (.bl b))) :=
  pe_weak (pe_callB (X := X.suite a ((a, oe) :: pn)) (call_isD C hz hf) hg hm hv' (pa_cons (pe_var (X := X.suite a ((a, oe) :: pn)) hN hv hd hcd) (pa_cons hce pa_nil h2) h1) (by decide) (by decide) h1 hpl) fun σ H Q ⟨F, τ, l, q⟩ => by
    rcases eAt_or a d i (fun _ => .ok (.bl b)) τ with ⟨c', fs, ht, e⟩ | e
    case inr => rw [e] at q; exact q.elim
    rw [e] at q
    obtain ⟨v, e1, r⟩ := l.sh i _ ht k
    obtain ⟨rfl, vs, hF, rr⟩ := r.exn_inv
    exact ⟨_, e1, cw, cv, b, vs, rfl, l.sub _ _ hF, hcv, hk, q _ F H (Ext.refl l.sub) (.bl b)⟩
end
end Lp
end
section
set_option Elab.async false
set_option linter.all false
set_option maxRecDepth 100000
namespace L2
open PySem PySem.Spec PyProof.Rows
section
variable {X : Cx} {CX : CXT} {k : Nat} {f C : Addr} {fd : FuncData} {ps : List Str} {sp : Sp} {E : St → XK} {x : Str} {p pos : Pos} {e : Expr} {es : List Expr} {t : TA}
def tMakeS (C : Addr) (sp : Sp) (E : St → XK) (t : TA) : TE := fun σ H Q => t σ H fun vs H1 => ∀ x dx, H1 x = none → H1 dx = none → dx ≠ x → sp (.ref x :: vs) (upd (upd H1 dx (.own x)) x (.ins C dx [])) (fun v H2 => v = .non ∧ Q (.ref x) H2) (E σ)
theorem pe_makeS (M : Mk X.K C f) (F : FnOk X.prog X.w X.K X.mg X.base CX k f fd ps sp) (hr : Room (k + 1) X.A) (hg : Gl X x) (hm : X.mg x = some (.ref C)) (hb : Binds X.K fd ps []) (hx : ∀ σ, PassesAt CX X σ (E σ))
    (ha : PA X (e :: es) t) (hdb : (x == ("__debug__" : Str)) = false := by decide) (he : starEach (e :: es) X.env = (false, eval e X.env) :: starEach es X.env := by rfl) (hpl : (backTo pos (starEach es X.env)).any (·.1) = false := by rfl) :
    PE X (.Call (.Name x p) (e :: es) [] pos) (tMakeS C sp E t) := by
  refine ⟨fun pins s σ H Q I h => ?_⟩
  refine wpAny_Call_Name_kw (ld_glob I hg hm ?_ hdb)
  refine PySem.W.callWith_K (h₀ := X.base) I.ok.mod.kin M.kp (thn (ha.run pos pins s σ H _ I h) fun us s1 ⟨vs, H1, I1, r, q⟩ => ⟨I1.kIn, ?_⟩) he hpl
  show wpAny (model X.prog X.w) X.A (call (.ref C) us) (EP X pins σ Q) X.xe s1
  have hq := q (s1.heap.objs.size + 1) s1.heap.objs.size (I1.hok.fresh (Nat.le_succ _)) (I1.hok.fresh (Nat.le_refl _)) (Nat.ne_of_lt (Nat.lt_succ_self _))
  have I2 := Inv.made (C := C) I1
  have r2 : Vals (V.ref (s1.heap.objs.size + 1) :: vs) (Value.ref (s1.heap.objs.size + 1) :: us) := .cons rfl r
  have hl : (Value.ref (s1.heap.objs.size + 1) :: us ++ []).length = ps.length := by
    have e := r2.length
    rw [F.len _ _ _ _ hq] at e
    rw [List.append_nil]
    exact e.symm
  have b := hb _ (Value.ref (s1.heap.objs.size + 1) :: us) I2.kIn hl
  rw [List.append_nil] at b
  refine wpAny_call (make_map (f := f) I1.kIn M.makes M.init (beq_iff_eq.mp M.fn) (codeAny_mono (F.run _ X.stack _ _ ⟨Value.ref (s1.heap.objs.size + 1) :: us, []⟩ (Value.ref (s1.heap.objs.size + 1) :: us) _ _ (E σ) (hr.make C us [])
    (I2.env0.make C us []) b r2 hq) fun r s' hq' => ?_))
  cases r with
  | error e => exact hx σ pins _ _ e s' I2 hq'
  | ok fl =>
    cases fl with
    | ret u =>
      obtain ⟨v, H', I3, rv, ev, q3⟩ := I2.after hq'
      subst ev
      exact ⟨rv, ⟨V.ref (s1.heap.objs.size + 1), H', I3, rfl, q3⟩⟩
    | next => exact False.elim hq'
    | brk => exact False.elim hq'
    | cont => exact False.elim hq'
end
end L2
namespace Lp
open PySem PySem.Spec L2

section
variable (G : Nat → Addr) (K : PySem.W.Frag)
/-- what __init__ of the class c promises -/
def spI (c : Nat) (n : Nat) (g : List PV → Res PV) : Sp := fun vs H Q E => ∃ F H1 x dx ws ps, vs = .ref x :: ws ∧ H = upd (upd H1 dx (.own x)) x (.ins (G c) dx []) ∧ H1 x = none ∧ H1 dx = none ∧ dx ≠ x ∧ Same F H1 ∧ Reps G K F ws ps ∧ ps.length = n ∧ match g ps with
  | .ok p => ∀ F' H', Ext F H1 F' H' → Frs G K H1 F' H' (.ref x) p → Q .non H'
  | .exc c fs => ExcOk G K E F H1 c fs
  | .bad => False
end
/-- how __init__ ends: the object of slot 0 -/
def finI (r : Fl) : Res PV := match r with
  | .nx τ => match τ[0]? with
    | some (some p) => .ok p
    | _ => .bad
  | .ex c fs _ => .exc c fs
  | _ => .bad
structure Mkr (P : Program) (w : World) (K : PySem.W.Frag) (mg : Str → Option Value) (base : Heap) (k : Nat) (x : Str) (C : Addr) (sp : Sp) : Prop where
  ex : ∃ f fd ps, Mk K C f ∧ FnOk P w K mg base (L2.CX P w) k f fd ps sp ∧ mg x = some (.ref C) ∧ Binds K fd ps []
section
variable {G : Nat → Addr} {K : PySem.W.Frag} {F H F' H' F0 H0 : Hp} {X : Cx} {v : V} {p : PV} {κ : Kd} {E : St → XK} {W : WX} {m md rm : Mode} {e : Expr} {es : List Expr} {pos p' : Pos} {zs : Option Addr} {σ : St} {τ : LE} {x : Str} {k n c : Nat} {g : List PV → Res PV} {fa : LE → Res (List PV)}
theorem v_make (D : Mkr X.prog X.w X.K X.mg X.base k x (G c) (spI G X.K c n g)) (hr : Room (k + 1) X.A) (tk : Takes X W) (ha : PA X (e :: es) (tA G X.K .sh (WE W) κ fa)) (hL : ∀ ps, g ps ≠ .bad → ps.length = n) (hg : Gl X x := by rfl)
    (hdb : (x == ("__debug__" : Str)) = false := by decide) (he : starEach (e :: es) X.env = (false, eval e X.env) :: starEach es X.env := by rfl) (hpl : (backTo pos (starEach es X.env)).any (·.1) = false := by rfl) :
    PE X (.Call (.Name x p') (e :: es) [] pos) (tE G X.K .fr (WE W) κ (eFn g fa)) := by
  obtain ⟨f, fd, ps, M, Fk, hm, hb⟩ := D.ex
  refine pe_weak (pe_makeS M Fk hr hg hm hb (fun σ => passAt tk σ) ha hdb he hpl) fun σ H Q ⟨F, τ, l, q⟩ => ?_
  refine ⟨F, τ, l, ?_⟩
  unfold eFn at q
  cases hf : fa τ with
  | bad => rw [hf] at q; exact q
  | exc c ps => rw [hf] at q; exact q
  | ok qs =>
    rw [hf, Res.ok_bind] at q
    intro vs F1 H1 e1 r1 x dx hx hdx hne
    refine ⟨F1, H1, x, dx, vs, qs, rfl, rfl, hx, hdx, hne, e1.sub, r1.shared, hL qs fun z => by rw [z] at q; exact q, ?_⟩
    cases hg : g qs with
    | bad => rw [hg] at q; exact q
    | exc c ps => rw [hg] at q; exact ExcOk.ext q e1
    | ok p => rw [hg] at q; exact fun F2 H2 e2 r2 => ⟨rfl, q _ F2 H2 (e1.trans e2) (Frs.before r2 e1.h)⟩

theorem d_init {P : Program} {w : World} {mg : Str → Option Value} {base : Heap} {qual : Str} {st : Stmt} {f : Addr} {fd : FuncData} {N ps : List Str} {k : Nat} {m : LE → Fl} {c n : Nat} (Fn : Fun K x qual st f fd) (S : FnScope N ps (defScope st)) (hn : ps.length = n + 1) (hκ0 : κ 0 = true) (hκ : ∀ i, i < n → κ (i + 1) = false)
    (hg : ∀ qs, qs.length = n → g qs = finI (m (some (.ins c []) :: (qs.map some ++ List.replicate (N.length - (n + 1)) none))))
    (hbody : ∀ (cdv : Value) (A : Around) (outer : List Env) (s : Shared) (H : Hp) (E : XK), Room k (A.deeper (PyProof.Rows.envOfC qual (defScope st) s.heap.objs.size f cdv)) →
      PSs (cxOf (L2.CX P w) P w K mg base N qual (defScope st) f cdv A outer s H E) (defBody st) (tStm G K (WE fun cls d _ H => E cls d H) κ .sh m)) :
    FnOk P w K mg base (L2.CX P w) (k + 1) f fd ps (spI G K c n g) := by
  have hpl : ps.length ≤ N.length := by have := congrArg List.length S.pre; rw [List.length_take] at this; omega
  refine Fn.okX S (fun vs H Q E h => ?_) fun cdv A outer s H vs Q E hr hsp => ?_
  · obtain ⟨F, H1, x, dx, ws, qs, rfl, _, _, _, _, _, r, e, _⟩ := h
    rw [List.length_cons, r.length, e, hn]
  obtain ⟨F, H1, x, dx, ws, qs, rfl, rfl, hx, hdx, hne, sm, r, hl, q⟩ := hsp
  have hFx : F x = none := Same.free sm hx
  have hFdx : F dx = none := Same.free sm hdx
  have e1 : Ext F H1 F (upd (upd H1 dx (.own x)) x (.ins (G c) dx [])) := ((Ext.refl sm).pushOwn (.own x) hdx).pushOwn _ (by rw [upd_ne (Ne.symm hne)]; exact hx)
  have hlen := r.length
  have key : ∀ i p, (some (PV.ins c []) :: (qs.map some ++ List.replicate (N.length - (n + 1)) none))[i]? = some (some p) → (i = 0 ∧ p = .ins c []) ∨ ∃ j, i = j + 1 ∧ qs[j]? = some p := fun i p h => by
    cases i with
    | zero => rw [List.getElem?_cons_zero] at h; cases h; exact .inl ⟨rfl, rfl⟩
    | succ i =>
      rw [List.getElem?_cons_succ] at h
      refine .inr ⟨i, rfl, ?_⟩
      by_cases hi : i < qs.length
      · rw [List.getElem?_append_left (by rw [List.length_map]; exact hi), List.getElem?_map] at h
        cases e : qs[i]? with
        | none => rw [e] at h; cases h
        | some a => rw [e] at h; cases h; rfl
      · rw [List.getElem?_append_right (by rw [List.length_map]; omega), List.getElem?_replicate] at h
        split at h <;> cases h
  have kj : ∀ {j p}, qs[j]? = some p → κ (j + 1) = false := fun {j p} h => hκ j (by have := (List.getElem?_eq_some_iff.mp h).1; omega)
  have st0 : (L2.start N (V.ref x :: ws))[0]? = some (some (V.ref x)) := rfl
  have stj : ∀ {j v}, ws[j]? = some v → (L2.start N (V.ref x :: ws))[j + 1]? = some (some v) := fun {j v} h => by
    unfold L2.start
    have hj : j < ws.length := (List.getElem?_eq_some_iff.mp h).1
    rw [List.getElem?_append_left (by rw [List.length_map, List.length_cons]; omega), List.getElem?_map, List.getElem?_cons_succ, h]
    rfl
  have L : Ls G K κ (some x) F H1 F (upd (upd H1 dx (.own x)) x (.ins (G c) dx [])) (L2.start N (V.ref x :: ws)) (some (PV.ins c []) :: (qs.map some ++ List.replicate (N.length - (n + 1)) none)) := by
    refine ⟨⟨e1.sub, ?_, fun i p h1 h2 => ?_, fun i p h1 h2 => ?_, fun i j p q a h1 h2 h3 h4 h5 h6 => ?_⟩, e1, fun i p a h1 h2 h3 => ?_, fun a z => by cases z; exact ⟨hκ0, st0⟩⟩
    · unfold L2.start
      rw [List.length_append, List.length_map, List.length_cons, List.length_cons, List.length_append, List.length_map, List.length_replicate, List.length_replicate, hlen]
      omega
    · rcases key i p h1 with ⟨rfl, rfl⟩ | ⟨j, rfl, hj⟩
      · rw [hκ0] at h2; cases h2
      · obtain ⟨v, e, rv⟩ := r.get hj
        exact ⟨v, stj e, rv⟩
    · rcases key i p h1 with ⟨rfl, rfl⟩ | ⟨j, rfl, hj⟩
      · exact ⟨x, st0, hFx, dx, [], upd_same, .nil⟩
      · rw [kj hj] at h2; cases h2
    · rcases key i p h3 with ⟨rfl, rfl⟩ | ⟨i, rfl, hi⟩
      · rcases key j q h4 with ⟨rfl, rfl⟩ | ⟨j, rfl, hj⟩
        · rfl
        · rw [kj hj] at h2; cases h2
      · rw [kj hi] at h1; cases h1
    · rcases key i p h2 with ⟨rfl, rfl⟩ | ⟨i, rfl, hi⟩
      · rw [st0] at h3; cases h3; exact hx
      · rw [kj hi] at h1; cases h1
  refine ⟨_, hbody cdv A outer s _ E hr, F, H1, F, _, some x, L, ?_⟩
  rw [hg qs hl] at q
  cases hm : m (some (.ins c []) :: (qs.map some ++ List.replicate (N.length - (n + 1)) none)) with
  | bk τ => rw [hm] at q; exact q.elim
  | ct τ => rw [hm] at q; exact q.elim
  | bad => rw [hm] at q; exact q.elim
  | rt p => rw [hm] at q; exact q.elim
  | ex c fs τ => rw [hm] at q; exact fun σ' F' H' d fs l h1 h2 => q d fs F' H' l.ext h1 h2
  | nx τ =>
    rw [hm] at q
    intro σ' F' H' l
    unfold finI at q
    simp only at q
    cases ht : τ[0]? with
    | none => simp only [ht] at q
    | some t =>
      cases t with
      | none => simp only [ht] at q
      | some p =>
        simp only [ht] at q
        obtain ⟨_, hx'⟩ := l.me x rfl
        obtain ⟨a, e2, hF, o⟩ := l.lc.ow 0 p ht hκ0
        rw [hx'] at e2
        cases e2
        exact q F' H' l.ext ⟨x, rfl, hx, hF, o⟩
end
end Lp
end
section
set_option Elab.async false
set_option linter.all false
set_option maxRecDepth 100000
namespace Lp
open PySem PySem.Spec L2

/-- the keywords' values in the parameters' order -/
def gp {α : Type} (perm : List Nat) (xs : List α) : List α := perm.filterMap fun i => xs[i]?
theorem gp_vals {zs : List V} {ws : List Value} (r : Vals zs ws) : ∀ perm : List Nat, Vals (gp perm zs) (gp perm ws)
  | [] => .nil
  | i :: perm => by
    have ih := gp_vals r perm
    unfold gp at ih ⊢
    rw [List.filterMap_cons, List.filterMap_cons]
    cases h : zs[i]? with
    | none =>
      have h2 : ws[i]? = none := by
        rw [List.getElem?_eq_none_iff] at h ⊢
        rw [← r.length]; exact h
      rw [h2]
      exact ih
    | some v =>
      obtain ⟨u, hu, ru⟩ := r.get h
      rw [hu]
      exact .cons ru ih
section
variable {G : Nat → Addr} {K : PySem.W.Frag} {F H F' H' F0 H0 : Hp}
theorem gp_reps {vs : List V} {qs : List PV} (r : Reps G K F vs qs) : ∀ perm : List Nat, Reps G K F (gp perm vs) (gp perm qs)
  | [] => .nil
  | i :: perm => by
    have ih := gp_reps r perm
    unfold gp at ih ⊢
    rw [List.filterMap_cons, List.filterMap_cons]
    cases h : qs[i]? with
    | none =>
      have h2 : vs[i]? = none := by
        rw [List.getElem?_eq_none_iff] at h ⊢
        rw [r.length]; exact h
      rw [h2]
      exact ih
    | some v =>
      obtain ⟨u, hu, ru⟩ := r.get h
      rw [hu]
      exact .cons ru ih
end
structure DkK (P : Program) (w : World) (K : PySem.W.Frag) (mg : Str → Option Value) (base : Heap) (k : Nat) (x : Str) (sp : Sp) (ks : List Str) (perm : List Nat) : Prop where
  ex : ∃ f fd ps, FnOk P w K mg base (L2.CX P w) k f fd ps sp ∧ mg x = some (.ref f) ∧ PySem.W.keepIn K (.ref f) = true ∧ KBn K fd ps 0 ks (fun _ ws => gp perm ws) (fun _ zs => gp perm zs)
structure MkrK (P : Program) (w : World) (K : PySem.W.Frag) (mg : Str → Option Value) (base : Heap) (k : Nat) (x : Str) (C : Addr) (sp : Sp) (ks : List Str) (perm : List Nat) : Prop where
  ex : ∃ f fd ps, Mk K C f ∧ FnOk P w K mg base (L2.CX P w) k f fd ps sp ∧ mg x = some (.ref C) ∧ KBn K fd ps 1 ks (fun us ws => us ++ gp perm ws) (fun vs zs => vs ++ gp perm zs)
theorem kbn0 {K : PySem.W.Frag} {x qual : Str} {st : Stmt} {f : Addr} {fd : FuncData} {ps : List Str} (F : Fun K x qual st f fd) (ks : List Str) (perm : List Nat)
    (h : ∀ (kV doc pm : Value) (an : Option Addr) (cdv ct : Value) (ws : List Value), ws.length = ks.length → bindArgs (PySem.W.fnOf x qual (defArgs st) (defBody st) (defScope st) .none kV doc pm an cdv ct) ⟨[], ks.zip ws⟩ = pure (ps.zip (gp perm ws))) :
    KBn K fd ps 0 ks (fun _ ws => gp perm ws) (fun _ zs => gp perm zs) := by
  obtain ⟨oc, od, kV, doc, pm, an, cdv, ct, osl, rfl, lk, hcd⟩ := F.ex
  refine ⟨fun s us ws X l1 l2 => ?_, fun _ r => gp_vals r perm⟩
  have : us = [] := List.length_eq_zero_iff.mp l1
  subst this
  exact BindsTo.of_eq (h kV doc pm an cdv ct ws l2)
theorem kbn1 {K : PySem.W.Frag} {x qual : Str} {st : Stmt} {f : Addr} {fd : FuncData} {ps : List Str} (F : Fun K x qual st f fd) (ks : List Str) (perm : List Nat)
    (h : ∀ (kV doc pm : Value) (an : Option Addr) (cdv ct : Value) (u : Value) (ws : List Value), ws.length = ks.length → bindArgs (PySem.W.fnOf x qual (defArgs st) (defBody st) (defScope st) .none kV doc pm an cdv ct) ⟨[u], ks.zip ws⟩ = pure (ps.zip (u :: gp perm ws))) :
    KBn K fd ps 1 ks (fun us ws => us ++ gp perm ws) (fun vs zs => vs ++ gp perm zs) := by
  obtain ⟨oc, od, kV, doc, pm, an, cdv, ct, osl, rfl, lk, hcd⟩ := F.ex
  refine ⟨fun s us ws X l1 l2 => ?_, fun r1 r => r1.append (gp_vals r perm)⟩
  obtain ⟨u, rfl⟩ := List.length_eq_one_iff.mp l1
  exact BindsTo.of_eq (h kV doc pm an cdv ct u ws l2)

section
variable {G : Nat → Addr} {F H F' H' F0 H0 : Hp} {X : Cx} {v : V} {p : PV} {κ : Kd} {E : St → XK} {W : WX} {m md rm : Mode} {e : Expr} {kws : List Keyword} {pos p' kpos : Pos} {σ : St} {τ : LE} {x : Str} {k n c : Nat} {g : List PV → Res PV} {f : LE → Res PV} {fa : LE → Res (List PV)} {ks : List Str} {perm : List Nat} {nm : Option Str}
theorem pk_weak {t t' : TA} (h : PK X kws t) (w : ∀ σ H Q, t' σ H Q → t σ H Q) : PK X kws t' := ⟨fun pos pins s σ H Q I q => h.run pos pins s σ H Q I (w σ H Q q)⟩
theorem k_nil : PK X [] (tA G X.K m E κ aNil) := pk_weak pk_nil fun σ H Q ⟨F, τ, l, q⟩ => q [] F H (Ext.refl l.sub) .nil
theorem k_cons {g : LE → Res (List PV)} (h : PE X e (tE G X.K m E κ f)) (hr : PK X kws (tA G X.K m E κ g)) : PK X (⟨nm, e, kpos⟩ :: kws) (tA G X.K m E κ (aCons f g)) :=
  pk_weak (pk_cons h hr) fun σ H Q ⟨F, τ, l, q⟩ => by
    refine ⟨F, τ, l, ?_⟩
    unfold aCons at q
    cases hf : f τ with
    | exc c ps => rw [hf] at q; exact q
    | bad => rw [hf] at q; exact q
    | ok p =>
      rw [hf] at q
      intro v F1 H1 e1 r1
      refine ⟨F1, τ, l.ext e1, ?_⟩
      cases hg : g τ with
      | exc c ps => rw [Res.ok_bind, hg] at q; exact ExcOk.ext q e1
      | bad => rw [Res.ok_bind, hg] at q; exact q
      | ok ps =>
        rw [Res.ok_bind, hg] at q
        exact fun vs F2 H2 e2 r2 => q (v :: vs) F2 H2 (e1.trans e2) (.cons (r1.ext e2) (r2.before e1.h))
def eFnK (nk : Nat) (perm : List Nat) (g : List PV → Res PV) (fa : LE → Res (List PV)) : LE → Res PV := fun τ => fa τ >>= fun qs => if qs.length = nk then g (gp perm qs) else .bad
theorem v_callK (D : DkK X.prog X.w X.K X.mg X.base k x (spM G X.K rm n g) ks perm) (hr : Room k X.A) (tk : Takes X W) (hkw : PK X kws (tA G X.K .sh (WE W) κ fa)) (hL : ∀ ps, g ps ≠ .bad → ps.length = n) {nk : Nat} (hnk : ks.length = nk := by rfl) (hg : Gl X x := by rfl)
    (hall : (backToKw pos (keywordEach kws X.env)).all (·.1.isSome) = true := by rfl) (hks : (backToKw pos (keywordEach kws X.env)).filterMap (·.1) = ks := by rfl) (hdb : (x == ("__debug__" : Str)) = false := by decide)
    (hpl : ((backTo pos (starEach [] X.env)).any (·.1) || (backToKw pos (keywordEach kws X.env)).any (·.1.isNone)) = false := by rfl) :
    PE X (.Call (.Name x p') [] kws pos) (tE G X.K rm (WE W) κ (eFnK nk perm g fa)) := by
  subst hnk
  obtain ⟨f, fd, ps, Fk, hm, hk, hb⟩ := D.ex
  refine ⟨fun pins s σ H Q I ⟨F, τ, l, q⟩ => ?_⟩
  refine wpAny_Call_Name_kw (ld_glob I hg hm ?_ hdb)
  refine PySem.W.callWith_KW0 (h₀ := X.base) I.ok.mod.kin hk hall ?_ hpl
  refine thn (hkw.run pos pins s σ H (fun zs H2 => spM G X.K rm n g (gp perm zs) H2 Q (WE W σ) ∧ zs.length = ks.length) I ⟨F, τ, l, ?_⟩) fun ws s2 ⟨zs, H2, I2, rz, q2, hz⟩ => ⟨I2.kIn, ?_⟩
  · unfold eFnK at q
    cases hf : fa τ with
    | bad => rw [hf] at q; exact q
    | exc c ps => rw [hf] at q; exact q
    | ok qs =>
      rw [hf, Res.ok_bind] at q
      intro vs F1 H1 e1 r1
      by_cases hlen : qs.length = ks.length
      · rw [if_pos hlen] at q
        have rs := r1.shared
        refine ⟨⟨F1, gp perm qs, e1.sub, gp_reps rs perm, hL _ fun z => by rw [z] at q; exact q, ?_⟩, by rw [rs.length]; exact hlen⟩
        cases hg : g (gp perm qs) with
        | bad => rw [hg] at q; exact q
        | exc c ps => rw [hg] at q; exact ExcOk.ext q e1
        | ok p => rw [hg] at q; exact fun v F2 H2 e2 r2 => q v F2 H2 (e1.trans e2) (r2.before e1.h)
      · rw [if_neg hlen] at q; exact q.elim
  · rw [hks]
    have r2 := gp_vals rz perm
    refine wpAny_call (codeAny_mono (Fk.run X.A X.stack s2 H2 ⟨[], ks.zip ws⟩ (gp perm ws) (gp perm zs) Q (WE W σ) hr I2.env0 (hb.to s2 [] ws I2.kIn rfl (rz.length.symm.trans hz)) r2 q2) fun r s' hq => ?_)
    cases r with
    | error e => exact passAt tk σ pins H2 s2 e s' I2 hq
    | ok fl =>
      cases fl with
      | ret u => exact I2.after hq
      | next => exact False.elim hq
      | brk => exact False.elim hq
      | cont => exact False.elim hq
theorem v_makeK (D : MkrK X.prog X.w X.K X.mg X.base k x (G c) (spI G X.K c n g) ks perm) (hr : Room (k + 1) X.A) (tk : Takes X W) (hkw : PK X kws (tA G X.K .sh (WE W) κ fa)) (hL : ∀ ps, g ps ≠ .bad → ps.length = n) {nk : Nat} (hnk : ks.length = nk := by rfl) (hg : Gl X x := by rfl)
    (hall : (backToKw pos (keywordEach kws X.env)).all (·.1.isSome) = true := by rfl) (hks : (backToKw pos (keywordEach kws X.env)).filterMap (·.1) = ks := by rfl) (hdb : (x == ("__debug__" : Str)) = false := by decide)
    (hpl : ((backTo pos (starEach [] X.env)).any (·.1) || (backToKw pos (keywordEach kws X.env)).any (·.1.isNone)) = false := by rfl) :
    PE X (.Call (.Name x p') [] kws pos) (tE G X.K .fr (WE W) κ (eFnK nk perm g fa)) := by
  subst hnk
  obtain ⟨f, fd, ps, M, Fk, hm, hb⟩ := D.ex
  refine ⟨fun pins s σ H Q I ⟨F, τ, l, q⟩ => ?_⟩
  refine wpAny_Call_Name_kw (ld_glob I hg hm ?_ hdb)
  refine PySem.W.callWith_KW0 (h₀ := X.base) I.ok.mod.kin M.kp hall ?_ hpl
  refine thn (hkw.run pos pins s σ H (fun zs H2 => (∀ x dx, H2 x = none → H2 dx = none → dx ≠ x → spI G X.K c n g (.ref x :: gp perm zs) (upd (upd H2 dx (.own x)) x (.ins (G c) dx [])) (fun v H3 => v = .non ∧ Q (.ref x) H3) (WE W σ)) ∧ zs.length = ks.length) I ⟨F, τ, l, ?_⟩) fun ws s1 ⟨zs, H2, I2, rz, q2, hz⟩ => ⟨I2.kIn, ?_⟩
  · unfold eFnK at q
    cases hf : fa τ with
    | bad => rw [hf] at q; exact q
    | exc c ps => rw [hf] at q; exact q
    | ok qs =>
      rw [hf, Res.ok_bind] at q
      intro vs F1 H1 e1 r1
      by_cases hlen : qs.length = ks.length
      · rw [if_pos hlen] at q
        have rs := r1.shared
        refine ⟨fun x dx hx hdx hne => ⟨F1, H1, x, dx, gp perm vs, gp perm qs, rfl, rfl, hx, hdx, hne, e1.sub, gp_reps rs perm, hL _ fun z => by rw [z] at q; exact q, ?_⟩, by rw [rs.length]; exact hlen⟩
        cases hg : g (gp perm qs) with
        | bad => rw [hg] at q; exact q
        | exc c ps => rw [hg] at q; exact ExcOk.ext q e1
        | ok p => rw [hg] at q; exact fun F2 H2 e2 r2 => ⟨rfl, q _ F2 H2 (e1.trans e2) (Frs.before r2 e1.h)⟩
      · rw [if_neg hlen] at q; exact q.elim
  · rw [hks]
    show wpAny (model X.prog X.w) X.A (call (.ref (G c)) [] (ks.zip ws)) (EP X pins σ Q) X.xe s1
    have hq := q2 (s1.heap.objs.size + 1) s1.heap.objs.size (I2.hok.fresh (Nat.le_succ _)) (I2.hok.fresh (Nat.le_refl _)) (Nat.ne_of_lt (Nat.lt_succ_self _))
    have I3 := Inv.made (C := G c) I2
    have r2 : Vals (V.ref (s1.heap.objs.size + 1) :: gp perm zs) (Value.ref (s1.heap.objs.size + 1) :: gp perm ws) := .cons rfl (gp_vals rz perm)
    refine wpAny_call (make_map (f := f) I2.kIn M.makes M.init (beq_iff_eq.mp M.fn) (codeAny_mono (Fk.run _ X.stack _ _ ⟨Value.ref (s1.heap.objs.size + 1) :: [], ks.zip ws⟩ _ _ _ (WE W σ) (hr.make (G c) [] (ks.zip ws))
      (I3.env0.make (G c) [] (ks.zip ws)) (hb.to _ [Value.ref (s1.heap.objs.size + 1)] ws I3.kIn rfl (rz.length.symm.trans hz)) r2 hq) fun r s' hq' => ?_))
    cases r with
    | error e => exact passAt tk σ pins _ _ e s' I3 hq'
    | ok fl =>
      cases fl with
      | ret u =>
        obtain ⟨v, H', I4, rv, ev, q3⟩ := I3.after hq'
        subst ev
        exact ⟨rv, ⟨V.ref (s1.heap.objs.size + 1), H', I4, rfl, q3⟩⟩
      | next => exact False.elim hq'
      | brk => exact False.elim hq'
      | cont => exact False.elim hq'
end
end Lp
end
section
set_option Elab.async false
set_option linter.all false
set_option maxRecDepth 100000
namespace Lp
open PySem PySem.Spec L2

section
variable {G : Nat → Addr} {K : PySem.W.Frag} {F H F' H' F0 H0 : Hp} {X : Cx} {v : V} {p : PV} {κ : Kd} {E : St → XK} {W : WX} {m md rm : Mode} {e e' a b : Expr} {es : List Expr} {pos p' : Pos} {σ : St} {τ : LE} {f fi fe : LE → Res PV}
/-! ### a value as a test -/
theorem t_val (h : PE X e (tE G K .sh E κ f)) (he : ∀ whole, isTrue e X.env whole = (do let v ← whole; standAt e.pos; holding [v] (truthy v)) := by intro _; rfl) : PT X e (tT G K E κ (tst f)) :=
  pt_weak (pt_val h he) fun _ _ _ q => w_tst (fun _ _ _ h => h) q
/-! ### either of two readings -/
theorem OpV.freeze {r : R2} {g : PV → PV → Option PV} (h : OpV G K r .fr g) : OpV G K r .sh g := fun F H x y p q z Q s rx ry hz k => h F H x y p q z Q s rx ry hz fun v F' H' e r => by
  obtain ⟨a, rfl, h0, hF, o⟩ := r
  obtain ⟨F2, e2, r2⟩ := e.freeze h0 hF o
  exact k _ F2 H' e2 r2
def orP (g g' : PV → PV → Option PV) : PV → PV → Option PV := fun p q => match g p q with
  | some z => some z
  | none => g' p q
theorem OpV.or {r r' : R2} {g g' : PV → PV → Option PV} (h : OpV G K r m g) (h' : OpV G K r' m g') : OpV G K (fun x y H Q => r x y H Q ∨ r' x y H Q) m (orP g g') := fun F H x y p q z Q s rx ry hz k => by
  unfold orP at hz
  cases hg : g p q with
  | some w =>
    rw [hg] at hz
    cases hz
    exact .inl (h F H x y p q _ Q s rx ry hg k)
  | none =>
    rw [hg] at hz
    exact .inr (h' F H x y p q z Q s rx ry hz k)
def pAddA : PV → PV → Option PV := orP pAdd pCat
theorem op_addA : OpR X (binaryOp .Add) (fun x y H Q => rAddV X.K x y H Q ∨ rCatR x y H Q) := op_addV.or op_catR
theorem g_addA : OpV G K (fun x y H Q => rAddV K x y H Q ∨ rCatR x y H Q) .sh pAddA := g_add.or g_cat.freeze
/-! ### slices of texts, tuples, lists -/
def pSlA (p : PV) (lo hi : Option Int) : Option PV := match pSl p lo hi with
  | some z => some z
  | none => pSlL p lo hi
theorem sl_A : SlR X (fun x lo hi H Q => rSlV X.K x lo hi H Q ∨ rSlL X.K x lo hi H Q) := sl_V.or sl_list
theorem g_slA : SlV (fun x lo hi H Q => rSlV K x lo hi H Q ∨ rSlL K x lo hi H Q) .sh G K pSlA := fun F H x p z lo hi Q s rx hz k => by
  unfold pSlA at hz
  cases hg : pSl p lo hi with
  | some w =>
    rw [hg] at hz
    cases hz
    exact .inl (g_sl F H x p _ lo hi Q s rx hg k)
  | none =>
    rw [hg] at hz
    refine .inr (g_slL F H x p z lo hi Q s rx hz fun v F' H' e r => ?_)
    obtain ⟨a, rfl, h0, hF, o⟩ := r
    obtain ⟨F2, e2, r2⟩ := e.freeze h0 hF o
    exact k _ F2 H' e2 r2
end
end Lp
end
section
set_option Elab.async false
set_option linter.all false
set_option maxRecDepth 100000
namespace L2
open PySem PySem.Spec PyProof.Rows
section
variable {X : Cx} {a b c d : Expr} {pos : Pos} {ta tb tc td : TE} {op1 op2 op3 : CmpOp} {g1 g2 g3 : Int → Int → Bool}
/-- a op1 b op2 c op3 d of ints -/
def tChain3 (g1 g2 g3 : Int → Int → Bool) (ta tb tc td : TE) : TE := fun σ H Q => ta σ H fun x H1 => tb σ H1 fun y H2 => ∃ i j, x = .int i ∧ y = .int j ∧
  (if g1 i j = true then tc σ H2 fun z H3 => ∃ k, z = .int k ∧ (if g2 j k = true then td σ H3 fun w H4 => ∃ l, w = .int l ∧ Q (.bl (g3 k l)) H4 else Q (.bl false) H3) else Q (.bl false) H2)
theorem pe_chain3 (h1 : OpR X (compareOp op1) (rI0 fun i j => .bl (g1 i j))) (h2 : OpR X (compareOp op2) (rI0 fun i j => .bl (g2 i j))) (h3 : OpR X (compareOp op3) (rI0 fun i j => .bl (g3 i j))) (ha : PE X a ta) (hb : PE X b tb) (hc : PE X c tc) (hd : PE X d td)
    (hm : lastMarks [op1, op2, op3] [b, c, d] = false := by with_unfolding_all rfl) : PE X (.Compare a [op1, op2, op3] [b, c, d] pos) (tChain3 g1 g2 g3 ta tb tc td) := by
  refine ⟨fun pins s σ H Q I h => ?_⟩
  refine Compare_chain (thn (ha.run pins s σ H _ I h) fun v s1 ⟨x, H1, I1, r1, q1⟩ => chain_link (thn (hb.run pins s1 σ H1 _ I1 q1) fun u s2 ⟨y, H2, I2, r2, i, j, ex, ey, q2⟩ =>
    thn (h1 pins s2 σ H2 x y v u (fun z H3 => z = .bl (g1 i j) ∧ H3 = H2) I2 r1 r2 ⟨i, j, ex, ey, rfl, rfl⟩) fun d' s3 ⟨z, H3, I3, r3, e, e'⟩ => ?_)) hm
  subst e e'
  cases r3
  refine wpAny_truthy_bool ?_
  cases hg : g1 i j with
  | false =>
    rw [hg, if_neg Bool.false_ne_true] at q2
    exact ite_ff ⟨.bl false, _, I3, rfl, q2⟩
  | true =>
    rw [hg, if_pos rfl] at q2
    refine ite_tt (chain_link (thn (hc.run pins s3 σ _ _ I3 q2) fun u3 s4 ⟨z, H4, I4, r4, k, ez, q4⟩ =>
      thn (h2 pins s4 σ H4 y z u u3 (fun w H5 => w = .bl (g2 j k) ∧ H5 = H4) I4 r2 r4 ⟨j, k, ey, ez, rfl, rfl⟩) fun d2 s5 ⟨w, H5, I5, r5, e, e'⟩ => ?_))
    subst e e'
    cases r5
    refine wpAny_truthy_bool ?_
    cases hg2 : g2 j k with
    | false =>
      rw [hg2, if_neg Bool.false_ne_true] at q4
      exact ite_ff ⟨.bl false, _, I5, rfl, q4⟩
    | true =>
      rw [hg2, if_pos rfl] at q4
      exact ite_tt (chain_last (thn (hd.run pins s5 σ _ _ I5 q4) fun u6 s6 ⟨w, H6, I6, r6, l, ew, q6⟩ => h3 pins s6 σ H6 z w u3 u6 Q I6 r4 r6 ⟨k, l, ez, ew, q6⟩))
end
end L2
namespace Lp
open PySem PySem.Spec L2

section
variable {G : Nat → Addr} {K : PySem.W.Frag} {F H F' H' F0 H0 : Hp} {X : Cx} {v : V} {p : PV} {κ : Kd} {E : St → XK} {m md rm : Mode} {a b c d : Expr} {pos p' : Pos} {σ : St} {τ : LE} {f1 f2 f3 f4 : LE → Res PV} {op1 op2 op3 : CmpOp} {g1 g2 g3 : Int → Int → Bool}
def asI (f : LE → Res PV) : LE → Res Int := fun τ => f τ >>= fun p => match p with
  | .int i => .ok i
  | _ => .bad
def eChain3 (g1 g2 g3 : Int → Int → Bool) (f1 f2 f3 f4 : LE → Res PV) : LE → Res PV := fun τ => asI f1 τ >>= fun i => asI f2 τ >>= fun j => if g1 i j = true then asI f3 τ >>= fun k => (if g2 j k = true then asI f4 τ >>= fun l => .ok (.bl (g3 k l)) else .ok (.bl false)) else .ok (.bl false)
theorem w_asI {f : LE → Res PV} {k : Int → Res PV} {F : Hp} {σ : St} {H : Hp} {Q : VK} (l : Lc G K κ F H σ τ) (q : match asI f τ >>= k with
    | .ok p => ∀ v F' H', Ext F H F' H' → RM G K .sh H F' H' v p → Q v H'
    | .exc c ps => ExcOk G K (E σ) F H c ps
    | .bad => False) (R : VK) (h : ∀ i F1 H1, Ext F H F1 H1 → (match k i with
    | .ok p => ∀ v F' H', Ext F1 H1 F' H' → RM G K .sh H1 F' H' v p → Q v H'
    | .exc c ps => ExcOk G K (E σ) F1 H1 c ps
    | .bad => False) → R (.int i) H1) : tE G K .top E κ f σ H R := by
  refine ⟨F, τ, l, ?_⟩
  unfold asI at q
  cases hf : f τ with
  | exc c ps => rw [hf] at q; exact q
  | bad => rw [hf] at q; exact q
  | ok p =>
    rw [hf] at q
    intro v F1 H1 e1 r1
    cases p with
    | int i =>
      obtain rfl := Top.int_inv r1
      refine h i F1 H1 e1 ?_
      simp only [Res.ok_bind] at q
      cases hk : k i with
      | ok p => rw [hk] at q; exact fun v F2 H2 e2 r2 => q v F2 H2 (e1.trans e2) r2
      | exc c ps => rw [hk] at q; exact ExcOk.ext q e1
      | bad => rw [hk] at q; exact q
    | _ => exact q.elim
theorem v_chain3 (h1 : OpR X (compareOp op1) (rI0 fun i j => .bl (g1 i j))) (h2 : OpR X (compareOp op2) (rI0 fun i j => .bl (g2 i j))) (h3 : OpR X (compareOp op3) (rI0 fun i j => .bl (g3 i j)))
    (ha : PE X a (tE G K .top E κ f1)) (hb : PE X b (tE G K .top E κ f2)) (hc : PE X c (tE G K .top E κ f3)) (hd : PE X d (tE G K .top E κ f4))
    (hm : lastMarks [op1, op2, op3] [b, c, d] = false := by with_unfolding_all rfl) : PE X (.Compare a [op1, op2, op3] [b, c, d] pos) (tE G K .sh E κ (eChain3 g1 g2 g3 f1 f2 f3 f4)) :=
  pe_weak (pe_chain3 h1 h2 h3 ha hb hc hd hm) fun σ H Q ⟨F, τ, l, q⟩ => by
    unfold eChain3 at q
    refine w_asI l q _ fun i F1 H1 e1 q => ?_
    refine w_asI (l.ext e1) q _ fun j F2 H2 e2 q => ?_
    refine ⟨i, j, rfl, rfl, ?_⟩
    cases hg : g1 i j with
    | false =>
      rw [hg, if_neg Bool.false_ne_true] at q
      rw [if_neg Bool.false_ne_true]
      exact q _ F2 H2 (Ext.refl e2.sub) (.bl _)
    | true =>
      rw [hg, if_pos rfl] at q
      rw [if_pos rfl]
      refine w_asI ((l.ext e1).ext e2) q _ fun k F3 H3 e3 q => ?_
      refine ⟨k, rfl, ?_⟩
      cases hg2 : g2 j k with
      | false =>
        rw [hg2, if_neg Bool.false_ne_true] at q
        rw [if_neg Bool.false_ne_true]
        exact q _ F3 H3 (Ext.refl e3.sub) (.bl _)
      | true =>
        rw [hg2, if_pos rfl] at q
        rw [if_pos rfl]
        refine w_asI (((l.ext e1).ext e2).ext e3) q _ fun n F4 H4 e4 q => ?_
        exact ⟨n, rfl, q _ F4 H4 (Ext.refl e4.sub) (.bl _)⟩
end
end Lp
end
section
set_option Elab.async false
set_option linter.all false
set_option maxRecDepth 100000
namespace Lp
open PySem PySem.Spec L2
section
variable {G : Nat → Addr} {K : PySem.W.Frag} {X : Cx} {κ : Kd} {E : St → XK} {pos : Pos} {x z : Str} {i : Int}
theorem v_gintE (hm : ∃ t, X.mg x = some (.int i t)) (hg : Gl X x := by rfl) (hd : (x == ("__debug__" : Str)) = false := by decide) : PE X (.Name x pos) (tE G K .sh E κ (eC (.int i))) := let ⟨_, h⟩ := hm; v_gint h hg hd
theorem v_gstrE (hm : ∃ t, X.mg x = some (.str z t)) (hg : Gl X x := by rfl) (hd : (x == ("__debug__" : Str)) = false := by decide) : PE X (.Name x pos) (tE G K .sh E κ (eC (.str z))) := let ⟨_, h⟩ := hm; v_gstr h hg hd
theorem tidy_rs (i : Nat) (r : Res PV) (τ τ' : LE) : tidy i (rs r τ Fl.rt) = tidy i (rs r τ' Fl.rt) := by cases r <;> rfl
end
end Lp
end
section
set_option Elab.async false
set_option linter.all false
set_option maxRecDepth 100000
namespace L2
open PySem PySem.Spec PyProof.Rows
section
variable {X : Cx}
theorem ps_setDc {i : Nat} {y : Str} {py : Pos} {kx vx tg iter : Expr} {ifs : List Expr} {scope : Scope} {own : List (Str × Nat)} {pos spos : Pos} {wi : TI} {g : TG} {tt : TT} {tk tv : TE} (hc : X.calm = true) (hN : X.N.Nodup) (hy : X.N[i]? = some y) (hyl : X.env.scope.names.lookup y = some .local)
    (hsw : swapsWith (.DictComp kx vx [⟨tg, iter, ifs, 0⟩] scope pos) (some (.Name y py)) spos.line X.env = pure true) (hi : PI X tg iter wi) (ok : BlkOk X.N X.env.scope scope own)
    (hg : ∀ (s : Shared) (H : Hp) (C : Addr) (cl : List (Str × Addr)) (fp : List Addr), PG (X.blk s H scope (compEnvC scope cl C X.env) fp) tg g) (ht : ∀ (s : Shared) (H : Hp) (C : Addr) (cl : List (Str × Addr)) (fp : List Addr), PTs (X.blk s H scope (compEnvC scope cl C X.env) fp) ifs tt)
    (hk : ∀ (s : Shared) (H : Hp) (C : Addr) (cl : List (Str × Addr)) (fp : List Addr), PE (X.blk s H scope (compEnvC scope cl C X.env) fp) kx tk)
    (he : ∀ (s : Shared) (H : Hp) (C : Addr) (cl : List (Str × Addr)) (fp : List Addr), PE (X.blk s H scope (compEnvC scope cl C X.env) fp) vx tv) (hs : ∀ x, foldedSetIterable iter X.env x = pure x := by intro _; rfl) :
    PS X (.Assign [.Name y py] (.DictComp kx vx [⟨tg, iter, ifs, 0⟩] scope pos) spos) (tAsg (tDc wi g tt tk tv (own.map (·.2))) (gName i)) := by
  refine ⟨fun pins s σ H D I h => ?_⟩
  rw [exec_Assign_Name_used _ _ _ _ hsw]
  refine wpAny_bind (wpAny_standAt (wpAny_bind ?_))
  show wpAny _ X.A (do let _ ← comprehension (.DictComp kx vx [⟨tg, iter, ifs, 0⟩] scope pos) scope X.env (firstIterPos [⟨tg, iter, ifs, 0⟩] pos) newDict false (eval iter X.env) (some (assign (.Name y py) X.env))) _ _ s
  have h : tDc wi g tt tk tv (own.map (·.2)) σ H (fun x H1 => gName i x σ H1 D.nx) := h
  refine wpAny_bind (thn (dc_core (Qf := fun _ s' => SP X pins D .next s') hc hN I hi ok hg ht hk he hs h fun L C s' m H' I' q hn f => ?_) fun _ s' hq => wpAny_pure (wpAny_pure hq))
  show wpAny _ _ (assign (.Name y py) X.env (.ref L)) _ _ _
  refine wpAny_assign_Name (store_ok2 (v := V.ref L) I' hN hy (.inl hyl) rfl (fun s2 I2 ⟨a, sb, ha⟩ => ?_) (.inr hyl))
  obtain ⟨f0, f1, f2, f3, f4, f5⟩ := f
  have haC : C ≠ a := by
    rcases ha with z | z
    · rw [z]; exact f1
    · exact fun e => f4 y a z e.symm
  refine ⟨m, hn.sameBut sb haC, fun h3 sb3 => ?_⟩
  exact ⟨_, H', I2.turned (t' := s2.toks) (fun b o hb e => (sb3.2 b hb).trans e) f0 f1 f3 f4 f5, q⟩
end
end L2
namespace Lp
open PySem PySem.Spec L2
section
variable {G : Nat → Addr} {K : PySem.W.Frag} {F H F' H' F0 H0 : Hp} {X : Cx} {v : V} {p : PV} {κ : Kd} {E : St → XK} {m md rm : Mode} {tg iter elt : Expr} {pos p' : Pos} {zs : Option Addr} {σ : St} {τ : LE} {f : LE → Res PV} {te : TE} {i : Nat}
/-- a fresh object, into an owned slot or a shared one -/
theorem w_setO (k : κ i = true) (hi0 : i ≠ 0) (hw : ∀ σ H Q, tE G K .fr E κ f σ H Q → te σ H Q) {D : Ends} (q : tStm G K E κ rm (sSet i f) D σ H) : tAsg te (gName i) D σ H := by
  obtain ⟨F0, H0, F, τ, zs, l, q⟩ := q
  refine hw σ H _ ⟨F, τ, l.lc, ?_⟩
  unfold sSet at q
  cases h : f τ with
  | exc c ps => rw [h] at q; exact l.exc q
  | bad => rw [h] at q; exact q
  | ok p =>
    rw [h, rs_ok] at q
    intro v F1 H1 e1 r1
    by_cases hl : i < τ.length
    · rw [if_pos hl] at q
      exact q _ F1 H1 (l.setO e1 k hi0 hl r1)
    · rw [if_neg hl] at q; exact q.elim
theorem w_setF (k : κ i = false) (hw : ∀ σ H Q, tE G K .fr E κ f σ H Q → te σ H Q) {D : Ends} (q : tStm G K E κ rm (sSet i f) D σ H) : tAsg te (gName i) D σ H := by
  obtain ⟨F0, H0, F, τ, zs, l, q⟩ := q
  refine hw σ H _ ⟨F, τ, l.lc, ?_⟩
  unfold sSet at q
  cases h : f τ with
  | exc c ps => rw [h] at q; exact l.exc q
  | bad => rw [h] at q; exact q
  | ok p =>
    rw [h, rs_ok] at q
    intro v F1 H1 e1 r1
    obtain ⟨a, rfl, h0, hF, o⟩ := r1
    obtain ⟨F2, e2, r2⟩ := e1.freeze h0 hF o
    by_cases hl : i < τ.length
    · rw [if_pos hl] at q
      exact q _ F2 H1 ((l.of_ext e2).set k hl r2)
    · rw [if_neg hl] at q; exact q.elim
theorem w_setX (b : Bool) (k : κ i = b) (hi0 : b = true → i ≠ 0) (hw : ∀ σ H Q, tE G K .fr E κ f σ H Q → te σ H Q) {D : Ends} (q : tStm G K E κ rm (sSet i f) D σ H) : tAsg te (gName i) D σ H := by
  cases b with
  | true => exact w_setO k (hi0 rfl) hw q
  | false => exact w_setF k hw q
theorem s_setLc (i : Nat) (b : Bool) {y : Str} {py spos : Pos} {ifs : List Expr} {scope : Scope} {own : List (Str × Nat)} {ws : List Nat} {wi : LE → Res (List PV)} {tgt : PV → LE → Res LE} {cond : LE → Res Bool} {te : LE → Res PV} (hc : X.calm = true) (hN : X.N.Nodup)
    (hi : PI X tg iter (tI G X.K false E κ wi)) (ok : BlkOk X.N X.env.scope scope own)
    (hg : ∀ (s : Shared) (H : Hp) (C : Addr) (cl : List (Str × Addr)) (fp : List Addr), PG (X.blk s H scope (compEnvC scope cl C X.env) fp) tg (tG G X.K ws EN κ tgt))
    (ht : ∀ (s : Shared) (H : Hp) (C : Addr) (cl : List (Str × Addr)) (fp : List Addr), PTs (X.blk s H scope (compEnvC scope cl C X.env) fp) ifs (tT G X.K EN κ cond))
    (he : ∀ (s : Shared) (H : Hp) (C : Addr) (cl : List (Str × Addr)) (fp : List Addr), PE (X.blk s H scope (compEnvC scope cl C X.env) fp) elt (tE G X.K .sh EN κ te))
    (hw : ∀ j ∈ ws, j ∈ own.map (·.2)) (hl : GOk κ ws tgt) (k : κ i = b := by rfl) (hi0 : b = true → i ≠ 0 := by decide) (hy : X.N[i]? = some y := by rfl) (hyl : X.env.scope.names.lookup y = some .local := by rfl)
    (hsw : swapsWith (.ListComp elt [⟨tg, iter, ifs, 0⟩] scope pos) (some (.Name y py)) spos.line X.env = pure true := by rfl) (hs : ∀ x, foldedSetIterable iter X.env x = pure x := by intro _; rfl) :
    PS X (.Assign [.Name y py] (.ListComp elt [⟨tg, iter, ifs, 0⟩] scope pos) spos) (tStm G X.K E κ rm (sSet i (eComp (own.map (·.2)) wi tgt cond te))) :=
  ps_weak (ps_setLc hc hN hy hyl hsw hi ok hg ht he hs) fun D σ H q => w_setX b k hi0 (fun _ _ _ h => w_lc hw hl h) q
theorem s_setLc2 (i : Nat) (b : Bool) {y : Str} {py spos : Pos} {tg1 iter1 : Expr} {ifs ifs1 : List Expr} {scope : Scope} {own : List (Str × Nat)} {own1 ws ws1 : List Nat} {wi wi1 : LE → Res (List PV)} {tgt tgt1 : PV → LE → Res LE} {cond cond1 : LE → Res Bool} {te : LE → Res PV} (hc : X.calm = true) (hN : X.N.Nodup)
    (hi : PI X tg iter (tI G X.K false E κ wi)) (ok : BlkOk X.N X.env.scope scope own) (hv : ∀ i ∈ own1, i ∈ own.map (·.2))
    (hg : ∀ (s : Shared) (H : Hp) (C : Addr) (cl : List (Str × Addr)) (fp : List Addr), PG (X.blk s H scope (compEnvC scope cl C X.env) fp) tg (tG G X.K ws EN κ tgt))
    (ht : ∀ (s : Shared) (H : Hp) (C : Addr) (cl : List (Str × Addr)) (fp : List Addr), PTs (X.blk s H scope (compEnvC scope cl C X.env) fp) ifs (tT G X.K EN κ cond))
    (hi1 : ∀ (s : Shared) (H : Hp) (C : Addr) (cl : List (Str × Addr)) (fp : List Addr), PI (X.blk s H scope (compEnvC scope cl C X.env) fp) tg1 iter1 (tI G X.K true EN κ wi1))
    (hg1 : ∀ (s : Shared) (H : Hp) (C : Addr) (cl : List (Str × Addr)) (fp : List Addr), PG (X.blk s H scope (compEnvC scope cl C X.env) fp) tg1 (tG G X.K ws1 EN κ tgt1))
    (ht1 : ∀ (s : Shared) (H : Hp) (C : Addr) (cl : List (Str × Addr)) (fp : List Addr), PTs (X.blk s H scope (compEnvC scope cl C X.env) fp) ifs1 (tT G X.K EN κ cond1))
    (he : ∀ (s : Shared) (H : Hp) (C : Addr) (cl : List (Str × Addr)) (fp : List Addr), PE (X.blk s H scope (compEnvC scope cl C X.env) fp) elt (tE G X.K .sh EN κ te))
    (hw : ∀ j ∈ ws, j ∈ own.map (·.2)) (hl : GOk κ ws tgt) (hw1 : ∀ j ∈ ws1, j ∈ own1) (hl1 : GOk κ ws1 tgt1) (k : κ i = b := by rfl) (hi0 : b = true → i ≠ 0 := by decide) (hy : X.N[i]? = some y := by rfl) (hyl : X.env.scope.names.lookup y = some .local := by rfl)
    (hsw : swapsWith (.ListComp elt [⟨tg, iter, ifs, 0⟩, ⟨tg1, iter1, ifs1, 0⟩] scope pos) (some (.Name y py)) spos.line X.env = pure true := by rfl) (hs : ∀ x, foldedSetIterable iter X.env x = pure x := by intro _; rfl) (hs1 : ∀ env x, foldedSetIterable iter1 env x = pure x := by intro _ _; rfl) :
    PS X (.Assign [.Name y py] (.ListComp elt [⟨tg, iter, ifs, 0⟩, ⟨tg1, iter1, ifs1, 0⟩] scope pos) spos) (tStm G X.K E κ rm (sSet i (eComp2 (own.map (·.2)) wi tgt cond wi1 own1 tgt1 cond1 te))) :=
  ps_weak (ps_setLc2 hc hN hy hyl hsw hi ok hv hg ht hi1 hg1 ht1 he hs hs1) fun D σ H q => w_setX b k hi0 (fun _ _ _ h => w_lc2 hw hl hw1 hl1 h) q
theorem s_setDc (i : Nat) (b : Bool) {y : Str} {py spos : Pos} {kx vx : Expr} {ifs : List Expr} {scope : Scope} {own : List (Str × Nat)} {ws : List Nat} {wi : LE → Res (List PV)} {tgt : PV → LE → Res LE} {cond : LE → Res Bool} {ek ev : LE → Res PV} (hc : X.calm = true) (hN : X.N.Nodup)
    (hi : PI X tg iter (tI G X.K false E κ wi)) (ok : BlkOk X.N X.env.scope scope own)
    (hg : ∀ (s : Shared) (H : Hp) (C : Addr) (cl : List (Str × Addr)) (fp : List Addr), PG (X.blk s H scope (compEnvC scope cl C X.env) fp) tg (tG G X.K ws EN κ tgt))
    (ht : ∀ (s : Shared) (H : Hp) (C : Addr) (cl : List (Str × Addr)) (fp : List Addr), PTs (X.blk s H scope (compEnvC scope cl C X.env) fp) ifs (tT G X.K EN κ cond))
    (hk : ∀ (s : Shared) (H : Hp) (C : Addr) (cl : List (Str × Addr)) (fp : List Addr), PE (X.blk s H scope (compEnvC scope cl C X.env) fp) kx (tE G X.K .sh EN κ ek))
    (he : ∀ (s : Shared) (H : Hp) (C : Addr) (cl : List (Str × Addr)) (fp : List Addr), PE (X.blk s H scope (compEnvC scope cl C X.env) fp) vx (tE G X.K .sh EN κ ev))
    (hw : ∀ j ∈ ws, j ∈ own.map (·.2)) (hl : GOk κ ws tgt) (k : κ i = b := by rfl) (hi0 : b = true → i ≠ 0 := by decide) (hy : X.N[i]? = some y := by rfl) (hyl : X.env.scope.names.lookup y = some .local := by rfl)
    (hsw : swapsWith (.DictComp kx vx [⟨tg, iter, ifs, 0⟩] scope pos) (some (.Name y py)) spos.line X.env = pure true := by rfl) (hs : ∀ x, foldedSetIterable iter X.env x = pure x := by intro _; rfl) :
    PS X (.Assign [.Name y py] (.DictComp kx vx [⟨tg, iter, ifs, 0⟩] scope pos) spos) (tStm G X.K E κ rm (sSet i (eDComp (own.map (·.2)) wi tgt cond ek ev))) :=
  ps_weak (ps_setDc hc hN hy hyl hsw hi ok hg ht hk he hs) fun D σ H q => w_setX b k hi0 (fun _ _ _ h => w_dc hw hl h) q
end
end Lp
end
section
set_option Elab.async false
set_option linter.all false
set_option maxRecDepth 100000
namespace Lp
open PySem PySem.Spec
theorem clsIn_exc {K : PySem.W.Frag} {nm q : Str} {C N : Addr} {bs bm : List Value} {hd : Bool} {sn : List Str} {sb : List Value} {ab : Bool} {col : Option Bool} {dd : Option Addr} {k0 k1 k2 k3 k5 : Option Value} {nid : String}
    (h : K.lookup C = some (excClassObj nm q C N bs bm hd sn sb ab col dd k0 k1 k2 k3 k5 nid)) : ∃ cd, PySem.W.clsIn K C = some cd ∧ cd.mro = .ref C :: bm := by
  unfold PySem.W.clsIn
  rw [h]
  exact ⟨_, rfl, rfl⟩
theorem sup_of {K : PySem.W.Frag} {name : Str} {r : Option Value} {nm q nm0 q0 : Str} {C N C0 N0 : Addr} {bs bs0 bm0 : List Value} {hd hd0 : Bool} {sn sn0 : List Str} {sb sb0 : List Value} {ab ab0 : Bool} {col col0 : Option Bool} {dd dd0 : Option Addr} {k0 k1 k2 k3 k5 j0 j1 j2 j3 j5 : Option Value} {nid nid0 : String}
    (h : K.lookup C = some (excClassObj nm q C N bs (.ref C0 :: bm0) hd sn sb ab col dd k0 k1 k2 k3 k5 nid)) (h0 : K.lookup C0 = some (excClassObj nm0 q0 C0 N0 bs0 bm0 hd0 sn0 sb0 ab0 col0 dd0 j0 j1 j2 j3 j5 nid0))
    (hf : PySem.W.findIn K (.ref C0) name = some r) : PySem.W.ks_superIn K C C name = some r := by
  obtain ⟨cd, hc, hm⟩ := clsIn_exc h
  unfold PySem.W.ks_superIn
  rw [hc, Option.bind_some, hm]
  have e : ((Value.ref C :: (.ref C0 :: bm0)).dropWhile (· != .ref C)).drop 1 = .ref C0 :: bm0 := by simp [List.dropWhile_cons]
  rw [e, ← hf]
  unfold PySem.W.findIn
  dsimp only
  rw [h0]
theorem kit_ref {K : PySem.W.Frag} {t : Value} {C : Addr} {b : Bool} (hd : PySem.W.hasDictIn K C = true) (ht : PySem.W.typeIn K (.ref C) = some (.type "type")) (h4 : PySem.W.subIn K t (.ref C) = some b) (hb : t = .ref C → b = true) : PySem.W.kitOne K t (.ref C) = some b := by
  obtain ⟨cd, hc, _⟩ := PySem.W.any_some hd
  unfold PySem.W.kitOne
  by_cases e : t = .ref C
  · rw [if_pos (by rw [e]; exact beq_self_eq_true _), hb e]
  · rw [if_neg (by simpa using e)]
    show (if ((PySem.W.clsIn K C).isSome && PySem.W.typeIn K (.ref C) == some (.type "type")) = true then PySem.W.subIn K t (.ref C) else none) = some b
    rw [if_pos (by rw [hc, ht]; rfl)]
    exact h4
theorem kit_typ {K : PySem.W.Frag} {C : Addr} {T : String} {b : Bool} (hm : PySem.W.kitMeta T = true) (h4 : PySem.W.subIn K (.ref C) (.type T) = some b) : PySem.W.kitOne K (.ref C) (.type T) = some b := by
  unfold PySem.W.kitOne
  rw [if_neg (by simp)]
  show (if PySem.W.kitMeta T = true then PySem.W.subIn K (.ref C) (.type T) else none) = some b
  rw [if_pos hm]
  exact h4
theorem exm_typ {K : PySem.W.Frag} {C : Addr} {T : String} {b : Bool} (h1 : PySem.W.subIn K (.type T) (.type "BaseException") = some true) (hm : PySem.W.kitMeta T = true) (h4 : PySem.W.subIn K (.ref C) (.type T) = some b) : PySem.W.exmOne K (.ref C) (.type T) = some b := by
  unfold PySem.W.exmOne
  rw [if_pos (by rw [h1]; rfl)]
  show (if PySem.W.kitMeta T = true then PySem.W.subIn K (.ref C) (.type T) else none) = some b
  rw [if_pos hm]
  exact h4
end Lp
end
section
set_option Elab.async false
set_option linter.all false
set_option maxRecDepth 100000
namespace Lp
open PySem PySem.Spec L2

/-! ### a list of lists that are changed in place -/
section
variable (G : Nat → Addr) (K : PySem.W.Frag)
def Rw1 (F H : Hp) (a : Addr) (r : List PV) : Prop := F a = none ∧ ∃ vs, H a = some (.lst vs) ∧ Reps G K F vs r
inductive Rws (F H : Hp) : List Addr → List (List PV) → Prop
  | nil : Rws F H [] []
  | cons {a : Addr} {as : List Addr} {r : List PV} {rs : List (List PV)} : Rw1 G K F H a r → Rws F H as rs → Rws F H (a :: as) (r :: rs)
/-- the rows at as, in the list at D; H0: what stood before -/
structure Rl (H0 F H : Hp) (D : Addr) (as : List Addr) (rs : List (List PV)) : Prop where
  at_ : H D = some (.lst (as.map V.ref))
  nF : F D = none
  n0 : H0 D = none
  nd : as.Nodup
  out : D ∉ as
  new : ∀ a ∈ as, H0 a = none
  rows : Rws G K F H as rs
end
section
variable {G : Nat → Addr} {K : PySem.W.Frag} {F H F' H' H0 : Hp} {D a : Addr} {as : List Addr} {r r' : List PV} {rs : List (List PV)} {vs : List V}
theorem Rw1.ext (h : Rw1 G K F H a r) (e : Ext F H F' H') : Rw1 G K F' H' a r := by
  obtain ⟨h1, vs, h2, h3⟩ := h
  exact ⟨e.apart h1 h2, vs, e.h _ _ h2, Reps.mono e.f h3⟩
theorem Rws.ext (e : Ext F H F' H') : ∀ {as rs}, Rws G K F H as rs → Rws G K F' H' as rs
  | _, _, .nil => .nil
  | _, _, .cons h hs => .cons (h.ext e) (Rws.ext e hs)
theorem Rl.ext (h : Rl G K H0 F H D as rs) (e : Ext F H F' H') : Rl G K H0 F' H' D as rs :=
  ⟨e.h _ _ h.at_, e.apart h.nF h.at_, h.n0, h.nd, h.out, h.new, h.rows.ext e⟩
theorem Rws.len : ∀ {as : List Addr} {rs : List (List PV)}, Rws G K F H as rs → as.length = rs.length
  | _, _, .nil => rfl
  | _, _, .cons _ hs => congrArg (· + 1) (Rws.len hs)
theorem Rws.get : ∀ {as : List Addr} {rs : List (List PV)} {i : Nat}, Rws G K F H as rs → rs[i]? = some r → ∃ a, as[i]? = some a ∧ Rw1 G K F H a r
  | _, _, _, .nil, e => by simp at e
  | _, _, 0, .cons h _, e => by simp at e; subst e; exact ⟨_, rfl, h⟩
  | _, _, i + 1, .cons _ hs, e => by
    obtain ⟨a, e1, h⟩ := Rws.get (i := i) hs (by simpa using e)
    exact ⟨a, by simpa using e1, h⟩
theorem Rws.keep : ∀ {as : List Addr} {rs : List (List PV)}, (∀ a ∈ as, H' a = H a) → Rws G K F H as rs → Rws G K F H' as rs
  | _, _, _, .nil => .nil
  | _, _, k, .cons h hs => .cons (by obtain ⟨h1, vs, h2, h3⟩ := h; exact ⟨h1, vs, (k _ List.mem_cons_self).trans h2, h3⟩) (Rws.keep (fun a ha => k a (List.mem_cons_of_mem _ ha)) hs)
theorem Rws.snoc (h1 : Rw1 G K F H a r) : ∀ {as : List Addr} {rs : List (List PV)}, Rws G K F H as rs → Rws G K F H (as ++ [a]) (rs ++ [r])
  | _, _, .nil => .cons h1 .nil
  | _, _, .cons h hs => .cons h (Rws.snoc h1 hs)
theorem Rws.write (hr : Reps G K F vs r') (hw : Rws G K F H as rs) : ∀ {i : Nat}, as.Nodup → as[i]? = some a → Rws G K F (upd H a (.lst vs)) as (rs.set i r') := by
  induction hw with
  | nil => intro i _ e; simp at e
  | @cons b as r rs h hs ih =>
    intro i nd e
    obtain ⟨n1, n2⟩ := List.nodup_cons.mp nd
    cases i with
    | zero =>
      simp at e; subst e
      exact .cons ⟨h.1, vs, upd_same, hr⟩ (hs.keep fun c hc => upd_ne fun z => n1 (by rw [← z]; exact hc))
    | succ i =>
      simp only [List.getElem?_cons_succ] at e
      have hne : b ≠ a := fun z => n1 (by rw [z]; exact List.mem_of_getElem? e)
      obtain ⟨h1, ws, h2, h3⟩ := h
      exact .cons ⟨h1, ws, by rw [upd_ne hne]; exact h2, h3⟩ (ih n2 e)
/-- a row is written -/
theorem Rl.write {i : Nat} (h : Rl G K H0 F H D as rs) (ha : as[i]? = some a) (hr : Reps G K F vs r') : Rl G K H0 F (upd H a (.lst vs)) D as (rs.set i r') :=
  ⟨by rw [upd_ne (a := a) (b := D) fun z => h.out (by rw [z]; exact List.mem_of_getElem? ha)]; exact h.at_, h.nF, h.n0, h.nd, h.out, h.new, h.rows.write hr h.nd ha⟩
/-- a row more -/
theorem Rl.snoc (h : Rl G K H0 F H D as rs) (sF : Same F H) (s0 : Same H0 H) (ha : H a = none) (hr : Reps G K F vs r) : Rl G K H0 F (upd (upd H a (.lst vs)) D (.lst ((as ++ [a]).map V.ref))) D (as ++ [a]) (rs ++ [r]) := by
  have hna : a ∉ as := fun z => by
    have : ∀ {as : List Addr} {rs : List (List PV)}, Rws G K F H as rs → a ∈ as → False := by
      intro as rs hw
      induction hw with
      | nil => intro h; cases h
      | cons h _ ih =>
        intro hm
        rcases List.mem_cons.mp hm with rfl | hm
        · obtain ⟨_, vs, h2, _⟩ := h; rw [ha] at h2; cases h2
        · exact ih hm
    exact this h.rows z
  have hD : D ≠ a := fun z => by rw [← z, h.at_] at ha; cases ha
  refine ⟨upd_same, h.nF, h.n0, List.nodup_append.mpr ⟨h.nd, by simp, fun x hx y hy => by rw [List.mem_singleton.mp hy]; exact fun z => hna (z ▸ hx)⟩, fun z => ?_, fun b hb => ?_, ?_⟩
  · rcases List.mem_append.mp z with z | z
    · exact h.out z
    · exact hD (List.mem_singleton.mp z)
  · rcases List.mem_append.mp hb with z | z
    · exact h.new b z
    · rw [List.mem_singleton.mp z]; exact Same.free s0 ha
  · refine Rws.snoc ⟨Same.free sF ha, vs, by rw [upd_ne (Ne.symm hD), upd_same], hr⟩ (h.rows.keep fun b hb => ?_)
    rw [upd_ne fun z => h.out (by rw [← z]; exact hb), upd_ne fun z => hna (by rw [← z]; exact hb)]
/-- an object of another slot is written -/
theorem Rl.keep (h : Rl G K H0 F H D as rs) (hD : H' D = H D) (k : ∀ a ∈ as, H' a = H a) : Rl G K H0 F H' D as rs := ⟨hD.trans h.at_, h.nF, h.n0, h.nd, h.out, h.new, h.rows.keep k⟩
/-! ### [[e, ..] for x in it] -/
def rowL (tgt : PV → LE → Res LE) (fr : LE → Res (List PV)) (τ : LE) : List PV → Res (List (List PV))
  | [] => .ok []
  | p :: ps => (tgt p τ).nx >>= fun τ1 => (fr τ1).nx >>= fun r => rowL tgt fr τ ps >>= fun rs => .ok (r :: rs)
theorem rowL_len {tgt : PV → LE → Res LE} {fr : LE → Res (List PV)} {τ : LE} : ∀ {ps : List PV} {rs : List (List PV)}, rowL tgt fr τ ps = .ok rs → rs.length = ps.length
  | [], rs, h => by rw [rowL] at h; cases h; rfl
  | p :: ps, rs, h => by
    rw [rowL] at h
    obtain ⟨τ1, _, h⟩ := Res.bind_ok h
    obtain ⟨r, _, h⟩ := Res.bind_ok h
    obtain ⟨rs', h1, h⟩ := Res.bind_ok h
    cases h
    simp [rowL_len h1]
structure GrR (G : Nat → Addr) (K : PySem.W.Frag) (F1 H1 : Hp) (D : Addr) (done : List (List PV)) (F H : Hp) : Prop where
  ext : Ext F1 H1 F H
  rl : ∃ as, Rl G K H1 F H D as done
theorem GrR.ext2 {F1 H1 F2 H2 : Hp} {done : List (List PV)} (g : GrR G K F1 H1 D done F H) (e : Ext F H F2 H2) : GrR G K F1 H1 D done F2 H2 := ⟨g.ext.trans e, let ⟨as, h⟩ := g.rl; ⟨as, h.ext e⟩⟩
theorem GrR.push {F1 H1 : Hp} {done : List (List PV)} (g : GrR G K F1 H1 D done F H) (ha : H a = none) (hr : Reps G K F vs r) : ∃ acc, (upd H a (.lst vs)) D = some (.lst acc) ∧ acc.length = done.length ∧ GrR G K F1 H1 D (done ++ [r]) F (upd (upd H a (.lst vs)) D (.lst (acc ++ [.ref a]))) := by
  obtain ⟨as, h⟩ := g.rl
  have hD : D ≠ a := fun z => by rw [← z, h.at_] at ha; cases ha
  refine ⟨as.map V.ref, by rw [upd_ne hD]; exact h.at_, by rw [List.length_map, h.rows.len], ?_, as ++ [a], ?_⟩
  · exact ⟨g.ext.f, same_updR (same_updR g.ext.h (Same.free g.ext.h ha)) h.n0, same_updR (same_updR g.ext.sub (Same.free g.ext.sub ha)) h.nF, g.ext.new⟩
  · have := h.snoc g.ext.sub g.ext.h ha hr
    rw [List.map_append] at this
    exact this
variable {κ : Kd} {E : St → XK} {σ : St} {τ : LE}
theorem w_rowsLc {own ws : List Nat} {wi : LE → Res (List PV)} {tgt : PV → LE → Res LE} {fr : LE → Res (List PV)} {ps : List PV} {rs : List (List PV)} {Q : VK} (hw : ∀ j ∈ ws, j ∈ own) (hl : GOk κ ws tgt) (l : Lc G K κ F H σ τ) (hwi : wi τ = .ok ps)
    (hc : rowL tgt fr (wipeL τ own) ps = .ok rs) (hrl : ∀ r ∈ rs, r.length ≤ 1000) (q : ∀ F' H' D as, Ext F H F' H' → Rl G K H F' H' D as rs → Q (.ref D) H') :
    tLc (tI G K false E κ wi) (tG G K ws EN κ tgt) (tT G K EN κ tYesM) (tLst (tA G K .sh EN κ fr)) own σ H Q := by
  refine ⟨F, τ, l, ?_⟩
  rw [hwi]
  intro J F1 H1 e1 i1 D hD
  simp only [Bool.false_eq_true, if_false] at i1
  refine ⟨fun i m H => m = ps.length - i ∧ i ≤ ps.length ∧ ∃ F done rest, GrR G K F1 H1 D done F H ∧ rowL tgt fr (wipeL τ own) (ps.drop i) = .ok rest ∧ rs = done ++ rest, ⟨ps.length, by simp, Nat.zero_le _, F1, [], rs, ?_, by simpa using hc, by simp⟩, ?_⟩
  · exact ⟨⟨Same.refl _, same_new hD, same_updR e1.sub (Same.free e1.sub hD), fun a h1 h2 => absurd h1 h2⟩, [], upd_same, Same.free e1.sub hD, hD, .nil, by simp, by simp, .nil⟩
  · rintro i m H2 ⟨rfl, hi, F2, done, rest, g, hcr, hrs⟩
    by_cases hlt : i < ps.length
    · refine .inr ⟨i1.go i H2 g.ext.h hlt, fun H => ∃ F done rest, GrR G K F1 H1 D done F H ∧ rowL tgt fr (wipeL τ own) (ps.drop (i + 1)) = .ok rest ∧ rs = done ++ rest, fun H' ⟨F', d', r', n1, n2, n3⟩ => ⟨ps.length - (i + 1), by omega, rfl, hlt, F', d', r', n1, n2, n3⟩, fun x H3 hy => ?_⟩
      have hp : ps[i]? = some ps[i] := List.getElem?_eq_getElem hlt
      obtain ⟨F3, e3, r3⟩ := i1.yld i x H2 H3 F2 _ g.ext.h g.ext.f g.ext.sub hy hp
      have g3 := g.ext2 e3
      have l3 : Lc G K κ F3 H3 (wipe σ own) (wipeL τ own) := ((l.ext e1).ext g3.ext).wipe own
      rw [List.drop_eq_getElem_cons hlt, rowL] at hcr
      obtain ⟨τ1, ht, hcr⟩ := Res.bind_ok hcr
      obtain ⟨r0, hr0, hcr⟩ := Res.bind_ok hcr
      obtain ⟨rs', hrs', hcr⟩ := Res.bind_ok hcr
      cases hcr
      have ht := Res.nx_inv ht
      have hr0 := Res.nx_inv hr0
      refine ⟨F3, wipeL τ own, ps[i], l3, r3, ?_⟩
      rw [ht]
      intro σ' l4 k4
      refine ⟨?_, ?_⟩
      · have e := wipe_same (σ := wipe σ own) hw (Lc.len2 l3 l4 (hl.len _ _ _ ht)) k4
        rw [e, wipe_wipe]
      · refine ⟨F3, τ1, l4, ?_⟩
        show ∀ F' H', Ext F3 H3 F' H' → _
        intro F4 H4 e4
        rw [if_pos rfl]
        have g4 := g3.ext2 e4
        refine ⟨F4, τ1, l4.ext e4, ?_⟩
        rw [hr0]
        intro vs F5 H5 e5 r5
        have g5 := g4.ext2 e5
        have r5' := r5.shared
        have hmem : r0 ∈ rs := by rw [hrs]; simp
        refine ⟨by rw [r5'.length, sizeLine_eq]; have := hrl _ hmem; omega, fun p np => ?_⟩
        obtain ⟨acc, h1, h2, h3⟩ := g5.push np r5'
        refine ⟨acc, h1, ?_, F5, done ++ [r0], rs', h3, hrs', by rw [hrs]; simp⟩
        rw [h2]
        have := rowL_len hc
        have h4 := congrArg List.length hrs
        have := i1.len
        simp at h4
        omega
    · have e : i = ps.length := by omega
      subst e
      rw [List.drop_length, rowL] at hcr
      cases hcr
      obtain ⟨as, rl⟩ := g.rl
      refine .inl ⟨i1.stop H2 g.ext.h, q F2 H2 D as (e1.trans g.ext) ?_⟩
      rw [hrs, List.append_nil]
      exact ⟨rl.at_, rl.nF, Same.free e1.h rl.n0, rl.nd, rl.out, fun a ha => Same.free e1.h (rl.new a ha), rl.rows⟩
/-! ### [tuple(x) for x in rows] -/
abbrev rTupOf (K : PySem.W.Frag) : List V → Hp → VK → Prop := fun xs H Q => ∃ p ys, xs = [.ref p] ∧ ((SqL K H p ys ∧ ∀ l, H l = none → Q (.ref l) (upd H l (.tup ys))) ∨ (SqT K H p ys ∧ Q (.ref p) H))
theorem w_tupRows {i j : Nat} {own : List Nat} {Q : VK} {H0 : Hp} (rl : Rl G K H0 F H D as rs) (sF : Same F H) (hσ : σ[i]? = some (some (.ref D))) (hjo : j ∈ own) (hj : j < σ.length) (hl : rs.length ≤ 1000000)
    (q : ∀ F' H' D2 vs, Ext F H F' H' → H D2 = none → F' D2 = none → H' D2 = some (.lst vs) → Reps G K F' vs (rs.map .tup) → Q (.ref D2) H') :
    tLc (iAny K (tVar i)) (gName j) tYes (tCB (rTupOf K) (tCons (tVar j) tNil)) own σ H Q := by
  refine ⟨.ref D, hσ, .inl ⟨D, as.map V.ref, rfl, .inl (.inl rl.at_), fun _ D2 hD2 => ?_⟩⟩
  have hlen := rl.rows.len
  refine ⟨fun k m H' => m = rs.length - k ∧ k ≤ rs.length ∧ ∃ F2 vs, Ext F H F2 H' ∧ F2 D2 = none ∧ H' D2 = some (.lst vs) ∧ Reps G K F2 vs ((rs.take k).map .tup),
    ⟨rs.length, by simp, Nat.zero_le _, F, [], ⟨Same.refl _, same_new hD2, same_updR sF (Same.free sF hD2), fun a h1 h2 => absurd h1 h2⟩, Same.free sF hD2, upd_same, by simpa using Reps.nil⟩, ?_⟩
  rintro k m H2 ⟨rfl, hk, F2, vs, e2, hF2, hH2, r2⟩
  have rl2 := rl.ext e2
  by_cases hlt : k < rs.length
  · have hr : rs[k]? = some rs[k] := List.getElem?_eq_getElem hlt
    obtain ⟨a, ha, hnF, ws, hw, rw'⟩ := rl2.rows.get hr
    refine .inr ⟨⟨as.map V.ref, .ref a, .inl (.inl rl2.at_), by rw [List.getElem?_map, ha]; rfl⟩, fun H' => ∃ F3 vs, Ext F H F3 H' ∧ F3 D2 = none ∧ H' D2 = some (.lst vs) ∧ Reps G K F3 vs ((rs.take (k + 1)).map .tup),
      fun H' ⟨F3, vs, n1, n2, n3, n4⟩ => ⟨rs.length - (k + 1), by omega, rfl, hlt, F3, vs, n1, n2, n3, n4⟩, fun x H3 hy => ?_⟩
    obtain ⟨rfl, hx⟩ := hy
    have hx := hx _ (.inl (.inl rl2.at_))
    rw [List.getElem?_map, ha] at hx
    cases hx
    refine ⟨?_, ?_⟩
    · refine List.ext_getElem? fun x => ?_
      by_cases hx : x ∈ own
      · rw [wipe_mem hx, wipe_mem hx, List.length_set, wipe_length]
      · rw [wipe_out hx, wipe_out hx, List.getElem?_set_ne fun z => hx (by rw [← z]; exact hjo), wipe_out hx]
    · unfold tYes; dsimp only
      rw [if_pos rfl]
      refine ⟨.ref a, by rw [List.getElem?_set_self (by rw [wipe_length]; exact hj)], ⟨a, ws, rfl, .inl ⟨.inl (.inl hw), fun p np => ?_⟩⟩⟩
      have hp2 : D2 ≠ p := fun z => by rw [← z, hH2] at np; cases np
      refine ⟨vs, by rw [upd_ne hp2]; exact hH2, by rw [r2.length, sizeLine_eq]; simp; omega, upd F2 p (.tup ws), vs ++ [.ref p], ?_, by rw [upd_ne hp2]; exact hF2, upd_same, ?_⟩
      · have e3 := e2.push (.tup ws) np
        exact ⟨e3.f, same_updR e3.h hD2, same_updR e3.sub (by rw [upd_ne hp2]; exact hF2), e3.new⟩
      · have s3 := same_new (o := .tup ws) (Same.free e2.sub np)
        have e : (rs.take (k + 1)).map PV.tup = (rs.take k).map PV.tup ++ [.tup rs[k]] := by rw [← List.take_append_getElem hlt, List.map_append]; rfl
        rw [e]
        exact Reps.snoc (Reps.mono s3 r2) (.tup (.inl (.inl upd_same)) (Reps.mono s3 rw'))
  · have e : k = rs.length := by omega
    subst e
    rw [List.take_length] at r2
    exact .inl ⟨⟨as.map V.ref, .inl (.inl rl2.at_), by rw [List.length_map, hlen]; exact Nat.le_refl _⟩, q F2 H2 D2 vs e2 hD2 hF2 hH2 r2⟩
end
end Lp
end
section
set_option Elab.async false
set_option linter.all false
set_option maxRecDepth 100000
namespace Lp
open PySem PySem.Spec L2
/-! ### the plain side: how mirrors are run through by simp -/
section evals
@[simp] theorem eVar_s (i : Nat) (τ : LE) : eVar i τ = (match τ[i]? with
  | some (some p) => .ok p
  | _ => .bad) := (rfl)
@[simp] theorem eC_s (p : PV) (τ : LE) : eC p τ = .ok p := (rfl)
@[simp] theorem aNil_s (τ : LE) : aNil τ = .ok [] := (rfl)
@[simp] theorem aCons_s (f g) (τ : LE) : aCons f g τ = (f τ >>= fun p => g τ >>= fun ps => .ok (p :: ps)) := (rfl)
@[simp] theorem e1_s (g f) (τ : LE) : e1 g f τ = (f τ >>= fun p => up (g p)) := (rfl)
@[simp] theorem e2_s (g f f') (τ : LE) : e2 g f f' τ = (f τ >>= fun p => f' τ >>= fun q => up (g p q)) := (rfl)
/-- the truth of a value -/
def tv : PV → Res Bool
  | .bl b => .ok b
  | _ => .bad
@[simp] theorem tv_bl (b : Bool) : tv (.bl b) = .ok b := (rfl)
@[simp] theorem tst_s (f) (τ : LE) : tst f τ = (f τ >>= tv) := by
  unfold tst
  congr 1
def bAnd (k : Res Bool) (b : Bool) : Res Bool := if b = true then k else .ok false
def bOr (k : Res Bool) (b : Bool) : Res Bool := if b = true then .ok true else k
@[simp] theorem bAnd_ok (b c : Bool) : bAnd (.ok c) b = .ok (b && c) := by cases b <;> rfl
@[simp] theorem bOr_ok (b c : Bool) : bOr (.ok c) b = .ok (b || c) := by cases b <;> rfl
@[simp] theorem bAnd_true (k) : bAnd k true = k := (rfl)
@[simp] theorem bAnd_false (k) : bAnd k false = .ok false := (rfl)
@[simp] theorem bOr_true (k) : bOr k true = .ok true := (rfl)
@[simp] theorem bOr_false (k) : bOr k false = k := (rfl)
@[simp] theorem tAndM_s (f g) (τ : LE) : tAndM f g τ = (f τ >>= bAnd (g τ)) := (rfl)
@[simp] theorem tOrM_s (f g) (τ : LE) : tOrM f g τ = (f τ >>= bOr (g τ)) := (rfl)
@[simp] theorem tNotM_s (f) (τ : LE) : tNotM f τ = (f τ >>= fun b => .ok (!b)) := (rfl)
@[simp] theorem tYesM_s (τ : LE) : tYesM τ = .ok true := (rfl)
@[simp] theorem eIf_s (t f f') (τ : LE) : eIf t f f' τ = (t τ >>= fun b => if b = true then f τ else f' τ) := (rfl)
def kAnd (k : Res PV) : PV → Res PV
  | .bl true => k
  | .bl false => .ok (.bl false)
  | _ => .bad
def kOr (k : Res PV) : PV → Res PV
  | .bl true => .ok (.bl true)
  | .bl false => k
  | _ => .bad
def kNot : PV → Res PV
  | .bl k => .ok (.bl (!k))
  | _ => .bad
theorem kAnd_bl (k) (b : Bool) : kAnd k (.bl b) = if b = true then k else .ok (.bl false) := by cases b <;> rfl
theorem kOr_bl (k) (b : Bool) : kOr k (.bl b) = if b = true then .ok (.bl true) else k := by cases b <;> rfl
@[simp] theorem kAnd_ok (b c : Bool) : kAnd (.ok (.bl c)) (.bl b) = .ok (.bl (b && c)) := by cases b <;> rfl
@[simp] theorem kOr_ok (b c : Bool) : kOr (.ok (.bl c)) (.bl b) = .ok (.bl (b || c)) := by cases b <;> rfl
@[simp] theorem kAnd_true (k) : kAnd k (.bl true) = k := (rfl)
@[simp] theorem kAnd_false (k) : kAnd k (.bl false) = .ok (.bl false) := (rfl)
@[simp] theorem kOr_true (k) : kOr k (.bl true) = .ok (.bl true) := (rfl)
@[simp] theorem kOr_false (k) : kOr k (.bl false) = k := (rfl)
@[simp] theorem kNot_bl (b : Bool) : kNot (.bl b) = .ok (.bl (!b)) := (rfl)
@[simp] theorem eAnd_s (f f') (τ : LE) : eAnd f f' τ = (f τ >>= kAnd (f' τ)) := by
  unfold eAnd
  congr 1
@[simp] theorem eOr_s (f f') (τ : LE) : eOr f f' τ = (f τ >>= kOr (f' τ)) := by
  unfold eOr
  congr 1
@[simp] theorem eNot_s (f) (τ : LE) : eNot f τ = (f τ >>= kNot) := by
  unfold eNot
  congr 1
def kCh (k : Res PV) : Option PV → Res PV
  | some (.bl true) => k
  | some (.bl false) => .ok (.bl false)
  | _ => .bad
theorem kCh_bl (k) (b : Bool) : kCh k (some (.bl b)) = if b = true then k else .ok (.bl false) := by cases b <;> rfl
@[simp] theorem kCh_ok (b c : Bool) : kCh (.ok (.bl c)) (some (.bl b)) = .ok (.bl (b && c)) := by cases b <;> rfl
@[simp] theorem kCh_true (k) : kCh k (some (.bl true)) = k := (rfl)
@[simp] theorem kCh_false (k) : kCh k (some (.bl false)) = .ok (.bl false) := (rfl)
@[simp] theorem eChain_s (g g' f f' f'') (τ : LE) : eChain g g' f f' f'' τ = (f τ >>= fun p => f' τ >>= fun p' => kCh (f'' τ >>= fun p'' => up (g' p' p'')) (g p p')) := by
  unfold eChain
  congr 1
def kI : PV → Res Int
  | .int i => .ok i
  | _ => .bad
@[simp] theorem kI_int (i : Int) : kI (.int i) = .ok i := (rfl)
@[simp] theorem asI_s (f) (τ : LE) : asI f τ = (f τ >>= kI) := by
  unfold asI
  congr 1
@[simp] theorem eChain3_s (g1 g2 g3 f1 f2 f3 f4) (τ : LE) : eChain3 g1 g2 g3 f1 f2 f3 f4 τ = (asI f1 τ >>= fun i => asI f2 τ >>= fun j => if g1 i j = true then asI f3 τ >>= fun k => (if g2 j k = true then asI f4 τ >>= fun l => .ok (.bl (g3 k l)) else .ok (.bl false)) else .ok (.bl false)) := (rfl)
@[simp] theorem eCall_s (g f) (τ : LE) : eCall g f τ = (f τ >>= fun ps => up (g ps)) := (rfl)
@[simp] theorem eFn_s (g fa) (τ : LE) : eFn g fa τ = (fa τ >>= g) := (rfl)
@[simp] theorem eFnK_s (nk perm g fa) (τ : LE) : eFnK nk perm g fa τ = (fa τ >>= fun qs => if qs.length = nk then g (gp perm qs) else .bad) := (rfl)
@[simp] theorem eTup_s (f) (τ : LE) : eTup f τ = (f τ >>= fun ps => if ps.length ≤ 1000 then .ok (.tup ps) else .bad) := (rfl)
@[simp] theorem eLst_s (f) (τ : LE) : eLst f τ = (f τ >>= fun ps => if ps.length ≤ 1000 then .ok (.lst ps) else .bad) := (rfl)
@[simp] theorem oNone_s (τ : LE) : oNone τ = .ok none := (rfl)
def kO : PV → Res (Option Int)
  | .int i => .ok (some i)
  | _ => .bad
@[simp] theorem kO_int (i : Int) : kO (.int i) = .ok (some i) := (rfl)
@[simp] theorem oSome_s (f) (τ : LE) : oSome f τ = (f τ >>= kO) := by
  unfold oSome
  congr 1
@[simp] theorem eSl_s (g f lo hi) (τ : LE) : eSl g f lo hi τ = (f τ >>= fun p => lo τ >>= fun l => hi τ >>= fun h => up (g p l h)) := (rfl)
@[simp] theorem iSeq_s (f) (τ : LE) : iSeq f τ = (f τ >>= fun p => up (itemsOf p)) := (rfl)
@[simp] theorem iFn_s (g f) (τ : LE) : iFn g f τ = (f τ >>= fun ps => up (g ps)) := (rfl)
@[simp] theorem gNm_s (i p) (τ : LE) : gNm i p τ = if i < τ.length then .ok (τ.set i (some p)) else .bad := (rfl)
@[simp] theorem gsN_s (τ : LE) : gsN [] τ = .ok τ := (rfl)
@[simp] theorem gsC_s (g gs p ps) (τ : LE) : gsC g gs (p :: ps) τ = (g p τ >>= fun τ' => gs ps τ') := (rfl)
@[simp] theorem gTp_s (gs n ps) (τ : LE) : gTp gs n (.tup ps) τ = if ps.length = n then gs ps τ else .bad := (rfl)
@[simp] theorem ar1_s (m a) : ar1 m [a] = m a := (rfl)
@[simp] theorem ar2_s (m a b) : ar2 m [a, b] = m a b := (rfl)
@[simp] theorem ar3_s (m a b c) : ar3 m [a, b, c] = m a b c := (rfl)
@[simp] theorem ar4_s (m a b c d) : ar4 m [a, b, c, d] = m a b c d := (rfl)
@[simp] theorem ar5_s (m a b c d e) : ar5 m [a, b, c, d, e] = m a b c d e := (rfl)
@[simp] theorem ar6_s (m a b c d e f) : ar6 m [a, b, c, d, e, f] = m a b c d e f := (rfl)
/-! operations -/
@[simp] theorem pLt_s (i j : Int) : pLt (.int i) (.int j) = some (.bl (decide (i < j))) := (rfl)
@[simp] theorem pLe_s (i j : Int) : pLe (.int i) (.int j) = some (.bl (decide (i ≤ j))) := (rfl)
@[simp] theorem pGt_s (i j : Int) : pGt (.int i) (.int j) = some (.bl (decide (j < i))) := (rfl)
@[simp] theorem pGe_s (i j : Int) : pGe (.int i) (.int j) = some (.bl (decide (j ≤ i))) := (rfl)
@[simp] theorem pAddA_int (i j : Int) : pAddA (.int i) (.int j) = some (.int (i + j)) := (rfl)
@[simp] theorem pSub_int (i j : Int) : pSub (.int i) (.int j) = some (.int (i - j)) := (rfl)
@[simp] theorem pNeg_int (i : Int) : pNeg (.int i) = some (.int (-i)) := (rfl)
@[simp] theorem pLen_lst (xs : List PV) : pLen [.lst xs] = some (.int (xs.length : Nat)) := (rfl)
@[simp] theorem pInt_int (i : Int) : pInt [.int i] = some (.int i) := (rfl)
@[simp] theorem pIx_lst (xs : List PV) (i : Int) : pIx (.lst xs) (.int i) = atI xs i := (rfl)
@[simp] theorem pIx_tup (xs : List PV) (i : Int) : pIx (.tup xs) (.int i) = atI xs i := (rfl)
@[simp] theorem pList_lst (xs : List PV) : pList [.lst xs] = some (.lst xs) := (rfl)
@[simp] theorem pList_tup (xs : List PV) : pList [.tup xs] = some (.lst xs) := (rfl)
@[simp] theorem pTuple_lst (xs : List PV) : pTuple [.lst xs] = some (.tup xs) := (rfl)
@[simp] theorem pTuple_tup (xs : List PV) : pTuple [.tup xs] = some (.tup xs) := (rfl)
@[simp] theorem itemsOf_lst (xs : List PV) : itemsOf (.lst xs) = some xs := (rfl)
@[simp] theorem itemsOf_tup (xs : List PV) : itemsOf (.tup xs) = some xs := (rfl)
@[simp] theorem pIsN_s (p : PV) : pIsN p .non = some (.bl p.isN) := (rfl)
@[simp] theorem pNotN_s (p : PV) : pNotN p .non = some (.bl (!p.isN)) := (rfl)
@[simp] theorem isN_non : PV.isN .non = true := (rfl)
@[simp] theorem isN_tup (x) : PV.isN (.tup x) = false := (rfl)
@[simp] theorem isN_lst (x) : PV.isN (.lst x) = false := (rfl)
@[simp] theorem isN_int (x) : PV.isN (.int x) = false := (rfl)
@[simp] theorem isN_bl (x) : PV.isN (.bl x) = false := (rfl)
@[simp] theorem isN_str (x) : PV.isN (.str x) = false := (rfl)
@[simp] theorem isN_ins (c x) : PV.isN (.ins c x) = false := (rfl)
theorem pMod_int {i j : Int} (h : 0 < j) : pMod (.int i) (.int j) = some (.int (i % j)) := by
  show (if _ then _ else _) = _
  rw [if_pos h]
theorem pDiv_int {i j : Int} (h : CDiv i j) : pDiv (.int i) (.int j) = some (.int (i / j)) := by
  show (if _ then _ else _) = _
  rw [if_pos h]
theorem pMul_int {i j : Int} (h : CMul i j) : pMul (.int i) (.int j) = some (.int (i * j)) := by
  show (if _ then _ else _) = _
  rw [if_pos h]
theorem pPow_int {i j : Int} (h : CPow i j) : pPow (.int i) (.int j) = some (.int (i ^ j.toNat)) := by
  show (if _ then _ else _) = _
  rw [if_pos h]
theorem pMin_int (i j : Int) : pMin [.int i, .int j] = some (.int (min i j)) := by
  show some (PV.int _) = _
  congr 2
  dsimp only
  split <;> omega
theorem pMax_int (i j : Int) : pMax [.int i, .int j] = some (.int (max i j)) := by
  show some (PV.int _) = _
  congr 2
  dsimp only
  split <;> omega
theorem tup_list (xs : List PV) : True := trivial
theorem eqB_int (i j : Int) : eqB (.int i) (.int j) = some (decide (i = j)) := by
  simp [eqB, PV.toD, SeqAt.shaped, PyData.canLay0, PyData.depth, PyData.eqv]
  rfl
@[simp] theorem pEq_int (i j : Int) : pEq (.int i) (.int j) = some (.bl (decide (i = j))) := by
  unfold pEq; rw [eqB_int]; rfl
@[simp] theorem pNe_int (i j : Int) : pNe (.int i) (.int j) = some (.bl (!decide (i = j))) := by
  unfold pNe; rw [eqB_int]; rfl
theorem eqB_bl (i j : Bool) : eqB (.bl i) (.bl j) = some (i == j) := by
  simp [eqB, PV.toD, SeqAt.shaped, PyData.canLay0, PyData.depth, PyData.eqv]
@[simp] theorem pEq_bl (i j : Bool) : pEq (.bl i) (.bl j) = some (.bl (i == j)) := by
  unfold pEq; rw [eqB_bl]; rfl
@[simp] theorem pNe_bl (i j : Bool) : pNe (.bl i) (.bl j) = some (.bl (!(i == j))) := by
  unfold pNe; rw [eqB_bl]; rfl
/-- the text can be laid -/
def sok (x : Str) : Prop := (PyData.str x).canLay0 = true
theorem ofS_inj {a b : String} : Str.ofString a = Str.ofString b ↔ a = b := by
  constructor
  · intro h
    rw [Str.ofString_eq_toList, Str.ofString_eq_toList] at h
    have h2 : a.toList.map Char.toNat = b.toList.map Char.toNat := by
      have := congrArg (fun x => x.cps.toList) h
      simpa using this
    have h3 : a.toList = b.toList := (List.map_inj_right (f := Char.toNat) fun x y e => Char.ext (UInt32.toNat_inj.mp e)).mp h2
    exact String.toList_inj.mp h3
  · exact congrArg _
@[simp] theorem ofS_eq (a b : String) : (Str.ofString a = Str.ofString b) = (a = b) := propext ofS_inj
@[simp] theorem ofS_beq (a b : String) : (Str.ofString a == Str.ofString b) = (a == b) := by
  by_cases h : a = b
  · subst h; simp
  · rw [beq_eq_false_iff_ne.mpr h]
    exact beq_eq_false_iff_ne.mpr fun e => h (ofS_inj.mp e)
theorem sok_of {x : Str} (h : ∀ c ∈ x.cps.toList, c < 0x110000) : sok x := by
  show x.cps.all (· < 0x110000) = true
  rw [Array.all_eq_true']
  intro c hc
  exact decide_eq_true (h c (by simpa using hc))
theorem sok_ofS (s : String) : sok (Str.ofString s) := sok_of fun c hc => by
  rw [Str.ofString_eq_toList] at hc
  simp only [List.mem_map] at hc
  obtain ⟨ch, _, rfl⟩ := hc
  have := ch.valid
  rcases this with h | ⟨_, h⟩
  · exact Nat.lt_trans h (by decide)
  · exact h
theorem eqB_str {x y : Str} (hx : sok x) (hy : sok y) : eqB (.str x) (.str y) = some (decide (x = y)) := by
  unfold sok at hx hy
  simp [eqB, PV.toD, SeqAt.shaped, hx, hy, PyData.depth, PyData.eqv]
  rfl
theorem pEq_str {x y : Str} (hx : sok x) (hy : sok y) : pEq (.str x) (.str y) = some (.bl (decide (x = y))) := by
  unfold pEq; rw [eqB_str hx hy]; rfl
theorem pNe_str {x y : Str} (hx : sok x) (hy : sok y) : pNe (.str x) (.str y) = some (.bl (!decide (x = y))) := by
  unfold pNe; rw [eqB_str hx hy]; rfl
@[simp] theorem isaK_int : isaKnown "int" = true := by decide
@[simp] theorem isaK_bool : isaKnown "bool" = true := by decide
@[simp] theorem isaK_str : isaKnown "str" = true := by decide
@[simp] theorem isaK_tuple : isaKnown "tuple" = true := by decide
@[simp] theorem isaK_list : isaKnown "list" = true := by decide
@[simp] theorem isa_non (n) : PV.isa n .non = some false := (rfl)
@[simp] theorem isa_bl (n b) : PV.isa n (.bl b) = some (n == "bool" || n == "int") := (rfl)
@[simp] theorem isa_int (n b) : PV.isa n (.int b) = some (n == "int") := (rfl)
@[simp] theorem isa_str (n b) : PV.isa n (.str b) = some (n == "str") := (rfl)
@[simp] theorem isa_tup (n b) : PV.isa n (.tup b) = some (n == "tuple") := (rfl)
@[simp] theorem isa_lst (n b) : PV.isa n (.lst b) = some (n == "list") := (rfl)
@[simp] theorem isa_scr (n b) : PV.isa n (.scr b) = some (n == "list") := (rfl)
@[simp] theorem isa_dK (n b) : PV.isa n (.dK b) = some (n == "dict") := (rfl)
@[simp] theorem pIsi_s (p : PV) (n) : pIsi [p, .ty n] = if isaKnown n = true then (p.isa n).map .bl else none := (rfl)
def kIsi2 : Option Bool → Option Bool → Res PV
  | some x, some y => .ok (.bl (x || y))
  | _, _ => .bad
@[simp] theorem kIsi2_s (x y) : kIsi2 (some x) (some y) = .ok (.bl (x || y)) := (rfl)
@[simp] theorem eIsi2_s (a b f) (τ : LE) : eIsi2 a b f τ = (f τ >>= fun p => kIsi2 (p.isa a) (p.isa b)) := by
  unfold eIsi2
  congr 1
@[simp] theorem pLen_tup (xs : List PV) : pLen [.tup xs] = some (.int (xs.length : Nat)) := (rfl)
@[simp] theorem pLen_scr (xs : List Int) : pLen [.scr xs] = some (.int (xs.length : Nat)) := (rfl)
@[simp] theorem pLen_dK (xs : List (Key × PV)) : pLen [.dK xs] = some (.int (xs.length : Nat)) := (rfl)
theorem pLen_str {z : Str} (h : z.length ≤ sizeLine) : pLen [.str z] = some (.int (z.length : Nat)) := if_pos h
@[simp] theorem keyP_str (x : Str) : keyP (.str x) = some (.inr x) := (rfl)
@[simp] theorem keyP_int (x : Int) : keyP (.int x) = some (.inl x) := (rfl)
@[simp] theorem pDIn_s (n : Bool) (q : PV) (d) : pDIn n q (.dK d) = (keyP q).map fun k => .bl (n ^^ hasP d k) := (rfl)
@[simp] theorem pDGet_s (q : PV) (d) : pDGet (.dK d) q = (keyP q).bind (valP d) := (rfl)
@[simp] theorem sPut_s (i fi fe) (τ : LE) : sPut i fi fe τ = rs (fe τ) τ fun p => onDK τ[i]? fun kvs => rs (fi τ) τ fun q => match keyP q with
    | some k => if kvs.length < 1000000 then .nx (τ.set i (some (.dK (setP kvs k p)))) else .bad
    | none => .bad := (rfl)
@[simp] theorem sDel_s (i fi) (τ : LE) : sDel i fi τ = onDK τ[i]? fun kvs => rs (fi τ) τ fun q => match keyP q with
    | some k => if hasP kvs k then .nx (τ.set i (some (.dK (dropP kvs k)))) else .bad
    | none => .bad := (rfl)
/-! statements -/
def Fl.next (r : Fl) (m : LE → Fl) : Fl := match r with
  | .nx τ => m τ
  | r => r
@[simp] theorem next_nx (τ m) : Fl.next (.nx τ) m = m τ := (rfl)
@[simp] theorem next_rt (p m) : Fl.next (.rt p) m = .rt p := (rfl)
@[simp] theorem next_bk (p m) : Fl.next (.bk p) m = .bk p := (rfl)
@[simp] theorem next_ct (p m) : Fl.next (.ct p) m = .ct p := (rfl)
@[simp] theorem next_ex (c fs τ m) : Fl.next (.ex c fs τ) m = .ex c fs τ := (rfl)
@[simp] theorem next_bad (m) : Fl.next .bad m = .bad := (rfl)
@[simp] theorem sSeq_s (m1 m2) (τ : LE) : sSeq m1 m2 τ = (m1 τ).next m2 := by
  unfold sSeq Fl.next
  cases m1 τ <;> rfl
@[simp] theorem sNil_s (τ : LE) : sNil τ = .nx τ := (rfl)
@[simp] theorem sIf_s (t m1 m2) (τ : LE) : sIf t m1 m2 τ = rs (t τ) τ fun b => if b = true then m1 τ else m2 τ := (rfl)
@[simp] theorem sRet_s (f) (τ : LE) : sRet f τ = rs (f τ) τ .rt := (rfl)
@[simp] theorem sRetN_s (τ : LE) : sRetN τ = .rt .non := (rfl)
@[simp] theorem sExpr_s (f) (τ : LE) : sExpr f τ = rs (f τ) τ fun _ => .nx τ := (rfl)
@[simp] theorem sSet_s (i f) (τ : LE) : sSet i f τ = rs (f τ) τ fun p => if i < τ.length then .nx (τ.set i (some p)) else .bad := (rfl)
@[simp] theorem sAsg_s (f g) (τ : LE) : sAsg f g τ = rs (f τ) τ fun p => rs (g p τ).nx τ .nx := (rfl)
@[simp] theorem sExprM_s (f) (τ : LE) : sExprM f τ = rs (f τ) τ fun r => .nx r.2 := (rfl)
@[simp] theorem sSetM_s (j f) (τ : LE) : sSetM j f τ = rs (f τ) τ fun r => if j < r.2.length then .nx (r.2.set j (some r.1)) else .bad := (rfl)
def kMut (i : Nat) (g : List PV → List PV → Option (List PV × PV)) (a : Res (List PV)) (τ : LE) : Option (Option PV) → Res (PV × LE)
  | some (some (.lst ps)) => a >>= fun qs => match g ps qs with
    | some (ps', z) => .ok (z, τ.set i (some (.lst ps')))
    | none => .bad
  | _ => .bad
@[simp] theorem kMut_lst (i g a τ ps) : kMut i g a τ (some (some (.lst ps))) = (a >>= fun qs => match g ps qs with
    | some (ps', z) => .ok (z, τ.set i (some (.lst ps')))
    | none => .bad) := (rfl)
@[simp] theorem eMut_s (i g f) (τ : LE) : eMut i g f τ = kMut i g (f τ) τ τ[i]? := by
  unfold eMut
  rcases τ[i]? with _ | _ | p
  · rfl
  · rfl
  · cases p <;> rfl
theorem gApp_s {ps : List PV} {q : PV} (h : ps.length < 1000000) : gApp ps [q] = some (ps ++ [q], .non) := by
  unfold gApp
  exact if_pos h
@[simp] theorem sRaise_s (c fld f) (τ : LE) : sRaise c fld f τ = rs (f τ) τ fun p => .ex c [(fld, p)] τ := (rfl)
@[simp] theorem fin_rt (m p) : fin m (.rt p) = .ok p := (rfl)
@[simp] theorem fin_ex (m c fs τ) : fin m (.ex c fs τ) = .exc c fs := (rfl)
@[simp] theorem fin_nx (τ) : fin .sh (.nx τ) = .ok .non := (rfl)
@[simp] theorem sFld_s (i cl f fe) (τ : LE) : sFld i cl f fe τ = rs (fe τ) τ fun p => onIns τ[i]? fun c fs => if c = cl ∧ fs.length < 1000 then .nx (τ.set i (some (.ins c (putP f p fs)))) else .bad := (rfl)
def kTryA (cov : Nat → Option Bool) (i : Nat) (ms : Addr → Addr → Nat → LE → Fl) : Fl → Fl
  | .ex c fs τ1 => match cov c with
    | some true => if i < τ1.length then tidy i (ms 0 0 c (τ1.set i (some (.exn 0 0 c fs)))) else .bad
    | some false => .ex c fs τ1
    | none => .bad
  | r => r
@[simp] theorem sTryA_s (cov i mb ms) (τ : LE) : sTryA cov i mb ms τ = kTryA cov i ms (mb τ) := by
  unfold sTryA
  cases mb τ <;> rfl
@[simp] theorem kTryA_rt (cov i ms p) : kTryA cov i ms (.rt p) = .rt p := (rfl)
@[simp] theorem kTryA_nx (cov i ms p) : kTryA cov i ms (.nx p) = .nx p := (rfl)
@[simp] theorem kTryA_ct (cov i ms p) : kTryA cov i ms (.ct p) = .ct p := (rfl)
@[simp] theorem kTryA_bk (cov i ms p) : kTryA cov i ms (.bk p) = .bk p := (rfl)
@[simp] theorem kTryA_ex (cov i ms c fs τ1) : kTryA cov i ms (.ex c fs τ1) = match cov c with
    | some true => if i < τ1.length then tidy i (ms 0 0 c (τ1.set i (some (.exn 0 0 c fs)))) else .bad
    | some false => .ex c fs τ1
    | none => .bad := (rfl)
def kTryO (cov : Nat → Option Bool) (ms : LE → Fl) : Fl → Fl
  | .ex c fs τ1 => match cov c with
    | some true => noEx (ms τ1)
    | some false => .ex c fs τ1
    | none => .bad
  | r => r
@[simp] theorem sTryO_s (cov mb ms) (τ : LE) : sTryO cov mb ms τ = kTryO cov ms (mb τ) := by
  unfold sTryO
  cases mb τ <;> rfl
@[simp] theorem kTryO_rt (cov ms p) : kTryO cov ms (.rt p) = .rt p := (rfl)
@[simp] theorem kTryO_nx (cov ms p) : kTryO cov ms (.nx p) = .nx p := (rfl)
@[simp] theorem kTryO_ct (cov ms p) : kTryO cov ms (.ct p) = .ct p := (rfl)
@[simp] theorem kTryO_bk (cov ms p) : kTryO cov ms (.bk p) = .bk p := (rfl)
@[simp] theorem kTryO_ex (cov ms c fs τ1) : kTryO cov ms (.ex c fs τ1) = match cov c with
    | some true => noEx (ms τ1)
    | some false => .ex c fs τ1
    | none => .bad := (rfl)
@[simp] theorem tidy_nx (i τ) : tidy i (.nx τ) = .nx (τ.set i none) := (rfl)
@[simp] theorem tidy_ct (i τ) : tidy i (.ct τ) = .ct (τ.set i none) := (rfl)
@[simp] theorem tidy_bk (i τ) : tidy i (.bk τ) = .bk (τ.set i none) := (rfl)
@[simp] theorem tidy_rt (i p) : tidy i (.rt p) = .rt p := (rfl)
@[simp] theorem noEx_nx (τ) : noEx (.nx τ) = .nx τ := (rfl)
@[simp] theorem noEx_ct (τ) : noEx (.ct τ) = .ct τ := (rfl)
@[simp] theorem noEx_bk (τ) : noEx (.bk τ) = .bk τ := (rfl)
@[simp] theorem noEx_rt (p) : noEx (.rt p) = .rt p := (rfl)
def kAt (k : List (Str × PV) → Res PV) (a d : Addr) : Option (Option PV) → Res PV
  | some (some (.exn a' d' _ fs)) => if a' = a ∧ d' = d then k fs else .bad
  | _ => .bad
@[simp] theorem kAt_exn (k a d a' d' c fs) : kAt k a d (some (some (.exn a' d' c fs))) = if a' = a ∧ d' = d then k fs else .bad := (rfl)
@[simp] theorem eAt_s (a d i k) (τ : LE) : eAt a d i k τ = kAt k a d τ[i]? := by
  unfold eAt
  rcases τ[i]? with _ | _ | p
  · rfl
  · rfl
  · cases p <;> rfl
@[simp] theorem xGet_s (f fs) : xGet f fs = up (fs.lookup f) := by
  unfold xGet
  cases fs.lookup f <;> rfl
def kAtt (ok : Nat → Bool) (f : Str) : PV → Res PV
  | .ins c fs => if ok c = true then up (fs.lookup f) else .bad
  | _ => .bad
@[simp] theorem kAtt_ins (ok f c fs) : kAtt ok f (.ins c fs) = if ok c = true then up (fs.lookup f) else .bad := (rfl)
@[simp] theorem eAtt_s (ok f fe) (τ : LE) : eAtt ok f fe τ = (fe τ >>= kAtt ok f) := by
  unfold eAtt
  congr 1
  funext p
  cases p <;> try rfl
  unfold kAtt
  dsimp only
  split
  · cases List.lookup f _ <;> rfl
  · rfl
end evals
section sats
/-- what is promised of an end -/
structure Pst where
  nx : LE → Prop := fun _ => False
  rt : PV → Prop := fun _ => False
  bk : LE → Prop := fun _ => False
  ct : LE → Prop := fun _ => False
  ex : Nat → List (Str × PV) → LE → Prop := fun _ _ _ => False
def Fl.sat (r : Fl) (D : Pst) : Prop := match r with
  | .nx τ => D.nx τ
  | .rt p => D.rt p
  | .bk τ => D.bk τ
  | .ct τ => D.ct τ
  | .ex c fs τ => D.ex c fs τ
  | .bad => False
variable {D E : Pst} {τ : LE} {r : Fl} {m : LE → Fl} {it : LE → Res (List PV)} {g : PV → LE → Res LE} {body : LE → Fl} {ps : List PV}
@[simp] theorem sat_nx : (Fl.nx τ).sat D = D.nx τ := (rfl)
@[simp] theorem sat_rt {p} : (Fl.rt p).sat D = D.rt p := (rfl)
@[simp] theorem sat_bk : (Fl.bk τ).sat D = D.bk τ := (rfl)
@[simp] theorem sat_ct : (Fl.ct τ).sat D = D.ct τ := (rfl)
@[simp] theorem sat_ex {c fs} : (Fl.ex c fs τ).sat D = D.ex c fs τ := (rfl)
@[simp] theorem sat_bad : Fl.bad.sat D = False := (rfl)
theorem Fl.sat.mono (h : r.sat D) (h1 : ∀ τ, D.nx τ → E.nx τ) (h2 : ∀ p, D.rt p → E.rt p) (h3 : ∀ τ, D.bk τ → E.bk τ) (h4 : ∀ τ, D.ct τ → E.ct τ) (h5 : ∀ c fs τ, D.ex c fs τ → E.ex c fs τ) : r.sat E := by
  cases r with
  | nx τ => exact h1 _ h
  | rt p => exact h2 _ h
  | bk τ => exact h3 _ h
  | ct τ => exact h4 _ h
  | ex c fs τ => exact h5 _ _ _ h
  | bad => exact h
theorem sat_next (h : r.sat { D with nx := fun τ => (m τ).sat D }) : (r.next m).sat D := by
  cases r <;> exact h
theorem forL_sat {α : Type} (enc : α → PV) (I : Nat → LE → Prop) : ∀ (xs : List α) (n : Nat) (τ : LE), I n τ → (∀ k (hk : k < xs.length) τ, I (n + k) τ → ∃ τ1, g (enc xs[k]) τ = .ok τ1 ∧ (body τ1).sat { nx := I (n + k + 1), ct := I (n + k + 1), bk := D.nx, rt := D.rt, ex := D.ex }) →
    (∀ τ, I (n + xs.length) τ → D.nx τ) → (forL g body (xs.map enc) τ).sat D
  | [], n, τ, h0, _, he => he τ h0
  | x :: xs, n, τ, h0, hs, he => by
    obtain ⟨τ1, e1, s1⟩ := hs 0 (by simp) τ h0
    rw [List.map_cons, forL]
    simp only [List.getElem_cons_zero] at e1
    rw [e1]
    simp only [Res.nx_ok, rs_ok]
    have ih := fun τ h => forL_sat enc I xs (n + 1) τ h (fun k hk τ' h' => by
      obtain ⟨τ2, e2, s2⟩ := hs (k + 1) (by simpa using hk) τ' (by rw [show n + (k + 1) = n + 1 + k by omega]; exact h')
      rw [show n + (k + 1) = n + 1 + k by omega] at s2
      exact ⟨τ2, by simpa using e2, s2⟩) (fun τ' h' => he τ' (by rw [List.length_cons, show n + (xs.length + 1) = n + 1 + xs.length by omega]; exact h'))
    cases hb : body τ1 with
    | nx τ2 => rw [hb] at s1; exact ih τ2 s1
    | ct τ2 => rw [hb] at s1; exact ih τ2 s1
    | bk τ2 => rw [hb] at s1; exact s1
    | rt p => rw [hb] at s1; exact s1
    | ex c fs τ2 => rw [hb] at s1; exact s1
    | bad => rw [hb] at s1; exact s1
/-- a for loop over coded items by an invariant of how many are done -/
theorem for_sat {α : Type} (xs : List α) (enc : α → PV) (I : Nat → LE → Prop) (h : it τ = .ok (xs.map enc)) (h0 : I 0 τ)
    (hs : ∀ k (hk : k < xs.length) τ, I k τ → ∃ τ1, g (enc xs[k]) τ = .ok τ1 ∧ (body τ1).sat { nx := I (k + 1), ct := I (k + 1), bk := D.nx, rt := D.rt, ex := D.ex })
    (he : ∀ τ, I xs.length τ → D.nx τ) : (sFor it g body τ).sat D := by
  unfold sFor
  rw [h, rs_ok]
  exact forL_sat enc I xs 0 τ h0 (fun k hk τ h => by
    rw [Nat.zero_add] at h ⊢
    exact hs k hk τ h) (fun τ h => he τ (by rw [Nat.zero_add] at h; exact h))
theorem while_sat {t : LE → Res Bool} (I : Nat → LE → Prop) : ∀ (n : Nat) (τ : LE), I n τ → (∀ n τ, I n τ → ∃ b, t τ = .ok b ∧ if b = true then ∃ k, n = k + 1 ∧ (body τ).sat { nx := I k, ct := I k, bk := D.nx, rt := D.rt, ex := D.ex } else 0 < n ∧ D.nx τ) → (whileL t body n τ).sat D
  | 0, τ, h, hs => by
    obtain ⟨b, _, h2⟩ := hs 0 τ h
    cases b
    · exact absurd h2.1 (by omega)
    · obtain ⟨k, e, _⟩ := h2; omega
  | n + 1, τ, h, hs => by
    obtain ⟨b, e, h2⟩ := hs (n + 1) τ h
    unfold whileL
    rw [e, rs_ok]
    cases b
    · exact h2.2
    · obtain ⟨k, ek, s1⟩ := h2
      obtain rfl : n = k := by omega
      rw [if_pos rfl]
      have ih := fun τ h => while_sat I n τ h hs
      cases hb : body τ with
      | nx τ2 => rw [hb] at s1; exact ih τ2 s1
      | ct τ2 => rw [hb] at s1; exact ih τ2 s1
      | bk τ2 => rw [hb] at s1; exact s1
      | rt p => rw [hb] at s1; exact s1
      | ex c fs τ2 => rw [hb] at s1; exact s1
      | bad => rw [hb] at s1; exact s1
theorem fin_sat {rm : Mode} {P : PV → Prop} (h : r.sat { rt := P }) : ∃ v, fin rm r = .ok v ∧ P v := by
  cases r with
  | rt p => exact ⟨p, rfl, h⟩
  | _ => exact h.elim
theorem fin_eq {rm : Mode} {v : PV} (h : r.sat { rt := fun p => p = v }) : fin rm r = .ok v := by
  obtain ⟨w, e, rfl⟩ := fin_sat (rm := rm) h
  exact e
theorem finI_eq {v : PV} (h : r.sat { nx := fun τ => τ[0]? = some (some v) }) : finI r = .ok v := by
  cases r with
  | nx τ =>
    have h : τ[0]? = some (some v) := h
    show (match τ[0]? with
      | some (some p) => Res.ok p
      | _ => .bad) = _
    rw [h]
  | _ => exact h.elim
end sats
section comps
variable {τ : LE} {it : LE → Res (List PV)} {tgt : PV → LE → Res LE} {cond : LE → Res Bool} {elt : LE → Res PV} {own : List Nat}
/-- what one item of a comprehension gives -/
def cItem (tgt : PV → LE → Res LE) (cond : LE → Res Bool) (elt : LE → Res PV) (τ : LE) (p : PV) : Res (Option PV) :=
  tgt p τ >>= fun τ1 => cond τ1 >>= fun b => if b = true then elt τ1 >>= fun v => .ok (some v) else .ok none
theorem compL_item {p : PV} {ps : List PV} {o : Option PV} (h : cItem tgt cond elt τ p = .ok o) : compL tgt cond elt τ (p :: ps) = (compL tgt cond elt τ ps >>= fun r => .ok (o.toList ++ r)) := by
  unfold cItem at h
  rw [compL]
  cases h1 : tgt p τ with
  | exc c fs => rw [h1] at h; cases h
  | bad => rw [h1] at h; cases h
  | ok τ1 =>
    rw [h1, Res.ok_bind] at h
    rw [Res.nx_ok, Res.ok_bind]
    cases h2 : cond τ1 with
    | exc c fs => rw [h2] at h; cases h
    | bad => rw [h2] at h; cases h
    | ok b =>
      rw [h2, Res.ok_bind] at h
      rw [Res.nx_ok, Res.ok_bind]
      cases b
      · cases h
        rw [if_neg (by decide)]
        cases compL tgt cond elt τ ps <;> rfl
      · rw [if_pos rfl] at h ⊢
        cases h3 : elt τ1 with
        | exc c fs => rw [h3] at h; cases h
        | bad => rw [h3] at h; cases h
        | ok v =>
          rw [h3, Res.ok_bind] at h
          cases h
          rfl
theorem compL_map {α : Type} (enc : α → PV) (f : α → Option PV) : ∀ xs : List α, (∀ x ∈ xs, cItem tgt cond elt τ (enc x) = .ok (f x)) → compL tgt cond elt τ (xs.map enc) = .ok (xs.filterMap f)
  | [], _ => rfl
  | x :: xs, h => by
    rw [List.map_cons, compL_item (h x List.mem_cons_self), compL_map enc f xs fun y hy => h y (List.mem_cons_of_mem _ hy), Res.ok_bind, List.filterMap_cons]
    cases f x <;> rfl
theorem comp_opt {α : Type} (xs : List α) (enc : α → PV) (f : α → Option PV) (h : it τ = .ok (xs.map enc)) (hs : ∀ x ∈ xs, cItem tgt cond elt (wipeL τ own) (enc x) = .ok (f x)) : eComp own it tgt cond elt τ = .ok (.lst (xs.filterMap f)) := by
  unfold eComp
  rw [h, Res.ok_bind, compL_map enc f xs hs]
  rfl
theorem comp_map {α : Type} (xs : List α) (enc f : α → PV) (h : it τ = .ok (xs.map enc)) (hs : ∀ x ∈ xs, cItem tgt cond elt (wipeL τ own) (enc x) = .ok (some (f x))) : eComp own it tgt cond elt τ = .ok (.lst (xs.map f)) := by
  rw [comp_opt xs enc (fun x => some (f x)) h hs, List.filterMap_eq_map' ]
theorem comp_filter {α : Type} (xs : List α) (enc f : α → PV) (c : α → Bool) (h : it τ = .ok (xs.map enc)) (hs : ∀ x ∈ xs, cItem tgt cond elt (wipeL τ own) (enc x) = .ok (if c x = true then some (f x) else none)) : eComp own it tgt cond elt τ = .ok (.lst ((xs.filter c).map f)) := by
  rw [comp_opt xs enc _ h hs]
  congr 2
  clear h hs
  induction xs with
  | nil => rfl
  | cons x xs ih =>
    rw [List.filterMap_cons, List.filter_cons]
    cases c x
    · exact ih
    · simp [ih]
def kC2 (it1 : LE → Res (List PV)) (own1 : List Nat) (tgt1 : PV → LE → Res LE) (cond1 : LE → Res Bool) (elt : LE → Res PV) (tgt : PV → LE → Res LE) (cond : LE → Res Bool) (τ : LE) (p : PV) : Res (List PV) :=
  tgt p τ >>= fun τ1 => cond τ1 >>= fun b => if b = true then it1 τ1 >>= fun qs => compL tgt1 cond1 elt (wipeL τ1 own1) qs else .ok []
variable {it1 : LE → Res (List PV)} {own1 : List Nat} {tgt1 : PV → LE → Res LE} {cond1 : LE → Res Bool}
theorem compL2_item {p : PV} {ps o : List PV} (h : kC2 it1 own1 tgt1 cond1 elt tgt cond τ p = .ok o) : compL2 tgt cond it1 own1 tgt1 cond1 elt τ (p :: ps) = (compL2 tgt cond it1 own1 tgt1 cond1 elt τ ps >>= fun r => .ok (o ++ r)) := by
  unfold kC2 at h
  rw [compL2]
  cases h1 : tgt p τ with
  | exc c fs => rw [h1] at h; cases h
  | bad => rw [h1] at h; cases h
  | ok τ1 =>
    rw [h1, Res.ok_bind] at h
    rw [Res.nx_ok, Res.ok_bind]
    cases h2 : cond τ1 with
    | exc c fs => rw [h2] at h; cases h
    | bad => rw [h2] at h; cases h
    | ok b =>
      rw [h2, Res.ok_bind] at h
      rw [Res.nx_ok, Res.ok_bind]
      cases b
      · cases h
        rw [if_neg (by decide)]
        cases compL2 tgt cond it1 own1 tgt1 cond1 elt τ ps <;> rfl
      · rw [if_pos rfl] at h ⊢
        cases h3 : it1 τ1 with
        | exc c fs => rw [h3] at h; cases h
        | bad => rw [h3] at h; cases h
        | ok qs =>
          rw [h3, Res.ok_bind] at h
          rw [Res.nx_ok, Res.ok_bind, h, Res.ok_bind]
theorem compL2_map {α : Type} (enc : α → PV) (f : α → List PV) : ∀ xs : List α, (∀ x ∈ xs, kC2 it1 own1 tgt1 cond1 elt tgt cond τ (enc x) = .ok (f x)) → compL2 tgt cond it1 own1 tgt1 cond1 elt τ (xs.map enc) = .ok (xs.flatMap f)
  | [], _ => rfl
  | x :: xs, h => by
    rw [List.map_cons, compL2_item (h x List.mem_cons_self), compL2_map enc f xs fun y hy => h y (List.mem_cons_of_mem _ hy), Res.ok_bind, List.flatMap_cons]
theorem comp2_map {α : Type} (xs : List α) (enc : α → PV) (f : α → List PV) (h : it τ = .ok (xs.map enc)) (hs : ∀ x ∈ xs, kC2 it1 own1 tgt1 cond1 elt tgt cond (wipeL τ own) (enc x) = .ok (f x)) (hl : (xs.flatMap f).length ≤ 1000000) :
    eComp2 own it tgt cond it1 own1 tgt1 cond1 elt τ = .ok (.lst (xs.flatMap f)) := by
  unfold eComp2
  rw [h, Res.ok_bind, compL2_map enc f xs hs, Res.nx_ok, Res.ok_bind, if_pos hl]
/-! dict comprehensions -/
def dItem (tgt : PV → LE → Res LE) (cond : LE → Res Bool) (ek ev : LE → Res PV) (τ : LE) (p : PV) : Res (PV × PV) :=
  tgt p τ >>= fun τ1 => cond τ1 >>= fun b => if b = true then ek τ1 >>= fun k => ev τ1 >>= fun v => .ok (k, v) else .bad
theorem dcL_map {α : Type} {ek ev : LE → Res PV} (enc : α → PV) (kf : α → PV) (key : α → Key) (val : α → PV) (hk : ∀ x, keyP (kf x) = some (key x)) : ∀ (xs : List α) (acc : List (Key × PV)), (∀ x ∈ xs, dItem tgt cond ek ev τ (enc x) = .ok (kf x, val x)) → dcL tgt cond ek ev τ acc (xs.map enc) = .ok (xs.foldl (fun d x => setP d (key x) (val x)) acc)
  | [], _, _ => by rw [List.map_nil, dcL]; rfl
  | x :: xs, acc, h => by
    have h0 := h x List.mem_cons_self
    have ih := dcL_map enc kf key val hk xs (setP acc (key x) (val x)) fun y hy => h y (List.mem_cons_of_mem _ hy)
    rw [List.map_cons, dcL, List.foldl_cons, ← ih]
    unfold dItem at h0
    cases h1 : tgt (enc x) τ with
    | exc c fs => rw [h1] at h0; cases h0
    | bad => rw [h1] at h0; cases h0
    | ok τ1 =>
      rw [h1, Res.ok_bind] at h0
      rw [Res.nx_ok, Res.ok_bind]
      cases h2 : cond τ1 with
      | exc c fs => rw [h2] at h0; cases h0
      | bad => rw [h2] at h0; cases h0
      | ok b =>
        rw [h2, Res.ok_bind] at h0
        rw [Res.nx_ok, Res.ok_bind]
        cases b
        · cases h0
        · rw [if_pos rfl] at h0 ⊢
          cases h3 : ek τ1 with
          | exc c fs => rw [h3] at h0; cases h0
          | bad => rw [h3] at h0; cases h0
          | ok k =>
            rw [h3, Res.ok_bind] at h0
            rw [Res.nx_ok, Res.ok_bind]
            cases h4 : ev τ1 with
            | exc c fs => rw [h4] at h0; cases h0
            | bad => rw [h4] at h0; cases h0
            | ok v =>
              rw [h4, Res.ok_bind] at h0
              cases h0
              rw [Res.nx_ok, Res.ok_bind, hk x]
theorem dcomp_map {α : Type} {ek ev : LE → Res PV} (xs : List α) (enc kf : α → PV) (key : α → Key) (val : α → PV) (hk : ∀ x, keyP (kf x) = some (key x)) (h : it τ = .ok (xs.map enc)) (hs : ∀ x ∈ xs, dItem tgt cond ek ev (wipeL τ own) (enc x) = .ok (kf x, val x)) :
    eDComp own it tgt cond ek ev τ = .ok (.dK (xs.foldl (fun d x => setP d (key x) (val x)) [])) := by
  unfold eDComp
  rw [h, Res.ok_bind, dcL_map enc kf key val hk xs [] hs]
  rfl
theorem hasP_iff {d : List (Key × PV)} {k : Key} : hasP d k = true ↔ k ∈ d.map (·.1) := by
  simp [hasP, List.mem_map]
/-- unlike keys: the dict stands in their order -/
theorem foldl_setP {α : Type} (key : α → Key) (val : α → PV) : ∀ (xs : List α) (acc : List (Key × PV)), (xs.map key).Nodup → (∀ x ∈ xs, key x ∉ acc.map (·.1)) → xs.foldl (fun d x => setP d (key x) (val x)) acc = acc ++ xs.map fun x => (key x, val x)
  | [], acc, _, _ => by simp
  | x :: xs, acc, hn, h => by
    rw [List.map_cons, List.nodup_cons] at hn
    have hx : hasP acc (key x) = false := by
      have := h x List.mem_cons_self
      rw [← hasP_iff] at this
      simpa using this
    have hs : setP acc (key x) (val x) = acc ++ [(key x, val x)] := by
      unfold setP
      rw [hx]
      rfl
    rw [List.foldl_cons, hs, foldl_setP key val xs _ hn.2 fun y hy => ?_]
    · simp
    · rw [List.map_append, List.mem_append]
      rintro (h1 | h1)
      · exact h y (List.mem_cons_of_mem _ hy) h1
      · simp only [List.map_cons, List.map_nil, List.mem_singleton] at h1
        exact hn.1 (List.mem_map.mpr ⟨y, hy, h1⟩)
theorem blsOf_map {α : Type} (c : α → Bool) : ∀ xs : List α, blsOf (xs.map fun x => .bl (c x)) = some (xs.map c)
  | [] => rfl
  | x :: xs => by rw [List.map_cons, blsOf, blsOf_map c xs]; rfl
theorem pAll_map {α : Type} (c : α → Bool) (xs : List α) : pAll [.lst (xs.map fun x => .bl (c x))] = some (.bl (xs.all c)) := by
  show (blsOf (xs.map fun x => PV.bl (c x))).map (fun bs => PV.bl (bs.all _root_.id)) = _
  rw [blsOf_map]
  simp [List.all_map, Function.comp_def]
theorem pAny_map {α : Type} (c : α → Bool) (xs : List α) : pAny [.lst (xs.map fun x => .bl (c x))] = some (.bl (xs.any c)) := by
  show (blsOf (xs.map fun x => PV.bl (c x))).map (fun bs => PV.bl (bs.any _root_.id)) = _
  rw [blsOf_map]
  simp [List.any_map, Function.comp_def]
theorem atN {α : Type} (xs : List α) (k : Nat) : atI xs ((k : Nat) : Int) = xs[k]? := by
  unfold atI ixN
  rw [if_pos (by omega)]
  by_cases h : k < xs.length
  · rw [if_pos (by omega)]; rfl
  · rw [if_neg (by omega), List.getElem?_eq_none (by omega)]; rfl
theorem atI_pos {α : Type} (xs : List α) {i : Int} (h : 0 ≤ i) : atI xs i = xs[i.toNat]? := by
  obtain ⟨k, rfl⟩ := Int.eq_ofNat_of_zero_le h
  rw [atN]; rfl
theorem pR1_le (n : Nat) (h : n ≤ 1000000) : pR1 [.int (n : Nat)] = some ((List.range n).map fun i => .int (i : Nat)) := by
  show (if -(2 ^ 62) ≤ (n : Int) ∧ (n : Int) ≤ 1000000 then some (rngP 0 (n : Int).toNat) else none) = _
  rw [if_pos (by omega)]
  simp [rngP]
@[simp] theorem pSlA_lst (xs : List PV) (lo hi) : pSlA (.lst xs) lo hi = some (.lst (cut xs lo hi)) := (rfl)
@[simp] theorem pSlA_tup (xs : List PV) (lo hi) : pSlA (.tup xs) lo hi = some (.tup (cut xs lo hi)) := (rfl)
theorem cut_nn {α : Type} (xs : List α) {a b : Int} (ha : 0 ≤ a) (hb : 0 ≤ b) : cut xs (some a) (some b) = (xs.drop a.toNat).take (b.toNat - a.toNat) := by
  obtain ⟨a, rfl⟩ := Int.eq_ofNat_of_zero_le ha
  obtain ⟨b, rfl⟩ := Int.eq_ofNat_of_zero_le hb
  unfold cut
  rw [HT.sIx_nat, HT.sIx_nat, Int.toNat_natCast, Int.toNat_natCast]
  by_cases h : a ≤ xs.length
  · rw [Nat.min_eq_left h]
    by_cases h2 : b ≤ xs.length
    · rw [Nat.min_eq_left h2]
    · rw [Nat.min_eq_right (by omega), List.take_of_length_le (by rw [List.length_drop]; omega), List.take_of_length_le (by rw [List.length_drop]; omega)]
  · rw [Nat.min_eq_right (a := a) (by omega), List.drop_of_length_le (Nat.le_refl _), List.drop_of_length_le (i := a) (by omega)]
    simp
theorem cut_lo {α : Type} (xs : List α) {b : Int} (hb : 0 ≤ b) : cut xs none (some b) = xs.take b.toNat := by
  obtain ⟨b, rfl⟩ := Int.eq_ofNat_of_zero_le hb
  unfold cut
  rw [HT.sIx_nat, HT.sIx_none, Int.toNat_natCast, List.drop_zero, Nat.sub_zero]
  by_cases h : b ≤ xs.length
  · rw [Nat.min_eq_left h]
  · rw [Nat.min_eq_right (by omega), List.take_of_length_le (Nat.le_refl _), List.take_of_length_le (by omega)]
theorem cut_hi {α : Type} (xs : List α) {a : Int} (ha : 0 ≤ a) : cut xs (some a) none = xs.drop a.toNat := by
  obtain ⟨a, rfl⟩ := Int.eq_ofNat_of_zero_le ha
  unfold cut
  rw [HT.sIx_nat, HT.sIx_none, Int.toNat_natCast]
  by_cases h : a ≤ xs.length
  · rw [Nat.min_eq_left h, List.take_of_length_le (by rw [List.length_drop]; omega)]
  · rw [Nat.min_eq_right (by omega), List.drop_of_length_le (Nat.le_refl _), List.drop_of_length_le (i := a) (by omega)]
    simp
end comps
end Lp
end
section
set_option Elab.async false
set_option linter.all false
set_option maxRecDepth 100000
namespace K30
open PySem PySem.Spec L2 Lp
def isStrP : PV → Bool
  | .str _ => true
  | _ => false
def strOk (x : Str) : Bool := (PyData.str x).canLay0
/-! stays_of -/
def rowOf (n : Nat) (x : PV) : List PV := [x, .int (-1), .int n]
def stStep (n e : Nat) (ev : PV) (rs : List (List PV)) (num : List (Key × PV)) : Option (List (List PV) × List (Key × PV)) := match ev with
  | .tup [.str w, .str x] => if strOk w = false then none else if w = ("in" : Str) then some (rs ++ [[.str x, .int (e : Nat), .int (n : Nat)]], setP num (.inr x) (.int (rs.length : Nat))) else match valP num (.inr x) with
    | some (.int i) => if 0 ≤ i ∧ i.toNat < rs.length then some (rs.modify i.toNat fun r => r.set 2 (.int (e : Nat)), num) else none
    | _ => none
  | _ => none
def stLoop (n : Nat) : List PV → Nat → List (List PV) → List (Key × PV) → Option (List (List PV))
  | [], _, rs, _ => some rs
  | ev :: evs, e, rs, num => match stStep n e ev rs num with
    | some (rs', num') => stLoop n evs (e + 1) rs' num'
    | none => none
def numOf : List PV → Nat → List (Key × PV) → List (Key × PV)
  | [], _, d => d
  | x :: xs, i, d => numOf xs (i + 1) (match x with
    | .str z => setP d (.inr z) (.int (i : Nat))
    | _ => d)
def h_stays_of (a0 a1 : PV) : Res PV := match a0, a1 with
  | .tup bs, .tup es => if bs.length ≤ 1000 ∧ es.length ≤ 1000 ∧ bs.all isStrP = true then match stLoop es.length es 0 (bs.map (rowOf es.length)) (numOf bs 0 []) with
      | some rs => .ok (.lst (rs.map .tup))
      | none => .bad
    else .bad
  | _, _ => .bad
/-! _law_stays -/
def lsRow (n e : Nat) (x : Str) (r : List PV) : List PV := match r with
  | [.str y, _, .int m] => if y = x ∧ m = (n : Int) then r.set 2 (.int (e : Nat)) else r
  | _ => r
def lsRowOk : List PV → Bool
  | [.str y, .int _, .int _] => strOk y
  | _ => false
def lsStep (n e : Nat) (ev : PV) (rs : List (List PV)) : Option (List (List PV)) := match ev with
  | .tup [.str w, .str x] => if strOk w = false ∨ strOk x = false then none else if w = ("in" : Str) then some (rs ++ [[.str x, .int (e : Nat), .int (n : Nat)]]) else if rs.all lsRowOk = true then some (rs.map (lsRow n e x)) else none
  | _ => none
def lsLoop (n : Nat) : List PV → Nat → List (List PV) → Option (List (List PV))
  | [], _, rs => some rs
  | ev :: evs, e, rs => match lsStep n e ev rs with
    | some rs' => lsLoop n evs (e + 1) rs'
    | none => none
def h__law_stays (bx : PV → Res PV) (a0 a1 : PV) : Res PV := match bx a0, a1 with
  | .ok (.lst bs), .tup es => if bs.length ≤ 1000 ∧ es.length ≤ 1000 then match lsLoop es.length es 0 (bs.map (rowOf es.length)) with
      | some rs => .ok (.lst (rs.map .tup))
      | none => .bad
    else .bad
  | _, _ => .bad
end K30
end
section
set_option Elab.async false
set_option linter.all false
set_option maxRecDepth 100000
set_option maxHeartbeats 4000000
namespace K30
open PySem PySem.Spec L2 Lp
/-! _law_row: 0 _law_cell_here, 1 _law_many, 2 _law_base, 3 _law_salt, 4 _law_row_here, 5 _law_left, 6 _law_k, 7 _law_first, 8 _law_second -/
def κ__law_row : Kd := fun i => i == 4
def lb__law_row_0 : LE → Fl := (sIf (tst (e2 pGt (eVar 5) (eC (.int 0)))) (sSeq (sExprM (eMut 4 gApp (aCons (e2 pMod (eCall pInt (aCons (eVar 5) aNil)) (eVar 2)) aNil)))
    (sSet 5 (e2 pDiv (eVar 5) (eVar 2)))) (sSeq (sSet 7 (e2 pMod (eCall pInt (aCons (e2 pAddA (e2 pAddA (e2 pMul (eVar 0) (eC (.int 48271))) (e2 pMul (eVar 6) (eC (.int 69621)))) (eVar 3)) aNil)) (eC (.int 2147483647))))
    (sSeq (sSet 8 (e2 pMod (eCall pInt (aCons (e2 pAddA (e2 pAddA (e2 pMul (eVar 7) (eVar 7)) (eVar 0)) (e2 pMul (eVar 6) (eC (.int 40692)))) aNil)) (eC (.int 2147483629))))
    (sExprM (eMut 4 gApp (aCons (e2 pMod (eCall pInt (aCons (e2 pDiv (e2 pAddA (e2 pMul (eVar 8) (eC (.int 2147483647))) (eVar 7)) (eC (.int 16))) aNil)) (eVar 2)) aNil))))))
def b__law_row : LE → Fl := (sSeq (sSet 4 (eLst aNil))
    (sSeq (sSet 5 (eC (.int 0)))
    (sSeq (sIf (tst (e2 pGe (eVar 0) (e2 pPow (eC (.int 10)) (eC (.int 18))))) (sSet 5 (eVar 0)) sNil)
    (sSeq (sFor (iFn pR1 (aCons (eVar 1) aNil)) (gNm 6) lb__law_row_0)
    (sRet (eVar 4))))))
def m__law_row (a0 a1 a2 a3 : PV) : Res PV := fin .sh (b__law_row [some a0, some a1, some a2, some a3, none, none, none, none, none])
/-! _law_names: 0 _law_cell_here, 1 _law_salt, 2 _law_many, 3 _law_letters, 4 _law_marks, 5 _law_step, 6 _law_head, 7 _law_k, 8 _law_tail, 9 _law_names_here, 10 _law_more -/
def κ__law_names : Kd := fun i => i == 9
def lb__law_names_0 : LE → Fl := (sSet 6 (e2 pAddA (eVar 6) (e2 pIx (eVar 3) (e2 pMod (eCall pInt (aCons (e2 pIx (eVar 4) (e2 pAddA (eC (.int 5)) (eVar 7))) aNil)) (eC (.int 26))))))
def lb__law_names_1 : LE → Fl := (sSet 8 (e2 pAddA (eVar 8) (e2 pIx (eVar 3) (e2 pMod (eCall pInt (aCons (e2 pIx (eVar 4) (e2 pAddA (eC (.int 8)) (e2 pMod (eVar 7) (eC (.int 3))))) aNil)) (eC (.int 26))))))
def lc__law_names_2 : LE → Res PV := (eComp [7] (iFn pR1 (aCons (eVar 2) aNil)) (gNm 7) tYesM (e2 pAddA (e2 pAddA (eVar 6) (e2 pIx (eVar 3) (e2 pMod (eCall pInt (aCons (e2 pAddA (e2 pIx (eVar 4) (eC (.int 0))) (e2 pMul (eVar 5) (eVar 7))) aNil)) (eC (.int 26))))) (eVar 8)))
def lb__law_names_3 : LE → Fl := (sSeq (sSetI 9 (e2 pSub (eVar 7) (eC (.int 1))) (e2 pAddA (e2 pIx (eVar 9) (e2 pSub (eVar 7) (eC (.int 2)))) (eVar 10)))
    (sSetI 9 (eVar 7) (e2 pAddA (e2 pAddA (eVar 10) (e2 pIx (eVar 9) (e2 pSub (eVar 7) (eC (.int 2))))) (eVar 10))))
def b__law_names : LE → Fl := (sSeq (sSet 3 (eC (.str ("abcdefghijklmnopqrstuvwxyz" : Str))))
    (sSeq (sSet 4 (eFn (ar4 m__law_row) (aCons (eVar 0) (aCons (eC (.int 11)) (aCons (e2 pMul (eC (.int 26)) (eC (.int 18))) (aCons (eVar 1) aNil))))))
    (sSeq (sSet 5 (e2 pIx (eLst (aCons (eC (.int 1)) (aCons (eC (.int 3)) (aCons (eC (.int 5)) (aCons (eC (.int 7)) (aCons (eC (.int 9)) (aCons (eC (.int 11)) aNil))))))) (e2 pMod (eCall pInt (aCons (e2 pIx (eVar 4) (eC (.int 1))) aNil)) (eC (.int 6)))))
    (sSeq (sSet 6 (eC (.str ("" : Str))))
    (sSeq (sFor (iFn pR1 (aCons (e2 pMod (eCall pInt (aCons (e2 pIx (eVar 4) (eC (.int 2))) aNil)) (eC (.int 3))) aNil)) (gNm 7) lb__law_names_0)
    (sSeq (sSet 8 (eC (.str ("" : Str))))
    (sSeq (sFor (iFn pR1 (aCons (e2 pMod (eCall pInt (aCons (e2 pIx (eVar 4) (eC (.int 3))) aNil)) (eC (.int 4))) aNil)) (gNm 7) lb__law_names_1)
    (sSeq (sSet 9 lc__law_names_2)
    (sSeq (sSet 10 (e2 pIx (eVar 3) (e2 pMod (eCall pInt (aCons (e2 pIx (eVar 4) (eC (.int 4))) aNil)) (eC (.int 26)))))
    (sSeq (sIf (tst (e2 pGt (e2 pMod (e2 pDiv (eCall pInt (aCons (e2 pIx (eVar 4) (eC (.int 4))) aNil)) (eC (.int 26))) (eC (.int 3))) (eC (.int 0)))) (sFor (iFn pR3 (aCons (eC (.int 2)) (aCons (eVar 2) (aCons (eC (.int 3)) aNil)))) (gNm 7) lb__law_names_3) sNil)
    (sRet (eVar 9))))))))))))
def m__law_names (a0 a1 a2 : PV) : Res PV := fin .sh (b__law_names [some a0, some a1, some a2, none, none, none, none, none, none, none, none])
/-! _law_stacks: 0 _law_marks, 1 _law_names_here, 2 _law_count, 3 _law_height, 4 _law_rows, 5 _law_k, 6 _law_free, 7 _law_i -/
def κ__law_stacks : Kd := fun i => i == 4
def lc__law_stacks_0 : LE → Res PV := (eComp [5] (iFn pR1 (aCons (eVar 2) aNil)) (gNm 5) tYesM (eTup aNil))
def lc__law_stacks_1 : LE → Res PV := (eComp [7] (iFn pR1 (aCons (eVar 2) aNil)) (gNm 7) (tst (e2 pLt (eCall pLen (aCons (e2 pIx (eVar 4) (eVar 7)) aNil)) (eVar 3))) (eVar 7))
def lb__law_stacks_2 : LE → Fl := (sSeq (sSet 6 lc__law_stacks_1)
    (sSeq (sSet 7 (e2 pIx (eVar 6) (e2 pMod (eCall pInt (aCons (e2 pIx (eVar 0) (eVar 5)) aNil)) (eCall pLen (aCons (eVar 6) aNil)))))
    (sSetI 4 (eVar 7) (e2 pAddA (e2 pIx (eVar 4) (eVar 7)) (eTup (aCons (e2 pIx (eVar 1) (eVar 5)) aNil))))))
def b__law_stacks : LE → Fl := (sSeq (sSet 4 lc__law_stacks_0)
    (sSeq (sFor (iFn pR1 (aCons (eCall pMin (aCons (eCall pLen (aCons (eVar 1) aNil)) (aCons (e2 pMul (eVar 2) (eVar 3)) aNil))) aNil)) (gNm 5) lb__law_stacks_2)
    (sRet (eCall pTuple (aCons (eVar 4) aNil)))))
def m__law_stacks (a0 a1 a2 a3 : PV) : Res PV := fin .sh (b__law_stacks [some a0, some a1, some a2, some a3, none, none, none, none])
/-! _law_cell: 0 _law_script, 1 _law_k -/
def κ__law_cell : Kd := fun i => false
def b__law_cell : LE → Fl := (sSeq (sIf (tst (e2 pLt (eVar 1) (eCall pLen (aCons (eVar 0) aNil)))) (sRet (e2 pIx (eVar 0) (eVar 1))) sNil)
    (sRet (eC (.int 0))))
def m__law_cell (a0 a1 : PV) : Res PV := fin .sh (b__law_cell [some a0, some a1])
/-! _law_boxes: 0 _law_stacks_here, 1 _law_found, 2 _law_row_here -/
def κ__law_boxes : Kd := fun i => i == 1
def lb__law_boxes_0 : LE → Fl := (sSet 1 (e2 pCat (eVar 1) (eCall pList (aCons (eVar 2) aNil))))
def b__law_boxes : LE → Fl := (sSeq (sSet 1 (eLst aNil))
    (sSeq (sFor (iSeq (eVar 0)) (gNm 2) lb__law_boxes_0)
    (sRet (eVar 1))))
def m__law_boxes (a0 : PV) : Res PV := fin .fr (b__law_boxes [some a0, none, none])
/-! _law_events: 0 _law_marks, 1 _law_stacks_here, 2 _law_fresh, 3 _law_comings, 4 _law_here, 5 _law_new, 6 _law_gone, 7 _law_events_here, 8 _law_mark, 9 _law_name -/
def κ__law_events : Kd := fun i => i == 4 || i == 5 || i == 6 || i == 7
def lb__law_events_0 : LE → Fl := (sIf (tAndM (tOrM (tst (e2 pLt (e2 pMod (eCall pInt (aCons (eVar 8) aNil)) (eC (.int 5))) (eC (.int 2)))) (tst (e2 pEq (eCall pLen (aCons (eVar 4) aNil)) (eC (.int 0))))) (tAndM (tst (e2 pGt (eVar 3) (eC (.int 0)))) (tst (e2 pGt (e2 pAddA (eCall pLen (aCons (eVar 5) aNil)) (eCall pLen (aCons (eVar 6) aNil))) (eC (.int 0)))))) (sSeq (sSet 3 (e2 pSub (eVar 3) (eC (.int 1))))
    (sSeq (sIf (tAndM (tst (e2 pGt (eCall pLen (aCons (eVar 6) aNil)) (eC (.int 0)))) (tOrM (tst (e2 pEq (eCall pLen (aCons (eVar 5) aNil)) (eC (.int 0)))) (tst (e2 pEq (e2 pMod (e2 pDiv (eCall pInt (aCons (eVar 8) aNil)) (eC (.int 5))) (eC (.int 3))) (eC (.int 0)))))) (sSetM 9 (eMut 6 gPopAt (aCons (e2 pMod (e2 pDiv (eCall pInt (aCons (eVar 8) aNil)) (eC (.int 15))) (eCall pLen (aCons (eVar 6) aNil))) aNil))) (sSetM 9 (eMut 5 gPopAt (aCons (eC (.int 0)) aNil))))
    (sSeq (sExprM (eMut 4 gApp (aCons (eVar 9) aNil)))
    (sExprM (eMut 7 gApp (aCons (eTup (aCons (eC (.str ("in" : Str))) (aCons (eVar 9) aNil))) aNil)))))) (sIf (tst (e2 pGt (eCall pLen (aCons (eVar 4) aNil)) (eC (.int 0)))) (sSeq (sSet 9 (e2 pIx (eVar 4) (eC (.int 0))))
    (sSeq (sIf (tst (e2 pGt (e2 pMod (e2 pDiv (eCall pInt (aCons (eVar 8) aNil)) (eC (.int 5))) (eC (.int 3))) (eC (.int 0)))) (sSet 9 (e2 pIx (eVar 4) (e2 pMod (e2 pDiv (eCall pInt (aCons (eVar 8) aNil)) (eC (.int 15))) (eCall pLen (aCons (eVar 4) aNil))))) sNil)
    (sSeq (sExprM (eMut 4 gRem (aCons (eVar 9) aNil)))
    (sSeq (sExprM (eMut 6 gApp (aCons (eVar 9) aNil)))
    (sExprM (eMut 7 gApp (aCons (eTup (aCons (eC (.str ("out" : Str))) (aCons (eVar 9) aNil))) aNil))))))) sNil))
def b__law_events : LE → Fl := (sSeq (sSet 4 (eFn (ar1 m__law_boxes) (aCons (eVar 1) aNil)))
    (sSeq (sSet 5 (eCall pList (aCons (eVar 2) aNil)))
    (sSeq (sSet 6 (eLst aNil))
    (sSeq (sSet 7 (eLst aNil))
    (sSeq (sFor (iSeq (eVar 0)) (gNm 8) lb__law_events_0)
    (sRet (eCall pTuple (aCons (eVar 7) aNil))))))))
def m__law_events (a0 a1 a2 a3 : PV) : Res PV := fin .sh (b__law_events [some a0, some a1, some a2, some a3, none, none, none, none, none, none])
/-! _law_day: 0 _law_script, 1 _law_salt, 2 _law_heads, 3 _law_names_here, 4 _law_height, 5 _law_count, 6 _law_many, 7 _law_stacks_here, 8 _law_marks -/
def κ__law_day : Kd := fun i => false
def b__law_day : LE → Fl := (sSeq (sSet 2 (eFn (ar4 m__law_row) (aCons (eFn (ar2 m__law_cell) (aCons (eVar 0) (aCons (eC (.int 0)) aNil))) (aCons (eC (.int 14)) (aCons (eC (.int 27720)) (aCons (eVar 1) aNil))))))
    (sSeq (sSet 3 (eFn (ar3 m__law_names) (aCons (eFn (ar2 m__law_cell) (aCons (eVar 0) (aCons (eC (.int 1)) aNil))) (aCons (e2 pAddA (eVar 1) (eC (.int 1))) (aCons (eC (.int 22)) aNil)))))
    (sSeq (sSet 4 (e2 pAddA (eC (.int 1)) (e2 pMod (eCall pInt (aCons (e2 pIx (eVar 2) (eC (.int 0))) aNil)) (eC (.int 5)))))
    (sSeq (sSet 5 (e2 pAddA (eC (.int 1)) (e2 pMod (eCall pInt (aCons (e2 pIx (eVar 2) (eC (.int 1))) aNil)) (eC (.int 5)))))
    (sSeq (sSet 6 (eCall pMin (aCons (e2 pMul (eVar 4) (eVar 5)) (aCons (e2 pMod (eCall pInt (aCons (e2 pIx (eVar 2) (eC (.int 2))) aNil)) (eC (.int 11))) aNil))))
    (sSeq (sSet 7 (eFn (ar4 m__law_stacks) (aCons (eSl pSlA (eVar 2) (oSome (eC (.int 3))) (oSome (eC (.int 13)))) (aCons (eSl pSlA (eVar 3) oNone (oSome (eVar 6))) (aCons (eVar 5) (aCons (eVar 4) aNil))))))
    (sSeq (sSet 8 (eFn (ar4 m__law_row) (aCons (eFn (ar2 m__law_cell) (aCons (eVar 0) (aCons (eC (.int 2)) aNil))) (aCons (e2 pMod (eCall pInt (aCons (e2 pIx (eVar 2) (eC (.int 13))) aNil)) (eC (.int 13))) (aCons (eC (.int 27720)) (aCons (e2 pAddA (eVar 1) (eC (.int 2))) aNil))))))
    (sRet (eTup (aCons (eVar 4) (aCons (eVar 7) (aCons (eFn (ar4 m__law_events) (aCons (eVar 8) (aCons (eVar 7) (aCons (eSl pSlA (eVar 3) (oSome (eVar 6)) oNone) (aCons (eC (.int 12)) aNil))))) aNil))))))))))))
def m__law_day (a0 a1 : PV) : Res PV := fin .sh (b__law_day [some a0, some a1, none, none, none, none, none, none, none])
/-! is_sequence: 0 value -/
def κ_is_sequence : Kd := fun i => false
def b_is_sequence : LE → Fl := (sRet (eIsi2 "list" "tuple" (eVar 0)))
def m_is_sequence (a0 : PV) : Res PV := fin .sh (b_is_sequence [some a0])
/-! boxes_of: 0 yard, 1 stack, 2 name -/
def κ_boxes_of : Kd := fun i => false
def lc_boxes_of_0 : LE → Res PV := (eComp2 [1, 2] (iSeq (eAtt (fun c => c == 5) ("stacks" : Str) (eVar 0))) (gNm 1) tYesM (iSeq (eVar 1)) [2] (gNm 2) tYesM (eVar 2))
def b_boxes_of : LE → Fl := (sRet (eCall pTuple (aCons lc_boxes_of_0 aNil)))
def m_boxes_of (a0 : PV) : Res PV := fin .sh (b_boxes_of [some a0, none, none])
/-! is_name: 0 value, 1 sign -/
def κ_is_name : Kd := fun i => false
def lc_is_name_0 : LE → Res PV := (eComp [1] (iSeq (eVar 0)) (gNm 1) tYesM (e2 (pIn false) (eVar 1) (eC (.str ("abcdefghijklmnopqrstuvwxyz" : Str)))))
def b_is_name : LE → Fl := (sSeq (sIf (tOrM (tNotM (tst (eCall pIsi (aCons (eVar 0) (aCons (eC (.ty "str")) aNil))))) (tNotM (tst (eChain pLe pLe (eC (.int 1)) (eCall pLen (aCons (eVar 0) aNil)) (eC (.int 8)))))) (sRet (eC (.bl false))) sNil)
    (sRet (eCall pAll (aCons lc_is_name_0 aNil))))
def m_is_name (a0 : PV) : Res PV := fin .sh (b_is_name [some a0, none])
/-! is_event: 0 value -/
def κ_is_event : Kd := fun i => false
def b_is_event : LE → Fl := (sSeq (sIf (tOrM (tNotM (tst (eCall pIsi (aCons (eVar 0) (aCons (eC (.ty "tuple")) aNil))))) (tOrM (tst (e2 pNe (eCall pLen (aCons (eVar 0) aNil)) (eC (.int 2)))) (tNotM (tst (eCall pIsi (aCons (e2 pIx (eVar 0) (eC (.int 0))) (aCons (eC (.ty "str")) aNil))))))) (sRet (eC (.bl false))) sNil)
    (sRet (eAnd (e2 (pIn false) (e2 pIx (eVar 0) (eC (.int 0))) (eTup (aCons (eC (.str ("in" : Str))) (aCons (eC (.str ("out" : Str))) aNil)))) (eFn (ar1 m_is_name) (aCons (e2 pIx (eVar 0) (eC (.int 1))) aNil)))))
def m_is_event (a0 : PV) : Res PV := fin .sh (b_is_event [some a0])
/-! as_events: 0 yard, 1 value, 2 there, 3 word, 4 name, 5 event -/
def κ_as_events : Kd := fun i => i == 2
def lc_as_events_0 : LE → Res PV := (eComp [5] (iSeq (eVar 1)) (gNm 5) tYesM (eFn (ar1 m_is_event) (aCons (eVar 5) aNil)))
def lc_as_events_1 : LE → Res PV := (eDComp [4] (iSeq (eFn (ar1 m_boxes_of) (aCons (eVar 0) aNil))) (gNm 4) tYesM (eVar 4) (eC (.bl true)))
def lb_as_events_2 : LE → Fl := (sSeq (sIf (tst (e2 pEq (e2 (pDIn false) (eVar 4) (eVar 2)) (e2 pEq (eVar 3) (eC (.str ("in" : Str)))))) (sRet (eC .non)) sNil)
    (sIf (tst (e2 pEq (eVar 3) (eC (.str ("in" : Str))))) (sPut 2 (eVar 4) (eC (.bl true))) (sDel 2 (eVar 4))))
def b_as_events : LE → Fl := (sSeq (sIf (tOrM (tNotM (tst (eFn (ar1 m_is_sequence) (aCons (eVar 1) aNil)))) (tNotM (tst (eCall pAll (aCons lc_as_events_0 aNil))))) (sRet (eC .non)) sNil)
    (sSeq (sSet 2 lc_as_events_1)
    (sSeq (sFor (iSeq (eVar 1)) (gTp (gsC (gNm 3) (gsC (gNm 4) gsN)) 2) lb_as_events_2)
    (sRet (eCall pTuple (aCons (eVar 1) aNil))))))
def m_as_events (a0 a1 : PV) : Res PV := fin .sh (b_as_events [some a0, some a1, none, none, none, none])
def κ_Day : Kd := fun i => i == 0
def b_Day : LE → Fl := (sSeq (sSet 3 (eFn (ar2 m_as_events) (aCons (eVar 1) (aCons (eVar 2) aNil))))
    (sSeq (sIf (tst (e2 pIsN (eVar 3) (eC .non))) (sRaise 2 ("value" : Str) (eVar 2)) sNil)
    (sSeq (sFld 0 6 ("yard" : Str) (eVar 1))
    (sFld 0 6 ("events" : Str) (eVar 3)))))
def m_Day (a0 a1 : PV) : Res PV := finI (b_Day [some (.ins 6 []), some a0, some a1, none])
def m__law_stays (a0 a1 : PV) : Res PV := h__law_stays m__law_boxes a0 a1
/-! _law_is_integer: 0 _law_value -/
def κ__law_is_integer : Kd := fun i => false
def b__law_is_integer : LE → Fl := (sRet (eAnd (eCall pIsi (aCons (eVar 0) (aCons (eC (.ty "int")) aNil))) (eNot (eCall pIsi (aCons (eVar 0) (aCons (eC (.ty "bool")) aNil))))))
def m__law_is_integer (a0 : PV) : Res PV := fin .sh (b__law_is_integer [some a0])
/-! _law_same: 0 _law_given, 1 _law_due, 2 _law_k -/
def κ__law_same : Kd := fun i => false
def lb__law_same_0 (rec : PV → PV → Res PV) : LE → Fl := (sIf (tNotM (tst (eFn (ar2 rec) (aCons (e2 pIx (eVar 0) (eVar 2)) (aCons (e2 pIx (eVar 1) (eVar 2)) aNil))))) (sRet (eC (.bl false))) sNil)
def b__law_same (rec : PV → PV → Res PV) : LE → Fl := (sSeq (sIf (tst (eCall pIsi (aCons (eVar 1) (aCons (eC (.ty "tuple")) aNil)))) (sSeq (sIf (tOrM (tNotM (tst (eCall pIsi (aCons (eVar 0) (aCons (eC (.ty "tuple")) aNil))))) (tst (e2 pNe (eCall pLen (aCons (eVar 0) aNil)) (eCall pLen (aCons (eVar 1) aNil))))) (sRet (eC (.bl false))) sNil)
    (sSeq (sFor (iFn pR1 (aCons (eCall pLen (aCons (eVar 1) aNil)) aNil)) (gNm 2) (lb__law_same_0 rec))
    (sRet (eC (.bl true))))) sNil)
    (sSeq (sIf (tst (eCall pIsi (aCons (eVar 1) (aCons (eC (.ty "int")) aNil)))) (sRet (eAnd (eFn (ar1 m__law_is_integer) (aCons (eVar 0) aNil)) (e2 pEq (eVar 0) (eVar 1)))) sNil)
    (sRet (eAnd (eCall pIsi (aCons (eVar 0) (aCons (eC (.ty "str")) aNil))) (e2 pEq (eVar 0) (eVar 1))))))
def m__law_same : Nat → PV → PV → Res PV
  | 0, _, _ => .bad
  | n + 1, a0, a1 => fin .sh (b__law_same (m__law_same n) [some a0, some a1, none])
/-! are_unlike: 0 names, 1 name -/
def κ_are_unlike : Kd := fun i => false
def lc_are_unlike_0 : LE → Res PV := (eDComp [1] (iSeq (eVar 0)) (gNm 1) tYesM (eVar 1) (eC (.bl true)))
def b_are_unlike : LE → Fl := (sRet (e2 pEq (eCall pLen (aCons lc_are_unlike_0 aNil)) (eCall pLen (aCons (eVar 0) aNil))))
def m_are_unlike (a0 : PV) : Res PV := fin .sh (b_are_unlike [some a0, none])
/-! as_stacks: 0 height, 1 value, 2 stacks, 3 names, 4 stack, 5 name -/
def κ_as_stacks : Kd := fun i => false
def lc_as_stacks_0 : LE → Res PV := (eComp [4] (iSeq (eVar 1)) (gNm 4) tYesM (eFn (ar1 m_is_sequence) (aCons (eVar 4) aNil)))
def lc_as_stacks_1 : LE → Res PV := (eComp [4] (iSeq (eVar 1)) (gNm 4) tYesM (eCall pTuple (aCons (eVar 4) aNil)))
def lc_as_stacks_2 : LE → Res PV := (eComp2 [4, 5] (iSeq (eVar 2)) (gNm 4) tYesM (iSeq (eVar 4)) [5] (gNm 5) tYesM (eVar 5))
def lc_as_stacks_3 : LE → Res PV := (eComp [5] (iSeq (eVar 3)) (gNm 5) tYesM (eFn (ar1 m_is_name) (aCons (eVar 5) aNil)))
def lc_as_stacks_4 : LE → Res PV := (eComp [4] (iSeq (eVar 2)) (gNm 4) tYesM (e2 pLe (eCall pLen (aCons (eVar 4) aNil)) (eVar 0)))
def b_as_stacks : LE → Fl := (sSeq (sIf (tOrM (tNotM (tst (eFn (ar1 m_is_sequence) (aCons (eVar 1) aNil)))) (tOrM (tst (e2 pEq (eCall pLen (aCons (eVar 1) aNil)) (eC (.int 0)))) (tNotM (tst (eCall pAll (aCons lc_as_stacks_0 aNil)))))) (sRet (eC .non)) sNil)
    (sSeq (sSet 2 (eCall pTuple (aCons lc_as_stacks_1 aNil)))
    (sSeq (sSet 3 lc_as_stacks_2)
    (sSeq (sIf (tOrM (tNotM (tst (eCall pAll (aCons lc_as_stacks_3 aNil)))) (tNotM (tst (eFn (ar1 m_are_unlike) (aCons (eVar 3) aNil))))) (sRet (eC .non)) sNil)
    (sRet (eIf (tst (eCall pAll (aCons lc_as_stacks_4 aNil))) (eVar 2) (eC .non)))))))
def m_as_stacks (a0 a1 : PV) : Res PV := fin .sh (b_as_stacks [some a0, some a1, none, none, none, none])
/-! is_integer_core_plain: 0 value -/
def κ_is_integer_core_plain : Kd := fun i => false
def b_is_integer_core_plain : LE → Fl := (sRet (eAnd (eCall pIsi (aCons (eVar 0) (aCons (eC (.ty "int")) aNil))) (eNot (eCall pIsi (aCons (eVar 0) (aCons (eC (.ty "bool")) aNil))))))
def m_is_integer_core_plain (a0 : PV) : Res PV := fin .sh (b_is_integer_core_plain [some a0])
/-! is_number: 0 value -/
def κ_is_number : Kd := fun i => false
def b_is_number : LE → Fl := (sRet (eAnd (eFn (ar1 m_is_integer_core_plain) (aCons (eVar 0) aNil)) (e2 pGe (eVar 0) (eC (.int 0)))))
def m_is_number (a0 : PV) : Res PV := fin .sh (b_is_number [some a0])
def κ_Yard : Kd := fun i => i == 0
def b_Yard : LE → Fl := (sSeq (sIf (tOrM (tNotM (tst (eFn (ar1 m_is_number) (aCons (eVar 1) aNil)))) (tst (e2 pEq (eVar 1) (eC (.int 0))))) (sRaise 3 ("value" : Str) (eVar 1)) sNil)
    (sSeq (sSet 3 (eFn (ar2 m_as_stacks) (aCons (eVar 1) (aCons (eVar 2) aNil))))
    (sSeq (sIf (tst (e2 pIsN (eVar 3) (eC .non))) (sRaise 1 ("value" : Str) (eVar 2)) sNil)
    (sSeq (sFld 0 5 ("height" : Str) (eVar 1))
    (sFld 0 5 ("stacks" : Str) (eVar 3))))))
def m_Yard (a0 a1 : PV) : Res PV := finI (b_Yard [some (.ins 5 []), some a0, some a1, none])
def m_stays_of (a0 a1 : PV) : Res PV := h_stays_of  a0 a1
/-! stays_in: 0 day -/
def κ_stays_in : Kd := fun i => false
def b_stays_in : LE → Fl := (sRet (eFn (ar2 m_stays_of) (aCons (eFn (ar1 m_boxes_of) (aCons (eAtt (fun c => c == 6) ("yard" : Str) (eVar 0)) aNil)) (aCons (eAtt (fun c => c == 6) ("events" : Str) (eVar 0)) aNil))))
def m_stays_in (a0 : PV) : Res PV := fin .sh (b_stays_in [some a0])
/-! stays: 0 day -/
def κ_stays : Kd := fun i => false
def b_stays : LE → Fl := (sRet (eCall pTuple (aCons (eFn (ar1 m_stays_in) (aCons (eVar 0) aNil)) aNil)))
def m_stays (a0 : PV) : Res PV := fin .sh (b_stays [some a0])
/-! is_cut_by: 0 one, 1 other -/
def κ_is_cut_by : Kd := fun i => false
def b_is_cut_by : LE → Fl := (sRet (eChain3 (fun i j => decide (i < j)) (fun i j => decide (i < j)) (fun i j => decide (i < j)) (e2 pIx (eVar 0) (eC (.int 1))) (e2 pIx (eVar 1) (eC (.int 1))) (e2 pIx (eVar 0) (eC (.int 2))) (e2 pIx (eVar 1) (eC (.int 2)))))
def m_is_cut_by (a0 a1 : PV) : Res PV := fin .sh (b_is_cut_by [some a0, some a1])
/-! are_apart: 0 one, 1 other -/
def κ_are_apart : Kd := fun i => false
def b_are_apart : LE → Fl := (sRet (eOr (eFn (ar2 m_is_cut_by) (aCons (eVar 0) (aCons (eVar 1) aNil))) (eFn (ar2 m_is_cut_by) (aCons (eVar 1) (aCons (eVar 0) aNil)))))
def m_are_apart (a0 a1 : PV) : Res PV := fin .sh (b_are_apart [some a0, some a1])
/-! is_integer_core_looking: 0 value -/
def κ_is_integer_core_looking : Kd := fun i => false
def b_is_integer_core_looking : LE → Fl := (sRet (eAnd (eCall pIsi (aCons (eVar 0) (aCons (eC (.ty "int")) aNil))) (eNot (eCall pIsi (aCons (eVar 0) (aCons (eC (.ty "bool")) aNil))))))
def m_is_integer_core_looking (a0 : PV) : Res PV := fin .sh (b_is_integer_core_looking [some a0])
/-! is_below: 0 value, 1 most -/
def κ_is_below : Kd := fun i => false
def b_is_below : LE → Fl := (sRet (eAnd (eFn (ar1 m_is_integer_core_looking) (aCons (eVar 0) aNil)) (eChain pLe pLt (eC (.int 0)) (eVar 0) (eVar 1))))
def m_is_below (a0 a1 : PV) : Res PV := fin .sh (b_is_below [some a0, some a1])
/-! clash: 0 day, 1 a, 2 b, 3 found -/
def κ_clash : Kd := fun i => false
def b_clash : LE → Fl := (sSeq (sSet 3 (eFn (ar1 m_stays_in) (aCons (eVar 0) aNil)))
    (sSeq (sIf (tOrM (tNotM (tst (eFn (ar2 m_is_below) (aCons (eVar 1) (aCons (eCall pLen (aCons (eVar 3) aNil)) aNil))))) (tNotM (tst (eFn (ar2 m_is_below) (aCons (eVar 2) (aCons (eCall pLen (aCons (eVar 3) aNil)) aNil)))))) (sRaise 4 ("what" : Str) (eC (.str ("stay" : Str)))) sNil)
    (sRet (eFn (ar2 m_are_apart) (aCons (e2 pIx (eVar 3) (eVar 1)) (aCons (e2 pIx (eVar 3) (eVar 2)) aNil))))))
def m_clash (a0 a1 a2 : PV) : Res PV := fin .sh (b_clash [some a0, some a1, some a2, none])
/-! _law_clash: 0 _law_one, 1 _law_other -/
def κ__law_clash : Kd := fun i => false
def b__law_clash : LE → Fl := (sRet (eOr (eChain3 (fun i j => decide (i < j)) (fun i j => decide (i < j)) (fun i j => decide (i < j)) (e2 pIx (eVar 0) (eC (.int 1))) (e2 pIx (eVar 1) (eC (.int 1))) (e2 pIx (eVar 0) (eC (.int 2))) (e2 pIx (eVar 1) (eC (.int 2)))) (eChain3 (fun i j => decide (i < j)) (fun i j => decide (i < j)) (fun i j => decide (i < j)) (e2 pIx (eVar 1) (eC (.int 1))) (e2 pIx (eVar 0) (eC (.int 1))) (e2 pIx (eVar 1) (eC (.int 2))) (e2 pIx (eVar 0) (eC (.int 2))))))
def m__law_clash (a0 a1 : PV) : Res PV := fin .sh (b__law_clash [some a0, some a1])
/-! _law_refused: 0 _law_day_here, 1 _law_a, 2 _law_b, 3 _law_e -/
def κ__law_refused : Kd := fun i => false
def ms__law_refused_3 : Addr → Addr → Nat → LE → Fl := (fun a d c => match c with | 4 => (sRet (eAnd (eAt a d 3 fun _ => .ok (.bl true)) (eAnd (eAt a d 3 fun _ => .ok (.bl true)) (e2 pEq (eAt a d 3 (xGet ("what" : Str))) (eC (.str ("stay" : Str))))))) | _ => fun _ => .bad)
theorem hind__law_refused_3 : ∀ a d c fs (τ : LE), tidy 3 (ms__law_refused_3 a d c (τ.set 3 (some (.exn a d c fs)))) = tidy 3 (ms__law_refused_3 0 0 c (τ.set 3 (some (.exn 0 0 c fs)))) := by
  intro a d c fs τ
  unfold ms__law_refused_3
  split <;> first | rfl | (simp only [sRet, eAnd, eOr, e2, eAt_set]; exact tidy_rs _ _ _ _)
def b__law_refused : LE → Fl := (sSeq (sTryA (fun c => match c with | 1 => some false | 2 => some false | 3 => some false | 4 => some true | _ => none) 3 (sExpr (eFn (ar3 m_clash) (aCons (eVar 0) (aCons (eVar 1) (aCons (eVar 2) aNil))))) ms__law_refused_3)
    (sRet (eC (.bl false))))
def m__law_refused (a0 a1 a2 : PV) : Res PV := fin .sh (b__law_refused [some a0, some a1, some a2, none])
/-! _law_whole: 0 _law_script, 1 _law_built, 2 _law_day_here, 3 _law_due, 4 _law_many, 5 _law_a, 6 _law_odd, 7 _law_marks, 8 _law_mark, 9 _law_b, 10 _law_value, 11 _law_other, 12 _law_answer -/
def κ__law_whole : Kd := fun i => false
def lb__law_whole_0 : LE → Fl := (sSeq (sSet 12 (eFn (ar3 m_clash) (aCons (eVar 2) (aCons (eVar 5) (aCons (eVar 9) aNil)))))
    (sIf (tOrM (tNotM (tst (eCall pIsi (aCons (eVar 12) (aCons (eC (.ty "bool")) aNil))))) (tst (e2 pNe (eVar 12) (eFn (ar2 m__law_clash) (aCons (e2 pIx (eVar 3) (eVar 5)) (aCons (e2 pIx (eVar 3) (eVar 9)) aNil)))))) (sRet (eC (.bl false))) sNil))
def lb__law_whole_1 : LE → Fl := (sFor (iFn pR1 (aCons (eVar 4) aNil)) (gNm 9) lb__law_whole_0)
def lb__law_whole_2 : LE → Fl := (sSeq (sSet 10 (e2 pIx (eVar 6) (e2 pMod (eCall pInt (aCons (eVar 8) aNil)) (eC (.int 12)))))
    (sSeq (sSet 11 (e2 pIx (eVar 6) (e2 pMod (e2 pDiv (eCall pInt (aCons (eVar 8) aNil)) (eC (.int 12))) (eC (.int 12)))))
    (sSeq (sIf (tAndM (tst (e2 pGt (eVar 4) (eC (.int 0)))) (tst (e2 pGt (e2 pMod (e2 pDiv (eCall pInt (aCons (eVar 8) aNil)) (eC (.int 144))) (eC (.int 3))) (eC (.int 0))))) (sSet 11 (e2 pMod (e2 pDiv (eCall pInt (aCons (eVar 8) aNil)) (eC (.int 432))) (eVar 4))) sNil)
    (sIf (tOrM (tNotM (tst (eFn (ar3 m__law_refused) (aCons (eVar 2) (aCons (eVar 10) (aCons (eVar 11) aNil)))))) (tNotM (tst (eFn (ar3 m__law_refused) (aCons (eVar 2) (aCons (eVar 11) (aCons (eVar 10) aNil))))))) (sRet (eC (.bl false))) sNil))))
def b__law_whole : LE → Fl := (sSeq (sSet 1 (eFn (ar2 m__law_day) (aCons (eVar 0) (aCons (eC (.int 3)) aNil))))
    (sSeq (sSet 2 (eFn (ar2 m_Day) (aCons (eFn (ar2 m_Yard) (aCons (e2 pIx (eVar 1) (eC (.int 0))) (aCons (e2 pIx (eVar 1) (eC (.int 1))) aNil))) (aCons (e2 pIx (eVar 1) (eC (.int 2))) aNil))))
    (sSeq (sSet 3 (eFn (ar2 m__law_stays) (aCons (e2 pIx (eVar 1) (eC (.int 1))) (aCons (e2 pIx (eVar 1) (eC (.int 2))) aNil))))
    (sSeq (sIf (tNotM (tst (eFn (ar2 (m__law_same 12)) (aCons (eFn (ar1 m_stays) (aCons (eVar 2) aNil)) (aCons (eCall pTuple (aCons (eVar 3) aNil)) aNil))))) (sRet (eC (.bl false))) sNil)
    (sSeq (sSet 4 (eCall pLen (aCons (eVar 3) aNil)))
    (sSeq (sFor (iFn pR1 (aCons (eVar 4) aNil)) (gNm 5) lb__law_whole_1)
    (sSeq (sSet 6 (eLst (aCons (e1 pNeg (eC (.int 1))) (aCons (eVar 4) (aCons (e2 pAddA (eVar 4) (eC (.int 1))) (aCons (eC (.bl true)) (aCons (eC (.bl false)) (aCons (eC .non) (aCons (eC (.str ("0" : Str))) (aCons (eTup (aCons (eC (.int 0)) aNil)) (aCons (eLst (aCons (eC (.int 0)) aNil)) (aCons (e2 pPow (eC (.int 10)) (eC (.int 11))) (aCons (e1 pNeg (eVar 4)) (aCons (eTup aNil) aNil))))))))))))))
    (sSeq (sSet 7 (eFn (ar4 m__law_row) (aCons (eFn (ar2 m__law_cell) (aCons (eVar 0) (aCons (eC (.int 3)) aNil))) (aCons (eC (.int 4)) (aCons (eC (.int 27720)) (aCons (eC (.int 19)) aNil))))))
    (sSeq (sFor (iSeq (eVar 7)) (gNm 8) lb__law_whole_2)
    (sSeq (sIf (tAndM (tst (e2 pGt (eVar 4) (eC (.int 0)))) (tst (e2 pNe (eFnK 3 [2, 1, 0] (ar3 m_clash) (aCons (eC (.int 0)) (aCons (e2 pSub (eVar 4) (eC (.int 1))) (aCons (eVar 2) aNil)))) (eFn (ar2 m__law_clash) (aCons (e2 pIx (eVar 3) (eC (.int 0))) (aCons (e2 pIx (eVar 3) (e2 pSub (eVar 4) (eC (.int 1)))) aNil)))))) (sRet (eC (.bl false))) sNil)
    (sRet (eFn (ar2 (m__law_same 12)) (aCons (eFnK 1 [0] (ar1 m_stays) (aCons (eVar 2) aNil)) (aCons (eCall pTuple (aCons (eVar 3) aNil)) aNil))))))))))))))
def m__law_whole (a0 : PV) : Res PV := fin .sh (b__law_whole [some a0, none, none, none, none, none, none, none, none, none, none, none, none])
/-! law: 0 _law_script -/
def κ_law : Kd := fun i => false
def b_law : LE → Fl := (sTryO (fun c => match c with | 1 => some true | 2 => some true | 3 => some true | 4 => some true | _ => none) (sRet (eFn (ar1 m__law_whole) (aCons (eVar 0) aNil))) (sRet (eC (.bl false))))
def m_law (a0 : PV) : Res PV := fin .sh (b_law [some a0])
end K30
end
section
set_option Elab.async false
set_option linter.all false
set_option maxRecDepth 100000
namespace K30
open PySem PySem.Spec L2 Lp
/-! facts about the mirrors -/
theorem seq_nx {m1 m2 : LE → Fl} {τ τ' : LE} (h : m1 τ = .nx τ') : sSeq m1 m2 τ = m2 τ' := by unfold sSeq; rw [h]
theorem for_of {it : LE → Res (List PV)} {g : PV → LE → Res LE} {body : LE → Fl} {τ : LE} {ps : List PV} (h : it τ = .ok ps) : sFor it g body τ = forL g body ps τ := by unfold sFor; rw [h]; rfl
def isI (lo hi : Int) (p : PV) : Prop := ∃ i, p = .int i ∧ lo ≤ i ∧ i < hi
abbrev τr (c n b s : Int) (row : List PV) (left : Int) (x6 x7 x8 : Option PV) : LE := [some (.int c), some (.int n), some (.int b), some (.int s), some (.lst row), some (.int left), x6, x7, x8]
def bodyR : LE → Fl := (sIf (tst (e2 pGt (eVar 5) (eC (.int 0)))) (sSeq (sExprM (eMut 4 gApp (aCons (e2 pMod (eCall pInt (aCons (eVar 5) aNil)) (eVar 2)) aNil)))
    (sSet 5 (e2 pDiv (eVar 5) (eVar 2)))) (sSeq (sSet 7 (e2 pMod (eCall pInt (aCons (e2 pAddA (e2 pAddA (e2 pMul (eVar 0) (eC (.int 48271))) (e2 pMul (eVar 6) (eC (.int 69621)))) (eVar 3)) aNil)) (eC (.int 2147483647))))
    (sSeq (sSet 8 (e2 pMod (eCall pInt (aCons (e2 pAddA (e2 pAddA (e2 pMul (eVar 7) (eVar 7)) (eVar 0)) (e2 pMul (eVar 6) (eC (.int 40692)))) aNil)) (eC (.int 2147483629))))
    (sExprM (eMut 4 gApp (aCons (e2 pMod (eCall pInt (aCons (e2 pDiv (e2 pAddA (e2 pMul (eVar 8) (eC (.int 2147483647))) (eVar 7)) (eC (.int 16))) aNil)) (eVar 2)) aNil))))))
theorem stepR (c n b s : Int) (row : List PV) (left : Int) (k : Int) (x7 x8 : Option PV) (hb : 0 < b) (hb2 : b < 1073741824) (hr : row.length < 1000000) :
    ∃ i left' x7' x8', bodyR (τr c n b s row left (some (.int k)) x7 x8) = .nx (τr c n b s (row ++ [.int i]) left' (some (.int k)) x7' x8') ∧ 0 ≤ i ∧ i < b := by
  by_cases h : 0 < left
  · refine ⟨left % b, left / b, x7, x8, ?_, Int.emod_nonneg _ (by omega), Int.emod_lt_of_pos _ hb⟩
    simp [bodyR, sIf, sSeq, sExprM, eMut, gApp, sSet, tst, e2, eVar, eC, eCall, aCons, aNil, pGt, pB, pMod, pI, pInt, pDiv, CDiv, rs, h, hb, hb2, hr]
  · have m1 : CMul c 48271 := .inr ⟨by decide, by decide⟩
    have m2 : CMul k 69621 := .inr ⟨by decide, by decide⟩
    have m3 : CMul k 40692 := .inr ⟨by decide, by decide⟩
    let f1 := (c * 48271 + k * 69621 + s) % 2147483647
    have hf0 : 0 ≤ f1 := Int.emod_nonneg _ (by decide)
    have hf1 : f1 < 2147483647 := Int.emod_lt_of_pos _ (by decide)
    have m4 : CMul f1 f1 := .inl ⟨by omega, by omega⟩
    let f2 := (f1 * f1 + c + k * 40692) % 2147483629
    have m5 : CMul f2 2147483647 := .inr ⟨by decide, by decide⟩
    refine ⟨(f2 * 2147483647 + f1) / 16 % b, left, some (.int f1), some (.int f2), ?_, Int.emod_nonneg _ (by omega), Int.emod_lt_of_pos _ hb⟩
    have m4' : CMul ((c * 48271 + k * 69621 + s) % 2147483647) ((c * 48271 + k * 69621 + s) % 2147483647) := m4
    have m5' : CMul ((((c * 48271 + k * 69621 + s) % 2147483647) * ((c * 48271 + k * 69621 + s) % 2147483647) + c + k * 40692) % 2147483629) 2147483647 := m5
    simp [bodyR, sIf, sSeq, sExprM, eMut, gApp, sSet, tst, e2, eVar, eC, eCall, aCons, aNil, pGt, pB, pMod, pI, pInt, pDiv, CDiv, pMul, pAddA, orP, pAdd, rs, h, hb, hr, m1, m2, m3, m4', m5', f1, f2]
theorem loopR (c n b s : Int) (hb : 0 < b) (hb2 : b < 1073741824) : ∀ (ks : List Int) (row : List PV) (left : Int) (x6 x7 x8 : Option PV), row.length + ks.length < 1000000 → (∀ x ∈ row, isI 0 b x) →
    ∃ xs left' x6' x7' x8', forL (gNm 6) bodyR (ks.map .int) (τr c n b s row left x6 x7 x8) = .nx (τr c n b s xs left' x6' x7' x8') ∧ xs.length = row.length + ks.length ∧ ∀ x ∈ xs, isI 0 b x
  | [], row, left, x6, x7, x8, _, h => ⟨row, left, x6, x7, x8, rfl, rfl, h⟩
  | k :: ks, row, left, x6, x7, x8, hl, h => by
    simp only [List.length_cons] at hl
    obtain ⟨i, l1, x7', x8', e, h1, h2⟩ := stepR c n b s row left k x7 x8 hb hb2 (by omega)
    obtain ⟨xs, l2, y6, y7, y8, e2, h3, h4⟩ := loopR c n b s hb hb2 ks (row ++ [.int i]) l1 (some (.int k)) x7' x8' (by simp; omega) (fun x hx => by
      rcases List.mem_append.mp hx with hx | hx
      · exact h x hx
      · rw [List.mem_singleton.mp hx]; exact ⟨i, rfl, h1, h2⟩)
    refine ⟨xs, l2, y6, y7, y8, ?_, by rw [h3]; simp; omega, h4⟩
    rw [List.map_cons, forL]
    have g : gNm 6 (.int k) (τr c n b s row left x6 x7 x8) = .ok (τr c n b s row left (some (.int k)) x7 x8) := rfl
    rw [g]
    simp only [Res.nx_ok, rs_ok, e]
    exact e2
/-- _law_row: many numbers below base -/
theorem row_ok (c n b s : Int) (hb : 0 < b) (hb2 : b < 1073741824) (hn : 0 ≤ n) (hn2 : n < 1000000) : ∃ xs, m__law_row (.int c) (.int n) (.int b) (.int s) = .ok (.lst xs) ∧ xs.length = n.toNat ∧ ∀ x ∈ xs, isI 0 b x := by
  have hr : iFn pR1 (aCons (eVar 1) aNil) (τr c n b s [] (if 10 ^ 18 ≤ c then c else 0) none none none) = .ok ((List.range n.toNat).map (fun i => Int.ofNat i) |>.map .int) := by
    show up (if -(2 ^ 62) ≤ n ∧ n ≤ 1000000 then some (rngP 0 n.toNat) else none) = _
    rw [if_pos (by omega)]
    simp [rngP, up]
  obtain ⟨xs, l2, y6, y7, y8, eL, h3, h4⟩ := loopR c n b s hb hb2 ((List.range n.toNat).map fun i => Int.ofNat i) [] (if 10 ^ 18 ≤ c then c else 0) none none none (by simp; omega) (by simp)
  refine ⟨xs, ?_, by simpa using h3, h4⟩
  have hp : CPow 10 18 := ⟨by decide, by decide, by decide⟩
  have s3 : sIf (tst (e2 pGe (eVar 0) (e2 pPow (eC (.int 10)) (eC (.int 18))))) (sSet 5 (eVar 0)) sNil (τr c n b s [] 0 none none none) = .nx (τr c n b s [] (if 10 ^ 18 ≤ c then c else 0) none none none) := by
    by_cases h : (10 : Int) ^ 18 ≤ c
    · simp [sIf, tst, e2, eVar, eC, pGe, pB, pPow, pI, hp, rs, sSet, sNil] at h ⊢
      simp [h]
    · simp [sIf, tst, e2, eVar, eC, pGe, pB, pPow, pI, hp, rs, sSet, sNil] at h ⊢
      simp [h, Int.not_le.mpr h]
  have e : b__law_row [some (.int c), some (.int n), some (.int b), some (.int s), none, none, none, none, none] = .rt (.lst xs) := by
    unfold b__law_row
    refine (seq_nx (τ' := [some (.int c), some (.int n), some (.int b), some (.int s), some (.lst []), none, none, none, none]) rfl).trans ?_
    refine (seq_nx (τ' := τr c n b s [] 0 none none none) rfl).trans ?_
    refine (seq_nx s3).trans ?_
    refine (seq_nx ((for_of hr).trans eL)).trans ?_
    rfl
  unfold m__law_row
  rw [e]
  rfl
/-- _law_cell -/
theorem cell_ok (ns : List Int) (k : Int) (hk : 0 ≤ k) : ∃ i, m__law_cell (.scr ns) (.int k) = .ok (.int i) := by
  by_cases h : k < ns.length
  · have hat : atI ns k = some ns[k.toNat] := by
      unfold atI ixN
      rw [if_pos hk, if_pos h]
      show ns[k.toNat]? = _
      exact List.getElem?_eq_getElem (by omega)
    refine ⟨ns[k.toNat], ?_⟩
    simp [m__law_cell, b__law_cell, sIf, sSeq, sRet, tst, e2, eVar, eC, eCall, aCons, aNil, pLt, pB, pLen, pIx, rs, fin, h, hat]
  · refine ⟨0, ?_⟩
    simp [m__law_cell, b__law_cell, sIf, sSeq, sRet, tst, e2, eVar, eC, eCall, aCons, aNil, pLt, pB, pLen, pIx, rs, fin, h, sNil]
/-! boxes -/
theorem loopB : ∀ (rows : List (List PV)) (acc : List PV) (a0 : PV) (x2 : Option PV), acc.length + rows.flatten.length ≤ 1000000 →
    ∃ y2, forL (gNm 2) (sSet 1 (e2 pCat (eVar 1) (eCall pList (aCons (eVar 2) aNil)))) (rows.map .tup) [some a0, some (.lst acc), x2] = .nx [some a0, some (.lst (acc ++ rows.flatten)), y2]
  | [], acc, a0, x2, _ => ⟨x2, by simp [forL]⟩
  | r :: rows, acc, a0, x2, h => by
    simp only [List.flatten_cons, List.length_append] at h
    obtain ⟨y2, e⟩ := loopB rows (acc ++ r) a0 (some (.tup r)) (by simp only [List.length_append]; omega)
    refine ⟨y2, ?_⟩
    rw [List.map_cons, forL]
    have h2 : pCat (.lst acc) (.lst r) = some (.lst (acc ++ r)) := by
      simp only [pCat]
      rw [if_pos (by rw [sizeLine_eq]; omega)]
    have h3 : sSet 1 (e2 pCat (eVar 1) (eCall pList (aCons (eVar 2) aNil))) [some a0, some (.lst acc), some (.tup r)] = .nx [some a0, some (.lst (acc ++ r)), some (.tup r)] := by
      simp [sSet, e2, eVar, eCall, aCons, aNil, pList, h2]
    have g : gNm 2 (.tup r) [some a0, some (.lst acc), x2] = .ok [some a0, some (.lst acc), some (.tup r)] := rfl
    rw [g]
    simp only [Res.nx_ok, rs_ok, h3, e]
    simp
theorem boxes_ok (rows : List (List PV)) (h : rows.flatten.length ≤ 1000000) : m__law_boxes (.tup (rows.map .tup)) = .ok (.lst rows.flatten) := by
  obtain ⟨y2, e⟩ := loopB rows [] (.tup (rows.map .tup)) none (by simpa using h)
  have hb : b__law_boxes [some (.tup (rows.map .tup)), none, none] = .rt (.lst rows.flatten) := by
    unfold b__law_boxes
    refine (seq_nx (τ' := [some (.tup (rows.map .tup)), some (.lst []), none]) rfl).trans ?_
    refine (seq_nx ((for_of (ps := rows.map .tup) rfl).trans e)).trans ?_
    rfl
  unfold m__law_boxes
  rw [hb]
  rfl
end K30
end
section
set_option Elab.async false
set_option linter.all false
set_option maxRecDepth 100000
namespace K30
open PySem PySem.Spec L2 Lp
/-! texts of letters -/
/-- the text of some letters -/
def tx (l : List (Fin 26)) : Str := ⟨(l.map fun i => 97 + i.val).toArray⟩
def sg (i : Fin 26) : Str := ⟨#[97 + i.val]⟩
theorem sg_in : ∀ i : Fin 26, Lp.subIn (sg i) ("abcdefghijklmnopqrstuvwxyz" : Str) = true := by decide +kernel
theorem signs_tx (l : List (Fin 26)) : signsP (tx l) = l.map fun i => .str (sg i) := by
  simp [signsP, tx, sg, Function.comp_def]
theorem len_tx (l : List (Fin 26)) : (tx l).length = l.length := by simp [tx, Str.length]
theorem tx_inj {l m : List (Fin 26)} (h : tx l = tx m) : l = m := by
  unfold tx at h
  simp only [Str.mk.injEq] at h
  have h2 : l.map (fun i => 97 + i.val) = m.map (fun i => 97 + i.val) := by simpa using congrArg Array.toList h
  refine (List.map_inj_right (f := fun i : Fin 26 => 97 + i.val) fun a b e => ?_).mp h2
  exact Fin.ext (by omega)
theorem tx_app (l m : List (Fin 26)) : tx l ++ tx m = tx (l ++ m) := by
  show Str.mk _ = _
  simp [tx]
theorem comp_name : ∀ (l : List (Fin 26)) (a0 : PV),
    compL (gNm 1) tYesM (e2 (pIn false) (eVar 1) (eC (.str ("abcdefghijklmnopqrstuvwxyz" : Str)))) [some a0, none] (l.map fun i => .str (sg i)) = .ok (l.map fun _ => .bl true)
  | [], _ => rfl
  | i :: l, a0 => by
    rw [List.map_cons, compL]
    have g : gNm 1 (.str (sg i)) [some a0, none] = .ok [some a0, some (.str (sg i))] := rfl
    have h : e2 (pIn false) (eVar 1) (eC (.str ("abcdefghijklmnopqrstuvwxyz" : Str))) [some a0, some (.str (sg i))] = .ok (.bl true) := by
      simp [e2, eVar, eC, pIn, sg_in]
    rw [g]
    simp only [Res.nx_ok, Res.ok_bind, tYesM, h, if_true, comp_name l a0, List.map_cons]
theorem bls_true {α : Type} : ∀ l : List α, blsOf (l.map fun _ => PV.bl true) = some (l.map fun _ => true)
  | [] => rfl
  | a :: l => by rw [List.map_cons, blsOf, bls_true l]; rfl
theorem all_true {α : Type} (l : List α) : pAll [.lst (l.map fun _ => PV.bl true)] = some (.bl true) := by
  show (blsOf (l.map fun _ => PV.bl true)).map (fun bs => PV.bl (bs.all _root_.id)) = _
  rw [bls_true]
  simp
theorem is_name_ok (l : List (Fin 26)) (h1 : 1 ≤ l.length) (h8 : l.length ≤ 8) : m_is_name (.str (tx l)) = .ok (.bl true) := by
  have ht : sIf (tOrM (tNotM (tst (eCall pIsi (aCons (eVar 0) (aCons (eC (.ty "str")) aNil))))) (tNotM (tst (eChain pLe pLe (eC (.int 1)) (eCall pLen (aCons (eVar 0) aNil)) (eC (.int 8)))))) (sRet (eC (.bl false))) sNil [some (.str (tx l)), none] = .nx [some (.str (tx l)), none] := by
    have hs : (tx l).length ≤ sizeLine := by rw [len_tx, sizeLine_eq]; omega
    have hs2 : l.length ≤ sizeLine := by rw [sizeLine_eq]; omega
    have h1' : (1 : Int) ≤ (l.length : Nat) := by omega
    have h8' : ((l.length : Nat) : Int) ≤ 8 := by omega
    have hi : PV.isa "str" (.str (tx l)) = some true := rfl
    simp [sIf, tOrM, tNotM, tst, eCall, eVar, eC, aCons, aNil, pIsi, isaKnown, hi, eChain, pLe, pB, pLen, hs, hs2, len_tx, h1', h8', sNil, rs]
  unfold m_is_name b_is_name
  rw [seq_nx ht]
  have hc : eComp [1] (iSeq (eVar 0)) (gNm 1) tYesM (e2 (pIn false) (eVar 1) (eC (.str ("abcdefghijklmnopqrstuvwxyz" : Str)))) [some (.str (tx l)), none] = .ok (.lst (l.map fun _ => .bl true)) := by
    have hs : (tx l).length ≤ sizeLine := by rw [len_tx, sizeLine_eq]; omega
    have hit : iSeq (eVar 0) [some (.str (tx l)), none] = .ok (l.map fun i => .str (sg i)) := by
      simp [iSeq, eVar, itemsOf, hs, signs_tx]
    unfold eComp
    rw [hit, Res.ok_bind]
    have hw : wipeL [some (.str (tx l)), none] [1] = [some (.str (tx l)), none] := rfl
    rw [hw, comp_name]
    rfl
  have hr : sRet (eCall pAll (aCons (eComp [1] (iSeq (eVar 0)) (gNm 1) tYesM (e2 (pIn false) (eVar 1) (eC (.str ("abcdefghijklmnopqrstuvwxyz" : Str))))) aNil)) [some (.str (tx l)), none] = .rt (.bl true) := by
    unfold sRet eCall aCons
    rw [hc]
    simp only [aNil, Res.ok_bind, all_true, up_some, rs_ok]
  exact (congrArg (fin .sh) hr).trans rfl
theorem is_event_ok (w : Str) (hw : w = ("in" : Str) ∨ w = ("out" : Str)) (l : List (Fin 26)) (h1 : 1 ≤ l.length) (h8 : l.length ≤ 8) : m_is_event (.tup [.str w, .str (tx l)]) = .ok (.bl true) := by
  have hn : ar1 m_is_name [.str (tx l)] = .ok (.bl true) := is_name_ok l h1 h8
  have hne : pNe (.int 2) (.int 2) = some (.bl false) := by
    simp [pNe, eqB, PV.toD, SeqAt.shaped, PyData.canLay0, PyData.depth, PyData.eqv]
  have hi : PV.isa "tuple" (.tup [.str w, .str (tx l)]) = some true := rfl
  have hi2 : PV.isa "str" (.str w) = some true := rfl
  have hx0 : pIx (.tup [.str w, .str (tx l)]) (.int 0) = some (.str w) := rfl
  have hx1 : pIx (.tup [.str w, .str (tx l)]) (.int 1) = some (.str (tx l)) := rfl
  have ht : pIn false (.str w) (.tup [.str ("in" : Str), .str ("out" : Str)]) = some (.bl true) := by
    rcases hw with rfl | rfl <;> simp [pIn, itemsP, PV.flat, inP, eqP]
  have hne2 : pNe (.int ((2 : Nat) : Int)) (.int 2) = some (.bl false) := hne
  simp [m_is_event, b_is_event, sSeq, sIf, tOrM, tNotM, tst, eCall, eVar, eC, aCons, aNil, pIsi, isaKnown, hi, hi2, hx0, hx1, e2, pLen, hne, hne2, sNil, rs, sRet, eAnd, eTup, ht, eFn, hn, fin]
/-! letters -/
def ltrs : PV := .str ("abcdefghijklmnopqrstuvwxyz" : Str)
theorem ltr_at : ∀ i : Fin 26, pIx ltrs (.int (i.val : Nat)) = some (.str (sg i)) := by
  intro i
  have hs : (("abcdefghijklmnopqrstuvwxyz" : Str)).length ≤ sizeLine := by rw [sizeLine_eq]; decide +kernel
  unfold ltrs pIx
  dsimp only
  rw [if_pos hs]
  have : ∀ i : Fin 26, (atI (("abcdefghijklmnopqrstuvwxyz" : Str)).cps.toList ((i.val : Nat) : Int)) = some (97 + i.val) := by decide +kernel
  rw [this i]
  rfl
theorem ltr_mod (x : Int) : ∃ i : Fin 26, pIx ltrs (.int (x % 26)) = some (.str (sg i)) ∧ ((i.val : Nat) : Int) = x % 26 := by
  have h0 : 0 ≤ x % 26 := Int.emod_nonneg _ (by decide)
  have h1 : x % 26 < 26 := Int.emod_lt_of_pos _ (by decide)
  refine ⟨⟨(x % 26).toNat, by omega⟩, ?_, by simp; omega⟩
  have e : x % 26 = (((x % 26).toNat : Nat) : Int) := by omega
  have := ltr_at ⟨(x % 26).toNat, by omega⟩
  rw [← e] at this
  exact this
theorem sg_tx (i : Fin 26) : sg i = tx [i] := rfl
theorem add_tx (l m : List (Fin 26)) (h : l.length + m.length ≤ 1000) : pAddA (.str (tx l)) (.str (tx m)) = some (.str (tx (l ++ m))) := by
  have : (tx l).length + (tx m).length ≤ sizeLine := by rw [len_tx, len_tx, sizeLine_eq]; omega
  simp [pAddA, orP, pAdd, this, tx_app]
theorem mark_at {xs : List PV} {b : Int} (hx : ∀ x ∈ xs, isI 0 b x) {j : Int} (h0 : 0 ≤ j) (h1 : j < xs.length) : ∃ m, pIx (.lst xs) (.int j) = some (.int m) ∧ 0 ≤ m ∧ m < b := by
  have hj : j.toNat < xs.length := by omega
  obtain ⟨m, e, h2, h3⟩ := hx _ (List.getElem_mem hj)
  refine ⟨m, ?_, h2, h3⟩
  show atI xs j = _
  unfold atI ixN
  rw [if_pos h0, if_pos h1, ← e]
  exact List.getElem?_eq_getElem hj
abbrev τn (c s n step : Int) (xs : List PV) (h : List (Fin 26)) (x7 x8 x9 x10 : Option PV) : LE := [some (.int c), some (.int s), some (.int n), some ltrs, some (.lst xs), some (.int step), some (.str (tx h)), x7, x8, x9, x10]
def bodyH : LE → Fl := sSet 6 (e2 pAddA (eVar 6) (e2 pIx (eVar 3) (e2 pMod (eCall pInt (aCons (e2 pIx (eVar 4) (e2 pAddA (eC (.int 5)) (eVar 7))) aNil)) (eC (.int 26)))))
theorem loopH (c s n step : Int) {xs : List PV} {b : Int} (hx : ∀ x ∈ xs, isI 0 b x) (hl : xs.length = 11) (x8 x9 x10 : Option PV) : ∀ (ks : List Int) (h : List (Fin 26)) (x7 : Option PV), (∀ k ∈ ks, 0 ≤ k ∧ k < 6) → h.length + ks.length ≤ 100 →
    ∃ h' y7, forL (gNm 7) bodyH (ks.map .int) (τn c s n step xs h x7 x8 x9 x10) = .nx (τn c s n step xs h' y7 x8 x9 x10) ∧ h'.length = h.length + ks.length
  | [], h, x7, _, _ => ⟨h, x7, rfl, rfl⟩
  | k :: ks, h, x7, hk, hh => by
    simp only [List.length_cons] at hh
    obtain ⟨h0, h1⟩ := hk k List.mem_cons_self
    obtain ⟨m, hm, _, _⟩ := mark_at hx (j := 5 + k) (by omega) (by omega)
    obtain ⟨i, hi, _⟩ := ltr_mod m
    have ha := add_tx h [i] (by simp; omega)
    rw [← sg_tx] at ha
    obtain ⟨h', y7, e, hl'⟩ := loopH c s n step hx hl x8 x9 x10 ks (h ++ [i]) (some (.int k)) (fun k hk' => hk k (List.mem_cons_of_mem _ hk')) (by simp; omega)
    refine ⟨h', y7, ?_, by rw [hl']; simp; omega⟩
    have st : bodyH (τn c s n step xs h (some (.int k)) x8 x9 x10) = .nx (τn c s n step xs (h ++ [i]) (some (.int k)) x8 x9 x10) := by
      have a5 : pAddA (.int 5) (.int k) = some (.int (5 + k)) := rfl
      simp [bodyH, sSet, e2, eVar, eC, eCall, aCons, aNil, a5, hm, pInt, pMod, pI, hi, ha, rs]
    rw [List.map_cons, forL]
    have g : gNm 7 (.int k) (τn c s n step xs h x7 x8 x9 x10) = .ok (τn c s n step xs h (some (.int k)) x8 x9 x10) := rfl
    rw [g]
    simp only [Res.nx_ok, rs_ok, st]
    exact e
abbrev τm (c s n step : Int) (xs : List PV) (h t : List (Fin 26)) (x7 x9 x10 : Option PV) : LE := [some (.int c), some (.int s), some (.int n), some ltrs, some (.lst xs), some (.int step), some (.str (tx h)), x7, some (.str (tx t)), x9, x10]
def bodyL : LE → Fl := sSet 8 (e2 pAddA (eVar 8) (e2 pIx (eVar 3) (e2 pMod (eCall pInt (aCons (e2 pIx (eVar 4) (e2 pAddA (eC (.int 8)) (e2 pMod (eVar 7) (eC (.int 3))))) aNil)) (eC (.int 26)))))
theorem loopT (c s n step : Int) {xs : List PV} {b : Int} (hx : ∀ x ∈ xs, isI 0 b x) (hl : xs.length = 11) (h : List (Fin 26)) (x9 x10 : Option PV) : ∀ (ks : List Int) (t : List (Fin 26)) (x7 : Option PV), t.length + ks.length ≤ 100 →
    ∃ t' y7, forL (gNm 7) bodyL (ks.map .int) (τm c s n step xs h t x7 x9 x10) = .nx (τm c s n step xs h t' y7 x9 x10) ∧ t'.length = t.length + ks.length
  | [], t, x7, _ => ⟨t, x7, rfl, rfl⟩
  | k :: ks, t, x7, hh => by
    simp only [List.length_cons] at hh
    have h0 : 0 ≤ k % 3 := Int.emod_nonneg _ (by decide)
    have h1 : k % 3 < 3 := Int.emod_lt_of_pos _ (by decide)
    obtain ⟨m, hm, _, _⟩ := mark_at hx (j := 8 + k % 3) (by omega) (by omega)
    obtain ⟨i, hi, _⟩ := ltr_mod m
    have ha := add_tx t [i] (by simp; omega)
    rw [← sg_tx] at ha
    obtain ⟨t', y7, e, hl'⟩ := loopT c s n step hx hl h x9 x10 ks (t ++ [i]) (some (.int k)) (by simp; omega)
    refine ⟨t', y7, ?_, by rw [hl']; simp; omega⟩
    have st : bodyL (τm c s n step xs h t (some (.int k)) x9 x10) = .nx (τm c s n step xs h (t ++ [i]) (some (.int k)) x9 x10) := by
      have a5 : pAddA (.int 8) (.int (k % 3)) = some (.int (8 + k % 3)) := rfl
      simp [bodyL, sSet, e2, eVar, eC, eCall, aCons, aNil, a5, hm, pInt, pMod, pI, hi, ha, rs]
    rw [List.map_cons, forL]
    have g : gNm 7 (.int k) (τm c s n step xs h t x7 x9 x10) = .ok (τm c s n step xs h t (some (.int k)) x9 x10) := rfl
    rw [g]
    simp only [Res.nx_ok, rs_ok, st]
    exact e
/-- the letter at a place, round -/
def lt (x : Int) : Fin 26 := ⟨(x % 26).toNat, by have := Int.emod_nonneg x (show (26 : Int) ≠ 0 by decide); have := Int.emod_lt_of_pos x (show (0 : Int) < 26 by decide); omega⟩
theorem lt_at (x : Int) : pIx ltrs (.int (x % 26)) = some (.str (sg (lt x))) := by
  obtain ⟨i, h, e⟩ := ltr_mod x
  have : i = lt x := Fin.ext (by show i.val = (x % 26).toNat; omega)
  rw [← this]
  exact h
def eltN : LE → Res PV := (e2 pAddA (e2 pAddA (eVar 6) (e2 pIx (eVar 3) (e2 pMod (eCall pInt (aCons (e2 pAddA (e2 pIx (eVar 4) (eC (.int 0))) (e2 pMul (eVar 5) (eVar 7))) aNil)) (eC (.int 26))))) (eVar 8))
theorem compN (c s n step : Int) {xs : List PV} {h t : List (Fin 26)} {m0 : Int} (hm : pIx (.lst xs) (.int 0) = some (.int m0)) (hst : -(2 ^ 64) < step ∧ step < 2 ^ 64) (hh : h.length ≤ 10) (ht : t.length ≤ 10) (x9 x10 : Option PV) : ∀ ks : List Int,
    compL (gNm 7) tYesM eltN (τm c s n step xs h t none x9 x10) (ks.map .int) = .ok (ks.map fun k => .str (tx (h ++ [lt (m0 + step * k)] ++ t)))
  | [] => rfl
  | k :: ks => by
    rw [List.map_cons, compL]
    have g : gNm 7 (.int k) (τm c s n step xs h t none x9 x10) = .ok (τm c s n step xs h t (some (.int k)) x9 x10) := rfl
    have hmul : CMul step k := .inl hst
    have a1 := add_tx h [lt (m0 + step * k)] (by simp; omega)
    rw [← sg_tx] at a1
    have a2 := add_tx (h ++ [lt (m0 + step * k)]) t (by simp; omega)
    have a0 : pAddA (.int m0) (.int (step * k)) = some (.int (m0 + step * k)) := rfl
    have e : eltN (τm c s n step xs h t (some (.int k)) x9 x10) = .ok (.str (tx (h ++ [lt (m0 + step * k)] ++ t))) := by
      simp only [eltN, e2, eVar, eC, eCall, aCons, aNil]
      simp [hm, pMul, pI, hmul, a0, pInt, pMod, lt_at, a1]
      rw [show h ++ lt (m0 + step * k) :: t = h ++ [lt (m0 + step * k)] ++ t by simp, a2]
      rfl
    rw [g]
    simp only [Res.nx_ok, Res.ok_bind, tYesM, if_true, e, compN c s n step hm hst hh ht x9 x10 ks, List.map_cons]
theorem lt_apart {m0 step k j : Int} (hs : step ∈ [1, 3, 5, 7, 9, 11]) (h0 : 0 ≤ k) (h1 : k < 22) (g0 : 0 ≤ j) (g1 : j < 22) (h : lt (m0 + step * k) = lt (m0 + step * j)) : k = j := by
  have e : (m0 + step * k) % 26 = (m0 + step * j) % 26 := by
    have := congrArg Fin.val h
    simp only [lt] at this
    have a := Int.emod_nonneg (m0 + step * k) (show (26 : Int) ≠ 0 by decide)
    have b := Int.emod_nonneg (m0 + step * j) (show (26 : Int) ≠ 0 by decide)
    omega
  simp only [List.mem_cons, List.not_mem_nil, or_false] at hs
  rcases hs with rfl | rfl | rfl | rfl | rfl | rfl <;> omega
abbrev nmP (ls : List (List (Fin 26))) : PV := .lst (ls.map fun l => .str (tx l))
abbrev τq (c s n step : Int) (xs : List PV) (h t : List (Fin 26)) (ls : List (List (Fin 26))) (mo : Fin 26) (x7 : Option PV) : LE := [some (.int c), some (.int s), some (.int n), some ltrs, some (.lst xs), some (.int step), some (.str (tx h)), x7, some (.str (tx t)), some (nmP ls), some (.str (sg mo))]
def bodyM : LE → Fl := (sSeq (sSetI 9 (e2 pSub (eVar 7) (eC (.int 1))) (e2 pAddA (e2 pIx (eVar 9) (e2 pSub (eVar 7) (eC (.int 2)))) (eVar 10)))
    (sSetI 9 (eVar 7) (e2 pAddA (e2 pAddA (eVar 10) (e2 pIx (eVar 9) (e2 pSub (eVar 7) (eC (.int 2))))) (eVar 10))))
theorem nm_at {ls : List (List (Fin 26))} {k : Nat} (h : k < ls.length) : pIx (nmP ls) (.int (k : Nat)) = some (.str (tx ls[k])) := by
  show atI (ls.map fun l => PV.str (tx l)) _ = _
  unfold atI ixN
  rw [if_pos (by omega), if_pos (by rw [List.length_map]; omega)]
  show (ls.map fun l => PV.str (tx l))[k]? = _
  rw [List.getElem?_map, List.getElem?_eq_getElem h]
  rfl
theorem setI_nm {i : Nat} {fi fe : LE → Res PV} {τ : LE} {ls : List (List (Fin 26))} {k : Nat} {l : List (Fin 26)} (hτ : τ[i]? = some (some (nmP ls))) (he : fe τ = .ok (.str (tx l))) (hi : fi τ = .ok (.int (k : Nat))) (hk : k < ls.length) :
    sSetI i fi fe τ = .nx (τ.set i (some (nmP (ls.set k l)))) := by
  have hx : ixN (ls.map fun l => PV.str (tx l)).length ((k : Nat) : Int) = some k := by
    unfold ixN
    rw [if_pos (by omega), if_pos (by rw [List.length_map]; omega)]
    rfl
  unfold sSetI
  rw [he, rs_ok, hτ, onLst_ok, hi, rs_ok]
  simp only [hx, nmP, List.map_set]
theorem stepM (c s n step : Int) (xs : List PV) (h t : List (Fin 26)) (ls : List (List (Fin 26))) (mo : Fin 26) (k : Nat) (h2 : 2 ≤ k) (hk : k < ls.length) (hl : (ls[k - 2]).length ≤ 100) :
    bodyM (τq c s n step xs h t ls mo (some (.int (k : Nat)))) = .nx (τq c s n step xs h t ((ls.set (k - 1) (ls[k - 2] ++ [mo])).set k ([mo] ++ ls[k - 2] ++ [mo])) mo (some (.int (k : Nat)))) := by
  have a1 := add_tx ls[k - 2] [mo] (by simp; omega)
  have a2 := add_tx [mo] ls[k - 2] (by simp; omega)
  have a3 := add_tx ([mo] ++ ls[k - 2]) [mo] (by simp; omega)
  have s1 : pSub (.int (k : Nat)) (.int 1) = some (.int ((k - 1 : Nat) : Nat)) := by show some (PV.int _) = _; congr 2; omega
  have s2 : pSub (.int (k : Nat)) (.int 2) = some (.int ((k - 2 : Nat) : Nat)) := by show some (PV.int _) = _; congr 2; omega
  have n1 := nm_at (ls := ls) (k := k - 2) (by omega)
  have n2 := nm_at (ls := ls.set (k - 1) (ls[k - 2] ++ [mo])) (k := k - 2) (by rw [List.length_set]; omega)
  rw [List.getElem_set_ne (by omega)] at n2
  rw [← sg_tx] at a1 a2 a3
  have st1 : sSetI 9 (e2 pSub (eVar 7) (eC (.int 1))) (e2 pAddA (e2 pIx (eVar 9) (e2 pSub (eVar 7) (eC (.int 2)))) (eVar 10)) (τq c s n step xs h t ls mo (some (.int (k : Nat)))) = .nx (τq c s n step xs h t (ls.set (k - 1) (ls[k - 2] ++ [mo])) mo (some (.int (k : Nat)))) := by
    refine setI_nm (ls := ls) (k := k - 1) (l := ls[k - 2] ++ [mo]) rfl ?_ ?_ (by omega)
    · show (up (pSub (.int (k : Nat)) (.int 2)) >>= fun p => up (pIx (nmP ls) p)) >>= (fun p => up (pAddA p (.str (sg mo)))) = _
      rw [s2, up_some, Res.ok_bind, n1, up_some, Res.ok_bind, a1]
      rfl
    · show up (pSub (.int (k : Nat)) (.int 1)) = _
      rw [s1]
      rfl
  unfold bodyM
  refine (seq_nx st1).trans ?_
  refine setI_nm (ls := ls.set (k - 1) (ls[k - 2] ++ [mo])) (k := k) (l := [mo] ++ ls[k - 2] ++ [mo]) rfl ?_ rfl (by rw [List.length_set]; omega)
  show ((up (pSub (.int (k : Nat)) (.int 2)) >>= fun p => up (pIx (nmP (ls.set (k - 1) (ls[k - 2] ++ [mo]))) p)) >>= fun p => up (pAddA (.str (sg mo)) p)) >>= (fun p => up (pAddA p (.str (sg mo)))) = _
  rw [s2, up_some, Res.ok_bind, n2, up_some, Res.ok_bind, a2, up_some, Res.ok_bind, a3]
  rfl
def stM (mo : Fin 26) (ls : List (List (Fin 26))) (k : Nat) : List (List (Fin 26)) := (ls.set (k - 1) (ls.getD (k - 2) [] ++ [mo])).set k ([mo] ++ ls.getD (k - 2) [] ++ [mo])
theorem stM_len (mo ls k) : (stM mo ls k).length = ls.length := by simp [stM]
def nmF (B : Nat → List (Fin 26)) (mo : Fin 26) (i : Nat) : List (Fin 26) := if i = 21 ∨ i % 3 = 0 then B i else if i % 3 = 1 then B (i - 1) ++ [mo] else [mo] ++ B (i - 2) ++ [mo]
theorem fold_M (B : Nat → List (Fin 26)) (mo : Fin 26) : [2, 5, 8, 11, 14, 17, 20].foldl (stM mo) ((List.range 22).map B) = (List.range 22).map (nmF B mo) := rfl
theorem nmF_inj {B : Nat → List (Fin 26)} {mo : Fin 26} {L : Nat} (hL : ∀ i, (B i).length = L) (hB : ∀ i j, i < 22 → j < 22 → B i = B j → i = j) {i j : Nat} (hi : i < 22) (hj : j < 22) (h : nmF B mo i = nmF B mo j) : i = j := by
  have f0 : ∀ i, (i = 21 ∨ i % 3 = 0) → nmF B mo i = B i := fun i h => if_pos h
  have f1 : ∀ i, ¬ (i = 21 ∨ i % 3 = 0) → i % 3 = 1 → nmF B mo i = B (i - 1) ++ [mo] := fun i h h1 => by unfold nmF; rw [if_neg h, if_pos h1]
  have f2 : ∀ i, ¬ (i = 21 ∨ i % 3 = 0) → ¬ i % 3 = 1 → nmF B mo i = [mo] ++ B (i - 2) ++ [mo] := fun i h h1 => by unfold nmF; rw [if_neg h, if_neg h1]
  have hlen := congrArg List.length h
  by_cases a0 : i = 21 ∨ i % 3 = 0
  · by_cases b0 : j = 21 ∨ j % 3 = 0
    · rw [f0 i a0, f0 j b0] at h; exact hB i j hi hj h
    · by_cases b1 : j % 3 = 1
      · rw [f0 i a0, f1 j b0 b1, List.length_append, hL, hL] at hlen; simp at hlen
      · rw [f0 i a0, f2 j b0 b1, List.length_append, List.length_append, hL, hL] at hlen; simp at hlen; omega
  · by_cases a1 : i % 3 = 1
    · by_cases b0 : j = 21 ∨ j % 3 = 0
      · rw [f1 i a0 a1, f0 j b0, List.length_append, hL, hL] at hlen; simp at hlen
      · by_cases b1 : j % 3 = 1
        · rw [f1 i a0 a1, f1 j b0 b1] at h
          have := hB _ _ (by omega) (by omega) (List.append_cancel_right h)
          omega
        · rw [f1 i a0 a1, f2 j b0 b1, List.length_append, List.length_append, List.length_append, hL, hL] at hlen; simp at hlen
    · by_cases b0 : j = 21 ∨ j % 3 = 0
      · rw [f2 i a0 a1, f0 j b0, List.length_append, List.length_append, hL, hL] at hlen; simp at hlen; omega
      · by_cases b1 : j % 3 = 1
        · rw [f2 i a0 a1, f1 j b0 b1, List.length_append, List.length_append, List.length_append, hL, hL] at hlen; simp at hlen
        · rw [f2 i a0 a1, f2 j b0 b1] at h
          have := hB _ _ (by omega) (by omega) (List.append_cancel_left (List.append_cancel_right h))
          omega
theorem loopM (c s n step : Int) (xs : List PV) (h t : List (Fin 26)) (mo : Fin 26) : ∀ (ks : List Nat) (ls : List (List (Fin 26))) (x7 : Option PV), (∀ k ∈ ks, 2 ≤ k ∧ k < ls.length) → (∀ l ∈ ls, l.length + 2 * ks.length ≤ 90) →
    ∃ y7, forL (gNm 7) bodyM (ks.map fun k => .int (k : Nat)) (τq c s n step xs h t ls mo x7) = .nx (τq c s n step xs h t (ks.foldl (stM mo) ls) mo y7)
  | [], ls, x7, _, _ => ⟨x7, rfl⟩
  | k :: ks, ls, x7, hk, hl => by
    obtain ⟨h2, h3⟩ := hk k List.mem_cons_self
    have hm : (ls[k - 2]).length + 2 * (k :: ks).length ≤ 90 := hl _ (List.getElem_mem (by omega))
    simp only [List.length_cons] at hm
    have e := stepM c s n step xs h t ls mo k h2 h3 (by omega)
    have hd : ls.getD (k - 2) [] = ls[k - 2] := by rw [List.getD_eq_getElem?_getD, List.getElem?_eq_getElem (by omega)]; rfl
    have he : (ls.set (k - 1) (ls[k - 2] ++ [mo])).set k ([mo] ++ ls[k - 2] ++ [mo]) = stM mo ls k := by unfold stM; rw [hd]
    rw [he] at e
    obtain ⟨y7, e2⟩ := loopM c s n step xs h t mo ks (stM mo ls k) (some (.int (k : Nat))) (fun j hj => by rw [stM_len]; exact hk j (List.mem_cons_of_mem _ hj)) (fun l hm' => by
      unfold stM at hm'
      rw [hd] at hm'
      rcases List.mem_or_eq_of_mem_set hm' with hm' | rfl
      · rcases List.mem_or_eq_of_mem_set hm' with hm' | rfl
        · have := hl l hm'; simp only [List.length_cons] at this; omega
        · simp; omega
      · simp; omega)
    refine ⟨y7, ?_⟩
    rw [List.map_cons, forL]
    have g : gNm 7 (.int (k : Nat)) (τq c s n step xs h t ls mo x7) = .ok (τq c s n step xs h t ls mo (some (.int (k : Nat)))) := rfl
    rw [g]
    simp only [Res.nx_ok, rs_ok, e]
    exact e2
end K30
end
section
set_option Elab.async false
set_option linter.all false
set_option maxRecDepth 100000
namespace K30
open PySem PySem.Spec L2 Lp
theorem step_at (x : Int) : ∃ st : Int, pIx (.lst [.int 1, .int 3, .int 5, .int 7, .int 9, .int 11]) (.int (x % 6)) = some (.int st) ∧ st ∈ [(1 : Int), 3, 5, 7, 9, 11] := by
  have h0 : 0 ≤ x % 6 := Int.emod_nonneg _ (by decide)
  have h1 : x % 6 < 6 := Int.emod_lt_of_pos _ (by decide)
  have : x % 6 = 0 ∨ x % 6 = 1 ∨ x % 6 = 2 ∨ x % 6 = 3 ∨ x % 6 = 4 ∨ x % 6 = 5 := by omega
  rcases this with e | e | e | e | e | e <;> rw [e]
  · exact ⟨1, rfl, by simp⟩
  · exact ⟨3, rfl, by simp⟩
  · exact ⟨5, rfl, by simp⟩
  · exact ⟨7, rfl, by simp⟩
  · exact ⟨9, rfl, by simp⟩
  · exact ⟨11, rfl, by simp⟩
theorem rng_of {τ : LE} {i : Nat} {n : Int} (h : τ[i]? = some (some (.int n))) (h0 : 0 ≤ n) (h1 : n ≤ 1000) : True := trivial
theorem names_ok (c s : Int) : ∃ ls : List (List (Fin 26)), m__law_names (.int c) (.int s) (.int 22) = .ok (nmP ls) ∧ ls.length = 22 ∧ ls.Nodup ∧ ∀ l ∈ ls, 1 ≤ l.length ∧ l.length ≤ 8 := by
  obtain ⟨xs, e4, l4, hx⟩ := row_ok c 11 468 s (by decide) (by decide) (by decide) (by decide)
  have l4' : xs.length = 11 := l4
  obtain ⟨m0, hm0, a00, a01⟩ := mark_at hx (j := 0) (by decide) (by omega)
  obtain ⟨m1, hm1, a10, a11⟩ := mark_at hx (j := 1) (by decide) (by omega)
  obtain ⟨m2, hm2, a20, a21⟩ := mark_at hx (j := 2) (by decide) (by omega)
  obtain ⟨m3, hm3, a30, a31⟩ := mark_at hx (j := 3) (by decide) (by omega)
  obtain ⟨m4, hm4, a40, a41⟩ := mark_at hx (j := 4) (by decide) (by omega)
  obtain ⟨st, hst, hsm⟩ := step_at m1
  obtain ⟨h', y7, eh, lh⟩ := loopH c s 22 st hx l4' none none none ((List.range (m2 % 3).toNat).map fun i => Int.ofNat i) [] none (fun k hk => by
    obtain ⟨i, hi, rfl⟩ := List.mem_map.mp hk
    have := List.mem_range.mp hi
    have := Int.emod_lt_of_pos m2 (show (0 : Int) < 3 by decide)
    simp only [Int.ofNat_eq_natCast]
    omega) (by simp; have := Int.emod_lt_of_pos m2 (show (0 : Int) < 3 by decide); omega)
  obtain ⟨t', z7, et, lt'⟩ := loopT c s 22 st hx l4' h' none none ((List.range (m3 % 4).toNat).map fun i => Int.ofNat i) [] y7 (by simp; have := Int.emod_lt_of_pos m3 (show (0 : Int) < 4 by decide); omega)
  have b2 := Int.emod_lt_of_pos m2 (show (0 : Int) < 3 by decide)
  have b3 := Int.emod_lt_of_pos m3 (show (0 : Int) < 4 by decide)
  have c2 := Int.emod_nonneg m2 (show (3 : Int) ≠ 0 by decide)
  have c3 := Int.emod_nonneg m3 (show (4 : Int) ≠ 0 by decide)
  simp only [List.length_nil, List.length_map, List.length_range, Nat.zero_add] at lh lt'
  let B : Nat → List (Fin 26) := fun i => h' ++ [lt (m0 + st * (i : Nat))] ++ t'
  obtain ⟨w7, em⟩ := loopM c s 22 st xs h' t' (lt m4) [2, 5, 8, 11, 14, 17, 20] ((List.range 22).map B) z7 (fun k hk => by simp at hk ⊢; omega) (fun l hl => by
    obtain ⟨i, _, rfl⟩ := List.mem_map.mp hl
    simp [B]; omega)
  rw [fold_M] at em
  have hBL : ∀ i, (B i).length = h'.length + 1 + t'.length := fun i => by simp [B]; omega
  have hBi : ∀ i j, i < 22 → j < 22 → B i = B j → i = j := fun i j hi hj e => by
    have e1 := List.append_cancel_right e
    have e2 := List.append_cancel_left e1
    have e3 : lt (m0 + st * (i : Nat)) = lt (m0 + st * (j : Nat)) := by simpa using e2
    have := lt_apart hsm (by omega) (by omega) (by omega) (by omega) e3
    omega
  have hnd : ∀ f : Nat → List (Fin 26), (∀ i j, i < 22 → j < 22 → f i = f j → i = j) → ((List.range 22).map f).Nodup := fun f hf => by
    unfold List.Nodup
    rw [List.pairwise_map]
    refine List.Pairwise.imp_of_mem ?_ List.nodup_range
    intro a b ha hb hab he
    exact hab (hf a b (List.mem_range.mp ha) (List.mem_range.mp hb) he)
  have s4 : sSet 4 (eFn (ar4 m__law_row) (aCons (eVar 0) (aCons (eC (.int 11)) (aCons (e2 pMul (eC (.int 26)) (eC (.int 18))) (aCons (eVar 1) aNil))))) [some (.int c), some (.int s), some (.int 22), some ltrs, none, none, none, none, none, none, none] = .nx [some (.int c), some (.int s), some (.int 22), some ltrs, some (.lst xs), none, none, none, none, none, none] := by
    have hc : CMul 26 18 := .inl ⟨by decide, by decide⟩
    have hr : ar4 m__law_row [.int c, .int 11, .int 468, .int s] = .ok (.lst xs) := e4
    simp [sSet, eFn, e2, eVar, eC, aCons, aNil, pMul, pI, hc, hr, rs]
  have s5 : sSet 5 (e2 pIx (eLst (aCons (eC (.int 1)) (aCons (eC (.int 3)) (aCons (eC (.int 5)) (aCons (eC (.int 7)) (aCons (eC (.int 9)) (aCons (eC (.int 11)) aNil))))))) (e2 pMod (eCall pInt (aCons (e2 pIx (eVar 4) (eC (.int 1))) aNil)) (eC (.int 6)))) [some (.int c), some (.int s), some (.int 22), some ltrs, some (.lst xs), none, none, none, none, none, none] = .nx [some (.int c), some (.int s), some (.int 22), some ltrs, some (.lst xs), some (.int st), none, none, none, none, none] := by
    simp [sSet, eCall, eLst, e2, eVar, eC, aCons, aNil, hm1, pInt, pMod, pI, hst, rs]
  have hrg : ∀ j : Int, 0 ≤ j → j ≤ 1000 → pR1 [.int j] = some (((List.range j.toNat).map fun i => Int.ofNat i).map .int) := fun j h0 h1 => by
    show (if -(2 ^ 62) ≤ j ∧ j ≤ 1000000 then some (rngP 0 j.toNat) else none) = _
    rw [if_pos (by omega)]
    simp [rngP]
  have r6 : iFn pR1 (aCons (e2 pMod (eCall pInt (aCons (e2 pIx (eVar 4) (eC (.int 2))) aNil)) (eC (.int 3))) aNil) (τn c s 22 st xs [] none none none none) = .ok (((List.range (m2 % 3).toNat).map fun i => Int.ofNat i).map .int) := by
    have := hrg (m2 % 3) c2 (by omega)
    simp only [iFn, eCall, e2, eVar, eC, aCons, aNil]
    simp [hm2, pInt, pMod, pI]
    rw [this]
    simp
  have r8 : iFn pR1 (aCons (e2 pMod (eCall pInt (aCons (e2 pIx (eVar 4) (eC (.int 3))) aNil)) (eC (.int 4))) aNil) (τm c s 22 st xs h' [] y7 none none) = .ok (((List.range (m3 % 4).toNat).map fun i => Int.ofNat i).map .int) := by
    have := hrg (m3 % 4) c3 (by omega)
    simp only [iFn, eCall, e2, eVar, eC, aCons, aNil]
    simp [hm3, pInt, pMod, pI]
    rw [this]
    simp
  have s9 : sSet 9 (eComp [7] (iFn pR1 (aCons (eVar 2) aNil)) (gNm 7) tYesM eltN) (τm c s 22 st xs h' t' z7 none none) = .nx [some (.int c), some (.int s), some (.int 22), some ltrs, some (.lst xs), some (.int st), some (.str (tx h')), z7, some (.str (tx t')), some (nmP ((List.range 22).map B)), none] := by
    have hr := hrg 22 (by decide) (by decide)
    have hi : iFn pR1 (aCons (eVar 2) aNil) (τm c s 22 st xs h' t' z7 none none) = .ok (((List.range 22).map fun i => Int.ofNat i).map .int) := by
      show up (pR1 [.int 22]) = _
      rw [hr]; rfl
    have hc := compN c s 22 st hm0 (h := h') (t := t') (by
      simp only [List.mem_cons, List.not_mem_nil, or_false] at hsm
      omega) (by omega) (by omega) none none ((List.range 22).map fun i => Int.ofNat i)
    have hw : wipeL (τm c s 22 st xs h' t' z7 none none) [7] = τm c s 22 st xs h' t' none none none := rfl
    unfold sSet eComp
    rw [hi, Res.ok_bind, hw, hc]
    rw [List.map_map]
    simp only [Res.ok_bind, rs_ok, nmP, List.map_map]
    rfl
  have s10 : sSet 10 (e2 pIx (eVar 3) (e2 pMod (eCall pInt (aCons (e2 pIx (eVar 4) (eC (.int 4))) aNil)) (eC (.int 26)))) [some (.int c), some (.int s), some (.int 22), some ltrs, some (.lst xs), some (.int st), some (.str (tx h')), z7, some (.str (tx t')), some (nmP ((List.range 22).map B)), none] = .nx (τq c s 22 st xs h' t' ((List.range 22).map B) (lt m4) z7) := by
    simp [sSet, eCall, e2, eVar, eC, aCons, aNil, hm4, pInt, pMod, pI, lt_at, rs]
  have r11 : iFn pR3 (aCons (eC (.int 2)) (aCons (eVar 2) (aCons (eC (.int 3)) aNil))) (τq c s 22 st xs h' t' ((List.range 22).map B) (lt m4) z7) = .ok ([2, 5, 8, 11, 14, 17, 20].map fun k : Nat => PV.int (k : Nat)) := by
    rfl
  let C : LE → Fl := sIf (tst (e2 pGt (e2 pMod (e2 pDiv (eCall pInt (aCons (e2 pIx (eVar 4) (eC (.int 4))) aNil)) (eC (.int 26))) (eC (.int 3))) (eC (.int 0)))) (sFor (iFn pR3 (aCons (eC (.int 2)) (aCons (eVar 2) (aCons (eC (.int 3)) aNil)))) (gNm 7) bodyM) sNil
  have s11 : ∃ (f : Nat → List (Fin 26)) (y : Option PV), C (τq c s 22 st xs h' t' ((List.range 22).map B) (lt m4) z7) = .nx (τq c s 22 st xs h' t' ((List.range 22).map f) (lt m4) y) ∧ (∀ i j, i < 22 → j < 22 → f i = f j → i = j) ∧ ∀ i, 1 ≤ (f i).length ∧ (f i).length ≤ 8 := by
    by_cases hb : 0 < m4 / 26 % 3
    · refine ⟨nmF B (lt m4), w7, ?_, fun i j hi hj e => nmF_inj hBL hBi hi hj e, fun i => ?_⟩
      · have ht : tst (e2 pGt (e2 pMod (e2 pDiv (eCall pInt (aCons (e2 pIx (eVar 4) (eC (.int 4))) aNil)) (eC (.int 26))) (eC (.int 3))) (eC (.int 0))) (τq c s 22 st xs h' t' ((List.range 22).map B) (lt m4) z7) = .ok true := by
          simp [tst, eCall, e2, eVar, eC, aCons, aNil, hm4, pInt, pMod, pI, pDiv, CDiv, pGt, pB, hb]
        unfold C sIf
        rw [ht]
        exact (for_of r11).trans em
      · unfold nmF
        split
        · rw [hBL]; omega
        · split
          · rw [List.length_append, hBL]; simp; omega
          · rw [List.length_append, List.length_append, hBL]; simp; omega
    · refine ⟨B, z7, ?_, hBi, fun i => by rw [hBL]; omega⟩
      have ht : tst (e2 pGt (e2 pMod (e2 pDiv (eCall pInt (aCons (e2 pIx (eVar 4) (eC (.int 4))) aNil)) (eC (.int 26))) (eC (.int 3))) (eC (.int 0))) (τq c s 22 st xs h' t' ((List.range 22).map B) (lt m4) z7) = .ok false := by
        simp [tst, eCall, e2, eVar, eC, aCons, aNil, hm4, pInt, pMod, pI, pDiv, CDiv, pGt, pB, hb]
      unfold C sIf
      rw [ht]
      rfl
  obtain ⟨f, y, e11, hf, hfl⟩ := s11
  refine ⟨(List.range 22).map f, ?_, by simp, hnd f hf, fun l hl => by obtain ⟨i, _, rfl⟩ := List.mem_map.mp hl; exact hfl i⟩
  have eb : b__law_names [some (.int c), some (.int s), some (.int 22), none, none, none, none, none, none, none, none] = .rt (nmP ((List.range 22).map f)) := by
    unfold b__law_names
    refine (seq_nx (τ' := [some (.int c), some (.int s), some (.int 22), some ltrs, none, none, none, none, none, none, none]) rfl).trans ?_
    refine (seq_nx s4).trans ?_
    refine (seq_nx s5).trans ?_
    refine (seq_nx (τ' := τn c s 22 st xs [] none none none none) rfl).trans ?_
    refine (seq_nx ((for_of r6).trans eh)).trans ?_
    refine (seq_nx (τ' := τm c s 22 st xs h' [] y7 none none) rfl).trans ?_
    refine (seq_nx ((for_of r8).trans et)).trans ?_
    refine (seq_nx s9).trans ?_
    refine (seq_nx s10).trans ?_
    refine (seq_nx e11).trans ?_
    rfl
  unfold m__law_names
  rw [eb]
  rfl
end K30
end
section
set_option Elab.async false
set_option linter.all false
set_option maxRecDepth 100000
namespace K30
open PySem PySem.Spec L2 Lp
abbrev rwP (rows : List (List PV)) : PV := .lst (rows.map .tup)
theorem row_at {rows : List (List PV)} {k : Nat} (h : k < rows.length) : pIx (rwP rows) (.int (k : Nat)) = some (.tup rows[k]) := by
  show atI (rows.map PV.tup) _ = _
  unfold atI ixN
  rw [if_pos (by omega), if_pos (by rw [List.length_map]; omega)]
  show (rows.map PV.tup)[k]? = _
  rw [List.getElem?_map, List.getElem?_eq_getElem h]
  rfl
theorem lst_at {ps : List PV} {k : Nat} (h : k < ps.length) : pIx (.lst ps) (.int (k : Nat)) = some ps[k] := by
  show atI ps _ = _
  unfold atI ixN
  rw [if_pos (by omega), if_pos (by omega)]
  exact List.getElem?_eq_getElem h
abbrev τs (marks names : List PV) (count h : Int) (rows : List (List PV)) (k : Nat) (x6 x7 : Option PV) : LE := [some (.lst marks), some (.lst names), some (.int count), some (.int h), some (rwP rows), some (.int (k : Nat)), x6, x7]
theorem compF (marks names : List PV) (count h : Int) (rows : List (List PV)) (k : Nat) (x6 : Option PV) (hr : ∀ r ∈ rows, r.length ≤ 1000) : ∀ ks : List Nat, (∀ i ∈ ks, i < rows.length) →
    compL (gNm 7) (tst (e2 pLt (eCall pLen (aCons (e2 pIx (eVar 4) (eVar 7)) aNil)) (eVar 3))) (eVar 7) (τs marks names count h rows k x6 none) (ks.map fun i => .int (i : Nat)) = .ok ((ks.filter fun i => decide (((rows.getD i []).length : Int) < h)).map fun i => .int (i : Nat))
  | [], _ => rfl
  | i :: ks, hi => by
    have h0 := hi i List.mem_cons_self
    have hd : rows.getD i [] = rows[i] := by rw [List.getD_eq_getElem?_getD, List.getElem?_eq_getElem h0]; rfl
    have ih := compF marks names count h rows k x6 hr ks (fun j hj => hi j (List.mem_cons_of_mem _ hj))
    have hl : rows[i].length ≤ sizeLine := by rw [sizeLine_eq]; have := hr _ (List.getElem_mem h0); omega
    have ht : tst (e2 pLt (eCall pLen (aCons (e2 pIx (eVar 4) (eVar 7)) aNil)) (eVar 3)) (τs marks names count h rows k x6 (some (.int (i : Nat)))) = .ok (decide ((rows[i].length : Int) < h)) := by
      have := row_at h0
      simp [tst, eCall, e2, eVar, aCons, aNil, this, pLen, pLt, pB]
    rw [List.map_cons, compL]
    have g : gNm 7 (.int (i : Nat)) (τs marks names count h rows k x6 none) = .ok (τs marks names count h rows k x6 (some (.int (i : Nat)))) := rfl
    have ev : eVar 7 (τs marks names count h rows k x6 (some (.int (i : Nat)))) = .ok (.int (i : Nat)) := rfl
    rw [g]
    simp only [Res.nx_ok, Res.ok_bind, ht]
    by_cases hb : (rows[i].length : Int) < h
    · rw [List.filter_cons_of_pos (by rw [hd]; exact decide_eq_true hb), ih]
      simp [hb, ev]
    · rw [List.filter_cons_of_neg (by rw [hd]; simpa using hb), ih]
      simp [hb]
/-- the sum of lengths bounds: some row is not full -/
theorem not_full {h : Nat} : ∀ rows : List (List PV), (∀ r ∈ rows, r.length ≤ h) → rows.flatten.length < rows.length * h → ∃ i, ∃ hi : i < rows.length, rows[i].length < h
  | [], _, hl => by simp at hl
  | r :: rows, hr, hl => by
    by_cases hb : r.length < h
    · exact ⟨0, by simp, hb⟩
    · have e : r.length = h := Nat.le_antisymm (hr r List.mem_cons_self) (by omega)
      simp only [List.flatten_cons, List.length_append, List.length_cons, Nat.succ_mul] at hl
      obtain ⟨i, hi, g⟩ := not_full rows (fun r hr' => hr r (List.mem_cons_of_mem _ hr')) (by omega)
      exact ⟨i + 1, by simp; omega, by simpa using g⟩
theorem perm_set : ∀ (rows : List (List PV)) (i : Nat) (x : PV) (hi : i < rows.length), (rows.set i (rows[i] ++ [x])).flatten.Perm (rows.flatten ++ [x])
  | r :: rows, 0, x, _ => by
    simp only [List.set_cons_zero, List.getElem_cons_zero, List.flatten_cons, List.append_assoc]
    exact List.Perm.append_left r List.perm_append_comm
  | r :: rows, i + 1, x, hi => by
    simp only [List.set_cons_succ, List.getElem_cons_succ, List.flatten_cons, List.append_assoc]
    exact List.Perm.append_left r (perm_set rows i x (by simpa using hi))
def bodyS : LE → Fl := (sSeq (sSet 6 (eComp [7] (iFn pR1 (aCons (eVar 2) aNil)) (gNm 7) (tst (e2 pLt (eCall pLen (aCons (e2 pIx (eVar 4) (eVar 7)) aNil)) (eVar 3))) (eVar 7)))
    (sSeq (sSet 7 (e2 pIx (eVar 6) (e2 pMod (eCall pInt (aCons (e2 pIx (eVar 0) (eVar 5)) aNil)) (eCall pLen (aCons (eVar 6) aNil)))))
    (sSetI 4 (eVar 7) (e2 pAddA (e2 pIx (eVar 4) (eVar 7)) (eTup (aCons (e2 pIx (eVar 1) (eVar 5)) aNil))))))
theorem pR1_nat (n : Nat) (h : n ≤ 1000) : pR1 [.int (n : Nat)] = some ((List.range n).map fun i => .int (i : Nat)) := by
  show (if -(2 ^ 62) ≤ (n : Int) ∧ (n : Int) ≤ 1000000 then some (rngP 0 (n : Int).toNat) else none) = _
  rw [if_pos (by omega)]
  simp [rngP]
theorem stepS (marks names : List PV) {b : Int} (hx : ∀ x ∈ marks, isI 0 b x) (count h : Nat) (hc : count ≤ 1000) (hh : h ≤ 100) (rows : List (List PV)) (k : Nat) (x6 x7 : Option PV) (hk : k < marks.length) (hk2 : k < names.length) (hrc : rows.length = count) (hr : ∀ r ∈ rows, r.length ≤ h) (hf : rows.flatten.length < count * h) :
    ∃ rows' y6 y7, bodyS (τs marks names count h rows k x6 x7) = .nx (τs marks names count h rows' k y6 y7) ∧ rows'.length = count ∧ (∀ r ∈ rows', r.length ≤ h) ∧ rows'.flatten.Perm (rows.flatten ++ [names[k]]) := by
  let fr := (List.range count).filter fun i => decide (((rows.getD i []).length : Int) < (h : Int))
  have hfr : ∀ i ∈ fr, ∃ hi : i < rows.length, rows[i].length < h := fun i hi => by
    obtain ⟨h1, h2⟩ := List.mem_filter.mp hi
    have h3 : i < rows.length := by rw [hrc]; exact List.mem_range.mp h1
    have hd : rows.getD i [] = rows[i] := by rw [List.getD_eq_getElem?_getD, List.getElem?_eq_getElem h3]; rfl
    rw [hd] at h2
    exact ⟨h3, by have := of_decide_eq_true h2; omega⟩
  have hne : 0 < fr.length := by
    obtain ⟨i, hi, g⟩ := not_full rows hr (by rw [hrc]; exact hf)
    have hd : rows.getD i [] = rows[i] := by rw [List.getD_eq_getElem?_getD, List.getElem?_eq_getElem hi]; rfl
    have hmem : i ∈ fr := List.mem_filter.mpr ⟨List.mem_range.mpr (by omega), by rw [hd]; exact decide_eq_true (by omega)⟩
    exact List.length_pos_of_mem hmem
  have hfl : fr.length ≤ 1000 := Nat.le_trans (List.length_filter_le ..) (by rw [List.length_range]; exact hc)
  obtain ⟨m, hm, m0, m1⟩ := mark_at hx (j := (k : Nat)) (by omega) (by omega)
  have j0 : 0 ≤ m % (fr.length : Nat) := Int.emod_nonneg _ (by omega)
  have j1 : m % (fr.length : Nat) < (fr.length : Nat) := Int.emod_lt_of_pos _ (by omega)
  let j := (m % (fr.length : Nat)).toNat
  have hj : j < fr.length := by show (m % (fr.length : Nat)).toNat < _; omega
  obtain ⟨hi, hg⟩ := hfr fr[j] (List.getElem_mem hj)
  refine ⟨rows.set fr[j] (rows[fr[j]] ++ [names[k]]), some (.lst (fr.map fun i => .int (i : Nat))), some (.int (fr[j] : Nat)), ?_, by rw [List.length_set, hrc], fun r hr' => ?_, perm_set rows fr[j] names[k] hi⟩
  · have s1 : sSet 6 (eComp [7] (iFn pR1 (aCons (eVar 2) aNil)) (gNm 7) (tst (e2 pLt (eCall pLen (aCons (e2 pIx (eVar 4) (eVar 7)) aNil)) (eVar 3))) (eVar 7)) (τs marks names count h rows k x6 x7) = .nx (τs marks names count h rows k (some (.lst (fr.map fun i => .int (i : Nat)))) x7) := by
      have hi : iFn pR1 (aCons (eVar 2) aNil) (τs marks names count h rows k x6 x7) = .ok ((List.range count).map fun i => .int (i : Nat)) := by
        show up (pR1 [.int (count : Nat)]) = _
        rw [pR1_nat count hc]; rfl
      have hw : wipeL (τs marks names count h rows k x6 x7) [7] = τs marks names count h rows k x6 none := rfl
      unfold sSet eComp
      rw [hi, Res.ok_bind, hw, compF marks names count h rows k x6 (fun r hr' => by have := hr r hr'; omega) (List.range count) (fun i hi' => by rw [hrc]; exact List.mem_range.mp hi')]
      rfl
    have s2 : sSet 7 (e2 pIx (eVar 6) (e2 pMod (eCall pInt (aCons (e2 pIx (eVar 0) (eVar 5)) aNil)) (eCall pLen (aCons (eVar 6) aNil)))) (τs marks names count h rows k (some (.lst (fr.map fun i => .int (i : Nat)))) x7) = .nx (τs marks names count h rows k (some (.lst (fr.map fun i => .int (i : Nat)))) (some (.int (fr[j] : Nat)))) := by
      have hz : ((fr.length : Nat) : Int) ≠ 0 := by omega
      have hs : fr.length ≤ sizeLine := by rw [sizeLine_eq]; omega
      have hat := lst_at (ps := fr.map fun i => PV.int (i : Nat)) (k := j) (by rw [List.length_map]; exact hj)
      have hje : ((j : Nat) : Int) = m % (fr.length : Nat) := by show (((m % (fr.length : Nat)).toNat : Nat) : Int) = _; omega
      rw [hje] at hat
      rw [List.getElem_map] at hat
      have hp0 : (0 : Int) < (fr.length : Nat) := by omega
      have hlen : pLen [.lst (fr.map fun i => PV.int (i : Nat))] = some (.int (fr.length : Nat)) := by
        show some (PV.int ((fr.map fun i => PV.int (i : Nat)).length : Nat)) = _
        rw [List.length_map]
      have hmod : pMod (.int m) (.int (fr.length : Nat)) = some (.int (m % (fr.length : Nat))) := by
        show (if _ then _ else _) = _
        rw [if_pos hp0]
      have hst : ∀ (P : List PV) (N q : Int), pLen [.lst P] = some (.int N) → pMod (.int m) (.int N) = some (.int (m % N)) → pIx (.lst P) (.int (m % N)) = some (.int q) → sSet 7 (e2 pIx (eVar 6) (e2 pMod (eCall pInt (aCons (e2 pIx (eVar 0) (eVar 5)) aNil)) (eCall pLen (aCons (eVar 6) aNil)))) (τs marks names count h rows k (some (.lst P)) x7) = .nx (τs marks names count h rows k (some (.lst P)) (some (.int q))) := fun P N q h1 h2 h3 => by
        simp [sSet, eCall, e2, eVar, aCons, aNil, hm, h1, h2, h3, pInt, rs, -pI]
      exact hst _ _ _ hlen hmod hat
    have s3 : sSetI 4 (eVar 7) (e2 pAddA (e2 pIx (eVar 4) (eVar 7)) (eTup (aCons (e2 pIx (eVar 1) (eVar 5)) aNil))) (τs marks names count h rows k (some (.lst (fr.map fun i => .int (i : Nat)))) (some (.int (fr[j] : Nat)))) = .nx (τs marks names count h (rows.set fr[j] (rows[fr[j]] ++ [names[k]])) k (some (.lst (fr.map fun i => .int (i : Nat)))) (some (.int (fr[j] : Nat)))) := by
      have hadd : pAddA (.tup rows[fr[j]]) (.tup [names[k]]) = some (.tup (rows[fr[j]] ++ [names[k]])) := by
        have : rows[fr[j]].length + [names[k]].length ≤ sizeLine := by rw [sizeLine_eq]; simp; omega
        simp only [pAddA, orP, pAdd, if_pos this]
      have hrow := row_at hi
      have hnk := lst_at (ps := names) hk2
      have hst : ∀ (I : Nat) (R N : PV) (T : List PV), I < rows.length → pIx (rwP rows) (.int (I : Nat)) = some R → pIx (.lst names) (.int (k : Nat)) = some N → pAddA R (.tup [N]) = some (.tup T) → ∀ y6, sSetI 4 (eVar 7) (e2 pAddA (e2 pIx (eVar 4) (eVar 7)) (eTup (aCons (e2 pIx (eVar 1) (eVar 5)) aNil))) (τs marks names count h rows k y6 (some (.int (I : Nat)))) = .nx (τs marks names count h (rows.set I T) k y6 (some (.int (I : Nat)))) := fun I R N T hI h1 h2 h3 y6 => by
        have hx : ixN rows.length ((I : Nat) : Int) = some I := by
          unfold ixN
          rw [if_pos (by omega), if_pos (by omega)]
          rfl
        simp [sSetI, e2, eVar, eTup, aCons, aNil, h1, h2, h3, rs, onLst, hx]
      exact hst _ _ _ _ hi hrow hnk hadd _
    exact (seq_nx s1).trans ((seq_nx s2).trans s3)
  · rcases List.mem_or_eq_of_mem_set hr' with hr' | rfl
    · exact hr r hr'
    · simp; omega
theorem loopS (marks names : List PV) {b : Int} (hx : ∀ x ∈ marks, isI 0 b x) (count h : Nat) (hc : count ≤ 1000) (hh : h ≤ 100) (hn : names.length ≤ count * h) (hm : names.length ≤ marks.length) : ∀ (n k : Nat) (rows : List (List PV)) (x5 x6 x7 : Option PV), k + n = names.length → rows.length = count → (∀ r ∈ rows, r.length ≤ h) → rows.flatten.Perm (names.take k) →
    ∃ rows' y5 y6 y7, forL (gNm 5) bodyS ((List.range' k n).map fun i => .int (i : Nat)) [some (.lst marks), some (.lst names), some (.int count), some (.int h), some (rwP rows), x5, x6, x7] = .nx [some (.lst marks), some (.lst names), some (.int count), some (.int h), some (rwP rows'), y5, y6, y7] ∧ rows'.length = count ∧ (∀ r ∈ rows', r.length ≤ h) ∧ rows'.flatten.Perm names
  | 0, k, rows, x5, x6, x7, hk, h1, h2, h3 => ⟨rows, x5, x6, x7, rfl, h1, h2, by rw [List.take_of_length_le (by omega)] at h3; exact h3⟩
  | n + 1, k, rows, x5, x6, x7, hk, h1, h2, h3 => by
    have hl : rows.flatten.length = k := by rw [h3.length_eq, List.length_take]; omega
    obtain ⟨rows', y6, y7, e, g1, g2, g3⟩ := stepS marks names hx count h hc hh rows k x6 x7 (by omega) (by omega) h1 h2 (by omega)
    have g4 : rows'.flatten.Perm (names.take (k + 1)) := by
      refine g3.trans ?_
      rw [List.take_add_one, List.getElem?_eq_getElem (by omega)]
      exact List.Perm.append_right _ h3
    obtain ⟨r2, z5, z6, z7, e2, q1, q2, q3⟩ := loopS marks names hx count h hc hh hn hm n (k + 1) rows' (some (.int (k : Nat))) y6 y7 (by omega) g1 g2 g4
    refine ⟨r2, z5, z6, z7, ?_, q1, q2, q3⟩
    rw [List.range'_succ, List.map_cons, forL]
    have g : gNm 5 (.int (k : Nat)) [some (.lst marks), some (.lst names), some (.int count), some (.int h), some (rwP rows), x5, x6, x7] = .ok (τs marks names count h rows k x6 x7) := rfl
    rw [g]
    simp only [Res.nx_ok, rs_ok, e]
    exact e2
theorem compE (a0 a1 a2 a3 : PV) (x4 x6 x7 : Option PV) : ∀ (ks : List Nat), compL (gNm 5) tYesM (eTup aNil) [some a0, some a1, some a2, some a3, x4, none, x6, x7] (ks.map fun i => .int (i : Nat)) = .ok (List.replicate ks.length (.tup []))
  | [] => rfl
  | k :: ks => by
    rw [List.map_cons, compL]
    have g : gNm 5 (.int (k : Nat)) [some a0, some a1, some a2, some a3, x4, none, x6, x7] = .ok [some a0, some a1, some a2, some a3, x4, some (.int (k : Nat)), x6, x7] := rfl
    have e : eTup aNil [some a0, some a1, some a2, some a3, x4, some (.int (k : Nat)), x6, x7] = .ok (.tup []) := rfl
    rw [g]
    simp only [Res.nx_ok, Res.ok_bind, tYesM, if_true, e, compE a0 a1 a2 a3 x4 x6 x7 ks]
    rfl
theorem stk4 (marks names : List PV) (count h : Nat) (hc : count ≤ 100) : sSet 4 (eComp [5] (iFn pR1 (aCons (eVar 2) aNil)) (gNm 5) tYesM (eTup aNil)) [some (.lst marks), some (.lst names), some (.int count), some (.int h), none, none, none, none] = .nx [some (.lst marks), some (.lst names), some (.int count), some (.int h), some (rwP (List.replicate count [])), none, none, none] := by
  have hr := pR1_le count (by omega)
  have := comp_map (own := [5]) (it := iFn pR1 (aCons (eVar 2) aNil)) (tgt := gNm 5) (cond := tYesM) (elt := eTup aNil) (τ := [some (.lst marks), some (.lst names), some (.int count), some (.int h), none, none, none, none]) (List.range count) (fun i => .int (i : Nat)) (fun _ => .tup []) (by simp [hr]) (fun x _ => by simp [cItem, wipeL])
  simp [this, rwP]
  rw [List.map_const', List.length_range]
theorem stk5 (marks names : List PV) (count h : Nat) (rows : PV) (hc : count ≤ 100) (hh : h ≤ 100) (hn : names.length ≤ count * h) (hn2 : names.length ≤ 1000) : iFn pR1 (aCons (eCall pMin (aCons (eCall pLen (aCons (eVar 1) aNil)) (aCons (e2 pMul (eVar 2) (eVar 3)) aNil))) aNil) [some (.lst marks), some (.lst names), some (.int count), some (.int h), some rows, none, none, none] = .ok ((List.range' 0 names.length).map fun i => .int (i : Nat)) := by
  have hmul : CMul (count : Int) (h : Int) := .inl ⟨by omega, by omega⟩
  have : ((names.length : Nat) : Int) ≤ (count : Int) * h := by exact_mod_cast hn
  have hr := pR1_le names.length (by omega)
  rw [List.range_eq_range'] at hr
  simp only [iFn_s, aCons_s, eCall_s, e2_s, eVar_s, aNil_s, List.getElem?_cons_succ, List.getElem?_cons_zero, Res.ok_bind, pLen_lst, up_some, pMul_int hmul, pMin_int, Int.min_eq_left this, hr]
theorem stacks_ok (marks names : List PV) {b : Int} (hx : ∀ x ∈ marks, isI 0 b x) (count h : Nat) (hc : count ≤ 100) (hh : h ≤ 100) (hn : names.length ≤ count * h) (hm : names.length ≤ marks.length) (hn2 : names.length ≤ 1000) :
    ∃ rows : List (List PV), m__law_stacks (.lst marks) (.lst names) (.int count) (.int h) = .ok (.tup (rows.map .tup)) ∧ rows.length = count ∧ (∀ r ∈ rows, r.length ≤ h) ∧ rows.flatten.Perm names := by
  have hs : min (names.length : Int) ((count : Int) * h) = (names.length : Nat) := by
    have : ((names.length : Nat) : Int) ≤ (count : Int) * h := by exact_mod_cast hn
    omega
  obtain ⟨rows', y5, y6, y7, e, q1, q2, q3⟩ := loopS marks names hx count h (by omega) hh hn hm names.length 0 (List.replicate count []) none none none (by omega) (by simp) (fun r hr => by rw [(List.mem_replicate.mp hr).2]; simp) (by simp)
  refine ⟨rows', ?_, q1, q2, q3⟩
  have s4 := stk4 marks names count h hc
  have r5 := stk5 marks names count h (rwP (List.replicate count [])) hc hh hn hn2
  have eb : b__law_stacks [some (.lst marks), some (.lst names), some (.int count), some (.int h), none, none, none, none] = .rt (.tup (rows'.map .tup)) := by
    unfold b__law_stacks
    refine (seq_nx s4).trans ?_
    refine (seq_nx ((for_of r5).trans e)).trans ?_
    rfl
  unfold m__law_stacks
  rw [eb]
  rfl

end K30
end
section
set_option Elab.async false
set_option linter.all false
set_option maxRecDepth 100000
namespace K30
open PySem PySem.Spec L2 Lp
/-! events -/
abbrev Nm := List (Fin 26)
def nm (l : Nm) : PV := .str (tx l)
theorem nm_inj {a b : Nm} (h : nm a = nm b) : a = b := tx_inj (by unfold nm at h; injection h)
theorem eqP_nm (a b : Nm) : eqP (nm a) (nm b) = decide (a = b) := by
  show (tx a == tx b) = _
  by_cases h : a = b
  · subst h; simp
  · have : tx a ≠ tx b := fun e => h (tx_inj e)
    rw [decide_eq_false h]
    exact beq_eq_false_iff_ne.mpr this
def evV (e : Bool × Nm) : PV := .tup [.str (if e.1 = true then ("in" : Str) else ("out" : Str)), nm e.2]
def stepE (h : List Nm) (e : Bool × Nm) : Option (List Nm) := if e.1 = true then (if e.2 ∈ h then none else some (h ++ [e.2])) else (if e.2 ∈ h then some (h.erase e.2) else none)
def runE (h : List Nm) (es : List (Bool × Nm)) : Option (List Nm) := es.foldlM stepE h
theorem runE_snoc {h h1 h2 : List Nm} {es : List (Bool × Nm)} {e : Bool × Nm} (h0 : runE h es = some h1) (hs : stepE h1 e = some h2) : runE h (es ++ [e]) = some h2 := by
  unfold runE at *
  rw [List.foldlM_append, h0]
  simp [hs]
theorem firstP_nm (x : Nm) : ∀ l : List Nm, x ∈ l → ∃ j, firstP (nm x) (l.map nm) = some j ∧ (l.map nm).eraseIdx j = (l.erase x).map nm
  | y :: l, h => by
    unfold firstP
    rw [List.map_cons, List.findIdx?_cons, eqP_nm]
    by_cases e : y = x
    · subst e
      refine ⟨0, by simp, ?_⟩
      simp
    · have hx : x ∈ l := by
        rcases List.mem_cons.mp h with h | h
        · exact absurd h.symm e
        · exact h
      obtain ⟨j, h1, h2⟩ := firstP_nm x l hx
      unfold firstP at h1
      refine ⟨j + 1, by simp [e, h1], ?_⟩
      rw [List.eraseIdx_cons_succ, h2, List.erase_cons_tail (by simpa using e)]
      rfl
theorem gRem_nm {x : Nm} {l : List Nm} (h : x ∈ l) : gRem (l.map nm) [nm x] = some ((l.erase x).map nm, .non) := by
  obtain ⟨j, h1, h2⟩ := firstP_nm x l h
  have hf : ((nm x).flat && (l.map nm).all PV.flat) = true := by
    simp [List.all_map, nm, PV.flat, Function.comp_def]
  show (if _ then _ else _) = _
  rw [if_pos hf, h1, Option.map_some, h2]
theorem gPopAt_ok {l : List PV} {k : Nat} (h : k < l.length) (hl : l.length ≤ 1000) : gPopAt l [.int (k : Nat)] = some (l.eraseIdx k, l[k]) := by
  have : ixN l.length ((k : Nat) : Int) = some k := by
    unfold ixN
    rw [if_pos (by omega), if_pos (by omega)]
    rfl
  unfold gPopAt
  dsimp only
  rw [if_pos (by omega), this, Option.bind_some, List.getElem?_eq_getElem h]
  rfl
theorem nm_eraseIdx : ∀ (l : List Nm) (k : Nat), (l.map nm).eraseIdx k = (l.eraseIdx k).map nm
  | [], _ => rfl
  | _ :: _, 0 => rfl
  | x :: l, k + 1 => by rw [List.map_cons, List.eraseIdx_cons_succ, nm_eraseIdx l k]; rfl
theorem mod_nat {m : Int} {n : Nat} (hn : 0 < n) : ∃ k : Nat, m % (n : Int) = (k : Nat) ∧ k < n := by
  have h0 : 0 ≤ m % (n : Int) := Int.emod_nonneg _ (by omega)
  have h1 : m % (n : Int) < n := Int.emod_lt_of_pos _ (by omega)
  exact ⟨(m % (n : Int)).toNat, by omega, by omega⟩
abbrev τe (a0 a1 a2 : PV) (c : Int) (here new gone : List Nm) (es : List (Bool × Nm)) (x8 x9 : Option PV) : LE := [some a0, some a1, some a2, some (.int c), some (.lst (here.map nm)), some (.lst (new.map nm)), some (.lst (gone.map nm)), some (.lst (es.map evV)), x8, x9]
/-- what stands, what is new, what went -/
structure EvI (here0 all : List Nm) (here new gone : List Nm) (es : List (Bool × Nm)) (n : Nat) : Prop where
  perm : (here ++ (new ++ gone)).Perm all
  run : runE here0 es = some here
  len : es.length ≤ n
  mem : ∀ e ∈ es, e.2 ∈ all
theorem evI_in {here0 all here new gone new' gone' : List Nm} {es n x} (I : EvI here0 all here new gone es n) (hall : all.Nodup) (hp : (x :: (new' ++ gone')).Perm (new ++ gone)) : EvI here0 all (here ++ [x]) new' gone' (es ++ [(true, x)]) (n + 1) := by
  have hp2 : (here ++ [x] ++ (new' ++ gone')).Perm all := by
    refine List.Perm.trans ?_ I.perm
    rw [List.append_assoc]
    exact List.Perm.append_left here hp
  have hnd := hp2.nodup_iff.mpr hall
  have hx : x ∉ here := by
    rw [List.append_assoc, List.nodup_append] at hnd
    intro h
    exact hnd.2.2 x h x (by simp) rfl
  refine ⟨hp2, runE_snoc I.run (by simp [stepE, hx]), by simpa using I.len, fun e he => ?_⟩
  rcases List.mem_append.mp he with he | he
  · exact I.mem e he
  · rw [List.mem_singleton.mp he]
    exact hp2.subset (by simp)
theorem evI_out {here0 all here new gone : List Nm} {es n x} (I : EvI here0 all here new gone es n) (hx : x ∈ here) : EvI here0 all (here.erase x) new (gone ++ [x]) (es ++ [(false, x)]) (n + 1) := by
  refine ⟨?_, runE_snoc I.run (by simp [stepE, hx]), by simpa using I.len, fun e he => ?_⟩
  · refine List.Perm.trans ?_ I.perm
    have h1 : here.Perm (x :: here.erase x) := List.perm_cons_erase hx
    refine List.Perm.trans ?_ (List.Perm.append_right _ h1.symm)
    have h2 := List.perm_append_singleton x (here.erase x ++ (new ++ gone))
    rw [List.append_assoc, List.append_assoc] at h2
    exact h2
  · rcases List.mem_append.mp he with he | he
    · exact I.mem e he
    · rw [List.mem_singleton.mp he]
      exact I.perm.subset (List.mem_append_left _ hx)
theorem perm_eraseIdx {α : Type} : ∀ (l : List α) (k : Nat) (h : k < l.length), (l[k] :: l.eraseIdx k).Perm l
  | x :: l, 0, _ => List.Perm.refl _
  | x :: l, k + 1, h => by
    rw [List.getElem_cons_succ, List.eraseIdx_cons_succ]
    exact (List.Perm.swap x _ _).trans ((perm_eraseIdx l k (by simpa using h)).cons x)
theorem stepEv (a0 a1 a2 : PV) (c m : Int) (hm : 0 ≤ m) {here0 all here new gone : List Nm} {es : List (Bool × Nm)} {n : Nat} (x9 : Option PV) (I : EvI here0 all here new gone es n) (hall : all.Nodup) (hl : all.length ≤ 1000) (hn : n < 1000) :
    ∃ c' here' new' gone' es' y9, lb__law_events_0 (τe a0 a1 a2 c here new gone es (some (.int m)) x9) = .nx (τe a0 a1 a2 c' here' new' gone' es' (some (.int m)) y9) ∧ EvI here0 all here' new' gone' es' (n + 1) := by
  have hlen : here.length + (new.length + gone.length) = all.length := by
    have := I.perm.length_eq
    simpa using this
  have hes := I.len
  have d5 : CDiv m 5 := ⟨by decide, by decide⟩
  have d15 : CDiv m 15 := ⟨by decide, by decide⟩
  have e5 := pDiv_int d5
  have e15 := pDiv_int d15
  have m5 := pMod_int (i := m) (j := 5) (by decide)
  have m3 := pMod_int (i := m / 5) (j := 3) (by decide)
  have cast : ∀ k : Nat, ((0 : Int) < (k : Nat)) = (0 < k) := fun k => by simp
  by_cases C : (m % 5 < 2 ∨ here = []) ∧ 0 < c ∧ (0 : Int) < (new.length : Int) + gone.length
  · have C1 := C.1
    have C2 := C.2.1
    have C3 := C.2.2
    by_cases D : 0 < gone.length ∧ (new = [] ∨ m / 5 % 3 = 0)
    · have D1 := D.1
      have D2 := D.2
      obtain ⟨k, hk, hk2⟩ := mod_nat (m := m / 15) D.1
      have mg := pMod_int (i := m / 15) (j := (gone.length : Nat)) (by omega)
      have hp := gPopAt_ok (l := gone.map nm) (k := k) (by simpa using hk2) (by simp; omega)
      rw [hk] at mg
      have g1 := gApp_s (ps := here.map nm) (q := nm gone[k]) (by simp; omega)
      have g2 := gApp_s (ps := es.map evV) (q := evV (true, gone[k])) (by simp; omega)
      rw [nm_eraseIdx, List.getElem_map] at hp
      refine ⟨c - 1, here ++ [gone[k]], new, gone.eraseIdx k, es ++ [(true, gone[k])], some (nm gone[k]), ?_, evI_in I hall ?_⟩
      · simp [evV] at g2
        simp [lb__law_events_0, m5, m3, e5, e15, C1, C2, C3, D1, D2, mg, hp, g1, g2, evV]
      · refine List.perm_middle.symm.trans (List.Perm.append_left new ?_)
        exact perm_eraseIdx gone k hk2
    · have hnew : 0 < new.length := by
        by_cases h : new = []
        · exact absurd ⟨by have := congrArg List.length h; simp only [List.length_nil] at this; omega, .inl h⟩ D
        · exact List.length_pos_iff.mpr h
      obtain ⟨x, new', rfl⟩ : ∃ x l, new = x :: l := by
        cases new with
        | nil => simp at hnew
        | cons x l => exact ⟨x, l, rfl⟩
      have hp := gPopAt_ok (l := (x :: new').map nm) (k := 0) (by simp) (by simp at hlen ⊢; omega)
      have g1 := gApp_s (ps := here.map nm) (q := nm x) (by simp; omega)
      have g2 := gApp_s (ps := es.map evV) (q := evV (true, x)) (by simp; omega)
      refine ⟨c - 1, here ++ [x], new', gone, es ++ [(true, x)], some (nm x), ?_, evI_in I hall (List.Perm.refl _)⟩
      simp [evV] at g2 hp
      have C4 : (0 : Int) < (new'.length : Int) + 1 + gone.length := by omega
      have C5 : ¬ ((new'.length : Int) + 1 = 0) := by omega
      by_cases hg : 0 < gone.length
      · have D2 : ¬ m / 5 % 3 = 0 := fun h => D ⟨hg, .inr h⟩
        simp [lb__law_events_0, m5, m3, e5, e15, C1, C2, C4, C5, D2, hp, g1, g2, evV]
      · simp [lb__law_events_0, m5, m3, e5, e15, C1, C2, C4, C5, hg, hp, g1, g2, evV]
  · by_cases H : 0 < here.length
    · have fin : ∀ k, ∀ hk : k < here.length, m / 5 % 3 = 0 ∧ k = 0 ∨ 0 < m / 5 % 3 ∧ m / 15 % (here.length : Nat) = (k : Nat) → lb__law_events_0 (τe a0 a1 a2 c here new gone es (some (.int m)) x9) = .nx (τe a0 a1 a2 c (here.erase here[k]) new (gone ++ [here[k]]) (es ++ [(false, here[k])]) (some (.int m)) (some (nm here[k]))) := fun k hk hm3 => by
        have mg := pMod_int (i := m / 15) (j := (here.length : Nat)) (by omega)
        have g1 := gApp_s (ps := gone.map nm) (q := nm here[k]) (by simp; omega)
        have g2 := gApp_s (ps := es.map evV) (q := evV (false, here[k])) (by simp; omega)
        have g3 := gRem_nm (x := here[k]) (l := here) (List.getElem_mem hk)
        have a0 : atI (here.map nm) 0 = some (nm here[0]) := by
          have := atN (here.map nm) 0
          simp [H] at this
          exact this
        have ak : atI (here.map nm) ((k : Nat) : Int) = some (nm here[k]) := by
          rw [atN]
          simp [hk]
        simp [evV] at g2
        have key : ∀ (C' : ¬ ((m % 5 < 2 ∨ here = []) ∧ 0 < c ∧ (0 : Int) < (new.length : Int) + gone.length)), True := fun _ => trivial
        rcases hm3 with ⟨h1, rfl⟩ | ⟨h1, h2⟩
        · simp [lb__law_events_0, m5, m3, e5, e15, C, H, h1, a0, g1, g2, g3, evV]
        · rw [h2] at mg
          simp [lb__law_events_0, m5, m3, e5, e15, C, H, h1, h2, mg, a0, ak, g1, g2, g3, evV]
      by_cases h : m / 5 % 3 = 0
      · exact ⟨c, _, new, _, _, _, fin 0 H (.inl ⟨h, rfl⟩), evI_out I (List.getElem_mem H)⟩
      · obtain ⟨k, hk, hk2⟩ := mod_nat (m := m / 15) H
        exact ⟨c, _, new, _, _, _, fin k hk2 (.inr ⟨by omega, hk⟩), evI_out I (List.getElem_mem hk2)⟩
    · refine ⟨c, here, new, gone, es, x9, ?_, I.perm, I.run, by have := I.len; omega, I.mem⟩
      simp [lb__law_events_0, m5, m3, e5, e15, C, H]
end K30
end
section
set_option Elab.async false
set_option linter.all false
set_option maxRecDepth 100000
namespace K30
open PySem PySem.Spec L2 Lp
def stk (s : List Nm) : PV := .tup (s.map nm)
def stksV (ss : List (List Nm)) : PV := .tup (ss.map stk)
theorem ints_of {lo hi : Int} : ∀ {xs : List PV}, (∀ x ∈ xs, isI lo hi x) → ∃ is : List Int, xs = is.map .int ∧ ∀ i ∈ is, lo ≤ i ∧ i < hi
  | [], _ => ⟨[], rfl, by simp⟩
  | x :: xs, h => by
    obtain ⟨i, rfl, h1, h2⟩ := h x List.mem_cons_self
    obtain ⟨is, rfl, h3⟩ := ints_of (xs := xs) fun y hy => h y (List.mem_cons_of_mem _ hy)
    exact ⟨i :: is, rfl, fun j hj => by
      rcases List.mem_cons.mp hj with rfl | hj
      · exact ⟨h1, h2⟩
      · exact h3 j hj⟩
theorem boxes_nm (ss : List (List Nm)) (h : ss.flatten.length ≤ 1000000) : m__law_boxes (stksV ss) = .ok (.lst (ss.flatten.map nm)) := by
  have e : stksV ss = .tup ((ss.map (·.map nm)).map .tup) := by
    unfold stksV stk
    rw [List.map_map]
    rfl
  rw [e, boxes_ok, List.map_flatten]
  rw [← List.map_flatten, List.length_map]
  exact h
theorem events_ok {b : Int} (marks : List PV) (hx : ∀ x ∈ marks, isI 0 b x) (hm : marks.length ≤ 100) (ss : List (List Nm)) (fresh : List Nm) (hall : (ss.flatten ++ fresh).Nodup) (hl : (ss.flatten ++ fresh).length ≤ 1000) :
    ∃ es h', m__law_events (.lst marks) (stksV ss) (.lst (fresh.map nm)) (.int 12) = .ok (.tup (es.map evV)) ∧ runE ss.flatten es = some h' ∧ es.length ≤ marks.length ∧ ∀ e ∈ es, e.2 ∈ ss.flatten ++ fresh := by
  obtain ⟨is, rfl, his⟩ := ints_of hx
  simp only [List.length_map] at hm ⊢
  have hb := boxes_nm ss (by simp only [List.length_append] at hl; omega)
  have main : ∀ P : PV → Prop, (∀ es h', runE ss.flatten es = some h' → es.length ≤ is.length → (∀ e ∈ es, e.2 ∈ ss.flatten ++ fresh) → P (.tup (es.map evV))) → (b__law_events [some (.lst (is.map .int)), some (stksV ss), some (.lst (fresh.map nm)), some (.int 12), none, none, none, none, none, none]).sat { rt := P } := by
    intro P hP
    simp [b__law_events, hb, -List.map_flatten]
    refine sat_next (for_sat is .int (fun k τ => ∃ c here new gone es x8 x9, τ = τe (.lst (is.map .int)) (stksV ss) (.lst (fresh.map nm)) c here new gone es x8 x9 ∧ EvI ss.flatten (ss.flatten ++ fresh) here new gone es k) (by simp) ?_ ?_ ?_)
    · exact ⟨12, ss.flatten, fresh, [], [], none, none, rfl, by simp, rfl, by simp, by simp⟩
    · rintro k hk τ ⟨c, here, new, gone, es, x8, x9, rfl, I⟩
      obtain ⟨c', here', new', gone', es', y9, e, I'⟩ := stepEv (.lst (is.map .int)) (stksV ss) (.lst (fresh.map nm)) c is[k] (his _ (List.getElem_mem hk)).1 x9 I hall hl (by omega)
      refine ⟨_, rfl, ?_⟩
      show (lb__law_events_0 (τe (.lst (is.map .int)) (stksV ss) (.lst (fresh.map nm)) c here new gone es (some (.int is[k])) x9)).sat _
      rw [e]
      exact ⟨_, _, _, _, _, _, _, rfl, I'⟩
    · rintro τ ⟨c, here, new, gone, es, x8, x9, rfl, I⟩
      simp
      exact hP es here I.run I.len I.mem
  obtain ⟨v, hv, es, h', rfl, h1, h2, h3⟩ := fin_sat (rm := .sh) (main (fun v => ∃ es h', v = .tup (es.map evV) ∧ runE ss.flatten es = some h' ∧ es.length ≤ is.length ∧ ∀ e ∈ es, e.2 ∈ ss.flatten ++ fresh) fun es h' a b c => ⟨es, h', rfl, a, b, c⟩)
  exact ⟨es, h', hv, h1, h2, h3⟩
end K30
end
section
set_option Elab.async false
set_option linter.all false
set_option maxRecDepth 100000
namespace K30
open PySem PySem.Spec L2 Lp
structure DayOk (h : Nat) (ss : List (List Nm)) (es : List (Bool × Nm)) : Prop where
  h1 : 1 ≤ h
  h5 : h ≤ 5
  c1 : 1 ≤ ss.length
  c5 : ss.length ≤ 5
  row : ∀ s ∈ ss, s.length ≤ h
  nd : ss.flatten.Nodup
  nmS : ∀ x ∈ ss.flatten, 1 ≤ x.length ∧ x.length ≤ 8
  nmE : ∀ e ∈ es, 1 ≤ e.2.length ∧ e.2.length ≤ 8
  run : ∃ h', runE ss.flatten es = some h'
  len : es.length ≤ 12
  all : ss.flatten.length ≤ 22
theorem rows_nm : ∀ {rows : List (List PV)}, (∀ p ∈ rows.flatten, ∃ x, p = nm x) → ∃ ss : List (List Nm), rows = ss.map (·.map nm)
  | [], _ => ⟨[], rfl⟩
  | r :: rows, h => by
    have h1 : ∀ {r : List PV}, (∀ p ∈ r, ∃ x, p = nm x) → ∃ s : List Nm, r = s.map nm := by
      intro r
      induction r with
      | nil => exact fun _ => ⟨[], rfl⟩
      | cons p r ih =>
        intro h
        obtain ⟨x, rfl⟩ := h p List.mem_cons_self
        obtain ⟨s, rfl⟩ := ih fun q hq => h q (List.mem_cons_of_mem _ hq)
        exact ⟨x :: s, rfl⟩
    obtain ⟨s, rfl⟩ := h1 (r := r) fun p hp => h p (by simp [hp])
    obtain ⟨ss, rfl⟩ := rows_nm (rows := rows) fun p hp => h p (by
      rw [List.flatten_cons]; exact List.mem_append_right _ hp)
    exact ⟨s :: ss, rfl⟩
theorem stks_rows (ss : List (List Nm)) : PV.tup ((ss.map (·.map nm)).map .tup) = stksV ss := by
  unfold stksV stk
  rw [List.map_map]
  rfl
theorem nodup_nm {l : List Nm} : (l.map nm).Nodup ↔ l.Nodup := by
  unfold List.Nodup
  rw [List.pairwise_map]
  constructor
  · exact fun h => h.imp fun hab e => hab (congrArg nm e)
  · exact fun h => h.imp fun hab e => hab (nm_inj e)
theorem mem_nm {x : Nm} {l : List Nm} : nm x ∈ l.map nm ↔ x ∈ l := by
  constructor
  · intro h
    obtain ⟨y, hy, e⟩ := List.mem_map.mp h
    rw [← nm_inj e]; exact hy
  · exact fun h => List.mem_map.mpr ⟨x, h, rfl⟩
theorem at_row {xs : List PV} {b : Int} (hx : ∀ x ∈ xs, isI 0 b x) (j : Nat) (h : j < xs.length) : ∃ m : Int, atI xs ((j : Nat) : Int) = some (.int m) ∧ 0 ≤ m ∧ m < b := by
  obtain ⟨m, e, h1, h2⟩ := hx _ (List.getElem_mem h)
  exact ⟨m, by rw [atN, List.getElem?_eq_getElem h, e], h1, h2⟩
theorem day_ok (ns : List Int) (s : Int) : ∃ h ss es, m__law_day (.scr ns) (.int s) = .ok (.tup [.int (h : Nat), stksV ss, .tup (es.map evV)]) ∧ DayOk h ss es := by
  obtain ⟨c0, e0⟩ := cell_ok ns 0 (by decide)
  obtain ⟨c1, e1⟩ := cell_ok ns 1 (by decide)
  obtain ⟨c2, e2⟩ := cell_ok ns 2 (by decide)
  obtain ⟨xs, er, hxl, hx⟩ := row_ok c0 14 27720 s (by decide) (by decide) (by decide) (by decide)
  have hxl : xs.length = 14 := hxl
  obtain ⟨ls, en, hll, hlnd, hls⟩ := names_ok c1 (s + 1)
  obtain ⟨m0, a0, p0, q0⟩ := at_row hx 0 (by omega)
  obtain ⟨m1, a1, p1, q1⟩ := at_row hx 1 (by omega)
  obtain ⟨m2, a2, p2, q2⟩ := at_row hx 2 (by omega)
  obtain ⟨m13, a13, p13, q13⟩ := at_row hx 13 (by omega)
  obtain ⟨h, eh, hh1, hh5⟩ : ∃ h : Nat, 1 + m0 % 5 = (h : Nat) ∧ 1 ≤ h ∧ h ≤ 5 := ⟨(1 + m0 % 5).toNat, by omega, by omega, by omega⟩
  obtain ⟨c, ec, hc1, hc5⟩ : ∃ h : Nat, 1 + m1 % 5 = (h : Nat) ∧ 1 ≤ h ∧ h ≤ 5 := ⟨(1 + m1 % 5).toNat, by omega, by omega, by omega⟩
  have hmul : CMul (h : Int) (c : Int) := .inl ⟨by omega, by omega⟩
  have hhc : ((h : Int) * (c : Int)) = ((c * h : Nat) : Int) := by rw [Nat.mul_comm]; norm_cast
  obtain ⟨many, em, hm1, hm10⟩ : ∃ n : Nat, min ((h : Int) * (c : Int)) (m2 % 11) = (n : Nat) ∧ n ≤ c * h ∧ n ≤ 10 := by
    rw [hhc]
    exact ⟨(min ((c * h : Nat) : Int) (m2 % 11)).toNat, by omega, by omega, by omega⟩
  have hcut : cut xs (some 3) (some 13) = (xs.drop 3).take 10 := cut_nn xs (by decide) (by decide)
  have hx3 : ∀ x ∈ cut xs (some 3) (some 13), isI 0 27720 x := fun x hx' => by rw [hcut] at hx'; exact hx x (List.mem_of_mem_drop (List.mem_of_mem_take hx'))
  have hl3 : (cut xs (some 3) (some 13)).length = 10 := by rw [hcut, List.length_take, List.length_drop]; omega
  have hcn : cut (ls.map fun l => PV.str (tx l)) none (some ((many : Nat) : Int)) = (ls.take many).map nm := by rw [cut_lo _ (by omega), Int.toNat_natCast, ← List.map_take]; rfl
  have hcd : cut (ls.map fun l => PV.str (tx l)) (some ((many : Nat) : Int)) none = (ls.drop many).map nm := by rw [cut_hi _ (by omega), Int.toNat_natCast, ← List.map_drop]; rfl
  have hlt : (ls.take many).length = many := by rw [List.length_take]; omega
  obtain ⟨rows, es', hrl, hrh, hrp⟩ := stacks_ok (cut xs (some 3) (some 13)) ((ls.take many).map nm) hx3 c h (by omega) (by omega) (by rw [List.length_map, hlt]; exact hm1) (by rw [List.length_map, hlt, hl3]; omega) (by rw [List.length_map, hlt]; omega)
  obtain ⟨ss, rfl⟩ := rows_nm (rows := rows) fun p hp => by
    obtain ⟨x, _, e⟩ := List.mem_map.mp (hrp.subset hp)
    exact ⟨x, e.symm⟩
  rw [stks_rows] at es'
  rw [← List.map_flatten] at hrp
  have hperm : ((ss.flatten ++ ls.drop many).map nm).Perm (ls.map nm) := by
    rw [List.map_append]
    refine (List.Perm.append_right _ hrp).trans ?_
    rw [← List.map_append, List.take_append_drop]
  have hnd : (ss.flatten ++ ls.drop many).Nodup := nodup_nm.mp (hperm.nodup_iff.mpr (nodup_nm.mpr hlnd))
  have hmem : ∀ x ∈ ss.flatten ++ ls.drop many, 1 ≤ x.length ∧ x.length ≤ 8 := fun x hx' => hls x (mem_nm.mp (hperm.subset (mem_nm.mpr hx')))
  have hlen : (ss.flatten ++ ls.drop many).length = 22 := by
    have := hperm.length_eq
    rw [List.length_map, List.length_map, hll] at this
    exact this
  obtain ⟨n13, e13, h13⟩ : ∃ n : Nat, m13 % 13 = (n : Nat) ∧ n ≤ 12 := ⟨(m13 % 13).toNat, by omega, by omega⟩
  obtain ⟨ys, ey, hyl, hy⟩ := row_ok c2 (n13 : Nat) 27720 (s + 2) (by decide) (by decide) (by omega) (by omega)
  rw [Int.toNat_natCast] at hyl
  obtain ⟨es, h', ee, hrun, hel, hem⟩ := events_ok ys hy (by omega) ss (ls.drop many) hnd (by omega)
  refine ⟨h, ss, es, ?_, hh1, hh5, by simp at hrl; omega, by simp at hrl; omega, fun s' hs => ?_, (List.nodup_append.mp hnd).1, fun x hx' => hmem x (List.mem_append_left _ hx'), fun e he => hmem _ (hem e he), ⟨h', hrun⟩, by omega, by rw [List.length_append] at hlen; omega⟩
  · have d0 := pMod_int (i := m0) (j := 5) (by decide)
    have d1 := pMod_int (i := m1) (j := 5) (by decide)
    have d2 := pMod_int (i := m2) (j := 11) (by decide)
    have d13 := pMod_int (i := m13) (j := 13) (by decide)
    have mm := pMul_int hmul
    have mn := pMin_int ((h : Int) * (c : Int)) (m2 % 11)
    rw [em] at mn
    rw [e13] at d13
    have a0 : atI xs 0 = some (.int m0) := a0
    have a1 : atI xs 1 = some (.int m1) := a1
    have a2 : atI xs 2 = some (.int m2) := a2
    have a13 : atI xs 13 = some (.int m13) := a13
    simp [m__law_day, b__law_day, e0, e1, e2, er, en, a0, a1, a2, a13, d0, d1, d2, d13, eh, ec, mm, mn, hcn, hcd, es', ey, ee, -List.map_take, -List.map_drop]
  · have := hrh (s'.map nm) (List.mem_map.mpr ⟨s', hs, rfl⟩)
    simpa using this
end K30
end
section
set_option Elab.async false
set_option linter.all false
set_option maxRecDepth 100000
namespace K30
open PySem PySem.Spec L2 Lp
abbrev fs (a b : String) (x y : PV) : List (Str × PV) := [(Str.ofString a, x), (Str.ofString b, y)]
def yardV (h : Nat) (ss : List (List Nm)) : PV := .ins 5 [(("height" : Str), .int (h : Nat)), (("stacks" : Str), stksV ss)]
def evsV (es : List (Bool × Nm)) : PV := .tup (es.map evV)
def dayV (h : Nat) (ss : List (List Nm)) (es : List (Bool × Nm)) : PV := .ins 6 [(("yard" : Str), yardV h ss), (("events" : Str), evsV es)]
theorem is_seq_tup (xs : List PV) : m_is_sequence (.tup xs) = .ok (.bl true) := by
  simp [m_is_sequence, b_is_sequence]
theorem is_seq_lst (xs : List PV) : m_is_sequence (.lst xs) = .ok (.bl true) := by
  simp [m_is_sequence, b_is_sequence]
theorem is_number_nat (n : Nat) : m_is_number (.int (n : Nat)) = .ok (.bl true) := by
  simp [m_is_number, b_is_number, m_is_integer_core_plain, b_is_integer_core_plain]
theorem pIn_iff : True := trivial
theorem tup_stk (ss : List (List Nm)) : PV.tup (ss.map stk) = stksV ss := rfl
theorem tup_ev (es : List (Bool × Nm)) : PV.tup (es.map evV) = evsV es := rfl
theorem isN_stks (ss) : (stksV ss).isN = false := rfl
theorem isN_evs (ss) : (evsV ss).isN = false := rfl
theorem unlike_ok (l : List Nm) (hn : l.Nodup) : m_are_unlike (.lst (l.map nm)) = .ok (.bl true) := by
  have hk : (l.map fun x => (Sum.inr (tx x) : Key)).Nodup := by
    unfold List.Nodup
    rw [List.pairwise_map]
    exact hn.imp fun h e => h (tx_inj (Sum.inr.inj e))
  have hd : lc_are_unlike_0 [some (.lst (l.map nm)), none] = .ok (.dK (l.map fun x => ((Sum.inr (tx x) : Key), PV.bl true))) := by
    have := dcomp_map (own := [1]) (it := iSeq (eVar 0)) (tgt := gNm 1) (cond := tYesM) (ek := eVar 1) (ev := eC (.bl true)) (τ := [some (.lst (l.map nm)), none]) l nm nm (fun x => Sum.inr (tx x)) (fun _ => .bl true) (fun x => rfl) (by simp) (fun x _ => by simp [dItem, wipeL])
    rw [foldl_setP _ _ _ _ hk (by simp)] at this
    exact this
  simp [m_are_unlike, b_are_unlike, hd]
theorem as_stacks_ok (h : Nat) (ss : List (List Nm)) (c1 : 1 ≤ ss.length) (row : ∀ s ∈ ss, s.length ≤ h) (nd : ss.flatten.Nodup) (hn : ∀ x ∈ ss.flatten, 1 ≤ x.length ∧ x.length ≤ 8) (hl : ss.flatten.length ≤ 1000) :
    m_as_stacks (.int (h : Nat)) (stksV ss) = .ok (stksV ss) := by
  have l0 : lc_as_stacks_0 [some (.int (h : Nat)), some (stksV ss), none, none, none, none] = .ok (.lst (ss.map fun _ => .bl true)) :=
    comp_map ss stk _ (by simp [stksV]) fun s _ => by simp [cItem, wipeL, stk, is_seq_tup]
  have l1 : lc_as_stacks_1 [some (.int (h : Nat)), some (stksV ss), none, none, none, none] = .ok (.lst (ss.map stk)) :=
    comp_map ss stk _ (by simp [stksV]) fun s _ => by simp [cItem, wipeL, stk]
  have l2 : lc_as_stacks_2 [some (.int (h : Nat)), some (stksV ss), some (stksV ss), none, none, none] = .ok (.lst (ss.flatten.map nm)) := by
    have e : ss.flatMap (fun s => s.map nm) = ss.flatten.map nm := by rw [List.map_flatten, List.flatMap_def]
    rw [← e]
    refine comp2_map ss stk (fun s => s.map nm) (by simp [stksV]) (fun s _ => ?_) (by rw [e, List.length_map]; omega)
    simp [kC2, wipeL, stk]
    exact (compL_map nm (fun x => some (nm x)) s fun x _ => by simp [cItem]).trans (by rw [List.filterMap_eq_map'])
  have l3 : lc_as_stacks_3 [some (.int (h : Nat)), some (stksV ss), some (stksV ss), some (.lst (ss.flatten.map nm)), none, none] = .ok (.lst (ss.flatten.map fun _ => .bl true)) :=
    comp_map ss.flatten nm _ (by simp [-List.map_flatten]) fun x hx => by simp [cItem, wipeL, nm, is_name_ok x (hn x hx).1 (hn x hx).2]
  have l4 : lc_as_stacks_4 [some (.int (h : Nat)), some (stksV ss), some (stksV ss), some (.lst (ss.flatten.map nm)), none, none] = .ok (.lst (ss.map fun _ => .bl true)) :=
    comp_map ss stk _ (by simp [stksV]) fun s hs => by
      have := row s hs
      simp [cItem, wipeL, stk, this]
  have hu := unlike_ok ss.flatten nd
  have hs : m_is_sequence (stksV ss) = .ok (.bl true) := is_seq_tup _
  have hlen : pLen [stksV ss] = some (.int (ss.length : Nat)) := by simp [stksV]
  have h0 : ¬ ss = [] := by intro e; rw [e] at c1; simp at c1
  have a1 := pAll_map (fun _ : List Nm => true) ss
  have a2 := pAll_map (fun _ : Nm => true) ss.flatten
  simp [m_as_stacks, b_as_stacks, l0, l1, l2, l3, l4, hu, hs, hlen, h0, a1, a2, tup_stk, -List.map_flatten, -List.map_const]
theorem yard_ok {h : Nat} {ss : List (List Nm)} {es} (D : DayOk h ss es) : m_Yard (.int (h : Nat)) (stksV ss) = .ok (yardV h ss) := by
  have e1 := as_stacks_ok h ss D.c1 D.row D.nd D.nmS (by have := D.all; omega)
  have e2 := is_number_nat h
  have h0 : ¬ h = 0 := by have := D.h1; omega
  refine finI_eq ?_
  simp [b_Yard, e1, e2, h0, isN_stks, putP, yardV]
theorem boxes_of_ok (h : Nat) (ss : List (List Nm)) (hl : ss.flatten.length ≤ 1000) : m_boxes_of (yardV h ss) = .ok (.tup (ss.flatten.map nm)) := by
  have l0 : lc_boxes_of_0 [some (yardV h ss), none, none] = .ok (.lst (ss.flatten.map nm)) := by
    have e : ss.flatMap (fun s => s.map nm) = ss.flatten.map nm := by rw [List.map_flatten, List.flatMap_def]
    rw [← e]
    refine comp2_map ss stk (fun s => s.map nm) (by simp [yardV, stksV, List.lookup]) (fun s _ => ?_) (by rw [e, List.length_map]; omega)
    simp [kC2, wipeL, stk]
    exact (compL_map nm (fun x => some (nm x)) s fun x _ => by simp [cItem]).trans (by rw [List.filterMap_eq_map'])
  simp [m_boxes_of, b_boxes_of, l0, -List.map_flatten]
/-- the boxes there, as a dict -/
def thD (l : List Nm) : PV := .dK (l.map fun x => ((Sum.inr (tx x) : Key), PV.bl true))
theorem hasP_th (l : List Nm) (x : Nm) : hasP (l.map fun x => ((Sum.inr (tx x) : Key), PV.bl true)) (.inr (tx x)) = decide (x ∈ l) := by
  unfold hasP
  rw [List.any_map]
  by_cases h : x ∈ l
  · rw [decide_eq_true h, List.any_eq_true]
    exact ⟨x, h, by simp⟩
  · rw [decide_eq_false h]
    refine List.any_eq_false.mpr fun y hy => ?_
    simp only [Function.comp_apply, decide_eq_true_eq]
    intro e
    exact h (by rw [← tx_inj (Sum.inr.inj e)]; exact hy)
theorem drop_th : ∀ (l : List Nm) (x : Nm), l.Nodup → dropP (l.map fun x => ((Sum.inr (tx x) : Key), PV.bl true)) (.inr (tx x)) = (l.erase x).map fun x => ((Sum.inr (tx x) : Key), PV.bl true)
  | [], _, _ => rfl
  | y :: l, x, hn => by
    have ih := drop_th l x (List.nodup_cons.mp hn).2
    unfold dropP at ih ⊢
    by_cases h : y = x
    · subst h
      rw [List.map_cons, List.filter_cons_of_neg (by simp), List.erase_cons_head]
      refine List.filter_eq_self.mpr fun kv hkv => ?_
      obtain ⟨z, hz, rfl⟩ := List.mem_map.mp hkv
      refine decide_eq_true fun e => ?_
      exact (List.nodup_cons.mp hn).1 (by rw [← tx_inj (Sum.inr.inj e)]; exact hz)
    · have hne : decide ((Sum.inr (tx y) : Key) ≠ Sum.inr (tx x)) = true := decide_eq_true fun e => h (tx_inj (Sum.inr.inj e))
      rw [List.map_cons, List.filter_cons, if_pos hne, ih, List.erase_cons_tail (by simpa using h)]
      rfl
theorem set_th {l : List Nm} {x : Nm} (h : x ∉ l) : setP (l.map fun x => ((Sum.inr (tx x) : Key), PV.bl true)) (.inr (tx x)) (.bl true) = (l ++ [x]).map fun x => ((Sum.inr (tx x) : Key), PV.bl true) := by
  unfold setP
  rw [hasP_th, decide_eq_false h]
  simp
theorem sok_tx (l : Nm) : sok (tx l) := sok_of fun c hc => by
  simp only [tx, List.mem_map] at hc
  obtain ⟨i, _, rfl⟩ := hc
  have := i.isLt
  omega
theorem stepE_nd {h h' : List Nm} {e : Bool × Nm} (hn : h.Nodup) (hs : stepE h e = some h') : h'.Nodup := by
  unfold stepE at hs
  split at hs
  · split at hs
    · cases hs
    · rename_i hx
      cases hs
      rw [List.nodup_append]
      exact ⟨hn, by simp, fun a ha b hb e => hx (by rw [List.mem_singleton.mp hb] at e; rw [← e]; exact ha)⟩
  · split at hs
    · cases hs
      exact hn.erase _
    · cases hs
theorem stepE_len {h h' : List Nm} {e : Bool × Nm} (hs : stepE h e = some h') : h'.length ≤ h.length + 1 := by
  unfold stepE at hs
  split at hs
  · split at hs
    · cases hs
    · cases hs; simp
  · split at hs
    · cases hs
      have := List.length_erase_le (a := e.2) (l := h)
      omega
    · cases hs
/-- the boxes there before each event -/
theorem runE_split {h h' : List Nm} {es : List (Bool × Nm)} (hr : runE h es = some h') (k : Nat) : ∃ hk, runE h (es.take k) = some hk := by
  have : runE h (es.take k ++ es.drop k) = some h' := by rw [List.take_append_drop]; exact hr
  unfold runE at this ⊢
  rw [List.foldlM_append] at this
  cases hq : List.foldlM stepE h (es.take k) with
  | none => rw [hq] at this; cases this
  | some hk => exact ⟨hk, rfl⟩
theorem runE_step {h h' hk : List Nm} {es : List (Bool × Nm)} (hr : runE h es = some h') {k : Nat} (hlt : k < es.length) (h1 : runE h (es.take k) = some hk) : ∃ h2, stepE hk es[k] = some h2 ∧ runE h (es.take (k + 1)) = some h2 := by
  obtain ⟨h2, e2⟩ := runE_split hr (k + 1)
  refine ⟨h2, ?_, e2⟩
  unfold runE at h1 e2
  rw [List.take_succ_eq_append_getElem hlt, List.foldlM_append, h1] at e2
  simpa using e2
theorem as_events_ok (h : Nat) (ss : List (List Nm)) (es : List (Bool × Nm)) {h' : List Nm} (hl : ss.flatten.length ≤ 1000) (nd : ss.flatten.Nodup) (hrun : runE ss.flatten es = some h') (hne : ∀ e ∈ es, 1 ≤ e.2.length ∧ e.2.length ≤ 8) (hle : es.length ≤ 1000) :
    m_as_events (yardV h ss) (evsV es) = .ok (evsV es) := by
  have l0 : lc_as_events_0 [some (yardV h ss), some (evsV es), none, none, none, none] = .ok (.lst (es.map fun _ => .bl true)) :=
    comp_map es evV _ (by simp [evsV]) fun e he => by
      have hn := hne e he
      have := is_event_ok (if e.1 = true then ("in" : Str) else ("out" : Str)) (by split <;> simp) e.2 hn.1 hn.2
      simp [cItem, wipeL, evV, nm, this]
  have hb := boxes_of_ok h ss hl
  have l1 : lc_as_events_1 [some (yardV h ss), some (evsV es), none, none, none, none] = .ok (thD ss.flatten) := by
    have := dcomp_map (own := [4]) (it := iSeq (eFn (ar1 m_boxes_of) (aCons (eVar 0) aNil))) (tgt := gNm 4) (cond := tYesM) (ek := eVar 4) (ev := eC (.bl true)) (τ := [some (yardV h ss), some (evsV es), none, none, none, none]) ss.flatten nm nm (fun x => Sum.inr (tx x)) (fun _ => .bl true) (fun x => rfl) (by simp [hb, -List.map_flatten]) (fun x _ => by simp [dItem, wipeL])
    rw [foldl_setP _ _ _ _ (by
      unfold List.Nodup
      rw [List.pairwise_map]
      exact nd.imp fun h e => h (tx_inj (Sum.inr.inj e))) (by simp)] at this
    exact this
  have a1 := pAll_map (fun _ : Bool × Nm => true) es
  have hs : m_is_sequence (evsV es) = .ok (.bl true) := is_seq_tup _
  refine fin_eq ?_
  simp [b_as_events, l0, l1, hs, a1, -List.map_const]
  refine sat_next (for_sat es evV (fun k τ => ∃ hk x3 x4 x5, τ = [some (yardV h ss), some (evsV es), some (thD hk), x3, x4, x5] ∧ runE ss.flatten (es.take k) = some hk ∧ hk.Nodup ∧ hk.length ≤ 1000 + k) (by simp [evsV]) ?_ ?_ ?_)
  · exact ⟨_, _, _, _, rfl, rfl, nd, by omega⟩
  · rintro k hk τ ⟨hh, x3, x4, x5, rfl, hr, hn, hhl⟩
    obtain ⟨h2, e2, r2⟩ := runE_step hrun hk hr
    have n2 := stepE_nd hn e2
    have l2 := stepE_len e2
    obtain ⟨⟨b, x⟩, hbx⟩ : ∃ e, es[k] = e := ⟨_, rfl⟩
    rw [hbx] at e2 ⊢
    have hlx : (hh.map fun x => ((Sum.inr (tx x) : Key), PV.bl true)).length < 1000000 := by rw [List.length_map]; omega
    have hp := hasP_th hh x
    have q1 := pEq_str (sok_ofS "in") (sok_ofS "in")
    have q2 := pEq_str (sok_ofS "out") (sok_ofS "in")
    cases b
    · have hx : x ∈ hh := by
        by_cases h : x ∈ hh
        · exact h
        · simp [stepE, h] at e2
      simp [stepE, hx] at e2
      refine ⟨_, by simp [evV]; rfl, ?_⟩
      have hd := drop_th hh x hn
      simp [lb_as_events_2, thD, nm, hp, hx, q2, hd]
      exact ⟨h2, by rw [e2], r2, n2, by omega⟩
    · have hx : x ∉ hh := by
        intro h
        simp [stepE, h] at e2
      simp [stepE, hx] at e2
      refine ⟨_, by simp [evV]; rfl, ?_⟩
      have hd := set_th hx
      simp at hlx
      simp [lb_as_events_2, thD, nm, hp, hx, q1, hd, hlx]
      exact ⟨h2, by rw [← e2]; simp, r2, n2, by omega⟩
  · rintro τ ⟨hh, x3, x4, x5, rfl, hr, hn, hhl⟩
    simp [evsV]
theorem day_made {h : Nat} {ss : List (List Nm)} {es} (D : DayOk h ss es) : m_Day (yardV h ss) (evsV es) = .ok (dayV h ss es) := by
  obtain ⟨h', hr⟩ := D.run
  have e1 := as_events_ok h ss es (by have := D.all; omega) D.nd hr D.nmE (by have := D.len; omega)
  refine finI_eq ?_
  simp [b_Day, e1, isN_evs, putP, dayV]
end K30
end
section
set_option Elab.async false
set_option linter.all false
set_option maxRecDepth 100000
namespace K30
open PySem PySem.Spec L2 Lp
/-! stays -/
abbrev Sty := Nm × Int × Int
def rowS (r : Sty) : List PV := [nm r.1, .int r.2.1, .int r.2.2]
theorem strOk_tx (l : Nm) : strOk (tx l) = true := sok_tx l
theorem strOk_ofS (s : String) : strOk (Str.ofString s) = true := sok_ofS s
theorem valP_set_same (d : List (Key × PV)) (k : Key) (v : PV) : valP (setP d k v) k = some v := by
  unfold setP
  by_cases h : hasP d k = true
  · rw [if_pos h]
    unfold valP
    induction d with
    | nil => simp [hasP] at h
    | cons kv d ih =>
      by_cases e : kv.1 = k
      · simp [e]
      · simp only [hasP, List.any_cons, e, decide_false, Bool.false_or] at h
        rw [List.map_cons, if_neg e, List.find?_cons_of_neg (by simpa using e)]
        exact ih h
  · rw [if_neg h]
    unfold valP
    have hn : d.find? (fun kv => decide (kv.1 = k)) = none := by
      rw [List.find?_eq_none]
      intro kv hkv
      simp only [hasP, List.any_eq_true, not_exists, not_and] at h
      exact h kv hkv
    rw [List.find?_append, hn]
    simp
theorem valP_set_ne (d : List (Key × PV)) {k j : Key} (v : PV) (h : j ≠ k) : valP (setP d k v) j = valP d j := by
  unfold setP
  split
  · rename_i hh
    clear hh
    unfold valP
    induction d with
    | nil => rfl
    | cons kv d ih =>
      rw [List.map_cons, List.find?_cons, List.find?_cons]
      by_cases e : kv.1 = k
      · have : ¬ kv.1 = j := fun e2 => h (e2.symm.trans e)
        rw [if_pos e]
        simp only [this, decide_false]
        exact ih
      · rw [if_neg e]
        by_cases e2 : kv.1 = j
        · simp [e2]
        · simp only [e2, decide_false]
          exact ih
  · unfold valP
    rw [List.find?_append]
    cases d.find? (fun kv => decide (kv.1 = j)) with
    | some x => rfl
    | none =>
      have : ¬ k = j := fun e => h e.symm
      simp [this]
theorem lsRowOk_row (r : Sty) : lsRowOk (rowS r) = true := strOk_tx r.1
/-- the rows as the events come, and the dict of the last row of each box -/
structure StI (n : Nat) (here : List Nm) (rows : List Sty) (num : List (Key × PV)) : Prop where
  pt : ∀ x ∈ here, ∃ i r, rows[i]? = some r ∧ r.1 = x ∧ r.2.2 = (n : Int) ∧ valP num (.inr (tx x)) = some (.int (i : Nat))
  op : ∀ i r, rows[i]? = some r → r.2.2 = (n : Int) → r.1 ∈ here ∧ valP num (.inr (tx r.1)) = some (.int (i : Nat))
def closeS (n : Nat) (e : Int) (x : Nm) (r : Sty) : Sty := if r.1 = x ∧ r.2.2 = (n : Int) then (r.1, r.2.1, e) else r
theorem lsRow_row (n e : Nat) (x : Nm) (r : Sty) : lsRow n e (tx x) (rowS r) = rowS (closeS n (e : Int) x r) := by
  unfold lsRow rowS closeS nm
  dsimp only
  by_cases h : r.1 = x ∧ r.2.2 = (n : Int)
  · rw [if_pos ⟨congrArg tx h.1, h.2⟩, if_pos h]
    rfl
  · rw [if_neg fun h2 => h ⟨tx_inj h2.1, h2.2⟩, if_neg h]
theorem modify_map {α : Type} (f : α → α) (c : α → Prop) [DecidablePred c] (l : List α) (i : Nat) (h : ∀ j r, l[j]? = some r → (c r ↔ j = i)) : l.map (fun r => if c r then f r else r) = l.modify i f := by
  refine List.ext_getElem? fun j => ?_
  rw [List.getElem?_map, List.getElem?_modify]
  cases hj : l[j]? with
  | none => rfl
  | some r =>
    have := h j r hj
    by_cases e : j = i
    · have hc := this.mpr e
      simp [hc, e]
    · have hc : ¬ c r := fun hc => e (this.mp hc)
      have e2 : ¬ i = j := fun h => e h.symm
      simp [hc, e2]
/-- both ways of going through the events make the same rows -/
theorem loops_same (n : Nat) : ∀ (es : List (Bool × Nm)) (e : Nat) (here h' : List Nm) (rows : List Sty) (num : List (Key × PV)), here.Nodup → runE here es = some h' → e + es.length = n → StI n here rows num →
    ∃ rows' : List Sty, stLoop n (es.map evV) e (rows.map rowS) num = some (rows'.map rowS) ∧ lsLoop n (es.map evV) e (rows.map rowS) = some (rows'.map rowS) ∧ rows'.length ≤ rows.length + es.length
  | [], e, here, h', rows, num, _, _, _, _ => ⟨rows, rfl, rfl, by simp⟩
  | (b, x) :: es, e, here, h', rows, num, hn, hr, hl, I => by
    have hr' : ∃ h2, stepE here (b, x) = some h2 ∧ runE h2 es = some h' := by
      unfold runE at hr
      rw [List.foldlM_cons] at hr
      cases hs : stepE here (b, x) with
      | none => rw [hs] at hr; cases hr
      | some h2 => rw [hs] at hr; exact ⟨h2, rfl, hr⟩
    obtain ⟨h2, hs, hr2⟩ := hr'
    have n2 := stepE_nd hn hs
    simp only [List.length_cons] at hl
    rw [List.map_cons, stLoop, lsLoop]
    cases b
    · have hx : x ∈ here := by
        by_cases h : x ∈ here
        · exact h
        · simp [stepE, h] at hs
      simp [stepE, hx] at hs
      obtain ⟨i, r, hi, h1, h3, hv⟩ := I.pt x hx
      have hil : i < rows.length := by
        rcases Nat.lt_or_ge i rows.length with h | h
        · exact h
        · rw [List.getElem?_eq_none h] at hi; cases hi
      have hmm : rows.map (closeS n (e : Int) x) = rows.modify i fun r => (r.1, r.2.1, (e : Int)) := by
        refine modify_map _ _ rows i fun j r' hj => ⟨fun ⟨c1, c2⟩ => ?_, fun ej => ?_⟩
        · have := (I.op j r' hj c2).2
          rw [c1, hv] at this
          injection this with this
          injection this with this
          omega
        · subst ej
          rw [hi] at hj
          cases hj
          exact ⟨h1, h3⟩
      have s1 : stStep n e (evV (false, x)) (rows.map rowS) num = some ((rows.map (closeS n (e : Int) x)).map rowS, num) := by
        have c : (0 : Int) ≤ (i : Nat) ∧ ((i : Nat) : Int).toNat < (rows.map rowS).length := ⟨by omega, by simpa using hil⟩
        simp only [stStep, evV, nm]
        rw [if_neg (by simp [strOk_ofS])]
        rw [if_neg (by simp)]
        rw [hv]
        dsimp only
        rw [if_pos c, hmm]
        congr 2
        rw [Int.toNat_natCast]
        refine List.ext_getElem? fun j => ?_
        rw [List.getElem?_modify, List.getElem?_map, List.getElem?_map, List.getElem?_modify]
        cases rows[j]? with
        | none => rfl
        | some r =>
          by_cases ej : i = j
          · simp [ej, rowS]
          · simp [ej]
      have s2 : lsStep n e (evV (false, x)) (rows.map rowS) = some ((rows.map (closeS n (e : Int) x)).map rowS) := by
        have hall : ((rows.map rowS).all lsRowOk) = true := by
          rw [List.all_map, List.all_eq_true]
          exact fun r _ => lsRowOk_row r
        simp only [lsStep, evV, nm]
        rw [if_neg (by simp [strOk_ofS, strOk_tx]), if_neg (by simp), if_pos hall, List.map_map, List.map_map]
        congr 2
        funext r
        exact lsRow_row n e x r
      rw [s1, s2]
      have I2 : StI n h2 (rows.map (closeS n (e : Int) x)) num := by
        refine ⟨fun y hy => ?_, fun j r' hj hn' => ?_⟩
        · rw [← hs] at hy
          have hyx : y ≠ x := fun h => by rw [h] at hy; exact (hn.not_mem_erase) hy
          obtain ⟨j, r', hj, q1, q2, q3⟩ := I.pt y (List.mem_of_mem_erase hy)
          refine ⟨j, r', ?_, q1, q2, q3⟩
          rw [List.getElem?_map, hj]
          have : ¬ (r'.1 = x ∧ r'.2.2 = (n : Int)) := fun h => hyx (q1.symm.trans h.1)
          simp [closeS, this]
        · rw [List.getElem?_map] at hj
          cases hq : rows[j]? with
          | none => rw [hq] at hj; cases hj
          | some r0 =>
            rw [hq] at hj
            simp only [Option.map_some, Option.some.injEq] at hj
            by_cases hc : r0.1 = x ∧ r0.2.2 = (n : Int)
            · rw [closeS, if_pos hc] at hj
              rw [← hj] at hn'
              simp only at hn'
              omega
            · rw [closeS, if_neg hc] at hj
              subst hj
              obtain ⟨o1, o2⟩ := I.op j r0 hq hn'
              refine ⟨?_, o2⟩
              rw [← hs]
              exact (List.mem_erase_of_ne fun h => hc ⟨h, hn'⟩).mpr o1
      obtain ⟨rw, w1, w2, w3⟩ := loops_same n es (e + 1) h2 h' (rows.map (closeS n (e : Int) x)) num n2 hr2 (by omega) I2
      exact ⟨rw, w1, w2, by simp at w3 ⊢; omega⟩
    · have hx : x ∉ here := by
        intro h
        simp [stepE, h] at hs
      simp [stepE, hx] at hs
      have s1 : stStep n e (evV (true, x)) (rows.map rowS) num = some ((rows ++ [(x, ((e : Nat) : Int), ((n : Nat) : Int))]).map rowS, setP num (.inr (tx x)) (.int (rows.length : Nat))) := by
        simp only [stStep, evV, nm]
        rw [if_neg (by simp [strOk_ofS]), if_pos (by simp)]
        simp [rowS, nm]
      have s2 : lsStep n e (evV (true, x)) (rows.map rowS) = some ((rows ++ [(x, ((e : Nat) : Int), ((n : Nat) : Int))]).map rowS) := by
        simp only [lsStep, evV, nm]
        rw [if_neg (by simp [strOk_ofS, strOk_tx]), if_pos (by simp)]
        simp [rowS, nm]
      rw [s1, s2]
      have I2 : StI n h2 (rows ++ [(x, ((e : Nat) : Int), ((n : Nat) : Int))]) (setP num (.inr (tx x)) (.int (rows.length : Nat))) := by
        refine ⟨fun y hy => ?_, fun j r' hj hn' => ?_⟩
        · rw [← hs] at hy
          by_cases hyx : y = x
          · subst hyx
            exact ⟨rows.length, (y, ((e : Nat) : Int), ((n : Nat) : Int)), by simp, rfl, rfl, valP_set_same _ _ _⟩
          · have hy' : y ∈ here := by
              rcases List.mem_append.mp hy with h | h
              · exact h
              · exact absurd (List.mem_singleton.mp h) hyx
            obtain ⟨j, r', hj, q1, q2, q3⟩ := I.pt y hy'
            have hjl : j < rows.length := by
              rcases Nat.lt_or_ge j rows.length with h | h
              · exact h
              · rw [List.getElem?_eq_none h] at hj; cases hj
            refine ⟨j, r', by rw [List.getElem?_append_left hjl]; exact hj, q1, q2, ?_⟩
            rw [valP_set_ne _ _ fun e => hyx (tx_inj (Sum.inr.inj e))]
            exact q3
        · by_cases hjl : j < rows.length
          · rw [List.getElem?_append_left hjl] at hj
            obtain ⟨o1, o2⟩ := I.op j r' hj hn'
            have hyx : r'.1 ≠ x := fun h => hx (h ▸ o1)
            refine ⟨?_, ?_⟩
            · rw [← hs]; exact List.mem_append_left _ o1
            · rw [valP_set_ne _ _ fun e => hyx (tx_inj (Sum.inr.inj e))]
              exact o2
          · rw [List.getElem?_append_right (by omega)] at hj
            have hj0 : j = rows.length := by
              rcases Nat.lt_or_ge (j - rows.length) 1 with h | h
              · omega
              · rw [List.getElem?_eq_none (by simpa using h)] at hj; cases hj
            subst hj0
            simp at hj
            subst hj
            refine ⟨?_, valP_set_same _ _ _⟩
            rw [← hs]; simp
      obtain ⟨rw, w1, w2, w3⟩ := loops_same n es (e + 1) h2 h' (rows ++ [(x, ((e : Nat) : Int), ((n : Nat) : Int))]) _ n2 hr2 (by omega) I2
      exact ⟨rw, w1, w2, by simp at w3 ⊢; omega⟩
theorem numOf_cons (y : Nm) (xs : List PV) (i : Nat) (d : List (Key × PV)) : numOf (nm y :: xs) i d = numOf xs (i + 1) (setP d (.inr (tx y)) (.int (i : Nat))) := rfl
theorem numOf_not (x : Nm) : ∀ (l : List Nm) (i : Nat) (d : List (Key × PV)), x ∉ l → valP (numOf (l.map nm) i d) (.inr (tx x)) = valP d (.inr (tx x))
  | [], _, _, _ => rfl
  | y :: l, i, d, h => by
    rw [List.map_cons, numOf_cons, numOf_not x l (i + 1) _ fun h' => h (List.mem_cons_of_mem _ h')]
    exact valP_set_ne _ _ fun e => h (by rw [tx_inj (Sum.inr.inj e)]; exact List.mem_cons_self)
theorem numOf_at (x : Nm) : ∀ (l : List Nm) (i j : Nat) (d : List (Key × PV)), l.Nodup → l[j]? = some x → valP (numOf (l.map nm) i d) (.inr (tx x)) = some (.int ((i + j : Nat) : Int))
  | [], _, _, _, _, h => by simp at h
  | y :: l, i, 0, d, hn, h => by
    simp at h
    subst h
    rw [List.map_cons, numOf_cons, numOf_not _ l _ _ (List.nodup_cons.mp hn).1]
    exact valP_set_same _ _ _
  | y :: l, i, j + 1, d, hn, h => by
    rw [List.map_cons, numOf_cons, numOf_at x l (i + 1) j _ (List.nodup_cons.mp hn).2 (by simpa using h)]
    congr 2
    omega
def tupS (r : Sty) : PV := .tup (rowS r)
/-- the stays, told by both sides alike -/
theorem stays_same {h : Nat} {ss : List (List Nm)} {es} (D : DayOk h ss es) : ∃ rows : List Sty, rows.length ≤ 40 ∧ m_stays_of (.tup (ss.flatten.map nm)) (evsV es) = .ok (.lst (rows.map tupS)) ∧ m__law_stays (stksV ss) (evsV es) = .ok (.lst (rows.map tupS)) := by
  obtain ⟨h', hr⟩ := D.run
  have hl := D.all
  have hle := D.len
  let rows0 : List Sty := ss.flatten.map fun x => (x, -1, (es.length : Int))
  have e0 : (ss.flatten.map nm).map (rowOf es.length) = rows0.map rowS := by
    simp only [rows0, List.map_map]
    rfl
  have I : StI es.length ss.flatten rows0 (numOf (ss.flatten.map nm) 0 []) := by
    refine ⟨fun x hx => ?_, fun i r hi hn => ?_⟩
    · obtain ⟨j, hj, e⟩ := List.mem_iff_getElem.mp hx
      have hg : ss.flatten[j]? = some x := by rw [List.getElem?_eq_getElem hj, e]
      refine ⟨j, (x, -1, (es.length : Int)), ?_, rfl, rfl, ?_⟩
      · simp only [rows0, List.getElem?_map, hg]
        rfl
      · have := numOf_at x ss.flatten 0 j [] D.nd hg
        rw [Nat.zero_add] at this
        exact this
    · simp only [rows0, List.getElem?_map] at hi
      cases hg : ss.flatten[i]? with
      | none => rw [hg] at hi; cases hi
      | some x =>
        rw [hg] at hi
        simp only [Option.map_some, Option.some.injEq] at hi
        subst hi
        refine ⟨List.mem_of_getElem? hg, ?_⟩
        have := numOf_at x ss.flatten 0 i [] D.nd hg
        rw [Nat.zero_add] at this
        exact this
  obtain ⟨rows, e1, e2, e3⟩ := loops_same es.length es 0 ss.flatten h' rows0 _ D.nd hr (by omega) I
  have hlen : rows.length ≤ 40 := by
    simp only [rows0, List.length_map] at e3
    omega
  refine ⟨rows, hlen, ?_, ?_⟩
  · have hc : (ss.flatten.map nm).length ≤ 1000 ∧ (es.map evV).length ≤ 1000 ∧ (ss.flatten.map nm).all isStrP = true := by
      refine ⟨by rw [List.length_map]; omega, by rw [List.length_map]; omega, ?_⟩
      rw [List.all_map, List.all_eq_true]
      exact fun _ _ => rfl
    show (if _ then _ else _) = _
    rw [if_pos hc]
    simp only [List.length_map]
    rw [e0, e1]
    simp [tupS, Function.comp_def]
  · have hb := boxes_nm ss (by omega)
    have hc : (ss.flatten.map nm).length ≤ 1000 ∧ (es.map evV).length ≤ 1000 := ⟨by rw [List.length_map]; omega, by rw [List.length_map]; omega⟩
    unfold m__law_stays h__law_stays
    rw [hb]
    unfold evsV
    dsimp only
    rw [if_pos hc]
    simp only [List.length_map]
    rw [e0, e2]
    simp [tupS, Function.comp_def]
end K30
end
section
set_option Elab.async false
set_option linter.all false
set_option maxRecDepth 100000
namespace K30
open PySem PySem.Spec L2 Lp
theorem stays_in_ok {h : Nat} {ss : List (List Nm)} {es} {rows : List Sty} (hl : ss.flatten.length ≤ 1000) (e : m_stays_of (.tup (ss.flatten.map nm)) (evsV es) = .ok (.lst (rows.map tupS))) : m_stays_in (dayV h ss es) = .ok (.lst (rows.map tupS)) := by
  have hb := boxes_of_ok h ss hl
  simp [m_stays_in, b_stays_in, dayV, List.lookup, hb, e, -List.map_flatten]
theorem stays_ok {h : Nat} {ss : List (List Nm)} {es} {rows : List Sty} (e : m_stays_in (dayV h ss es) = .ok (.lst (rows.map tupS))) : m_stays (dayV h ss es) = .ok (.tup (rows.map tupS)) := by
  simp [m_stays, b_stays, e]
theorem same_int (n : Nat) (i : Int) : m__law_same (n + 1) (.int i) (.int i) = .ok (.bl true) := by
  simp [m__law_same, b__law_same, m__law_is_integer, b__law_is_integer]
theorem same_nm (n : Nat) (x : Nm) : m__law_same (n + 1) (nm x) (nm x) = .ok (.bl true) := by
  have := pEq_str (sok_tx x) (sok_tx x)
  simp [m__law_same, b__law_same, nm, this]
theorem same_tup (n : Nat) (xs : List PV) (hl : xs.length ≤ 1000000) (h : ∀ x ∈ xs, m__law_same n x x = .ok (.bl true)) : m__law_same (n + 1) (.tup xs) (.tup xs) = .ok (.bl true) := by
  rw [m__law_same]
  refine fin_eq ?_
  simp [b__law_same]
  have hr := pR1_le xs.length hl
  refine sat_next (sat_next (for_sat (List.range xs.length) (fun i => .int (i : Nat)) (fun k τ => ∃ x2, τ = [some (.tup xs), some (.tup xs), x2]) (by simp [hr]) ?_ ?_ ?_))
  · exact ⟨_, rfl⟩
  · rintro k hk τ ⟨x2, rfl⟩
    simp at hk
    refine ⟨_, rfl, ?_⟩
    have := h _ (List.getElem_mem hk)
    simp [lb__law_same_0, atN, hk, this]
  · rintro τ ⟨x2, rfl⟩
    simp
theorem same_rows (rows : List Sty) (hl : rows.length ≤ 1000) : m__law_same 12 (.tup (rows.map tupS)) (.tup (rows.map tupS)) = .ok (.bl true) := by
  refine same_tup 11 _ (by rw [List.length_map]; omega) fun x hx => ?_
  obtain ⟨r, _, rfl⟩ := List.mem_map.mp hx
  refine same_tup 10 _ (by simp [rowS]) fun x hx => ?_
  simp only [rowS, List.mem_cons, List.not_mem_nil, or_false] at hx
  rcases hx with rfl | rfl | rfl
  · exact same_nm 9 _
  · exact same_int 9 _
  · exact same_int 9 _
def cutB (r q : Sty) : Bool := decide (r.2.1 < q.2.1) && (decide (q.2.1 < r.2.2) && decide (r.2.2 < q.2.2))
def apart (r q : Sty) : Bool := cutB r q || cutB q r
theorem is_cut_ok (r q : Sty) : m_is_cut_by (tupS r) (tupS q) = .ok (.bl (cutB r q)) := by
  by_cases h1 : r.2.1 < q.2.1
  · by_cases h2 : q.2.1 < r.2.2
    · simp [m_is_cut_by, b_is_cut_by, tupS, rowS, atI, ixN, cutB, h1, h2]
    · simp [m_is_cut_by, b_is_cut_by, tupS, rowS, atI, ixN, cutB, h1, h2]
  · simp [m_is_cut_by, b_is_cut_by, tupS, rowS, atI, ixN, cutB, h1]
theorem apart_ok (r q : Sty) : m_are_apart (tupS r) (tupS q) = .ok (.bl (apart r q)) := by
  have h1 := is_cut_ok r q
  have h2 := is_cut_ok q r
  simp [m_are_apart, b_are_apart, h1, h2, apart]
theorem chain3_ok (r q : Sty) (f1 f2 f3 f4 : LE → Res PV) (τ : LE) (h1 : f1 τ = .ok (.int r.2.1)) (h2 : f2 τ = .ok (.int q.2.1)) (h3 : f3 τ = .ok (.int r.2.2)) (h4 : f4 τ = .ok (.int q.2.2)) :
    eChain3 (fun i j => decide (i < j)) (fun i j => decide (i < j)) (fun i j => decide (i < j)) f1 f2 f3 f4 τ = .ok (.bl (cutB r q)) := by
  by_cases c1 : r.2.1 < q.2.1
  · by_cases c2 : q.2.1 < r.2.2
    · simp [h1, h2, h3, h4, cutB, c1, c2]
    · simp [h1, h2, h3, h4, cutB, c1, c2]
  · simp [h1, h2, h3, h4, cutB, c1]
theorem law_clash_ok (r q : Sty) : m__law_clash (tupS r) (tupS q) = .ok (.bl (apart r q)) := by
  have h1 := chain3_ok r q (e2 pIx (eVar 0) (eC (.int 1))) (e2 pIx (eVar 1) (eC (.int 1))) (e2 pIx (eVar 0) (eC (.int 2))) (e2 pIx (eVar 1) (eC (.int 2))) [some (tupS r), some (tupS q)] rfl rfl rfl rfl
  have h2 := chain3_ok q r (e2 pIx (eVar 1) (eC (.int 1))) (e2 pIx (eVar 0) (eC (.int 1))) (e2 pIx (eVar 1) (eC (.int 2))) (e2 pIx (eVar 0) (eC (.int 2))) [some (tupS r), some (tupS q)] rfl rfl rfl rfl
  simp [m__law_clash, b__law_clash, h1, h2, apart, -eChain3_s]
theorem below_int (i n : Int) : m_is_below (.int i) (.int n) = .ok (.bl (decide (0 ≤ i) && decide (i < n))) := by
  simp [m_is_below, b_is_below, m_is_integer_core_looking, b_is_integer_core_looking]
theorem clash_ok {h : Nat} {ss : List (List Nm)} {es} {rows : List Sty} (e : m_stays_in (dayV h ss es) = .ok (.lst (rows.map tupS))) {a b : Nat} (ha : a < rows.length) (hb : b < rows.length) :
    m_clash (dayV h ss es) (.int (a : Nat)) (.int (b : Nat)) = .ok (.bl (apart rows[a] rows[b])) := by
  have h1 := below_int (a : Nat) (rows.length : Nat)
  have h2 := below_int (b : Nat) (rows.length : Nat)
  have h3 := apart_ok rows[a] rows[b]
  simp [ha] at h1
  simp [hb] at h2
  simp [m_clash, b_clash, e, h1, h2, atN, ha, hb, h3]
theorem clash_bad {h : Nat} {ss : List (List Nm)} {es} {rows : List Sty} (e : m_stays_in (dayV h ss es) = .ok (.lst (rows.map tupS))) {v w : PV} {x y : Bool} (ha : m_is_below v (.int (rows.length : Nat)) = .ok (.bl x)) (hb : m_is_below w (.int (rows.length : Nat)) = .ok (.bl y)) (hxy : (x && y) = false) :
    m_clash (dayV h ss es) v w = .exc 4 [(("what" : Str), .str ("stay" : Str))] := by
  cases x
  · simp [m_clash, b_clash, e, ha]
  · have : y = false := by simpa using hxy
    subst this
    simp [m_clash, b_clash, e, ha, hb]
theorem refused_ok {d v w : PV} (h : m_clash d v w = .exc 4 [(("what" : Str), .str ("stay" : Str))]) : m__law_refused d v w = .ok (.bl true) := by
  have := pEq_str (sok_ofS "stay") (sok_ofS "stay")
  simp [m__law_refused, b__law_refused, h, ms__law_refused_3, this, List.lookup]
def odds (n : Int) : List PV := [.int (-1), .int n, .int (n + 1), .bl true, .bl false, .non, .str ("0" : Str), .tup [.int 0], .lst [.int 0], .int (10 ^ 11), .int (-n), .tup []]
theorem odd_bad (n : Nat) (hn : n ≤ 40) : ∀ v ∈ odds (n : Nat), m_is_below v (.int (n : Nat)) = .ok (.bl false) := by
  intro v hv
  simp only [odds, List.mem_cons, List.not_mem_nil, or_false] at hv
  rcases hv with rfl | rfl | rfl | rfl | rfl | rfl | rfl | rfl | rfl | rfl | rfl | rfl
  · rw [below_int]; simp
  · rw [below_int]; simp
  · rw [below_int]; simp; omega
  · simp [m_is_below, b_is_below, m_is_integer_core_looking, b_is_integer_core_looking]
  · simp [m_is_below, b_is_below, m_is_integer_core_looking, b_is_integer_core_looking]
  · simp [m_is_below, b_is_below, m_is_integer_core_looking, b_is_integer_core_looking]
  · simp [m_is_below, b_is_below, m_is_integer_core_looking, b_is_integer_core_looking]
  · simp [m_is_below, b_is_below, m_is_integer_core_looking, b_is_integer_core_looking]
  · simp [m_is_below, b_is_below, m_is_integer_core_looking, b_is_integer_core_looking]
  · rw [below_int]; simp; omega
  · rw [below_int]
    have : (decide ((0 : Int) ≤ -(n : Int)) && decide (-(n : Int) < (n : Int))) = false := by
      by_cases h : n = 0
      · subst h; rfl
      · rw [decide_eq_false (show ¬ (0 : Int) ≤ -(n : Int) by omega)]; rfl
    rw [this]
  · simp [m_is_below, b_is_below, m_is_integer_core_looking, b_is_integer_core_looking]
abbrev τw (ns : List Int) (bt dv due : PV) (n : Nat) (x5 x6 x7 x8 x9 x10 x11 x12 : Option PV) : LE := [some (.scr ns), some bt, some dv, some due, some (.int (n : Nat)), x5, x6, x7, x8, x9, x10, x11, x12]
theorem whole_true (ns : List Int) : m__law_whole (.scr ns) = .ok (.bl true) := by
  obtain ⟨h, ss, es, ed, D⟩ := day_ok ns 3
  obtain ⟨rows, hrl, e1, e2⟩ := stays_same D
  have hfl := D.all
  have ey := yard_ok D
  have edd := day_made D
  have esi := stays_in_ok (h := h) (by omega) e1
  have est := stays_ok esi
  have esm := same_rows rows (by omega)
  obtain ⟨c3, e3⟩ := cell_ok ns 3 (by decide)
  obtain ⟨ys, er, hyl, hy⟩ := row_ok c3 4 27720 19 (by decide) (by decide) (by decide) (by decide)
  obtain ⟨is, rfl, his⟩ := ints_of hy
  have hpow : CPow 10 11 := ⟨by decide, by decide, by decide⟩
  have hpw := pPow_int hpow
  have hr := pR1_le rows.length (by omega)
  have key : ∀ k : Nat, k < rows.length → (rows.map tupS)[k]? = some (tupS (rows.getD k ([], 0, 0))) := fun k hk => by
    rw [List.getElem?_map, List.getD_eq_getElem?_getD, List.getElem?_eq_getElem hk]; rfl
  let bt : PV := .tup [.int (h : Nat), stksV ss, evsV es]
  have ed : m__law_day (.scr ns) (.int 3) = .ok bt := ed
  have bt0 : pIx bt (.int 0) = some (.int (h : Nat)) := rfl
  have bt1 : pIx bt (.int 1) = some (stksV ss) := rfl
  have bt2 : pIx bt (.int 2) = some (evsV es) := rfl
  refine fin_eq ?_
  clear_value bt
  simp [b__law_whole, ed, bt0, bt1, bt2, ey, edd, e2, est, esm]
  refine sat_next (for_sat (List.range rows.length) (fun i => .int (i : Nat)) (fun k τ => ∃ x5 x9 x12, τ = τw ns bt (dayV h ss es) (.lst (rows.map tupS)) rows.length x5 none none none x9 none none x12) (by simp [hr]) ⟨none, none, none, rfl⟩ ?_ ?_)
  · rintro a ha τ ⟨x5, x9, x12, rfl⟩
    simp at ha
    refine ⟨_, rfl, ?_⟩
    simp only [lb__law_whole_1, List.getElem_range]
    refine for_sat (List.range rows.length) (fun i => .int (i : Nat)) (fun k τ => ∃ x9 x12, τ = τw ns bt (dayV h ss es) (.lst (rows.map tupS)) rows.length (some (.int (a : Nat))) none none none x9 none none x12) (by simp [hr]) ⟨x9, x12, rfl⟩ ?_ ?_
    · rintro b hb τ ⟨x9, x12, rfl⟩
      simp at hb
      refine ⟨_, rfl, ?_⟩
      have c1 := clash_ok esi ha hb
      have c2 := law_clash_ok rows[a] rows[b]
      simp [lb__law_whole_0, c1, c2, atN, ha, hb]
    · rintro τ ⟨x9, x12, rfl⟩
      exact ⟨_, _, _, rfl⟩
  · rintro τ ⟨x5, x9, x12, rfl⟩
    simp [hpw, e3, er]
    have hodd : PV.lst [PV.int (-1), PV.int (rows.length : Nat), PV.int ((rows.length : Nat) + 1), PV.bl true, PV.bl false, PV.non, PV.str (Str.ofString "0"), PV.tup [PV.int 0], PV.lst [PV.int 0], PV.int 100000000000, PV.int (-(rows.length : Nat)), PV.tup []] = .lst (odds (rows.length : Nat)) := rfl
    rw [hodd]
    refine sat_next (for_sat is .int (fun k τ => ∃ x8 x10 x11, τ = τw ns bt (dayV h ss es) (.lst (rows.map tupS)) rows.length x5 (some (.lst (odds (rows.length : Nat)))) (some (.lst (is.map .int))) x8 x9 x10 x11 x12) (by simp) ⟨none, none, none, rfl⟩ ?_ ?_)
    · rintro k hk τ ⟨x8, x10, x11, rfl⟩
      have hm := (his _ (List.getElem_mem hk)).1
      generalize is[k] = m at hm
      refine ⟨_, rfl, ?_⟩
      obtain ⟨i1, f1, g1⟩ := mod_nat (m := m) (n := 12) (by decide)
      obtain ⟨i2, f2, g2⟩ := mod_nat (m := m / 12) (n := 12) (by decide)
      have p1 := pMod_int (i := m) (j := 12) (by decide)
      have p2 := pMod_int (i := m / 12) (j := 12) (by decide)
      have p3 := pMod_int (i := m / 144) (j := 3) (by decide)
      have q1 := pDiv_int (i := m) (j := 12) ⟨by decide, by decide⟩
      have q2 := pDiv_int (i := m) (j := 144) ⟨by decide, by decide⟩
      have q3 := pDiv_int (i := m) (j := 432) ⟨by decide, by decide⟩
      rw [show m % 12 = (i1 : Nat) from f1] at p1
      rw [show m / 12 % 12 = (i2 : Nat) from f2] at p2
      have ol : (odds (rows.length : Nat)).length = 12 := rfl
      have a1 : atI (odds (rows.length : Nat)) ((i1 : Nat) : Int) = some ((odds (rows.length : Nat))[i1]'(by rw [ol]; exact g1)) := by rw [atN, List.getElem?_eq_getElem]
      have a2 : atI (odds (rows.length : Nat)) ((i2 : Nat) : Int) = some ((odds (rows.length : Nat))[i2]'(by rw [ol]; exact g2)) := by rw [atN, List.getElem?_eq_getElem]
      have b1 := odd_bad rows.length hrl _ (List.getElem_mem (l := odds (rows.length : Nat)) (n := i1) (by rw [ol]; exact g1))
      have b2 := odd_bad rows.length hrl _ (List.getElem_mem (l := odds (rows.length : Nat)) (n := i2) (by rw [ol]; exact g2))
      generalize (odds (rows.length : Nat))[i1]'(by rw [ol]; exact g1) = v at a1 b1
      generalize (odds (rows.length : Nat))[i2]'(by rw [ol]; exact g2) = w at a2 b2
      by_cases hc : 0 < rows.length ∧ 0 < m / 144 % 3
      · obtain ⟨i3, f3, g3⟩ := mod_nat (m := m / 432) (n := rows.length) hc.1
        have p4 := pMod_int (i := m / 432) (j := (rows.length : Nat)) (by omega)
        rw [f3] at p4
        have b3 := below_int (i3 : Nat) (rows.length : Nat)
        have r1 := refused_ok (clash_bad esi b1 b3 (by simp))
        have r2 := refused_ok (clash_bad esi b3 b1 (by simp))
        simp [lb__law_whole_2, p1, p2, p3, p4, q1, q2, q3, a1, a2, hc.1, hc.2, r1, r2]
      · have r1 := refused_ok (clash_bad esi b1 b2 (by simp))
        have r2 := refused_ok (clash_bad esi b2 b1 (by simp))
        simp [lb__law_whole_2, p1, p2, p3, q1, q2, q3, a1, a2, hc, r1, r2]
    · rintro τ ⟨x8, x10, x11, rfl⟩
      by_cases h0 : 0 < rows.length
      · have c1 := clash_ok esi (a := rows.length - 1) (b := 0) (by omega) h0
        have c2 := law_clash_ok rows[0] rows[rows.length - 1]
        have hs : apart rows[0] rows[rows.length - 1] = apart rows[rows.length - 1] rows[0] := Bool.or_comm _ _
        have hcast : ((rows.length : Nat) : Int) - 1 = ((rows.length - 1 : Nat) : Int) := by omega
        have hlt : rows.length - 1 < rows.length := by omega
        have h00 : atI (rows.map tupS) 0 = some (tupS rows[0]) := by
          have := atN (rows.map tupS) 0
          simp [h0] at this
          exact this
        rw [hs] at c2
        have c1' : m_clash (dayV h ss es) (.int ((rows.length - 1 : Nat) : Int)) (.int 0) = .ok (.bl (apart rows[rows.length - 1] rows[0])) := c1
        simp [gp, hcast, c1', c2, atN, hlt, h00, est, esm]
      · simp [h0, gp, est, esm]
theorem law_ok (ns : List Int) : m_law (.scr ns) = .ok (.bl true) := by
  simp [m_law, b_law, whole_true]
end K30
end
section
set_option Elab.async false
set_option linter.all false
set_option maxRecDepth 100000
namespace K30
open PySem PySem.Spec L2 Lp
theorem law_true (ns : List Int) (h : ns.length ≤ 63) : m_law (.scr ns) = .ok (.bl true) := law_ok ns
end K30
end
section
set_option Elab.async false
set_option linter.all false
set_option maxRecDepth 100000
set_option maxHeartbeats 4000000
namespace K30
open PySem PySem.Spec L2 Lp
abbrev topS (i : Nat) : Stmt := PySem.Challenge.pw_leastshifts_k30_stays_and_clashes.main.body.getD i (.Pass ⟨0, 0, 0, 0⟩)
section
variable (G : Nat → Addr) (K : PySem.W.Frag) (mg : Str → Option Value)
structure Zs : Prop where
  n_range : mg ("range" : Str) = none
  n_int : mg ("int" : Str) = none
  n_len : mg ("len" : Str) = none
  n_min : mg ("min" : Str) = none
  n_tuple : mg ("tuple" : Str) = none
  n_list : mg ("list" : Str) = none
  n_isinstance : mg ("isinstance" : Str) = none
  at_5_stacks : Cls K (G 5) ∧ NoAttr K (G 5) ("stacks" : Str)
  n_str : mg ("str" : Str) = none
  g_MOST_LETTERS : ∃ t, mg ("MOST_LETTERS" : Str) = some (.int 8 t)
  g_LETTERS : ∃ t, mg ("LETTERS" : Str) = some (.str ("abcdefghijklmnopqrstuvwxyz" : Str) t)
  n_all : mg ("all" : Str) = none
  g_OUT : ∃ t, mg ("OUT" : Str) = some (.str ("out" : Str) t)
  g_IN : ∃ t, mg ("IN" : Str) = some (.str ("in" : Str) t)
  at_6_yard : Cls K (G 6) ∧ NoAttr K (G 6) ("yard" : Str)
  at_6_events : Cls K (G 6) ∧ NoAttr K (G 6) ("events" : Str)
  n_bool : mg ("bool" : Str) = none
  at_5_height : Cls K (G 5) ∧ NoAttr K (G 5) ("height" : Str)
  n_enumerate : mg ("enumerate" : Str) = none
  c_Undefined : mg ("Undefined" : Str) = some (.ref (G 4))
  ex_1_4 : PySem.W.exmOne K (.ref (G 1)) (.ref (G 4)) = some false
  ex_2_4 : PySem.W.exmOne K (.ref (G 2)) (.ref (G 4)) = some false
  ex_3_4 : PySem.W.exmOne K (.ref (G 3)) (.ref (G 4)) = some false
  ex_4_4 : PySem.W.exmOne K (.ref (G 4)) (.ref (G 4)) = some true
  xc_4 : L2.ExcC K (G 4)
  c_YardError : mg ("YardError" : Str) = some (.ref (G 0))
  ki_4_0 : PySem.W.kitOne K (.ref (G 4)) (.ref (G 0)) = some true
  kb_4_ValueError : PySem.W.kitOne K (.ref (G 4)) (.type "ValueError") = some true
  n_ValueError : mg ("ValueError" : Str) = none
  xf_4 : XfC K (G 4)
  nf_4_what : PySem.W.findIn K (.ref (G 4)) ("what" : Str) = some none
  ex_1_0 : PySem.W.exmOne K (.ref (G 1)) (.ref (G 0)) = some true
  ex_2_0 : PySem.W.exmOne K (.ref (G 2)) (.ref (G 0)) = some true
  ex_3_0 : PySem.W.exmOne K (.ref (G 3)) (.ref (G 0)) = some true
  ex_4_0 : PySem.W.exmOne K (.ref (G 4)) (.ref (G 0)) = some true
end
section
variable {G : Nat → Addr} {K : PySem.W.Frag} {mg : Str → Option Value} {P : Program} {w : World} {base : Heap}
theorem d__law_row (Z : Zs G K mg) {f : Addr} {fd : FuncData} (Fn : Fun K ("_law_row" : Str) ("_law_row" : Str) (topS 43) f fd)  : FnOk P w K mg base (L2.CX P w) 1 f fd [("_law_cell_here" : Str), ("_law_many" : Str), ("_law_base" : Str), ("_law_salt" : Str)] (spM G K .sh 4 (ar4 m__law_row)) := by
  have S : FnScope [("_law_cell_here" : Str), ("_law_many" : Str), ("_law_base" : Str), ("_law_salt" : Str), ("_law_row_here" : Str), ("_law_left" : Str), ("_law_k" : Str), ("_law_first" : Str), ("_law_second" : Str)] [("_law_cell_here" : Str), ("_law_many" : Str), ("_law_base" : Str), ("_law_salt" : Str)] (defScope (topS 43)) := C8.fnScope_by (by decide +kernel)
  refine d_of (κ := κ__law_row) (m := b__law_row) (k := 0) Fn S (fun i hi => by revert i; decide) (fun qs hl => match qs, hl with | [_, _, _, _], _ => rfl) fun cdv A outer s H E hr => ?_
  exact (ss_cons (s_setO 4 (v_lst a_nil) S.nd)
    (ss_cons (s_set 5 v_int S.nd)
    (ss_cons (s_if (t_cmp op_ge (g_B (g := fun i j => decide (j ≤ i))) (v_up (v_var 0)) (v_up (v_op op_pow (g_I (C := CPow) (g := fun i j => i ^ j.toNat)) (v_up v_int) (v_up v_int)))) (ss_one (s_set 5 (v_var 0) S.nd)) ss_nil)
    (ss_cons (s_for (passes_of rfl) rfl (i_range1 Z.n_range (a_cons (v_var 1) a_nil)) (gv_name 6 (hN := S.nd)) gok_name (ss_one (s_if (t_cmp op_gt (g_B (g := fun i j => decide (j < i))) (v_up (v_var 5)) (v_up v_int)) (ss_cons (s_exprM (m_list 4 PySem.F.slot_list_append PySem.F.type_list_append mt_append g_app (a_cons (v_op op_mod (g_I (C := fun _ j => 0 < j) (g := fun i j => i % j)) (v_up (v_callTy call_int1 g_int Z.n_int (by kernel_rfl) (a_cons (v_up (v_var 5)) a_nil))) (v_up (v_var 2))) a_nil)))
    (ss_one (s_set 5 (v_op op_fdiv (g_I (C := CDiv) (g := fun i j => i / j)) (v_up (v_var 5)) (v_up (v_var 2))) S.nd))) (ss_cons (s_set 7 (v_op op_mod (g_I (C := fun _ j => 0 < j) (g := fun i j => i % j)) (v_up (v_callTy call_int1 g_int Z.n_int (by kernel_rfl) (a_cons (v_up (v_op op_addA g_addA (v_up (v_op op_addA g_addA (v_up (v_op op_mul (g_I (C := CMul) (g := fun i j => i * j)) (v_up (v_var 0)) (v_up v_int))) (v_up (v_op op_mul (g_I (C := CMul) (g := fun i j => i * j)) (v_up (v_var 6)) (v_up v_int))))) (v_up (v_var 3)))) a_nil))) (v_up v_int)) S.nd)
    (ss_cons (s_set 8 (v_op op_mod (g_I (C := fun _ j => 0 < j) (g := fun i j => i % j)) (v_up (v_callTy call_int1 g_int Z.n_int (by kernel_rfl) (a_cons (v_up (v_op op_addA g_addA (v_up (v_op op_addA g_addA (v_up (v_op op_mul (g_I (C := CMul) (g := fun i j => i * j)) (v_up (v_var 7)) (v_up (v_var 7)))) (v_up (v_var 0)))) (v_up (v_op op_mul (g_I (C := CMul) (g := fun i j => i * j)) (v_up (v_var 6)) (v_up v_int))))) a_nil))) (v_up v_int)) S.nd)
    (ss_one (s_exprM (m_list 4 PySem.F.slot_list_append PySem.F.type_list_append mt_append g_app (a_cons (v_op op_mod (g_I (C := fun _ j => 0 < j) (g := fun i j => i % j)) (v_up (v_callTy call_int1 g_int Z.n_int (by kernel_rfl) (a_cons (v_up (v_op op_fdiv (g_I (C := CDiv) (g := fun i j => i / j)) (v_up (v_op op_addA g_addA (v_up (v_op op_mul (g_I (C := CMul) (g := fun i j => i * j)) (v_up (v_var 8)) (v_up v_int))) (v_up (v_var 7)))) (v_up v_int))) a_nil))) (v_up (v_var 2))) a_nil)))))))))
    (ss_one (s_retF 4))))))
theorem d__law_names (Z : Zs G K mg) {f : Addr} {fd : FuncData} (Fn : Fun K ("_law_names" : Str) ("_law_names" : Str) (topS 45) f fd) (D__law_row : Dk P w K mg base 1 ("_law_row" : Str) (spM G K .sh 4 (ar4 m__law_row))) : FnOk P w K mg base (L2.CX P w) 2 f fd [("_law_cell_here" : Str), ("_law_salt" : Str), ("_law_many" : Str)] (spM G K .sh 3 (ar3 m__law_names)) := by
  have S : FnScope [("_law_cell_here" : Str), ("_law_salt" : Str), ("_law_many" : Str), ("_law_letters" : Str), ("_law_marks" : Str), ("_law_step" : Str), ("_law_head" : Str), ("_law_k" : Str), ("_law_tail" : Str), ("_law_names_here" : Str), ("_law_more" : Str)] [("_law_cell_here" : Str), ("_law_salt" : Str), ("_law_many" : Str)] (defScope (topS 45)) := C8.fnScope_by (by decide +kernel)
  refine d_of (κ := κ__law_names) (m := b__law_names) (k := 1) Fn S (fun i hi => by revert i; decide) (fun qs hl => match qs, hl with | [_, _, _], _ => rfl) fun cdv A outer s H E hr => ?_
  exact (ss_cons (s_set 3 v_str S.nd)
    (ss_cons (s_set 4 (v_call D__law_row (hr.mono (by decide)) (takes_of rfl rfl rfl rfl) (a_cons (v_var 0) (a_cons v_int (a_cons (v_op op_mul (g_I (C := CMul) (g := fun i j => i * j)) (v_up v_int) (v_up v_int)) (a_cons (v_var 1) a_nil)))) ar4_len) S.nd)
    (ss_cons (s_set 5 (v_ix (v_up (v_lst (a_cons v_int (a_cons v_int (a_cons v_int (a_cons v_int (a_cons v_int (a_cons v_int a_nil)))))))) (v_up (v_op op_mod (g_I (C := fun _ j => 0 < j) (g := fun i j => i % j)) (v_up (v_callTy call_int1 g_int Z.n_int (by kernel_rfl) (a_cons (v_up (v_ix (v_up (v_var 4)) (v_up v_int))) a_nil))) (v_up v_int)))) S.nd)
    (ss_cons (s_set 6 v_str S.nd)
    (ss_cons (s_for (passes_of rfl) rfl (i_range1 Z.n_range (a_cons (v_op op_mod (g_I (C := fun _ j => 0 < j) (g := fun i j => i % j)) (v_up (v_callTy call_int1 g_int Z.n_int (by kernel_rfl) (a_cons (v_up (v_ix (v_up (v_var 4)) (v_up v_int))) a_nil))) (v_up v_int)) a_nil)) (gv_name 7 (hN := S.nd)) gok_name (ss_one (s_set 6 (v_op op_addA g_addA (v_up (v_var 6)) (v_up (v_ix (v_up (v_var 3)) (v_up (v_op op_mod (g_I (C := fun _ j => 0 < j) (g := fun i j => i % j)) (v_up (v_callTy call_int1 g_int Z.n_int (by kernel_rfl) (a_cons (v_up (v_ix (v_up (v_var 4)) (v_up (v_op op_addA g_addA (v_up v_int) (v_up (v_var 7)))))) a_nil))) (v_up v_int)))))) S.nd)))
    (ss_cons (s_set 8 v_str S.nd)
    (ss_cons (s_for (passes_of rfl) rfl (i_range1 Z.n_range (a_cons (v_op op_mod (g_I (C := fun _ j => 0 < j) (g := fun i j => i % j)) (v_up (v_callTy call_int1 g_int Z.n_int (by kernel_rfl) (a_cons (v_up (v_ix (v_up (v_var 4)) (v_up v_int))) a_nil))) (v_up v_int)) a_nil)) (gv_name 7 (hN := S.nd)) gok_name (ss_one (s_set 8 (v_op op_addA g_addA (v_up (v_var 8)) (v_up (v_ix (v_up (v_var 3)) (v_up (v_op op_mod (g_I (C := fun _ j => 0 < j) (g := fun i j => i % j)) (v_up (v_callTy call_int1 g_int Z.n_int (by kernel_rfl) (a_cons (v_up (v_ix (v_up (v_var 4)) (v_up (v_op op_addA g_addA (v_up v_int) (v_up (v_op op_mod (g_I (C := fun _ j => 0 < j) (g := fun i j => i % j)) (v_up (v_var 7)) (v_up v_int))))))) a_nil))) (v_up v_int)))))) S.nd)))
    (ss_cons (s_setLc 9 true (own := [(("_law_k" : Str), 7)]) rfl S.nd (i_loose (i_range1 Z.n_range (a_cons (v_var 2) a_nil))) (blkOk_by (by kernel_rfl)) (fun _ _ _ _ _ => (gv_name 7 (hN := S.nd))) (fun _ _ _ _ _ => ts_nil) (fun _ _ _ _ _ => (v_op op_addA g_addA (v_up (v_op op_addA g_addA (v_up (v_var 6)) (v_up (v_ix (v_up (v_var 3)) (v_up (v_op op_mod (g_I (C := fun _ j => 0 < j) (g := fun i j => i % j)) (v_up (v_callTy call_int1 g_int Z.n_int (by kernel_rfl) (a_cons (v_up (v_op op_addA g_addA (v_up (v_ix (v_up (v_var 4)) (v_up v_int))) (v_up (v_op op_mul (g_I (C := CMul) (g := fun i j => i * j)) (v_up (v_var 5)) (v_up (v_var 7)))))) a_nil))) (v_up v_int))))))) (v_up (v_var 8)))) (by decide) gok_name)
    (ss_cons (s_set 10 (v_ix (v_up (v_var 3)) (v_up (v_op op_mod (g_I (C := fun _ j => 0 < j) (g := fun i j => i % j)) (v_up (v_callTy call_int1 g_int Z.n_int (by kernel_rfl) (a_cons (v_up (v_ix (v_up (v_var 4)) (v_up v_int))) a_nil))) (v_up v_int)))) S.nd)
    (ss_cons (s_if (t_cmp op_gt (g_B (g := fun i j => decide (j < i))) (v_up (v_op op_mod (g_I (C := fun _ j => 0 < j) (g := fun i j => i % j)) (v_up (v_op op_fdiv (g_I (C := CDiv) (g := fun i j => i / j)) (v_up (v_callTy call_int1 g_int Z.n_int (by kernel_rfl) (a_cons (v_up (v_ix (v_up (v_var 4)) (v_up v_int))) a_nil))) (v_up v_int))) (v_up v_int))) (v_up v_int)) (ss_one (s_for (passes_of rfl) rfl (i_range3 Z.n_range (a_cons v_int (a_cons (v_var 2) (a_cons v_int a_nil)))) (gv_name 7 (hN := S.nd)) gok_name (ss_cons (s_setI 9 (v_op op_sub g_sub (v_up (v_var 7)) (v_up v_int)) (v_op op_addA g_addA (v_up (v_ix (v_own 9) (v_up (v_op op_sub g_sub (v_up (v_var 7)) (v_up v_int))))) (v_up (v_var 10))))
    (ss_one (s_setI 9 (v_var 7) (v_op op_addA g_addA (v_up (v_op op_addA g_addA (v_up (v_var 10)) (v_up (v_ix (v_own 9) (v_up (v_op op_sub g_sub (v_up (v_var 7)) (v_up v_int))))))) (v_up (v_var 10)))))))) ss_nil)
    (ss_one (s_retF 9))))))))))))
theorem d__law_stacks (Z : Zs G K mg) {f : Addr} {fd : FuncData} (Fn : Fun K ("_law_stacks" : Str) ("_law_stacks" : Str) (topS 46) f fd)  : FnOk P w K mg base (L2.CX P w) 1 f fd [("_law_marks" : Str), ("_law_names_here" : Str), ("_law_count" : Str), ("_law_height" : Str)] (spM G K .sh 4 (ar4 m__law_stacks)) := by
  have S : FnScope [("_law_marks" : Str), ("_law_names_here" : Str), ("_law_count" : Str), ("_law_height" : Str), ("_law_rows" : Str), ("_law_k" : Str), ("_law_free" : Str), ("_law_i" : Str)] [("_law_marks" : Str), ("_law_names_here" : Str), ("_law_count" : Str), ("_law_height" : Str)] (defScope (topS 46)) := C8.fnScope_by (by decide +kernel)
  refine d_of (κ := κ__law_stacks) (m := b__law_stacks) (k := 0) Fn S (fun i hi => by revert i; decide) (fun qs hl => match qs, hl with | [_, _, _, _], _ => rfl) fun cdv A outer s H E hr => ?_
  exact (ss_cons (s_setO 4 (v_lc (own := [(("_law_k" : Str), 5)]) rfl S.nd (i_loose (i_range1 Z.n_range (a_cons (v_var 2) a_nil))) (blkOk_by (by kernel_rfl)) (fun _ _ _ _ _ => (gv_name 5 (hN := S.nd))) (fun _ _ _ _ _ => ts_nil) (fun _ _ _ _ _ => (v_tup a_nil)) (by decide) gok_name) S.nd)
    (ss_cons (s_for (passes_of rfl) rfl (i_range1 Z.n_range (a_cons (v_callB (call_min2 rfl) (g_I2 (g := fun i j => if j < i then j else i)) Z.n_min (by kernel_rfl) (a_cons (v_up (v_callB call_lenV g_len Z.n_len (by kernel_rfl) (a_cons (v_up (v_var 1)) a_nil))) (a_cons (v_up (v_op op_mul (g_I (C := CMul) (g := fun i j => i * j)) (v_up (v_var 2)) (v_up (v_var 3)))) a_nil))) a_nil)) (gv_name 5 (hN := S.nd)) gok_name (ss_cons (s_setLc 6 false (own := [(("_law_i" : Str), 7)]) rfl S.nd (i_loose (i_range1 Z.n_range (a_cons (v_var 2) a_nil))) (blkOk_by (by kernel_rfl)) (fun _ _ _ _ _ => (gv_name 7 (hN := S.nd))) (fun _ _ _ _ _ => (ts_one (t_cmp op_lt (g_B (g := fun i j => decide (i < j))) (v_up (v_callB call_lenV g_len Z.n_len (by kernel_rfl) (a_cons (v_up (v_ix (v_own 4) (v_up (v_var 7)))) a_nil))) (v_up (v_var 3))))) (fun _ _ _ _ _ => (v_var 7)) (by decide) gok_name)
    (ss_cons (s_set 7 (v_ix (v_up (v_var 6)) (v_up (v_op op_mod (g_I (C := fun _ j => 0 < j) (g := fun i j => i % j)) (v_up (v_callTy call_int1 g_int Z.n_int (by kernel_rfl) (a_cons (v_up (v_ix (v_up (v_var 0)) (v_up (v_var 5)))) a_nil))) (v_up (v_callB call_lenV g_len Z.n_len (by kernel_rfl) (a_cons (v_up (v_var 6)) a_nil)))))) S.nd)
    (ss_one (s_setI 4 (v_var 7) (v_op op_addA g_addA (v_up (v_ix (v_own 4) (v_up (v_var 7)))) (v_up (v_tup (a_cons (v_ix (v_up (v_var 1)) (v_up (v_var 5))) a_nil)))))))))
    (ss_one (s_ret (v_callTy call_tuple_of g_tuple Z.n_tuple (by kernel_rfl) (a_cons (v_own 4) a_nil))))))
theorem d__law_cell (Z : Zs G K mg) {f : Addr} {fd : FuncData} (Fn : Fun K ("_law_cell" : Str) ("_law_cell" : Str) (topS 42) f fd)  : FnOk P w K mg base (L2.CX P w) 1 f fd [("_law_script" : Str), ("_law_k" : Str)] (spM G K .sh 2 (ar2 m__law_cell)) := by
  have S : FnScope [("_law_script" : Str), ("_law_k" : Str)] [("_law_script" : Str), ("_law_k" : Str)] (defScope (topS 42)) := C8.fnScope_by (by decide +kernel)
  refine d_of (κ := κ__law_cell) (m := b__law_cell) (k := 0) Fn S (fun i hi => by revert i; decide) (fun qs hl => match qs, hl with | [_, _], _ => rfl) fun cdv A outer s H E hr => ?_
  exact (ss_cons (s_if (t_cmp op_lt (g_B (g := fun i j => decide (i < j))) (v_up (v_var 1)) (v_up (v_callB call_lenV g_len Z.n_len (by kernel_rfl) (a_cons (v_up (v_var 0)) a_nil)))) (ss_one (s_ret (v_ix (v_up (v_var 0)) (v_up (v_var 1))))) ss_nil)
    (ss_one (s_ret v_int)))
theorem d__law_boxes (Z : Zs G K mg) {f : Addr} {fd : FuncData} (Fn : Fun K ("_law_boxes" : Str) ("_law_boxes" : Str) (topS 47) f fd)  : FnOk P w K mg base (L2.CX P w) 1 f fd [("_law_stacks_here" : Str)] (spM G K .fr 1 (ar1 m__law_boxes)) := by
  have S : FnScope [("_law_stacks_here" : Str), ("_law_found" : Str), ("_law_row_here" : Str)] [("_law_stacks_here" : Str)] (defScope (topS 47)) := C8.fnScope_by (by decide +kernel)
  refine d_of (κ := κ__law_boxes) (m := b__law_boxes) (k := 0) Fn S (fun i hi => by revert i; decide) (fun qs hl => match qs, hl with | [_], _ => rfl) fun cdv A outer s H E hr => ?_
  exact (ss_cons (s_setO 1 (v_lst a_nil) S.nd)
    (ss_cons (s_for (passes_of rfl) rfl (i_seq (v_var 0)) (gv_name 2 (hN := S.nd)) gok_name (ss_one (s_setO 1 (v_op op_catR g_cat (v_own 1) (v_up (v_callTy call_list_of g_list Z.n_list (by kernel_rfl) (a_cons (v_up (v_var 2)) a_nil)))) S.nd)))
    (ss_one (s_retO 1))))
theorem d__law_events (Z : Zs G K mg) {f : Addr} {fd : FuncData} (Fn : Fun K ("_law_events" : Str) ("_law_events" : Str) (topS 48) f fd) (D__law_boxes : Dk P w K mg base 1 ("_law_boxes" : Str) (spM G K .fr 1 (ar1 m__law_boxes))) : FnOk P w K mg base (L2.CX P w) 2 f fd [("_law_marks" : Str), ("_law_stacks_here" : Str), ("_law_fresh" : Str), ("_law_comings" : Str)] (spM G K .sh 4 (ar4 m__law_events)) := by
  have S : FnScope [("_law_marks" : Str), ("_law_stacks_here" : Str), ("_law_fresh" : Str), ("_law_comings" : Str), ("_law_here" : Str), ("_law_new" : Str), ("_law_gone" : Str), ("_law_events_here" : Str), ("_law_mark" : Str), ("_law_name" : Str)] [("_law_marks" : Str), ("_law_stacks_here" : Str), ("_law_fresh" : Str), ("_law_comings" : Str)] (defScope (topS 48)) := C8.fnScope_by (by decide +kernel)
  refine d_of (κ := κ__law_events) (m := b__law_events) (k := 1) Fn S (fun i hi => by revert i; decide) (fun qs hl => match qs, hl with | [_, _, _, _], _ => rfl) fun cdv A outer s H E hr => ?_
  exact (ss_cons (s_setO 4 (v_call D__law_boxes (hr.mono (by decide)) (takes_of rfl rfl rfl rfl) (a_cons (v_var 1) a_nil) ar1_len) S.nd)
    (ss_cons (s_setO 5 (v_callTy call_list_of g_list Z.n_list (by kernel_rfl) (a_cons (v_up (v_var 2)) a_nil)) S.nd)
    (ss_cons (s_setO 6 (v_lst a_nil) S.nd)
    (ss_cons (s_setO 7 (v_lst a_nil) S.nd)
    (ss_cons (s_for (passes_of rfl) rfl (i_seq (v_var 0)) (gv_name 8 (hN := S.nd)) gok_name (ss_one (s_if (t_w (tw_and (t_w (tw_or (t_cmp op_lt (g_B (g := fun i j => decide (i < j))) (v_up (v_op op_mod (g_I (C := fun _ j => 0 < j) (g := fun i j => i % j)) (v_up (v_callTy call_int1 g_int Z.n_int (by kernel_rfl) (a_cons (v_up (v_var 8)) a_nil))) (v_up v_int))) (v_up v_int)) (tw_or1 (t_cmp (op_eqD hr.units) g_eq (v_up (v_callB call_lenV g_len Z.n_len (by kernel_rfl) (a_cons (v_own 4) a_nil))) (v_up v_int))))) (tw_and (t_cmp op_gt (g_B (g := fun i j => decide (j < i))) (v_up (v_var 3)) (v_up v_int)) (tw_and1 (t_cmp op_gt (g_B (g := fun i j => decide (j < i))) (v_up (v_op op_addA g_addA (v_up (v_callB call_lenV g_len Z.n_len (by kernel_rfl) (a_cons (v_own 5) a_nil))) (v_up (v_callB call_lenV g_len Z.n_len (by kernel_rfl) (a_cons (v_own 6) a_nil))))) (v_up v_int)))))) (ss_cons (s_set 3 (v_op op_sub g_sub (v_up (v_var 3)) (v_up v_int)) S.nd)
    (ss_cons (s_if (t_w (tw_and (t_cmp op_gt (g_B (g := fun i j => decide (j < i))) (v_up (v_callB call_lenV g_len Z.n_len (by kernel_rfl) (a_cons (v_own 6) a_nil))) (v_up v_int)) (tw_and1 (t_w (tw_or (t_cmp (op_eqD hr.units) g_eq (v_up (v_callB call_lenV g_len Z.n_len (by kernel_rfl) (a_cons (v_own 5) a_nil))) (v_up v_int)) (tw_or1 (t_cmp (op_eqD hr.units) g_eq (v_up (v_op op_mod (g_I (C := fun _ j => 0 < j) (g := fun i j => i % j)) (v_up (v_op op_fdiv (g_I (C := CDiv) (g := fun i j => i / j)) (v_up (v_callTy call_int1 g_int Z.n_int (by kernel_rfl) (a_cons (v_up (v_var 8)) a_nil))) (v_up v_int))) (v_up v_int))) (v_up v_int)))))))) (ss_one (s_setM 9 (m_list 6 PySem.F.slot_list_pop PySem.F.type_list_pop mt_popAt g_popAt (a_cons (v_op op_mod (g_I (C := fun _ j => 0 < j) (g := fun i j => i % j)) (v_up (v_op op_fdiv (g_I (C := CDiv) (g := fun i j => i / j)) (v_up (v_callTy call_int1 g_int Z.n_int (by kernel_rfl) (a_cons (v_up (v_var 8)) a_nil))) (v_up v_int))) (v_up (v_callB call_lenV g_len Z.n_len (by kernel_rfl) (a_cons (v_own 6) a_nil)))) a_nil)) S.nd)) (ss_one (s_setM 9 (m_list 5 PySem.F.slot_list_pop PySem.F.type_list_pop mt_popAt g_popAt (a_cons v_int a_nil)) S.nd)))
    (ss_cons (s_exprM (m_list 4 PySem.F.slot_list_append PySem.F.type_list_append mt_append g_app (a_cons (v_var 9) a_nil)))
    (ss_one (s_exprM (m_list 7 PySem.F.slot_list_append PySem.F.type_list_append mt_append g_app (a_cons (v_tup (a_cons v_str (a_cons (v_var 9) a_nil))) a_nil))))))) (ss_one (s_if (t_cmp op_gt (g_B (g := fun i j => decide (j < i))) (v_up (v_callB call_lenV g_len Z.n_len (by kernel_rfl) (a_cons (v_own 4) a_nil))) (v_up v_int)) (ss_cons (s_set 9 (v_ix (v_own 4) (v_up v_int)) S.nd)
    (ss_cons (s_if (t_cmp op_gt (g_B (g := fun i j => decide (j < i))) (v_up (v_op op_mod (g_I (C := fun _ j => 0 < j) (g := fun i j => i % j)) (v_up (v_op op_fdiv (g_I (C := CDiv) (g := fun i j => i / j)) (v_up (v_callTy call_int1 g_int Z.n_int (by kernel_rfl) (a_cons (v_up (v_var 8)) a_nil))) (v_up v_int))) (v_up v_int))) (v_up v_int)) (ss_one (s_set 9 (v_ix (v_own 4) (v_up (v_op op_mod (g_I (C := fun _ j => 0 < j) (g := fun i j => i % j)) (v_up (v_op op_fdiv (g_I (C := CDiv) (g := fun i j => i / j)) (v_up (v_callTy call_int1 g_int Z.n_int (by kernel_rfl) (a_cons (v_up (v_var 8)) a_nil))) (v_up v_int))) (v_up (v_callB call_lenV g_len Z.n_len (by kernel_rfl) (a_cons (v_own 4) a_nil)))))) S.nd)) ss_nil)
    (ss_cons (s_exprM (m_list 4 PySem.F.slot_list_remove PySem.F.type_list_remove mt_removeV g_rem (a_cons (v_var 9) a_nil)))
    (ss_cons (s_exprM (m_list 6 PySem.F.slot_list_append PySem.F.type_list_append mt_append g_app (a_cons (v_var 9) a_nil)))
    (ss_one (s_exprM (m_list 7 PySem.F.slot_list_append PySem.F.type_list_append mt_append g_app (a_cons (v_tup (a_cons v_str (a_cons (v_var 9) a_nil))) a_nil)))))))) ss_nil)))))
    (ss_one (s_ret (v_callTy call_tuple_of g_tuple Z.n_tuple (by kernel_rfl) (a_cons (v_own 7) a_nil)))))))))
theorem d__law_day (Z : Zs G K mg) {f : Addr} {fd : FuncData} (Fn : Fun K ("_law_day" : Str) ("_law_day" : Str) (topS 49) f fd) (D__law_row : Dk P w K mg base 1 ("_law_row" : Str) (spM G K .sh 4 (ar4 m__law_row))) (D__law_cell : Dk P w K mg base 1 ("_law_cell" : Str) (spM G K .sh 2 (ar2 m__law_cell))) (D__law_names : Dk P w K mg base 2 ("_law_names" : Str) (spM G K .sh 3 (ar3 m__law_names))) (D__law_stacks : Dk P w K mg base 1 ("_law_stacks" : Str) (spM G K .sh 4 (ar4 m__law_stacks))) (D__law_events : Dk P w K mg base 2 ("_law_events" : Str) (spM G K .sh 4 (ar4 m__law_events))) : FnOk P w K mg base (L2.CX P w) 3 f fd [("_law_script" : Str), ("_law_salt" : Str)] (spM G K .sh 2 (ar2 m__law_day)) := by
  have S : FnScope [("_law_script" : Str), ("_law_salt" : Str), ("_law_heads" : Str), ("_law_names_here" : Str), ("_law_height" : Str), ("_law_count" : Str), ("_law_many" : Str), ("_law_stacks_here" : Str), ("_law_marks" : Str)] [("_law_script" : Str), ("_law_salt" : Str)] (defScope (topS 49)) := C8.fnScope_by (by decide +kernel)
  refine d_of (κ := κ__law_day) (m := b__law_day) (k := 2) Fn S (fun i hi => by revert i; decide) (fun qs hl => match qs, hl with | [_, _], _ => rfl) fun cdv A outer s H E hr => ?_
  exact (ss_cons (s_set 2 (v_call D__law_row (hr.mono (by decide)) (takes_of rfl rfl rfl rfl) (a_cons (v_call D__law_cell (hr.mono (by decide)) (takes_of rfl rfl rfl rfl) (a_cons (v_var 0) (a_cons v_int a_nil)) ar2_len) (a_cons v_int (a_cons v_int (a_cons (v_var 1) a_nil)))) ar4_len) S.nd)
    (ss_cons (s_set 3 (v_call D__law_names (hr.mono (by decide)) (takes_of rfl rfl rfl rfl) (a_cons (v_call D__law_cell (hr.mono (by decide)) (takes_of rfl rfl rfl rfl) (a_cons (v_var 0) (a_cons v_int a_nil)) ar2_len) (a_cons (v_op op_addA g_addA (v_up (v_var 1)) (v_up v_int)) (a_cons v_int a_nil))) ar3_len) S.nd)
    (ss_cons (s_set 4 (v_op op_addA g_addA (v_up v_int) (v_up (v_op op_mod (g_I (C := fun _ j => 0 < j) (g := fun i j => i % j)) (v_up (v_callTy call_int1 g_int Z.n_int (by kernel_rfl) (a_cons (v_up (v_ix (v_up (v_var 2)) (v_up v_int))) a_nil))) (v_up v_int)))) S.nd)
    (ss_cons (s_set 5 (v_op op_addA g_addA (v_up v_int) (v_up (v_op op_mod (g_I (C := fun _ j => 0 < j) (g := fun i j => i % j)) (v_up (v_callTy call_int1 g_int Z.n_int (by kernel_rfl) (a_cons (v_up (v_ix (v_up (v_var 2)) (v_up v_int))) a_nil))) (v_up v_int)))) S.nd)
    (ss_cons (s_set 6 (v_callB (call_min2 rfl) (g_I2 (g := fun i j => if j < i then j else i)) Z.n_min (by kernel_rfl) (a_cons (v_up (v_op op_mul (g_I (C := CMul) (g := fun i j => i * j)) (v_up (v_var 4)) (v_up (v_var 5)))) (a_cons (v_up (v_op op_mod (g_I (C := fun _ j => 0 < j) (g := fun i j => i % j)) (v_up (v_callTy call_int1 g_int Z.n_int (by kernel_rfl) (a_cons (v_up (v_ix (v_up (v_var 2)) (v_up v_int))) a_nil))) (v_up v_int))) a_nil))) S.nd)
    (ss_cons (s_set 7 (v_call D__law_stacks (hr.mono (by decide)) (takes_of rfl rfl rfl rfl) (a_cons (v_slice sl_A g_slA (v_up (v_var 2)) (o_some v_int) (o_some v_int)) (a_cons (v_slice sl_A g_slA (v_up (v_var 3)) o_none (o_some (v_var 6))) (a_cons (v_var 5) (a_cons (v_var 4) a_nil)))) ar4_len) S.nd)
    (ss_cons (s_set 8 (v_call D__law_row (hr.mono (by decide)) (takes_of rfl rfl rfl rfl) (a_cons (v_call D__law_cell (hr.mono (by decide)) (takes_of rfl rfl rfl rfl) (a_cons (v_var 0) (a_cons v_int a_nil)) ar2_len) (a_cons (v_op op_mod (g_I (C := fun _ j => 0 < j) (g := fun i j => i % j)) (v_up (v_callTy call_int1 g_int Z.n_int (by kernel_rfl) (a_cons (v_up (v_ix (v_up (v_var 2)) (v_up v_int))) a_nil))) (v_up v_int)) (a_cons v_int (a_cons (v_op op_addA g_addA (v_up (v_var 1)) (v_up v_int)) a_nil)))) ar4_len) S.nd)
    (ss_one (s_ret (v_tup (a_cons (v_var 4) (a_cons (v_var 7) (a_cons (v_call D__law_events (hr.mono (by decide)) (takes_of rfl rfl rfl rfl) (a_cons (v_var 8) (a_cons (v_var 7) (a_cons (v_slice sl_A g_slA (v_up (v_var 3)) (o_some (v_var 6)) o_none) (a_cons v_int a_nil)))) ar4_len) a_nil)))))))))))))
theorem d_is_sequence (Z : Zs G K mg) {f : Addr} {fd : FuncData} (Fn : Fun K ("is_sequence" : Str) ("is_sequence" : Str) (topS 21) f fd)  : FnOk P w K mg base (L2.CX P w) 1 f fd [("value" : Str)] (spM G K .sh 1 (ar1 m_is_sequence)) := by
  have S : FnScope [("value" : Str)] [("value" : Str)] (defScope (topS 21)) := C8.fnScope_by (by decide +kernel)
  refine d_of (κ := κ_is_sequence) (m := b_is_sequence) (k := 0) Fn S (fun i hi => by revert i; decide) (fun qs hl => match qs, hl with | [_], _ => rfl) fun cdv A outer s H E hr => ?_
  exact (ss_one (s_ret (v_isi2 "list" "tuple" (v_up (v_var 0)) Z.n_isinstance Z.n_list Z.n_tuple (by kernel_rfl) (by kernel_rfl))))
theorem d_boxes_of (Z : Zs G K mg) {f : Addr} {fd : FuncData} (Fn : Fun K ("boxes_of" : Str) ("boxes_of" : Str) (topS 30) f fd)  : FnOk P w K mg base (L2.CX P w) 1 f fd [("yard" : Str)] (spM G K .sh 1 (ar1 m_boxes_of)) := by
  have S : FnScope [("yard" : Str), ("stack" : Str), ("name" : Str)] [("yard" : Str)] (defScope (topS 30)) := C8.fnScope_by (by decide +kernel)
  refine d_of (κ := κ_boxes_of) (m := b_boxes_of) (k := 0) Fn S (fun i hi => by revert i; decide) (fun qs hl => match qs, hl with | [_], _ => rfl) fun cdv A outer s H E hr => ?_
  exact (ss_one (s_ret (v_callTy call_tuple_of g_tuple Z.n_tuple (by kernel_rfl) (a_cons (v_up (v_lc2 (own := [(("stack" : Str), 1), (("name" : Str), 2)]) (own1 := [2]) rfl S.nd (i_loose (i_seq (v_att (fun c => c == 5) (fun c h => by obtain rfl := eq_of_beq h; exact Z.at_5_stacks) (v_up (v_var 0))))) (blkOk_by (by kernel_rfl)) (by decide) (fun _ _ _ _ _ => (gv_name 1 (hN := S.nd))) (fun _ _ _ _ _ => ts_nil) (fun _ _ _ _ _ => (i_seq (v_var 1))) (fun _ _ _ _ _ => (gv_name 2 (hN := S.nd))) (fun _ _ _ _ _ => ts_nil) (fun _ _ _ _ _ => (v_var 2)) (by decide) gok_name (by decide) gok_name)) a_nil))))
theorem d_is_name (Z : Zs G K mg) {f : Addr} {fd : FuncData} (Fn : Fun K ("is_name" : Str) ("is_name" : Str) (topS 22) f fd)  : FnOk P w K mg base (L2.CX P w) 1 f fd [("value" : Str)] (spM G K .sh 1 (ar1 m_is_name)) := by
  have S : FnScope [("value" : Str), ("sign" : Str)] [("value" : Str)] (defScope (topS 22)) := C8.fnScope_by (by decide +kernel)
  refine d_of (κ := κ_is_name) (m := b_is_name) (k := 0) Fn S (fun i hi => by revert i; decide) (fun qs hl => match qs, hl with | [_], _ => rfl) fun cdv A outer s H E hr => ?_
  exact (ss_cons (s_if (t_w (tw_or (t_not (t_val (v_callB call_isi g_isi Z.n_isinstance (by kernel_rfl) (a_cons (v_up (v_var 0)) (a_cons (v_up (v_gty Z.n_str (by kernel_rfl))) a_nil))))) (tw_or1 (t_not (t_chain op_le op_le (g_B (g := fun i j => decide (i ≤ j))) (g_B (g := fun i j => decide (i ≤ j))) (v_up v_int) (v_up (v_callB call_lenV g_len Z.n_len (by kernel_rfl) (a_cons (v_up (v_var 0)) a_nil))) (v_up (v_gintE Z.g_MOST_LETTERS))))))) (ss_one (s_ret v_bl)) ss_nil)
    (ss_one (s_ret (v_callB (cr_all rfl) g_all Z.n_all (by kernel_rfl) (a_cons (v_up (v_lc (own := [(("sign" : Str), 1)]) rfl S.nd (i_loose (i_seq (v_var 0))) (blkOk_by (by kernel_rfl)) (fun _ _ _ _ _ => (gv_name 1 (hN := S.nd))) (fun _ _ _ _ _ => ts_nil) (fun _ _ _ _ _ => (v_cmp op_inV (g_in (n := false)) (v_up (v_var 1)) (v_up (v_gstrE Z.g_LETTERS)))) (by decide) gok_name)) a_nil)))))
theorem d_is_event (Z : Zs G K mg) {f : Addr} {fd : FuncData} (Fn : Fun K ("is_event" : Str) ("is_event" : Str) (topS 38) f fd) (D_is_name : Dk P w K mg base 1 ("is_name" : Str) (spM G K .sh 1 (ar1 m_is_name))) : FnOk P w K mg base (L2.CX P w) 2 f fd [("value" : Str)] (spM G K .sh 1 (ar1 m_is_event)) := by
  have S : FnScope [("value" : Str)] [("value" : Str)] (defScope (topS 38)) := C8.fnScope_by (by decide +kernel)
  refine d_of (κ := κ_is_event) (m := b_is_event) (k := 1) Fn S (fun i hi => by revert i; decide) (fun qs hl => match qs, hl with | [_], _ => rfl) fun cdv A outer s H E hr => ?_
  exact (ss_cons (s_if (t_w (tw_or (t_not (t_val (v_callB call_isi g_isi Z.n_isinstance (by kernel_rfl) (a_cons (v_up (v_var 0)) (a_cons (v_up (v_gty Z.n_tuple (by kernel_rfl))) a_nil))))) (tw_or (t_cmp (op_neD hr.units) g_ne (v_up (v_callB call_lenV g_len Z.n_len (by kernel_rfl) (a_cons (v_up (v_var 0)) a_nil))) (v_up v_int)) (tw_or1 (t_not (t_val (v_callB call_isi g_isi Z.n_isinstance (by kernel_rfl) (a_cons (v_up (v_ix (v_up (v_var 0)) (v_up v_int))) (a_cons (v_up (v_gty Z.n_str (by kernel_rfl))) a_nil))))))))) (ss_one (s_ret v_bl)) ss_nil)
    (ss_one (s_ret (v_and (v_cmp op_inV (g_in (n := false)) (v_up (v_ix (v_up (v_var 0)) (v_up v_int))) (v_up (v_tup (a_cons (v_gstrE Z.g_IN) (a_cons (v_gstrE Z.g_OUT) a_nil))))) (v_one (v_call D_is_name (hr.mono (by decide)) (takes_of rfl rfl rfl rfl) (a_cons (v_ix (v_up (v_var 0)) (v_up v_int)) a_nil) ar1_len))))))
theorem d_as_events (Z : Zs G K mg) {f : Addr} {fd : FuncData} (Fn : Fun K ("as_events" : Str) ("as_events" : Str) (topS 39) f fd) (D_is_sequence : Dk P w K mg base 1 ("is_sequence" : Str) (spM G K .sh 1 (ar1 m_is_sequence))) (D_is_event : Dk P w K mg base 2 ("is_event" : Str) (spM G K .sh 1 (ar1 m_is_event))) (D_boxes_of : Dk P w K mg base 1 ("boxes_of" : Str) (spM G K .sh 1 (ar1 m_boxes_of))) : FnOk P w K mg base (L2.CX P w) 3 f fd [("yard" : Str), ("value" : Str)] (spM G K .sh 2 (ar2 m_as_events)) := by
  have S : FnScope [("yard" : Str), ("value" : Str), ("there" : Str), ("word" : Str), ("name" : Str), ("event" : Str)] [("yard" : Str), ("value" : Str)] (defScope (topS 39)) := C8.fnScope_by (by decide +kernel)
  refine d_of (κ := κ_as_events) (m := b_as_events) (k := 2) Fn S (fun i hi => by revert i; decide) (fun qs hl => match qs, hl with | [_, _], _ => rfl) fun cdv A outer s H E hr => ?_
  exact (ss_cons (s_if (t_w (tw_or (t_not (t_val (v_call D_is_sequence (hr.mono (by decide)) (takes_of rfl rfl rfl rfl) (a_cons (v_var 1) a_nil) ar1_len))) (tw_or1 (t_not (t_val (v_callB (cr_all rfl) g_all Z.n_all (by kernel_rfl) (a_cons (v_up (v_lc (own := [(("event" : Str), 5)]) rfl S.nd (i_loose (i_seq (v_var 1))) (blkOk_by (by kernel_rfl)) (fun _ _ _ _ _ => (gv_name 5 (hN := S.nd))) (fun _ _ _ _ _ => ts_nil) (fun _ _ _ _ _ => (v_call D_is_event (hr.mono (by decide)) (takes0) (a_cons (v_var 5) a_nil) ar1_len)) (by decide) gok_name)) a_nil))))))) (ss_one (s_ret v_non)) ss_nil)
    (ss_cons (s_setDc 2 true (own := [(("name" : Str), 4)]) rfl S.nd (i_loose (i_seq (v_call D_boxes_of (hr.mono (by decide)) (takes_of rfl rfl rfl rfl) (a_cons (v_var 0) a_nil) ar1_len))) (blkOk_by (by kernel_rfl)) (fun _ _ _ _ _ => (gv_name 4 (hN := S.nd))) (fun _ _ _ _ _ => ts_nil) (fun _ _ _ _ _ => (v_var 4)) (fun _ _ _ _ _ => v_bl) (by decide) gok_name)
    (ss_cons (s_for (passes_of rfl) rfl (i_seq (v_var 1)) (gv_tup rfl (gvs_cons (gv_name 3 (hN := S.nd)) (gvs_cons (gv_name 4 (hN := S.nd)) gvs_nil (fun _ _ => rfl)) (fun _ _ => rfl))) (gok_tup (goks_cons gok_name (goks_cons gok_name goks_nil))) (ss_cons (s_if (t_cmp (op_eqD hr.units) g_eq (v_up (v_din (hu_of hr) (v_var 4) (v_own 2))) (v_up (v_cmp (op_eqD hr.units) g_eq (v_up (v_var 3)) (v_up (v_gstrE Z.g_IN))))) (ss_one (s_ret v_non)) ss_nil)
    (ss_one (s_if (t_cmp (op_eqD hr.units) g_eq (v_up (v_var 3)) (v_up (v_gstrE Z.g_IN))) (ss_one (s_put 2 (hu_of hr) (v_var 4) v_bl)) (ss_one (s_del 2 (v_var 4)))))))
    (ss_one (s_ret (v_callTy call_tuple_of g_tuple Z.n_tuple (by kernel_rfl) (a_cons (v_up (v_var 1)) a_nil)))))))
theorem d_Day (Z : Zs G K mg) {f : Addr} {fd : FuncData} (Fn : Fun K "__init__" ("Day.__init__" : Str) (inClass (topS 40) 0) f fd) (D_as_events : Dk P w K mg base 3 ("as_events" : Str) (spM G K .sh 2 (ar2 m_as_events))) (X_InvalidDay : ExcC P w K mg base 1 ("InvalidDay" : Str) (G 2) (spX1 (G 2) ("value" : Str))) : FnOk P w K mg base (L2.CX P w) 4 f fd [("self" : Str), ("yard" : Str), ("events" : Str)] (spI G K 6 2 (ar2 m_Day)) := by
  have S : FnScope [("self" : Str), ("yard" : Str), ("events" : Str), ("told" : Str)] [("self" : Str), ("yard" : Str), ("events" : Str)] (defScope (inClass (topS 40) 0)) := C8.fnScope_by (by decide +kernel)
  refine d_init (κ := κ_Day) (m := b_Day) (k := 3) (n := 2) Fn S rfl rfl (fun i hi => by revert i; decide) (fun qs hl => match qs, hl with | [_, _], _ => rfl) fun cdv A outer s H E hr => ?_
  exact (ss_cons (s_set 3 (v_call D_as_events (hr.mono (by decide)) (takes_of rfl rfl rfl rfl) (a_cons (v_var 1) (a_cons (v_var 2) a_nil)) ar2_len) S.nd)
    (ss_cons (s_if (t_cmp op_isN g_isN (v_up (v_var 3)) (v_up v_non)) (ss_one (s_raise rfl (takes_of rfl rfl rfl rfl) X_InvalidDay (hr.mono (by decide)) (v_var 2))) ss_nil)
    (ss_cons (s_fld 0 6 Z.at_6_yard.1 Z.at_6_yard.2 (v_var 1))
    (ss_one (s_fld 0 6 Z.at_6_events.1 Z.at_6_events.2 (v_var 3))))))
theorem d__law_is_integer (Z : Zs G K mg) {f : Addr} {fd : FuncData} (Fn : Fun K ("_law_is_integer" : Str) ("_law_is_integer" : Str) (topS 44) f fd)  : FnOk P w K mg base (L2.CX P w) 1 f fd [("_law_value" : Str)] (spM G K .sh 1 (ar1 m__law_is_integer)) := by
  have S : FnScope [("_law_value" : Str)] [("_law_value" : Str)] (defScope (topS 44)) := C8.fnScope_by (by decide +kernel)
  refine d_of (κ := κ__law_is_integer) (m := b__law_is_integer) (k := 0) Fn S (fun i hi => by revert i; decide) (fun qs hl => match qs, hl with | [_], _ => rfl) fun cdv A outer s H E hr => ?_
  exact (ss_one (s_ret (v_and (v_callB call_isi g_isi Z.n_isinstance (by kernel_rfl) (a_cons (v_up (v_var 0)) (a_cons (v_up (v_gty Z.n_int (by kernel_rfl))) a_nil))) (v_one (v_not (v_callB call_isi g_isi Z.n_isinstance (by kernel_rfl) (a_cons (v_up (v_var 0)) (a_cons (v_up (v_gty Z.n_bool (by kernel_rfl))) a_nil))))))))
theorem d__law_same (Z : Zs G K mg) {f : Addr} {fd : FuncData} (Fn : Fun K ("_law_same" : Str) ("_law_same" : Str) (topS 52) f fd) (hm : mg ("_law_same" : Str) = some (.ref f)) (hb : Binds K fd [("_law_given" : Str), ("_law_due" : Str)] []) (D__law_is_integer : Dk P w K mg base 1 ("_law_is_integer" : Str) (spM G K .sh 1 (ar1 m__law_is_integer))) : ∀ n, FnOk P w K mg base (L2.CX P w) (2 + n) f fd [("_law_given" : Str), ("_law_due" : Str)] (spM G K .sh 2 (ar2 (m__law_same n)))
  | 0 => ⟨fun vs H Q E h => spM_len h, fun A outer s H args us vs Q E _ _ _ _ h => by
      obtain ⟨F, ps, _, _, hl, h⟩ := h
      match ps, hl with
      | [_, _], _ => exact h.elim⟩
  | n + 1 => by
    have ih := d__law_same Z Fn hm hb D__law_is_integer n
    have hrec : Dk P w K mg base (2 + n) ("_law_same" : Str) (spM G K .sh 2 (ar2 (m__law_same n))) := ⟨f, fd, _, ih, hm, Fn.kp, hb⟩
    have S : FnScope [("_law_given" : Str), ("_law_due" : Str), ("_law_k" : Str)] [("_law_given" : Str), ("_law_due" : Str)] (defScope (topS 52)) := C8.fnScope_by (by decide +kernel)
    refine d_of (κ := κ__law_same) (m := b__law_same (m__law_same n)) (k := 2 + n) Fn S (fun i hi => by revert i; decide) (fun qs hl => match qs, hl with | [_, _], _ => rfl) fun cdv A outer s H E hr => ?_
    exact (ss_cons (s_if (t_val (v_callB call_isi g_isi Z.n_isinstance (by kernel_rfl) (a_cons (v_up (v_var 1)) (a_cons (v_up (v_gty Z.n_tuple (by kernel_rfl))) a_nil)))) (ss_cons (s_if (t_w (tw_or (t_not (t_val (v_callB call_isi g_isi Z.n_isinstance (by kernel_rfl) (a_cons (v_up (v_var 0)) (a_cons (v_up (v_gty Z.n_tuple (by kernel_rfl))) a_nil))))) (tw_or1 (t_cmp (op_neD hr.units) g_ne (v_up (v_callB call_lenV g_len Z.n_len (by kernel_rfl) (a_cons (v_up (v_var 0)) a_nil))) (v_up (v_callB call_lenV g_len Z.n_len (by kernel_rfl) (a_cons (v_up (v_var 1)) a_nil))))))) (ss_one (s_ret v_bl)) ss_nil)
    (ss_cons (s_for (passes_of rfl) rfl (i_range1 Z.n_range (a_cons (v_callB call_lenV g_len Z.n_len (by kernel_rfl) (a_cons (v_up (v_var 1)) a_nil)) a_nil)) (gv_name 2 (hN := S.nd)) gok_name (ss_one (s_if (t_not (t_val (v_call hrec hr (takes_of rfl rfl rfl rfl) (a_cons (v_ix (v_up (v_var 0)) (v_up (v_var 2))) (a_cons (v_ix (v_up (v_var 1)) (v_up (v_var 2))) a_nil)) ar2_len))) (ss_one (s_ret v_bl)) ss_nil)))
    (ss_one (s_ret v_bl)))) ss_nil)
    (ss_cons (s_if (t_val (v_callB call_isi g_isi Z.n_isinstance (by kernel_rfl) (a_cons (v_up (v_var 1)) (a_cons (v_up (v_gty Z.n_int (by kernel_rfl))) a_nil)))) (ss_one (s_ret (v_and (v_call D__law_is_integer (hr.mono (by omega)) (takes_of rfl rfl rfl rfl) (a_cons (v_var 0) a_nil) ar1_len) (v_one (v_cmp (op_eqD hr.units) g_eq (v_up (v_var 0)) (v_up (v_var 1))))))) ss_nil)
    (ss_one (s_ret (v_and (v_callB call_isi g_isi Z.n_isinstance (by kernel_rfl) (a_cons (v_up (v_var 0)) (a_cons (v_up (v_gty Z.n_str (by kernel_rfl))) a_nil))) (v_one (v_cmp (op_eqD hr.units) g_eq (v_up (v_var 0)) (v_up (v_var 1)))))))))
theorem d_are_unlike (Z : Zs G K mg) {f : Addr} {fd : FuncData} (Fn : Fun K ("are_unlike" : Str) ("are_unlike" : Str) (topS 23) f fd)  : FnOk P w K mg base (L2.CX P w) 1 f fd [("names" : Str)] (spM G K .sh 1 (ar1 m_are_unlike)) := by
  have S : FnScope [("names" : Str), ("name" : Str)] [("names" : Str)] (defScope (topS 23)) := C8.fnScope_by (by decide +kernel)
  refine d_of (κ := κ_are_unlike) (m := b_are_unlike) (k := 0) Fn S (fun i hi => by revert i; decide) (fun qs hl => match qs, hl with | [_], _ => rfl) fun cdv A outer s H E hr => ?_
  exact (ss_one (s_ret (v_cmp (op_eqD hr.units) g_eq (v_up (v_callB call_lenV g_len Z.n_len (by kernel_rfl) (a_cons (v_up (v_dc (own := [(("name" : Str), 1)]) rfl S.nd (i_loose (i_seq (v_var 0))) (blkOk_by (by kernel_rfl)) (fun _ _ _ _ _ => (gv_name 1 (hN := S.nd))) (fun _ _ _ _ _ => ts_nil) (fun _ _ _ _ _ => (v_var 1)) (fun _ _ _ _ _ => v_bl) (by decide) gok_name)) a_nil))) (v_up (v_callB call_lenV g_len Z.n_len (by kernel_rfl) (a_cons (v_up (v_var 0)) a_nil))))))
theorem d_as_stacks (Z : Zs G K mg) {f : Addr} {fd : FuncData} (Fn : Fun K ("as_stacks" : Str) ("as_stacks" : Str) (topS 27) f fd) (D_is_sequence : Dk P w K mg base 1 ("is_sequence" : Str) (spM G K .sh 1 (ar1 m_is_sequence))) (D_is_name : Dk P w K mg base 1 ("is_name" : Str) (spM G K .sh 1 (ar1 m_is_name))) (D_are_unlike : Dk P w K mg base 1 ("are_unlike" : Str) (spM G K .sh 1 (ar1 m_are_unlike))) : FnOk P w K mg base (L2.CX P w) 2 f fd [("height" : Str), ("value" : Str)] (spM G K .sh 2 (ar2 m_as_stacks)) := by
  have S : FnScope [("height" : Str), ("value" : Str), ("stacks" : Str), ("names" : Str), ("stack" : Str), ("name" : Str)] [("height" : Str), ("value" : Str)] (defScope (topS 27)) := C8.fnScope_by (by decide +kernel)
  refine d_of (κ := κ_as_stacks) (m := b_as_stacks) (k := 1) Fn S (fun i hi => by revert i; decide) (fun qs hl => match qs, hl with | [_, _], _ => rfl) fun cdv A outer s H E hr => ?_
  exact (ss_cons (s_if (t_w (tw_or (t_not (t_val (v_call D_is_sequence (hr.mono (by decide)) (takes_of rfl rfl rfl rfl) (a_cons (v_var 1) a_nil) ar1_len))) (tw_or (t_cmp (op_eqD hr.units) g_eq (v_up (v_callB call_lenV g_len Z.n_len (by kernel_rfl) (a_cons (v_up (v_var 1)) a_nil))) (v_up v_int)) (tw_or1 (t_not (t_val (v_callB (cr_all rfl) g_all Z.n_all (by kernel_rfl) (a_cons (v_up (v_lc (own := [(("stack" : Str), 4)]) rfl S.nd (i_loose (i_seq (v_var 1))) (blkOk_by (by kernel_rfl)) (fun _ _ _ _ _ => (gv_name 4 (hN := S.nd))) (fun _ _ _ _ _ => ts_nil) (fun _ _ _ _ _ => (v_call D_is_sequence (hr.mono (by decide)) (takes0) (a_cons (v_var 4) a_nil) ar1_len)) (by decide) gok_name)) a_nil)))))))) (ss_one (s_ret v_non)) ss_nil)
    (ss_cons (s_set 2 (v_callTy call_tuple_of g_tuple Z.n_tuple (by kernel_rfl) (a_cons (v_up (v_lc (own := [(("stack" : Str), 4)]) rfl S.nd (i_loose (i_seq (v_var 1))) (blkOk_by (by kernel_rfl)) (fun _ _ _ _ _ => (gv_name 4 (hN := S.nd))) (fun _ _ _ _ _ => ts_nil) (fun _ _ _ _ _ => (v_callTy call_tuple_of g_tuple Z.n_tuple (by kernel_rfl) (a_cons (v_up (v_var 4)) a_nil))) (by decide) gok_name)) a_nil)) S.nd)
    (ss_cons (s_setLc2 3 false (own := [(("stack" : Str), 4), (("name" : Str), 5)]) (own1 := [5]) rfl S.nd (i_loose (i_seq (v_var 2))) (blkOk_by (by kernel_rfl)) (by decide) (fun _ _ _ _ _ => (gv_name 4 (hN := S.nd))) (fun _ _ _ _ _ => ts_nil) (fun _ _ _ _ _ => (i_seq (v_var 4))) (fun _ _ _ _ _ => (gv_name 5 (hN := S.nd))) (fun _ _ _ _ _ => ts_nil) (fun _ _ _ _ _ => (v_var 5)) (by decide) gok_name (by decide) gok_name)
    (ss_cons (s_if (t_w (tw_or (t_not (t_val (v_callB (cr_all rfl) g_all Z.n_all (by kernel_rfl) (a_cons (v_up (v_lc (own := [(("name" : Str), 5)]) rfl S.nd (i_loose (i_seq (v_var 3))) (blkOk_by (by kernel_rfl)) (fun _ _ _ _ _ => (gv_name 5 (hN := S.nd))) (fun _ _ _ _ _ => ts_nil) (fun _ _ _ _ _ => (v_call D_is_name (hr.mono (by decide)) (takes0) (a_cons (v_var 5) a_nil) ar1_len)) (by decide) gok_name)) a_nil)))) (tw_or1 (t_not (t_val (v_call D_are_unlike (hr.mono (by decide)) (takes_of rfl rfl rfl rfl) (a_cons (v_var 3) a_nil) ar1_len)))))) (ss_one (s_ret v_non)) ss_nil)
    (ss_one (s_ret (v_if (t_val (v_callB (cr_all rfl) g_all Z.n_all (by kernel_rfl) (a_cons (v_up (v_lc (own := [(("stack" : Str), 4)]) rfl S.nd (i_loose (i_seq (v_var 2))) (blkOk_by (by kernel_rfl)) (fun _ _ _ _ _ => (gv_name 4 (hN := S.nd))) (fun _ _ _ _ _ => ts_nil) (fun _ _ _ _ _ => (v_cmp op_le (g_B (g := fun i j => decide (i ≤ j))) (v_up (v_callB call_lenV g_len Z.n_len (by kernel_rfl) (a_cons (v_up (v_var 4)) a_nil))) (v_up (v_var 0)))) (by decide) gok_name)) a_nil))) (v_var 2) v_non)))))))
theorem d_is_integer_core_plain (Z : Zs G K mg) {f : Addr} {fd : FuncData} (Fn : Fun K ("is_integer" : Str) ("is_integer" : Str) (topS 18) f fd)  : FnOk P w K mg base (L2.CX P w) 1 f fd [("value" : Str)] (spM G K .sh 1 (ar1 m_is_integer_core_plain)) := by
  have S : FnScope [("value" : Str)] [("value" : Str)] (defScope (topS 18)) := C8.fnScope_by (by decide +kernel)
  refine d_of (κ := κ_is_integer_core_plain) (m := b_is_integer_core_plain) (k := 0) Fn S (fun i hi => by revert i; decide) (fun qs hl => match qs, hl with | [_], _ => rfl) fun cdv A outer s H E hr => ?_
  exact (ss_one (s_ret (v_and (v_callB call_isi g_isi Z.n_isinstance (by kernel_rfl) (a_cons (v_up (v_var 0)) (a_cons (v_up (v_gty Z.n_int (by kernel_rfl))) a_nil))) (v_one (v_not (v_callB call_isi g_isi Z.n_isinstance (by kernel_rfl) (a_cons (v_up (v_var 0)) (a_cons (v_up (v_gty Z.n_bool (by kernel_rfl))) a_nil))))))))
theorem d_is_number (Z : Zs G K mg) {f : Addr} {fd : FuncData} (Fn : Fun K ("is_number" : Str) ("is_number" : Str) (topS 20) f fd) (D_is_integer_core_plain : Dk P w K mg base 1 ("is_integer_core_plain" : Str) (spM G K .sh 1 (ar1 m_is_integer_core_plain))) : FnOk P w K mg base (L2.CX P w) 2 f fd [("value" : Str)] (spM G K .sh 1 (ar1 m_is_number)) := by
  have S : FnScope [("value" : Str)] [("value" : Str)] (defScope (topS 20)) := C8.fnScope_by (by decide +kernel)
  refine d_of (κ := κ_is_number) (m := b_is_number) (k := 1) Fn S (fun i hi => by revert i; decide) (fun qs hl => match qs, hl with | [_], _ => rfl) fun cdv A outer s H E hr => ?_
  exact (ss_one (s_ret (v_and (v_call D_is_integer_core_plain (hr.mono (by decide)) (takes_of rfl rfl rfl rfl) (a_cons (v_var 0) a_nil) ar1_len) (v_one (v_cmp op_ge (g_B (g := fun i j => decide (j ≤ i))) (v_up (v_var 0)) (v_up v_int))))))
theorem d_Yard (Z : Zs G K mg) {f : Addr} {fd : FuncData} (Fn : Fun K "__init__" ("Yard.__init__" : Str) (inClass (topS 28) 0) f fd) (D_is_number : Dk P w K mg base 2 ("is_number" : Str) (spM G K .sh 1 (ar1 m_is_number))) (X_InvalidNumber : ExcC P w K mg base 1 ("InvalidNumber" : Str) (G 3) (spX1 (G 3) ("value" : Str))) (D_as_stacks : Dk P w K mg base 2 ("as_stacks" : Str) (spM G K .sh 2 (ar2 m_as_stacks))) (X_InvalidYard : ExcC P w K mg base 1 ("InvalidYard" : Str) (G 1) (spX1 (G 1) ("value" : Str))) : FnOk P w K mg base (L2.CX P w) 3 f fd [("self" : Str), ("height" : Str), ("stacks" : Str)] (spI G K 5 2 (ar2 m_Yard)) := by
  have S : FnScope [("self" : Str), ("height" : Str), ("stacks" : Str), ("told" : Str)] [("self" : Str), ("height" : Str), ("stacks" : Str)] (defScope (inClass (topS 28) 0)) := C8.fnScope_by (by decide +kernel)
  refine d_init (κ := κ_Yard) (m := b_Yard) (k := 2) (n := 2) Fn S rfl rfl (fun i hi => by revert i; decide) (fun qs hl => match qs, hl with | [_, _], _ => rfl) fun cdv A outer s H E hr => ?_
  exact (ss_cons (s_if (t_w (tw_or (t_not (t_val (v_call D_is_number (hr.mono (by decide)) (takes_of rfl rfl rfl rfl) (a_cons (v_var 1) a_nil) ar1_len))) (tw_or1 (t_cmp (op_eqD hr.units) g_eq (v_up (v_var 1)) (v_up v_int))))) (ss_one (s_raise rfl (takes_of rfl rfl rfl rfl) X_InvalidNumber (hr.mono (by decide)) (v_var 1))) ss_nil)
    (ss_cons (s_set 3 (v_call D_as_stacks (hr.mono (by decide)) (takes_of rfl rfl rfl rfl) (a_cons (v_var 1) (a_cons (v_var 2) a_nil)) ar2_len) S.nd)
    (ss_cons (s_if (t_cmp op_isN g_isN (v_up (v_var 3)) (v_up v_non)) (ss_one (s_raise rfl (takes_of rfl rfl rfl rfl) X_InvalidYard (hr.mono (by decide)) (v_var 2))) ss_nil)
    (ss_cons (s_fld 0 5 Z.at_5_height.1 Z.at_5_height.2 (v_var 1))
    (ss_one (s_fld 0 5 Z.at_5_stacks.1 Z.at_5_stacks.2 (v_var 3)))))))
theorem d_stays_in (Z : Zs G K mg) {f : Addr} {fd : FuncData} (Fn : Fun K ("stays_in" : Str) ("stays_in" : Str) (topS 32) f fd) (D_stays_of : Dk P w K mg base 3 ("stays_of" : Str) (spM G K .sh 2 (ar2 m_stays_of))) (D_boxes_of : Dk P w K mg base 1 ("boxes_of" : Str) (spM G K .sh 1 (ar1 m_boxes_of))) : FnOk P w K mg base (L2.CX P w) 4 f fd [("day" : Str)] (spM G K .sh 1 (ar1 m_stays_in)) := by
  have S : FnScope [("day" : Str)] [("day" : Str)] (defScope (topS 32)) := C8.fnScope_by (by decide +kernel)
  refine d_of (κ := κ_stays_in) (m := b_stays_in) (k := 3) Fn S (fun i hi => by revert i; decide) (fun qs hl => match qs, hl with | [_], _ => rfl) fun cdv A outer s H E hr => ?_
  exact (ss_one (s_ret (v_call D_stays_of (hr.mono (by decide)) (takes_of rfl rfl rfl rfl) (a_cons (v_call D_boxes_of (hr.mono (by decide)) (takes_of rfl rfl rfl rfl) (a_cons (v_att (fun c => c == 6) (fun c h => by obtain rfl := eq_of_beq h; exact Z.at_6_yard) (v_up (v_var 0))) a_nil) ar1_len) (a_cons (v_att (fun c => c == 6) (fun c h => by obtain rfl := eq_of_beq h; exact Z.at_6_events) (v_up (v_var 0))) a_nil)) ar2_len)))
theorem d_stays (Z : Zs G K mg) {f : Addr} {fd : FuncData} (Fn : Fun K ("stays" : Str) ("stays" : Str) (topS 33) f fd) (D_stays_in : Dk P w K mg base 4 ("stays_in" : Str) (spM G K .sh 1 (ar1 m_stays_in))) : FnOk P w K mg base (L2.CX P w) 5 f fd [("day" : Str)] (spM G K .sh 1 (ar1 m_stays)) := by
  have S : FnScope [("day" : Str)] [("day" : Str)] (defScope (topS 33)) := C8.fnScope_by (by decide +kernel)
  refine d_of (κ := κ_stays) (m := b_stays) (k := 4) Fn S (fun i hi => by revert i; decide) (fun qs hl => match qs, hl with | [_], _ => rfl) fun cdv A outer s H E hr => ?_
  exact (ss_one (s_ret (v_callTy call_tuple_of g_tuple Z.n_tuple (by kernel_rfl) (a_cons (v_up (v_call D_stays_in (hr.mono (by decide)) (takes_of rfl rfl rfl rfl) (a_cons (v_var 0) a_nil) ar1_len)) a_nil))))
theorem d_is_cut_by (Z : Zs G K mg) {f : Addr} {fd : FuncData} (Fn : Fun K ("is_cut_by" : Str) ("is_cut_by" : Str) (topS 7) f fd)  : FnOk P w K mg base (L2.CX P w) 1 f fd [("one" : Str), ("other" : Str)] (spM G K .sh 2 (ar2 m_is_cut_by)) := by
  have S : FnScope [("one" : Str), ("other" : Str)] [("one" : Str), ("other" : Str)] (defScope (topS 7)) := C8.fnScope_by (by decide +kernel)
  refine d_of (κ := κ_is_cut_by) (m := b_is_cut_by) (k := 0) Fn S (fun i hi => by revert i; decide) (fun qs hl => match qs, hl with | [_, _], _ => rfl) fun cdv A outer s H E hr => ?_
  exact (ss_one (s_ret (v_chain3 op_lt op_lt op_lt (v_up (v_ix (v_up (v_var 0)) (v_up v_int))) (v_up (v_ix (v_up (v_var 1)) (v_up v_int))) (v_up (v_ix (v_up (v_var 0)) (v_up v_int))) (v_up (v_ix (v_up (v_var 1)) (v_up v_int))))))
theorem d_are_apart (Z : Zs G K mg) {f : Addr} {fd : FuncData} (Fn : Fun K ("are_apart" : Str) ("are_apart" : Str) (topS 8) f fd) (D_is_cut_by : Dk P w K mg base 1 ("is_cut_by" : Str) (spM G K .sh 2 (ar2 m_is_cut_by))) : FnOk P w K mg base (L2.CX P w) 2 f fd [("one" : Str), ("other" : Str)] (spM G K .sh 2 (ar2 m_are_apart)) := by
  have S : FnScope [("one" : Str), ("other" : Str)] [("one" : Str), ("other" : Str)] (defScope (topS 8)) := C8.fnScope_by (by decide +kernel)
  refine d_of (κ := κ_are_apart) (m := b_are_apart) (k := 1) Fn S (fun i hi => by revert i; decide) (fun qs hl => match qs, hl with | [_, _], _ => rfl) fun cdv A outer s H E hr => ?_
  exact (ss_one (s_ret (v_or (v_call D_is_cut_by (hr.mono (by decide)) (takes_of rfl rfl rfl rfl) (a_cons (v_var 0) (a_cons (v_var 1) a_nil)) ar2_len) (v_one (v_call D_is_cut_by (hr.mono (by decide)) (takes_of rfl rfl rfl rfl) (a_cons (v_var 1) (a_cons (v_var 0) a_nil)) ar2_len)))))
theorem d_is_integer_core_looking (Z : Zs G K mg) {f : Addr} {fd : FuncData} (Fn : Fun K ("is_integer" : Str) ("is_integer" : Str) (topS 2) f fd)  : FnOk P w K mg base (L2.CX P w) 1 f fd [("value" : Str)] (spM G K .sh 1 (ar1 m_is_integer_core_looking)) := by
  have S : FnScope [("value" : Str)] [("value" : Str)] (defScope (topS 2)) := C8.fnScope_by (by decide +kernel)
  refine d_of (κ := κ_is_integer_core_looking) (m := b_is_integer_core_looking) (k := 0) Fn S (fun i hi => by revert i; decide) (fun qs hl => match qs, hl with | [_], _ => rfl) fun cdv A outer s H E hr => ?_
  exact (ss_one (s_ret (v_and (v_callB call_isi g_isi Z.n_isinstance (by kernel_rfl) (a_cons (v_up (v_var 0)) (a_cons (v_up (v_gty Z.n_int (by kernel_rfl))) a_nil))) (v_one (v_not (v_callB call_isi g_isi Z.n_isinstance (by kernel_rfl) (a_cons (v_up (v_var 0)) (a_cons (v_up (v_gty Z.n_bool (by kernel_rfl))) a_nil))))))))
theorem d_is_below (Z : Zs G K mg) {f : Addr} {fd : FuncData} (Fn : Fun K ("is_below" : Str) ("is_below" : Str) (topS 4) f fd) (D_is_integer_core_looking : Dk P w K mg base 1 ("is_integer_core_looking" : Str) (spM G K .sh 1 (ar1 m_is_integer_core_looking))) : FnOk P w K mg base (L2.CX P w) 2 f fd [("value" : Str), ("most" : Str)] (spM G K .sh 2 (ar2 m_is_below)) := by
  have S : FnScope [("value" : Str), ("most" : Str)] [("value" : Str), ("most" : Str)] (defScope (topS 4)) := C8.fnScope_by (by decide +kernel)
  refine d_of (κ := κ_is_below) (m := b_is_below) (k := 1) Fn S (fun i hi => by revert i; decide) (fun qs hl => match qs, hl with | [_, _], _ => rfl) fun cdv A outer s H E hr => ?_
  exact (ss_one (s_ret (v_and (v_call D_is_integer_core_looking (hr.mono (by decide)) (takes_of rfl rfl rfl rfl) (a_cons (v_var 0) a_nil) ar1_len) (v_one (v_chain op_le op_lt (g_B (g := fun i j => decide (i ≤ j))) (g_B (g := fun i j => decide (i < j))) (v_up v_int) (v_up (v_var 0)) (v_up (v_var 1)))))))
theorem d_clash (Z : Zs G K mg) {f : Addr} {fd : FuncData} (Fn : Fun K ("clash" : Str) ("clash" : Str) (topS 34) f fd) (D_stays_in : Dk P w K mg base 4 ("stays_in" : Str) (spM G K .sh 1 (ar1 m_stays_in))) (D_is_below : Dk P w K mg base 2 ("is_below" : Str) (spM G K .sh 2 (ar2 m_is_below))) (X_Undefined : ExcC P w K mg base 1 ("Undefined" : Str) (G 4) (spX1 (G 4) ("what" : Str))) (D_are_apart : Dk P w K mg base 2 ("are_apart" : Str) (spM G K .sh 2 (ar2 m_are_apart))) : FnOk P w K mg base (L2.CX P w) 5 f fd [("day" : Str), ("a" : Str), ("b" : Str)] (spM G K .sh 3 (ar3 m_clash)) := by
  have S : FnScope [("day" : Str), ("a" : Str), ("b" : Str), ("found" : Str)] [("day" : Str), ("a" : Str), ("b" : Str)] (defScope (topS 34)) := C8.fnScope_by (by decide +kernel)
  refine d_of (κ := κ_clash) (m := b_clash) (k := 4) Fn S (fun i hi => by revert i; decide) (fun qs hl => match qs, hl with | [_, _, _], _ => rfl) fun cdv A outer s H E hr => ?_
  exact (ss_cons (s_set 3 (v_call D_stays_in (hr.mono (by decide)) (takes_of rfl rfl rfl rfl) (a_cons (v_var 0) a_nil) ar1_len) S.nd)
    (ss_cons (s_if (t_w (tw_or (t_not (t_val (v_call D_is_below (hr.mono (by decide)) (takes_of rfl rfl rfl rfl) (a_cons (v_var 1) (a_cons (v_callB call_lenV g_len Z.n_len (by kernel_rfl) (a_cons (v_up (v_var 3)) a_nil)) a_nil)) ar2_len))) (tw_or1 (t_not (t_val (v_call D_is_below (hr.mono (by decide)) (takes_of rfl rfl rfl rfl) (a_cons (v_var 2) (a_cons (v_callB call_lenV g_len Z.n_len (by kernel_rfl) (a_cons (v_up (v_var 3)) a_nil)) a_nil)) ar2_len)))))) (ss_one (s_raise rfl (takes_of rfl rfl rfl rfl) X_Undefined (hr.mono (by decide)) v_str)) ss_nil)
    (ss_one (s_ret (v_call D_are_apart (hr.mono (by decide)) (takes_of rfl rfl rfl rfl) (a_cons (v_ix (v_up (v_var 3)) (v_up (v_var 1))) (a_cons (v_ix (v_up (v_var 3)) (v_up (v_var 2))) a_nil)) ar2_len)))))
theorem d__law_clash (Z : Zs G K mg) {f : Addr} {fd : FuncData} (Fn : Fun K ("_law_clash" : Str) ("_law_clash" : Str) (topS 51) f fd)  : FnOk P w K mg base (L2.CX P w) 1 f fd [("_law_one" : Str), ("_law_other" : Str)] (spM G K .sh 2 (ar2 m__law_clash)) := by
  have S : FnScope [("_law_one" : Str), ("_law_other" : Str)] [("_law_one" : Str), ("_law_other" : Str)] (defScope (topS 51)) := C8.fnScope_by (by decide +kernel)
  refine d_of (κ := κ__law_clash) (m := b__law_clash) (k := 0) Fn S (fun i hi => by revert i; decide) (fun qs hl => match qs, hl with | [_, _], _ => rfl) fun cdv A outer s H E hr => ?_
  exact (ss_one (s_ret (v_or (v_chain3 op_lt op_lt op_lt (v_up (v_ix (v_up (v_var 0)) (v_up v_int))) (v_up (v_ix (v_up (v_var 1)) (v_up v_int))) (v_up (v_ix (v_up (v_var 0)) (v_up v_int))) (v_up (v_ix (v_up (v_var 1)) (v_up v_int)))) (v_one (v_chain3 op_lt op_lt op_lt (v_up (v_ix (v_up (v_var 1)) (v_up v_int))) (v_up (v_ix (v_up (v_var 0)) (v_up v_int))) (v_up (v_ix (v_up (v_var 1)) (v_up v_int))) (v_up (v_ix (v_up (v_var 0)) (v_up v_int))))))))
theorem d__law_refused (Z : Zs G K mg) {f : Addr} {fd : FuncData} (Fn : Fun K ("_law_refused" : Str) ("_law_refused" : Str) (topS 53) f fd) (D_clash : Dk P w K mg base 5 ("clash" : Str) (spM G K .sh 3 (ar3 m_clash))) : FnOk P w K mg base (L2.CX P w) 6 f fd [("_law_day_here" : Str), ("_law_a" : Str), ("_law_b" : Str)] (spM G K .sh 3 (ar3 m__law_refused)) := by
  have S : FnScope [("_law_day_here" : Str), ("_law_a" : Str), ("_law_b" : Str), ("_law_e" : Str)] [("_law_day_here" : Str), ("_law_a" : Str), ("_law_b" : Str)] (defScope (topS 53)) := C8.fnScope_by (by decide +kernel)
  refine d_of (κ := κ__law_refused) (m := b__law_refused) (k := 5) Fn S (fun i hi => by revert i; decide) (fun qs hl => match qs, hl with | [_, _, _], _ => rfl) fun cdv A outer s H E hr => ?_
  exact (ss_cons (s_tryA (fun c => match c with | 1 => some false | 2 => some false | 3 => some false | 4 => some true | _ => none) 3 (ms := ms__law_refused_3) (fun c b h => by
      split at h
      · cases h; exact Z.ex_1_4
      · cases h; exact Z.ex_2_4
      · cases h; exact Z.ex_3_4
      · cases h; exact Z.ex_4_4
      · cases h) (hind__law_refused_3) ⟨rfl, by decide, .inl Z.c_Undefined⟩ (takes_of rfl rfl rfl rfl) (fun W pn xe tk hp => (ss_one (s_expr (v_call D_clash (hr.mono (by decide)) tk (a_cons (v_var 0) (a_cons (v_var 1) (a_cons (v_var 2) a_nil))) ar3_len)))) (fun a d oe pn c hcv hz hf => by
      split at hcv
      · cases hcv
      · cases hcv
      · cases hcv
      · exact (ss_one (s_ret (v_and (v_xis (c := 4) (cw := .ref (G 0)) 3 Z.xc_4 hz hf (pe_glob rfl Z.c_YardError rfl) (fun _ h => h) Z.ki_4_0 Z.n_isinstance) (v_and (v_xis (c := 4) (cw := .ty "ValueError") 3 Z.xc_4 hz hf (pe_bltn rfl Z.n_ValueError (by kernel_rfl) rfl) (fun _ h => h) Z.kb_4_ValueError Z.n_isinstance) (v_one (v_cmp (op_eqD hr.units) g_eq (v_up (v_xf (c := 4) 3 Z.xf_4 Z.nf_4_what hz hf)) (v_up v_str)))))))
      · cases hcv) S.nd)
    (ss_one (s_ret v_bl)))
theorem d__law_whole (Z : Zs G K mg) {f : Addr} {fd : FuncData} (Fn : Fun K ("_law_whole" : Str) ("_law_whole" : Str) (topS 54) f fd) (D__law_day : Dk P w K mg base 3 ("_law_day" : Str) (spM G K .sh 2 (ar2 m__law_day))) (M_Day : Mkr P w K mg base 4 ("Day" : Str) (G 6) (spI G K 6 2 (ar2 m_Day))) (M_Yard : Mkr P w K mg base 3 ("Yard" : Str) (G 5) (spI G K 5 2 (ar2 m_Yard))) (D__law_stays : Dk P w K mg base 3 ("_law_stays" : Str) (spM G K .sh 2 (ar2 m__law_stays))) (D__law_same : Dk P w K mg base 14 ("_law_same" : Str) (spM G K .sh 2 (ar2 (m__law_same 12)))) (D_stays : Dk P w K mg base 5 ("stays" : Str) (spM G K .sh 1 (ar1 m_stays))) (D_clash : Dk P w K mg base 5 ("clash" : Str) (spM G K .sh 3 (ar3 m_clash))) (D__law_clash : Dk P w K mg base 1 ("_law_clash" : Str) (spM G K .sh 2 (ar2 m__law_clash))) (D__law_row : Dk P w K mg base 1 ("_law_row" : Str) (spM G K .sh 4 (ar4 m__law_row))) (D__law_cell : Dk P w K mg base 1 ("_law_cell" : Str) (spM G K .sh 2 (ar2 m__law_cell))) (D__law_refused : Dk P w K mg base 6 ("_law_refused" : Str) (spM G K .sh 3 (ar3 m__law_refused))) (DK_clash_b_a_day : DkK P w K mg base 5 ("clash" : Str) (spM G K .sh 3 (ar3 m_clash)) [("b" : Str), ("a" : Str), ("day" : Str)] [2, 1, 0]) (DK_stays_day : DkK P w K mg base 5 ("stays" : Str) (spM G K .sh 1 (ar1 m_stays)) [("day" : Str)] [0]) : FnOk P w K mg base (L2.CX P w) 15 f fd [("_law_script" : Str)] (spM G K .sh 1 (ar1 m__law_whole)) := by
  have S : FnScope [("_law_script" : Str), ("_law_built" : Str), ("_law_day_here" : Str), ("_law_due" : Str), ("_law_many" : Str), ("_law_a" : Str), ("_law_odd" : Str), ("_law_marks" : Str), ("_law_mark" : Str), ("_law_b" : Str), ("_law_value" : Str), ("_law_other" : Str), ("_law_answer" : Str)] [("_law_script" : Str)] (defScope (topS 54)) := C8.fnScope_by (by decide +kernel)
  refine d_of (κ := κ__law_whole) (m := b__law_whole) (k := 14) Fn S (fun i hi => by revert i; decide) (fun qs hl => match qs, hl with | [_], _ => rfl) fun cdv A outer s H E hr => ?_
  exact (ss_cons (s_set 1 (v_call D__law_day (hr.mono (by decide)) (takes_of rfl rfl rfl rfl) (a_cons (v_var 0) (a_cons v_int a_nil)) ar2_len) S.nd)
    (ss_cons (s_set 2 (v_freeze (v_make M_Day (hr.mono (by decide)) (takes_of rfl rfl rfl rfl) (a_cons (v_freeze (v_make M_Yard (hr.mono (by decide)) (takes_of rfl rfl rfl rfl) (a_cons (v_ix (v_up (v_var 1)) (v_up v_int)) (a_cons (v_ix (v_up (v_var 1)) (v_up v_int)) a_nil)) ar2_len)) (a_cons (v_ix (v_up (v_var 1)) (v_up v_int)) a_nil)) ar2_len)) S.nd)
    (ss_cons (s_set 3 (v_call D__law_stays (hr.mono (by decide)) (takes_of rfl rfl rfl rfl) (a_cons (v_ix (v_up (v_var 1)) (v_up v_int)) (a_cons (v_ix (v_up (v_var 1)) (v_up v_int)) a_nil)) ar2_len) S.nd)
    (ss_cons (s_if (t_not (t_val (v_call D__law_same (hr.mono (by decide)) (takes_of rfl rfl rfl rfl) (a_cons (v_call D_stays (hr.mono (by decide)) (takes_of rfl rfl rfl rfl) (a_cons (v_var 2) a_nil) ar1_len) (a_cons (v_callTy call_tuple_of g_tuple Z.n_tuple (by kernel_rfl) (a_cons (v_up (v_var 3)) a_nil)) a_nil)) ar2_len))) (ss_one (s_ret v_bl)) ss_nil)
    (ss_cons (s_set 4 (v_callB call_lenV g_len Z.n_len (by kernel_rfl) (a_cons (v_up (v_var 3)) a_nil)) S.nd)
    (ss_cons (s_for (passes_of rfl) rfl (i_range1 Z.n_range (a_cons (v_var 4) a_nil)) (gv_name 5 (hN := S.nd)) gok_name (ss_one (s_for (passes_of rfl) rfl (i_range1 Z.n_range (a_cons (v_var 4) a_nil)) (gv_name 9 (hN := S.nd)) gok_name (ss_cons (s_set 12 (v_call D_clash (hr.mono (by decide)) (takes_of rfl rfl rfl rfl) (a_cons (v_var 2) (a_cons (v_var 5) (a_cons (v_var 9) a_nil))) ar3_len) S.nd)
    (ss_one (s_if (t_w (tw_or (t_not (t_val (v_callB call_isi g_isi Z.n_isinstance (by kernel_rfl) (a_cons (v_up (v_var 12)) (a_cons (v_up (v_gty Z.n_bool (by kernel_rfl))) a_nil))))) (tw_or1 (t_cmp (op_neD hr.units) g_ne (v_up (v_var 12)) (v_up (v_call D__law_clash (hr.mono (by decide)) (takes_of rfl rfl rfl rfl) (a_cons (v_ix (v_up (v_var 3)) (v_up (v_var 5))) (a_cons (v_ix (v_up (v_var 3)) (v_up (v_var 9))) a_nil)) ar2_len)))))) (ss_one (s_ret v_bl)) ss_nil))))))
    (ss_cons (s_set 6 (v_freeze (v_lst (a_cons (v_un un_neg g_neg (v_up v_int)) (a_cons (v_var 4) (a_cons (v_op op_addA g_addA (v_up (v_var 4)) (v_up v_int)) (a_cons v_bl (a_cons v_bl (a_cons v_non (a_cons v_str (a_cons (v_tup (a_cons v_int a_nil)) (a_cons (v_freeze (v_lst (a_cons v_int a_nil))) (a_cons (v_op op_pow (g_I (C := CPow) (g := fun i j => i ^ j.toNat)) (v_up v_int) (v_up v_int)) (a_cons (v_un un_neg g_neg (v_up (v_var 4))) (a_cons (v_tup a_nil) a_nil)))))))))))))) S.nd)
    (ss_cons (s_set 7 (v_call D__law_row (hr.mono (by decide)) (takes_of rfl rfl rfl rfl) (a_cons (v_call D__law_cell (hr.mono (by decide)) (takes_of rfl rfl rfl rfl) (a_cons (v_var 0) (a_cons v_int a_nil)) ar2_len) (a_cons v_int (a_cons v_int (a_cons v_int a_nil)))) ar4_len) S.nd)
    (ss_cons (s_for (passes_of rfl) rfl (i_seq (v_var 7)) (gv_name 8 (hN := S.nd)) gok_name (ss_cons (s_set 10 (v_ix (v_up (v_var 6)) (v_up (v_op op_mod (g_I (C := fun _ j => 0 < j) (g := fun i j => i % j)) (v_up (v_callTy call_int1 g_int Z.n_int (by kernel_rfl) (a_cons (v_up (v_var 8)) a_nil))) (v_up v_int)))) S.nd)
    (ss_cons (s_set 11 (v_ix (v_up (v_var 6)) (v_up (v_op op_mod (g_I (C := fun _ j => 0 < j) (g := fun i j => i % j)) (v_up (v_op op_fdiv (g_I (C := CDiv) (g := fun i j => i / j)) (v_up (v_callTy call_int1 g_int Z.n_int (by kernel_rfl) (a_cons (v_up (v_var 8)) a_nil))) (v_up v_int))) (v_up v_int)))) S.nd)
    (ss_cons (s_if (t_w (tw_and (t_cmp op_gt (g_B (g := fun i j => decide (j < i))) (v_up (v_var 4)) (v_up v_int)) (tw_and1 (t_cmp op_gt (g_B (g := fun i j => decide (j < i))) (v_up (v_op op_mod (g_I (C := fun _ j => 0 < j) (g := fun i j => i % j)) (v_up (v_op op_fdiv (g_I (C := CDiv) (g := fun i j => i / j)) (v_up (v_callTy call_int1 g_int Z.n_int (by kernel_rfl) (a_cons (v_up (v_var 8)) a_nil))) (v_up v_int))) (v_up v_int))) (v_up v_int))))) (ss_one (s_set 11 (v_op op_mod (g_I (C := fun _ j => 0 < j) (g := fun i j => i % j)) (v_up (v_op op_fdiv (g_I (C := CDiv) (g := fun i j => i / j)) (v_up (v_callTy call_int1 g_int Z.n_int (by kernel_rfl) (a_cons (v_up (v_var 8)) a_nil))) (v_up v_int))) (v_up (v_var 4))) S.nd)) ss_nil)
    (ss_one (s_if (t_w (tw_or (t_not (t_val (v_call D__law_refused (hr.mono (by decide)) (takes_of rfl rfl rfl rfl) (a_cons (v_var 2) (a_cons (v_var 10) (a_cons (v_var 11) a_nil))) ar3_len))) (tw_or1 (t_not (t_val (v_call D__law_refused (hr.mono (by decide)) (takes_of rfl rfl rfl rfl) (a_cons (v_var 2) (a_cons (v_var 11) (a_cons (v_var 10) a_nil))) ar3_len)))))) (ss_one (s_ret v_bl)) ss_nil))))))
    (ss_cons (s_if (t_w (tw_and (t_cmp op_gt (g_B (g := fun i j => decide (j < i))) (v_up (v_var 4)) (v_up v_int)) (tw_and1 (t_cmp (op_neD hr.units) g_ne (v_up (v_callK DK_clash_b_a_day (hr.mono (by decide)) (takes_of rfl rfl rfl rfl) (k_cons v_int (k_cons (v_op op_sub g_sub (v_up (v_var 4)) (v_up v_int)) (k_cons (v_var 2) k_nil))) ar3_len)) (v_up (v_call D__law_clash (hr.mono (by decide)) (takes_of rfl rfl rfl rfl) (a_cons (v_ix (v_up (v_var 3)) (v_up v_int)) (a_cons (v_ix (v_up (v_var 3)) (v_up (v_op op_sub g_sub (v_up (v_var 4)) (v_up v_int)))) a_nil)) ar2_len)))))) (ss_one (s_ret v_bl)) ss_nil)
    (ss_one (s_ret (v_call D__law_same (hr.mono (by decide)) (takes_of rfl rfl rfl rfl) (a_cons (v_callK DK_stays_day (hr.mono (by decide)) (takes_of rfl rfl rfl rfl) (k_cons (v_var 2) k_nil) ar1_len) (a_cons (v_callTy call_tuple_of g_tuple Z.n_tuple (by kernel_rfl) (a_cons (v_up (v_var 3)) a_nil)) a_nil)) ar2_len)))))))))))))
theorem d_law (Z : Zs G K mg) {f : Addr} {fd : FuncData} (Fn : Fun K ("law" : Str) ("law" : Str) (topS 55) f fd) (D__law_whole : Dk P w K mg base 15 ("_law_whole" : Str) (spM G K .sh 1 (ar1 m__law_whole))) : FnOk P w K mg base (L2.CX P w) 16 f fd [("_law_script" : Str)] (spM G K .sh 1 (ar1 m_law)) := by
  have S : FnScope [("_law_script" : Str)] [("_law_script" : Str)] (defScope (topS 55)) := C8.fnScope_by (by decide +kernel)
  refine d_of (κ := κ_law) (m := b_law) (k := 15) Fn S (fun i hi => by revert i; decide) (fun qs hl => match qs, hl with | [_], _ => rfl) fun cdv A outer s H E hr => ?_
  exact (ss_one (s_tryO (fun c => match c with | 1 => some true | 2 => some true | 3 => some true | 4 => some true | _ => none) (fun c b h => by
      split at h
      · cases h; exact Z.ex_1_0
      · cases h; exact Z.ex_2_0
      · cases h; exact Z.ex_3_0
      · cases h; exact Z.ex_4_0
      · cases h) ⟨rfl, by decide, .inl Z.c_YardError⟩ (takes_of rfl rfl rfl rfl) (fun W pn xe tk hp => (ss_one (s_ret (v_call D__law_whole (hr.mono (by decide)) tk (a_cons (v_var 0) a_nil) ar1_len)))) (fun a oe pn => (ss_one (s_ret v_bl)))))
end
end K30
end
section
set_option Elab.async false
set_option linter.all false
set_option maxRecDepth 100000
set_option maxHeartbeats 4000000
namespace K30
open PySem PySem.Spec L2 Lp
section
variable {G : Nat → Addr} {K : PySem.W.Frag} {F H F' H' F0 H0 : Hp} {κ : Kd} {σ : St} {τ : LE} {D b : Addr} {as : List Addr} {rs : List (List PV)} {bs es : List PV} {num : List (Key × PV)} {v : V}
theorem lc_raw {i : Nat} (l : Lc G K κ F H σ τ) (h : τ[i]? = some none) : Lc G K κ F H (σ.set i (some v)) τ := by
  have ne : ∀ j (q : PV), τ[j]? = some (some q) → i ≠ j := fun j q e z => by subst z; rw [h] at e; cases e
  refine ⟨l.sub, by rw [List.length_set]; exact l.len, fun j q h1 h2 => ?_, fun j q h1 h2 => ?_, fun j1 j2 q1 q2 a h1 h2 h3 h4 h5 h6 => ?_⟩
  · rw [List.getElem?_set_ne (ne j q h1)]; exact l.sh j q h1 h2
  · rw [List.getElem?_set_ne (ne j q h1)]; exact l.ow j q h1 h2
  · rw [List.getElem?_set_ne (ne j1 q1 h3)] at h5
    rw [List.getElem?_set_ne (ne j2 q2 h4)] at h6
    exact l.ap j1 j2 q1 q2 a h1 h2 h3 h4 h5 h6
abbrev τa (bs es : List PV) : LE := [some (.tup bs), some (.tup es), none, none, none, none, none, none, none]
def frS : LE → Res (List PV) := aCons (eVar 6) (aCons (e1 pNeg (eC (.int 1))) (aCons (eCall pLen (aCons (eVar 1) aNil)) aNil))
theorem rows_s : ∀ ps : List PV, rowL (gNm 6) frS (wipeL (τa bs es) [6]) ps = .ok (ps.map (rowOf es.length))
  | [] => rfl
  | p :: ps => by
    have h1 : (gNm 6 p (wipeL (τa bs es) [6])).nx = .ok [some (.tup bs), some (.tup es), none, none, none, none, some p, none, none] := rfl
    have h2 : (frS [some (.tup bs), some (.tup es), none, none, none, none, some p, none, none]).nx = .ok (rowOf es.length p) := by simp [frS, aCons, aNil, eVar, e1, eC, eCall, pNeg, pLen, rowOf]
    rw [rowL, h1, Res.ok_bind, h2, Res.ok_bind, rows_s ps]
    rfl
theorem num_s : ∀ (ps : List PV) (i : Nat) (acc : List (Key × PV)), ps.all isStrP = true →
    dcL (gTp (gsC (gNm 7) (gsC (gNm 6) gsN)) 2) tYesM (eVar 6) (eVar 7) (wipeL (τa bs es) [7, 6]) acc ((ps.zipIdx i).map fun x => .tup [.int (x.2 : Nat), x.1]) = .ok (numOf ps i acc)
  | [], i, acc, _ => rfl
  | p :: ps, i, acc, h => by
    rw [List.all_cons, Bool.and_eq_true] at h
    cases p with
    | str z =>
      rw [List.zipIdx_cons, List.map_cons, dcL]
      have h1 : (gTp (gsC (gNm 7) (gsC (gNm 6) gsN)) 2 (.tup [.int (i : Nat), .str z]) (wipeL (τa bs es) [7, 6])).nx = .ok [some (.tup bs), some (.tup es), none, none, none, none, some (.str z), some (.int (i : Nat)), none] := rfl
      rw [h1]
      exact num_s ps (i + 1) _ h.2
    | _ => cases h.1
theorem shape_s {a0 a1 : PV} (hq : m_stays_of a0 a1 ≠ .bad) : ∃ bs es rs, a0 = .tup bs ∧ a1 = .tup es ∧ bs.length ≤ 1000 ∧ es.length ≤ 1000 ∧ bs.all isStrP = true ∧ stLoop es.length es 0 (bs.map (rowOf es.length)) (numOf bs 0 []) = some rs ∧ m_stays_of a0 a1 = .ok (.lst (rs.map .tup)) := by
  unfold m_stays_of h_stays_of at hq ⊢
  split at hq
  · rename_i bs es
    split at hq
    · rename_i hc
      cases hs : stLoop es.length es 0 (bs.map (rowOf es.length)) (numOf bs 0 []) with
      | none => simp only [hs] at hq; exact absurd rfl hq
      | some rs => exact ⟨bs, es, rs, rfl, rfl, hc.1, hc.2.1, hc.2.2, hs, by simp only [hs]; rw [if_pos hc]⟩
    · exact absurd rfl hq
  · exact absurd rfl hq
abbrev EE : St → XK := fun _ _ _ _ => False
def κs : Kd := fun i => i == 3
abbrev gS : PV → LE → Res LE := gTp (gsC (gNm 4) (gsC (gTp (gsC (gNm 5) (gsC (gNm 6) gsN)) 2) gsN)) 2
/-- the reading of the body of stays_of -/
abbrev tS_A (G : Nat → Addr) (K : PySem.W.Frag) : TS := tSeq (sDPut (tVar 3) (tE G K .sh EE κs (eVar 6)) (tCB (rLenV K) (tCons (tVar 2) tNil)))
  (tDrop (tBM K "list" rAppend (tVar 2) (tCons (tLst (tA G K .sh EE κs (aCons (eVar 6) (aCons (eVar 4) (aCons (eCall pLen (aCons (eVar 1) aNil)) aNil))))) tNil)))
abbrev tS_B (G : Nat → Addr) (K : PySem.W.Frag) : TS := tAsg (tE G K .sh EE κs (eVar 4)) (gSub (tOp (rIx K) (tVar 2) (tE G K .sh EE κs (e2 pDGet (eVar 3) (eVar 6)))) (tC (.int 2)) rSetL)
abbrev tS4 (K : PySem.W.Frag) : TS := tRet (tLc (iAny K (tVar 2)) (gName 8) tYes (tCB (rTupOf K) (tCons (tVar 8) tNil)) [8])
abbrev tS3 (G : Nat → Addr) (K : PySem.W.Frag) : TS := tFor (tI G K true EE κs (iFn pEnum (aCons (eVar 1) aNil))) (tG G K [4, 5, 6] EE κs gS) (tIfS (tT G K EE κs (tst (e2 pEq (eVar 5) (eC (.str ("in" : Str)))))) (tS_A G K) (tS_B G K))
abbrev tS2 (G : Nat → Addr) (K : PySem.W.Frag) : TS := tAsg (tDc (tI G K false EE κs (iFn pEnum (aCons (eVar 0) aNil))) (tG G K [7, 6] EN κs (gTp (gsC (gNm 7) (gsC (gNm 6) gsN)) 2)) (tT G K EN κs tYesM) (tE G K .sh EN κs (eVar 6)) (tE G K .sh EN κs (eVar 7)) [7, 6]) (gName 3)
abbrev tS1 (G : Nat → Addr) (K : PySem.W.Frag) : TS := tAsg (tLc (tI G K false EE κs (iSeq (eVar 0))) (tG G K [6] EN κs (gNm 6)) (tT G K EN κs tYesM) (tLst (tA G K .sh EN κs frS)) [6]) (gName 2)
abbrev tS (G : Nat → Addr) (K : PySem.W.Frag) : TS := tSeq (tS1 G K) (tSeq (tS2 G K) (tSeq (tS3 G K) (tS4 K)))
theorem numOf_len : ∀ (ps : List PV) (i : Nat) (acc : List (Key × PV)), (numOf ps i acc).length ≤ acc.length + ps.length
  | [], i, acc => by simp [numOf]
  | p :: ps, i, acc => by
    have h : ∀ acc', acc'.length ≤ acc.length + 1 → (numOf ps (i + 1) acc').length ≤ acc.length + (p :: ps).length := fun acc' h => by
      have := numOf_len ps (i + 1) acc'
      simp only [List.length_cons]
      omega
    cases p <;> first | exact h _ (setP_len acc _ _) | exact h acc (by omega)
theorem pEq_str {a b : Str} (ha : strOk a = true) (hb : strOk b = true) : pEq (.str a) (.str b) = some (.bl (a == b)) := by
  unfold strOk at ha hb
  simp [pEq, eqB, PV.toD, SeqAt.shaped, PyData.eqv, ha, hb, PyData.depth]
theorem lc_heap {κ : Kd} {σ : St} {τ : LE} {F H H' : Hp} (l : Lc G K κ F H σ τ) (s : Same F H') (k : ∀ i p a, κ i = true → τ[i]? = some (some p) → σ[i]? = some (some (.ref a)) → H' a = H a) : Lc G K κ F H' σ τ :=
  ⟨s, l.len, l.sh, fun i p h1 h2 => let ⟨a, e1, hF, o⟩ := l.ow i p h1 h2; ⟨a, e1, hF, o.mono (Same.refl _) (k i p a h2 h1 e1)⟩, l.ap⟩
theorem modify_set {α : Type} (xs : List α) (i : Nat) (f : α → α) (h : i < xs.length) : xs.modify i f = xs.set i (f xs[i]) := by
  refine List.ext_getElem? fun j => ?_
  rw [List.getElem?_modify, List.getElem?_set]
  by_cases e : i = j
  · subst e
    simp [h]
  · simp [e]
theorem seq_i {t u : TS} {D : Ends} (h : t { D with nx := u D } σ H) : tSeq t u D σ H := h
theorem asg_i {te : TE} {g : TG} {D : Ends} (h : te σ H fun x H1 => g x σ H1 D.nx) : tAsg te g D σ H := h
theorem read_s {Q : VK} {D0 : St → Hp → Prop} (L0 : Lc G K κs F H σ (τa bs es)) (hb : bs.length ≤ 1000) (he : es.length ≤ 1000) (hstr : bs.all isStrP = true) (hloop : stLoop es.length es 0 (bs.map (rowOf es.length)) (numOf bs 0 []) = some rs)
    (q : ∀ v F' H', Ext F H F' H' → Rep G K F' v (.lst (rs.map .tup)) → Q v H') : tS G K { nx := D0, rt := Q } σ H := by
  refine seq_i (asg_i ?_)
  refine w_rowsLc (by decide) gok_name L0 (ps := bs) rfl (rows_s bs) (fun r hr => by obtain ⟨x, _, rfl⟩ := List.mem_map.mp hr; show 3 ≤ 1000; omega) fun F1 H1 D as e1 rl1 => ?_
  have L1 : Lc G K κs F1 H1 (σ.set 2 (some (.ref D))) (τa bs es) := lc_raw (L0.ext e1) rfl
  -- number
  show tSeq (tS2 G K) (tSeq (tS3 G K) (tS4 K)) { nx := D0, rt := Q } (σ.set 2 (some (.ref D))) H1
  refine seq_i (asg_i ?_)
  refine w_dc (by decide) (gok_tup (goks_cons gok_name (goks_cons gok_name goks_nil))) ⟨F1, τa bs es, L1, ?_⟩
  have hnum : eDComp [7, 6] (iFn pEnum (aCons (eVar 0) aNil)) (gTp (gsC (gNm 7) (gsC (gNm 6) gsN)) 2) tYesM (eVar 6) (eVar 7) (τa bs es) = .ok (.dK (numOf bs 0 [])) := by
    have h1 : iFn pEnum (aCons (eVar 0) aNil) (τa bs es) = .ok (enumP bs) := by
      show up (if bs.length ≤ 1000000 then some (enumP bs) else none) = _
      rw [if_pos (by omega)]; rfl
    unfold eDComp
    rw [h1, Res.ok_bind]
    have h2 := num_s (es := es) (bs := bs) bs 0 [] hstr
    unfold enumP
    rw [h2]
    rfl
  rw [hnum]
  intro v F2 H2 e2 r2
  obtain ⟨nb, rfl, hb0, hFb, onb⟩ := r2
  have rl2 := rl1.ext e2
  have hbD : nb ≠ D := fun z => by rw [z, rl1.at_] at hb0; cases hb0
  have hbas : nb ∉ as := fun z => by
    obtain ⟨i, hi, rfl⟩ := List.getElem_of_mem z
    have hr : i < (bs.map (rowOf es.length)).length := by rw [← rl1.rows.len]; exact hi
    obtain ⟨a, ha, _, ws, hw, _⟩ := rl1.rows.get (List.getElem?_eq_getElem hr)
    rw [List.getElem?_eq_getElem hi] at ha
    cases ha
    rw [hw] at hb0; cases hb0
  show tSeq (tS3 G K) (tS4 K) { nx := D0, rt := Q } ((σ.set 2 (some (.ref D))).set 3 (some (.ref nb))) H2
  have hl9 : σ.length = 9 := L0.len
  have L2 : Lc G K κs F2 H2 ((σ.set 2 (some (.ref D))).set 3 (some (.ref nb))) [some (.tup bs), some (.tup es), none, some (.dK (numOf bs 0 [])), none, none, none, none, none] := by
    have ls : Ls G K κs none F1 H1 F1 H1 (σ.set 2 (some (.ref D))) (τa bs es) := ⟨L1, Ext.refl L1.sub, fun i p a h1 h2 _ => (by
      have : i = 3 := by simpa [κs] using h1
      subst this; cases h2), fun a z => (nomatch z)⟩
    exact (ls.setO e2 (i := 3) rfl (by decide) (by show 3 < 9; omega) ⟨nb, rfl, hb0, hFb, onb⟩).lc
  have hs2 : ((σ.set 2 (some (V.ref D))).set 3 (some (.ref nb)))[2]? = some (some (.ref D)) := by simp [hl9]
  have hs3 : ((σ.set 2 (some (V.ref D))).set 3 (some (.ref nb)))[3]? = some (some (.ref nb)) := by simp [hl9]
  generalize (σ.set 2 (some (V.ref D))).set 3 (some (.ref nb)) = σ2 at L2 hs2 hs3 ⊢
  have E2 : Ext F H F2 H2 := e1.trans e2
  have hHb : H nb = none := Same.free e1.h hb0
  clear L1 L0
  refine seq_i ?_
  -- the loop
  refine ⟨F2, _, L2, ?_⟩
  have hit : iFn pEnum (aCons (eVar 1) aNil) [some (.tup bs), some (.tup es), none, some (.dK (numOf bs 0 [])), none, none, none, none, none] = .ok (enumP es) := by
    show up (if es.length ≤ 1000000 then some (enumP es) else none) = _
    rw [if_pos (by omega)]; rfl
  rw [hit]
  intro J F3 H3 e3 i3
  rw [if_pos rfl] at i3
  have hel : (enumP es).length = es.length := by unfold enumP; simp
  refine ⟨fun k m σ H' => m = es.length - k ∧ k ≤ es.length ∧ ∃ F4 as rs4 num c4 c5 c6, Lc G K κs F4 H' σ [some (.tup bs), some (.tup es), none, some (.dK num), c4, c5, c6, none, none] ∧ Ext F H F4 H' ∧ Same F3 F4 ∧ σ[2]? = some (some (.ref D)) ∧ σ[3]? = some (some (.ref nb)) ∧
      nb ∉ as ∧ Rl G K H F4 H' D as rs4 ∧ (∀ r ∈ rs4, r.length = 3) ∧ rs4.length ≤ bs.length + k ∧ num.length ≤ bs.length + k ∧ stLoop es.length (es.drop k) k rs4 num = some rs,
    ⟨es.length, by simp, Nat.zero_le _, F3, as, bs.map (rowOf es.length), numOf bs 0 [], none, none, none, L2.ext e3, E2.trans e3, Same.refl _, hs2, hs3, hbas, ?_, (fun r hr => by obtain ⟨x, _, rfl⟩ := List.mem_map.mp hr; rfl), by simp, (by have := numOf_len bs 0 []; simpa using this), by simpa using hloop⟩, ?_⟩
  · have := rl2.ext e3
    exact ⟨this.at_, this.nF, Same.free (Same.refl _) rl1.n0, this.nd, this.out, rl1.new, this.rows⟩
  · rintro k m σ4 H4 ⟨rfl, hk, F4, as4, rs4, num, c4, c5, c6, l4, E4, s4, h2, h3, hnb, rl4, h3r, hlr, hln, hst⟩
    have sB : Same F3 H4 := s4.trans E4.sub
    by_cases hlt : k < es.length
    · rw [List.drop_eq_getElem_cons hlt, stLoop] at hst
      cases hss : stStep es.length k es[k] rs4 num with
      | none => rw [hss] at hst; cases hst
      | some rn =>
      obtain ⟨rs5, num5⟩ := rn
      rw [hss] at hst
      simp only at hst
      unfold stStep at hss
      split at hss
      case h_2 => cases hss
      rename_i w x hev
      have hp : (enumP es)[k]? = some (.tup [.int (k : Nat), .tup [.str w, .str x]]) := by
        unfold enumP
        rw [List.getElem?_map, List.getElem?_zipIdx, List.getElem?_eq_getElem hlt, ← hev]
        simp
      have hok : strOk w = true := by
        cases h : strOk w with
        | true => rfl
        | false => rw [if_pos h] at hss; cases hss
      rw [if_neg (by rw [hok]; decide)] at hss
      let NN : St → Hp → Prop := fun σ H' => ∃ F4 as rs4 num c4 c5 c6, Lc G K κs F4 H' σ [some (.tup bs), some (.tup es), none, some (.dK num), c4, c5, c6, none, none] ∧ Ext F H F4 H' ∧ Same F3 F4 ∧ σ[2]? = some (some (.ref D)) ∧ σ[3]? = some (some (.ref nb)) ∧
        nb ∉ as ∧ Rl G K H F4 H' D as rs4 ∧ (∀ r ∈ rs4, r.length = 3) ∧ rs4.length ≤ bs.length + (k + 1) ∧ num.length ≤ bs.length + (k + 1) ∧ stLoop es.length (es.drop (k + 1)) (k + 1) rs4 num = some rs
      refine .inr ⟨i3.go k H4 sB (by omega), NN, fun σ' H' n => ⟨es.length - (k + 1), by omega, rfl, hlt, n⟩, fun v H5 hy => ?_⟩
      obtain ⟨F5, e5, r5⟩ := i3.yld k v H4 H5 F4 _ sB s4 l4.sub hy hp
      refine ⟨F5, _, _, l4.ext e5, r5, ?_⟩
      show ∀ σ', Lc G K κs F5 H5 σ' [some (.tup bs), some (.tup es), none, some (.dK num), some (.int (k : Nat)), some (.str w), some (.str x), none, none] → (∀ j, j ∉ [4, 5, 6] → σ'[j]? = σ4[j]?) → _
      intro σ5 l5 k5
      have g2 : σ5[2]? = some (some (.ref D)) := (k5 2 (by decide)).trans h2
      have g3 : σ5[3]? = some (some (.ref nb)) := (k5 3 (by decide)).trans h3
      have E5 : Ext F H F5 H5 := E4.trans e5
      have rl5 := rl4.ext e5
      have s5 : Same F3 F5 := s4.trans e5.f
      refine ⟨F5, _, l5, ?_⟩
      have htst : tst (Lp.e2 pEq (eVar 5) (eC (.str ("in" : Str)))) [some (.tup bs), some (.tup es), none, some (.dK num), some (.int (k : Nat)), some (.str w), some (.str x), none, none] = .ok (w == ("in" : Str)) := by
        have h : Lp.e2 pEq (eVar 5) (eC (.str ("in" : Str))) [some (.tup bs), some (.tup es), none, some (.dK num), some (.int (k : Nat)), some (.str w), some (.str x), none, none] = up (pEq (.str w) (.str ("in" : Str))) := rfl
        unfold tst
        rw [h, pEq_str hok (by decide +kernel)]
        rfl
      rw [htst]
      intro F6 H6 e6
      have l6 := l5.ext e6
      have E6 := E5.trans e6
      have rl6 := rl5.ext e6
      have s6 := s5.trans e6.f
      by_cases hw : w = ("in" : Str)
      · rw [if_pos hw] at hss
        cases hss
        rw [show (w == ("in" : Str)) = true by rw [hw]; rfl]
        show tS_A G K { nx := NN, rt := Q, bk := _, ct := NN } σ5 H6
        refine seq_i ?_
        refine ⟨.ref D, g2, .inl ⟨.ref D, rs4.length, rfl, .inl ⟨as4.map .ref, .inl (.inl rl6.at_), by rw [List.length_map, rl6.rows.len]⟩, ?_⟩⟩
        refine ⟨.ref nb, g3, F6, _, l6, ?_⟩
        show ∀ v F' H', Ext F6 H6 F' H' → RM G K .sh H6 F' H' v (.str x) → _
        intro v F7 H7 e7 r7
        obtain rfl := Rep.str_inv r7
        have l7 := l6.ext e7
        have E7 := E6.trans e7
        have rl7 := rl6.ext e7
        have s7 := s6.trans e7.f
        obtain ⟨b', eb, hFb', kvs, hkv, rk⟩ := l7.ow 3 _ rfl rfl
        rw [g3] at eb
        cases eb
        have hnD : nb ≠ D := fun z => by rw [z, rl7.at_] at hkv; cases hkv
        refine ⟨nb, _, rfl, DPut.k (k := .inr x) hkv (by rw [rk.length, sizeLine_eq]; omega), ?_⟩
        have ls : Ls G K κs none F H F7 H7 σ5 [some (.tup bs), some (.tup es), none, some (.dK num), some (.int (k : Nat)), some (.str w), some (.str x), none, none] := ⟨l7, E7, fun i p a h1 h2 h3 => (by
          have : i = 3 := by simpa [κs] using h1
          subst this
          rw [g3] at h3; cases h3; exact hHb), fun a z => (nomatch z)⟩
        have ls2 := ls.write (i := 3) (p' := .dK (setP num (.inr x) (.int (rs4.length : Nat)))) rfl rfl g3 ⟨_, upd_same, RepK.set rk (.int (rs4.length : Nat))⟩
        have rl8 := rl7.keep (H' := upd H7 nb (.dK (putK kvs (.inr x) (.int (rs4.length : Nat))))) (upd_ne (Ne.symm hnD)) fun a ha => upd_ne fun z => hnb (by rw [← z]; exact ha)
        have l8 : Lc G K κs F7 _ σ5 [some (.tup bs), some (.tup es), none, some (.dK (setP num (.inr x) (.int (rs4.length : Nat)))), some (.int (k : Nat)), some (.str w), some (.str x), none, none] := ls2.lc
        have E8 := ls2.ext
        have hkv8 : upd H7 nb (.dK (putK kvs (.inr x) (.int (rs4.length : Nat)))) nb = some (.dK (putK kvs (.inr x) (.int (rs4.length : Nat)))) := upd_same
        generalize upd H7 nb (.dK (putK kvs (.inr x) (.int (rs4.length : Nat)))) = H8 at l8 E8 rl8 hkv8 ⊢
        show tDrop (tBM K "list" rAppend (tVar 2) (tCons (tLst (tA G K .sh EE κs (aCons (eVar 6) (aCons (eVar 4) (aCons (eCall pLen (aCons (eVar 1) aNil)) aNil))))) tNil)) { nx := NN, rt := Q, bk := _, ct := NN } σ5 H8
        refine ⟨.ref D, g2, .inl ⟨rfl, _, .inl (.inl rl8.at_)⟩, F7, _, l8, ?_⟩
        show ∀ vs F' H', Ext F7 H8 F' H' → RMs G K .sh H8 F' H' vs [.str x, .int (k : Nat), .int (es.length : Nat)] → _
        intro vs F9 H9 e9 r9
        have r9' := r9.shared
        refine ⟨by rw [r9'.length, sizeLine_eq]; show 3 ≤ 16777216; omega, fun p np => ?_⟩
        have l9 := l8.ext e9
        have E9 := E8.trans e9
        have rl9 := rl8.ext e9
        have hDp : D ≠ p := fun z => by rw [← z, rl9.at_] at np; cases np
        have hbp : nb ≠ p := fun z => by rw [← z, e9.h _ _ hkv8] at np; cases np
        have sn := rl9.snoc l9.sub E9.h np r9'
        rw [List.map_append] at sn
        refine ⟨D, as4.map .ref, .ref p, rfl, rfl, by rw [upd_ne hDp]; exact rl9.at_, by rw [List.length_map, rl9.rows.len, sizeLine_eq]; omega, ?_⟩
        have sub' : Same F9 (upd (upd H9 p (.lst vs)) D (.lst (as4.map V.ref ++ [V.ref p]))) := same_updR (same_updR l9.sub (Same.free l9.sub np)) rl9.nF
        refine ⟨F9, as4 ++ [p], _, _, _, _, _, lc_heap l9 sub' (fun i q a h1 h2' h3 => ?_), ⟨E9.f, same_updR (same_updR E9.h (Same.free E9.h np)) rl9.n0, sub', E9.new⟩, s7.trans e9.f, g2, g3, ?_, sn, ?_, ?_, ?_, hst⟩
        · have : i = 3 := by simpa [κs] using h1
          subst this
          rw [g3] at h3
          cases h3
          rw [upd_ne hnD, upd_ne hbp]
        · intro z
          rcases List.mem_append.mp z with z | z
          · exact hnb z
          · exact hbp (List.mem_singleton.mp z)
        · intro r hr
          rcases List.mem_append.mp hr with hr | hr
          · exact h3r r hr
          · rw [List.mem_singleton.mp hr]; rfl
        · simp only [List.length_append, List.length_singleton]; omega
        · have := setP_len num (.inr x) (.int (rs4.length : Nat)); omega
      · rw [if_neg hw] at hss
        rw [show (w == ("in" : Str)) = false by simpa using hw]
        show tS_B G K { nx := NN, rt := Q, bk := _, ct := NN } σ5 H6
        cases hv : valP num (.inr x) with
        | none => rw [hv] at hss; cases hss
        | some pi =>
        rw [hv] at hss
        cases pi with
        | int i =>
          simp only at hss
          by_cases hi : 0 ≤ i ∧ i.toNat < rs4.length
          case neg => rw [if_neg hi] at hss; cases hss
          rw [if_pos hi] at hss
          cases hss
          refine asg_i ?_
          refine ⟨F6, _, l6, ?_⟩
          show ∀ v F' H', Ext F6 H6 F' H' → RM G K .sh H6 F' H' v (.int (k : Nat)) → _
          intro v F7 H7 e7 r7
          obtain rfl := Rep.int_inv r7
          have l7 := l6.ext e7
          refine ⟨.ref D, g2, F7, _, l7, ?_⟩
          have hdg : Lp.e2 pDGet (eVar 3) (eVar 6) [some (.tup bs), some (.tup es), none, some (.dK num), some (.int (k : Nat)), some (.str w), some (.str x), none, none] = .ok (.int i) := by
            show up ((keyP (.str x)).bind (valP num)) = _
            rw [show keyP (.str x) = some (.inr x) from rfl, Option.bind_some, hv]
            rfl
          rw [hdg]
          intro v F8 H8 e8 r8
          obtain rfl := Rep.int_inv r8
          have rl8 := (rl6.ext e7).ext e8
          have l8 := l7.ext e8
          have E8 := (E6.trans e7).trans e8
          obtain ⟨a, ha, hna, ws, hws, rws⟩ := rl8.rows.get (List.getElem?_eq_getElem hi.2)
          have hl3 : ws.length = 3 := by rw [rws.length]; exact h3r _ (List.getElem_mem hi.2)
          obtain ⟨b', eb, hFb', kvs, hkv, rk⟩ := l8.ow 3 _ rfl rfl
          rw [g3] at eb
          cases eb
          have hba : nb ≠ a := fun z => hnb (by rw [z]; exact List.mem_of_getElem? ha)
          refine .inl ⟨D, as4.map .ref, i, .ref a, rfl, rfl, .inl (.inl rl8.at_), ?_, ?_⟩
          · unfold atI ixN
            rw [if_pos hi.1, if_pos (by rw [List.length_map, rl8.rows.len]; omega), Option.bind_some, List.getElem?_map, ha]
            rfl
          · refine ⟨a, ws, 2, 2, rfl, rfl, hws, by unfold ixN; rw [hl3]; rfl, ?_⟩
            have wr := rl8.write ha (Reps.set (.int (k : Nat)) 2 rws)
            have sub' : Same F8 (upd H8 a (.lst (ws.set 2 (.int (k : Nat))))) := same_updR l8.sub hna
            rw [modify_set _ _ _ hi.2] at hst
            refine ⟨F8, as4, _, num, _, _, _, lc_heap l8 sub' (fun i q c h1 h2' h3 => ?_), ⟨E8.f, same_updR E8.h (rl8.new a (List.mem_of_getElem? ha)), sub', E8.new⟩, (s6.trans e7.f).trans e8.f, g2, g3, hnb, wr, ?_, ?_, by omega, hst⟩
            · have : i = 3 := by simpa [κs] using h1
              subst this
              rw [g3] at h3
              cases h3
              exact upd_ne hba
            · intro r hr
              rcases List.mem_or_eq_of_mem_set hr with hr | rfl
              · exact h3r r hr
              · rw [List.length_set]; exact h3r _ (List.getElem_mem hi.2)
            · rw [List.length_set]; omega
        | _ => cases hss
    · have e : k = es.length := by omega
      subst e
      rw [List.drop_length, stLoop] at hst
      cases hst
      refine .inl ⟨by have := i3.stop H4 sB; rw [hel] at this; exact this, ?_⟩
      show tLc (iAny K (tVar 2)) (gName 8) tYes (tCB (rTupOf K) (tCons (tVar 8) tNil)) [8] σ4 H4 Q
      refine w_tupRows rl4 l4.sub h2 (by simp) (by rw [l4.len]; show 8 < 9; omega) (by omega) fun F' H' D2 vs e n0 nF hD2 r => ?_
      obtain ⟨F6, e6, r6⟩ := (E4.trans e).freeze (p := .lst (rs.map .tup)) (Same.free E4.h n0) nF ⟨vs, hD2, r⟩
      exact q _ _ _ e6 r6
end
end K30
end
section
set_option Elab.async false
set_option linter.all false
set_option maxRecDepth 100000
set_option maxHeartbeats 4000000
namespace K30
open PySem PySem.Spec L2 Lp
def κl : Kd := fun _ => false
section
variable {G : Nat → Addr} {K : PySem.W.Frag} {F H F' H' F0 H0 : Hp} {κ : Kd} {σ : St} {τ : LE} {D b : Addr} {as : List Addr} {rs : List (List PV)} {bs es : List PV} {a0 : PV} {v : V}
abbrev τ0 (a0 : PV) (es : List PV) : LE := [some a0, some (.tup es), none, none, none, none]
def frL : LE → Res (List PV) := aCons (eVar 3) (aCons (e1 pNeg (eC (.int 1))) (aCons (eCall pLen (aCons (eVar 1) aNil)) aNil))
theorem rows_l : ∀ ps : List PV, rowL (gNm 3) frL (wipeL (τ0 a0 es) [3]) ps = .ok (ps.map (rowOf es.length))
  | [] => rfl
  | p :: ps => by
    have h1 : (gNm 3 p (wipeL (τ0 a0 es) [3])).nx = .ok [some a0, some (.tup es), none, some p, none, none] := rfl
    have h2 : (frL [some a0, some (.tup es), none, some p, none, none]).nx = .ok (rowOf es.length p) := by simp [frL, aCons, aNil, eVar, e1, eC, eCall, pNeg, pLen, rowOf]
    rw [rowL, h1, Res.ok_bind, h2, Res.ok_bind, rows_l ps]
    rfl
theorem shape_l {a0 a1 : PV} (hq : m__law_stays a0 a1 ≠ .bad) : ∃ bs es rs, m__law_boxes a0 = .ok (.lst bs) ∧ a1 = .tup es ∧ bs.length ≤ 1000 ∧ es.length ≤ 1000 ∧ lsLoop es.length es 0 (bs.map (rowOf es.length)) = some rs ∧ m__law_stays a0 a1 = .ok (.lst (rs.map .tup)) := by
  unfold m__law_stays h__law_stays at hq ⊢
  split at hq
  · rename_i bs es hx
    split at hq
    · rename_i hc
      cases hs : lsLoop es.length es 0 (bs.map (rowOf es.length)) with
      | none => simp only [hs] at hq; exact absurd rfl hq
      | some rs => exact ⟨bs, es, rs, hx, rfl, hc.1, hc.2, hs, by simp only [hs, hx]; rw [if_pos hc]⟩
    · exact absurd rfl hq
  · exact absurd rfl hq
abbrev eEv (i : Int) : LE → Res PV := Lp.e2 pIx (Lp.e2 pIx (eVar 1) (eVar 4)) (eC (.int i))
abbrev eLen1 : LE → Res PV := eCall pLen (aCons (eVar 1) aNil)
abbrev tL_A (G : Nat → Addr) (K : PySem.W.Frag) : TS := tDrop (tBM K "list" rAppend (tVar 2) (tCons (tLst (tA G K .sh EE κl (aCons (eEv 1) (aCons (eVar 4) (aCons eLen1 aNil))))) tNil))
abbrev tL_T (G : Nat → Addr) (K : PySem.W.Frag) : TT := tAnd (tTest (tOp (rEqD K) (tOp (rIx K) (tVar 5) (tC (.int 0))) (tE G K .sh EE κl (eEv 1)))) (tTest (tOp (rEqD K) (tOp (rIx K) (tVar 5) (tC (.int 2))) (tE G K .sh EE κl eLen1)))
abbrev tL_W (G : Nat → Addr) (K : PySem.W.Frag) : TS := tAsg (tE G K .sh EE κl (eVar 4)) (gSub (tVar 5) (tC (.int 2)) rSetL)
abbrev tL_B (G : Nat → Addr) (K : PySem.W.Frag) : TS := tFor (iAny K (tVar 2)) (gName 5) (tIfS (tL_T G K) (tL_W G K) tNext)
abbrev tL4 (K : PySem.W.Frag) : TS := tRet (tLc (iAny K (tVar 2)) (gName 5) tYes (tCB (rTupOf K) (tCons (tVar 5) tNil)) [5])
abbrev tL3 (G : Nat → Addr) (K : PySem.W.Frag) : TS := tFor (tI G K true EE κl (iFn pR1 (aCons eLen1 aNil))) (tG G K [4] EE κl (gNm 4)) (tIfS (tT G K EE κl (tst (Lp.e2 pEq (eEv 0) (eC (.str ("in" : Str)))))) (tL_A G K) (tL_B G K))
abbrev tL1 (G : Nat → Addr) (K : PySem.W.Frag) : TS := tAsg (tLc (tI G K false EE κl (iSeq (eFn (ar1 m__law_boxes) (aCons (eVar 0) aNil)))) (tG G K [3] EN κl (gNm 3)) (tT G K EN κl tYesM) (tLst (tA G K .sh EN κl frL)) [3]) (gName 2)
abbrev tL (G : Nat → Addr) (K : PySem.W.Frag) : TS := tSeq (tL1 G K) (tSeq (tL3 G K) (tL4 K))
theorem tk_set {α : Type} (f : α → α) (rs : List α) (i : Nat) (h : i < rs.length) : (rs.take (i + 1)).map f ++ rs.drop (i + 1) = ((rs.take i).map f ++ rs.drop i).set i (f rs[i]) := by
  rw [← List.take_append_getElem h, List.map_append, List.set_append_right _ _ (by rw [List.length_map, List.length_take]; omega)]
  have : i - ((rs.take i).map f).length = 0 := by rw [List.length_map, List.length_take]; omega
  rw [this, List.drop_eq_getElem_cons h, List.set_cons_zero, List.append_assoc]
  rfl
theorem row_shape {r : List PV} (h : lsRowOk r = true) : ∃ y z m, r = [.str y, .int z, .int m] ∧ strOk y = true := by
  unfold lsRowOk at h
  split at h
  · exact ⟨_, _, _, rfl, h⟩
  · cases h
theorem reps3 {ws : List V} {y : Str} {z m : Int} (r : Reps G K F ws [.str y, .int z, .int m]) : ws = [.str y, .int z, .int m] := by
  cases r with
  | cons r1 r =>
    cases r with
    | cons r2 r =>
      cases r with
      | cons r3 r =>
        cases r
        rw [Rep.str_inv r1, Rep.int_inv r2, Rep.int_inv r3]
theorem read_l {Q : VK} {D0 : St → Hp → Prop} (L0 : Lc G K κl F H σ (τ0 a0 es)) (hbx : m__law_boxes a0 = .ok (.lst bs)) (hb : bs.length ≤ 1000) (he : es.length ≤ 1000) (hloop : lsLoop es.length es 0 (bs.map (rowOf es.length)) = some rs)
    (q : ∀ v F' H', Ext F H F' H' → Rep G K F' v (.lst (rs.map .tup)) → Q v H') : tL G K { nx := D0, rt := Q } σ H := by
  refine seq_i (asg_i ?_)
  have hit0 : iSeq (eFn (ar1 m__law_boxes) (aCons (eVar 0) aNil)) (τ0 a0 es) = .ok bs := by
    show (m__law_boxes a0 >>= fun p => up (itemsOf p)) = _
    rw [hbx]; rfl
  refine w_rowsLc (by decide) gok_name L0 (ps := bs) hit0 (rows_l bs) (fun r hr => by obtain ⟨x, _, rfl⟩ := List.mem_map.mp hr; show 3 ≤ 1000; omega) fun F1 H1 D as e1 rl1 => ?_
  have L1 : Lc G K κl F1 H1 (σ.set 2 (some (.ref D))) (τ0 a0 es) := lc_raw (L0.ext e1) rfl
  have hl6 : σ.length = 6 := L0.len
  show tSeq (tL3 G K) (tL4 K) { nx := D0, rt := Q } (σ.set 2 (some (.ref D))) H1
  have hs2 : (σ.set 2 (some (V.ref D)))[2]? = some (some (.ref D)) := by simp [hl6]
  generalize σ.set 2 (some (V.ref D)) = σ2 at L1 hs2 ⊢
  refine seq_i ?_
  refine ⟨F1, _, L1, ?_⟩
  have hit : iFn pR1 (aCons eLen1 aNil) (τ0 a0 es) = .ok (rngP 0 es.length) := by
    show up (if -(2 ^ 62) ≤ ((es.length : Nat) : Int) ∧ ((es.length : Nat) : Int) ≤ 1000000 then some (rngP 0 ((es.length : Nat) : Int).toNat) else none) = _
    rw [if_pos (by omega)]; rfl
  rw [hit]
  intro J F3 H3 e3 i3
  rw [if_pos rfl] at i3
  have hel : (rngP 0 es.length).length = es.length := by unfold rngP; simp
  refine ⟨fun k m σ H' => m = es.length - k ∧ k ≤ es.length ∧ ∃ F4 as rs4 c3 c4, Lc G K κl F4 H' σ [some a0, some (.tup es), none, c3, c4, none] ∧ Ext F H F4 H' ∧ Same F3 F4 ∧ σ[2]? = some (some (.ref D)) ∧
      Rl G K H F4 H' D as rs4 ∧ rs4.length ≤ bs.length + k ∧ lsLoop es.length (es.drop k) k rs4 = some rs,
    ⟨es.length, by simp, Nat.zero_le _, F3, as, bs.map (rowOf es.length), none, none, L1.ext e3, e1.trans e3, Same.refl _, hs2, rl1.ext e3, by simp, by simpa using hloop⟩, ?_⟩
  rintro k m σ4 H4 ⟨rfl, hk, F4, as4, rs4, c3, c4, l4, E4, s4, h2, rl4, hlr, hst⟩
  have sB : Same F3 H4 := s4.trans E4.sub
  by_cases hlt : k < es.length
  · rw [List.drop_eq_getElem_cons hlt, lsLoop] at hst
    cases hss : lsStep es.length k es[k] rs4 with
    | none => rw [hss] at hst; cases hst
    | some rs5 =>
    rw [hss] at hst
    simp only at hst
    unfold lsStep at hss
    split at hss
    case h_2 => cases hss
    rename_i w x hev
    have hp : (rngP 0 es.length)[k]? = some (.int (k : Nat)) := by
      unfold rngP
      rw [List.getElem?_map, List.getElem?_range hlt]
      simp
    by_cases hno : strOk w = false ∨ strOk x = false
    case pos => rw [if_pos hno] at hss; cases hss
    rw [if_neg hno] at hss
    have hok : strOk w = true := by cases h : strOk w <;> simp_all
    have hox : strOk x = true := by cases h : strOk x <;> simp_all
    let NN : St → Hp → Prop := fun σ H' => ∃ F4 as rs4 c3 c4, Lc G K κl F4 H' σ [some a0, some (.tup es), none, c3, c4, none] ∧ Ext F H F4 H' ∧ Same F3 F4 ∧ σ[2]? = some (some (.ref D)) ∧
      Rl G K H F4 H' D as rs4 ∧ rs4.length ≤ bs.length + (k + 1) ∧ lsLoop es.length (es.drop (k + 1)) (k + 1) rs4 = some rs
    refine .inr ⟨i3.go k H4 sB (by omega), NN, fun σ' H' n => ⟨es.length - (k + 1), by omega, rfl, hlt, n⟩, fun v H5 hy => ?_⟩
    obtain ⟨F5, e5, r5⟩ := i3.yld k v H4 H5 F4 _ sB s4 l4.sub hy hp
    refine ⟨F5, _, _, l4.ext e5, r5, ?_⟩
    show ∀ σ', Lc G K κl F5 H5 σ' [some a0, some (.tup es), none, c3, some (.int (k : Nat)), none] → (∀ j, j ∉ [4] → σ'[j]? = σ4[j]?) → _
    intro σ5 l5 k5
    have g2 : σ5[2]? = some (some (.ref D)) := (k5 2 (by decide)).trans h2
    have E5 : Ext F H F5 H5 := E4.trans e5
    have rl5 := rl4.ext e5
    have s5 : Same F3 F5 := s4.trans e5.f
    refine ⟨F5, _, l5, ?_⟩
    have hat : pIx (.tup es) (.int (k : Nat)) = some (.tup [.str w, .str x]) := by
      show atI es _ = _
      unfold atI ixN
      rw [if_pos (by omega), if_pos (by omega)]
      show es[k]? = _
      rw [List.getElem?_eq_getElem hlt, hev]
    have hev0 : ∀ c5 : Option PV, eEv 0 [some a0, some (.tup es), none, c3, some (.int (k : Nat)), c5] = .ok (.str w) := fun c5 => by
      show (up (pIx (.tup es) (.int (k : Nat))) >>= fun p => up (pIx p (.int 0))) = _
      rw [hat]; rfl
    have hev1 : ∀ c5 : Option PV, eEv 1 [some a0, some (.tup es), none, c3, some (.int (k : Nat)), c5] = .ok (.str x) := fun c5 => by
      show (up (pIx (.tup es) (.int (k : Nat))) >>= fun p => up (pIx p (.int 1))) = _
      rw [hat]; rfl
    have htst : tst (Lp.e2 pEq (eEv 0) (eC (.str ("in" : Str)))) [some a0, some (.tup es), none, c3, some (.int (k : Nat)), none] = .ok (w == ("in" : Str)) := by
      unfold tst
      have h : Lp.e2 pEq (eEv 0) (eC (.str ("in" : Str))) [some a0, some (.tup es), none, c3, some (.int (k : Nat)), none] = up (pEq (.str w) (.str ("in" : Str))) := by
        show (eEv 0 _ >>= fun p => Res.ok (.str ("in" : Str)) >>= fun q => up (pEq p q)) = _
        rw [hev0]; rfl
      rw [h, pEq_str hok (by decide +kernel)]
      rfl
    rw [htst]
    intro F6 H6 e6
    have l6 := l5.ext e6
    have E6 := E5.trans e6
    have rl6 := rl5.ext e6
    have s6 := s5.trans e6.f
    by_cases hw : w = ("in" : Str)
    · rw [if_pos hw] at hss
      cases hss
      rw [show (w == ("in" : Str)) = true by rw [hw]; rfl]
      show tL_A G K { nx := NN, rt := Q, bk := _, ct := NN } σ5 H6
      refine ⟨.ref D, g2, .inl ⟨rfl, _, .inl (.inl rl6.at_)⟩, F6, _, l6, ?_⟩
      have hfr : aCons (eEv 1) (aCons (eVar 4) (aCons eLen1 aNil)) [some a0, some (.tup es), none, c3, some (.int (k : Nat)), none] = .ok [.str x, .int (k : Nat), .int (es.length : Nat)] := by
        show (eEv 1 _ >>= fun p => _) = _
        rw [hev1]; rfl
      rw [hfr]
      intro vs F9 H9 e9 r9
      have r9' := r9.shared
      refine ⟨by rw [r9'.length, sizeLine_eq]; show 3 ≤ 16777216; omega, fun p np => ?_⟩
      have l9 := l6.ext e9
      have E9 := E6.trans e9
      have rl9 := rl6.ext e9
      have hDp : D ≠ p := fun z => by rw [← z, rl9.at_] at np; cases np
      have sn := rl9.snoc l9.sub E9.h np r9'
      rw [List.map_append] at sn
      refine ⟨D, as4.map .ref, .ref p, rfl, rfl, by rw [upd_ne hDp]; exact rl9.at_, by rw [List.length_map, rl9.rows.len, sizeLine_eq]; omega, ?_⟩
      have sub' : Same F9 (upd (upd H9 p (.lst vs)) D (.lst (as4.map V.ref ++ [V.ref p]))) := same_updR (same_updR l9.sub (Same.free l9.sub np)) rl9.nF
      exact ⟨F9, as4 ++ [p], _, _, _, lc_heap l9 sub' (fun i q a h1 h2' h3 => by cases h1), ⟨E9.f, same_updR (same_updR E9.h (Same.free E9.h np)) rl9.n0, sub', E9.new⟩, s6.trans e9.f, g2, sn, by simp only [List.length_append, List.length_singleton]; omega, hst⟩
    · rw [if_neg hw] at hss
      by_cases hall : rs4.all lsRowOk = true
      case neg => rw [if_neg hall] at hss; cases hss
      rw [if_pos hall] at hss
      cases hss
      rw [show (w == ("in" : Str)) = false by simpa using hw]
      show tL_B G K { nx := NN, rt := Q, bk := _, ct := NN } σ5 H6
      refine ⟨.ref D, g2, .inl ⟨D, as4.map .ref, rfl, .inl (.inl rl6.at_), fun _ => ?_⟩⟩
      have hlen5 : ∀ c5 : Option PV, eLen1 [some a0, some (.tup es), none, c3, some (.int (k : Nat)), c5] = .ok (.int (es.length : Nat)) := fun _ => rfl
      let N2 : Nat → St → Hp → Prop := fun i σ' H' => ∃ F7, Lc G K κl F7 H' σ' [some a0, some (.tup es), none, c3, some (.int (k : Nat)), none] ∧ Ext F H F7 H' ∧ Same F3 F7 ∧ σ'[2]? = some (some (.ref D)) ∧ Rl G K H F7 H' D as4 ((rs4.take i).map (lsRow es.length k x) ++ rs4.drop i)
      refine ⟨fun i m σ' H' => m = rs4.length - i ∧ i ≤ rs4.length ∧ N2 i σ' H', ⟨rs4.length, by simp, Nat.zero_le _, F6, l6, E6, s6, g2, by simpa using rl6⟩, ?_⟩
      rintro i m σ7 H7 ⟨rfl, hi, F7, l7, E7, s7, g7, rl7⟩
      by_cases hil : i < rs4.length
      · have hget : ((rs4.take i).map (lsRow es.length k x) ++ rs4.drop i)[i]? = some rs4[i] := by
          rw [List.getElem?_append_right (by rw [List.length_map, List.length_take]; omega), List.length_map, List.length_take, Nat.min_eq_left (by omega), Nat.sub_self, List.getElem?_drop, Nat.add_zero, List.getElem?_eq_getElem hil]
        obtain ⟨a, ha, hnF, ws, hws, rws⟩ := rl7.rows.get hget
        obtain ⟨y, z, m, hrow, hoy⟩ := row_shape (List.all_eq_true.mp hall _ (List.getElem_mem hil))
        rw [hrow] at rws
        have hws3 := reps3 rws
        subst hws3
        refine .inr ⟨⟨as4.map .ref, .ref a, .inl (.inl rl7.at_), by rw [List.getElem?_map, ha]; rfl⟩, N2 (i + 1), fun σ' H' n => ⟨rs4.length - (i + 1), by omega, rfl, hil, n⟩, fun xx H8 hy => ?_⟩
        obtain ⟨rfl, hx⟩ := hy
        have hx := hx _ (.inl (.inl rl7.at_))
        rw [List.getElem?_map, ha] at hx
        cases hx
        show tIfS (tL_T G K) (tL_W G K) tNext { nx := N2 (i + 1), rt := Q, bk := NN, ct := N2 (i + 1) } (σ7.set 5 (some (.ref a))) H8
        have l8 : Lc G K κl F7 H8 (σ7.set 5 (some (.ref a))) [some a0, some (.tup es), none, c3, some (.int (k : Nat)), none] := lc_raw l7 rfl
        have g5 : (σ7.set 5 (some (V.ref a)))[5]? = some (some (.ref a)) := by
          have : σ7.length = 6 := l7.len
          simp [this]
        have g8 : (σ7.set 5 (some (V.ref a)))[2]? = some (some (.ref D)) := by rw [List.getElem?_set_ne (by decide)]; exact g7
        generalize σ7.set 5 (some (V.ref a)) = σ8 at l8 g5 g8 ⊢
        -- how a turn ends
        have hsame : ∀ F9 H9, Ext F7 H8 F9 H9 → lsRow es.length k x rs4[i] = rs4[i] → N2 (i + 1) σ8 H9 := fun F9 H9 e9 hr => by
          refine ⟨F9, l8.ext e9, E7.trans e9, s7.trans e9.f, g8, ?_⟩
          rw [tk_set _ _ _ hil, hr]
          have : ((rs4.take i).map (lsRow es.length k x) ++ rs4.drop i).set i rs4[i] = (rs4.take i).map (lsRow es.length k x) ++ rs4.drop i := by
            refine List.ext_getElem? fun j => ?_
            rw [List.getElem?_set]
            by_cases hj : i = j
            · subst hj
              rw [if_pos rfl, hget, if_pos (List.getElem?_eq_some_iff.mp hget).1]
            · rw [if_neg hj]
          rw [this]
          exact rl7.ext e9
        have shs : ∀ z : Str, strOk z = true → SeqAt.shaped (.str z) = true := fun z hz => by unfold strOk at hz; simp [SeqAt.shaped, hz, PyData.depth]
        have shi : ∀ z : Int, SeqAt.shaped (.int z) = true := fun z => by simp [SeqAt.shaped, PyData.canLay0, PyData.depth]
        refine ⟨.ref a, g5, .inl ⟨a, _, 0, .str y, rfl, rfl, .inl (.inl hws), rfl, F7, _, l8, ?_⟩⟩
        rw [hev1]
        intro v F9 H9 e9 r9
        obtain rfl := Rep.str_inv r9
        refine ⟨.str y, .str x, .str _, .str _, shs y hoy, shs x hox, PyData.eqv (.str y) (.str x), rfl, ?_⟩
        by_cases hyx : y = x
        · have e : PyData.eqv (.str y) (.str x) = true := by simp [PyData.eqv, hyx]
          rw [e]
          dsimp only
          rw [if_pos rfl]
          have l9 := l8.ext e9
          refine ⟨.ref a, g5, .inl ⟨a, _, 2, .int m, rfl, rfl, .inl (.inl (e9.h _ _ hws)), rfl, F9, _, l9, ?_⟩⟩
          rw [hlen5]
          intro v F10 H10 e10 r10
          obtain rfl := Rep.int_inv r10
          refine ⟨.int m, .int (es.length : Nat), .int _, .int _, shi _, shi _, PyData.eqv (.int m) (.int (es.length : Nat)), rfl, ?_⟩
          by_cases hmn : m = (es.length : Nat)
          · have e : PyData.eqv (.int m) (.int (es.length : Nat)) = true := by simp [PyData.eqv, hmn]
            rw [e]
            dsimp only
            rw [if_pos rfl]
            have l10 := l9.ext e10
            refine asg_i ⟨F10, _, l10, ?_⟩
            show ∀ v F' H', Ext F10 H10 F' H' → RM G K .sh H10 F' H' v (.int (k : Nat)) → _
            intro v F11 H11 e11 r11
            obtain rfl := Rep.int_inv r11
            have e911 := (e9.trans e10).trans e11
            have l11 := l8.ext e911
            have rl11 := rl7.ext e911
            have E11 := E7.trans e911
            obtain ⟨hnF11, ws', hws', rws'⟩ := (show Rw1 G K F7 H8 a rs4[i] from ⟨hnF, _, hws, by rw [hrow]; exact rws⟩).ext e911
            rw [hrow] at rws'
            have hws3' := reps3 rws'
            subst hws3'
            refine ⟨.ref a, g5, a, _, 2, 2, rfl, rfl, hws', rfl, ?_⟩
            have wr := rl11.write ha (Reps.set (.int (k : Nat)) 2 rws')
            have sub' : Same F11 (upd H11 a (.lst ([V.str y, .int z, .int m].set 2 (.int (k : Nat))))) := same_updR l11.sub hnF11
            refine ⟨F11, lc_heap l11 sub' (fun j q b h1 h2' h3 => by cases h1), ⟨E11.f, same_updR E11.h (rl11.new a (List.mem_of_getElem? ha)), sub', E11.new⟩, s7.trans e911.f, g8, ?_⟩
            rw [tk_set _ _ _ hil, hrow]
            have : lsRow es.length k x [.str y, .int z, .int m] = [PV.str y, .int z, .int m].set 2 (.int (k : Nat)) := by
              show (if y = x ∧ m = (es.length : Int) then _ else _) = _
              rw [if_pos ⟨hyx, hmn⟩]
            rw [this]
            exact wr
          · have e : PyData.eqv (.int m) (.int (es.length : Nat)) = false := by simp [PyData.eqv, hmn]
            rw [e]
            dsimp only
            rw [if_neg Bool.false_ne_true]
            refine hsame F10 H10 (e9.trans e10) ?_
            rw [hrow]
            show (if y = x ∧ m = (es.length : Int) then _ else _) = _
            rw [if_neg fun h => hmn h.2]
        · have e : PyData.eqv (.str y) (.str x) = false := by simp [PyData.eqv, hyx]
          rw [e]
          dsimp only
          rw [if_neg Bool.false_ne_true, if_neg Bool.false_ne_true]
          refine hsame F9 H9 e9 ?_
          rw [hrow]
          show (if y = x ∧ m = (es.length : Int) then _ else _) = _
          rw [if_neg fun h => hyx h.1]
      · have e : i = rs4.length := by omega
        subst e
        rw [List.take_length, List.drop_length, List.append_nil] at rl7
        refine .inl ⟨⟨as4.map .ref, .inl (.inl rl7.at_), by rw [List.length_map, ← rl6.rows.len]; exact Nat.le_refl _⟩, F7, as4, _, _, _, l7, E7, s7, g7, rl7, by rw [List.length_map]; omega, hst⟩
  · have e : k = es.length := by omega
    subst e
    rw [List.drop_length, lsLoop] at hst
    cases hst
    refine .inl ⟨by have := i3.stop H4 sB; rw [hel] at this; exact this, ?_⟩
    show tLc (iAny K (tVar 2)) (gName 5) tYes (tCB (rTupOf K) (tCons (tVar 5) tNil)) [5] σ4 H4 Q
    refine w_tupRows rl4 l4.sub h2 (by simp) (by rw [l4.len]; show 5 < 6; omega) (by omega) fun F' H' D2 vs e n0 nF hD2 r => ?_
    obtain ⟨F6, e6, r6⟩ := (E4.trans e).freeze (p := .lst (rs.map .tup)) (Same.free E4.h n0) nF ⟨vs, hD2, r⟩
    exact q _ _ _ e6 r6
end
end K30
end
section
set_option Elab.async false
set_option linter.all false
set_option maxRecDepth 100000
set_option maxHeartbeats 4000000
namespace K30
open PySem PySem.Spec L2 Lp
section
variable {G : Nat → Addr} {K : PySem.W.Frag} {mg : Str → Option Value} {P : Program} {w : World} {base : Heap}
theorem d_stays_of (Z : Zs G K mg) {f : Addr} {fd : FuncData} (Fn : Fun K ("stays_of" : Str) ("stays_of" : Str) (topS 6) f fd) : FnOk P w K mg base (L2.CX P w) 3 f fd ["boxes", "events"] (spM G K .sh 2 (ar2 m_stays_of)) := by
  have S : FnScope ["boxes", "events", "found", "number", "e", "word", "name", "at", "one"] ["boxes", "events"] (defScope (topS 6)) := C8.fnScope_by (by decide +kernel)
  refine Fn.okX S (fun vs H Q E h => spM_len h) fun cdv A outer s H vs Q E hr hsp => ?_
  refine ⟨_, pss_cons (ps_setLc (i := 2) (own := [("name", 6)]) rfl S.nd rfl rfl rfl (i_loose (i_seq (G := G) (E := EE) (κ := κs) (v_var 0))) (blkOk_by (by kernel_rfl)) (fun _ _ _ _ _ => gv_name (G := G) (K := K) (E := EN) (κ := κs) 6 (hN := S.nd)) (fun _ _ _ _ _ => ts_nil (G := G) (K := K) (E := EN) (κ := κs))
      (fun _ _ _ _ _ => pe_lst (a_cons (m := .sh) (G := G) (K := K) (κ := κs) (E := EN) (v_var 6) (a_cons (v_un un_neg g_neg (v_up v_int)) (a_cons (v_callB call_lenV g_len Z.n_len (by kernel_rfl) (a_cons (v_up (v_var 1)) a_nil)) a_nil)))))
    (pss_cons (ps_setDc (i := 3) (g := tG G K [7, 6] EN κs (gTp (gsC (gNm 7) (gsC (gNm 6) gsN)) 2)) (own := [("at", 7), ("name", 6)]) rfl S.nd rfl rfl rfl (i_loose (i_enum (G := G) (E := EE) (κ := κs) Z.n_enumerate (a_cons (v_var 0) a_nil))) (blkOk_by (by kernel_rfl)) (fun _ _ _ _ _ => gv_tup (G := G) (κ := κs) (E := EN) rfl (gvs_cons (gv_name 7 (hN := S.nd)) (gvs_cons (gv_name 6 (hN := S.nd)) gvs_nil (fun _ _ => rfl)) (fun _ _ => rfl)))
      (fun _ _ _ _ _ => ts_nil (G := G) (K := K) (E := EN) (κ := κs)) (fun _ _ _ _ _ => v_var (G := G) (K := K) (κ := κs) (E := EN) 6) (fun _ _ _ _ _ => v_var (G := G) (K := K) (κ := κs) (E := EN) 7))
    (pss_cons (ps_for (passes_of rfl) rfl (i_enum (G := G) (E := EE) (κ := κs) Z.n_enumerate (a_cons (v_var 1) a_nil)) (gv_tup (G := G) (κ := κs) (E := EE) rfl (gvs_cons (gv_name 4 (hN := S.nd)) (gvs_cons (gv_tup rfl (gvs_cons (gv_name 5 (hN := S.nd)) (gvs_cons (gv_name 6 (hN := S.nd)) gvs_nil (fun _ _ => rfl)) (fun _ _ => rfl))) gvs_nil (fun _ _ => rfl)) (fun _ _ => rfl)))
      (pss_one (ps_if (t_cmp (G := G) (K := K) (κ := κs) (E := EE) (op_eqD hr.units) g_eq (v_up (v_var 5)) (v_up v_str))
        (pss_cons (ps_dput (hu_of hr) (pv 3) (v_var (G := G) (K := K) (κ := κs) (E := EE) 6) (pe_callB call_lenV rfl Z.n_len (by kernel_rfl) (pa_cons (pv 2) pa_nil)) rfl)
          (pss_one (ps_expr (pe_bm PySem.F.plainAttrs_list PySem.F.slot_list_append PySem.F.type_list_append mt_append (pv 2) (pa_cons (pe_lst (a_cons (m := .sh) (G := G) (K := K) (κ := κs) (E := EE) (v_var 6) (a_cons (v_var 4) (a_cons (v_callB call_lenV g_len Z.n_len (by kernel_rfl) (a_cons (v_up (v_var 1)) a_nil)) a_nil)))) pa_nil)))))
        (pss_one (ps_asg (v_var (G := G) (K := K) (κ := κs) (E := EE) 4) (pg_sub (pe_ix ix_seq (pv 2) (v_dget (G := G) (K := K) (κ := κs) (E := EE) (hu_of hr) (v_own 3) (v_var 6)) (by intro _ _; rfl)) pe_int set_list))))))
    (pss_one (ps_ret (pe_lc (g := gName 8) (te := tCB (rTupOf K) (tCons (tVar 8) tNil)) (own := [("one", 8)]) rfl S.nd (pi_any (pv 2)) (blkOk_by (by kernel_rfl)) (fun _ _ _ _ _ => pg_name (i := 8) S.nd rfl (.inl rfl) (.inr rfl)) (fun _ _ _ _ _ => pts_nil)
      (fun _ _ _ _ _ => pe_callTy call_tuple_of rfl Z.n_tuple (by kernel_rfl) (pa_cons (pv 8) pa_nil))))))), ?_⟩
  obtain ⟨F, qs, sm, r, hl, q⟩ := hsp
  obtain ⟨a0, a1, rfl⟩ : ∃ a0 a1, qs = [a0, a1] := by
    match qs, hl with
    | [a0, a1], _ => exact ⟨a0, a1, rfl⟩
  have q0 : match m_stays_of a0 a1 with | .ok p => ∀ v F' H', Ext F H F' H' → RM G K .sh H F' H' v p → Q v H' | .exc c fs => ExcOk G K E F H c fs | .bad => False := q
  obtain ⟨bs, es, rs, rfl, rfl, hb, he, hstr, hloop, hok⟩ := shape_s fun z => by rw [z] at q0; exact q0
  rw [hok] at q0
  have L0 := start_shared (κ := κs) (N := ["boxes", "events", "found", "number", "e", "word", "name", "at", "one"]) sm r (fun i hi => by
    match i, hi with
    | 0, _ => rfl
    | 1, _ => rfl) (by show 2 ≤ 9; omega)
  exact read_s L0 hb he hstr hloop q0
theorem d__law_stays (Z : Zs G K mg) {f : Addr} {fd : FuncData} (Fn : Fun K ("_law_stays" : Str) ("_law_stays" : Str) (topS 50) f fd) (D__law_boxes : Dk P w K mg base 1 ("_law_boxes" : Str) (spM G K .fr 1 (ar1 m__law_boxes))) : FnOk P w K mg base (L2.CX P w) 3 f fd ["_law_stacks_here", "_law_events_here"] (spM G K .sh 2 (ar2 m__law_stays)) := by
  have S : FnScope ["_law_stacks_here", "_law_events_here", "_law_found", "_law_name", "_law_e", "_law_stay"] ["_law_stacks_here", "_law_events_here"] (defScope (topS 50)) := C8.fnScope_by (by decide +kernel)
  refine Fn.okX S (fun vs H Q E h => spM_len h) fun cdv A outer s H vs Q E hr hsp => ?_
  refine ⟨_, pss_cons (ps_setLc (i := 2) (own := [("_law_name", 3)]) rfl S.nd rfl rfl rfl (i_loose (i_seq (G := G) (E := EE) (κ := κl) (v_freeze (v_call D__law_boxes (hr.mono (by decide)) takes0 (a_cons (v_var 0) a_nil) ar1_len)))) (blkOk_by (by kernel_rfl)) (fun _ _ _ _ _ => gv_name (G := G) (K := K) (E := EN) (κ := κl) 3 (hN := S.nd)) (fun _ _ _ _ _ => ts_nil (G := G) (K := K) (E := EN) (κ := κl))
      (fun _ _ _ _ _ => pe_lst (a_cons (m := .sh) (G := G) (K := K) (κ := κl) (E := EN) (v_var 3) (a_cons (v_un un_neg g_neg (v_up v_int)) (a_cons (v_callB call_lenV g_len Z.n_len (by kernel_rfl) (a_cons (v_up (v_var 1)) a_nil)) a_nil)))))
    (pss_cons (ps_for (passes_of rfl) rfl (i_range1 (G := G) (K := K) (E := EE) (κ := κl) Z.n_range (a_cons (v_callB call_lenV g_len Z.n_len (by kernel_rfl) (a_cons (v_up (v_var 1)) a_nil)) a_nil)) (gv_name (G := G) (K := K) (κ := κl) (E := EE) 4 (hN := S.nd))
      (pss_one (ps_if (t_cmp (G := G) (K := K) (κ := κl) (E := EE) (op_eqD hr.units) g_eq (v_up (v_ix (v_up (v_ix (v_up (v_var 1)) (v_up (v_var 4)))) (v_up v_int))) (v_up v_str))
        (pss_one (ps_expr (pe_bm PySem.F.plainAttrs_list PySem.F.slot_list_append PySem.F.type_list_append mt_append (pv 2) (pa_cons (pe_lst (a_cons (m := .sh) (G := G) (K := K) (κ := κl) (E := EE) (v_ix (v_up (v_ix (v_up (v_var 1)) (v_up (v_var 4)))) (v_up v_int)) (a_cons (v_var 4) (a_cons (v_callB call_lenV g_len Z.n_len (by kernel_rfl) (a_cons (v_up (v_var 1)) a_nil)) a_nil)))) pa_nil))))
        (pss_one (ps_for (passes_of rfl) rfl (pi_any (pv 2)) (pg_name (i := 5) S.nd rfl (.inl rfl) (.inl rfl))
          (pss_one (ps_if (PW.pt (pw_and (pt_cmpR (op_eqD hr.units) (pe_ix ix_seq (pv 5) pe_int (by intro _ _; rfl)) (v_ix (G := G) (κ := κl) (E := EE) (v_up (v_ix (v_up (v_var 1)) (v_up (v_var 4)))) (v_up v_int)) (nomark _)) (pw_and1 (pt_cmpR (op_eqD hr.units) (pe_ix ix_seq (pv 5) pe_int (by intro _ _; rfl)) (v_callB (G := G) (K := K) (κ := κl) (E := EE) call_lenV g_len Z.n_len (by kernel_rfl) (a_cons (v_up (v_var 1)) a_nil)) (nomark _)))))
            (pss_one (ps_asg (v_var (G := G) (K := K) (κ := κl) (E := EE) 4) (pg_sub (pv 5) pe_int set_list))) pss_nil)))))))
    (pss_one (ps_ret (pe_lc (g := gName 5) (te := tCB (rTupOf K) (tCons (tVar 5) tNil)) (own := [("_law_stay", 5)]) rfl S.nd (pi_any (pv 2)) (blkOk_by (by kernel_rfl)) (fun _ _ _ _ _ => pg_name (i := 5) S.nd rfl (.inl rfl) (.inr rfl)) (fun _ _ _ _ _ => pts_nil)
      (fun _ _ _ _ _ => pe_callTy call_tuple_of rfl Z.n_tuple (by kernel_rfl) (pa_cons (pv 5) pa_nil)))))), ?_⟩
  obtain ⟨F, qs, sm, r, hl, q⟩ := hsp
  obtain ⟨a0, a1, rfl⟩ : ∃ a0 a1, qs = [a0, a1] := by
    match qs, hl with
    | [a0, a1], _ => exact ⟨a0, a1, rfl⟩
  have q0 : match m__law_stays a0 a1 with | .ok p => ∀ v F' H', Ext F H F' H' → RM G K .sh H F' H' v p → Q v H' | .exc c fs => ExcOk G K E F H c fs | .bad => False := q
  obtain ⟨bs, es, rs, hbx, rfl, hb, he, hloop, hok⟩ := shape_l fun z => by rw [z] at q0; exact q0
  rw [hok] at q0
  have L0 := start_shared (κ := κl) (N := ["_law_stacks_here", "_law_events_here", "_law_found", "_law_name", "_law_e", "_law_stay"]) sm r (fun i hi => rfl) (by show 2 ≤ 6; omega)
  exact read_l L0 hbx hb he hloop q0
end
end K30
end
section
set_option Elab.async false
set_option linter.all false
set_option maxRecDepth 100000
set_option maxHeartbeats 4000000
namespace K30
open PySem PySem.Spec L2 Lp
def spLaw (K : PySem.W.Frag) : Sp := fun vs H Q _ => ∃ (a : Addr) (ns : List Int), vs = [V.ref a] ∧ ns.length ≤ 63 ∧ SqL K H a (ns.map V.int) ∧ ∀ H', Q (.bl true) H'
theorem all_mk {w : World} {K : PySem.W.Frag} {h : Heap} {mg : Str → Option Value} {fa : Addr} (X : K.In h) (Gn : h.Ns mainGlobals mg) (hfa : mg "law" = some (.ref fa))
    {C0 : Addr} {C1 : Addr} {C2 : Addr} {C3 : Addr} {C4 : Addr} {C5 : Addr} {C6 : Addr} {nm1 q1 : Str} {N1 fI1 cc1 cda1 : Addr} {bs1 : List Value} {sn1 : List Str} {sb1 : List Value} {ab1 : Bool} {col1 : Option Bool} {dd1 od1 an1 oe1 og1 : Option Addr} {k01 k11 k21 k31 k51 : Option Value} {oc1 kV1 dc1 pm1 ct1 ou1 ov1 : Value} {sl1 sm1 so1 : Array (Option Value)} {vs1 : Array Value} {fl1 : Str} {tf1 : Tok} {nm0 q0 : Str} {N0 : Addr} {bs0 : List Value} {sn0 : List Str} {sb0 : List Value} {ab0 : Bool} {col0 : Option Bool} {dd0 : Option Addr} {k00 k10 k20 k30 k50 : Option Value} {nm2 q2 : Str} {N2 fI2 cc2 cda2 : Addr} {bs2 : List Value} {sn2 : List Str} {sb2 : List Value} {ab2 : Bool} {col2 : Option Bool} {dd2 od2 an2 oe2 og2 : Option Addr} {k02 k12 k22 k32 k52 : Option Value} {oc2 kV2 dc2 pm2 ct2 ou2 ov2 : Value} {sl2 sm2 so2 : Array (Option Value)} {vs2 : Array Value} {fl2 : Str} {tf2 : Tok} {nm3 q3 : Str} {N3 fI3 cc3 cda3 : Addr} {bs3 : List Value} {sn3 : List Str} {sb3 : List Value} {ab3 : Bool} {col3 : Option Bool} {dd3 od3 an3 oe3 og3 : Option Addr} {k03 k13 k23 k33 k53 : Option Value} {oc3 kV3 dc3 pm3 ct3 ou3 ov3 : Value} {sl3 sm3 so3 : Array (Option Value)} {vs3 : Array Value} {fl3 : Str} {tf3 : Tok} {nm4 q4 : Str} {N4 fI4 cc4 cda4 : Addr} {bs4 : List Value} {sn4 : List Str} {sb4 : List Value} {ab4 : Bool} {col4 : Option Bool} {dd4 od4 an4 oe4 og4 : Option Addr} {k04 k14 k24 k34 k54 : Option Value} {oc4 kV4 dc4 pm4 ct4 ou4 ov4 : Value} {sl4 sm4 so4 : Array (Option Value)} {vs4 : Array Value} {fl4 : Str} {tf4 : Tok} {fI5 : Addr} {od5 an5 : Option Addr} {oc5 kV5 dc5 pm5 cd5 ct5 : Value} {sl5 : Array (Option Value)} {fI6 : Addr} {od6 an6 : Option Addr} {oc6 kV6 dc6 pm6 cd6 ct6 : Value} {sl6 : Array (Option Value)} {f__law_row : Addr} {od__law_row an__law_row : Option Addr} {oc__law_row kV__law_row dc__law_row pm__law_row cd__law_row ct__law_row : Value} {sl__law_row : Array (Option Value)} {f__law_names : Addr} {od__law_names an__law_names : Option Addr} {oc__law_names kV__law_names dc__law_names pm__law_names cd__law_names ct__law_names : Value} {sl__law_names : Array (Option Value)} {f__law_stacks : Addr} {od__law_stacks an__law_stacks : Option Addr} {oc__law_stacks kV__law_stacks dc__law_stacks pm__law_stacks cd__law_stacks ct__law_stacks : Value} {sl__law_stacks : Array (Option Value)} {f__law_cell : Addr} {od__law_cell an__law_cell : Option Addr} {oc__law_cell kV__law_cell dc__law_cell pm__law_cell cd__law_cell ct__law_cell : Value} {sl__law_cell : Array (Option Value)} {f__law_boxes : Addr} {od__law_boxes an__law_boxes : Option Addr} {oc__law_boxes kV__law_boxes dc__law_boxes pm__law_boxes cd__law_boxes ct__law_boxes : Value} {sl__law_boxes : Array (Option Value)} {f__law_events : Addr} {od__law_events an__law_events : Option Addr} {oc__law_events kV__law_events dc__law_events pm__law_events cd__law_events ct__law_events : Value} {sl__law_events : Array (Option Value)} {f__law_day : Addr} {od__law_day an__law_day : Option Addr} {oc__law_day kV__law_day dc__law_day pm__law_day cd__law_day ct__law_day : Value} {sl__law_day : Array (Option Value)} {f_is_sequence : Addr} {od_is_sequence an_is_sequence : Option Addr} {oc_is_sequence kV_is_sequence dc_is_sequence pm_is_sequence cd_is_sequence ct_is_sequence : Value} {sl_is_sequence : Array (Option Value)} {f_boxes_of : Addr} {od_boxes_of an_boxes_of : Option Addr} {oc_boxes_of kV_boxes_of dc_boxes_of pm_boxes_of cd_boxes_of ct_boxes_of : Value} {sl_boxes_of : Array (Option Value)} {f_is_name : Addr} {od_is_name an_is_name : Option Addr} {oc_is_name kV_is_name dc_is_name pm_is_name cd_is_name ct_is_name : Value} {sl_is_name : Array (Option Value)} {f_is_event : Addr} {od_is_event an_is_event : Option Addr} {oc_is_event kV_is_event dc_is_event pm_is_event cd_is_event ct_is_event : Value} {sl_is_event : Array (Option Value)} {f_as_events : Addr} {od_as_events an_as_events : Option Addr} {oc_as_events kV_as_events dc_as_events pm_as_events cd_as_events ct_as_events : Value} {sl_as_events : Array (Option Value)} {f__law_stays : Addr} {od__law_stays an__law_stays : Option Addr} {oc__law_stays kV__law_stays dc__law_stays pm__law_stays cd__law_stays ct__law_stays : Value} {sl__law_stays : Array (Option Value)} {f__law_is_integer : Addr} {od__law_is_integer an__law_is_integer : Option Addr} {oc__law_is_integer kV__law_is_integer dc__law_is_integer pm__law_is_integer cd__law_is_integer ct__law_is_integer : Value} {sl__law_is_integer : Array (Option Value)} {f__law_same : Addr} {od__law_same an__law_same : Option Addr} {oc__law_same kV__law_same dc__law_same pm__law_same cd__law_same ct__law_same : Value} {sl__law_same : Array (Option Value)} {f_are_unlike : Addr} {od_are_unlike an_are_unlike : Option Addr} {oc_are_unlike kV_are_unlike dc_are_unlike pm_are_unlike cd_are_unlike ct_are_unlike : Value} {sl_are_unlike : Array (Option Value)} {f_as_stacks : Addr} {od_as_stacks an_as_stacks : Option Addr} {oc_as_stacks kV_as_stacks dc_as_stacks pm_as_stacks cd_as_stacks ct_as_stacks : Value} {sl_as_stacks : Array (Option Value)} {f_is_integer_core_plain : Addr} {od_is_integer_core_plain an_is_integer_core_plain : Option Addr} {oc_is_integer_core_plain kV_is_integer_core_plain dc_is_integer_core_plain pm_is_integer_core_plain cd_is_integer_core_plain ct_is_integer_core_plain : Value} {sl_is_integer_core_plain : Array (Option Value)} {f_is_number : Addr} {od_is_number an_is_number : Option Addr} {oc_is_number kV_is_number dc_is_number pm_is_number cd_is_number ct_is_number : Value} {sl_is_number : Array (Option Value)} {f_stays_of : Addr} {od_stays_of an_stays_of : Option Addr} {oc_stays_of kV_stays_of dc_stays_of pm_stays_of cd_stays_of ct_stays_of : Value} {sl_stays_of : Array (Option Value)} {f_stays_in : Addr} {od_stays_in an_stays_in : Option Addr} {oc_stays_in kV_stays_in dc_stays_in pm_stays_in cd_stays_in ct_stays_in : Value} {sl_stays_in : Array (Option Value)} {f_stays : Addr} {od_stays an_stays : Option Addr} {oc_stays kV_stays dc_stays pm_stays cd_stays ct_stays : Value} {sl_stays : Array (Option Value)} {f_is_cut_by : Addr} {od_is_cut_by an_is_cut_by : Option Addr} {oc_is_cut_by kV_is_cut_by dc_is_cut_by pm_is_cut_by cd_is_cut_by ct_is_cut_by : Value} {sl_is_cut_by : Array (Option Value)} {f_are_apart : Addr} {od_are_apart an_are_apart : Option Addr} {oc_are_apart kV_are_apart dc_are_apart pm_are_apart cd_are_apart ct_are_apart : Value} {sl_are_apart : Array (Option Value)} {f_is_integer_core_looking : Addr} {od_is_integer_core_looking an_is_integer_core_looking : Option Addr} {oc_is_integer_core_looking kV_is_integer_core_looking dc_is_integer_core_looking pm_is_integer_core_looking cd_is_integer_core_looking ct_is_integer_core_looking : Value} {sl_is_integer_core_looking : Array (Option Value)} {f_is_below : Addr} {od_is_below an_is_below : Option Addr} {oc_is_below kV_is_below dc_is_below pm_is_below cd_is_below ct_is_below : Value} {sl_is_below : Array (Option Value)} {f_clash : Addr} {od_clash an_clash : Option Addr} {oc_clash kV_clash dc_clash pm_clash cd_clash ct_clash : Value} {sl_clash : Array (Option Value)} {f__law_clash : Addr} {od__law_clash an__law_clash : Option Addr} {oc__law_clash kV__law_clash dc__law_clash pm__law_clash cd__law_clash ct__law_clash : Value} {sl__law_clash : Array (Option Value)} {f__law_refused : Addr} {od__law_refused an__law_refused : Option Addr} {oc__law_refused kV__law_refused dc__law_refused pm__law_refused cd__law_refused ct__law_refused : Value} {sl__law_refused : Array (Option Value)} {f__law_whole : Addr} {od__law_whole an__law_whole : Option Addr} {oc__law_whole kV__law_whole dc__law_whole pm__law_whole cd__law_whole ct__law_whole : Value} {sl__law_whole : Array (Option Value)} {f_law : Addr} {od_law an_law : Option Addr} {oc_law kV_law dc_law pm_law cd_law ct_law : Value} {sl_law : Array (Option Value)} {tg_MOST_LETTERS : Tok} {tg_LETTERS : Tok} {tg_OUT : Tok} {tg_IN : Tok}
    (aC0 : PySem.W.nsIn K mainGlobals ("YardError" : Str) = some (some (.ref C0)))
    (aC1 : PySem.W.nsIn K mainGlobals ("InvalidYard" : Str) = some (some (.ref C1)))
    (aC2 : PySem.W.nsIn K mainGlobals ("InvalidDay" : Str) = some (some (.ref C2)))
    (aC3 : PySem.W.nsIn K mainGlobals ("InvalidNumber" : Str) = some (some (.ref C3)))
    (aC4 : PySem.W.nsIn K mainGlobals ("Undefined" : Str) = some (some (.ref C4)))
    (aC5 : PySem.W.nsIn K mainGlobals ("Yard" : Str) = some (some (.ref C5)))
    (aC6 : PySem.W.nsIn K mainGlobals ("Day" : Str) = some (some (.ref C6)))
    (xL1 : K.lookup C1 = some (excClassObj nm1 q1 C1 N1 bs1 [.ref C0, .type "ValueError", .type "Exception", .type "BaseException", .type "object"] true sn1 sb1 ab1 col1 dd1 k01 k11 k21 k31 k51 "ValueError.__new__"))
    (sa1 : PySem.W.findIn K (.ref C1) "__setattr__" = some (some (.builtin "object.__setattr__")))
    (eC1 : PySem.W.subIn K (.ref C1) (.type "BaseException") = some true)
    (tC1 : PySem.W.typeIn K (.ref C1) = some (.type "type"))
    (kC1 : PySem.W.keepIn K (.ref C1) = true)
    (iC1 : PySem.W.findIn K (.ref C1) "__init__" = some (some (.ref fI1)))
    (tI1 : PySem.W.typeIn K (.ref fI1) = some (.type "function"))
    (lI1 : K.lookup fI1 = some ⟨oc1, od1, .func (PySem.W.fnX "__init__" ("InvalidYard.__init__" : Str) (defArgs (inClass (topS 11) 0)) (defBody (inClass (topS 11) 0)) (defScope (inClass (topS 11) 0)) [("__class__", cc1)] .none kV1 dc1 pm1 an1 (.ref cda1) ct1), sl1⟩)
    (cI1 : PySem.W.codeIn K (.ref cda1) ("InvalidYard.__init__" : Str) = true)
    (lc1 : K.lookup cc1 = some ⟨ou1, oe1, .cell (some (.ref C1)), sm1⟩)
    (ld1 : K.lookup cda1 = some ⟨ov1, og1, .fields vs1, so1⟩)
    (hv1 : vs1[2]? = some (.str fl1 tf1))
    (hf1 : ((PySem.Challenge.pw_leastshifts_k30_stays_and_clashes.main.file : Str) == fl1) = true)
    (xL0 : K.lookup C0 = some (excClassObj nm0 q0 C0 N0 bs0 [.type "ValueError", .type "Exception", .type "BaseException", .type "object"] true sn0 sb0 ab0 col0 dd0 k00 k10 k20 k30 k50 "ValueError.__new__"))
    (fi0 : PySem.W.findIn K (.ref C0) "__init__" = some (some (.builtin "ValueError.__init__")))
    (iV1 : PySem.W.subIn K (.ref C1) (.type "ValueError") = some true)
    (no1_value : PySem.W.findIn K (.ref C1) ("value" : Str) = some none)
    (xL2 : K.lookup C2 = some (excClassObj nm2 q2 C2 N2 bs2 [.ref C0, .type "ValueError", .type "Exception", .type "BaseException", .type "object"] true sn2 sb2 ab2 col2 dd2 k02 k12 k22 k32 k52 "ValueError.__new__"))
    (sa2 : PySem.W.findIn K (.ref C2) "__setattr__" = some (some (.builtin "object.__setattr__")))
    (eC2 : PySem.W.subIn K (.ref C2) (.type "BaseException") = some true)
    (tC2 : PySem.W.typeIn K (.ref C2) = some (.type "type"))
    (kC2 : PySem.W.keepIn K (.ref C2) = true)
    (iC2 : PySem.W.findIn K (.ref C2) "__init__" = some (some (.ref fI2)))
    (tI2 : PySem.W.typeIn K (.ref fI2) = some (.type "function"))
    (lI2 : K.lookup fI2 = some ⟨oc2, od2, .func (PySem.W.fnX "__init__" ("InvalidDay.__init__" : Str) (defArgs (inClass (topS 12) 0)) (defBody (inClass (topS 12) 0)) (defScope (inClass (topS 12) 0)) [("__class__", cc2)] .none kV2 dc2 pm2 an2 (.ref cda2) ct2), sl2⟩)
    (cI2 : PySem.W.codeIn K (.ref cda2) ("InvalidDay.__init__" : Str) = true)
    (lc2 : K.lookup cc2 = some ⟨ou2, oe2, .cell (some (.ref C2)), sm2⟩)
    (ld2 : K.lookup cda2 = some ⟨ov2, og2, .fields vs2, so2⟩)
    (hv2 : vs2[2]? = some (.str fl2 tf2))
    (hf2 : ((PySem.Challenge.pw_leastshifts_k30_stays_and_clashes.main.file : Str) == fl2) = true)
    (iV2 : PySem.W.subIn K (.ref C2) (.type "ValueError") = some true)
    (no2_value : PySem.W.findIn K (.ref C2) ("value" : Str) = some none)
    (xL3 : K.lookup C3 = some (excClassObj nm3 q3 C3 N3 bs3 [.ref C0, .type "ValueError", .type "Exception", .type "BaseException", .type "object"] true sn3 sb3 ab3 col3 dd3 k03 k13 k23 k33 k53 "ValueError.__new__"))
    (sa3 : PySem.W.findIn K (.ref C3) "__setattr__" = some (some (.builtin "object.__setattr__")))
    (eC3 : PySem.W.subIn K (.ref C3) (.type "BaseException") = some true)
    (tC3 : PySem.W.typeIn K (.ref C3) = some (.type "type"))
    (kC3 : PySem.W.keepIn K (.ref C3) = true)
    (iC3 : PySem.W.findIn K (.ref C3) "__init__" = some (some (.ref fI3)))
    (tI3 : PySem.W.typeIn K (.ref fI3) = some (.type "function"))
    (lI3 : K.lookup fI3 = some ⟨oc3, od3, .func (PySem.W.fnX "__init__" ("InvalidNumber.__init__" : Str) (defArgs (inClass (topS 13) 0)) (defBody (inClass (topS 13) 0)) (defScope (inClass (topS 13) 0)) [("__class__", cc3)] .none kV3 dc3 pm3 an3 (.ref cda3) ct3), sl3⟩)
    (cI3 : PySem.W.codeIn K (.ref cda3) ("InvalidNumber.__init__" : Str) = true)
    (lc3 : K.lookup cc3 = some ⟨ou3, oe3, .cell (some (.ref C3)), sm3⟩)
    (ld3 : K.lookup cda3 = some ⟨ov3, og3, .fields vs3, so3⟩)
    (hv3 : vs3[2]? = some (.str fl3 tf3))
    (hf3 : ((PySem.Challenge.pw_leastshifts_k30_stays_and_clashes.main.file : Str) == fl3) = true)
    (iV3 : PySem.W.subIn K (.ref C3) (.type "ValueError") = some true)
    (no3_value : PySem.W.findIn K (.ref C3) ("value" : Str) = some none)
    (xL4 : K.lookup C4 = some (excClassObj nm4 q4 C4 N4 bs4 [.ref C0, .type "ValueError", .type "Exception", .type "BaseException", .type "object"] true sn4 sb4 ab4 col4 dd4 k04 k14 k24 k34 k54 "ValueError.__new__"))
    (sa4 : PySem.W.findIn K (.ref C4) "__setattr__" = some (some (.builtin "object.__setattr__")))
    (eC4 : PySem.W.subIn K (.ref C4) (.type "BaseException") = some true)
    (tC4 : PySem.W.typeIn K (.ref C4) = some (.type "type"))
    (kC4 : PySem.W.keepIn K (.ref C4) = true)
    (iC4 : PySem.W.findIn K (.ref C4) "__init__" = some (some (.ref fI4)))
    (tI4 : PySem.W.typeIn K (.ref fI4) = some (.type "function"))
    (lI4 : K.lookup fI4 = some ⟨oc4, od4, .func (PySem.W.fnX "__init__" ("Undefined.__init__" : Str) (defArgs (inClass (topS 14) 0)) (defBody (inClass (topS 14) 0)) (defScope (inClass (topS 14) 0)) [("__class__", cc4)] .none kV4 dc4 pm4 an4 (.ref cda4) ct4), sl4⟩)
    (cI4 : PySem.W.codeIn K (.ref cda4) ("Undefined.__init__" : Str) = true)
    (lc4 : K.lookup cc4 = some ⟨ou4, oe4, .cell (some (.ref C4)), sm4⟩)
    (ld4 : K.lookup cda4 = some ⟨ov4, og4, .fields vs4, so4⟩)
    (hv4 : vs4[2]? = some (.str fl4 tf4))
    (hf4 : ((PySem.Challenge.pw_leastshifts_k30_stays_and_clashes.main.file : Str) == fl4) = true)
    (iV4 : PySem.W.subIn K (.ref C4) (.type "ValueError") = some true)
    (no4_what : PySem.W.findIn K (.ref C4) ("what" : Str) = some none)
    (zsuper : PySem.W.nsIn K mainGlobals "super" = some none)
    (zany : PySem.W.nsIn K cStatics "thirdparty.any" = some none)
    (pg5 : PySem.W.plainGet K C5 Str.empty = true)
    (hd5 : PySem.W.hasDictIn K C5 = true)
    (po5 : PySem.W.plainOver K C5 = true)
    (sa5 : PySem.W.findIn K (.ref C5) "__setattr__" = some (some (.builtin "object.__setattr__")))
    (mk5 : PySem.W.makesIn K C5 = true)
    (iC5 : PySem.W.findIn K (.ref C5) "__init__" = some (some (.ref fI5)))
    (fn5 : PySem.W.isFn K (.ref fI5) = true)
    (kC5 : PySem.W.keepIn K (.ref C5) = true)
    (lI5 : K.lookup fI5 = some ⟨oc5, od5, .func (PySem.W.fnOf "__init__" ("Yard.__init__" : Str) (defArgs (inClass (topS 28) 0)) (defBody (inClass (topS 28) 0)) (defScope (inClass (topS 28) 0)) .none kV5 dc5 pm5 an5 cd5 ct5), sl5⟩)
    (cI5 : PySem.W.codeIn K cd5 ("Yard.__init__" : Str) = true)
    (kI5 : PySem.W.keepIn K (.ref fI5) = true)
    (pg6 : PySem.W.plainGet K C6 Str.empty = true)
    (hd6 : PySem.W.hasDictIn K C6 = true)
    (po6 : PySem.W.plainOver K C6 = true)
    (sa6 : PySem.W.findIn K (.ref C6) "__setattr__" = some (some (.builtin "object.__setattr__")))
    (mk6 : PySem.W.makesIn K C6 = true)
    (iC6 : PySem.W.findIn K (.ref C6) "__init__" = some (some (.ref fI6)))
    (fn6 : PySem.W.isFn K (.ref fI6) = true)
    (kC6 : PySem.W.keepIn K (.ref C6) = true)
    (lI6 : K.lookup fI6 = some ⟨oc6, od6, .func (PySem.W.fnOf "__init__" ("Day.__init__" : Str) (defArgs (inClass (topS 40) 0)) (defBody (inClass (topS 40) 0)) (defScope (inClass (topS 40) 0)) .none kV6 dc6 pm6 an6 cd6 ct6), sl6⟩)
    (cI6 : PySem.W.codeIn K cd6 ("Day.__init__" : Str) = true)
    (kI6 : PySem.W.keepIn K (.ref fI6) = true)
    (a__law_row : PySem.W.nsIn K mainGlobals ("_law_row" : Str) = some (some (.ref f__law_row)))
    (l__law_row : K.lookup f__law_row = some ⟨oc__law_row, od__law_row, .func (PySem.W.fnOf ("_law_row" : Str) ("_law_row" : Str) (defArgs (topS 43)) (defBody (topS 43)) (defScope (topS 43)) .none kV__law_row dc__law_row pm__law_row an__law_row cd__law_row ct__law_row), sl__law_row⟩)
    (c__law_row : PySem.W.codeIn K cd__law_row ("_law_row" : Str) = true)
    (k__law_row : PySem.W.keepIn K (.ref f__law_row) = true)
    (a__law_names : PySem.W.nsIn K mainGlobals ("_law_names" : Str) = some (some (.ref f__law_names)))
    (l__law_names : K.lookup f__law_names = some ⟨oc__law_names, od__law_names, .func (PySem.W.fnOf ("_law_names" : Str) ("_law_names" : Str) (defArgs (topS 45)) (defBody (topS 45)) (defScope (topS 45)) .none kV__law_names dc__law_names pm__law_names an__law_names cd__law_names ct__law_names), sl__law_names⟩)
    (c__law_names : PySem.W.codeIn K cd__law_names ("_law_names" : Str) = true)
    (k__law_names : PySem.W.keepIn K (.ref f__law_names) = true)
    (a__law_stacks : PySem.W.nsIn K mainGlobals ("_law_stacks" : Str) = some (some (.ref f__law_stacks)))
    (l__law_stacks : K.lookup f__law_stacks = some ⟨oc__law_stacks, od__law_stacks, .func (PySem.W.fnOf ("_law_stacks" : Str) ("_law_stacks" : Str) (defArgs (topS 46)) (defBody (topS 46)) (defScope (topS 46)) .none kV__law_stacks dc__law_stacks pm__law_stacks an__law_stacks cd__law_stacks ct__law_stacks), sl__law_stacks⟩)
    (c__law_stacks : PySem.W.codeIn K cd__law_stacks ("_law_stacks" : Str) = true)
    (k__law_stacks : PySem.W.keepIn K (.ref f__law_stacks) = true)
    (a__law_cell : PySem.W.nsIn K mainGlobals ("_law_cell" : Str) = some (some (.ref f__law_cell)))
    (l__law_cell : K.lookup f__law_cell = some ⟨oc__law_cell, od__law_cell, .func (PySem.W.fnOf ("_law_cell" : Str) ("_law_cell" : Str) (defArgs (topS 42)) (defBody (topS 42)) (defScope (topS 42)) .none kV__law_cell dc__law_cell pm__law_cell an__law_cell cd__law_cell ct__law_cell), sl__law_cell⟩)
    (c__law_cell : PySem.W.codeIn K cd__law_cell ("_law_cell" : Str) = true)
    (k__law_cell : PySem.W.keepIn K (.ref f__law_cell) = true)
    (a__law_boxes : PySem.W.nsIn K mainGlobals ("_law_boxes" : Str) = some (some (.ref f__law_boxes)))
    (l__law_boxes : K.lookup f__law_boxes = some ⟨oc__law_boxes, od__law_boxes, .func (PySem.W.fnOf ("_law_boxes" : Str) ("_law_boxes" : Str) (defArgs (topS 47)) (defBody (topS 47)) (defScope (topS 47)) .none kV__law_boxes dc__law_boxes pm__law_boxes an__law_boxes cd__law_boxes ct__law_boxes), sl__law_boxes⟩)
    (c__law_boxes : PySem.W.codeIn K cd__law_boxes ("_law_boxes" : Str) = true)
    (k__law_boxes : PySem.W.keepIn K (.ref f__law_boxes) = true)
    (a__law_events : PySem.W.nsIn K mainGlobals ("_law_events" : Str) = some (some (.ref f__law_events)))
    (l__law_events : K.lookup f__law_events = some ⟨oc__law_events, od__law_events, .func (PySem.W.fnOf ("_law_events" : Str) ("_law_events" : Str) (defArgs (topS 48)) (defBody (topS 48)) (defScope (topS 48)) .none kV__law_events dc__law_events pm__law_events an__law_events cd__law_events ct__law_events), sl__law_events⟩)
    (c__law_events : PySem.W.codeIn K cd__law_events ("_law_events" : Str) = true)
    (k__law_events : PySem.W.keepIn K (.ref f__law_events) = true)
    (a__law_day : PySem.W.nsIn K mainGlobals ("_law_day" : Str) = some (some (.ref f__law_day)))
    (l__law_day : K.lookup f__law_day = some ⟨oc__law_day, od__law_day, .func (PySem.W.fnOf ("_law_day" : Str) ("_law_day" : Str) (defArgs (topS 49)) (defBody (topS 49)) (defScope (topS 49)) .none kV__law_day dc__law_day pm__law_day an__law_day cd__law_day ct__law_day), sl__law_day⟩)
    (c__law_day : PySem.W.codeIn K cd__law_day ("_law_day" : Str) = true)
    (k__law_day : PySem.W.keepIn K (.ref f__law_day) = true)
    (a_is_sequence : PySem.W.nsIn K mainGlobals ("is_sequence" : Str) = some (some (.ref f_is_sequence)))
    (l_is_sequence : K.lookup f_is_sequence = some ⟨oc_is_sequence, od_is_sequence, .func (PySem.W.fnOf ("is_sequence" : Str) ("is_sequence" : Str) (defArgs (topS 21)) (defBody (topS 21)) (defScope (topS 21)) .none kV_is_sequence dc_is_sequence pm_is_sequence an_is_sequence cd_is_sequence ct_is_sequence), sl_is_sequence⟩)
    (c_is_sequence : PySem.W.codeIn K cd_is_sequence ("is_sequence" : Str) = true)
    (k_is_sequence : PySem.W.keepIn K (.ref f_is_sequence) = true)
    (a_boxes_of : PySem.W.nsIn K mainGlobals ("boxes_of" : Str) = some (some (.ref f_boxes_of)))
    (l_boxes_of : K.lookup f_boxes_of = some ⟨oc_boxes_of, od_boxes_of, .func (PySem.W.fnOf ("boxes_of" : Str) ("boxes_of" : Str) (defArgs (topS 30)) (defBody (topS 30)) (defScope (topS 30)) .none kV_boxes_of dc_boxes_of pm_boxes_of an_boxes_of cd_boxes_of ct_boxes_of), sl_boxes_of⟩)
    (c_boxes_of : PySem.W.codeIn K cd_boxes_of ("boxes_of" : Str) = true)
    (k_boxes_of : PySem.W.keepIn K (.ref f_boxes_of) = true)
    (a_is_name : PySem.W.nsIn K mainGlobals ("is_name" : Str) = some (some (.ref f_is_name)))
    (l_is_name : K.lookup f_is_name = some ⟨oc_is_name, od_is_name, .func (PySem.W.fnOf ("is_name" : Str) ("is_name" : Str) (defArgs (topS 22)) (defBody (topS 22)) (defScope (topS 22)) .none kV_is_name dc_is_name pm_is_name an_is_name cd_is_name ct_is_name), sl_is_name⟩)
    (c_is_name : PySem.W.codeIn K cd_is_name ("is_name" : Str) = true)
    (k_is_name : PySem.W.keepIn K (.ref f_is_name) = true)
    (a_is_event : PySem.W.nsIn K mainGlobals ("is_event" : Str) = some (some (.ref f_is_event)))
    (l_is_event : K.lookup f_is_event = some ⟨oc_is_event, od_is_event, .func (PySem.W.fnOf ("is_event" : Str) ("is_event" : Str) (defArgs (topS 38)) (defBody (topS 38)) (defScope (topS 38)) .none kV_is_event dc_is_event pm_is_event an_is_event cd_is_event ct_is_event), sl_is_event⟩)
    (c_is_event : PySem.W.codeIn K cd_is_event ("is_event" : Str) = true)
    (k_is_event : PySem.W.keepIn K (.ref f_is_event) = true)
    (a_as_events : PySem.W.nsIn K mainGlobals ("as_events" : Str) = some (some (.ref f_as_events)))
    (l_as_events : K.lookup f_as_events = some ⟨oc_as_events, od_as_events, .func (PySem.W.fnOf ("as_events" : Str) ("as_events" : Str) (defArgs (topS 39)) (defBody (topS 39)) (defScope (topS 39)) .none kV_as_events dc_as_events pm_as_events an_as_events cd_as_events ct_as_events), sl_as_events⟩)
    (c_as_events : PySem.W.codeIn K cd_as_events ("as_events" : Str) = true)
    (k_as_events : PySem.W.keepIn K (.ref f_as_events) = true)
    (a__law_stays : PySem.W.nsIn K mainGlobals ("_law_stays" : Str) = some (some (.ref f__law_stays)))
    (l__law_stays : K.lookup f__law_stays = some ⟨oc__law_stays, od__law_stays, .func (PySem.W.fnOf ("_law_stays" : Str) ("_law_stays" : Str) (defArgs (topS 50)) (defBody (topS 50)) (defScope (topS 50)) .none kV__law_stays dc__law_stays pm__law_stays an__law_stays cd__law_stays ct__law_stays), sl__law_stays⟩)
    (c__law_stays : PySem.W.codeIn K cd__law_stays ("_law_stays" : Str) = true)
    (k__law_stays : PySem.W.keepIn K (.ref f__law_stays) = true)
    (a__law_is_integer : PySem.W.nsIn K mainGlobals ("_law_is_integer" : Str) = some (some (.ref f__law_is_integer)))
    (l__law_is_integer : K.lookup f__law_is_integer = some ⟨oc__law_is_integer, od__law_is_integer, .func (PySem.W.fnOf ("_law_is_integer" : Str) ("_law_is_integer" : Str) (defArgs (topS 44)) (defBody (topS 44)) (defScope (topS 44)) .none kV__law_is_integer dc__law_is_integer pm__law_is_integer an__law_is_integer cd__law_is_integer ct__law_is_integer), sl__law_is_integer⟩)
    (c__law_is_integer : PySem.W.codeIn K cd__law_is_integer ("_law_is_integer" : Str) = true)
    (k__law_is_integer : PySem.W.keepIn K (.ref f__law_is_integer) = true)
    (a__law_same : PySem.W.nsIn K mainGlobals ("_law_same" : Str) = some (some (.ref f__law_same)))
    (l__law_same : K.lookup f__law_same = some ⟨oc__law_same, od__law_same, .func (PySem.W.fnOf ("_law_same" : Str) ("_law_same" : Str) (defArgs (topS 52)) (defBody (topS 52)) (defScope (topS 52)) .none kV__law_same dc__law_same pm__law_same an__law_same cd__law_same ct__law_same), sl__law_same⟩)
    (c__law_same : PySem.W.codeIn K cd__law_same ("_law_same" : Str) = true)
    (k__law_same : PySem.W.keepIn K (.ref f__law_same) = true)
    (a_are_unlike : PySem.W.nsIn K mainGlobals ("are_unlike" : Str) = some (some (.ref f_are_unlike)))
    (l_are_unlike : K.lookup f_are_unlike = some ⟨oc_are_unlike, od_are_unlike, .func (PySem.W.fnOf ("are_unlike" : Str) ("are_unlike" : Str) (defArgs (topS 23)) (defBody (topS 23)) (defScope (topS 23)) .none kV_are_unlike dc_are_unlike pm_are_unlike an_are_unlike cd_are_unlike ct_are_unlike), sl_are_unlike⟩)
    (c_are_unlike : PySem.W.codeIn K cd_are_unlike ("are_unlike" : Str) = true)
    (k_are_unlike : PySem.W.keepIn K (.ref f_are_unlike) = true)
    (a_as_stacks : PySem.W.nsIn K mainGlobals ("as_stacks" : Str) = some (some (.ref f_as_stacks)))
    (l_as_stacks : K.lookup f_as_stacks = some ⟨oc_as_stacks, od_as_stacks, .func (PySem.W.fnOf ("as_stacks" : Str) ("as_stacks" : Str) (defArgs (topS 27)) (defBody (topS 27)) (defScope (topS 27)) .none kV_as_stacks dc_as_stacks pm_as_stacks an_as_stacks cd_as_stacks ct_as_stacks), sl_as_stacks⟩)
    (c_as_stacks : PySem.W.codeIn K cd_as_stacks ("as_stacks" : Str) = true)
    (k_as_stacks : PySem.W.keepIn K (.ref f_as_stacks) = true)
    (a_is_integer_core_plain : PySem.W.nsIn K mainGlobals ("is_integer_core_plain" : Str) = some (some (.ref f_is_integer_core_plain)))
    (l_is_integer_core_plain : K.lookup f_is_integer_core_plain = some ⟨oc_is_integer_core_plain, od_is_integer_core_plain, .func (PySem.W.fnOf ("is_integer" : Str) ("is_integer" : Str) (defArgs (topS 18)) (defBody (topS 18)) (defScope (topS 18)) .none kV_is_integer_core_plain dc_is_integer_core_plain pm_is_integer_core_plain an_is_integer_core_plain cd_is_integer_core_plain ct_is_integer_core_plain), sl_is_integer_core_plain⟩)
    (c_is_integer_core_plain : PySem.W.codeIn K cd_is_integer_core_plain ("is_integer" : Str) = true)
    (k_is_integer_core_plain : PySem.W.keepIn K (.ref f_is_integer_core_plain) = true)
    (a_is_number : PySem.W.nsIn K mainGlobals ("is_number" : Str) = some (some (.ref f_is_number)))
    (l_is_number : K.lookup f_is_number = some ⟨oc_is_number, od_is_number, .func (PySem.W.fnOf ("is_number" : Str) ("is_number" : Str) (defArgs (topS 20)) (defBody (topS 20)) (defScope (topS 20)) .none kV_is_number dc_is_number pm_is_number an_is_number cd_is_number ct_is_number), sl_is_number⟩)
    (c_is_number : PySem.W.codeIn K cd_is_number ("is_number" : Str) = true)
    (k_is_number : PySem.W.keepIn K (.ref f_is_number) = true)
    (a_stays_of : PySem.W.nsIn K mainGlobals ("stays_of" : Str) = some (some (.ref f_stays_of)))
    (l_stays_of : K.lookup f_stays_of = some ⟨oc_stays_of, od_stays_of, .func (PySem.W.fnOf ("stays_of" : Str) ("stays_of" : Str) (defArgs (topS 6)) (defBody (topS 6)) (defScope (topS 6)) .none kV_stays_of dc_stays_of pm_stays_of an_stays_of cd_stays_of ct_stays_of), sl_stays_of⟩)
    (c_stays_of : PySem.W.codeIn K cd_stays_of ("stays_of" : Str) = true)
    (k_stays_of : PySem.W.keepIn K (.ref f_stays_of) = true)
    (a_stays_in : PySem.W.nsIn K mainGlobals ("stays_in" : Str) = some (some (.ref f_stays_in)))
    (l_stays_in : K.lookup f_stays_in = some ⟨oc_stays_in, od_stays_in, .func (PySem.W.fnOf ("stays_in" : Str) ("stays_in" : Str) (defArgs (topS 32)) (defBody (topS 32)) (defScope (topS 32)) .none kV_stays_in dc_stays_in pm_stays_in an_stays_in cd_stays_in ct_stays_in), sl_stays_in⟩)
    (c_stays_in : PySem.W.codeIn K cd_stays_in ("stays_in" : Str) = true)
    (k_stays_in : PySem.W.keepIn K (.ref f_stays_in) = true)
    (a_stays : PySem.W.nsIn K mainGlobals ("stays" : Str) = some (some (.ref f_stays)))
    (l_stays : K.lookup f_stays = some ⟨oc_stays, od_stays, .func (PySem.W.fnOf ("stays" : Str) ("stays" : Str) (defArgs (topS 33)) (defBody (topS 33)) (defScope (topS 33)) .none kV_stays dc_stays pm_stays an_stays cd_stays ct_stays), sl_stays⟩)
    (c_stays : PySem.W.codeIn K cd_stays ("stays" : Str) = true)
    (k_stays : PySem.W.keepIn K (.ref f_stays) = true)
    (a_is_cut_by : PySem.W.nsIn K mainGlobals ("is_cut_by" : Str) = some (some (.ref f_is_cut_by)))
    (l_is_cut_by : K.lookup f_is_cut_by = some ⟨oc_is_cut_by, od_is_cut_by, .func (PySem.W.fnOf ("is_cut_by" : Str) ("is_cut_by" : Str) (defArgs (topS 7)) (defBody (topS 7)) (defScope (topS 7)) .none kV_is_cut_by dc_is_cut_by pm_is_cut_by an_is_cut_by cd_is_cut_by ct_is_cut_by), sl_is_cut_by⟩)
    (c_is_cut_by : PySem.W.codeIn K cd_is_cut_by ("is_cut_by" : Str) = true)
    (k_is_cut_by : PySem.W.keepIn K (.ref f_is_cut_by) = true)
    (a_are_apart : PySem.W.nsIn K mainGlobals ("are_apart" : Str) = some (some (.ref f_are_apart)))
    (l_are_apart : K.lookup f_are_apart = some ⟨oc_are_apart, od_are_apart, .func (PySem.W.fnOf ("are_apart" : Str) ("are_apart" : Str) (defArgs (topS 8)) (defBody (topS 8)) (defScope (topS 8)) .none kV_are_apart dc_are_apart pm_are_apart an_are_apart cd_are_apart ct_are_apart), sl_are_apart⟩)
    (c_are_apart : PySem.W.codeIn K cd_are_apart ("are_apart" : Str) = true)
    (k_are_apart : PySem.W.keepIn K (.ref f_are_apart) = true)
    (a_is_integer_core_looking : PySem.W.nsIn K mainGlobals ("is_integer_core_looking" : Str) = some (some (.ref f_is_integer_core_looking)))
    (l_is_integer_core_looking : K.lookup f_is_integer_core_looking = some ⟨oc_is_integer_core_looking, od_is_integer_core_looking, .func (PySem.W.fnOf ("is_integer" : Str) ("is_integer" : Str) (defArgs (topS 2)) (defBody (topS 2)) (defScope (topS 2)) .none kV_is_integer_core_looking dc_is_integer_core_looking pm_is_integer_core_looking an_is_integer_core_looking cd_is_integer_core_looking ct_is_integer_core_looking), sl_is_integer_core_looking⟩)
    (c_is_integer_core_looking : PySem.W.codeIn K cd_is_integer_core_looking ("is_integer" : Str) = true)
    (k_is_integer_core_looking : PySem.W.keepIn K (.ref f_is_integer_core_looking) = true)
    (a_is_below : PySem.W.nsIn K mainGlobals ("is_below" : Str) = some (some (.ref f_is_below)))
    (l_is_below : K.lookup f_is_below = some ⟨oc_is_below, od_is_below, .func (PySem.W.fnOf ("is_below" : Str) ("is_below" : Str) (defArgs (topS 4)) (defBody (topS 4)) (defScope (topS 4)) .none kV_is_below dc_is_below pm_is_below an_is_below cd_is_below ct_is_below), sl_is_below⟩)
    (c_is_below : PySem.W.codeIn K cd_is_below ("is_below" : Str) = true)
    (k_is_below : PySem.W.keepIn K (.ref f_is_below) = true)
    (a_clash : PySem.W.nsIn K mainGlobals ("clash" : Str) = some (some (.ref f_clash)))
    (l_clash : K.lookup f_clash = some ⟨oc_clash, od_clash, .func (PySem.W.fnOf ("clash" : Str) ("clash" : Str) (defArgs (topS 34)) (defBody (topS 34)) (defScope (topS 34)) .none kV_clash dc_clash pm_clash an_clash cd_clash ct_clash), sl_clash⟩)
    (c_clash : PySem.W.codeIn K cd_clash ("clash" : Str) = true)
    (k_clash : PySem.W.keepIn K (.ref f_clash) = true)
    (a__law_clash : PySem.W.nsIn K mainGlobals ("_law_clash" : Str) = some (some (.ref f__law_clash)))
    (l__law_clash : K.lookup f__law_clash = some ⟨oc__law_clash, od__law_clash, .func (PySem.W.fnOf ("_law_clash" : Str) ("_law_clash" : Str) (defArgs (topS 51)) (defBody (topS 51)) (defScope (topS 51)) .none kV__law_clash dc__law_clash pm__law_clash an__law_clash cd__law_clash ct__law_clash), sl__law_clash⟩)
    (c__law_clash : PySem.W.codeIn K cd__law_clash ("_law_clash" : Str) = true)
    (k__law_clash : PySem.W.keepIn K (.ref f__law_clash) = true)
    (a__law_refused : PySem.W.nsIn K mainGlobals ("_law_refused" : Str) = some (some (.ref f__law_refused)))
    (l__law_refused : K.lookup f__law_refused = some ⟨oc__law_refused, od__law_refused, .func (PySem.W.fnOf ("_law_refused" : Str) ("_law_refused" : Str) (defArgs (topS 53)) (defBody (topS 53)) (defScope (topS 53)) .none kV__law_refused dc__law_refused pm__law_refused an__law_refused cd__law_refused ct__law_refused), sl__law_refused⟩)
    (c__law_refused : PySem.W.codeIn K cd__law_refused ("_law_refused" : Str) = true)
    (k__law_refused : PySem.W.keepIn K (.ref f__law_refused) = true)
    (a__law_whole : PySem.W.nsIn K mainGlobals ("_law_whole" : Str) = some (some (.ref f__law_whole)))
    (l__law_whole : K.lookup f__law_whole = some ⟨oc__law_whole, od__law_whole, .func (PySem.W.fnOf ("_law_whole" : Str) ("_law_whole" : Str) (defArgs (topS 54)) (defBody (topS 54)) (defScope (topS 54)) .none kV__law_whole dc__law_whole pm__law_whole an__law_whole cd__law_whole ct__law_whole), sl__law_whole⟩)
    (c__law_whole : PySem.W.codeIn K cd__law_whole ("_law_whole" : Str) = true)
    (k__law_whole : PySem.W.keepIn K (.ref f__law_whole) = true)
    (a_law : PySem.W.nsIn K mainGlobals ("law" : Str) = some (some (.ref f_law)))
    (l_law : K.lookup f_law = some ⟨oc_law, od_law, .func (PySem.W.fnOf ("law" : Str) ("law" : Str) (defArgs (topS 55)) (defBody (topS 55)) (defScope (topS 55)) .none kV_law dc_law pm_law an_law cd_law ct_law), sl_law⟩)
    (c_law : PySem.W.codeIn K cd_law ("law" : Str) = true)
    (k_law : PySem.W.keepIn K (.ref f_law) = true)
    (zn_range : PySem.W.nsIn K mainGlobals ("range" : Str) = some none)
    (zn_int : PySem.W.nsIn K mainGlobals ("int" : Str) = some none)
    (zn_len : PySem.W.nsIn K mainGlobals ("len" : Str) = some none)
    (zn_min : PySem.W.nsIn K mainGlobals ("min" : Str) = some none)
    (zn_tuple : PySem.W.nsIn K mainGlobals ("tuple" : Str) = some none)
    (zn_list : PySem.W.nsIn K mainGlobals ("list" : Str) = some none)
    (zn_isinstance : PySem.W.nsIn K mainGlobals ("isinstance" : Str) = some none)
    (no5_stacks : PySem.W.findIn K (.ref C5) ("stacks" : Str) = some none)
    (zn_str : PySem.W.nsIn K mainGlobals ("str" : Str) = some none)
    (zg_MOST_LETTERS : PySem.W.nsIn K mainGlobals ("MOST_LETTERS" : Str) = some (some (.int 8 tg_MOST_LETTERS)))
    (zg_LETTERS : PySem.W.nsIn K mainGlobals ("LETTERS" : Str) = some (some (.str ("abcdefghijklmnopqrstuvwxyz" : Str) tg_LETTERS)))
    (zn_all : PySem.W.nsIn K mainGlobals ("all" : Str) = some none)
    (zg_OUT : PySem.W.nsIn K mainGlobals ("OUT" : Str) = some (some (.str ("out" : Str) tg_OUT)))
    (zg_IN : PySem.W.nsIn K mainGlobals ("IN" : Str) = some (some (.str ("in" : Str) tg_IN)))
    (no6_yard : PySem.W.findIn K (.ref C6) ("yard" : Str) = some none)
    (no6_events : PySem.W.findIn K (.ref C6) ("events" : Str) = some none)
    (zn_bool : PySem.W.nsIn K mainGlobals ("bool" : Str) = some none)
    (no5_height : PySem.W.findIn K (.ref C5) ("height" : Str) = some none)
    (zn_enumerate : PySem.W.nsIn K mainGlobals ("enumerate" : Str) = some none)
    (sub1_4 : PySem.W.subIn K (.ref C1) (.ref C4) = some false)
    (xhD4 : PySem.W.hasDictIn K C4 = true)
    (sub2_4 : PySem.W.subIn K (.ref C2) (.ref C4) = some false)
    (sub3_4 : PySem.W.subIn K (.ref C3) (.ref C4) = some false)
    (sub4_4 : PySem.W.subIn K (.ref C4) (.ref C4) = some true)
    (xga4 : PySem.W.findIn K (.ref C4) "__getattribute__" = some (some (.builtin "BaseException.__getattribute__")))
    (xgg4 : PySem.W.findIn K (.ref C4) "__getattr__" = some none)
    (xha4 : PySem.W.findIn K (.ref C4) "__class__" = some (some (.builtin "object.__class__")))
    (xhn4 : PySem.W.specialIn K (.builtin "object.__class__") "__get__" = some (some (.builtin "getset_descriptor.__get__")))
    (xht4 : PySem.W.takesIn K (.builtin "object.__class__") = some true)
    (xhm4 : PySem.W.mroIn K C4 (.type "object") = some true)
    (sub4_0 : PySem.W.subIn K (.ref C4) (.ref C0) = some true)
    (eC0 : PySem.W.subIn K (.ref C0) (.type "BaseException") = some true)
    (tC0 : PySem.W.typeIn K (.ref C0) = some (.type "type"))
    (xhD0 : PySem.W.hasDictIn K C0 = true)
    (subT4_ValueError : PySem.W.subIn K (.ref C4) (.type "ValueError") = some true)
    (zn_ValueError : PySem.W.nsIn K mainGlobals ("ValueError" : Str) = some none)
    (sub1_0 : PySem.W.subIn K (.ref C1) (.ref C0) = some true)
    (sub2_0 : PySem.W.subIn K (.ref C2) (.ref C0) = some true)
    (sub3_0 : PySem.W.subIn K (.ref C3) (.ref C0) = some true)
    : ∃ fd : FuncData, (∀ (s : Shared) (u : Value), BindsTo s fd ⟨[u], []⟩ [("_law_script", u)]) ∧ ∀ base : Heap, K.In base → base.Ns mainGlobals mg → FnOk PySem.Challenge.pw_leastshifts_k30_stays_and_clashes w K mg base (L2.CX PySem.Challenge.pw_leastshifts_k30_stays_and_clashes w) 16 fa fd ["_law_script"] (spLaw K) := by
  let G : Nat → Addr := fun n => match n with | 0 => C0 | 1 => C1 | 2 => C2 | 3 => C3 | 4 => C4 | 5 => C5 | 6 => C6 | _ => 0
  have Z : Zs G K mg := ⟨PySem.W.mg_none_of X Gn zn_range,
    PySem.W.mg_none_of X Gn zn_int,
    PySem.W.mg_none_of X Gn zn_len,
    PySem.W.mg_none_of X Gn zn_min,
    PySem.W.mg_none_of X Gn zn_tuple,
    PySem.W.mg_none_of X Gn zn_list,
    PySem.W.mg_none_of X Gn zn_isinstance,
    ⟨⟨pg5, hd5, po5, sa5⟩, no5_stacks⟩,
    PySem.W.mg_none_of X Gn zn_str,
    ⟨tg_MOST_LETTERS, PySem.W.mg_of X Gn zg_MOST_LETTERS⟩,
    ⟨tg_LETTERS, PySem.W.mg_of X Gn zg_LETTERS⟩,
    PySem.W.mg_none_of X Gn zn_all,
    ⟨tg_OUT, PySem.W.mg_of X Gn zg_OUT⟩,
    ⟨tg_IN, PySem.W.mg_of X Gn zg_IN⟩,
    ⟨⟨pg6, hd6, po6, sa6⟩, no6_yard⟩,
    ⟨⟨pg6, hd6, po6, sa6⟩, no6_events⟩,
    PySem.W.mg_none_of X Gn zn_bool,
    ⟨⟨pg5, hd5, po5, sa5⟩, no5_height⟩,
    PySem.W.mg_none_of X Gn zn_enumerate,
    PySem.W.mg_of X Gn aC4,
    PySem.W.exm_ref eC4 xhD4 tC4 sub1_4,
    PySem.W.exm_ref eC4 xhD4 tC4 sub2_4,
    PySem.W.exm_ref eC4 xhD4 tC4 sub3_4,
    PySem.W.exm_ref eC4 xhD4 tC4 sub4_4,
    ⟨xga4, xgg4, eC4, xhD4, xha4, xhn4, xht4, xhm4⟩,
    PySem.W.mg_of X Gn aC0,
    kit_ref xhD0 tC0 sub4_0 (fun _ => rfl),
    kit_typ (by decide +kernel) subT4_ValueError,
    PySem.W.mg_none_of X Gn zn_ValueError,
    ⟨xga4, xgg4, eC4, xhD4⟩,
    no4_what,
    PySem.W.exm_ref eC0 xhD0 tC0 sub1_0,
    PySem.W.exm_ref eC0 xhD0 tC0 sub2_0,
    PySem.W.exm_ref eC0 xhD0 tC0 sub3_0,
    PySem.W.exm_ref eC0 xhD0 tC0 sub4_0⟩
  have e := hfa.symm.trans (PySem.W.mg_of X Gn a_law)
  cases e
  refine ⟨PySem.W.fnOf "law" "law" (defArgs (topS 55)) (defBody (topS 55)) (defScope (topS 55)) .none kV_law dc_law pm_law an_law cd_law ct_law, fun s u => .of_eq rfl, fun base Xb Gb => ?_⟩
  have T1 : OexC K C1 := ⟨⟨_, _, _, _, _, _, _, _, _, _, _, _, _, _, _, xL1, by rfl⟩, sa1, eC1, tC1, kC1⟩
  have X_InvalidYard : ExcC PySem.Challenge.pw_leastshifts_k30_stays_and_clashes w K mg base 1 ("InvalidYard" : Str) (G 1) (spX1 (G 1) ("value" : Str)) := by
    refine ⟨T1, ⟨fI1, _, _, iC1, tI1, Lx.fn_exc (N := [("self" : Str), ("value" : Str), ("__class__" : Str)]) (ps := [("self" : Str), ("value" : Str)]) T1 lI1 cI1 lc1 ld1 hv1 hf1 (by decide +kernel) (NdefX.nscope_by (by decide +kernel)) rfl rfl (by decide +kernel) (PySem.W.mg_none_of X Gn zsuper) zany (sup_of xL1 xL0 fi0) iV1 rfl (fun _ => rfl) (fun _ => rfl)
      (fun vs H Q E h => ?_) (fun A outer s H E => rest1 rfl rfl (by decide) (by decide) T1 no1_value), .all fun us hl => match us, hl with | [_, _], _ => rfl⟩, PySem.W.mg_of X Gn aC1⟩
    obtain ⟨a, y0, rfl, h, _⟩ := h
    exact ⟨rfl, a, _, rfl, h⟩
  have T2 : OexC K C2 := ⟨⟨_, _, _, _, _, _, _, _, _, _, _, _, _, _, _, xL2, by rfl⟩, sa2, eC2, tC2, kC2⟩
  have X_InvalidDay : ExcC PySem.Challenge.pw_leastshifts_k30_stays_and_clashes w K mg base 1 ("InvalidDay" : Str) (G 2) (spX1 (G 2) ("value" : Str)) := by
    refine ⟨T2, ⟨fI2, _, _, iC2, tI2, Lx.fn_exc (N := [("self" : Str), ("value" : Str), ("__class__" : Str)]) (ps := [("self" : Str), ("value" : Str)]) T2 lI2 cI2 lc2 ld2 hv2 hf2 (by decide +kernel) (NdefX.nscope_by (by decide +kernel)) rfl rfl (by decide +kernel) (PySem.W.mg_none_of X Gn zsuper) zany (sup_of xL2 xL0 fi0) iV2 rfl (fun _ => rfl) (fun _ => rfl)
      (fun vs H Q E h => ?_) (fun A outer s H E => rest1 rfl rfl (by decide) (by decide) T2 no2_value), .all fun us hl => match us, hl with | [_, _], _ => rfl⟩, PySem.W.mg_of X Gn aC2⟩
    obtain ⟨a, y0, rfl, h, _⟩ := h
    exact ⟨rfl, a, _, rfl, h⟩
  have T3 : OexC K C3 := ⟨⟨_, _, _, _, _, _, _, _, _, _, _, _, _, _, _, xL3, by rfl⟩, sa3, eC3, tC3, kC3⟩
  have X_InvalidNumber : ExcC PySem.Challenge.pw_leastshifts_k30_stays_and_clashes w K mg base 1 ("InvalidNumber" : Str) (G 3) (spX1 (G 3) ("value" : Str)) := by
    refine ⟨T3, ⟨fI3, _, _, iC3, tI3, Lx.fn_exc (N := [("self" : Str), ("value" : Str), ("__class__" : Str)]) (ps := [("self" : Str), ("value" : Str)]) T3 lI3 cI3 lc3 ld3 hv3 hf3 (by decide +kernel) (NdefX.nscope_by (by decide +kernel)) rfl rfl (by decide +kernel) (PySem.W.mg_none_of X Gn zsuper) zany (sup_of xL3 xL0 fi0) iV3 rfl (fun _ => rfl) (fun _ => rfl)
      (fun vs H Q E h => ?_) (fun A outer s H E => rest1 rfl rfl (by decide) (by decide) T3 no3_value), .all fun us hl => match us, hl with | [_, _], _ => rfl⟩, PySem.W.mg_of X Gn aC3⟩
    obtain ⟨a, y0, rfl, h, _⟩ := h
    exact ⟨rfl, a, _, rfl, h⟩
  have T4 : OexC K C4 := ⟨⟨_, _, _, _, _, _, _, _, _, _, _, _, _, _, _, xL4, by rfl⟩, sa4, eC4, tC4, kC4⟩
  have X_Undefined : ExcC PySem.Challenge.pw_leastshifts_k30_stays_and_clashes w K mg base 1 ("Undefined" : Str) (G 4) (spX1 (G 4) ("what" : Str)) := by
    refine ⟨T4, ⟨fI4, _, _, iC4, tI4, Lx.fn_exc (N := [("self" : Str), ("what" : Str), ("__class__" : Str)]) (ps := [("self" : Str), ("what" : Str)]) T4 lI4 cI4 lc4 ld4 hv4 hf4 (by decide +kernel) (NdefX.nscope_by (by decide +kernel)) rfl rfl (by decide +kernel) (PySem.W.mg_none_of X Gn zsuper) zany (sup_of xL4 xL0 fi0) iV4 rfl (fun _ => rfl) (fun _ => rfl)
      (fun vs H Q E h => ?_) (fun A outer s H E => rest1 rfl rfl (by decide) (by decide) T4 no4_what), .all fun us hl => match us, hl with | [_, _], _ => rfl⟩, PySem.W.mg_of X Gn aC4⟩
    obtain ⟨a, y0, rfl, h, _⟩ := h
    exact ⟨rfl, a, _, rfl, h⟩
  have F__law_row := fun_mk (st := (topS 43)) l__law_row c__law_row k__law_row
  have B__law_row := F__law_row.binds (ps := [("_law_cell_here" : Str), ("_law_many" : Str), ("_law_base" : Str), ("_law_salt" : Str)]) fun _ _ _ _ _ _ us hl => match us, hl with | [_, _, _, _], _ => rfl
  have W__law_row : FnOk PySem.Challenge.pw_leastshifts_k30_stays_and_clashes w K mg base (L2.CX PySem.Challenge.pw_leastshifts_k30_stays_and_clashes w) 1 _ _ _ (spM G K .sh 4 (ar4 m__law_row)) := d__law_row Z F__law_row 
  have D__law_row : Dk PySem.Challenge.pw_leastshifts_k30_stays_and_clashes w K mg base 1 ("_law_row" : Str) (spM G K .sh 4 (ar4 m__law_row)) := ⟨_, _, _, W__law_row, PySem.W.mg_of X Gn a__law_row, F__law_row.kp, B__law_row⟩
  have F__law_names := fun_mk (st := (topS 45)) l__law_names c__law_names k__law_names
  have B__law_names := F__law_names.binds (ps := [("_law_cell_here" : Str), ("_law_salt" : Str), ("_law_many" : Str)]) fun _ _ _ _ _ _ us hl => match us, hl with | [_, _, _], _ => rfl
  have W__law_names : FnOk PySem.Challenge.pw_leastshifts_k30_stays_and_clashes w K mg base (L2.CX PySem.Challenge.pw_leastshifts_k30_stays_and_clashes w) 2 _ _ _ (spM G K .sh 3 (ar3 m__law_names)) := d__law_names Z F__law_names D__law_row
  have D__law_names : Dk PySem.Challenge.pw_leastshifts_k30_stays_and_clashes w K mg base 2 ("_law_names" : Str) (spM G K .sh 3 (ar3 m__law_names)) := ⟨_, _, _, W__law_names, PySem.W.mg_of X Gn a__law_names, F__law_names.kp, B__law_names⟩
  have F__law_stacks := fun_mk (st := (topS 46)) l__law_stacks c__law_stacks k__law_stacks
  have B__law_stacks := F__law_stacks.binds (ps := [("_law_marks" : Str), ("_law_names_here" : Str), ("_law_count" : Str), ("_law_height" : Str)]) fun _ _ _ _ _ _ us hl => match us, hl with | [_, _, _, _], _ => rfl
  have W__law_stacks : FnOk PySem.Challenge.pw_leastshifts_k30_stays_and_clashes w K mg base (L2.CX PySem.Challenge.pw_leastshifts_k30_stays_and_clashes w) 1 _ _ _ (spM G K .sh 4 (ar4 m__law_stacks)) := d__law_stacks Z F__law_stacks 
  have D__law_stacks : Dk PySem.Challenge.pw_leastshifts_k30_stays_and_clashes w K mg base 1 ("_law_stacks" : Str) (spM G K .sh 4 (ar4 m__law_stacks)) := ⟨_, _, _, W__law_stacks, PySem.W.mg_of X Gn a__law_stacks, F__law_stacks.kp, B__law_stacks⟩
  have F__law_cell := fun_mk (st := (topS 42)) l__law_cell c__law_cell k__law_cell
  have B__law_cell := F__law_cell.binds (ps := [("_law_script" : Str), ("_law_k" : Str)]) fun _ _ _ _ _ _ us hl => match us, hl with | [_, _], _ => rfl
  have W__law_cell : FnOk PySem.Challenge.pw_leastshifts_k30_stays_and_clashes w K mg base (L2.CX PySem.Challenge.pw_leastshifts_k30_stays_and_clashes w) 1 _ _ _ (spM G K .sh 2 (ar2 m__law_cell)) := d__law_cell Z F__law_cell 
  have D__law_cell : Dk PySem.Challenge.pw_leastshifts_k30_stays_and_clashes w K mg base 1 ("_law_cell" : Str) (spM G K .sh 2 (ar2 m__law_cell)) := ⟨_, _, _, W__law_cell, PySem.W.mg_of X Gn a__law_cell, F__law_cell.kp, B__law_cell⟩
  have F__law_boxes := fun_mk (st := (topS 47)) l__law_boxes c__law_boxes k__law_boxes
  have B__law_boxes := F__law_boxes.binds (ps := [("_law_stacks_here" : Str)]) fun _ _ _ _ _ _ us hl => match us, hl with | [_], _ => rfl
  have W__law_boxes : FnOk PySem.Challenge.pw_leastshifts_k30_stays_and_clashes w K mg base (L2.CX PySem.Challenge.pw_leastshifts_k30_stays_and_clashes w) 1 _ _ _ (spM G K .fr 1 (ar1 m__law_boxes)) := d__law_boxes Z F__law_boxes 
  have D__law_boxes : Dk PySem.Challenge.pw_leastshifts_k30_stays_and_clashes w K mg base 1 ("_law_boxes" : Str) (spM G K .fr 1 (ar1 m__law_boxes)) := ⟨_, _, _, W__law_boxes, PySem.W.mg_of X Gn a__law_boxes, F__law_boxes.kp, B__law_boxes⟩
  have F__law_events := fun_mk (st := (topS 48)) l__law_events c__law_events k__law_events
  have B__law_events := F__law_events.binds (ps := [("_law_marks" : Str), ("_law_stacks_here" : Str), ("_law_fresh" : Str), ("_law_comings" : Str)]) fun _ _ _ _ _ _ us hl => match us, hl with | [_, _, _, _], _ => rfl
  have W__law_events : FnOk PySem.Challenge.pw_leastshifts_k30_stays_and_clashes w K mg base (L2.CX PySem.Challenge.pw_leastshifts_k30_stays_and_clashes w) 2 _ _ _ (spM G K .sh 4 (ar4 m__law_events)) := d__law_events Z F__law_events D__law_boxes
  have D__law_events : Dk PySem.Challenge.pw_leastshifts_k30_stays_and_clashes w K mg base 2 ("_law_events" : Str) (spM G K .sh 4 (ar4 m__law_events)) := ⟨_, _, _, W__law_events, PySem.W.mg_of X Gn a__law_events, F__law_events.kp, B__law_events⟩
  have F__law_day := fun_mk (st := (topS 49)) l__law_day c__law_day k__law_day
  have B__law_day := F__law_day.binds (ps := [("_law_script" : Str), ("_law_salt" : Str)]) fun _ _ _ _ _ _ us hl => match us, hl with | [_, _], _ => rfl
  have W__law_day : FnOk PySem.Challenge.pw_leastshifts_k30_stays_and_clashes w K mg base (L2.CX PySem.Challenge.pw_leastshifts_k30_stays_and_clashes w) 3 _ _ _ (spM G K .sh 2 (ar2 m__law_day)) := d__law_day Z F__law_day D__law_row D__law_cell D__law_names D__law_stacks D__law_events
  have D__law_day : Dk PySem.Challenge.pw_leastshifts_k30_stays_and_clashes w K mg base 3 ("_law_day" : Str) (spM G K .sh 2 (ar2 m__law_day)) := ⟨_, _, _, W__law_day, PySem.W.mg_of X Gn a__law_day, F__law_day.kp, B__law_day⟩
  have F_is_sequence := fun_mk (st := (topS 21)) l_is_sequence c_is_sequence k_is_sequence
  have B_is_sequence := F_is_sequence.binds (ps := [("value" : Str)]) fun _ _ _ _ _ _ us hl => match us, hl with | [_], _ => rfl
  have W_is_sequence : FnOk PySem.Challenge.pw_leastshifts_k30_stays_and_clashes w K mg base (L2.CX PySem.Challenge.pw_leastshifts_k30_stays_and_clashes w) 1 _ _ _ (spM G K .sh 1 (ar1 m_is_sequence)) := d_is_sequence Z F_is_sequence 
  have D_is_sequence : Dk PySem.Challenge.pw_leastshifts_k30_stays_and_clashes w K mg base 1 ("is_sequence" : Str) (spM G K .sh 1 (ar1 m_is_sequence)) := ⟨_, _, _, W_is_sequence, PySem.W.mg_of X Gn a_is_sequence, F_is_sequence.kp, B_is_sequence⟩
  have F_boxes_of := fun_mk (st := (topS 30)) l_boxes_of c_boxes_of k_boxes_of
  have B_boxes_of := F_boxes_of.binds (ps := [("yard" : Str)]) fun _ _ _ _ _ _ us hl => match us, hl with | [_], _ => rfl
  have W_boxes_of : FnOk PySem.Challenge.pw_leastshifts_k30_stays_and_clashes w K mg base (L2.CX PySem.Challenge.pw_leastshifts_k30_stays_and_clashes w) 1 _ _ _ (spM G K .sh 1 (ar1 m_boxes_of)) := d_boxes_of Z F_boxes_of 
  have D_boxes_of : Dk PySem.Challenge.pw_leastshifts_k30_stays_and_clashes w K mg base 1 ("boxes_of" : Str) (spM G K .sh 1 (ar1 m_boxes_of)) := ⟨_, _, _, W_boxes_of, PySem.W.mg_of X Gn a_boxes_of, F_boxes_of.kp, B_boxes_of⟩
  have F_is_name := fun_mk (st := (topS 22)) l_is_name c_is_name k_is_name
  have B_is_name := F_is_name.binds (ps := [("value" : Str)]) fun _ _ _ _ _ _ us hl => match us, hl with | [_], _ => rfl
  have W_is_name : FnOk PySem.Challenge.pw_leastshifts_k30_stays_and_clashes w K mg base (L2.CX PySem.Challenge.pw_leastshifts_k30_stays_and_clashes w) 1 _ _ _ (spM G K .sh 1 (ar1 m_is_name)) := d_is_name Z F_is_name 
  have D_is_name : Dk PySem.Challenge.pw_leastshifts_k30_stays_and_clashes w K mg base 1 ("is_name" : Str) (spM G K .sh 1 (ar1 m_is_name)) := ⟨_, _, _, W_is_name, PySem.W.mg_of X Gn a_is_name, F_is_name.kp, B_is_name⟩
  have F_is_event := fun_mk (st := (topS 38)) l_is_event c_is_event k_is_event
  have B_is_event := F_is_event.binds (ps := [("value" : Str)]) fun _ _ _ _ _ _ us hl => match us, hl with | [_], _ => rfl
  have W_is_event : FnOk PySem.Challenge.pw_leastshifts_k30_stays_and_clashes w K mg base (L2.CX PySem.Challenge.pw_leastshifts_k30_stays_and_clashes w) 2 _ _ _ (spM G K .sh 1 (ar1 m_is_event)) := d_is_event Z F_is_event D_is_name
  have D_is_event : Dk PySem.Challenge.pw_leastshifts_k30_stays_and_clashes w K mg base 2 ("is_event" : Str) (spM G K .sh 1 (ar1 m_is_event)) := ⟨_, _, _, W_is_event, PySem.W.mg_of X Gn a_is_event, F_is_event.kp, B_is_event⟩
  have F_as_events := fun_mk (st := (topS 39)) l_as_events c_as_events k_as_events
  have B_as_events := F_as_events.binds (ps := [("yard" : Str), ("value" : Str)]) fun _ _ _ _ _ _ us hl => match us, hl with | [_, _], _ => rfl
  have W_as_events : FnOk PySem.Challenge.pw_leastshifts_k30_stays_and_clashes w K mg base (L2.CX PySem.Challenge.pw_leastshifts_k30_stays_and_clashes w) 3 _ _ _ (spM G K .sh 2 (ar2 m_as_events)) := d_as_events Z F_as_events D_is_sequence D_is_event D_boxes_of
  have D_as_events : Dk PySem.Challenge.pw_leastshifts_k30_stays_and_clashes w K mg base 3 ("as_events" : Str) (spM G K .sh 2 (ar2 m_as_events)) := ⟨_, _, _, W_as_events, PySem.W.mg_of X Gn a_as_events, F_as_events.kp, B_as_events⟩
  have F_Day := fun_mk (st := (inClass (topS 40) 0)) lI6 cI6 kI6
  have W_Day : FnOk PySem.Challenge.pw_leastshifts_k30_stays_and_clashes w K mg base (L2.CX PySem.Challenge.pw_leastshifts_k30_stays_and_clashes w) 4 _ _ _ (spI G K 6 2 (ar2 m_Day)) := d_Day Z F_Day D_as_events X_InvalidDay
  have M_Day : Mkr PySem.Challenge.pw_leastshifts_k30_stays_and_clashes w K mg base 4 ("Day" : Str) (G 6) (spI G K 6 2 (ar2 m_Day)) := ⟨_, _, _, ⟨mk6, iC6, fn6, kC6⟩, W_Day, PySem.W.mg_of X Gn aC6, F_Day.binds (ps := [("self" : Str), ("yard" : Str), ("events" : Str)]) fun _ _ _ _ _ _ us hl => match us, hl with | [_, _, _], _ => rfl⟩
  have F__law_stays := fun_mk (st := (topS 50)) l__law_stays c__law_stays k__law_stays
  have B__law_stays := F__law_stays.binds (ps := [("_law_stacks_here" : Str), ("_law_events_here" : Str)]) fun _ _ _ _ _ _ us hl => match us, hl with | [_, _], _ => rfl
  have W__law_stays : FnOk PySem.Challenge.pw_leastshifts_k30_stays_and_clashes w K mg base (L2.CX PySem.Challenge.pw_leastshifts_k30_stays_and_clashes w) 3 _ _ _ (spM G K .sh 2 (ar2 m__law_stays)) := d__law_stays Z F__law_stays D__law_boxes
  have D__law_stays : Dk PySem.Challenge.pw_leastshifts_k30_stays_and_clashes w K mg base 3 ("_law_stays" : Str) (spM G K .sh 2 (ar2 m__law_stays)) := ⟨_, _, _, W__law_stays, PySem.W.mg_of X Gn a__law_stays, F__law_stays.kp, B__law_stays⟩
  have F__law_is_integer := fun_mk (st := (topS 44)) l__law_is_integer c__law_is_integer k__law_is_integer
  have B__law_is_integer := F__law_is_integer.binds (ps := [("_law_value" : Str)]) fun _ _ _ _ _ _ us hl => match us, hl with | [_], _ => rfl
  have W__law_is_integer : FnOk PySem.Challenge.pw_leastshifts_k30_stays_and_clashes w K mg base (L2.CX PySem.Challenge.pw_leastshifts_k30_stays_and_clashes w) 1 _ _ _ (spM G K .sh 1 (ar1 m__law_is_integer)) := d__law_is_integer Z F__law_is_integer 
  have D__law_is_integer : Dk PySem.Challenge.pw_leastshifts_k30_stays_and_clashes w K mg base 1 ("_law_is_integer" : Str) (spM G K .sh 1 (ar1 m__law_is_integer)) := ⟨_, _, _, W__law_is_integer, PySem.W.mg_of X Gn a__law_is_integer, F__law_is_integer.kp, B__law_is_integer⟩
  have F__law_same := fun_mk (st := (topS 52)) l__law_same c__law_same k__law_same
  have B__law_same := F__law_same.binds (ps := [("_law_given" : Str), ("_law_due" : Str)]) fun _ _ _ _ _ _ us hl => match us, hl with | [_, _], _ => rfl
  have W__law_same : FnOk PySem.Challenge.pw_leastshifts_k30_stays_and_clashes w K mg base (L2.CX PySem.Challenge.pw_leastshifts_k30_stays_and_clashes w) 14 _ _ _ (spM G K .sh 2 (ar2 (m__law_same 12))) := d__law_same Z F__law_same (PySem.W.mg_of X Gn a__law_same) B__law_same D__law_is_integer 12
  have D__law_same : Dk PySem.Challenge.pw_leastshifts_k30_stays_and_clashes w K mg base 14 ("_law_same" : Str) (spM G K .sh 2 (ar2 (m__law_same 12))) := ⟨_, _, _, W__law_same, PySem.W.mg_of X Gn a__law_same, F__law_same.kp, B__law_same⟩
  have F_are_unlike := fun_mk (st := (topS 23)) l_are_unlike c_are_unlike k_are_unlike
  have B_are_unlike := F_are_unlike.binds (ps := [("names" : Str)]) fun _ _ _ _ _ _ us hl => match us, hl with | [_], _ => rfl
  have W_are_unlike : FnOk PySem.Challenge.pw_leastshifts_k30_stays_and_clashes w K mg base (L2.CX PySem.Challenge.pw_leastshifts_k30_stays_and_clashes w) 1 _ _ _ (spM G K .sh 1 (ar1 m_are_unlike)) := d_are_unlike Z F_are_unlike 
  have D_are_unlike : Dk PySem.Challenge.pw_leastshifts_k30_stays_and_clashes w K mg base 1 ("are_unlike" : Str) (spM G K .sh 1 (ar1 m_are_unlike)) := ⟨_, _, _, W_are_unlike, PySem.W.mg_of X Gn a_are_unlike, F_are_unlike.kp, B_are_unlike⟩
  have F_as_stacks := fun_mk (st := (topS 27)) l_as_stacks c_as_stacks k_as_stacks
  have B_as_stacks := F_as_stacks.binds (ps := [("height" : Str), ("value" : Str)]) fun _ _ _ _ _ _ us hl => match us, hl with | [_, _], _ => rfl
  have W_as_stacks : FnOk PySem.Challenge.pw_leastshifts_k30_stays_and_clashes w K mg base (L2.CX PySem.Challenge.pw_leastshifts_k30_stays_and_clashes w) 2 _ _ _ (spM G K .sh 2 (ar2 m_as_stacks)) := d_as_stacks Z F_as_stacks D_is_sequence D_is_name D_are_unlike
  have D_as_stacks : Dk PySem.Challenge.pw_leastshifts_k30_stays_and_clashes w K mg base 2 ("as_stacks" : Str) (spM G K .sh 2 (ar2 m_as_stacks)) := ⟨_, _, _, W_as_stacks, PySem.W.mg_of X Gn a_as_stacks, F_as_stacks.kp, B_as_stacks⟩
  have F_is_integer_core_plain := fun_mk (st := (topS 18)) l_is_integer_core_plain c_is_integer_core_plain k_is_integer_core_plain
  have B_is_integer_core_plain := F_is_integer_core_plain.binds (ps := [("value" : Str)]) fun _ _ _ _ _ _ us hl => match us, hl with | [_], _ => rfl
  have W_is_integer_core_plain : FnOk PySem.Challenge.pw_leastshifts_k30_stays_and_clashes w K mg base (L2.CX PySem.Challenge.pw_leastshifts_k30_stays_and_clashes w) 1 _ _ _ (spM G K .sh 1 (ar1 m_is_integer_core_plain)) := d_is_integer_core_plain Z F_is_integer_core_plain 
  have D_is_integer_core_plain : Dk PySem.Challenge.pw_leastshifts_k30_stays_and_clashes w K mg base 1 ("is_integer_core_plain" : Str) (spM G K .sh 1 (ar1 m_is_integer_core_plain)) := ⟨_, _, _, W_is_integer_core_plain, PySem.W.mg_of X Gn a_is_integer_core_plain, F_is_integer_core_plain.kp, B_is_integer_core_plain⟩
  have F_is_number := fun_mk (st := (topS 20)) l_is_number c_is_number k_is_number
  have B_is_number := F_is_number.binds (ps := [("value" : Str)]) fun _ _ _ _ _ _ us hl => match us, hl with | [_], _ => rfl
  have W_is_number : FnOk PySem.Challenge.pw_leastshifts_k30_stays_and_clashes w K mg base (L2.CX PySem.Challenge.pw_leastshifts_k30_stays_and_clashes w) 2 _ _ _ (spM G K .sh 1 (ar1 m_is_number)) := d_is_number Z F_is_number D_is_integer_core_plain
  have D_is_number : Dk PySem.Challenge.pw_leastshifts_k30_stays_and_clashes w K mg base 2 ("is_number" : Str) (spM G K .sh 1 (ar1 m_is_number)) := ⟨_, _, _, W_is_number, PySem.W.mg_of X Gn a_is_number, F_is_number.kp, B_is_number⟩
  have F_Yard := fun_mk (st := (inClass (topS 28) 0)) lI5 cI5 kI5
  have W_Yard : FnOk PySem.Challenge.pw_leastshifts_k30_stays_and_clashes w K mg base (L2.CX PySem.Challenge.pw_leastshifts_k30_stays_and_clashes w) 3 _ _ _ (spI G K 5 2 (ar2 m_Yard)) := d_Yard Z F_Yard D_is_number X_InvalidNumber D_as_stacks X_InvalidYard
  have M_Yard : Mkr PySem.Challenge.pw_leastshifts_k30_stays_and_clashes w K mg base 3 ("Yard" : Str) (G 5) (spI G K 5 2 (ar2 m_Yard)) := ⟨_, _, _, ⟨mk5, iC5, fn5, kC5⟩, W_Yard, PySem.W.mg_of X Gn aC5, F_Yard.binds (ps := [("self" : Str), ("height" : Str), ("stacks" : Str)]) fun _ _ _ _ _ _ us hl => match us, hl with | [_, _, _], _ => rfl⟩
  have F_stays_of := fun_mk (st := (topS 6)) l_stays_of c_stays_of k_stays_of
  have B_stays_of := F_stays_of.binds (ps := [("boxes" : Str), ("events" : Str)]) fun _ _ _ _ _ _ us hl => match us, hl with | [_, _], _ => rfl
  have W_stays_of : FnOk PySem.Challenge.pw_leastshifts_k30_stays_and_clashes w K mg base (L2.CX PySem.Challenge.pw_leastshifts_k30_stays_and_clashes w) 3 _ _ _ (spM G K .sh 2 (ar2 m_stays_of)) := d_stays_of Z F_stays_of 
  have D_stays_of : Dk PySem.Challenge.pw_leastshifts_k30_stays_and_clashes w K mg base 3 ("stays_of" : Str) (spM G K .sh 2 (ar2 m_stays_of)) := ⟨_, _, _, W_stays_of, PySem.W.mg_of X Gn a_stays_of, F_stays_of.kp, B_stays_of⟩
  have F_stays_in := fun_mk (st := (topS 32)) l_stays_in c_stays_in k_stays_in
  have B_stays_in := F_stays_in.binds (ps := [("day" : Str)]) fun _ _ _ _ _ _ us hl => match us, hl with | [_], _ => rfl
  have W_stays_in : FnOk PySem.Challenge.pw_leastshifts_k30_stays_and_clashes w K mg base (L2.CX PySem.Challenge.pw_leastshifts_k30_stays_and_clashes w) 4 _ _ _ (spM G K .sh 1 (ar1 m_stays_in)) := d_stays_in Z F_stays_in D_stays_of D_boxes_of
  have D_stays_in : Dk PySem.Challenge.pw_leastshifts_k30_stays_and_clashes w K mg base 4 ("stays_in" : Str) (spM G K .sh 1 (ar1 m_stays_in)) := ⟨_, _, _, W_stays_in, PySem.W.mg_of X Gn a_stays_in, F_stays_in.kp, B_stays_in⟩
  have F_stays := fun_mk (st := (topS 33)) l_stays c_stays k_stays
  have B_stays := F_stays.binds (ps := [("day" : Str)]) fun _ _ _ _ _ _ us hl => match us, hl with | [_], _ => rfl
  have W_stays : FnOk PySem.Challenge.pw_leastshifts_k30_stays_and_clashes w K mg base (L2.CX PySem.Challenge.pw_leastshifts_k30_stays_and_clashes w) 5 _ _ _ (spM G K .sh 1 (ar1 m_stays)) := d_stays Z F_stays D_stays_in
  have D_stays : Dk PySem.Challenge.pw_leastshifts_k30_stays_and_clashes w K mg base 5 ("stays" : Str) (spM G K .sh 1 (ar1 m_stays)) := ⟨_, _, _, W_stays, PySem.W.mg_of X Gn a_stays, F_stays.kp, B_stays⟩
  have DK_stays_day : DkK PySem.Challenge.pw_leastshifts_k30_stays_and_clashes w K mg base 5 ("stays" : Str) (spM G K .sh 1 (ar1 m_stays)) [("day" : Str)] [0] := ⟨_, _, _, W_stays, PySem.W.mg_of X Gn a_stays, F_stays.kp, kbn0 F_stays [("day" : Str)] [0] fun _ _ _ _ _ _ ws hl => match ws, hl with | [_], _ => rfl⟩
  have F_is_cut_by := fun_mk (st := (topS 7)) l_is_cut_by c_is_cut_by k_is_cut_by
  have B_is_cut_by := F_is_cut_by.binds (ps := [("one" : Str), ("other" : Str)]) fun _ _ _ _ _ _ us hl => match us, hl with | [_, _], _ => rfl
  have W_is_cut_by : FnOk PySem.Challenge.pw_leastshifts_k30_stays_and_clashes w K mg base (L2.CX PySem.Challenge.pw_leastshifts_k30_stays_and_clashes w) 1 _ _ _ (spM G K .sh 2 (ar2 m_is_cut_by)) := d_is_cut_by Z F_is_cut_by 
  have D_is_cut_by : Dk PySem.Challenge.pw_leastshifts_k30_stays_and_clashes w K mg base 1 ("is_cut_by" : Str) (spM G K .sh 2 (ar2 m_is_cut_by)) := ⟨_, _, _, W_is_cut_by, PySem.W.mg_of X Gn a_is_cut_by, F_is_cut_by.kp, B_is_cut_by⟩
  have F_are_apart := fun_mk (st := (topS 8)) l_are_apart c_are_apart k_are_apart
  have B_are_apart := F_are_apart.binds (ps := [("one" : Str), ("other" : Str)]) fun _ _ _ _ _ _ us hl => match us, hl with | [_, _], _ => rfl
  have W_are_apart : FnOk PySem.Challenge.pw_leastshifts_k30_stays_and_clashes w K mg base (L2.CX PySem.Challenge.pw_leastshifts_k30_stays_and_clashes w) 2 _ _ _ (spM G K .sh 2 (ar2 m_are_apart)) := d_are_apart Z F_are_apart D_is_cut_by
  have D_are_apart : Dk PySem.Challenge.pw_leastshifts_k30_stays_and_clashes w K mg base 2 ("are_apart" : Str) (spM G K .sh 2 (ar2 m_are_apart)) := ⟨_, _, _, W_are_apart, PySem.W.mg_of X Gn a_are_apart, F_are_apart.kp, B_are_apart⟩
  have F_is_integer_core_looking := fun_mk (st := (topS 2)) l_is_integer_core_looking c_is_integer_core_looking k_is_integer_core_looking
  have B_is_integer_core_looking := F_is_integer_core_looking.binds (ps := [("value" : Str)]) fun _ _ _ _ _ _ us hl => match us, hl with | [_], _ => rfl
  have W_is_integer_core_looking : FnOk PySem.Challenge.pw_leastshifts_k30_stays_and_clashes w K mg base (L2.CX PySem.Challenge.pw_leastshifts_k30_stays_and_clashes w) 1 _ _ _ (spM G K .sh 1 (ar1 m_is_integer_core_looking)) := d_is_integer_core_looking Z F_is_integer_core_looking 
  have D_is_integer_core_looking : Dk PySem.Challenge.pw_leastshifts_k30_stays_and_clashes w K mg base 1 ("is_integer_core_looking" : Str) (spM G K .sh 1 (ar1 m_is_integer_core_looking)) := ⟨_, _, _, W_is_integer_core_looking, PySem.W.mg_of X Gn a_is_integer_core_looking, F_is_integer_core_looking.kp, B_is_integer_core_looking⟩
  have F_is_below := fun_mk (st := (topS 4)) l_is_below c_is_below k_is_below
  have B_is_below := F_is_below.binds (ps := [("value" : Str), ("most" : Str)]) fun _ _ _ _ _ _ us hl => match us, hl with | [_, _], _ => rfl
  have W_is_below : FnOk PySem.Challenge.pw_leastshifts_k30_stays_and_clashes w K mg base (L2.CX PySem.Challenge.pw_leastshifts_k30_stays_and_clashes w) 2 _ _ _ (spM G K .sh 2 (ar2 m_is_below)) := d_is_below Z F_is_below D_is_integer_core_looking
  have D_is_below : Dk PySem.Challenge.pw_leastshifts_k30_stays_and_clashes w K mg base 2 ("is_below" : Str) (spM G K .sh 2 (ar2 m_is_below)) := ⟨_, _, _, W_is_below, PySem.W.mg_of X Gn a_is_below, F_is_below.kp, B_is_below⟩
  have F_clash := fun_mk (st := (topS 34)) l_clash c_clash k_clash
  have B_clash := F_clash.binds (ps := [("day" : Str), ("a" : Str), ("b" : Str)]) fun _ _ _ _ _ _ us hl => match us, hl with | [_, _, _], _ => rfl
  have W_clash : FnOk PySem.Challenge.pw_leastshifts_k30_stays_and_clashes w K mg base (L2.CX PySem.Challenge.pw_leastshifts_k30_stays_and_clashes w) 5 _ _ _ (spM G K .sh 3 (ar3 m_clash)) := d_clash Z F_clash D_stays_in D_is_below X_Undefined D_are_apart
  have D_clash : Dk PySem.Challenge.pw_leastshifts_k30_stays_and_clashes w K mg base 5 ("clash" : Str) (spM G K .sh 3 (ar3 m_clash)) := ⟨_, _, _, W_clash, PySem.W.mg_of X Gn a_clash, F_clash.kp, B_clash⟩
  have DK_clash_b_a_day : DkK PySem.Challenge.pw_leastshifts_k30_stays_and_clashes w K mg base 5 ("clash" : Str) (spM G K .sh 3 (ar3 m_clash)) [("b" : Str), ("a" : Str), ("day" : Str)] [2, 1, 0] := ⟨_, _, _, W_clash, PySem.W.mg_of X Gn a_clash, F_clash.kp, kbn0 F_clash [("b" : Str), ("a" : Str), ("day" : Str)] [2, 1, 0] fun _ _ _ _ _ _ ws hl => match ws, hl with | [_, _, _], _ => rfl⟩
  have F__law_clash := fun_mk (st := (topS 51)) l__law_clash c__law_clash k__law_clash
  have B__law_clash := F__law_clash.binds (ps := [("_law_one" : Str), ("_law_other" : Str)]) fun _ _ _ _ _ _ us hl => match us, hl with | [_, _], _ => rfl
  have W__law_clash : FnOk PySem.Challenge.pw_leastshifts_k30_stays_and_clashes w K mg base (L2.CX PySem.Challenge.pw_leastshifts_k30_stays_and_clashes w) 1 _ _ _ (spM G K .sh 2 (ar2 m__law_clash)) := d__law_clash Z F__law_clash 
  have D__law_clash : Dk PySem.Challenge.pw_leastshifts_k30_stays_and_clashes w K mg base 1 ("_law_clash" : Str) (spM G K .sh 2 (ar2 m__law_clash)) := ⟨_, _, _, W__law_clash, PySem.W.mg_of X Gn a__law_clash, F__law_clash.kp, B__law_clash⟩
  have F__law_refused := fun_mk (st := (topS 53)) l__law_refused c__law_refused k__law_refused
  have B__law_refused := F__law_refused.binds (ps := [("_law_day_here" : Str), ("_law_a" : Str), ("_law_b" : Str)]) fun _ _ _ _ _ _ us hl => match us, hl with | [_, _, _], _ => rfl
  have W__law_refused : FnOk PySem.Challenge.pw_leastshifts_k30_stays_and_clashes w K mg base (L2.CX PySem.Challenge.pw_leastshifts_k30_stays_and_clashes w) 6 _ _ _ (spM G K .sh 3 (ar3 m__law_refused)) := d__law_refused Z F__law_refused D_clash
  have D__law_refused : Dk PySem.Challenge.pw_leastshifts_k30_stays_and_clashes w K mg base 6 ("_law_refused" : Str) (spM G K .sh 3 (ar3 m__law_refused)) := ⟨_, _, _, W__law_refused, PySem.W.mg_of X Gn a__law_refused, F__law_refused.kp, B__law_refused⟩
  have F__law_whole := fun_mk (st := (topS 54)) l__law_whole c__law_whole k__law_whole
  have B__law_whole := F__law_whole.binds (ps := [("_law_script" : Str)]) fun _ _ _ _ _ _ us hl => match us, hl with | [_], _ => rfl
  have W__law_whole : FnOk PySem.Challenge.pw_leastshifts_k30_stays_and_clashes w K mg base (L2.CX PySem.Challenge.pw_leastshifts_k30_stays_and_clashes w) 15 _ _ _ (spM G K .sh 1 (ar1 m__law_whole)) := d__law_whole Z F__law_whole D__law_day M_Day M_Yard D__law_stays D__law_same D_stays D_clash D__law_clash D__law_row D__law_cell D__law_refused DK_clash_b_a_day DK_stays_day
  have D__law_whole : Dk PySem.Challenge.pw_leastshifts_k30_stays_and_clashes w K mg base 15 ("_law_whole" : Str) (spM G K .sh 1 (ar1 m__law_whole)) := ⟨_, _, _, W__law_whole, PySem.W.mg_of X Gn a__law_whole, F__law_whole.kp, B__law_whole⟩
  have F_law := fun_mk (st := (topS 55)) l_law c_law k_law
  have B_law := F_law.binds (ps := [("_law_script" : Str)]) fun _ _ _ _ _ _ us hl => match us, hl with | [_], _ => rfl
  have W_law : FnOk PySem.Challenge.pw_leastshifts_k30_stays_and_clashes w K mg base (L2.CX PySem.Challenge.pw_leastshifts_k30_stays_and_clashes w) 16 _ _ _ (spM G K .sh 1 (ar1 m_law)) := d_law Z F_law D__law_whole
  have D_law : Dk PySem.Challenge.pw_leastshifts_k30_stays_and_clashes w K mg base 16 ("law" : Str) (spM G K .sh 1 (ar1 m_law)) := ⟨_, _, _, W_law, PySem.W.mg_of X Gn a_law, F_law.kp, B_law⟩
  refine W_law.imp fun vs H Q E h => ?_
  obtain ⟨a, ns, rfl, hl, hs, hq⟩ := h
  refine ⟨H, [.scr ns], Same.refl _, .cons (.scr hs) .nil, rfl, ?_⟩
  have e : ar1 m_law [.scr ns] = .ok (.bl true) := law_true ns hl
  rw [e]
  intro v F' H' _ r
  have e2 : v = .bl true := Rep.bl_inv r
  rw [e2]
  exact hq H'
end K30
end
section
open PySem PySem.W PyProof.Rows
set_option maxHeartbeats 0
open_top hd for PySem.Challenge.rw_leastshifts_k30_stays_and_clashes
theorem walk_ofKX {l : PySem.W.OpenLaw} {n k : Nat} {q : Program} {loose : List Str} {XP : (Str → Option Value) → Heap → Prop} {YP : World → Heap → Prop} {d : DefRec} {K : Params → PySem.W.Frag} {sp : PySem.W.Frag → L2.Sp} {x : Str}
    (hn : l.most = some n) (hn2 : n ≤ sizeLine) (hdf : d.params.defaults = []) (hr : L2.Room k callerA) (hY : ∀ (w : World) (h : Heap), YP w h → (K w.params).In h)
    (F : ∀ (w : World) (mg : Str → Option Value) (fa : Addr) (h : Heap), (K w.params).In h → h.Ns mainGlobals mg → mg d.name = some (.ref fa) →
      ∃ fd : FuncData, (∀ (s : Shared) (u : Value), BindsTo s fd ⟨[u], []⟩ [(x, u)]) ∧ ∀ base : Heap, (K w.params).In base → base.Ns mainGlobals mg → L2.FnOk l.prog w (K w.params) mg base (L2.CX l.prog w) k fa fd [x] (sp (K w.params)))
    (hsp : ∀ (K : PySem.W.Frag) (H : L2.Hp) (a : Addr) (ns : List Int), ns.length ≤ n → L2.Only H → L2.SqL K H a (ns.map L2.V.int) → sp K [.ref a] H (fun v _ => v = .bl true) fun _ _ _ => False) :
    PySem.W.WalkO q loose XP YP l.row.toRowW d [] (fun f vs => PySem.call f vs) :=
  L2.walk_of (K := K) (CX := fun w => L2.CX l.prog w) (sp := fun w => sp (K w.params)) hn hn2 hdf hr hY F (fun w H a ns h1 h2 h3 => hsp (K w.params) H a ns h1 h2 h3) fun w H s e s' h => by
    obtain ⟨_, _, _, _, _, _, _, _, _, _, _, _, z⟩ := h
    exact z
set_option maxRecDepth 100000 in
set_option maxHeartbeats 0 in
theorem PySem.Challenge.cw_leastshifts_k30_stays_and_clashes_holds : PySem.Challenge.rw_leastshifts_k30_stays_and_clashes.Holds := by
  exact hd (by
    k_fill
    refine walk_ofKX (l := PySem.Challenge.rw_leastshifts_k30_stays_and_clashes) (n := 63) (k := 16) (x := "_law_script") (sp := K30.spLaw) rfl (by decide) rfl ⟨rfl, by decide, by decide⟩ (fun w h Y => PySem.W.kIn_of Y) ?F (fun K H a ns h1 h2 h3 => ⟨a, ns, rfl, h1, h3, fun _ => rfl⟩)
    case F =>
      intro w mg fa h KX G hmg
      refine' K30.all_mk KX G hmg ?aC0 ?aC1 ?aC2 ?aC3 ?aC4 ?aC5 ?aC6 ?xL1 ?sa1 ?eC1 ?tC1 ?kC1 ?iC1 ?tI1 ?lI1 ?cI1 ?lc1 ?ld1 ?hv1 ?hf1 ?xL0 ?fi0 ?iV1 ?no1_value ?xL2 ?sa2 ?eC2 ?tC2 ?kC2 ?iC2 ?tI2 ?lI2 ?cI2 ?lc2 ?ld2 ?hv2 ?hf2 ?iV2 ?no2_value ?xL3 ?sa3 ?eC3 ?tC3 ?kC3 ?iC3 ?tI3 ?lI3 ?cI3 ?lc3 ?ld3 ?hv3 ?hf3 ?iV3 ?no3_value ?xL4 ?sa4 ?eC4 ?tC4 ?kC4 ?iC4 ?tI4 ?lI4 ?cI4 ?lc4 ?ld4 ?hv4 ?hf4 ?iV4 ?no4_what ?zsuper ?zany ?pg5 ?hd5 ?po5 ?sa5 ?mk5 ?iC5 ?fn5 ?kC5 ?lI5 ?cI5 ?kI5 ?pg6 ?hd6 ?po6 ?sa6 ?mk6 ?iC6 ?fn6 ?kC6 ?lI6 ?cI6 ?kI6 ?a__law_row ?l__law_row ?c__law_row ?k__law_row ?a__law_names ?l__law_names ?c__law_names ?k__law_names ?a__law_stacks ?l__law_stacks ?c__law_stacks ?k__law_stacks ?a__law_cell ?l__law_cell ?c__law_cell ?k__law_cell ?a__law_boxes ?l__law_boxes ?c__law_boxes ?k__law_boxes ?a__law_events ?l__law_events ?c__law_events ?k__law_events ?a__law_day ?l__law_day ?c__law_day ?k__law_day ?a_is_sequence ?l_is_sequence ?c_is_sequence ?k_is_sequence ?a_boxes_of ?l_boxes_of ?c_boxes_of ?k_boxes_of ?a_is_name ?l_is_name ?c_is_name ?k_is_name ?a_is_event ?l_is_event ?c_is_event ?k_is_event ?a_as_events ?l_as_events ?c_as_events ?k_as_events ?a__law_stays ?l__law_stays ?c__law_stays ?k__law_stays ?a__law_is_integer ?l__law_is_integer ?c__law_is_integer ?k__law_is_integer ?a__law_same ?l__law_same ?c__law_same ?k__law_same ?a_are_unlike ?l_are_unlike ?c_are_unlike ?k_are_unlike ?a_as_stacks ?l_as_stacks ?c_as_stacks ?k_as_stacks ?a_is_integer_core_plain ?l_is_integer_core_plain ?c_is_integer_core_plain ?k_is_integer_core_plain ?a_is_number ?l_is_number ?c_is_number ?k_is_number ?a_stays_of ?l_stays_of ?c_stays_of ?k_stays_of ?a_stays_in ?l_stays_in ?c_stays_in ?k_stays_in ?a_stays ?l_stays ?c_stays ?k_stays ?a_is_cut_by ?l_is_cut_by ?c_is_cut_by ?k_is_cut_by ?a_are_apart ?l_are_apart ?c_are_apart ?k_are_apart ?a_is_integer_core_looking ?l_is_integer_core_looking ?c_is_integer_core_looking ?k_is_integer_core_looking ?a_is_below ?l_is_below ?c_is_below ?k_is_below ?a_clash ?l_clash ?c_clash ?k_clash ?a__law_clash ?l__law_clash ?c__law_clash ?k__law_clash ?a__law_refused ?l__law_refused ?c__law_refused ?k__law_refused ?a__law_whole ?l__law_whole ?c__law_whole ?k__law_whole ?a_law ?l_law ?c_law ?k_law ?zn_range ?zn_int ?zn_len ?zn_min ?zn_tuple ?zn_list ?zn_isinstance ?no5_stacks ?zn_str ?zg_MOST_LETTERS ?zg_LETTERS ?zn_all ?zg_OUT ?zg_IN ?no6_yard ?no6_events ?zn_bool ?no5_height ?zn_enumerate ?sub1_4 ?xhD4 ?sub2_4 ?sub3_4 ?sub4_4 ?xga4 ?xgg4 ?xha4 ?xhn4 ?xht4 ?xhm4 ?sub4_0 ?eC0 ?tC0 ?xhD0 ?subT4_ValueError ?zn_ValueError ?sub1_0 ?sub2_0 ?sub3_0
      (case aC0 => k_is)
      (case aC1 => k_is)
      (case aC2 => k_is)
      (case aC3 => k_is)
      (case aC4 => k_is)
      (case aC5 => k_is)
      (case aC6 => k_is)
      (case xL1 => k_is)
      (case sa1 => k_is)
      (case eC1 => k_is)
      (case tC1 => k_is)
      (case kC1 => k_is)
      (case iC1 => k_is)
      (case tI1 => k_is)
      (case lI1 => k_is)
      (case cI1 => k_is)
      (case lc1 => k_is)
      (case ld1 => k_is)
      (case hv1 => rfl)
      (case hf1 => rfl)
      (case xL0 => k_is)
      (case fi0 => k_is)
      (case iV1 => k_is)
      (case no1_value => k_is)
      (case xL2 => k_is)
      (case sa2 => k_is)
      (case eC2 => k_is)
      (case tC2 => k_is)
      (case kC2 => k_is)
      (case iC2 => k_is)
      (case tI2 => k_is)
      (case lI2 => k_is)
      (case cI2 => k_is)
      (case lc2 => k_is)
      (case ld2 => k_is)
      (case hv2 => rfl)
      (case hf2 => rfl)
      (case iV2 => k_is)
      (case no2_value => k_is)
      (case xL3 => k_is)
      (case sa3 => k_is)
      (case eC3 => k_is)
      (case tC3 => k_is)
      (case kC3 => k_is)
      (case iC3 => k_is)
      (case tI3 => k_is)
      (case lI3 => k_is)
      (case cI3 => k_is)
      (case lc3 => k_is)
      (case ld3 => k_is)
      (case hv3 => rfl)
      (case hf3 => rfl)
      (case iV3 => k_is)
      (case no3_value => k_is)
      (case xL4 => k_is)
      (case sa4 => k_is)
      (case eC4 => k_is)
      (case tC4 => k_is)
      (case kC4 => k_is)
      (case iC4 => k_is)
      (case tI4 => k_is)
      (case lI4 => k_is)
      (case cI4 => k_is)
      (case lc4 => k_is)
      (case ld4 => k_is)
      (case hv4 => rfl)
      (case hf4 => rfl)
      (case iV4 => k_is)
      (case no4_what => k_is)
      (case zsuper => k_is)
      (case zany => k_is)
      (case pg5 => k_is)
      (case hd5 => k_is)
      (case po5 => k_is)
      (case sa5 => k_is)
      (case mk5 => k_is)
      (case iC5 => k_is)
      (case fn5 => k_is)
      (case kC5 => k_is)
      (case lI5 => k_is)
      (case cI5 => k_is)
      (case kI5 => k_is)
      (case pg6 => k_is)
      (case hd6 => k_is)
      (case po6 => k_is)
      (case sa6 => k_is)
      (case mk6 => k_is)
      (case iC6 => k_is)
      (case fn6 => k_is)
      (case kC6 => k_is)
      (case lI6 => k_is)
      (case cI6 => k_is)
      (case kI6 => k_is)
      (case a__law_row => k_is)
      (case l__law_row => k_is)
      (case c__law_row => k_is)
      (case k__law_row => k_is)
      (case a__law_names => k_is)
      (case l__law_names => k_is)
      (case c__law_names => k_is)
      (case k__law_names => k_is)
      (case a__law_stacks => k_is)
      (case l__law_stacks => k_is)
      (case c__law_stacks => k_is)
      (case k__law_stacks => k_is)
      (case a__law_cell => k_is)
      (case l__law_cell => k_is)
      (case c__law_cell => k_is)
      (case k__law_cell => k_is)
      (case a__law_boxes => k_is)
      (case l__law_boxes => k_is)
      (case c__law_boxes => k_is)
      (case k__law_boxes => k_is)
      (case a__law_events => k_is)
      (case l__law_events => k_is)
      (case c__law_events => k_is)
      (case k__law_events => k_is)
      (case a__law_day => k_is)
      (case l__law_day => k_is)
      (case c__law_day => k_is)
      (case k__law_day => k_is)
      (case a_is_sequence => k_is)
      (case l_is_sequence => k_is)
      (case c_is_sequence => k_is)
      (case k_is_sequence => k_is)
      (case a_boxes_of => k_is)
      (case l_boxes_of => k_is)
      (case c_boxes_of => k_is)
      (case k_boxes_of => k_is)
      (case a_is_name => k_is)
      (case l_is_name => k_is)
      (case c_is_name => k_is)
      (case k_is_name => k_is)
      (case a_is_event => k_is)
      (case l_is_event => k_is)
      (case c_is_event => k_is)
      (case k_is_event => k_is)
      (case a_as_events => k_is)
      (case l_as_events => k_is)
      (case c_as_events => k_is)
      (case k_as_events => k_is)
      (case a__law_stays => k_is)
      (case l__law_stays => k_is)
      (case c__law_stays => k_is)
      (case k__law_stays => k_is)
      (case a__law_is_integer => k_is)
      (case l__law_is_integer => k_is)
      (case c__law_is_integer => k_is)
      (case k__law_is_integer => k_is)
      (case a__law_same => k_is)
      (case l__law_same => k_is)
      (case c__law_same => k_is)
      (case k__law_same => k_is)
      (case a_are_unlike => k_is)
      (case l_are_unlike => k_is)
      (case c_are_unlike => k_is)
      (case k_are_unlike => k_is)
      (case a_as_stacks => k_is)
      (case l_as_stacks => k_is)
      (case c_as_stacks => k_is)
      (case k_as_stacks => k_is)
      (case a_is_integer_core_plain => k_is)
      (case l_is_integer_core_plain => k_is)
      (case c_is_integer_core_plain => k_is)
      (case k_is_integer_core_plain => k_is)
      (case a_is_number => k_is)
      (case l_is_number => k_is)
      (case c_is_number => k_is)
      (case k_is_number => k_is)
      (case a_stays_of => k_is)
      (case l_stays_of => k_is)
      (case c_stays_of => k_is)
      (case k_stays_of => k_is)
      (case a_stays_in => k_is)
      (case l_stays_in => k_is)
      (case c_stays_in => k_is)
      (case k_stays_in => k_is)
      (case a_stays => k_is)
      (case l_stays => k_is)
      (case c_stays => k_is)
      (case k_stays => k_is)
      (case a_is_cut_by => k_is)
      (case l_is_cut_by => k_is)
      (case c_is_cut_by => k_is)
      (case k_is_cut_by => k_is)
      (case a_are_apart => k_is)
      (case l_are_apart => k_is)
      (case c_are_apart => k_is)
      (case k_are_apart => k_is)
      (case a_is_integer_core_looking => k_is)
      (case l_is_integer_core_looking => k_is)
      (case c_is_integer_core_looking => k_is)
      (case k_is_integer_core_looking => k_is)
      (case a_is_below => k_is)
      (case l_is_below => k_is)
      (case c_is_below => k_is)
      (case k_is_below => k_is)
      (case a_clash => k_is)
      (case l_clash => k_is)
      (case c_clash => k_is)
      (case k_clash => k_is)
      (case a__law_clash => k_is)
      (case l__law_clash => k_is)
      (case c__law_clash => k_is)
      (case k__law_clash => k_is)
      (case a__law_refused => k_is)
      (case l__law_refused => k_is)
      (case c__law_refused => k_is)
      (case k__law_refused => k_is)
      (case a__law_whole => k_is)
      (case l__law_whole => k_is)
      (case c__law_whole => k_is)
      (case k__law_whole => k_is)
      (case a_law => k_is)
      (case l_law => k_is)
      (case c_law => k_is)
      (case k_law => k_is)
      (case zn_range => k_is)
      (case zn_int => k_is)
      (case zn_len => k_is)
      (case zn_min => k_is)
      (case zn_tuple => k_is)
      (case zn_list => k_is)
      (case zn_isinstance => k_is)
      (case no5_stacks => k_is)
      (case zn_str => k_is)
      (case zg_MOST_LETTERS => k_is)
      (case zg_LETTERS => k_is)
      (case zn_all => k_is)
      (case zg_OUT => k_is)
      (case zg_IN => k_is)
      (case no6_yard => k_is)
      (case no6_events => k_is)
      (case zn_bool => k_is)
      (case no5_height => k_is)
      (case zn_enumerate => k_is)
      (case sub1_4 => k_is)
      (case xhD4 => k_is)
      (case sub2_4 => k_is)
      (case sub3_4 => k_is)
      (case sub4_4 => k_is)
      (case xga4 => k_is)
      (case xgg4 => k_is)
      (case xha4 => k_is)
      (case xhn4 => k_is)
      (case xht4 => k_is)
      (case xhm4 => k_is)
      (case sub4_0 => k_is)
      (case eC0 => k_is)
      (case tC0 => k_is)
      (case xhD0 => k_is)
      (case subT4_ValueError => k_is)
      (case zn_ValueError => k_is)
      (case sub1_0 => k_is)
      (case sub2_0 => k_is)
      (case sub3_0 => k_is))
end
