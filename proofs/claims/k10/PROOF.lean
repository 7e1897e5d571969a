import PyProof.Rows.All
import Wide.All
import OpenK.AllK
import Wide.FinOn
import HandS.ForMost
import HandS.ForExc
import HandS.ExcInit
import HandS.ExcField
import HandS.ExcIs
import HandS.IsInst
import HandS.Walk
import HandS.Conv
import HandS.Codes
import HandS.MakeKw
import HandS.Defaults
import HandS.CallSlots
import HandS.More
import HandS.Flow
import HandS.Style
import KE.KExcSuper
import HandS.TupAny
import HandS.DictComp
import HandS.Rev
import HandS.RevTup
import HandS.Zip
import KE.GoesMore
import KE.DataFind
import HandS.Nested
import HandS.MakeKwOnly
import HandS.TupLe
import HandS.TupMul
import PyProof.StrBlock2
import HandS.Deep
import HandS.Wide
import HandS.TryMany
import HandS.Text
import HandS.Strs
import PyProof.Rows.StrMeet
import HandS.Ends
import PySem.Challenge.RW_leastshifts_k10_blocking_boxes
set_option Elab.async false
set_option linter.all false
set_option maxRecDepth 100000
section
set_option Elab.async false
set_option linter.all false
set_option maxRecDepth 100000
namespace Lp
open PySem PySem.Spec PyProof.Rows L2

/-! ### plain values: tuples by value, lists by value -/
inductive PV where
  | non | bl (b : Bool) | int (i : Int) | str (x : Str) | ty (n : String)
  | tup (xs : List PV) | lst (xs : List PV) | dK (kvs : List (Key × PV)) | ins (c : Nat) (fs : List (Str × PV)) | scr (ns : List Int) | exn (a d : Addr) (c : Nat) (fs : List (Str × PV)) | rng (n : Nat) | itm (xs : List PV)

instance : Inhabited PV := ⟨.non⟩

/-- what the def hands on: a value, an own error with its fields, or nothing that is said -/
inductive Res (α : Type) where
  | ok (a : α) | exc (c : Nat) (fs : List (Str × PV)) | bad
def Res.bind {α β : Type} (x : Res α) (f : α → Res β) : Res β := match x with
  | .ok a => f a
  | .exc c fs => .exc c fs
  | .bad => .bad
instance : Monad Res where
  pure a := .ok a
  bind x f := x.bind f
@[simp] theorem Res.ok_bind {α β : Type} (a : α) (f : α → Res β) : (Res.ok a >>= f) = f a := (rfl)
@[simp] theorem Res.exc_bind {α β : Type} (c fs) (f : α → Res β) : ((Res.exc c fs : Res α) >>= f) = Res.exc c fs := (rfl)
@[simp] theorem Res.bad_bind {α β : Type} (f : α → Res β) : ((Res.bad : Res α) >>= f) = Res.bad := (rfl)
@[simp] theorem Res.pure_eq {α : Type} (a : α) : (pure a : Res α) = .ok a := (rfl)

/-- a tuple whose object is known to have no dict -/
def KO (o : Obj) : Prop := o.cls = .type "tuple" ∧ o.dict = none
def KT (K : PySem.W.Frag) (H : Hp) (a : Addr) (xs : List V) : Prop := (∃ o, H a = some (.frz o (.tup xs)) ∧ KO o) ∨ ∃ o its n, K.lookup a = some o ∧ KO o ∧ o.data = .seq its n ∧ its.size ≤ sizeLine ∧ Vals xs its.toList
theorem KT.sqt {K : PySem.W.Frag} {H : Hp} {a : Addr} {xs : List V} (h : KT K H a xs) : SqT K H a xs := by
  rcases h with ⟨o, h, _⟩ | ⟨o, its, n, h1, h2, h3, h4, h5⟩
  · exact .inl (.inr ⟨o, h⟩)
  · exact .inr ⟨o, its, n, h1, h2.1, h3, h4, h5⟩
theorem Same.kt {K : PySem.W.Frag} {H H' : Hp} {a : Addr} {xs : List V} (e : Same H H') (h : KT K H a xs) : KT K H' a xs := by
  rcases h with ⟨o, h, k⟩ | h
  · exact .inl ⟨o, e _ _ h, k⟩
  · exact .inr h
section
variable (G : Nat → Addr) (K : PySem.W.Frag)
mutual
/-- v stands for p over the heap H -/
inductive Rep (H : Hp) : V → PV → Prop
  | non : Rep H .non .non
  | bl (b : Bool) : Rep H (.bl b) (.bl b)
  | int (i : Int) : Rep H (.int i) (.int i)
  | str (x : Str) : Rep H (.str x) (.str x)
  | ty (n : String) : Rep H (.ty n) (.ty n)
  | exn {a d : Addr} {c : Nat} {fs : List (Str × V)} {ps : List (Str × PV)} : H d = some (.xd fs) → RepF H fs ps → Rep H (.ref a) (.exn a d c ps)
  | scr {a : Addr} {ns : List Int} : SqL K H a (ns.map V.int) → Rep H (.ref a) (.scr ns)
  | tup {a : Addr} {vs : List V} {ps : List PV} : KT K H a vs → Reps H vs ps → Rep H (.ref a) (.tup ps)
  | itm {a : Addr} {vs : List V} {ps : List PV} : SqT K H a vs → Reps H vs ps → Rep H (.ref a) (.itm ps)
  | lst {a : Addr} {vs : List V} {ps : List PV} : Rd H a (.lst vs) → Reps H vs ps → Rep H (.ref a) (.lst ps)
  | dK {a : Addr} {kvs : List (Key × V)} {ps : List (Key × PV)} : H a = some (.dK kvs) → RepK H kvs ps → Rep H (.ref a) (.dK ps)
  | ins {a dx : Addr} {c : Nat} {fs : List (Str × V)} {ps : List (Str × PV)} : H a = some (.ins (G c) dx fs) → RepF H fs ps → Rep H (.ref a) (.ins c ps)
  | rng {a : Addr} {n : Nat} : H a = some (.rng 0 (n : Int)) → Rep H (.ref a) (.rng n)
inductive Reps (H : Hp) : List V → List PV → Prop
  | nil : Reps H [] []
  | cons {v : V} {vs : List V} {p : PV} {ps : List PV} : Rep H v p → Reps H vs ps → Reps H (v :: vs) (p :: ps)
inductive RepK (H : Hp) : List (Key × V) → List (Key × PV) → Prop
  | nil : RepK H [] []
  | cons {k : Key} {v : V} {vs : List (Key × V)} {p : PV} {ps : List (Key × PV)} : Rep H v p → RepK H vs ps → RepK H ((k, v) :: vs) ((k, p) :: ps)
inductive RepF (H : Hp) : List (Str × V) → List (Str × PV) → Prop
  | nil : RepF H [] []
  | cons {k : Str} {v : V} {vs : List (Str × V)} {p : PV} {ps : List (Str × PV)} : Rep H v p → RepF H vs ps → RepF H ((k, v) :: vs) ((k, p) :: ps)
end
end

section
variable {G : Nat → Addr} {K : PySem.W.Frag} {H H' : Hp}
theorem Same.rd {H H' : Hp} {a : Addr} {u : HO} (e : Same H H') (h : Rd H a u) : Rd H' a u := by
  rcases h with h | ⟨o, h⟩
  · exact .inl (e _ _ h)
  · exact .inr ⟨o, e _ _ h⟩
theorem Same.sqt {a : Addr} {xs : List V} (e : Same H H') (h : SqT K H a xs) : SqT K H' a xs := by
  rcases h with h | h
  · exact .inl (Same.rd e h)
  · exact .inr h
mutual
theorem Rep.mono (e : Same H H') : ∀ {v : V} {p : PV}, Rep G K H v p → Rep G K H' v p
  | _, _, .non => .non
  | _, _, .bl b => .bl b
  | _, _, .int i => .int i
  | _, _, .str x => .str x
  | _, _, .ty n => .ty n
  | _, _, .exn h r => .exn (e _ _ h) (RepF.mono e r)
  | _, _, .scr h => .scr (Same.seq e h)
  | _, _, .tup h r => .tup (Same.kt e h) (Reps.mono e r)
  | _, _, .itm h r => .itm (Same.sqt e h) (Reps.mono e r)
  | _, _, .lst h r => .lst (Same.rd e h) (Reps.mono e r)
  | _, _, .dK h r => .dK (e _ _ h) (RepK.mono e r)
  | _, _, .ins h r => .ins (e _ _ h) (RepF.mono e r)
  | _, _, .rng h => .rng (e _ _ h)
theorem Reps.mono (e : Same H H') : ∀ {vs : List V} {ps : List PV}, Reps G K H vs ps → Reps G K H' vs ps
  | _, _, .nil => .nil
  | _, _, .cons r rs => .cons (Rep.mono e r) (Reps.mono e rs)
theorem RepK.mono (e : Same H H') : ∀ {vs : List (Key × V)} {ps : List (Key × PV)}, RepK G K H vs ps → RepK G K H' vs ps
  | _, _, .nil => .nil
  | _, _, .cons r rs => .cons (Rep.mono e r) (RepK.mono e rs)
theorem RepF.mono (e : Same H H') : ∀ {vs : List (Str × V)} {ps : List (Str × PV)}, RepF G K H vs ps → RepF G K H' vs ps
  | _, _, .nil => .nil
  | _, _, .cons r rs => .cons (Rep.mono e r) (RepF.mono e rs)
end
theorem Reps.length : ∀ {vs : List V} {ps : List PV}, Reps G K H vs ps → vs.length = ps.length
  | _, _, .nil => rfl
  | _, _, .cons _ rs => congrArg (· + 1) (Reps.length rs)
theorem Reps.get : ∀ {vs : List V} {ps : List PV} {i : Nat} {p : PV}, Reps G K H vs ps → ps[i]? = some p → ∃ v, vs[i]? = some v ∧ Rep G K H v p
  | _, _, _, _, .nil, e => by simp at e
  | _, _, 0, _, .cons r _, e => by simp at e; subst e; exact ⟨_, rfl, r⟩
  | _, _, i + 1, _, .cons _ rs, e => by
    obtain ⟨v, e1, r⟩ := Reps.get (i := i) rs (by simpa using e)
    exact ⟨v, by simpa using e1, r⟩
theorem Reps.getV : ∀ {vs : List V} {ps : List PV} {i : Nat} {v : V}, Reps G K H vs ps → vs[i]? = some v → ∃ p, ps[i]? = some p ∧ Rep G K H v p
  | _, _, _, _, .nil, e => by simp at e
  | _, _, 0, _, .cons r _, e => by simp at e; subst e; exact ⟨_, rfl, r⟩
  | _, _, i + 1, _, .cons _ rs, e => by
    obtain ⟨v, e1, r⟩ := Reps.getV (i := i) rs (by simpa using e)
    exact ⟨v, by simpa using e1, r⟩
theorem Reps.append : ∀ {vs ws : List V} {ps qs : List PV}, Reps G K H vs ps → Reps G K H ws qs → Reps G K H (vs ++ ws) (ps ++ qs)
  | _, _, _, _, .nil, s => s
  | _, _, _, _, .cons r rs, s => .cons r (Reps.append rs s)
theorem Reps.take : ∀ {vs : List V} {ps : List PV} (n : Nat), Reps G K H vs ps → Reps G K H (vs.take n) (ps.take n)
  | _, _, 0, _ => .nil
  | _, _, _ + 1, .nil => .nil
  | _, _, n + 1, .cons r rs => .cons r (Reps.take n rs)
theorem Reps.drop : ∀ {vs : List V} {ps : List PV} (n : Nat), Reps G K H vs ps → Reps G K H (vs.drop n) (ps.drop n)
  | _, _, 0, r => r
  | _, _, _ + 1, .nil => .nil
  | _, _, n + 1, .cons _ rs => Reps.drop n rs
theorem Reps.set {v : V} {p : PV} (r : Rep G K H v p) : ∀ {vs : List V} {ps : List PV} (n : Nat), Reps G K H vs ps → Reps G K H (vs.set n v) (ps.set n p)
  | _, _, _, .nil => .nil
  | _, _, 0, .cons _ rs => .cons r rs
  | _, _, n + 1, .cons q rs => .cons q (Reps.set r n rs)
theorem Reps.eraseIdx : ∀ {vs : List V} {ps : List PV} (n : Nat), Reps G K H vs ps → Reps G K H (vs.eraseIdx n) (ps.eraseIdx n)
  | _, _, _, .nil => .nil
  | _, _, 0, .cons _ rs => rs
  | _, _, n + 1, .cons q rs => .cons q (Reps.eraseIdx n rs)
theorem Reps.reverse {vs : List V} {ps : List PV} (h : Reps G K H vs ps) : Reps G K H vs.reverse ps.reverse := by
  induction vs generalizing ps with
  | nil => cases h; exact .nil
  | cons v vs ih =>
    cases h with
    | cons r rs =>
      rw [List.reverse_cons, List.reverse_cons]
      exact Reps.append (ih rs) (.cons r .nil)
theorem Reps.snoc {vs : List V} {ps : List PV} {v : V} {p : PV} (h : Reps G K H vs ps) (r : Rep G K H v p) : Reps G K H (vs ++ [v]) (ps ++ [p]) := Reps.append h (.cons r .nil)
/-! the inversions -/
theorem Rep.non_inv {v : V} (r : Rep G K H v .non) : v = .non := by cases r; rfl
theorem Rep.bl_inv {v : V} {b : Bool} (r : Rep G K H v (.bl b)) : v = .bl b := by cases r; rfl
theorem Rep.int_inv {v : V} {i : Int} (r : Rep G K H v (.int i)) : v = .int i := by cases r; rfl
theorem Rep.str_inv {v : V} {x : Str} (r : Rep G K H v (.str x)) : v = .str x := by cases r; rfl
theorem Rep.exn_inv {v : V} {a d : Addr} {c : Nat} {ps : List (Str × PV)} (r : Rep G K H v (.exn a d c ps)) : v = .ref a ∧ ∃ fs, H d = some (.xd fs) ∧ RepF G K H fs ps := by cases r with | exn h r => exact ⟨rfl, _, h, r⟩
theorem Rep.ty_inv {v : V} {x : String} (r : Rep G K H v (.ty x)) : v = .ty x := by cases r; rfl
theorem Rep.tup_inv {v : V} {ps : List PV} (r : Rep G K H v (.tup ps)) : ∃ a vs, v = .ref a ∧ SqT K H a vs ∧ Reps G K H vs ps := by
  cases r with
  | tup h r => exact ⟨_, _, rfl, h.sqt, r⟩
theorem Rep.tup_invK {v : V} {ps : List PV} (r : Rep G K H v (.tup ps)) : ∃ a vs, v = .ref a ∧ KT K H a vs ∧ Reps G K H vs ps := by
  cases r with
  | tup h r => exact ⟨_, _, rfl, h, r⟩
theorem Rep.itm_inv {v : V} {ps : List PV} (r : Rep G K H v (.itm ps)) : ∃ a vs, v = .ref a ∧ SqT K H a vs ∧ Reps G K H vs ps := by
  cases r with
  | itm h r => exact ⟨_, _, rfl, h, r⟩
theorem Rep.rng_inv {v : V} {n : Nat} (r : Rep G K H v (.rng n)) : ∃ a, v = .ref a ∧ H a = some (.rng 0 (n : Int)) := by
  cases r with
  | rng h => exact ⟨_, rfl, h⟩
theorem Rep.lst_inv {v : V} {ps : List PV} (r : Rep G K H v (.lst ps)) : ∃ a vs, v = .ref a ∧ Rd H a (.lst vs) ∧ Reps G K H vs ps := by
  cases r with
  | lst h r => exact ⟨_, _, rfl, h, r⟩
theorem Rep.ins_inv {v : V} {c : Nat} {ps : List (Str × PV)} (r : Rep G K H v (.ins c ps)) : ∃ a dx fs, v = .ref a ∧ H a = some (.ins (G c) dx fs) ∧ RepF G K H fs ps := by
  cases r with
  | ins h r => exact ⟨_, _, _, rfl, h, r⟩
theorem Rep.dK_inv {v : V} {ps : List (Key × PV)} (r : Rep G K H v (.dK ps)) : ∃ a kvs, v = .ref a ∧ H a = some (.dK kvs) ∧ RepK G K H kvs ps := by
  cases r with
  | dK h r => exact ⟨_, _, rfl, h, r⟩
theorem RepF.lookup {f : Str} : ∀ {fs : List (Str × V)} {ps : List (Str × PV)} {p : PV}, RepF G K H fs ps → ps.lookup f = some p → ∃ v, fs.lookup f = some v ∧ Rep G K H v p
  | _, _, _, .nil, e => by simp at e
  | _, _, p, .cons (k := k) r rs, e => by
    by_cases h : f = k
    · subst h
      simp only [List.lookup_cons_self, Option.some.injEq] at e
      subst e
      exact ⟨_, List.lookup_cons_self, r⟩
    · have hb : (f == k) = false := by simpa using h
      rw [List.lookup_cons, hb] at e
      obtain ⟨v, e1, r1⟩ := RepF.lookup rs e
      exact ⟨v, by rw [List.lookup_cons, hb]; exact e1, r1⟩
theorem RepF.length : ∀ {vs : List (Str × V)} {ps : List (Str × PV)}, RepF G K H vs ps → vs.length = ps.length
  | _, _, .nil => rfl
  | _, _, .cons _ rs => congrArg (· + 1) (RepF.length rs)
theorem RepK.length : ∀ {vs : List (Key × V)} {ps : List (Key × PV)}, RepK G K H vs ps → vs.length = ps.length
  | _, _, .nil => rfl
  | _, _, .cons _ rs => congrArg (· + 1) (RepK.length rs)
def putP (f : Str) (v : PV) : List (Str × PV) → List (Str × PV)
  | [] => [(f, v)]
  | (g, x) :: r => if g = f then (g, v) :: r else (g, x) :: putP f v r
theorem RepF.put {f : Str} {v : V} {p : PV} (r : Rep G K H v p) : ∀ {fs : List (Str × V)} {ps : List (Str × PV)}, RepF G K H fs ps → RepF G K H (putF f v fs) (putP f p ps)
  | _, _, .nil => .cons r .nil
  | _, _, .cons (k := k) q rs => by
    unfold putF putP
    by_cases h : k = f
    · rw [if_pos h, if_pos h]; exact .cons r rs
    · rw [if_neg h, if_neg h]; exact .cons q (RepF.put r rs)
end

/-! ### values without lists, dicts, instances: they lean on tuples alone -/
mutual
def PV.plain : PV → Bool
  | .tup xs => plains xs
  | .lst _ => false
  | .dK _ => false
  | .ins _ _ => false
  | .scr _ => false
  | .exn _ _ _ _ => false
  | .rng _ => false
  | .itm _ => false
  | _ => true
def plains : List PV → Bool
  | [] => true
  | x :: xs => x.plain && plains xs
end
theorem plains_iff : ∀ {xs : List PV}, plains xs = true ↔ ∀ x ∈ xs, x.plain = true
  | [] => by simp [plains]
  | x :: xs => by simp [plains, plains_iff (xs := xs)]
section
variable {G : Nat → Addr} {K : PySem.W.Frag} {H H' : Hp}
mutual
theorem Rep.plainMono (e : ∀ a xs, KT K H a xs → KT K H' a xs) : ∀ {v : V} {p : PV}, Rep G K H v p → p.plain = true → Rep G K H' v p
  | _, _, .non, _ => .non
  | _, _, .bl b, _ => .bl b
  | _, _, .int i, _ => .int i
  | _, _, .str x, _ => .str x
  | _, _, .ty n, _ => .ty n
  | _, _, .tup h r, q => .tup (e _ _ h) (Reps.plainMono e r (by simpa only [PV.plain] using q))
  | _, _, .scr _, q => absurd q (by simp [PV.plain])
  | _, _, .exn _ _, q => absurd q (by simp [PV.plain])
  | _, _, .lst _ _, q => absurd q (by simp [PV.plain])
  | _, _, .dK _ _, q => absurd q (by simp [PV.plain])
  | _, _, .ins _ _, q => absurd q (by simp [PV.plain])
  | _, _, .rng _, q => absurd q (by simp [PV.plain])
  | _, _, .itm _ _, q => absurd q (by simp [PV.plain])
theorem Reps.plainMono (e : ∀ a xs, KT K H a xs → KT K H' a xs) : ∀ {vs : List V} {ps : List PV}, Reps G K H vs ps → plains ps = true → Reps G K H' vs ps
  | _, _, .nil, _ => .nil
  | _, _, .cons r rs, q => by
    rw [plains, Bool.and_eq_true] at q; have q' := q
    exact .cons (Rep.plainMono e r q'.1) (Reps.plainMono e rs q'.2)
end
end

/-! ### the heap grows -/
/-- F: what is shared and never changes; H: all that is tracked -/
structure Ext (F H F' H' : Hp) : Prop where
  f : Same F F'
  h : Same H H'
  sub : Same F' H'
  new : ∀ a, F a = none → F' a ≠ none → H a = none
theorem Ext.refl {F H : Hp} (s : Same F H) : Ext F H F H := ⟨Same.refl _, Same.refl _, s, fun a h1 h2 => absurd h1 h2⟩
theorem Ext.trans {F H F1 H1 F2 H2 : Hp} (a : Ext F H F1 H1) (b : Ext F1 H1 F2 H2) : Ext F H F2 H2 :=
  ⟨a.f.trans b.f, a.h.trans b.h, b.sub, fun x h1 h2 => by
    by_cases h : F1 x = none
    · exact Same.free a.h (b.new x h h2)
    · exact a.new x h1 h⟩
theorem same_new {H : Hp} {p : Addr} {o : HO} (h : H p = none) : Same H (upd H p o) := fun b x e => by rw [upd_ne (ne_of_none e h)]; exact e
theorem same_upd2 {F H : Hp} {p : Addr} {o : HO} (s : Same F H) (h : H p = none) : Same (upd F p o) (upd H p o) := fun b x e => by
  by_cases hb : b = p
  · subst hb; rw [upd_same] at e ⊢; exact e
  · rw [upd_ne hb] at e ⊢; exact s _ _ e
theorem same_updR {F H : Hp} {p : Addr} {o : HO} (s : Same F H) (h : F p = none) : Same F (upd H p o) := fun b x e => by
  rw [upd_ne (ne_of_none e h)]; exact s _ _ e
/-- a new object that is shared at once -/
theorem Ext.push {F H F' H' : Hp} {p : Addr} (o : HO) (e : Ext F H F' H') (h : H' p = none) : Ext F H (upd F' p o) (upd H' p o) :=
  e.trans ⟨same_new (Same.free e.sub h), same_new h, same_upd2 e.sub h, fun a h1 h2 => by
    by_cases hb : a = p
    · rw [hb]; exact h
    · rw [upd_ne hb] at h2; exact absurd h1 h2⟩
/-- a new object that is kept apart -/
theorem Ext.pushOwn {F H F' H' : Hp} {p : Addr} (o : HO) (e : Ext F H F' H') (h : H' p = none) : Ext F H F' (upd H' p o) :=
  e.trans ⟨Same.refl _, same_new h, same_updR e.sub (Same.free e.sub h), fun a h1 h2 => absurd h1 h2⟩
end Lp
end
section
set_option Elab.async false
set_option linter.all false
set_option maxRecDepth 100000
namespace Lp
open PySem PySem.Spec L2

abbrev LE := List (Option PV)
abbrev Kd := Nat → Bool

section
variable (G : Nat → Addr) (K : PySem.W.Frag)
/-- an object that one slot alone holds -/
def OwnAt (F H : Hp) (a : Addr) : PV → Prop
  | .lst ps => ∃ vs, H a = some (.lst vs) ∧ Reps G K F vs ps
  | .dK ps => ∃ kvs, H a = some (.dK kvs) ∧ RepK G K F kvs ps
  | .ins c ps => ∃ dx fs, H a = some (.ins (G c) dx fs) ∧ RepF G K F fs ps
  | _ => False
/-- a value that is shared, or an object kept apart -/
def Top (F H : Hp) (v : V) (p : PV) : Prop := Rep G K F v p ∨ ∃ a, v = .ref a ∧ F a = none ∧ OwnAt G K F H a p
/-- new: apart from all that stood there before -/
def Frs (H0 F H : Hp) (v : V) (p : PV) : Prop := ∃ a, v = .ref a ∧ H0 a = none ∧ F a = none ∧ OwnAt G K F H a p
inductive Mode | sh | fr | top
def RM (m : Mode) (H0 F H : Hp) (v : V) (p : PV) : Prop := match m with
  | .sh => Rep G K F v p
  | .fr => Frs G K H0 F H v p
  | .top => Top G K F H v p
/-- the slots -/
structure Lc (κ : Kd) (F H : Hp) (σ : St) (τ : LE) : Prop where
  sub : Same F H
  len : σ.length = τ.length
  sh : ∀ i p, τ[i]? = some (some p) → κ i = false → ∃ v, σ[i]? = some (some v) ∧ Rep G K F v p
  ow : ∀ i p, τ[i]? = some (some p) → κ i = true → ∃ a, σ[i]? = some (some (.ref a)) ∧ F a = none ∧ OwnAt G K F H a p
  ap : ∀ i j p q a, κ i = true → κ j = true → τ[i]? = some (some p) → τ[j]? = some (some q) → σ[i]? = some (some (.ref a)) → σ[j]? = some (some (.ref a)) → i = j
end

section
variable {G : Nat → Addr} {K : PySem.W.Frag} {F H F' H' F0 H0 : Hp} {σ : St} {τ : LE} {κ : Kd} {v : V} {p : PV} {a : Addr}
theorem OwnAt.some (h : OwnAt G K F H a p) : ∃ o, H a = some o := by
  cases p <;> first | exact h.elim | (obtain ⟨_, e, _⟩ := h; exact ⟨_, e⟩) | (obtain ⟨_, _, e, _⟩ := h; exact ⟨_, e⟩)
theorem OwnAt.mono (h : OwnAt G K F H a p) (f : Same F F') (e : H' a = H a) : OwnAt G K F' H' a p := by
  cases p <;> first | exact h.elim | skip
  · obtain ⟨vs, q, r⟩ := h; exact ⟨vs, e.trans q, Reps.mono f r⟩
  · obtain ⟨vs, q, r⟩ := h; exact ⟨vs, e.trans q, RepK.mono f r⟩
  · obtain ⟨dx, vs, q, r⟩ := h; exact ⟨dx, vs, e.trans q, RepF.mono f r⟩
theorem Ext.apart (e : Ext F H F' H') {o : HO} (hF : F a = none) (hH : H a = some o) : F' a = none := by
  cases q : F' a with
  | none => rfl
  | some u => have := e.new a hF (by rw [q]; simp); rw [hH] at this; cases this
theorem OwnAt.ext (h : OwnAt G K F H a p) (e : Ext F H F' H') : OwnAt G K F' H' a p := by
  obtain ⟨o, ho⟩ := h.some
  exact h.mono e.f ((e.h _ _ ho).trans ho.symm)
theorem Top.ext (h : Top G K F H v p) (e : Ext F H F' H') : Top G K F' H' v p := by
  rcases h with h | ⟨a, rfl, hF, h⟩
  · exact .inl (h.mono e.f)
  · obtain ⟨o, ho⟩ := h.some
    exact .inr ⟨a, rfl, e.apart hF ho, h.ext e⟩
theorem Frs.ext (h : Frs G K H0 F H v p) (e : Ext F H F' H') : Frs G K H0 F' H' v p := by
  obtain ⟨a, rfl, h0, hF, h⟩ := h
  obtain ⟨o, ho⟩ := h.some
  exact ⟨a, rfl, h0, e.apart hF ho, h.ext e⟩
theorem Frs.before {H1 : Hp} (h : Frs G K H1 F H v p) (e : Same H0 H1) : Frs G K H0 F H v p := by
  obtain ⟨a, rfl, h0, hF, h⟩ := h
  exact ⟨a, rfl, Same.free e h0, hF, h⟩
theorem RM.ext {m : Mode} (h : RM G K m H0 F H v p) (e : Ext F H F' H') : RM G K m H0 F' H' v p := by
  cases m with
  | sh => exact Rep.mono e.f h
  | fr => exact Frs.ext h e
  | top => exact Top.ext h e
theorem RM.before {m : Mode} {H1 : Hp} (h : RM G K m H1 F H v p) (e : Same H0 H1) : RM G K m H0 F H v p := by
  cases m with
  | sh => exact h
  | fr => exact Frs.before h e
  | top => exact h
theorem RM.top {m : Mode} (h : RM G K m H0 F H v p) : Top G K F H v p := by
  cases m with
  | sh => exact .inl h
  | fr => obtain ⟨a, e, _, h1, h2⟩ := h; exact .inr ⟨a, e, h1, h2⟩
  | top => exact h
theorem Lc.ext (l : Lc G K κ F H σ τ) (e : Ext F H F' H') : Lc G K κ F' H' σ τ :=
  ⟨e.sub, l.len, fun i p h1 h2 => let ⟨v, e1, r⟩ := l.sh i p h1 h2; ⟨v, e1, r.mono e.f⟩,
    fun i p h1 h2 => let ⟨a, e1, hF, o⟩ := l.ow i p h1 h2; let ⟨_, ho⟩ := o.some; ⟨a, e1, e.apart hF ho, o.ext e⟩, l.ap⟩
/-- an object kept apart is shared from now on -/
theorem freeze (s : Same F H) (hF : F a = none) (h : OwnAt G K F H a p) : ∃ o, H a = some o ∧ Same (upd F a o) H ∧ Rep G K (upd F a o) (.ref a) p := by
  obtain ⟨o, ho⟩ := h.some
  have s2 : Same (upd F a o) H := fun b x e => by
    by_cases hb : b = a
    · subst hb; rw [upd_same] at e; cases e; exact ho
    · rw [upd_ne hb] at e; exact s _ _ e
  refine ⟨o, ho, s2, ?_⟩
  have m := h.mono (H' := upd F a o) (same_new (o := o) hF) (by rw [upd_same, ho])
  cases p <;> first | exact m.elim | skip
  · obtain ⟨vs, q, r⟩ := m; exact .lst (.inl q) r
  · obtain ⟨vs, q, r⟩ := m; exact .dK q r
  · obtain ⟨dx, vs, q, r⟩ := m; exact .ins q r
/-- .. a new one: the slots stay -/
theorem Ext.freeze (e : Ext F H F' H') (hH : H a = none) (hF : F' a = none) (h : OwnAt G K F' H' a p) : ∃ F2, Ext F H F2 H' ∧ Rep G K F2 (.ref a) p := by
  obtain ⟨o, ho, s, r⟩ := Lp.freeze e.sub hF h
  refine ⟨_, ⟨e.f.trans (same_new hF), e.h, s, fun b h1 h2 => ?_⟩, r⟩
  by_cases hb : b = a
  · rw [hb]; exact hH
  · rw [upd_ne hb] at h2; exact e.new b h1 h2
end

/-! ### readings -/
section
variable (G : Nat → Addr) (K : PySem.W.Frag)
/-- an own error leaves -/
def ExcOk (E : XK) (F H : Hp) (c : Nat) (ps : List (Str × PV)) : Prop :=
  ∀ d fs F' H', Ext F H F' H' → F' d = some (.xd fs) → RepF G K F' fs ps → E (.ref (G c)) (some d) H'
def tE (m : Mode) (E : St → XK) (κ : Kd) (f : LE → Res PV) : TE := fun σ H Q => ∃ F τ, Lc G K κ F H σ τ ∧ match f τ with
  | .ok p => ∀ v F' H', Ext F H F' H' → RM G K m H F' H' v p → Q v H'
  | .exc c ps => ExcOk G K (E σ) F H c ps
  | .bad => False
def tT (E : St → XK) (κ : Kd) (f : LE → Res Bool) : TT := fun σ H Q => ∃ F τ, Lc G K κ F H σ τ ∧ match f τ with
  | .ok b => ∀ F' H', Ext F H F' H' → Q b H'
  | .exc c ps => ExcOk G K (E σ) F H c ps
  | .bad => False
inductive RMs (m : Mode) (H0 F H : Hp) : List V → List PV → Prop
  | nil : RMs m H0 F H [] []
  | cons {v : V} {vs : List V} {p : PV} {ps : List PV} : RM G K m H0 F H v p → RMs m H0 F H vs ps → RMs m H0 F H (v :: vs) (p :: ps)
def tA (m : Mode) (E : St → XK) (κ : Kd) (f : LE → Res (List PV)) : TA := fun σ H Q => ∃ F τ, Lc G K κ F H σ τ ∧ match f τ with
  | .ok ps => ∀ vs F' H', Ext F H F' H' → RMs G K m H F' H' vs ps → Q vs H'
  | .exc c ps => ExcOk G K (E σ) F H c ps
  | .bad => False
end
section
variable {G : Nat → Addr} {K : PySem.W.Frag} {F H F' H' F0 H0 : Hp} {σ : St} {τ : LE} {κ : Kd} {v : V} {p : PV} {a : Addr} {m : Mode} {E : St → XK} {X : Cx} {e : Expr}
theorem ExcOk.ext {E : XK} {c : Nat} {ps : List (Str × PV)} (h : ExcOk G K E F H c ps) (e : Ext F H F' H') : ExcOk G K E F' H' c ps :=
  fun d fs F2 H2 e2 h1 h2 => h d fs F2 H2 (e.trans e2) h1 h2
theorem RMs.ext : ∀ {vs : List V} {ps : List PV}, RMs G K m H0 F H vs ps → Ext F H F' H' → RMs G K m H0 F' H' vs ps
  | _, _, .nil, _ => .nil
  | _, _, .cons r rs, e => .cons (r.ext e) (RMs.ext rs e)
theorem RMs.before {H1 : Hp} (s : Same H0 H1) : ∀ {vs : List V} {ps : List PV}, RMs G K m H1 F H vs ps → RMs G K m H0 F H vs ps
  | _, _, .nil => .nil
  | _, _, .cons r rs => .cons (r.before s) (RMs.before s rs)
theorem RMs.shared : ∀ {vs : List V} {ps : List PV}, RMs G K .sh H0 F H vs ps → Reps G K F vs ps
  | _, _, .nil => .nil
  | _, _, .cons r rs => .cons r (RMs.shared rs)
theorem RMs.ofReps : ∀ {vs : List V} {ps : List PV}, Reps G K F vs ps → RMs G K .sh H0 F H vs ps
  | _, _, .nil => .nil
  | _, _, .cons r rs => .cons r (RMs.ofReps rs)

theorem pe_weak {t t' : TE} (h : PE X e t) (w : ∀ σ H Q, t' σ H Q → t σ H Q) : PE X e t' := ⟨fun pins s σ H Q I q => h.run pins s σ H Q I (w σ H Q q)⟩
theorem pt_weak {t t' : TT} (h : PT X e t) (w : ∀ σ H Q, t' σ H Q → t σ H Q) : PT X e t' := ⟨fun pins s σ H Q I q => h.run pins s σ H Q I (w σ H Q q)⟩
theorem pw_weak {t t' : TT} (h : PW X e t) (w : ∀ σ H Q, t' σ H Q → t σ H Q) : PW X e t' := ⟨fun wh pins s σ H Q I q => h.run wh pins s σ H Q I (w σ H Q q)⟩
theorem pa_weak {es : List Expr} {t t' : TA} (h : PA X es t) (w : ∀ σ H Q, t' σ H Q → t σ H Q) : PA X es t' := ⟨fun pos pins s σ H Q I q => h.run pos pins s σ H Q I (w σ H Q q)⟩
theorem ps_weak {st : Stmt} {t t' : TS} (h : PS X st t) (w : ∀ D σ H, t' D σ H → t D σ H) : PS X st t' := ⟨fun pins s σ H D I q => h.run pins s σ H D I (w D σ H q)⟩
theorem pss_weak {st : List Stmt} {t t' : TS} (h : PSs X st t) (w : ∀ D σ H, t' D σ H → t D σ H) : PSs X st t' := ⟨fun pins s σ H D I q => h.run pins s σ H D I (w D σ H q)⟩

/-! ### between the modes -/
theorem v_up {f : LE → Res PV} (h : PE X e (tE G K m E κ f)) : PE X e (tE G K .top E κ f) := pe_weak h fun σ H Q ⟨F, τ, l, q⟩ => ⟨F, τ, l, by
  cases hf : f τ with
  | ok p => rw [hf] at q; exact fun v F' H' e r => q v F' H' e r.top
  | exc c ps => rw [hf] at q; exact q
  | bad => rw [hf] at q; exact q⟩
theorem v_freeze {f : LE → Res PV} (h : PE X e (tE G K .fr E κ f)) : PE X e (tE G K .sh E κ f) := pe_weak h fun σ H Q ⟨F, τ, l, q⟩ => ⟨F, τ, l, by
  cases hf : f τ with
  | ok p =>
    rw [hf] at q
    rintro v F' H' e ⟨a, rfl, h0, hF, o⟩
    obtain ⟨F2, e2, r⟩ := e.freeze h0 hF o
    exact q _ F2 H' e2 r
  | exc c ps => rw [hf] at q; exact q
  | bad => rw [hf] at q; exact q⟩

/-! ### names, constants -/
def eVar (i : Nat) : LE → Res PV := fun τ => match τ[i]? with
  | some (some p) => .ok p
  | _ => .bad
theorem v_var (i : Nat) {x : Str} {pos : Pos} (k : κ i = false := by rfl) (hN : X.N[i]? = some x := by rfl) (hv : Vis X.env.scope x := by first | exact Or.inl rfl | exact Or.inr (Or.inl rfl) | exact Or.inr (Or.inr rfl)) (hd : (x == ("__debug__" : Str)) = false := by decide)
    (hcd : (x == ("__classdict__" : Str)) = false := by decide) : PE X (.Name x pos) (tE G K .sh E κ (eVar i)) := pe_weak (pe_var hN hv hd hcd) fun σ H Q ⟨F, τ, l, q⟩ => by
  unfold eVar at q
  cases h : τ[i]? with
  | none => rw [h] at q; exact q.elim
  | some o =>
    cases o with
    | none => rw [h] at q; exact q.elim
    | some p =>
      rw [h] at q
      obtain ⟨v, e1, r⟩ := l.sh i p h k
      exact ⟨v, e1, q v F H (Ext.refl l.sub) r⟩
/-- a slot that is owned, read as it is -/
theorem v_own (i : Nat) {x : Str} {pos : Pos} (k : κ i = true := by rfl) (hN : X.N[i]? = some x := by rfl) (hv : Vis X.env.scope x := by first | exact Or.inl rfl | exact Or.inr (Or.inl rfl) | exact Or.inr (Or.inr rfl)) (hd : (x == ("__debug__" : Str)) = false := by decide)
    (hcd : (x == ("__classdict__" : Str)) = false := by decide) : PE X (.Name x pos) (tE G K .top E κ (eVar i)) := pe_weak (pe_var hN hv hd hcd) fun σ H Q ⟨F, τ, l, q⟩ => by
  unfold eVar at q
  cases h : τ[i]? with
  | none => rw [h] at q; exact q.elim
  | some o =>
    cases o with
    | none => rw [h] at q; exact q.elim
    | some p =>
      rw [h] at q
      obtain ⟨a, e1, hF, r⟩ := l.ow i p h k
      exact ⟨.ref a, e1, q _ F H (Ext.refl l.sub) (.inr ⟨a, rfl, hF, r⟩)⟩
def eC (p : PV) : LE → Res PV := fun _ => .ok p
theorem c_of {v : V} {p : PV} {t : TE} (h : PE X e (tC v)) (r : ∀ F, Rep G K F v p) : PE X e (tE G K .sh E κ (eC p)) := pe_weak h fun σ H Q ⟨F, τ, l, q⟩ => q v F H (Ext.refl l.sub) (r F)
theorem v_int {i j pos} : PE X (.Constant (.int i) j pos) (tE G K .sh E κ (eC (.int i))) := c_of (t := tC .non) pe_int fun _ => .int i
theorem v_str {x j pos} : PE X (.Constant (.str x) j pos) (tE G K .sh E κ (eC (.str x))) := c_of (t := tC .non) pe_str fun _ => .str x
theorem v_bl {b j pos} : PE X (.Constant (.bool b) j pos) (tE G K .sh E κ (eC (.bl b))) := c_of (t := tC .non) pe_bl fun _ => .bl b
theorem v_non {j pos} : PE X (.Constant .none j pos) (tE G K .sh E κ (eC .non)) := c_of (t := tC .non) pe_non fun _ => .non
/-- a constant of the module -/
theorem v_gint {x : Str} {i : Int} {t : Tok} {pos : Pos} (hm : X.mg x = some (.int i t)) (hg : Gl X x := by rfl) (hd : (x == ("__debug__" : Str)) = false := by decide) : PE X (.Name x pos) (tE G K .sh E κ (eC (.int i))) :=
  c_of (t := tC .non) (pe_glob (v := .int i) hg hm ⟨_, rfl⟩ hd) fun _ => .int i
theorem v_gstr {x z : Str} {t : Tok} {pos : Pos} (hm : X.mg x = some (.str z t)) (hg : Gl X x := by rfl) (hd : (x == ("__debug__" : Str)) = false := by decide) : PE X (.Name x pos) (tE G K .sh E κ (eC (.str z))) :=
  c_of (t := tC .non) (pe_glob (v := .str z) hg hm ⟨_, rfl⟩ hd) fun _ => .str z
/-- a built-in type as a value -/
theorem v_gty {x : Str} {n : String} {pos : Pos} (hm : X.mg x = none) (hv : bootBuiltins x = some (.type n)) (hg : Gl X x := by rfl) (hn : x ≠ "__name__" := by decide) (hd : (x == ("__debug__" : Str)) = false := by decide) : PE X (.Name x pos) (tE G K .sh E κ (eC (.ty n))) :=
  c_of (t := tC .non) (pe_bltn (v := .ty n) hg hm hv rfl hn hd) fun _ => .ty n

/-! ### argument lists -/
def aNil : LE → Res (List PV) := fun _ => .ok []
def aCons (f : LE → Res PV) (g : LE → Res (List PV)) : LE → Res (List PV) := fun τ => f τ >>= fun p => g τ >>= fun ps => .ok (p :: ps)
theorem a_nil : PA X [] (tA G K m E κ aNil) := pa_weak pa_nil fun σ H Q ⟨F, τ, l, q⟩ => q [] F H (Ext.refl l.sub) .nil
theorem a_cons {es : List Expr} {f : LE → Res PV} {g : LE → Res (List PV)} (h : PE X e (tE G K m E κ f)) (hr : PA X es (tA G K m E κ g)) (hs : starEach (e :: es) X.env = (false, eval e X.env) :: starEach es X.env := by rfl) : PA X (e :: es) (tA G K m E κ (aCons f g)) :=
  pa_weak (pa_cons h hr hs) fun σ H Q ⟨F, τ, l, q⟩ => by
    refine ⟨F, τ, l, ?_⟩
    unfold aCons at q
    cases hf : f τ with
    | exc c ps => rw [hf] at q; exact q
    | bad => rw [hf] at q; exact q
    | ok p =>
      rw [hf] at q
      intro v F1 H1 e1 r1
      refine ⟨F1, τ, l.ext e1, ?_⟩
      cases hg : g τ with
      | exc c ps => rw [Res.ok_bind, hg] at q; exact ExcOk.ext q e1
      | bad => rw [Res.ok_bind, hg] at q; exact q
      | ok ps =>
        rw [Res.ok_bind, hg] at q
        exact fun vs F2 H2 e2 r2 => q (v :: vs) F2 H2 (e1.trans e2) (.cons (r1.ext e2) (r2.before e1.h))
end
end Lp
end
section
set_option Elab.async false
set_option linter.all false
set_option maxRecDepth 100000
namespace Lp
open PySem PySem.Spec L2
/-! ### operations on plain values -/
def up {α : Type} : Option α → Res α
  | some a => .ok a
  | none => .bad
@[simp] theorem up_some {α : Type} (a : α) : up (some a) = .ok a := (rfl)
@[simp] theorem up_none {α : Type} : up (none : Option α) = .bad := (rfl)
def e1 (g : PV → Option PV) (f : LE → Res PV) : LE → Res PV := fun τ => f τ >>= fun p => up (g p)
def e2 (g : PV → PV → Option PV) (f f' : LE → Res PV) : LE → Res PV := fun τ => f τ >>= fun p => f' τ >>= fun q => up (g p q)
section
variable (G : Nat → Addr) (K : PySem.W.Frag)
def OpV (r : R2) (m : Mode) (g : PV → PV → Option PV) : Prop := ∀ (F H : Hp) (x y : V) (p q z : PV) (Q : VK), Same F H → Top G K F H x p → Top G K F H y q → g p q = some z →
  (∀ v F' H', Ext F H F' H' → RM G K m H F' H' v z → Q v H') → r x y H Q
def UnV (r : V → Hp → VK → Prop) (m : Mode) (g : PV → Option PV) : Prop := ∀ (F H : Hp) (x : V) (p z : PV) (Q : VK), Same F H → Top G K F H x p → g p = some z →
  (∀ v F' H', Ext F H F' H' → RM G K m H F' H' v z → Q v H') → r x H Q
end
section
variable {G : Nat → Addr} {K : PySem.W.Frag} {κ : Kd} {E : St → XK} {X : Cx} {a b c : Expr} {m : Mode} {f f' f'' : LE → Res PV} {pos : Pos}

/-- two readings in a row, then a step on the values -/
theorem w_op {r : R2} {g : PV → PV → Option PV} (hg : OpV G K r m g) {σ : St} {H : Hp} {Q : VK} (h : tE G K m E κ (e2 g f f') σ H Q) : tOp r (tE G K .top E κ f) (tE G K .top E κ f') σ H Q := by
  obtain ⟨F, τ, l, q⟩ := h
  refine ⟨F, τ, l, ?_⟩
  unfold e2 at q
  cases hf : f τ with
  | exc c ps => rw [hf] at q; exact q
  | bad => rw [hf] at q; exact q
  | ok p =>
    rw [hf] at q
    intro v F1 H1 e1 r1
    refine ⟨F1, τ, l.ext e1, ?_⟩
    cases hf' : f' τ with
    | exc c ps => rw [Res.ok_bind, hf'] at q; exact ExcOk.ext q e1
    | bad => rw [Res.ok_bind, hf'] at q; exact q
    | ok p' =>
      rw [Res.ok_bind, hf', Res.ok_bind] at q
      intro v' F2 H2 e2 r2
      cases hz : g p p' with
      | none => rw [hz] at q; exact q.elim
      | some z =>
        rw [hz] at q
        exact hg F2 H2 v v' p p' z Q e2.sub (Top.ext r1 e2) r2 hz fun w F3 H3 e3 r3 => q w F3 H3 ((e1.trans e2).trans e3) (r3.before (e1.h.trans e2.h))
theorem w_un {r : V → Hp → VK → Prop} {g : PV → Option PV} (hg : UnV G K r m g) {σ : St} {H : Hp} {Q : VK} (h : tE G K m E κ (e1 g f) σ H Q) : (tE G K .top E κ f) σ H fun x H1 => r x H1 Q := by
  obtain ⟨F, τ, l, q⟩ := h
  refine ⟨F, τ, l, ?_⟩
  unfold e1 at q
  cases hf : f τ with
  | exc c ps => rw [hf] at q; exact q
  | bad => rw [hf] at q; exact q
  | ok p =>
    rw [hf, Res.ok_bind] at q
    intro v F1 H1 e1 r1
    cases hz : g p with
    | none => rw [hz] at q; exact q.elim
    | some z =>
      rw [hz] at q
      exact hg F1 H1 v p z Q e1.sub r1 hz fun w F3 H3 e3 r3 => q w F3 H3 (e1.trans e3) (r3.before e1.h)
theorem v_op {op : Operator} {r : R2} {g : PV → PV → Option PV} (ho : OpR X (binaryOp op) r) (hg : OpV G K r m g) (ha : PE X a (tE G K .top E κ f)) (hb : PE X b (tE G K .top E κ f')) : PE X (.BinOp a op b pos) (tE G K m E κ (e2 g f f')) :=
  pe_weak (pe_op ho ha hb) fun _ _ _ h => w_op hg h
theorem v_un {op : UnaryOp} {r : V → Hp → VK → Prop} {g : PV → Option PV} (ho : UnR X (unaryOp op) r) (hg : UnV G K r m g) (ha : PE X a (tE G K .top E κ f)) : PE X (.UnaryOp op a pos) (tE G K m E κ (e1 g f)) :=
  pe_weak (pe_un ho ha) fun _ _ _ h => w_un hg h
theorem v_cmp {op : CmpOp} {r : R2} {g : PV → PV → Option PV} (ho : OpR X (compareOp op) r) (hg : OpV G K r m g) (ha : PE X a (tE G K .top E κ f)) (hb : PE X b (tE G K .top E κ f')) (hm : behindInMarks op b = false := by first | exact nomark _ | rfl | with_unfolding_all rfl) :
    PE X (.Compare a [op] [b] pos) (tE G K m E κ (e2 g f f')) :=
  pe_weak (pe_cmpR ho ha hb hm) fun _ _ _ h => w_op hg h
/-- a reading as a test -/
def tst (f : LE → Res PV) : LE → Res Bool := fun τ => f τ >>= fun p => match p with
  | .bl b => .ok b
  | _ => .bad
theorem w_tst {t : TE} (h : ∀ σ H Q, tE G K .sh E κ f σ H Q → t σ H Q) {σ : St} {H : Hp} {Q : Bool → Hp → Prop} (q : tT G K E κ (tst f) σ H Q) : t σ H fun x H' => ∃ k, x = .bl k ∧ Q k H' := by
  obtain ⟨F, τ, l, q⟩ := q
  refine h σ H _ ⟨F, τ, l, ?_⟩
  unfold tst at q
  cases hf : f τ with
  | exc c ps => rw [hf] at q; exact q
  | bad => rw [hf] at q; exact q
  | ok p =>
    rw [hf, Res.ok_bind] at q
    intro v F1 H1 e1 r1
    cases p with
    | bl b => exact ⟨b, Rep.bl_inv r1, q F1 H1 e1⟩
    | _ => exact q.elim
theorem t_cmp {op : CmpOp} {r : R2} {g : PV → PV → Option PV} (ho : OpR X (compareOp op) r) (hg : OpV G K r .sh g) (ha : PE X a (tE G K .top E κ f)) (hb : PE X b (tE G K .top E κ f')) (hm : behindInMarks op b = false := by first | exact nomark _ | rfl | with_unfolding_all rfl) :
    PT X (.Compare a [op] [b] pos) (tT G K E κ (tst (e2 g f f'))) :=
  pt_weak (pt_cmpR ho ha hb hm) fun _ _ _ q => w_tst (fun _ _ _ h => w_op hg h) q
/-! chains -/
def eChain (g g' : PV → PV → Option PV) (f f' f'' : LE → Res PV) : LE → Res PV := fun τ => f τ >>= fun p => f' τ >>= fun p' => match g p p' with
  | some (.bl true) => f'' τ >>= fun p'' => up (g' p' p'')
  | some (.bl false) => .ok (.bl false)
  | _ => .bad
theorem w_chain {r r' : R2} {g g' : PV → PV → Option PV} (hg : OpV G K r .sh g) (hg' : OpV G K r' m g') (hm : ∀ b H0 F H, RM G K m H0 F H (.bl b) (.bl b)) {σ : St} {H : Hp} {Q : VK} (h : tE G K m E κ (eChain g g' f f' f'') σ H Q) :
    tChain r r' (tE G K .top E κ f) (tE G K .top E κ f') (tE G K .top E κ f'') σ H Q := by
  obtain ⟨F, τ, l, q⟩ := h
  refine ⟨F, τ, l, ?_⟩
  unfold eChain at q
  cases hf : f τ with
  | exc c ps => rw [hf] at q; exact q
  | bad => rw [hf] at q; exact q
  | ok p =>
    rw [hf] at q
    intro v F1 H1 e1 r1
    refine ⟨F1, τ, l.ext e1, ?_⟩
    cases hf' : f' τ with
    | exc c ps => rw [Res.ok_bind, hf'] at q; exact ExcOk.ext q e1
    | bad => rw [Res.ok_bind, hf'] at q; exact q
    | ok p' =>
      rw [Res.ok_bind, hf', Res.ok_bind] at q
      intro v' F2 H2 e2 r2
      have e12 := e1.trans e2
      cases hz : g p p' with
      | none => rw [hz] at q; exact q.elim
      | some z =>
        rw [hz] at q
        refine hg F2 H2 v v' p p' z _ e2.sub (Top.ext r1 e2) r2 hz fun w F3 H3 e3 r3 => ?_
        cases z with
        | bl k =>
          refine ⟨k, Rep.bl_inv r3, ?_⟩
          cases k with
          | false => rw [if_neg (by decide)]; exact q _ F3 H3 (e12.trans e3) (hm false _ _ _)
          | true =>
            rw [if_pos rfl]
            refine ⟨F3, τ, (l.ext e12).ext e3, ?_⟩
            cases hf'' : f'' τ with
            | exc c ps => simp only [hf''] at q; exact ExcOk.ext q (e12.trans e3)
            | bad => simp only [hf''] at q; exact q
            | ok p'' =>
              simp only [hf'', Res.ok_bind] at q
              intro v'' F4 H4 e4 r4
              cases hz' : g' p' p'' with
              | none => rw [hz'] at q; exact q.elim
              | some z' =>
                rw [hz'] at q
                exact hg' F4 H4 v' v'' p' p'' z' Q e4.sub (Top.ext (Top.ext r2 e3) e4) r4 hz' fun u F5 H5 e5 r5 => q u F5 H5 ((e12.trans e3).trans (e4.trans e5)) (r5.before ((e12.h.trans e3.h).trans e4.h))
        | _ => exact q.elim
theorem v_chain {op op' : CmpOp} {r r' : R2} {g g' : PV → PV → Option PV} (ho : OpR X (compareOp op) r) (ho' : OpR X (compareOp op') r') (hg : OpV G K r .sh g) (hg' : OpV G K r' .sh g') (ha : PE X a (tE G K .top E κ f)) (hb : PE X b (tE G K .top E κ f')) (hc : PE X c (tE G K .top E κ f''))
    (hm : lastMarks [op, op'] [b, c] = false := by with_unfolding_all rfl) : PE X (.Compare a [op, op'] [b, c] pos) (tE G K .sh E κ (eChain g g' f f' f'')) :=
  pe_weak (pe_chain ho ho' ha hb hc hm) fun _ _ _ h => w_chain hg hg' (fun b _ _ _ => .bl b) h
theorem t_chain {op op' : CmpOp} {r r' : R2} {g g' : PV → PV → Option PV} (ho : OpR X (compareOp op) r) (ho' : OpR X (compareOp op') r') (hg : OpV G K r .sh g) (hg' : OpV G K r' .sh g') (ha : PE X a (tE G K .top E κ f)) (hb : PE X b (tE G K .top E κ f')) (hc : PE X c (tE G K .top E κ f''))
    (hm : lastMarks [op, op'] [b, c] = false := by with_unfolding_all rfl) : PT X (.Compare a [op, op'] [b, c] pos) (tT G K E κ (tst (eChain g g' f f' f''))) :=
  pt_weak (pt_chain ho ho' ha hb hc hm) fun _ _ _ q => w_tst (fun _ _ _ h => w_chain hg hg' (fun b _ _ _ => .bl b) h) q

/-! and, or, not, if -/
def tAndM (f g : LE → Res Bool) : LE → Res Bool := fun τ => f τ >>= fun b => if b = true then g τ else .ok false
def tOrM (f g : LE → Res Bool) : LE → Res Bool := fun τ => f τ >>= fun b => if b = true then .ok true else g τ
def tNotM (f : LE → Res Bool) : LE → Res Bool := fun τ => f τ >>= fun b => .ok (!b)
variable {t t' : LE → Res Bool} {rest : List Expr}
theorem w_if {A B C : Prop} {b : Bool} (h1 : b = true → A → B) (h2 : b = false → A → C) (h : A) : if b = true then B else C := by
  cases b with
  | true => rw [if_pos rfl]; exact h1 rfl h
  | false => rw [if_neg (by decide)]; exact h2 rfl h
theorem tw_and1 (ha : PT X a (tT G K E κ t)) : PW X (.BoolOp .And [a] pos) (tT G K E κ t) := pw_and1 ha
theorem tw_or1 (ha : PT X a (tT G K E κ t)) : PW X (.BoolOp .Or [a] pos) (tT G K E κ t) := pw_or1 ha
theorem tw_and (ha : PT X a (tT G K E κ t)) (hb : PW X (.BoolOp .And (b :: rest) pos) (tT G K E κ t')) : PW X (.BoolOp .And (a :: b :: rest) pos) (tT G K E κ (tAndM t t')) :=
  pw_weak (pw_and ha hb) fun σ H Q ⟨F, τ, l, q⟩ => by
    refine ⟨F, τ, l, ?_⟩
    unfold tAndM at q
    cases hf : t τ with
    | exc c ps => rw [hf] at q; exact q
    | bad => rw [hf] at q; exact q
    | ok k =>
      rw [hf, Res.ok_bind] at q
      intro F1 H1 e1
      refine w_if (A := True) (fun hk _ => ?_) (fun hk _ => ?_) trivial
      · subst hk
        rw [if_pos rfl] at q
        refine ⟨F1, τ, l.ext e1, ?_⟩
        cases hg : t' τ with
        | exc c ps => rw [hg] at q; exact ExcOk.ext q e1
        | bad => rw [hg] at q; exact q
        | ok k' => rw [hg] at q; exact fun F2 H2 e2 => q F2 H2 (e1.trans e2)
      · subst hk
        rw [if_neg (by decide)] at q
        exact q F1 H1 e1
theorem tw_or (ha : PT X a (tT G K E κ t)) (hb : PW X (.BoolOp .Or (b :: rest) pos) (tT G K E κ t')) : PW X (.BoolOp .Or (a :: b :: rest) pos) (tT G K E κ (tOrM t t')) :=
  pw_weak (pw_or ha hb) fun σ H Q ⟨F, τ, l, q⟩ => by
    refine ⟨F, τ, l, ?_⟩
    unfold tOrM at q
    cases hf : t τ with
    | exc c ps => rw [hf] at q; exact q
    | bad => rw [hf] at q; exact q
    | ok k =>
      rw [hf, Res.ok_bind] at q
      intro F1 H1 e1
      refine w_if (A := True) (fun hk _ => ?_) (fun hk _ => ?_) trivial
      · subst hk
        rw [if_pos rfl] at q
        exact q F1 H1 e1
      · subst hk
        rw [if_neg (by decide)] at q
        refine ⟨F1, τ, l.ext e1, ?_⟩
        cases hg : t' τ with
        | exc c ps => rw [hg] at q; exact ExcOk.ext q e1
        | bad => rw [hg] at q; exact q
        | ok k' => rw [hg] at q; exact fun F2 H2 e2 => q F2 H2 (e1.trans e2)
theorem t_w (h : PW X a (tT G K E κ t)) : PT X a (tT G K E κ t) := h.pt
theorem t_not (ha : PT X a (tT G K E κ t)) : PT X (.UnaryOp .Not a pos) (tT G K E κ (tNotM t)) :=
  pt_weak (pt_not ha) fun σ H Q ⟨F, τ, l, q⟩ => by
    refine ⟨F, τ, l, ?_⟩
    unfold tNotM at q
    cases hf : t τ with
    | exc c ps => rw [hf] at q; exact q
    | bad => rw [hf] at q; exact q
    | ok k => rw [hf, Res.ok_bind] at q; exact fun F1 H1 e1 => q F1 H1 e1
def eIf (t : LE → Res Bool) (f f' : LE → Res PV) : LE → Res PV := fun τ => t τ >>= fun b => if b = true then f τ else f' τ
theorem v_if (hc : PT X c (tT G K E κ t)) (ha : PE X a (tE G K m E κ f)) (hb : PE X b (tE G K m E κ f')) : PE X (.IfExp c a b pos) (tE G K m E κ (eIf t f f')) :=
  pe_weak (pe_ifExp hc ha hb) fun σ H Q ⟨F, τ, l, q⟩ => by
    refine ⟨F, τ, l, ?_⟩
    unfold eIf at q
    cases hf : t τ with
    | exc c ps => rw [hf] at q; exact q
    | bad => rw [hf] at q; exact q
    | ok k =>
      rw [hf, Res.ok_bind] at q
      intro F1 H1 e1
      refine w_if (A := True) (fun hk _ => ?_) (fun hk _ => ?_) trivial
      · subst hk
        rw [if_pos rfl] at q
        refine ⟨F1, τ, l.ext e1, ?_⟩
        cases hg : f τ with
        | exc c ps => rw [hg] at q; exact ExcOk.ext q e1
        | bad => rw [hg] at q; exact q
        | ok k' => rw [hg] at q; exact fun v F2 H2 e2 r2 => q v F2 H2 (e1.trans e2) (r2.before e1.h)
      · subst hk
        rw [if_neg (by decide)] at q
        refine ⟨F1, τ, l.ext e1, ?_⟩
        cases hg : f' τ with
        | exc c ps => rw [hg] at q; exact ExcOk.ext q e1
        | bad => rw [hg] at q; exact q
        | ok k' => rw [hg] at q; exact fun v F2 H2 e2 r2 => q v F2 H2 (e1.trans e2) (r2.before e1.h)
/-! and, or, not as values (bools) -/
def eAnd (f f' : LE → Res PV) : LE → Res PV := fun τ => f τ >>= fun p => match p with
  | .bl true => f' τ
  | .bl false => .ok (.bl false)
  | _ => .bad
def eOr (f f' : LE → Res PV) : LE → Res PV := fun τ => f τ >>= fun p => match p with
  | .bl true => .ok (.bl true)
  | .bl false => f' τ
  | _ => .bad
def eNot (f : LE → Res PV) : LE → Res PV := fun τ => f τ >>= fun p => match p with
  | .bl k => .ok (.bl (!k))
  | _ => .bad
theorem v_one {op} (h : PE X a (tE G K m E κ f)) : PE X (.BoolOp op [a] pos) (tE G K m E κ f) := pe_one h
theorem v_and (ha : PE X a (tE G K .sh E κ f)) (hb : PE X (.BoolOp .And (b :: rest) pos) (tE G K .sh E κ f')) : PE X (.BoolOp .And (a :: b :: rest) pos) (tE G K .sh E κ (eAnd f f')) :=
  pe_weak (pe_and ha hb) fun σ H Q ⟨F, τ, l, q⟩ => by
    refine ⟨F, τ, l, ?_⟩
    unfold eAnd at q
    cases hf : f τ with
    | exc c ps => rw [hf] at q; exact q
    | bad => rw [hf] at q; exact q
    | ok p =>
      rw [hf, Res.ok_bind] at q
      intro v F1 H1 e1 r1
      cases p with
      | bl k =>
        refine ⟨k, Rep.bl_inv r1, ?_⟩
        cases k with
        | true =>
          rw [if_pos rfl]
          refine ⟨F1, τ, l.ext e1, ?_⟩
          simp only at q
          cases hg : f' τ with
          | exc c ps => rw [hg] at q; exact ExcOk.ext q e1
          | bad => rw [hg] at q; exact q
          | ok k' => rw [hg] at q; exact fun v F2 H2 e2 r2 => q v F2 H2 (e1.trans e2) r2
        | false => rw [if_neg (by decide)]; exact q _ F1 H1 e1 (.bl false)
      | _ => exact q.elim
theorem v_or (ha : PE X a (tE G K .sh E κ f)) (hb : PE X (.BoolOp .Or (b :: rest) pos) (tE G K .sh E κ f')) : PE X (.BoolOp .Or (a :: b :: rest) pos) (tE G K .sh E κ (eOr f f')) :=
  pe_weak (pe_or ha hb) fun σ H Q ⟨F, τ, l, q⟩ => by
    refine ⟨F, τ, l, ?_⟩
    unfold eOr at q
    cases hf : f τ with
    | exc c ps => rw [hf] at q; exact q
    | bad => rw [hf] at q; exact q
    | ok p =>
      rw [hf, Res.ok_bind] at q
      intro v F1 H1 e1 r1
      cases p with
      | bl k =>
        refine ⟨k, Rep.bl_inv r1, ?_⟩
        cases k with
        | true => rw [if_pos rfl]; exact q _ F1 H1 e1 (.bl true)
        | false =>
          rw [if_neg (by decide)]
          refine ⟨F1, τ, l.ext e1, ?_⟩
          simp only at q
          cases hg : f' τ with
          | exc c ps => rw [hg] at q; exact ExcOk.ext q e1
          | bad => rw [hg] at q; exact q
          | ok k' => rw [hg] at q; exact fun v F2 H2 e2 r2 => q v F2 H2 (e1.trans e2) r2
      | _ => exact q.elim
theorem v_not (ha : PE X a (tE G K .sh E κ f)) : PE X (.UnaryOp .Not a pos) (tE G K .sh E κ (eNot f)) :=
  pe_weak (pe_not ha) fun σ H Q ⟨F, τ, l, q⟩ => by
    refine ⟨F, τ, l, ?_⟩
    unfold eNot at q
    cases hf : f τ with
    | exc c ps => rw [hf] at q; exact q
    | bad => rw [hf] at q; exact q
    | ok p =>
      rw [hf, Res.ok_bind] at q
      intro v F1 H1 e1 r1
      cases p with
      | bl k => exact ⟨k, Rep.bl_inv r1, q _ F1 H1 e1 (.bl _)⟩
      | _ => exact q.elim
end
end Lp
end
section
set_option Elab.async false
set_option linter.all false
set_option maxRecDepth 100000
/-! tuples that are made: their objects are known -/
namespace Lk
open PySem PySem.Spec PyProof.Rows L2 Lp
variable {X : Cx} {es : List Expr} {t : TA} {pos : Pos}
/-- the object that is laid -/
abbrev tupO (us : Array Value) : Obj := { cls := .type "tuple", data := .seq us }
theorem tupO_ok (us : Array Value) : KO (tupO us) := ⟨rfl, rfl⟩
theorem laidK {pins : List (Addr × Obj)} {σ : L2.St} {H : Hp} {s : Shared} (I : L2.Inv X pins σ H s) {xs : List V} {us : List Value} (hz : xs.length ≤ sizeLine) (r : Vals xs us) :
    L2.Inv X pins σ (upd H s.heap.objs.size (.frz (tupO us.toArray) (.tup xs))) { s with heap := s.heap.push (tupO us.toArray) } := by
  refine I.laid (t' := s.toks) (o := .frz (tupO us.toArray) (.tup xs)) (fun _ _ q => Heap.get?_push_of_some _ q) (Nat.le_refl _) ⟨?_, ?_⟩
  · exact Heap.get?_push_size _ rfl
  · exact ⟨hz, us, r, IsTup.new _ _⟩
def tTupK (t : TA) : TE := fun σ H Q => t σ H fun xs H1 => xs.length ≤ sizeLine ∧ ∀ p o, H1 p = none → KO o → Q (.ref p) (upd H1 p (.frz o (.tup xs)))
theorem pe_tupK {x1} (h : PA X es t) : PE X (.Tuple es x1 pos) (tTupK t) :=
  ⟨fun pins s σ H Q I hq => wpAny_Tuple_spliced (thn (h.run pos pins s σ H _ I hq) fun us s1 ⟨xs, H1, I1, r, z, q⟩ =>
    ⟨r.length ▸ z, .ref s1.heap.objs.size, _, laidK I1 z r, rfl, q _ _ (I1.hok.fresh (Nat.le_refl _)) (tupO_ok _)⟩)⟩
/-- t + u -/
def rCatK (K : PySem.W.Frag) : R2 := fun x y H Q => ∃ a b xs ys, x = .ref a ∧ y = .ref b ∧ SqT K H a xs ∧ SqT K H b ys ∧ xs.length + ys.length ≤ sizeLine ∧
  (xs = [] → Q (.ref b) H) ∧ (xs ≠ [] → ys = [] → Q (.ref a) H) ∧ (xs ≠ [] → ys ≠ [] → ∀ p o, H p = none → KO o → Q (.ref p) (upd H p (.frz o (.tup (xs ++ ys)))))
theorem op_catK : OpR X (binaryOp .Add) (rCatK X.K) := by
  intro pins s σ H x y v u Q I rx ry h
  obtain ⟨a, b, xs, ys, rfl, rfl, ha, hb, hz, q0, q1, q2⟩ := h
  cases rx; cases ry
  obtain ⟨its, rv, pt, _⟩ := I.tuple ha
  obtain ⟨its2, rv2, pt2, _⟩ := I.tuple hb
  by_cases hx : xs = []
  · subst hx
    cases rv
    exact cat_tup0 pt pt2 ⟨.ref b, H, I, rfl, q0 rfl⟩
  · refine HT.cat_tup pt pt2 (fun z => hx (rv.nil_iff.mp z)) (fun z => ⟨.ref a, H, I, rfl, q1 hx (rv2.nil_iff.mp z)⟩) (fun z => ?_) ?_
    · have hl : (xs ++ ys).length ≤ sizeLine := List.length_append ▸ hz
      exact ⟨.ref s.heap.objs.size, _, laidK I hl (rv.append rv2), rfl, q2 hx (fun w => z (rv2.nil_iff.mpr w)) _ _ (I.hok.fresh (Nat.le_refl _)) (tupO_ok _)⟩
    · have h1 := rv.length
      have h2 := rv2.length
      omega
/-- t[lo:hi] -/
def rSlK (K : PySem.W.Frag) : V → Option Int → Option Int → Hp → VK → Prop := fun x lo hi H Q => ∃ a xs, x = .ref a ∧ SqT K H a xs ∧
  (HT.sIx xs.length 0 lo = 0 ∧ HT.sIx xs.length xs.length hi = xs.length → Q (.ref a) H) ∧
  (¬ (HT.sIx xs.length 0 lo = 0 ∧ HT.sIx xs.length xs.length hi = xs.length) → ∀ p o, H p = none → KO o → Q (.ref p) (upd H p (.frz o (.tup (cutV xs lo hi)))))
theorem sl_tupK : SlR X (rSlK X.K) := by
  intro pins s σ H x v vl vu lo hi sl Q I rx hs pl pu h
  obtain ⟨a, xs, rfl, hx, q1, q2⟩ := h
  cases rx
  obtain ⟨its, rv, ht, hz⟩ := I.tuple hx
  have hn : its.toArray.size = xs.length := (List.size_toArray ..).trans rv.length.symm
  refine ⟨"tuple", _, slot_tuple_getitem.lookup, ht.typeIs, ?_⟩
  by_cases hw : HT.sIx xs.length 0 lo = 0 ∧ HT.sIx xs.length xs.length hi = xs.length
  · exact getItem_tuple_whole ht hs pl pu (hn.symm ▸ hw) ⟨.ref a, H, I, rfl, q1 hw⟩
  · refine HT.getItem_tuple_cut ht hs pl pu (hn.symm ▸ hw) ?_ (hn.symm ▸ hz)
    rw [hn]
    exact ⟨.ref s.heap.objs.size, _, laidK I (Nat.le_trans (cutV_length xs lo hi) hz) ((rv.drop _).take _), rfl, q2 hw _ _ (I.hok.fresh (Nat.le_refl _)) (tupO_ok _)⟩
/-- tuple(x) -/
theorem call_tupK : CallR X (.type "tuple") (fun xs H Q => ∃ p ys, xs = [.ref p] ∧ ((SqL X.K H p ys ∧ ∀ l o, H l = none → KO o → Q (.ref l) (upd H l (.frz o (.tup ys)))) ∨ (SqT X.K H p ys ∧ Q (.ref p) H))) := by
  intro pins s σ H xs us Q I r h
  obtain ⟨p, ys, rfl, h⟩ := h
  obtain ⟨u, rfl, ru⟩ := vals1 r
  cases ru
  rcases h with ⟨hq, q⟩ | ⟨hq, q⟩
  · obtain ⟨its, rv, pl, hz⟩ := I.list hq
    refine call_tuple_list pl.isList (fun h' kp => ?_) ?_
    · have I1 : L2.Inv X pins σ H { s with heap := h' } := I.kept (t' := s.toks) kp
      exact ⟨.ref h'.objs.size, _, laidK I1 hz rv, rfl, q _ _ (I1.hok.fresh (Nat.le_refl _)) (tupO_ok _)⟩
    · have := rv.length
      simp only [List.size_toArray]
      omega
  · obtain ⟨its, _, pl, _⟩ := I.tuple hq
    exact call_tuple_same pl ⟨.ref p, H, I, rfl, q⟩
end Lk
end
section
set_option Elab.async false
set_option linter.all false
set_option maxRecDepth 100000
namespace Lp
open PySem PySem.Spec L2
section
variable {G : Nat → Addr} {K : PySem.W.Frag} {F H F' H' F0 H0 : Hp} {X : Cx} {v x y : V} {p : PV}
/-! what a value is at the top -/
theorem Top.int_inv {i : Int} (r : Top G K F H v (.int i)) : v = .int i := by
  rcases r with r | ⟨_, _, _, h⟩
  · exact Rep.int_inv r
  · exact h.elim
theorem Top.str_inv {i : Str} (r : Top G K F H v (.str i)) : v = .str i := by
  rcases r with r | ⟨_, _, _, h⟩
  · exact Rep.str_inv r
  · exact h.elim
theorem Top.bl_inv {i : Bool} (r : Top G K F H v (.bl i)) : v = .bl i := by
  rcases r with r | ⟨_, _, _, h⟩
  · exact Rep.bl_inv r
  · exact h.elim
theorem Top.non_inv (r : Top G K F H v .non) : v = .non := by
  rcases r with r | ⟨_, _, _, h⟩
  · exact Rep.non_inv r
  · exact h.elim
theorem Top.ty_inv {n : String} (r : Top G K F H v (.ty n)) : v = .ty n := by
  rcases r with r | ⟨_, _, _, h⟩
  · exact Rep.ty_inv r
  · exact h.elim
theorem Top.tup_inv (s : Same F H) {ps : List PV} (r : Top G K F H v (.tup ps)) : ∃ a vs, v = .ref a ∧ SqT K H a vs ∧ Reps G K F vs ps := by
  rcases r with r | ⟨_, _, _, h⟩
  · obtain ⟨a, vs, e, h, r⟩ := Rep.tup_inv r
    exact ⟨a, vs, e, Same.sqt s h, r⟩
  · exact h.elim
theorem Top.lst_inv (s : Same F H) {ps : List PV} (r : Top G K F H v (.lst ps)) : ∃ a vs, v = .ref a ∧ Rd H a (.lst vs) ∧ Reps G K F vs ps := by
  rcases r with r | ⟨a, e, _, vs, h, r⟩
  · obtain ⟨a, vs, e, h, r⟩ := Rep.lst_inv r
    exact ⟨a, vs, e, Same.rd s h, r⟩
  · exact ⟨a, vs, e, .inl h, r⟩
theorem Top.dK_inv (s : Same F H) {ps : List (Key × PV)} (r : Top G K F H v (.dK ps)) : ∃ a kvs, v = .ref a ∧ H a = some (.dK kvs) ∧ RepK G K F kvs ps := by
  rcases r with r | ⟨a, e, _, vs, h, r⟩
  · obtain ⟨a, vs, e, h, r⟩ := Rep.dK_inv r
    exact ⟨a, vs, e, s _ _ h, r⟩
  · exact ⟨a, vs, e, h, r⟩
theorem Top.ins_inv (s : Same F H) {c : Nat} {ps : List (Str × PV)} (r : Top G K F H v (.ins c ps)) : ∃ a dx fs, v = .ref a ∧ H a = some (.ins (G c) dx fs) ∧ RepF G K F fs ps := by
  rcases r with r | ⟨a, e, _, dx, fs, h, r⟩
  · obtain ⟨a, dx, fs, e, h, r⟩ := Rep.ins_inv r
    exact ⟨a, dx, fs, e, s _ _ h, r⟩
  · exact ⟨a, dx, fs, e, h, r⟩
theorem Top.scr_inv (s : Same F H) {ns : List Int} (r : Top G K F H v (.scr ns)) : ∃ a, v = .ref a ∧ SqL K H a (ns.map V.int) := by
  rcases r with r | ⟨_, _, _, h⟩
  · cases r with
    | scr h => exact ⟨_, rfl, Same.seq s h⟩
  · exact h.elim
theorem seqL {a : Addr} {vs : List V} (h : Rd H a (.lst vs)) : SqL K H a vs := .inl h

/-! ### arithmetic -/
def pAdd : PV → PV → Option PV
  | .int i, .int j => some (.int (i + j))
  | .str x, .str y => if x.length + y.length ≤ sizeLine then some (.str (x ++ y)) else none
  | .tup xs, .tup ys => if xs.length + ys.length ≤ sizeLine then some (.tup (xs ++ ys)) else none
  | _, _ => none
def rAddV (K : PySem.W.Frag) : R2 := fun x y H Q => (rI0 fun i j => .int (i + j)) x y H Q ∨ (fun x y H Q => ∃ i j, x = .str i ∧ y = .str j ∧ i.length + j.length ≤ sizeLine ∧ Q (.str (i ++ j)) H) x y H Q ∨ Lk.rCatK K x y H Q
theorem op_addV : OpR X (binaryOp .Add) (rAddV X.K) := op_add.or (op_add_str.or Lk.op_catK)
theorem g_add : OpV G K (rAddV K) .sh pAdd := by
  intro F H x y p q z Q s rx ry hz k
  unfold pAdd at hz
  split at hz
  · obtain rfl := rx.int_inv
    obtain rfl := ry.int_inv
    cases hz
    exact .inl ⟨_, _, rfl, rfl, k _ F H (Ext.refl s) (.int _)⟩
  · obtain rfl := rx.str_inv
    obtain rfl := ry.str_inv
    split at hz
    · rename_i hl
      cases hz
      exact .inr (.inl ⟨_, _, rfl, rfl, hl, k _ F H (Ext.refl s) (.str _)⟩)
    · cases hz
  · obtain ⟨a, vs, rfl, ha, r1⟩ := rx.tup_inv s
    obtain ⟨b, ws, rfl, hb, r2⟩ := ry.tup_inv s
    split at hz
    · rename_i hl
      cases hz
      have l1 := r1.length
      have l2 := r2.length
      refine .inr (.inr ⟨a, b, vs, ws, rfl, rfl, ha, hb, by omega, fun e => ?_, fun _ e => ?_, fun _ _ p o np ko => ?_⟩)
      · subst e
        cases r1
        refine k _ F H (Ext.refl s) ?_
        rcases ry with ry | ⟨_, _, _, h⟩
        · exact ry
        · exact h.elim
      · subst e
        cases r2
        refine k _ F H (Ext.refl s) ?_
        rw [List.append_nil]
        rcases rx with rx | ⟨_, _, _, h⟩
        · exact rx
        · exact h.elim
      · refine k _ _ _ (Ext.push (.frz o (.tup (vs ++ ws))) (Ext.refl s) np) (.tup (.inl ⟨o, upd_same, ko⟩) ?_)
        exact Reps.mono (same_new (Same.free s np)) (Reps.append r1 r2)
    · cases hz
  · cases hz
/-- lists: a new one -/
def pCat : PV → PV → Option PV
  | .lst xs, .lst ys => if xs.length + ys.length ≤ sizeLine then some (.lst (xs ++ ys)) else none
  | _, _ => none
def rCatR : R2 := fun x y H Q => ∃ l b xs zs, x = .ref l ∧ y = .ref b ∧ Rd H l (.lst xs) ∧ Rd H b (.lst zs) ∧ xs.length + zs.length ≤ sizeLine ∧ ∀ p, H p = none → Q (.ref p) (upd H p (.lst (xs ++ zs)))
theorem Rd.lstM {pins : List (Addr × Obj)} {σ : St} {s : Shared} {l : Addr} {xs : List V} (I : Inv X pins σ H s) (hH : Rd H l (.lst xs)) : xs.length ≤ sizeLine ∧ ∃ (its : List Value) (n : Nat), Vals xs its ∧ xs.length = its.length ∧ s.heap.get? l = some { cls := .type "list", data := .seq its.toArray n } := by
  obtain ⟨z, its, n, r, e⟩ := hH.ok I.hok
  exact ⟨z, its, n, r, r.length, e⟩
theorem op_catR : OpR X (binaryOp .Add) rCatR := by
  intro pins s σ H x y v u Q I rx ry h
  obtain ⟨l, b, xs, zs, rfl, rfl, hH, hB, hz, q⟩ := h
  cases rx
  cases ry
  obtain ⟨z, its, n, r, hl, e⟩ := Rd.lstM I hH
  obtain ⟨z2, its2, n2, r2, hl2, e2⟩ := Rd.lstM I hB
  refine PySem.P.add_list e e2 ?_ (by rw [List.size_toArray, List.size_toArray]; omega)
  have ea : its.toArray ++ its2.toArray = (its ++ its2).toArray := by simp
  rw [ea]
  exact ⟨.ref _, _, I.lnew (t' := s.toks) (r.append r2) (by rw [List.length_append]; omega), rfl, q _ I.fresh⟩
theorem frs_new {ws : List V} {ps : List PV} {a : Addr} (s : Same F H) (np : H a = none) (r : Reps G K F ws ps) : Ext F H F (upd H a (.lst ws)) ∧ Frs G K H F (upd H a (.lst ws)) (.ref a) (.lst ps) :=
  ⟨Ext.pushOwn _ (Ext.refl s) np, a, rfl, np, Same.free s np, ws, upd_same, r⟩
theorem g_cat : OpV G K rCatR .fr pCat := by
  intro F H x y p q z Q s rx ry hz k
  unfold pCat at hz
  split at hz
  · obtain ⟨a, vs, rfl, ha, r1⟩ := rx.lst_inv s
    obtain ⟨b, ws, rfl, hb, r2⟩ := ry.lst_inv s
    split at hz
    · rename_i hl
      cases hz
      refine ⟨a, b, vs, ws, rfl, rfl, ha, hb, by rw [r1.length, r2.length]; exact hl, fun p np => ?_⟩
      obtain ⟨e, f⟩ := frs_new s np (Reps.append r1 r2)
      exact k _ _ _ e f
    · cases hz
  · cases hz
def pSub : PV → PV → Option PV
  | .int i, .int j => some (.int (i - j))
  | _, _ => none
theorem g_sub : OpV G K (rI0 fun i j => .int (i - j)) .sh pSub := by
  intro F H x y p q z Q s rx ry hz k
  unfold pSub at hz
  split at hz
  · obtain rfl := rx.int_inv
    obtain rfl := ry.int_inv
    cases hz
    exact ⟨_, _, rfl, rfl, k _ F H (Ext.refl s) (.int _)⟩
  · cases hz
theorem CMul_iff {i j : Int} : (Nat.ble (i.natAbs + 1) (2 ^ 64) || Nat.ble (j.natAbs + 1) (2 ^ 64)) = true ↔ CMul i j := by
  rw [Bool.or_eq_true, Nat.ble_eq, Nat.ble_eq]
  unfold CMul
  omega
instance (i j : Int) : Decidable (CMul i j) := decidable_of_iff _ CMul_iff
theorem CDiv_iff {i j : Int} : (decide (0 < j) && Nat.ble (j.natAbs + 1) 1073741824) = true ↔ CDiv i j := by
  rw [Bool.and_eq_true, Nat.ble_eq, decide_eq_true_iff]
  unfold CDiv
  omega
instance (i j : Int) : Decidable (CDiv i j) := decidable_of_iff _ (CDiv_iff (i := i))
instance (i j : Int) : Decidable (CPow i j) := by unfold CPow; infer_instance
def pI (C : Int → Int → Prop) [∀ i j, Decidable (C i j)] (g : Int → Int → Int) : PV → PV → Option PV
  | .int i, .int j => if C i j then some (.int (g i j)) else none
  | _, _ => none
theorem g_I {C : Int → Int → Prop} [∀ i j, Decidable (C i j)] {g : Int → Int → Int} : OpV G K (rI C fun i j => .int (g i j)) .sh (pI C g) := by
  intro F H x y p q z Q s rx ry hz k
  unfold pI at hz
  split at hz
  · obtain rfl := rx.int_inv
    obtain rfl := ry.int_inv
    split at hz
    · rename_i hc
      cases hz
      exact ⟨_, _, rfl, rfl, hc, k _ F H (Ext.refl s) (.int _)⟩
    · cases hz
  · cases hz
abbrev pMul := pI CMul fun i j => i * j
abbrev pDiv := pI CDiv fun i j => i / j
abbrev pMod := pI (fun _ j => 0 < j) fun i j => i % j
abbrev pPow := pI CPow fun i j => i ^ j.toNat
def pNeg : PV → Option PV
  | .int i => some (.int (-i))
  | _ => none
theorem g_neg : UnV G K (rU fun i => .int (-i)) .sh pNeg := by
  intro F H x p z Q s rx hz k
  unfold pNeg at hz
  split at hz
  · obtain rfl := rx.int_inv
    cases hz
    exact ⟨_, rfl, k _ F H (Ext.refl s) (.int _)⟩
  · cases hz
/-! ### comparisons of ints -/
def pB (g : Int → Int → Bool) : PV → PV → Option PV
  | .int i, .int j => some (.bl (g i j))
  | _, _ => none
theorem g_B {g : Int → Int → Bool} : OpV G K (rI0 fun i j => .bl (g i j)) .sh (pB g) := by
  intro F H x y p q z Q s rx ry hz k
  unfold pB at hz
  split at hz
  · obtain rfl := rx.int_inv
    obtain rfl := ry.int_inv
    cases hz
    exact ⟨_, _, rfl, rfl, k _ F H (Ext.refl s) (.bl _)⟩
  · cases hz
abbrev pLt := pB fun i j => decide (i < j)
abbrev pLe := pB fun i j => decide (i ≤ j)
abbrev pGt := pB fun i j => decide (j < i)
abbrev pGe := pB fun i j => decide (j ≤ i)
/-! ### == over data -/
mutual
def PV.toD : PV → Option PyData
  | .non => some .none
  | .bl b => some (.bool b)
  | .int i => some (.int i)
  | .str x => some (.str x)
  | .tup xs => (toDs xs).map .tuple
  | .lst xs => (toDs xs).map .list
  | .ty _ => none
  | .dK _ => none
  | .ins _ _ => none
  | .scr _ => none
  | .exn _ _ _ _ => none
  | .rng _ => none
  | .itm _ => none
def toDs : List PV → Option (List PyData)
  | [] => some []
  | x :: xs => match x.toD, toDs xs with
    | some d, some ds => some (d :: ds)
    | _, _ => none
end
theorem toDs_cons {q : PV} {qs : List PV} {ds : List PyData} (h : toDs (q :: qs) = some ds) : ∃ d ds', q.toD = some d ∧ toDs qs = some ds' ∧ ds = d :: ds' := by
  rw [toDs] at h
  cases h1 : q.toD with
  | none => rw [h1] at h; cases h
  | some d =>
    cases h2 : toDs qs with
    | none => rw [h1, h2] at h; cases h
    | some ds' => rw [h1, h2] at h; cases h; exact ⟨d, ds', rfl, rfl, rfl⟩
mutual
theorem Rep.dp : ∀ {v : V} {p : PV} {d : PyData}, Rep G K H v p → p.toD = some d → Dp K H v d
  | _, _, _, .non, h => by rw [PV.toD] at h; cases h; exact .non
  | _, _, _, .bl b, h => by rw [PV.toD] at h; cases h; exact .bl b
  | _, _, _, .int b, h => by rw [PV.toD] at h; cases h; exact .int b
  | _, _, _, .str b, h => by rw [PV.toD] at h; cases h; exact .str b
  | _, _, _, .ty b, h => by rw [PV.toD] at h; cases h
  | _, _, _, .scr _, h => by rw [PV.toD] at h; cases h
  | _, _, _, .exn _ _, h => by rw [PV.toD] at h; cases h
  | _, _, _, .dK _ _, h => by rw [PV.toD] at h; cases h
  | _, _, _, .ins _ _, h => by rw [PV.toD] at h; cases h
  | _, _, _, .itm _ _, h => by rw [PV.toD] at h; cases h
  | _, _, _, .tup (ps := ps) e r, h => by
    rw [PV.toD] at h
    cases hd : toDs ps with
    | none => rw [hd] at h; cases h
    | some ds => rw [hd] at h; cases h; exact .tup e.sqt (Reps.dp r hd)
  | _, _, _, .lst (ps := ps) e r, h => by
    rw [PV.toD] at h
    cases hd : toDs ps with
    | none => rw [hd] at h; cases h
    | some ds => rw [hd] at h; cases h; exact .lst (.inl e) (Reps.dp r hd)
theorem Reps.dp : ∀ {vs : List V} {ps : List PV} {ds : List PyData}, Reps G K H vs ps → toDs ps = some ds → DpAll K H vs ds
  | _, _, _, .nil, h => by rw [toDs] at h; cases h; exact .nil
  | _, _, _, .cons r rs, h => by
    obtain ⟨d, ds', h1, h2, rfl⟩ := toDs_cons h
    exact .cons (Rep.dp r h1) (Reps.dp rs h2)
end
theorem Top.dp {d : PyData} (s : Same F H) (r : Top G K F H v p) (h : p.toD = some d) : Dp K H v d := by
  rcases r with r | ⟨a, rfl, _, o⟩
  · exact Rep.dp (r.mono s) h
  · cases p <;> first | exact o.elim | skip
    · obtain ⟨vs, e, r⟩ := o
      rename_i ps
      rw [PV.toD] at h
      cases hd : toDs ps with
      | none => rw [hd] at h; cases h
      | some ds => rw [hd] at h; cases h; exact .lst (.inl (.inl e)) (Reps.dp (Reps.mono s r) hd)
    · rw [PV.toD] at h; cases h
    · rw [PV.toD] at h; cases h
def eqB (p q : PV) : Option Bool := match p.toD, q.toD with
  | some d, some e => if SeqAt.shaped d && SeqAt.shaped e then some (PyData.eqv d e) else none
  | _, _ => none
def pEq (p q : PV) : Option PV := (eqB p q).map .bl
def pNe (p q : PV) : Option PV := (eqB p q).map fun b => .bl (!b)
theorem eqB_some {p q : PV} {b : Bool} (h : eqB p q = some b) : ∃ d e, p.toD = some d ∧ q.toD = some e ∧ SeqAt.shaped d = true ∧ SeqAt.shaped e = true ∧ b = PyData.eqv d e := by
  unfold eqB at h
  split at h
  · rename_i d e h1 h2
    split at h
    · rename_i hs
      rw [Bool.and_eq_true] at hs
      cases h
      exact ⟨d, e, h1, h2, hs.1, hs.2, rfl⟩
    · cases h
  · cases h
theorem g_eq : OpV G K (rEqD K) .sh pEq := by
  intro F H x y p q z Q s rx ry hz k
  unfold pEq at hz
  cases hb : eqB p q with
  | none => rw [hb] at hz; cases hz
  | some b =>
    rw [hb] at hz
    cases hz
    obtain ⟨d, e, h1, h2, s1, s2, rfl⟩ := eqB_some hb
    exact ⟨d, e, rx.dp s h1, ry.dp s h2, s1, s2, k _ F H (Ext.refl s) (.bl _)⟩
theorem g_ne : OpV G K (rNeD K) .sh pNe := by
  intro F H x y p q z Q s rx ry hz k
  unfold pNe at hz
  cases hb : eqB p q with
  | none => rw [hb] at hz; cases hz
  | some b =>
    rw [hb] at hz
    cases hz
    obtain ⟨d, e, h1, h2, s1, s2, rfl⟩ := eqB_some hb
    exact ⟨d, e, rx.dp s h1, ry.dp s h2, s1, s2, k _ F H (Ext.refl s) (.bl _)⟩
/-! ### is None -/
def PV.isN : PV → Bool
  | .non => true
  | _ => false
def pIsN : PV → PV → Option PV
  | p, .non => some (.bl p.isN)
  | _, _ => none
def pNotN : PV → PV → Option PV
  | p, .non => some (.bl (!p.isN))
  | _, _ => none
theorem Top.isN (r : Top G K F H v p) : decide (v = .non) = p.isN := by
  rcases r with r | ⟨a, rfl, _, o⟩
  · cases r <;> simp [PV.isN]
  · cases p <;> first | exact o.elim | simp [PV.isN]
theorem g_isN : OpV G K (fun x y H Q => y = .non ∧ Q (.bl (decide (x = .non))) H) .sh pIsN := by
  intro F H x y p q z Q s rx ry hz k
  unfold pIsN at hz
  split at hz
  · cases hz
    refine ⟨ry.non_inv, ?_⟩
    rw [rx.isN]
    exact k _ F H (Ext.refl s) (.bl _)
  · cases hz
theorem g_notN : OpV G K (fun x y H Q => y = .non ∧ Q (.bl (!decide (x = .non))) H) .sh pNotN := by
  intro F H x y p q z Q s rx ry hz k
  unfold pNotN at hz
  split at hz
  · cases hz
    refine ⟨ry.non_inv, ?_⟩
    rw [rx.isN]
    exact k _ F H (Ext.refl s) (.bl _)
  · cases hz
/-! ### in -/
def PV.flat : PV → Bool
  | .non => true
  | .bl _ => true
  | .int _ => true
  | .str _ => true
  | _ => false
def eqP : PV → PV → Bool
  | .non, .non => true
  | .bl a, .bl b => a == b
  | .bl a, .int b => (if a then 1 else 0) == b
  | .int a, .bl b => a == (if b then 1 else 0)
  | .int a, .int b => a == b
  | .str a, .str b => a == b
  | _, _ => false
def inP (x : PV) (xs : List PV) : Bool := xs.any fun y => eqP y x
theorem Rep.flat (r : Rep G K H v p) (h : p.flat = true) : flatV v = true := by
  cases r <;> first | rfl | (simp [PV.flat] at h)
theorem Rep.eqP {w : V} {q : PV} (r : Rep G K H v p) (r2 : Rep G K H' w q) (h : p.flat = true) (h2 : q.flat = true) : eqV v w = Lp.eqP p q := by
  cases r <;> first | (simp [PV.flat] at h; done) | (cases r2 <;> first | (simp [PV.flat] at h2; done) | rfl)
theorem Reps.flat : ∀ {vs : List V} {ps : List PV}, Reps G K H vs ps → ps.all PV.flat = true → vs.all flatV = true
  | _, _, .nil, _ => rfl
  | _, _, .cons r rs, h => by
    rw [List.all_cons, Bool.and_eq_true] at h ⊢
    exact ⟨r.flat h.1, Reps.flat rs h.2⟩
theorem Reps.inP {q : PV} (r2 : Rep G K H' x q) (h2 : q.flat = true) : ∀ {vs : List V} {ps : List PV}, Reps G K H vs ps → ps.all PV.flat = true → inV x vs = Lp.inP q ps
  | _, _, .nil, _ => rfl
  | _, _, .cons r rs, h => by
    rw [List.all_cons, Bool.and_eq_true] at h
    have ih := Reps.inP r2 h2 rs h.2
    unfold inV Lp.inP at ih ⊢
    rw [List.any_cons, List.any_cons, ih, r.eqP r2 h.1 h2]
def itemsP : PV → Option (List PV)
  | .lst xs => some xs
  | .tup xs => some xs
  | _ => none
theorem Top.items (s : Same F H) {ps : List PV} (r : Top G K F H v p) (h : itemsP p = some ps) : ∃ a vs, v = .ref a ∧ (SqL K H a vs ∨ SqT K H a vs) ∧ Reps G K F vs ps := by
  unfold itemsP at h
  split at h
  · cases h
    obtain ⟨a, vs, e, h, r⟩ := r.lst_inv s
    exact ⟨a, vs, e, .inl (.inl h), r⟩
  · cases h
    obtain ⟨a, vs, e, h, r⟩ := r.tup_inv s
    exact ⟨a, vs, e, .inr h, r⟩
  · cases h
/-- one text within another -/
def subIn (i j : Str) : Bool := !(Builtin.Str.occurrences j i 0 j.length 1).isEmpty
def pIn (n : Bool) (p q : PV) : Option PV := match p, q with
  | .str i, .str j => some (.bl (n ^^ subIn i j))
  | p, q => match itemsP q with
    | some ps => if p.flat && ps.all PV.flat then some (.bl (n ^^ inP p ps)) else none
    | none => none
def rInS (n : Bool) : R2 := fun x y H Q => ∃ i j, x = .str i ∧ y = .str j ∧ Q (.bl (n ^^ subIn i j)) H
def rInV (K : PySem.W.Frag) (n : Bool) : R2 := fun x y H Q => rInS n x y H Q ∨ rIn K n x y H Q
theorem op_inV : OpR X (compareOp .In) (rInV X.K false) := OpR.or (fun pins s σ H x y v u Q I rx ry ⟨i, j, e1, e2, q⟩ => op_in_str pins s σ H x y v u Q I rx ry ⟨i, j, e1, e2, by simpa [subIn] using q⟩) op_in_seq
theorem op_notInV : OpR X (compareOp .NotIn) (rInV X.K true) := OpR.or (fun pins s σ H x y v u Q I rx ry ⟨i, j, e1, e2, q⟩ => L2.op_notIn_str pins s σ H x y v u Q I rx ry ⟨i, j, e1, e2, by simpa [subIn] using q⟩) op_notIn_seq
theorem g_in {n : Bool} : OpV G K (rInV K n) .sh (pIn n) := by
  intro F H x y p q z Q s rx ry hz k
  unfold pIn at hz
  split at hz
  · obtain rfl := rx.str_inv
    obtain rfl := ry.str_inv
    cases hz
    exact .inl ⟨_, _, rfl, rfl, k _ F H (Ext.refl s) (.bl _)⟩
  · split at hz
    · rename_i ps hi
      split at hz
      · rename_i hf
        rw [Bool.and_eq_true] at hf
        cases hz
        obtain ⟨a, vs, rfl, hS, r⟩ := ry.items s hi
        have rx' : Rep G K F x p := by
          rcases rx with rx | ⟨_, _, _, o⟩
          · exact rx
          · have h := hf.1
            cases p <;> first | exact o.elim | (simp [PV.flat] at h)
        refine .inr ⟨a, vs, rfl, hS, rx'.flat hf.1, r.flat hf.2, ?_⟩
        have e : (if n = true then !inV x vs else inV x vs) = (n ^^ inP p ps) := by
          rw [r.inP rx' hf.1 hf.2]
          cases n <;> simp
        rw [e]
        exact k _ F H (Ext.refl s) (.bl _)
      · cases hz
    · cases hz
end
end Lp
end
section
set_option Elab.async false
set_option linter.all false
set_option maxRecDepth 100000
/-! enumerate(tuple) -/
namespace PySem
open Sem (wp)
open AutoSeq1 (wpAny_loadPart')
theorem meets_enumerate_newT (l : Addr) (items : Array Value) (n : Nat) (dct : Option Addr) (sl : Array (Option Value)) :
    Meets (Builtin.«enumerate.__new__» ⟨[.type "enumerate", .ref l], []⟩) (fun _ R s => s.heap.get? l = some { cls := .type "tuple", dict := dct, data := .seq items n, slots := sl } ∧
      R (.ok (.ret (.ref (s.heap.push { cls := .type "tuple_iterator", data := .fields #[.ref l, .int 0 0] }).objs.size)))
        { s with heap := (s.heap.push { cls := .type "tuple_iterator", data := .fields #[.ref l, .int 0 0] }).push { cls := .type "enumerate", data := .fields #[.none, .bool false, .ref s.heap.objs.size, rawInt 0, .none, .none] } }) :=
  .of_wp fun prog w A R s h => by
    obtain ⟨hp, g, d, tk, os⟩ := s; obtain ⟨hl, h⟩ := h
    have hsub := sub_enumerate
    have hL : Heap.IsTuple (Shared.heap ⟨hp, g, d, tk, os⟩) l items := ⟨_, hl, rfl, n, rfl⟩
    wp_walk using wpAny_loadPart' hl
    refine wpAny_stack_any fun st => wpAny_pure ?_
    split
    · rename_i c _ _ _ _ _
      cases (c == Value.type "enumerate")
      · wp_walk using wpAny_loadPart' hl, wpAny_pyIter_tuple hL
        exact ⟨_, rfl, h⟩
      · wp_walk using wpAny_loadPart' hl, wpAny_pyIter_tuple hL
        exact ⟨_, rfl, h⟩
    · wp_walk using wpAny_loadPart' hl, wpAny_pyIter_tuple hL
      exact ⟨_, rfl, h⟩
theorem call_enumerate_tup {prog : Program} {w : World} {A : Around} {E : Value → Shared → Prop} {s : Shared} {l : Addr} {items : Array Value} {Q : Value → Shared → Prop} (hL : s.heap.IsTuple l items)
    (h : ∀ h', IsEnum h' (s.heap.objs.size + 1) s.heap.objs.size 0 .none → h'.IsTupleIter s.heap.objs.size l 0 → h'.objs.size = s.heap.objs.size + 2 →
      (∀ b o, s.heap.get? b = some o → h'.get? b = some o) → Q (.ref (s.heap.objs.size + 1)) { s with heap := h' }) :
    wpAny (model prog w) A (call (.type "enumerate") [.ref l]) Q E s := by
  obtain ⟨⟨c, dct, dt, sl⟩, hl, hc, n, hd⟩ := hL
  replace hc : c = .type "tuple" := hc
  replace hd : dt = .seq items n := hd
  subst hc hd
  refine callType_new F.called_enumerate (by decide) (F.typeCall_enumerate_1 _) (F.newCall_enumerate_1 _) (fun obj => F.args_object_init_2 obj _) F.entry_enumerate_new
    (meets_enumerate_newT l items n dct sl) ⟨hl, ?_⟩
  have hz : (s.heap.push { cls := .type "tuple_iterator", data := .fields #[.ref l, .int 0 0] }).objs.size = s.heap.objs.size + 1 := Heap.size_push ..
  show _ ∧ _
  rw [hz]
  have he : IsEnum ((s.heap.push { cls := .type "tuple_iterator", data := .fields #[.ref l, .int 0 0] }).push
      { cls := .type "enumerate", data := .fields #[.none, .bool false, .ref s.heap.objs.size, rawInt 0, .none, .none] }) (s.heap.objs.size + 1) s.heap.objs.size 0 .none := by
    have := Heap.get?_push_size (s.heap.push { cls := .type "tuple_iterator", data := .fields #[.ref l, .int 0 0] })
      (o := { cls := .type "enumerate", data := .fields #[.none, .bool false, .ref s.heap.objs.size, rawInt 0, .none, .none] }) rfl
    rw [hz] at this; exact this
  refine ⟨⟨_, he, rfl⟩, h _ he ⟨_, Heap.get?_push_of_some _ (Heap.get?_push_size _ rfl), rfl, rfl⟩ (by rw [Heap.size_push, hz]) fun b o x => Heap.get?_push_of_some _ (Heap.get?_push_of_some _ x)⟩
end PySem
namespace L2
open PySem PySem.Spec PyProof.Rows
/-- the tuple at a, each item in a new pair -/
def IteT (K : PySem.W.Frag) (a : Addr) : It :=
  ⟨fun i H => ∃ (xs : List V) (x : V), SqT K H a xs ∧ xs[i]? = some x, fun i H v H' => ∃ T x, v = .ref T ∧ H T = none ∧ H' = upd H T (.tup [.int (i : Nat), x]) ∧ ∀ xs, SqT K H a xs → xs[i]? = some x, fun i H => ∃ xs : List V, SqT K H a xs ∧ xs.length ≤ i⟩
theorem turn_enumT {P : Program} {w : World} {K : PySem.W.Frag} {elts : List Expr} {kk : Nat} {tpos : Pos} (a e it : Addr) (hai : a ≠ it) (hae : a ≠ e) :
    Turn P w K (.Tuple elts kk tpos) (IteT K a) [e, it] e (fun i h => (∃ old, IsEnum h e it ((i : Nat) : Int) old) ∧ h.IsTupleIter it a i ∧ e ≠ it) where
  mem := by simp
  obj := fun i h st b hb => by
    obtain ⟨⟨old, he⟩, ⟨o, ho, hc, hd⟩, _⟩ := st
    have e' : b = e ∨ b = it := by simpa using hb
    rcases e' with z | z
    · rw [z]; exact ⟨_, he, fun v q => nomatch q⟩
    · rw [z]; exact ⟨o, ho, fun v q => by rw [hd] at q; cases q⟩
  keep := fun i h h' st k => let ⟨⟨old, he⟩, hi, hne⟩ := st; ⟨⟨old, k e (by simp) _ he⟩, hi.at fun o q => k it (by simp) o q, hne⟩
  item := by
    intro X hP hw hK hc i pins s σ H E I hf st hg
    subst hP hw hK
    obtain ⟨⟨old, he⟩, hit, hne⟩ := st
    obtain ⟨xs, x, hq, hx⟩ := hg
    obtain ⟨its, rv, p, hz⟩ := I.tuple hq
    obtain ⟨u, hu, ru⟩ := rv.get hx
    have hel : e < s.heap.objs.size := Heap.lt_size he
    have hil : it < s.heap.objs.size := by obtain ⟨_, q, _⟩ := hit; exact Heap.lt_size q
    have hlt : i < its.toArray.size := by
      have := (List.getElem?_eq_some_iff.mp hu).1
      simpa using this
    have D : Draws X.prog X.w X.A.in1 it [it, a] its.toArray.size (fun i v => its.toArray[i]? = some v) (fun i h => h.IsTupleIter it a i ∧ h.IsTuple a its.toArray) := Draws.tuple (A := X.A.in1) (show X.A.in1.handled = none from I.ok.hd hc) it a hai its.toArray
    refine wpAny_pyNext_enum_itemD D he ⟨hit, p⟩ hlt hne (by simp [hne, Ne.symm hae]) fun x' h' tk hx' ho st' hT hsz hk => ?_
    obtain ⟨hit', _⟩ := st'
    have ex : x' = u := by
      have h1 : its.toArray[i]? = some x' := hx'
      have h2 : its.toArray[i]? = some u := by simpa using hu
      exact Option.some.inj (h1.symm.trans h2)
    subst ex
    refine ⟨_, rfl, wpAny_letOwnedTupleGo_enum (s := { s with heap := h', toks := tk + 1 }) ho fun h'' he' sb => ?_⟩
    have hT2 : h''.get? s.heap.objs.size = some { cls := .type "tuple", data := .seq #[.int i tk, x'] } := (sb.2 _ (Nat.ne_of_gt hel)).trans hT
    have new : ObjOk X.prog X.w (upd H s.heap.objs.size (.tup [.int (i : Nat), x])) h'' s.heap.objs.size (.tup [.int (i : Nat), x]) :=
      ⟨by show 2 ≤ sizeLine; decide, [.int i tk, x'], .cons ⟨_, rfl⟩ (.cons ru .nil), ⟨_, hT2, rfl, _, rfl⟩⟩
    have I1 : Inv X pins σ (upd H s.heap.objs.size (.tup [.int (i : Nat), x])) { s with heap := h'', toks := tk + 1 } :=
      I.turnedNew (ch := [e, it]) (fun b ob hb q => (sb.2 b (fun z => hb (by simp [z]))).trans (hk b ob (fun z => hb (by simp [z])) (fun z => hb (by simp [z])) q)) hf (Nat.le_refl _) new
    refine ⟨.ref s.heap.objs.size, _, I1, rfl, ⟨_, x, rfl, I.hok.fresh (Nat.le_refl _), rfl, fun ys hy => by rw [I.tuple_inj hy hq]; exact hx⟩, ⟨⟨x', ?_⟩, hit'.at fun o q => (sb.2 it (Ne.symm hne)).trans q, hne⟩, fun b hb => ?_⟩
    · have e1 : ((i + 1 : Nat) : Int) = (i : Int) + 1 := by omega
      rw [e1]; exact he'
    · have hb' : b < s.heap.objs.size := by
        have e' : b = e ∨ b = it := by simpa using hb
        rcases e' with z | z
        · rw [z]; exact hel
        · rw [z]; exact hil
      rw [upd_ne (Nat.ne_of_lt hb')]
      exact (hf b hb).1
  done := by
    intro X hP hw hK hc i pins s σ H E I hf st hg
    subst hP hw hK
    obtain ⟨⟨old, he⟩, hit, hne⟩ := st
    obtain ⟨xs, hq, hx⟩ := hg
    obtain ⟨its, rv, p, hz⟩ := I.tuple hq
    obtain ⟨f0, f1, f2, f3, f4, f5⟩ := hf it (by simp)
    have hl := rv.length
    have hT : s.TypeIs (.ref e) "enumerate" := ⟨_, he, rfl⟩
    unfold pyNext
    refine wpAny_bind (wpAny_attempt (wpAny_callSpecial?_slot (name := Str.ofString "__next__") hT F.slot_enumerate_next
      (wpAny_call_entry F.slot_enumerate_next hT F.entry_enumerate_next ?_ (F.args_enumerate_next_1 _))))
    show wpAny _ _ (field (.ref e) 2 >>= _) _ _ _
    refine wpAny_bind (wpAny_field he rfl (x := .ref it) rfl ?_)
    refine wpAny_bind (wpAny_nextOf_tuple_end (I.ok.hd hc) hit p (by simp; omega) fun h' e he' hx' => ?_)
    obtain ⟨o, ho, hc'⟩ := hx'
    refine wpAny_bind (wpAny_isInstance (T := "StopIteration") (b := true) ⟨o, ho, hc'⟩ isSubtype_stop ?_)
    exact wpAny_pure ⟨rfl, I.turned (t' := s.toks) (fun b o hb q => he' b o hb q) f0 f1 f3 f4 f5⟩
  self := fun A i s Q E st h => let ⟨⟨_, he⟩, _⟩ := st; wpAny_pyIter_enum he h
def iEnumT (K : PySem.W.Frag) (ta : TA) : TI := fun σ H R => ta σ H fun vs H1 => ∃ a xs, vs = [.ref a] ∧ ((SqL K H1 a xs ∧ R (Ite K a) H1) ∨ (SqT K H1 a xs ∧ R (IteT K a) H1))
theorem pi_enumT {X : Cx} {e : Expr} {ta : TA} {p pos tpos : Pos} {elts : List Expr} {kk : Nat} (hg : Gl X "enumerate") (hm : X.mg "enumerate" = none) (ha : PA X [e] ta) (hs : starEach [e] X.env = [(false, eval e X.env)] := by rfl) :
    PI X (.Tuple elts kk tpos) (.Call (.Name "enumerate" p) [e] [] pos) (iEnumT X.K ta) := by
  refine ⟨fun pins s σ H R I h => ?_⟩
  refine Call_ (ld_blt I hg hm boot_enumerate (PyProof.Rows.callWith_type1 (thn (ha.run pos pins s σ H _ I h) fun us s1 ⟨vs, H1, I1, r1, q1⟩ => ?_) hs rfl))
  obtain ⟨a, xs, ex, q⟩ := q1
  subst ex
  cases r1 with
  | cons r rr =>
    cases rr
    cases r
    have fin : ∀ b ∈ [s1.heap.objs.size + 1, s1.heap.objs.size], FpOk X pins H1 b := fun b hb => by
      have e' : b = s1.heap.objs.size + 1 ∨ b = s1.heap.objs.size := by simpa using hb
      have hle : s1.heap.objs.size ≤ b := by
        rcases e' with z | z
        · rw [z]; exact Nat.le_add_right _ _
        · rw [z]; exact Nat.le_refl _
      exact I1.fpOk hle (I1.hok.fresh hle)
    rcases q with ⟨hq, q⟩ | ⟨hq, q⟩
    · obtain ⟨its, rv, p', hz⟩ := I1.list hq
      refine call_enumerate_list p'.isList fun h' he hit hsz hk => wpAny_pyIter_enum he ?_
      have I2 : Inv X pins σ H1 { s1 with heap := h' } := I1.kept (t' := s1.toks) hk
      exact ⟨s1.heap.objs.size + 1, [s1.heap.objs.size + 1, s1.heap.objs.size], _, _, H1, rfl, I2, turn_enum a (s1.heap.objs.size + 1) s1.heap.objs.size, ⟨⟨.none, he⟩, hit, Nat.succ_ne_self _⟩, fin, q⟩
    · obtain ⟨its, rv, p', hz⟩ := I1.tuple hq
      have hlt : a < s1.heap.objs.size := by obtain ⟨o, ho, _⟩ := p'; exact Heap.lt_size ho
      refine call_enumerate_tup p' fun h' he hit hsz hk => wpAny_pyIter_enum he ?_
      have I2 : Inv X pins σ H1 { s1 with heap := h' } := I1.kept (t' := s1.toks) hk
      exact ⟨s1.heap.objs.size + 1, [s1.heap.objs.size + 1, s1.heap.objs.size], _, _, H1, rfl, I2, turn_enumT a (s1.heap.objs.size + 1) s1.heap.objs.size (Nat.ne_of_lt hlt) (Nat.ne_of_lt (Nat.lt_succ_of_lt hlt)), ⟨⟨.none, he⟩, hit, Nat.succ_ne_self _⟩, fin, q⟩
end L2
end
section
set_option Elab.async false
set_option linter.all false
set_option maxRecDepth 100000
namespace L2
open PySem PySem.Spec PyProof.Rows
/-- a list, a tuple, a text walked -/
def iAny (K : PySem.W.Frag) (te : TE) : TI := fun σ H R => te σ H fun x H1 =>
  (∃ a xs, x = .ref a ∧ SqL K H1 a xs ∧ (xs.length ≤ sizeLine → R (Itl K a) H1)) ∨ (∃ a xs, x = .ref a ∧ SqT K H1 a xs ∧ (xs.length ≤ sizeLine → R (Itt K a) H1)) ∨ (∃ z, x = .str z ∧ R (Its z) H1)
theorem pi_any {X : Cx} {tg l : Expr} {tl : TE} (hl : PE X l tl) : PI X tg l (iAny X.K tl) := by
  refine ⟨fun pins s σ H R I h => ?_⟩
  refine thn (hl.run pins s σ H _ I h) fun v s1 ⟨x, H1, I1, r1, q1⟩ => ?_
  have fin : ∀ b ∈ [s1.heap.objs.size], FpOk X pins H1 b := fun b hb => by
    have e : b = s1.heap.objs.size := by simpa using hb
    subst e
    exact I1.fpOk (Nat.le_refl _) (I1.hok.fresh (Nat.le_refl _))
  rcases q1 with ⟨a, xs, e, hq, q⟩ | ⟨a, xs, e, hq, q⟩ | ⟨z, e, q⟩
  · subst e
    cases r1
    obtain ⟨its, rv, p, hz⟩ := I1.list hq
    refine wpAny_pyIter_list p.isList ?_
    exact ⟨s1.heap.objs.size, [s1.heap.objs.size], _, _, H1, rfl, I1.kept (t' := s1.toks) fun b o e => Heap.get?_push_of_some _ e, turn_list a _, ⟨_, Heap.get?_push_size _ rfl, rfl, rfl⟩, fin, q hz⟩
  · subst e
    cases r1
    obtain ⟨its, rv, p, hz⟩ := I1.tuple hq
    refine wpAny_pyIter_tuple (show s1.heap.IsTuple a its.toArray from p) ?_
    exact ⟨s1.heap.objs.size, [s1.heap.objs.size], _, _, H1, rfl, I1.kept (t' := s1.toks) fun b o e => Heap.get?_push_of_some _ e, turn_tuple a _, ⟨_, Heap.get?_push_size _ rfl, rfl, rfl⟩, fin, q hz⟩
  · subst e
    obtain ⟨t, rfl⟩ := r1
    cases ha : z.cps.all (· < 128)
    · exact wpAny_pyIter_wide ha (pi_one (tk := s1.toks) I1 _ (turn_str _ z t "str_iterator" (.inr rfl)) ⟨_, Heap.get?_push_size _ rfl, rfl, rfl⟩ q)
    · exact wpAny_pyIter_ascii ha (pi_one (tk := s1.toks) I1 _ (turn_str _ z t "str_ascii_iterator" (.inl rfl)) ⟨_, Heap.get?_push_size _ rfl, rfl, rfl⟩ q)
end L2
namespace Lp
open PySem PySem.Spec L2

/-! ### calls of built-ins -/
def eCall (g : List PV → Option PV) (f : LE → Res (List PV)) : LE → Res PV := fun τ => f τ >>= fun ps => up (g ps)
section
variable (G : Nat → Addr) (K : PySem.W.Frag)
inductive Tops (F H : Hp) : List V → List PV → Prop
  | nil : Tops F H [] []
  | cons {v : V} {vs : List V} {p : PV} {ps : List PV} : Top G K F H v p → Tops F H vs ps → Tops F H (v :: vs) (p :: ps)
def CalV (r : List V → Hp → VK → Prop) (m : Mode) (g : List PV → Option PV) : Prop := ∀ (F H : Hp) (xs : List V) (ps : List PV) (z : PV) (Q : VK), Same F H → Tops G K F H xs ps → g ps = some z →
  (∀ v F' H', Ext F H F' H' → RM G K m H F' H' v z → Q v H') → r xs H Q
end
section
variable {G : Nat → Addr} {K : PySem.W.Frag} {F H F' H' F0 H0 : Hp} {X : Cx} {v x y : V} {p : PV} {κ : Kd} {E : St → XK} {m md : Mode} {e a b : Expr} {es : List Expr} {pos : Pos}
theorem RMs.tops : ∀ {vs : List V} {ps : List PV}, RMs G K md H0 F H vs ps → Tops G K F H vs ps
  | _, _, .nil => .nil
  | _, _, .cons r rs => .cons r.top (RMs.tops rs)
theorem Tops.one {q : PV} {xs : List V} (h : Tops G K F H xs [q]) : ∃ v, xs = [v] ∧ Top G K F H v q := by
  cases h with
  | cons r rs => cases rs; exact ⟨_, rfl, r⟩
theorem Tops.two {q q' : PV} {xs : List V} (h : Tops G K F H xs [q, q']) : ∃ v w, xs = [v, w] ∧ Top G K F H v q ∧ Top G K F H w q' := by
  cases h with
  | cons r rs =>
    cases rs with
    | cons r' rs => cases rs; exact ⟨_, _, rfl, r, r'⟩
theorem w_call {r : List V → Hp → VK → Prop} {g : List PV → Option PV} {f : LE → Res (List PV)} (hg : CalV G K r m g) {σ : St} {H : Hp} {Q : VK} (h : tE G K m E κ (eCall g f) σ H Q) : tA G K md E κ f σ H fun vs H1 => r vs H1 Q := by
  obtain ⟨F, τ, l, q⟩ := h
  refine ⟨F, τ, l, ?_⟩
  unfold eCall at q
  cases hf : f τ with
  | exc c ps => rw [hf] at q; exact q
  | bad => rw [hf] at q; exact q
  | ok ps =>
    rw [hf, Res.ok_bind] at q
    intro vs F1 H1 e1 r1
    cases hz : g ps with
    | none => rw [hz] at q; exact q.elim
    | some z =>
      rw [hz] at q
      exact hg F1 H1 vs ps z Q e1.sub r1.tops hz fun w F3 H3 e3 r3 => q w F3 H3 (e1.trans e3) (r3.before e1.h)
variable {g : List PV → Option PV} {f : LE → Res (List PV)} {r : List V → Hp → VK → Prop} {id T : String} {x' : Str} {p' : Pos}
theorem v_callB (hc : CallR X (.builtin id) r) (hg' : CalV G K r m g) (hm : X.mg x' = none) (hv : bootBuiltins x' = some (.builtin id)) (ha : PA X (e :: es) (tA G K md E κ f)) (hg : Gl X x' := by rfl) (hn : x' ≠ "__name__" := by decide) (hdb : (x' == ("__debug__" : Str)) = false := by decide)
    (he : starEach (e :: es) X.env = (false, eval e X.env) :: starEach es X.env := by rfl) (hpl : (backTo pos (starEach es X.env)).any (·.1) = false := by rfl) : PE X (.Call (.Name x' p') (e :: es) [] pos) (tE G K m E κ (eCall g f)) :=
  pe_weak (pe_callB hc hg hm hv ha hn hdb he hpl) fun _ _ _ h => w_call hg' h
theorem v_callTy (hc : CallR X (.type T) r) (hg' : CalV G K r m g) (hm : X.mg x' = none) (hv : bootBuiltins x' = some (.type T)) (ha : PA X (e :: es) (tA G K md E κ f)) (hg : Gl X x' := by rfl) (hn : x' ≠ "__name__" := by decide) (hdb : (x' == ("__debug__" : Str)) = false := by decide)
    (he : starEach (e :: es) X.env = (false, eval e X.env) :: starEach es X.env := by rfl) (hpl : (backTo pos (starEach es X.env)).any (·.1) = false := by rfl) : PE X (.Call (.Name x' p') (e :: es) [] pos) (tE G K m E κ (eCall g f)) :=
  pe_weak (pe_callTy hc hg hm hv ha hn hdb he hpl) fun _ _ _ h => w_call hg' h
/-! len -/
def pLen : List PV → Option PV
  | [.lst xs] => some (.int xs.length)
  | [.tup xs] => some (.int xs.length)
  | [.scr xs] => some (.int xs.length)
  | [.str z] => if z.length ≤ sizeLine then some (.int z.length) else none
  | [.dK kvs] => some (.int kvs.length)
  | _ => none
def rLenV (K : PySem.W.Frag) : List V → Hp → VK → Prop := fun xs H Q => (∃ x n, xs = [x] ∧ LenV K x H n ∧ Q (.int n) H) ∨ ∃ a kvs, xs = [.ref a] ∧ H a = some (.dK kvs) ∧ Q (.int kvs.length) H
theorem call_lenV : CallR X (.builtin "len") (rLenV X.K) := call_len.or fun pins s σ H xs us Q I r ⟨a, kvs, e, h, q⟩ => call_lenD pins s σ H xs us Q I r ⟨a, kvs, e, h, q⟩
theorem g_len : CalV G K (rLenV K) .sh pLen := by
  intro F H xs ps z Q s r hz k
  have kk : ∀ n : Nat, z = .int n → Q (.int n) H := fun n e => by subst e; exact k _ F H (Ext.refl s) (.int _)
  unfold pLen at hz
  split at hz
  · obtain ⟨v, rfl, rv⟩ := r.one
    obtain ⟨a, vs, rfl, h, rr⟩ := rv.lst_inv s
    exact .inl ⟨_, vs.length, rfl, .inl ⟨vs, .inl h, rfl⟩, kk _ (by rw [rr.length]; cases hz; rfl)⟩
  · obtain ⟨v, rfl, rv⟩ := r.one
    obtain ⟨a, vs, rfl, h, rr⟩ := rv.tup_inv s
    exact .inl ⟨_, vs.length, rfl, .inr ⟨vs, h, rfl⟩, kk _ (by rw [rr.length]; cases hz; rfl)⟩
  · obtain ⟨v, rfl, rv⟩ := r.one
    obtain ⟨a, rfl, h⟩ := rv.scr_inv s
    exact .inl ⟨_, _, rfl, .inl ⟨_, h, rfl⟩, kk _ (by rw [List.length_map]; cases hz; rfl)⟩
  · obtain ⟨v, rfl, rv⟩ := r.one
    obtain rfl := rv.str_inv
    split at hz
    · rename_i hl
      exact .inl ⟨_, _, rfl, ⟨hl, rfl⟩, kk _ (by cases hz; rfl)⟩
    · cases hz
  · obtain ⟨v, rfl, rv⟩ := r.one
    obtain ⟨a, vs, rfl, h, rr⟩ := rv.dK_inv s
    exact .inr ⟨_, vs, rfl, h, kk _ (by rw [rr.length]; cases hz; rfl)⟩
  · cases hz
/-! int, abs, min, max of ints, str of an int -/
def pInt : List PV → Option PV
  | [.int i] => some (.int i)
  | [.bl k] => some (.int (if k then 1 else 0))
  | _ => none
theorem g_int : CalV G K (fun xs H Q => (∃ i, xs = [.int i] ∧ Q (.int i) H) ∨ ∃ k, xs = [.bl k] ∧ Q (.int (if k then 1 else 0)) H) .sh pInt := by
  intro F H xs ps z Q s r hz k
  unfold pInt at hz
  split at hz
  · obtain ⟨v, rfl, rv⟩ := r.one
    obtain rfl := rv.int_inv
    cases hz
    exact .inl ⟨_, rfl, k _ F H (Ext.refl s) (.int _)⟩
  · obtain ⟨v, rfl, rv⟩ := r.one
    obtain rfl := rv.bl_inv
    cases hz
    exact .inr ⟨_, rfl, k _ F H (Ext.refl s) (.int _)⟩
  · cases hz
def pAbs : List PV → Option PV
  | [.int i] => some (.int (if i < 0 then -i else i))
  | _ => none
theorem g_abs : CalV G K (fun xs H Q => ∃ i, xs = [.int i] ∧ Q (.int (if i < 0 then -i else i)) H) .sh pAbs := by
  intro F H xs ps z Q s r hz k
  unfold pAbs at hz
  split at hz
  · obtain ⟨v, rfl, rv⟩ := r.one
    obtain rfl := rv.int_inv
    cases hz
    exact ⟨_, rfl, k _ F H (Ext.refl s) (.int _)⟩
  · cases hz
def pI2 (g : Int → Int → Int) : List PV → Option PV
  | [.int i, .int j] => some (.int (g i j))
  | _ => none
theorem g_I2 {g : Int → Int → Int} : CalV G K (fun xs H Q => ∃ i j, xs = [.int i, .int j] ∧ Q (.int (g i j)) H) .sh (pI2 g) := by
  intro F H xs ps z Q s r hz k
  unfold pI2 at hz
  split at hz
  · obtain ⟨v, w, rfl, rv, rw⟩ := r.two
    obtain rfl := rv.int_inv
    obtain rfl := rw.int_inv
    cases hz
    exact ⟨_, _, rfl, k _ F H (Ext.refl s) (.int _)⟩
  · cases hz
abbrev pMax := pI2 fun i j => if j > i then j else i
abbrev pMin := pI2 fun i j => if j < i then j else i
def pStrI : List PV → Option PV
  | [.int i] => if i.natAbs.log2 < 1920 then some (.str (toString i)) else none
  | _ => none
theorem g_strI : CalV G K (fun xs H Q => ∃ i, xs = [.int i] ∧ i.natAbs.log2 < 1920 ∧ Q (.str (toString i)) H) .sh pStrI := by
  intro F H xs ps z Q s r hz k
  unfold pStrI at hz
  split at hz
  · obtain ⟨v, rfl, rv⟩ := r.one
    obtain rfl := rv.int_inv
    split at hz
    · rename_i h
      cases hz
      exact ⟨_, rfl, h, k _ F H (Ext.refl s) (.str _)⟩
    · cases hz
  · cases hz
/-! list(x), tuple(x) -/
def pList : List PV → Option PV
  | [.lst xs] => some (.lst xs)
  | [.tup xs] => some (.lst xs)
  | _ => none
theorem g_list : CalV G K (fun xs H Q => ∃ p ys, xs = [.ref p] ∧ (SqL K H p ys ∨ SqT K H p ys) ∧ ∀ l, H l = none → Q (.ref l) (upd H l (.lst ys))) .fr pList := by
  intro F H xs ps z Q s r hz k
  unfold pList at hz
  split at hz
  · obtain ⟨v, rfl, rv⟩ := r.one
    obtain ⟨a, vs, rfl, h, rr⟩ := rv.lst_inv s
    cases hz
    exact ⟨a, vs, rfl, .inl (.inl h), fun l nl => let ⟨e, f⟩ := frs_new s nl rr; k _ _ _ e f⟩
  · obtain ⟨v, rfl, rv⟩ := r.one
    obtain ⟨a, vs, rfl, h, rr⟩ := rv.tup_inv s
    cases hz
    exact ⟨a, vs, rfl, .inr h, fun l nl => let ⟨e, f⟩ := frs_new s nl rr; k _ _ _ e f⟩
  · cases hz
def pTuple : List PV → Option PV
  | [.lst xs] => some (.tup xs)
  | [.tup xs] => some (.tup xs)
  | _ => none
theorem rep_tup {ws : List V} {qs : List PV} {l : Addr} {o : Obj} (s : Same F H) (nl : H l = none) (ko : KO o) (rr : Reps G K F ws qs) : Ext F H (upd F l (.frz o (.tup ws))) (upd H l (.frz o (.tup ws))) ∧ Rep G K (upd F l (.frz o (.tup ws))) (.ref l) (.tup qs) :=
  ⟨Ext.push _ (Ext.refl s) nl, .tup (.inl ⟨o, upd_same, ko⟩) (Reps.mono (same_new (Same.free s nl)) rr)⟩
theorem g_tuple : CalV G K (fun xs H Q => ∃ p ys, xs = [.ref p] ∧ ((SqL K H p ys ∧ ∀ l o, H l = none → KO o → Q (.ref l) (upd H l (.frz o (.tup ys)))) ∨ (SqT K H p ys ∧ Q (.ref p) H))) .sh pTuple := by
  intro F H xs ps z Q s r hz k
  unfold pTuple at hz
  split at hz
  · obtain ⟨v, rfl, rv⟩ := r.one
    obtain ⟨a, vs, rfl, h, rr⟩ := rv.lst_inv s
    cases hz
    exact ⟨a, vs, rfl, .inl ⟨.inl h, fun l o nl ko => let ⟨e, f⟩ := rep_tup s nl ko rr; k _ _ _ e f⟩⟩
  · obtain ⟨v, rfl, rv⟩ := r.one
    rcases rv with rv | ⟨_, _, _, o⟩
    · obtain ⟨a, vs, rfl, h, rr⟩ := rv.tup_inv
      cases hz
      exact ⟨a, vs, rfl, .inr ⟨Same.sqt s h, k _ F H (Ext.refl s) rv⟩⟩
    · exact o.elim
  · cases hz
/-! all, any, sum -/
def blsOf : List PV → Option (List Bool)
  | [] => some []
  | .bl b :: xs => (blsOf xs).map (b :: ·)
  | _ => none
theorem Reps.bls : ∀ {vs : List V} {ps : List PV} {bs : List Bool}, Reps G K F vs ps → blsOf ps = some bs → vs = bs.map V.bl
  | _, _, _, .nil, h => by simp [blsOf] at h; subst h; rfl
  | _, _, _, .cons (p := p) (ps := ps) r rs, h => by
    cases p <;> simp only [blsOf] at h <;> try cases h
    cases hb : blsOf ps with
    | none => rw [hb] at h; cases h
    | some bs' =>
      rw [hb] at h
      cases h
      rw [Rep.bl_inv r, Reps.bls rs hb]
      rfl
def pAll : List PV → Option PV
  | [.lst xs] => (blsOf xs).map fun bs => .bl (bs.all _root_.id)
  | _ => none
def pAny : List PV → Option PV
  | [.lst xs] => (blsOf xs).map fun bs => .bl (bs.any _root_.id)
  | _ => none
theorem g_all : CalV G K (rAll K) .sh pAll := by
  intro F H xs ps z Q s r hz k
  unfold pAll at hz
  split at hz
  · obtain ⟨v, rfl, rv⟩ := r.one
    obtain ⟨a, vs, rfl, h, rr⟩ := rv.lst_inv s
    rename_i qs
    cases hb : blsOf qs with
    | none => rw [hb] at hz; cases hz
    | some bs =>
      rw [hb] at hz
      cases hz
      have e := rr.bls hb
      subst e
      exact ⟨a, bs, rfl, .inl h, k _ F H (Ext.refl s) (.bl _)⟩
  · cases hz
theorem g_any : CalV G K (rAny K) .sh pAny := by
  intro F H xs ps z Q s r hz k
  unfold pAny at hz
  split at hz
  · obtain ⟨v, rfl, rv⟩ := r.one
    obtain ⟨a, vs, rfl, h, rr⟩ := rv.lst_inv s
    rename_i qs
    cases hb : blsOf qs with
    | none => rw [hb] at hz; cases hz
    | some bs =>
      rw [hb] at hz
      cases hz
      have e := rr.bls hb
      subst e
      exact ⟨a, bs, rfl, .inl h, k _ F H (Ext.refl s) (.bl _)⟩
  · cases hz
def intsOf : List PV → Option (List Int)
  | [] => some []
  | .int b :: xs => (intsOf xs).map (b :: ·)
  | _ => none
theorem Reps.ints : ∀ {vs : List V} {ps : List PV} {bs : List Int}, Reps G K F vs ps → intsOf ps = some bs → vs = bs.map V.int
  | _, _, _, .nil, h => by simp [intsOf] at h; subst h; rfl
  | _, _, _, .cons (p := p) (ps := ps) r rs, h => by
    cases p <;> simp only [intsOf] at h <;> try cases h
    cases hb : intsOf ps with
    | none => rw [hb] at h; cases h
    | some bs' =>
      rw [hb] at h
      cases h
      rw [Rep.int_inv r, Reps.ints rs hb]
      rfl
def pSum : List PV → Option PV
  | [.lst xs] => (intsOf xs).map fun bs => .int bs.sum
  | _ => none
theorem g_sum : CalV G K (rSum K) .sh pSum := by
  intro F H xs ps z Q s r hz k
  unfold pSum at hz
  split at hz
  · obtain ⟨v, rfl, rv⟩ := r.one
    obtain ⟨a, vs, rfl, h, rr⟩ := rv.lst_inv s
    rename_i qs
    cases hb : intsOf qs with
    | none => rw [hb] at hz; cases hz
    | some bs =>
      rw [hb] at hz
      cases hz
      have e := rr.ints hb
      subst e
      exact ⟨a, bs, rfl, .inl h, k _ F H (Ext.refl s) (.int _)⟩
  · cases hz

/-! ### displays -/
def eTup (f : LE → Res (List PV)) : LE → Res PV := fun τ => f τ >>= fun ps => if ps.length ≤ 1000 then .ok (.tup ps) else .bad
def eLst (f : LE → Res (List PV)) : LE → Res PV := fun τ => f τ >>= fun ps => if ps.length ≤ 1000 then .ok (.lst ps) else .bad
theorem v_tup {x1} (h : PA X es (tA G K .sh E κ f)) : PE X (.Tuple es x1 pos) (tE G K .sh E κ (eTup f)) := pe_weak (Lk.pe_tupK h) fun σ H Q ⟨F, τ, l, q⟩ => by
  refine ⟨F, τ, l, ?_⟩
  unfold eTup at q
  cases hf : f τ with
  | exc c ps => rw [hf] at q; exact q
  | bad => rw [hf] at q; exact q
  | ok ps =>
    rw [hf, Res.ok_bind] at q
    intro vs F1 H1 e1 r1
    have r1' := r1.shared
    by_cases hl : ps.length ≤ 1000
    · rw [if_pos hl] at q
      refine ⟨by rw [r1'.length, sizeLine_eq]; omega, fun p o np ko => ?_⟩
      obtain ⟨e, rr⟩ := rep_tup e1.sub np ko r1'
      exact q _ _ _ (e1.trans e) rr
    · rw [if_neg hl] at q; exact q.elim
theorem v_lst (h : PA X es (tA G K .sh E κ f)) : PE X (.List es pos) (tE G K .fr E κ (eLst f)) := pe_weak (pe_lst h) fun σ H Q ⟨F, τ, l, q⟩ => by
  refine ⟨F, τ, l, ?_⟩
  unfold eLst at q
  cases hf : f τ with
  | exc c ps => rw [hf] at q; exact q
  | bad => rw [hf] at q; exact q
  | ok ps =>
    rw [hf, Res.ok_bind] at q
    intro vs F1 H1 e1 r1
    have r1' := r1.shared
    by_cases hl : ps.length ≤ 1000
    · rw [if_pos hl] at q
      refine ⟨by rw [r1'.length, sizeLine_eq]; omega, fun p np => ?_⟩
      obtain ⟨e, rr⟩ := frs_new e1.sub np r1'
      exact q _ _ _ (e1.trans e) (rr.before e1.h)
    · rw [if_neg hl] at q; exact q.elim

/-! ### places and slices -/
theorem Reps.atI {vs : List V} {ps : List PV} {i : Int} (r : Reps G K F vs ps) {p : PV} (h : L2.atI ps i = some p) : ∃ v, L2.atI vs i = some v ∧ Rep G K F v p := by
  unfold L2.atI at h ⊢
  rw [r.length]
  cases hj : ixN ps.length i with
  | none => rw [hj] at h; cases h
  | some j =>
    rw [hj] at h
    obtain ⟨v, e, rr⟩ := r.get (show ps[j]? = some p from h)
    exact ⟨v, e, rr⟩
def pIx : PV → PV → Option PV
  | .lst xs, .int i => atI xs i
  | .tup xs, .int i => atI xs i
  | .scr xs, .int i => (atI xs i).map .int
  | .str z, .int i => if z.length ≤ sizeLine then (atI z.cps.toList i).map fun c => .str ⟨#[c]⟩ else none
  | _, _ => none
theorem atI_map {α β : Type} (g : α → β) (xs : List α) (i : Int) : atI (xs.map g) i = (atI xs i).map g := by
  unfold atI
  rw [List.length_map]
  cases ixN xs.length i with
  | none => rfl
  | some j => simp
theorem g_ix : OpV G K (rIx K) .sh pIx := by
  intro F H x y p q z Q s rx ry hz k
  unfold pIx at hz
  split at hz
  · obtain ⟨a, vs, rfl, h, rr⟩ := rx.lst_inv s
    obtain rfl := ry.int_inv
    obtain ⟨v, e, r⟩ := rr.atI hz
    exact .inl ⟨a, vs, _, v, rfl, rfl, .inl h, e, k _ F H (Ext.refl s) r⟩
  · obtain ⟨a, vs, rfl, h, rr⟩ := rx.tup_inv s
    obtain rfl := ry.int_inv
    obtain ⟨v, e, r⟩ := rr.atI hz
    exact .inr (.inl ⟨a, vs, _, v, rfl, rfl, h, e, k _ F H (Ext.refl s) r⟩)
  · obtain ⟨a, rfl, h⟩ := rx.scr_inv s
    obtain rfl := ry.int_inv
    rename_i ns i
    cases hj : atI ns i with
    | none => rw [hj] at hz; cases hz
    | some n =>
      rw [hj] at hz
      cases hz
      exact .inl ⟨a, _, _, .int n, rfl, rfl, h, by rw [atI_map, hj]; rfl, k _ F H (Ext.refl s) (.int _)⟩
  · obtain rfl := rx.str_inv
    obtain rfl := ry.int_inv
    split at hz
    · rename_i zz i hl
      cases hj : atI zz.cps.toList i with
      | none => rw [hj] at hz; cases hz
      | some n =>
        rw [hj] at hz
        cases hz
        exact .inr (.inr ⟨_, _, n, rfl, rfl, hl, hj, k _ F H (Ext.refl s) (.str _)⟩)
    · cases hz
  · cases hz
variable {h1 h2 : LE → Res PV}
theorem v_ix (ha : PE X a (tE G X.K .top E κ h1)) (hb : PE X b (tE G X.K .top E κ h2)) (hs : PlainIx b := by intro _ _; rfl) : PE X (.Subscript a b pos) (tE G X.K .sh E κ (e2 pIx h1 h2)) :=
  pe_weak (pe_ix ix_seq ha hb hs) fun _ _ _ h => w_op g_ix h
/-- the bound of a slice -/
def tO (E : St → XK) (κ : Kd) (G : Nat → Addr) (K : PySem.W.Frag) (f : LE → Res (Option Int)) : TO := fun σ H Q => ∃ F τ, Lc G K κ F H σ τ ∧ match f τ with
  | .ok o => ∀ F' H', Ext F H F' H' → Q o H'
  | .exc c ps => ExcOk G K (E σ) F H c ps
  | .bad => False
def oNone : LE → Res (Option Int) := fun _ => .ok none
def oSome (f : LE → Res PV) : LE → Res (Option Int) := fun τ => f τ >>= fun p => match p with
  | .int i => .ok (some i)
  | _ => .bad
theorem po_weak {e : Option Expr} {t t' : TO} (h : PO X e t) (w : ∀ σ H Q, t' σ H Q → t σ H Q) : PO X e t' := ⟨fun pins s σ H Q I q => h.run pins s σ H Q I (w σ H Q q)⟩
theorem o_none : PO X none (tO E κ G K oNone) := po_weak po_none fun σ H Q ⟨F, τ, l, q⟩ => q F H (Ext.refl l.sub)
theorem o_some (h : PE X e (tE G K .sh E κ h1)) : PO X (some e) (tO E κ G K (oSome h1)) := po_weak (po_some h) fun σ H Q ⟨F, τ, l, q⟩ => by
  refine ⟨F, τ, l, ?_⟩
  unfold oSome at q
  cases hf : h1 τ with
  | exc c ps => rw [hf] at q; exact q
  | bad => rw [hf] at q; exact q
  | ok p =>
    rw [hf, Res.ok_bind] at q
    intro v F1 H1 e1 r1
    cases p with
    | int i => exact ⟨i, Rep.int_inv r1, q F1 H1 e1⟩
    | _ => exact q.elim
def cut {α : Type} (xs : List α) (lo hi : Option Int) : List α := (xs.drop (HT.sIx xs.length 0 lo)).take (HT.sIx xs.length xs.length hi - HT.sIx xs.length 0 lo)
def pSl (p : PV) (lo hi : Option Int) : Option PV := match p with
  | .tup xs => some (.tup (cut xs lo hi))
  | .str z => if z.length ≤ sizeLine then some (.str (cutS z lo hi)) else none
  | _ => none
def pSlL (p : PV) (lo hi : Option Int) : Option PV := match p with
  | .lst xs => some (.lst (cut xs lo hi))
  | _ => none
def SlV (r : V → Option Int → Option Int → Hp → VK → Prop) (m : Mode) (G : Nat → Addr) (K : PySem.W.Frag) (g : PV → Option Int → Option Int → Option PV) : Prop := ∀ (F H : Hp) (x : V) (p z : PV) (lo hi : Option Int) (Q : VK), Same F H → Top G K F H x p → g p lo hi = some z →
  (∀ v F' H', Ext F H F' H' → RM G K m H F' H' v z → Q v H') → r x lo hi H Q
theorem Reps.cut {vs : List V} {ps : List PV} (r : Reps G K F vs ps) (lo hi : Option Int) : Reps G K F (cutV vs lo hi) (Lp.cut ps lo hi) := by
  unfold cutV Lp.cut
  rw [r.length]
  exact Reps.take _ (Reps.drop _ r)
def rSlV (K : PySem.W.Frag) : V → Option Int → Option Int → Hp → VK → Prop := fun x lo hi H Q => Lk.rSlK K x lo hi H Q ∨ rSlS x lo hi H Q
theorem sl_V : SlR X (rSlV X.K) := SlR.or Lk.sl_tupK sl_str
theorem g_sl : SlV (rSlV K) .sh G K pSl := by
  intro F H x p z lo hi Q s rx hz k
  unfold pSl at hz
  split at hz
  · rcases rx with rx | ⟨_, _, _, o⟩
    · obtain ⟨a, vs, rfl, h, rr⟩ := rx.tup_invK
      cases hz
      refine .inl ⟨a, vs, rfl, Same.sqt s h.sqt, fun hw => k _ F H (Ext.refl s) ?_, fun _ p o np ko => ?_⟩
      · have e : cutV vs lo hi = vs := by
          unfold cutV
          rw [hw.1, hw.2, List.drop_zero, Nat.sub_zero, List.take_length]
        have r2 := rr.cut lo hi
        rw [e] at r2
        exact .tup h r2
      · obtain ⟨e, r⟩ := rep_tup s np ko (rr.cut lo hi)
        exact k _ _ _ e r
    · exact o.elim
  · obtain rfl := rx.str_inv
    split at hz
    · rename_i hl
      cases hz
      exact .inr ⟨_, rfl, hl, k _ F H (Ext.refl s) (.str _)⟩
    · cases hz
  · cases hz
theorem g_slL : SlV (rSlL K) .fr G K pSlL := by
  intro F H x p z lo hi Q s rx hz k
  unfold pSlL at hz
  split at hz
  · obtain ⟨a, vs, rfl, h, rr⟩ := rx.lst_inv s
    cases hz
    exact ⟨a, vs, rfl, .inl h, fun l nl => let ⟨e, f⟩ := frs_new s nl (rr.cut lo hi); k _ _ _ e f⟩
  · cases hz
def eSl (g : PV → Option Int → Option Int → Option PV) (f : LE → Res PV) (lo hi : LE → Res (Option Int)) : LE → Res PV := fun τ => f τ >>= fun p => lo τ >>= fun l => hi τ >>= fun h => up (g p l h)
theorem v_slice {r : V → Option Int → Option Int → Hp → VK → Prop} {g : PV → Option Int → Option Int → Option PV} {lo hi : Option Expr} {fl fh : LE → Res (Option Int)} {p2 : Pos} (hr : SlR X r) (hg : SlV r m G K g) (he : PE X e (tE G K .top E κ h1)) (hl : PO X lo (tO E κ G K fl)) (hh : PO X hi (tO E κ G K fh)) :
    PE X (.Subscript e (.Slice lo hi none p2) pos) (tE G K m E κ (eSl g h1 fl fh)) := pe_weak (pe_slice hr he hl hh) fun σ H Q ⟨F, τ, l, q⟩ => by
  refine ⟨F, τ, l, ?_⟩
  unfold eSl at q
  cases hf : h1 τ with
  | exc c ps => rw [hf] at q; exact q
  | bad => rw [hf] at q; exact q
  | ok p =>
    rw [hf] at q
    intro v F1 H1 e1 r1
    refine ⟨F1, τ, l.ext e1, ?_⟩
    cases hfl : fl τ with
    | exc c ps => rw [Res.ok_bind, hfl] at q; exact ExcOk.ext q e1
    | bad => rw [Res.ok_bind, hfl] at q; exact q
    | ok lo =>
      rw [Res.ok_bind, hfl] at q
      intro F2 H2 e2
      refine ⟨F2, τ, (l.ext e1).ext e2, ?_⟩
      cases hfh : fh τ with
      | exc c ps => rw [Res.ok_bind, hfh] at q; exact ExcOk.ext q (e1.trans e2)
      | bad => rw [Res.ok_bind, hfh] at q; exact q
      | ok hi =>
        rw [Res.ok_bind, hfh, Res.ok_bind] at q
        intro F3 H3 e3
        have ee := (e1.trans e2).trans e3
        cases hz : g p lo hi with
        | none => rw [hz] at q; exact q.elim
        | some z =>
          rw [hz] at q
          exact hg F3 H3 v p z lo hi Q e3.sub (Top.ext r1 (e2.trans e3)) hz fun w F4 H4 e4 r4 => q w F4 H4 (ee.trans e4) (r4.before ee.h)
end
end Lp
end
section
set_option Elab.async false
set_option linter.all false
set_option maxRecDepth 100000
namespace Lp
open PySem PySem.Spec L2

section
variable (G : Nat → Addr) (K : PySem.W.Frag)
/-- what J yields, one by one: B is what the container leans on, F0 what the items lean on -/
structure Itp (J : It) (B F0 : Hp) (ps : List PV) : Prop where
  len : ps.length ≤ sizeLine
  go : ∀ i H, Same B H → i < ps.length → J.go i H
  stop : ∀ H, Same B H → J.stop ps.length H
  yld : ∀ i x H H' F p, Same B H → Same F0 F → Same F H → J.yld i H x H' → ps[i]? = some p → ∃ F2, Ext F H F2 H' ∧ Rep G K F2 x p
def tI (sh : Bool) (E : St → XK) (κ : Kd) (f : LE → Res (List PV)) : TI := fun σ H R => ∃ F τ, Lc G K κ F H σ τ ∧ match f τ with
  | .ok ps => ∀ J F' H', Ext F H F' H' → Itp G K J (if sh = true then F' else H') F' ps → R J H'
  | .exc c ps => ExcOk G K (E σ) F H c ps
  | .bad => False
/-- a target: the slots at ws may change -/
def tG (ws : List Nat) (E : St → XK) (κ : Kd) (g : PV → LE → Res LE) : TG := fun v σ H Q => ∃ F τ p, Lc G K κ F H σ τ ∧ Rep G K F v p ∧ match g p τ with
  | .ok τ' => ∀ σ', Lc G K κ F H σ' τ' → (∀ j, j ∉ ws → σ'[j]? = σ[j]?) → Q σ' H
  | .exc c ps => ExcOk G K (E σ) F H c ps
  | .bad => False
def tGs (ws : List Nat) (E : St → XK) (κ : Kd) (g : List PV → LE → Res LE) : TGs := fun vs σ H Q => ∃ F τ ps, Lc G K κ F H σ τ ∧ Reps G K F vs ps ∧ match g ps τ with
  | .ok τ' => ∀ σ', Lc G K κ F H σ' τ' → (∀ j, j ∉ ws → σ'[j]? = σ[j]?) → Q σ' H
  | .exc c ps => ExcOk G K (E σ) F H c ps
  | .bad => False
end
section
variable {G : Nat → Addr} {K : PySem.W.Frag} {F H F' H' F0 H0 B : Hp} {X : Cx} {v x y : V} {p : PV} {κ : Kd} {E : St → XK} {m md : Mode} {e a b tg : Expr} {es : List Expr} {pos : Pos} {σ : St} {τ : LE}

/-! ### targets -/
theorem Lc.set {i : Nat} (l : Lc G K κ F H σ τ) (k : κ i = false) (hi : i < τ.length) (r : Rep G K F v p) : Lc G K κ F H (σ.set i (some v)) (τ.set i (some p)) := by
  refine ⟨l.sub, by rw [List.length_set, List.length_set]; exact l.len, fun j q h1 h2 => ?_, fun j q h1 h2 => ?_, fun j1 j2 q1 q2 a h1 h2 h3 h4 h5 h6 => ?_⟩
  · by_cases hj : i = j
    · subst hj
      rw [List.getElem?_set_self hi] at h1
      cases h1
      exact ⟨v, List.getElem?_set_self (by rw [l.len]; exact hi), r⟩
    · rw [List.getElem?_set_ne hj] at h1
      rw [List.getElem?_set_ne hj]
      exact l.sh j q h1 h2
  · have hj : i ≠ j := fun e => by subst e; rw [k] at h2; cases h2
    rw [List.getElem?_set_ne hj] at h1
    rw [List.getElem?_set_ne hj]
    exact l.ow j q h1 h2
  · have n1 : i ≠ j1 := fun e => by subst e; rw [k] at h1; cases h1
    have n2 : i ≠ j2 := fun e => by subst e; rw [k] at h2; cases h2
    rw [List.getElem?_set_ne n1] at h3 h5
    rw [List.getElem?_set_ne n2] at h4 h6
    exact l.ap j1 j2 q1 q2 a h1 h2 h3 h4 h5 h6
def gNm (i : Nat) : PV → LE → Res LE := fun p τ => if i < τ.length then .ok (τ.set i (some p)) else .bad
theorem gv_name (i : Nat) {x : Str} (k : κ i = false := by rfl) (hN : X.N.Nodup) (hi : X.N[i]? = some x := by rfl) (hx : Loc X.env.scope x := by first | exact .inl rfl | exact .inr rfl) (hf : X.fn x = true ∨ X.env.scope.names.lookup x = some .local := by first | exact .inl rfl | exact .inr rfl | assumption) :
    PG X (.Name x pos) (tG G K [i] E κ (gNm i)) := ⟨fun pins s σ H v u Q I r h => by
  refine (pg_name hN hi hx hf).run pins s σ H v u Q I r ?_
  obtain ⟨F, τ, p, l, rp, q⟩ := h
  unfold gNm at q
  by_cases hl : i < τ.length
  · rw [if_pos hl] at q
    exact q _ (l.set k hl rp) fun j hj => List.getElem?_set_ne fun e => hj (by simp [e])
  · rw [if_neg hl] at q; exact q.elim⟩
def gsN : List PV → LE → Res LE := fun ps τ => match ps with
  | [] => .ok τ
  | _ => .bad
def gsC (g : PV → LE → Res LE) (gs : List PV → LE → Res LE) : List PV → LE → Res LE := fun ps τ => match ps with
  | [] => .bad
  | p :: ps => g p τ >>= fun τ' => gs ps τ'
theorem gvs_nil : PGs X [] (tGs G K [] E κ gsN) := ⟨fun pins s σ H vs us Q I r h => by
  refine pgs_nil.run pins s σ H vs us Q I r ?_
  obtain ⟨F, τ, ps, l, rp, q⟩ := h
  cases rp with
  | nil => exact ⟨rfl, q σ l fun _ _ => rfl⟩
  | cons _ _ => exact q.elim⟩
theorem gvs_cons {ws1 ws2 : List Nat} {g : PV → LE → Res LE} {gs : List PV → LE → Res LE} (h1 : PG X e (tG G K ws1 E κ g)) (h2 : PGs X es (tGs G K ws2 E κ gs)) (hE : ∀ σ σ', E σ' = E σ)
    (hs : (assignEach (e :: es) X.env).map (·.2) = assign e X.env :: (assignEach es X.env).map (·.2) := by rfl) : PGs X (e :: es) (tGs G K (ws1 ++ ws2) E κ (gsC g gs)) := ⟨fun pins s σ H vs us Q I r h => by
  refine (pgs_cons h1 h2 hs).run pins s σ H vs us Q I r ?_
  obtain ⟨F, τ, ps, l, rp, q⟩ := h
  cases rp with
  | nil => exact q.elim
  | cons r0 rs =>
    rename_i v0 vr p0 pr
    refine ⟨v0, vr, rfl, F, τ, p0, l, r0, ?_⟩
    unfold gsC at q
    cases hg : g p0 τ with
    | exc c ps => simp only [hg] at q; exact q
    | bad => simp only [hg] at q; exact q
    | ok τ' =>
      simp only [hg, Res.ok_bind] at q
      intro σ' l' k'
      refine ⟨F, τ', pr, l', rs, ?_⟩
      cases hg2 : gs pr τ' with
      | exc c ps => rw [hg2] at q; rw [hE σ σ']; exact q
      | bad => rw [hg2] at q; exact q
      | ok τ'' =>
        rw [hg2] at q
        exact fun σ'' l'' k'' => q σ'' l'' fun j hj => by
          rw [List.mem_append, not_or] at hj
          rw [k'' j hj.2, k' j hj.1]⟩
def gTp (gs : List PV → LE → Res LE) (n : Nat) : PV → LE → Res LE := fun p τ => match p with
  | .tup ps => if ps.length = n then gs ps τ else .bad
  | .itm ps => if ps.length = n then gs ps τ else .bad
  | _ => .bad
theorem gv_tup {ws : List Nat} {k n : Nat} {gs : List PV → LE → Res LE} (hc : X.calm = true) (h : PGs X es (tGs G X.K ws E κ gs)) (hn : (assignEach es X.env).length = n := by rfl) (hst : (assignEach es X.env).findIdx? (·.1) = none := by rfl) :
    PG X (.Tuple es k pos) (tG G X.K ws E κ (gTp gs n)) := ⟨fun pins s σ H v u Q I r h' => by
  refine (pg_tup hc h hn hst).run pins s σ H v u Q I r ?_
  obtain ⟨F, τ, p, l, rp, q⟩ := h'
  cases p with
  | tup ps =>
    unfold gTp at q
    obtain ⟨a, vs, rfl, hS, rr⟩ := rp.tup_inv
    by_cases hl : ps.length = n
    · simp only [if_pos hl] at q
      exact ⟨a, vs, rfl, Same.sqt l.sub hS, by rw [rr.length]; exact hl, F, τ, ps, l, rr, q⟩
    · simp only [if_neg hl] at q
  | itm ps =>
    unfold gTp at q
    obtain ⟨a, vs, rfl, hS, rr⟩ := rp.itm_inv
    by_cases hl : ps.length = n
    · simp only [if_pos hl] at q
      exact ⟨a, vs, rfl, Same.sqt l.sub hS, by rw [rr.length]; exact hl, F, τ, ps, l, rr, q⟩
    · simp only [if_neg hl] at q
  | _ => exact q.elim⟩

/-! ### what is walked -/
theorem Itp.list {a : Addr} {vs : List V} {ps : List PV} (hB : SqL K B a vs) (r : Reps G K F0 vs ps) (hl : vs.length ≤ sizeLine) : Itp G K (Itl K a) B F0 ps where
  len := by rw [← r.length]; exact hl
  go i H s hi := by
    obtain ⟨v, e, _⟩ := r.get (List.getElem?_eq_getElem hi)
    exact ⟨vs, v, Same.seq s hB, e⟩
  stop H s := ⟨vs, Same.seq s hB, by rw [r.length]; exact Nat.le_refl _⟩
  yld i x H H' F p s s0 sF hy hp := by
    obtain ⟨rfl, hx⟩ := hy
    obtain ⟨v, e, rv⟩ := r.get hp
    have := (hx vs (Same.seq s hB)).symm.trans e
    cases this
    exact ⟨F, Ext.refl sF, rv.mono s0⟩
theorem Itp.tup {a : Addr} {vs : List V} {ps : List PV} (hB : SqT K B a vs) (r : Reps G K F0 vs ps) (hl : vs.length ≤ sizeLine) : Itp G K (Itt K a) B F0 ps where
  len := by rw [← r.length]; exact hl
  go i H s hi := by
    obtain ⟨v, e, _⟩ := r.get (List.getElem?_eq_getElem hi)
    exact ⟨vs, v, Same.sqt s hB, e⟩
  stop H s := ⟨vs, Same.sqt s hB, by rw [r.length]; exact Nat.le_refl _⟩
  yld i x H H' F p s s0 sF hy hp := by
    obtain ⟨rfl, hx⟩ := hy
    obtain ⟨v, e, rv⟩ := r.get hp
    have := (hx vs (Same.sqt s hB)).symm.trans e
    cases this
    exact ⟨F, Ext.refl sF, rv.mono s0⟩
def signsP (z : Str) : List PV := z.cps.toList.map fun c => .str ⟨#[c]⟩
theorem Itp.str {z : Str} (hl : z.length ≤ sizeLine) : Itp G K (Its z) B F0 (signsP z) where
  len := by unfold signsP; rw [List.length_map, Array.length_toList]; exact hl
  go i H s hi := by unfold signsP at hi; rw [List.length_map, Array.length_toList] at hi; exact hi
  stop H s := by unfold signsP; rw [List.length_map, Array.length_toList]; exact Nat.le_refl _
  yld i x H H' F p s s0 sF hy hp := by
    obtain ⟨rfl, c, hc, rfl⟩ := hy
    unfold signsP at hp
    rw [List.getElem?_map, Array.getElem?_toList, hc] at hp
    cases hp
    exact ⟨F, Ext.refl sF, .str _⟩
theorem Itp.range {lo : Int} {n : Nat} (hl : n ≤ sizeLine) : Itp G K (Itr lo n) B F0 ((List.range n).map fun i => .int (lo + (i : Nat))) where
  len := by simpa using hl
  go i H s hi := by have h : i < n := by simpa using hi
                    exact h
  stop H s := by show n ≤ _; simp
  yld i x H H' F p s s0 sF hy hp := by
    obtain ⟨rfl, rfl⟩ := hy
    rw [List.getElem?_map] at hp
    by_cases hi : i < n
    · rw [List.getElem?_range hi] at hp
      cases hp
      exact ⟨F, Ext.refl sF, .int _⟩
    · rw [List.getElem?_eq_none (by simpa using hi)] at hp; cases hp
theorem Itp.rangeC {lo c : Int} {n : Nat} (hl : n ≤ sizeLine) : Itp G K (Itc lo c n) B F0 ((List.range n).map fun i => .int (lo + (i : Nat) * c)) where
  len := by simpa using hl
  go i H s hi := by have h : i < n := by simpa using hi
                    exact h
  stop H s := by show n ≤ _; simp
  yld i x H H' F p s s0 sF hy hp := by
    obtain ⟨rfl, rfl⟩ := hy
    rw [List.getElem?_map] at hp
    by_cases hi : i < n
    · rw [List.getElem?_range hi] at hp
      cases hp
      exact ⟨F, Ext.refl sF, .int _⟩
    · rw [List.getElem?_eq_none (by simpa using hi)] at hp; cases hp
def enumP (ps : List PV) : List PV := ps.zipIdx.map fun x => .itm [.int (x.2 : Nat), x.1]
theorem enumP_get {ps : List PV} {i : Nat} {p : PV} (h : (enumP ps)[i]? = some p) : ∃ q, ps[i]? = some q ∧ p = .itm [.int (i : Nat), q] := by
  unfold enumP at h
  rw [List.getElem?_map, List.getElem?_zipIdx] at h
  cases e : ps[i]? with
  | none => rw [e] at h; cases h
  | some q => rw [e] at h; simp at h; exact ⟨q, rfl, h.symm⟩
theorem rep_pair {T : Addr} {x y : V} {p q : PV} (sF : Same F H) (nT : H T = none) (rx : Rep G K F x p) (ry : Rep G K F y q) : ∃ F2, Ext F H F2 (upd H T (.tup [x, y])) ∧ Rep G K F2 (.ref T) (.itm [p, q]) :=
  ⟨_, Ext.push _ (Ext.refl sF) nT, .itm (.inl (.inl upd_same)) (Reps.mono (same_new (Same.free sF nT)) (.cons rx (.cons ry .nil)))⟩
theorem Itp.enum {a : Addr} {vs : List V} {ps : List PV} (hB : SqL K B a vs) (r : Reps G K F0 vs ps) (hl : vs.length ≤ sizeLine) : Itp G K (Ite K a) B F0 (enumP ps) where
  len := by unfold enumP; simp; rw [← r.length]; exact hl
  go i H s hi := by
    have hi' : i < ps.length := by unfold enumP at hi; simpa using hi
    obtain ⟨v, e, _⟩ := r.get (List.getElem?_eq_getElem hi')
    exact ⟨vs, v, Same.seq s hB, e⟩
  stop H s := ⟨vs, Same.seq s hB, by unfold enumP; simp; rw [r.length]; exact Nat.le_refl _⟩
  yld i x H H' F p s s0 sF hy hp := by
    obtain ⟨T, x', rfl, nT, rfl, hx⟩ := hy
    obtain ⟨q, hq, rfl⟩ := enumP_get hp
    obtain ⟨v, e, rv⟩ := r.get hq
    have := (hx vs (Same.seq s hB)).symm.trans e
    cases this
    exact rep_pair sF nT (.int _) (rv.mono s0)
theorem Itp.enumT {a : Addr} {vs : List V} {ps : List PV} (hB : SqT K B a vs) (r : Reps G K F0 vs ps) (hl : vs.length ≤ sizeLine) : Itp G K (IteT K a) B F0 (enumP ps) where
  len := by unfold enumP; simp; rw [← r.length]; exact hl
  go i H s hi := by
    have hi' : i < ps.length := by unfold enumP at hi; simpa using hi
    obtain ⟨v, e, _⟩ := r.get (List.getElem?_eq_getElem hi')
    exact ⟨vs, v, Same.sqt s hB, e⟩
  stop H s := ⟨vs, Same.sqt s hB, by unfold enumP; simp; rw [r.length]; exact Nat.le_refl _⟩
  yld i x H H' F p s s0 sF hy hp := by
    obtain ⟨T, x', rfl, nT, rfl, hx⟩ := hy
    obtain ⟨q, hq, rfl⟩ := enumP_get hp
    obtain ⟨v, e, rv⟩ := r.get hq
    have := (hx vs (Same.sqt s hB)).symm.trans e
    cases this
    exact rep_pair sF nT (.int _) (rv.mono s0)
def zipP (ps qs : List PV) : List PV := (ps.zip qs).map fun x => .itm [x.1, x.2]
theorem zipP_get {ps qs : List PV} {i : Nat} {p : PV} (h : (zipP ps qs)[i]? = some p) : ∃ a b, ps[i]? = some a ∧ qs[i]? = some b ∧ p = .itm [a, b] := by
  unfold zipP at h
  rw [List.getElem?_map] at h
  cases e : (ps.zip qs)[i]? with
  | none => rw [e] at h; cases h
  | some q =>
    rw [e] at h
    simp at h
    rw [List.getElem?_zip_eq_some] at e
    exact ⟨q.1, q.2, e.1, e.2, h.symm⟩
theorem zipP_len (ps qs : List PV) : (zipP ps qs).length = min ps.length qs.length := by unfold zipP; simp
theorem Itp.zip {a b : Addr} {vs ws : List V} {ps qs : List PV} (hB : SqL K B a vs) (hB2 : SqL K B b ws) (r : Reps G K F0 vs ps) (r2 : Reps G K F0 ws qs) (hl : ps.length ≤ sizeLine) : Itp G K (Itz K a b) B F0 (zipP ps qs) where
  len := by rw [zipP_len]; omega
  go i H s hi := by
    rw [zipP_len] at hi
    obtain ⟨v, e, _⟩ := r.get (List.getElem?_eq_getElem (show i < ps.length by omega))
    obtain ⟨v2, e2, _⟩ := r2.get (List.getElem?_eq_getElem (show i < qs.length by omega))
    exact ⟨vs, ws, v, v2, Same.seq s hB, Same.seq s hB2, e, e2⟩
  stop H s := ⟨vs, ws, Same.seq s hB, Same.seq s hB2, by rw [zipP_len, r.length, r2.length]; omega⟩
  yld i x H H' F p s s0 sF hy hp := by
    obtain ⟨T, x', y', rfl, nT, rfl, hx, hy⟩ := hy
    obtain ⟨c, d, hc, hd, rfl⟩ := zipP_get hp
    obtain ⟨v, e, rv⟩ := r.get hc
    obtain ⟨v2, e2, rv2⟩ := r2.get hd
    have := (hx vs (Same.seq s hB)).symm.trans e
    cases this
    have := (hy ws (Same.seq s hB2)).symm.trans e2
    cases this
    exact rep_pair sF nT (rv.mono s0) (rv2.mono s0)
theorem Itp.zipT {a b : Addr} {vs ws : List V} {ps qs : List PV} (hB : SqT K B a vs) (hB2 : SqT K B b ws) (r : Reps G K F0 vs ps) (r2 : Reps G K F0 ws qs) (hl : ps.length ≤ sizeLine) : Itp G K (RZ.ItzT K a b) B F0 (zipP ps qs) where
  len := by rw [zipP_len]; omega
  go i H s hi := by
    rw [zipP_len] at hi
    obtain ⟨v, e, _⟩ := r.get (List.getElem?_eq_getElem (show i < ps.length by omega))
    obtain ⟨v2, e2, _⟩ := r2.get (List.getElem?_eq_getElem (show i < qs.length by omega))
    exact ⟨vs, ws, v, v2, Same.sqt s hB, Same.sqt s hB2, e, e2⟩
  stop H s := ⟨vs, ws, Same.sqt s hB, Same.sqt s hB2, by rw [zipP_len, r.length, r2.length]; omega⟩
  yld i x H H' F p s s0 sF hy hp := by
    obtain ⟨T, x', y', rfl, nT, rfl, hx, hy⟩ := hy
    obtain ⟨c, d, hc, hd, rfl⟩ := zipP_get hp
    obtain ⟨v, e, rv⟩ := r.get hc
    obtain ⟨v2, e2, rv2⟩ := r2.get hd
    have := (hx vs (Same.sqt s hB)).symm.trans e
    cases this
    have := (hy ws (Same.sqt s hB2)).symm.trans e2
    cases this
    exact rep_pair sF nT (rv.mono s0) (rv2.mono s0)
theorem Itp.sub {J : It} {B' : Hp} {ps : List PV} (h : Itp G K J B F0 ps) (s : Same B B') : Itp G K J B' F0 ps :=
  ⟨h.len, fun i H s' => h.go i H (s.trans s'), fun H s' => h.stop H (s.trans s'), fun i x H H' F p s' => h.yld i x H H' F p (s.trans s')⟩

theorem pi_weak {t t' : TI} (h : PI X tg e t) (w : ∀ σ H R, t' σ H R → t σ H R) : PI X tg e t' := ⟨fun pins s σ H Q I q => h.run pins s σ H Q I (w σ H Q q)⟩
def itemsOf : PV → Option (List PV)
  | .lst xs => some xs
  | .tup xs => some xs
  | .str z => if z.length ≤ sizeLine then some (signsP z) else none
  | _ => none
def iSeq (f : LE → Res PV) : LE → Res (List PV) := fun τ => f τ >>= fun p => up (itemsOf p)
theorem i_seq {f : LE → Res PV} (h : PE X e (tE G X.K .sh E κ f)) : PI X tg e (tI G X.K true E κ (iSeq f)) := pi_weak (pi_any h) fun σ H R ⟨F, τ, l, q⟩ => by
  refine ⟨F, τ, l, ?_⟩
  unfold iSeq at q
  cases hf : f τ with
  | exc c ps => rw [hf] at q; exact q
  | bad => rw [hf] at q; exact q
  | ok p =>
    rw [hf, Res.ok_bind] at q
    intro v F1 H1 e1 r1
    cases p with
    | lst xs =>
      obtain ⟨a, vs, rfl, hS, rr⟩ := Rep.lst_inv r1
      exact .inl ⟨a, vs, rfl, .inl (Same.rd e1.sub hS), fun hl => q _ F1 H1 e1 (Itp.list (.inl hS) rr hl)⟩
    | tup xs =>
      obtain ⟨a, vs, rfl, hS, rr⟩ := Rep.tup_inv r1
      exact .inr (.inl ⟨a, vs, rfl, Same.sqt e1.sub hS, fun hl => q _ F1 H1 e1 (Itp.tup hS rr hl)⟩)
    | str z =>
      obtain rfl := Rep.str_inv r1
      unfold itemsOf at q
      by_cases hl : z.length ≤ sizeLine
      · simp only [if_pos hl, up_some] at q
        exact .inr (.inr ⟨z, rfl, q _ F1 H1 e1 (Itp.str hl)⟩)
      · simp only [if_neg hl, up_none] at q
    | _ => exact q.elim
/-- a list that a slot owns: for a comprehension -/
theorem i_own {f : LE → Res PV} (h : PE X e (tE G X.K .top E κ f)) : PI X tg e (tI G X.K false E κ (iSeq f)) := pi_weak (pi_any h) fun σ H R ⟨F, τ, l, q⟩ => by
  refine ⟨F, τ, l, ?_⟩
  unfold iSeq at q
  cases hf : f τ with
  | exc c ps => rw [hf] at q; exact q
  | bad => rw [hf] at q; exact q
  | ok p =>
    rw [hf, Res.ok_bind] at q
    intro v F1 H1 e1 r1
    cases p with
    | lst xs =>
      obtain ⟨a, vs, rfl, hS, rr⟩ := Top.lst_inv e1.sub r1
      exact .inl ⟨a, vs, rfl, .inl hS, fun hl => q _ F1 H1 e1 (Itp.list (.inl hS) rr hl)⟩
    | tup xs =>
      obtain ⟨a, vs, rfl, hS, rr⟩ := Top.tup_inv e1.sub r1
      exact .inr (.inl ⟨a, vs, rfl, hS, fun hl => q _ F1 H1 e1 (Itp.tup hS rr hl)⟩)
    | str z =>
      obtain rfl := Top.str_inv r1
      unfold itemsOf at q
      by_cases hl : z.length ≤ sizeLine
      · simp only [if_pos hl, up_some] at q
        exact .inr (.inr ⟨z, rfl, q _ F1 H1 e1 (Itp.str hl)⟩)
      · simp only [if_neg hl, up_none] at q
    | _ => exact q.elim
theorem i_loose {f : LE → Res (List PV)} (h : PI X tg e (tI G K true E κ f)) : PI X tg e (tI G K false E κ f) := pi_weak h fun σ H R ⟨F, τ, l, q⟩ => by
  refine ⟨F, τ, l, ?_⟩
  cases hf : f τ with
  | exc c ps => rw [hf] at q; exact q
  | bad => rw [hf] at q; exact q
  | ok ps => rw [hf] at q; exact fun J F' H' e1 i1 => q J F' H' e1 (by simpa using Itp.sub (by simpa using i1) e1.sub)
def iFn (g : List PV → Option (List PV)) (f : LE → Res (List PV)) : LE → Res (List PV) := fun τ => f τ >>= fun ps => up (g ps)
/-- a walk over what is reckoned from arguments -/
def IfV (r : List V → Hp → (It → Hp → Prop) → Prop) (G : Nat → Addr) (K : PySem.W.Frag) (g : List PV → Option (List PV)) : Prop := ∀ (F H : Hp) (xs : List V) (ps zs : List PV) (R : It → Hp → Prop), Same F H → Reps G K F xs ps → g ps = some zs →
  (∀ J, Itp G K J F F zs → R J H) → r xs H R
theorem w_ifn {r : List V → Hp → (It → Hp → Prop) → Prop} {g : List PV → Option (List PV)} {f : LE → Res (List PV)} (hg : IfV r G K g) {R : It → Hp → Prop} (h : tI G K true E κ (iFn g f) σ H R) : tA G K .sh E κ f σ H fun vs H1 => r vs H1 R := by
  obtain ⟨F, τ, l, q⟩ := h
  refine ⟨F, τ, l, ?_⟩
  unfold iFn at q
  cases hf : f τ with
  | exc c ps => rw [hf] at q; exact q
  | bad => rw [hf] at q; exact q
  | ok ps =>
    rw [hf, Res.ok_bind] at q
    intro vs F1 H1 e1 r1
    cases hz : g ps with
    | none => rw [hz] at q; exact q.elim
    | some zs =>
      rw [hz] at q
      exact hg F1 H1 vs ps zs R e1.sub r1.shared hz fun J i1 => q J F1 H1 e1 (by simpa using i1)
theorem Reps.one {q : PV} {xs : List V} (h : Reps G K F xs [q]) : ∃ v, xs = [v] ∧ Rep G K F v q := by
  cases h with
  | cons r rs => cases rs; exact ⟨_, rfl, r⟩
theorem Reps.two {q q' : PV} {xs : List V} (h : Reps G K F xs [q, q']) : ∃ v w, xs = [v, w] ∧ Rep G K F v q ∧ Rep G K F w q' := by
  cases h with
  | cons r rs =>
    cases rs with
    | cons r' rs => cases rs; exact ⟨_, _, rfl, r, r'⟩
theorem Reps.three {q q' q'' : PV} {xs : List V} (h : Reps G K F xs [q, q', q'']) : ∃ v w u, xs = [v, w, u] ∧ Rep G K F v q ∧ Rep G K F w q' ∧ Rep G K F u q'' := by
  cases h with
  | cons r rs =>
    cases rs with
    | cons r' rs =>
      cases rs with
      | cons r'' rs => cases rs; exact ⟨_, _, _, rfl, r, r', r''⟩
/-- lo, lo + c, ..: n of them -/
def rngP (lo : Int) (n : Nat) : List PV := (List.range n).map fun i => .int (lo + (i : Nat))
def rngC (lo c : Int) (n : Nat) : List PV := (List.range n).map fun i => .int (lo + (i : Nat) * c)
def pR1 : List PV → Option (List PV)
  | [.int j] => if -(2 ^ 62) ≤ j ∧ j ≤ 1000000 then some (rngP 0 j.toNat) else none
  | _ => none
def pR2 : List PV → Option (List PV)
  | [.int i, .int j] => if -(2 ^ 62) ≤ j ∧ j < 2 ^ 62 ∧ -(2 ^ 62) ≤ i ∧ i < 2 ^ 62 ∧ (j - i).toNat ≤ 1000000 then some (rngP i (j - i).toNat) else none
  | _ => none
instance {i j c : Int} {n : Nat} : Decidable (RgC i j c n) := by unfold RgC; infer_instance
def pR3 : List PV → Option (List PV)
  | [.int i, .int j, .int c] => if RgC i j c (Builtin.Range.rangeSize i j c).toNat ∧ (Builtin.Range.rangeSize i j c).toNat ≤ 1000000 then some (rngC i c (Builtin.Range.rangeSize i j c).toNat) else none
  | _ => none
theorem g_R1 : IfV (fun vs H1 R => ∃ j : Int, vs = [.int j] ∧ -(2 ^ 62) ≤ j ∧ j < 2 ^ 62 ∧ R (Itr 0 j.toNat) H1) G K pR1 := by
  intro F H xs ps zs R s r hz k
  unfold pR1 at hz
  split at hz
  · rename_i j
    split at hz
    · rename_i hj
      cases hz
      obtain ⟨v, rfl, rv⟩ := r.one
      obtain rfl := rv.int_inv
      exact ⟨j, rfl, hj.1, by omega, k _ (Itp.range (by rw [sizeLine_eq]; omega))⟩
    · cases hz
  · cases hz
theorem g_R2 : IfV (fun vs H1 R => ∃ i j : Int, vs = [.int i, .int j] ∧ (-(2 ^ 62) ≤ i ∧ i < 2 ^ 62 ∧ -(2 ^ 62) ≤ j ∧ j < 2 ^ 62) ∧ R (Itr i (j - i).toNat) H1) G K pR2 := by
  intro F H xs ps zs R s r hz k
  unfold pR2 at hz
  split at hz
  · rename_i i j
    split at hz
    · rename_i hj
      cases hz
      obtain ⟨v, w, rfl, rv, rw⟩ := r.two
      obtain rfl := rv.int_inv
      obtain rfl := rw.int_inv
      exact ⟨i, j, rfl, ⟨hj.2.2.1, hj.2.2.2.1, hj.1, hj.2.1⟩, k _ (Itp.range (by rw [sizeLine_eq]; omega))⟩
    · cases hz
  · cases hz
theorem g_R3 : IfV (fun vs H1 R => ∃ (i j c : Int) (n : Nat), vs = [.int i, .int j, .int c] ∧ RgC i j c n ∧ R (Itc i c n) H1) G K pR3 := by
  intro F H xs ps zs R s r hz k
  unfold pR3 at hz
  split at hz
  · rename_i i j c
    split at hz
    · rename_i hj
      cases hz
      obtain ⟨v, w, u, rfl, rv, rw, ru⟩ := r.three
      obtain rfl := rv.int_inv
      obtain rfl := rw.int_inv
      obtain rfl := ru.int_inv
      exact ⟨i, j, c, _, rfl, hj.1, k _ (Itp.rangeC (by rw [sizeLine_eq]; omega))⟩
    · cases hz
  · cases hz
variable {f : LE → Res (List PV)} {p' : Pos}
theorem i_range1 (hm : X.mg "range" = none) (ha : PA X [a] (tA G K .sh E κ f)) (hg : Gl X "range" := by rfl) (hs : starEach [a] X.env = [(false, eval a X.env)] := by rfl) :
    PI X tg (.Call (.Name "range" p') [a] [] pos) (tI G K true E κ (iFn pR1 f)) := pi_weak (pi_range1 hg hm ha hs) fun _ _ _ h => w_ifn g_R1 h
theorem i_range2 (hm : X.mg "range" = none) (ha : PA X [a, b] (tA G K .sh E κ f)) (hg : Gl X "range" := by rfl) (hs : starEach [a, b] X.env = [(false, eval a X.env), (false, eval b X.env)] := by rfl) (hs2 : starEach [b] X.env = [(false, eval b X.env)] := by rfl) :
    PI X tg (.Call (.Name "range" p') [a, b] [] pos) (tI G K true E κ (iFn pR2 f)) := pi_weak (pi_range2 hg hm ha hs hs2) fun _ _ _ h => w_ifn g_R2 h
theorem i_range3 {c : Expr} (hm : X.mg "range" = none) (ha : PA X [a, b, c] (tA G K .sh E κ f)) (hg : Gl X "range" := by rfl)
    (hs : starEach [a, b, c] X.env = (false, eval a X.env) :: starEach [b, c] X.env := by rfl) (hpl : (backTo pos (starEach [b, c] X.env)).any (·.1) = false := by rfl) :
    PI X tg (.Call (.Name "range" p') [a, b, c] [] pos) (tI G K true E κ (iFn pR3 f)) := pi_weak (pi_range3 hg hm ha hs hpl) fun _ _ _ h => w_ifn g_R3 h
end
section
variable {G : Nat → Addr} {X : Cx} {κ : Kd} {E : St → XK} {a b : Expr} {pos p' tpos : Pos} {f : LE → Res (List PV)} {elts : List Expr} {kk : Nat}
/-! enumerate, zip: the bound is asked -/
def pEnum : List PV → Option (List PV)
  | [.lst xs] => if xs.length ≤ 1000000 then some (enumP xs) else none
  | [.tup xs] => if xs.length ≤ 1000000 then some (enumP xs) else none
  | _ => none
theorem g_enum {K : PySem.W.Frag} : IfV (fun vs H1 R => ∃ a xs, vs = [.ref a] ∧ ((SqL K H1 a xs ∧ R (Ite K a) H1) ∨ (SqT K H1 a xs ∧ R (IteT K a) H1))) G K pEnum := by
  intro F H xs ps zs R s r hz k
  unfold pEnum at hz
  split at hz
  · split at hz
    · rename_i hl
      cases hz
      obtain ⟨v, rfl, rv⟩ := r.one
      obtain ⟨a, vs, rfl, hS, rr⟩ := rv.lst_inv
      exact ⟨a, vs, rfl, .inl ⟨.inl (Same.rd s hS), k _ (Itp.enum (.inl hS) rr (by rw [rr.length, sizeLine_eq]; omega))⟩⟩
    · cases hz
  · split at hz
    · rename_i hl
      cases hz
      obtain ⟨v, rfl, rv⟩ := r.one
      obtain ⟨a, vs, rfl, hS, rr⟩ := rv.tup_inv
      exact ⟨a, vs, rfl, .inr ⟨Same.sqt s hS, k _ (Itp.enumT hS rr (by rw [rr.length, sizeLine_eq]; omega))⟩⟩
    · cases hz
  · cases hz
def pZip : List PV → Option (List PV)
  | [.lst xs, .lst ys] => if xs.length ≤ 1000000 then some (zipP xs ys) else none
  | [.tup xs, .tup ys] => if xs.length ≤ 1000000 then some (zipP xs ys) else none
  | _ => none
theorem g_zip {K : PySem.W.Frag} : IfV (fun vs H1 R => ∃ a b xs ys, vs = [.ref a, .ref b] ∧ ((SqL K H1 a xs ∧ SqL K H1 b ys ∧ R (Itz K a b) H1) ∨ (SqT K H1 a xs ∧ SqT K H1 b ys ∧ R (RZ.ItzT K a b) H1))) G K pZip := by
  intro F H xs ps zs R s r hz k
  unfold pZip at hz
  split at hz
  · split at hz
    · rename_i hl
      cases hz
      obtain ⟨v, w, rfl, rv, rw'⟩ := r.two
      obtain ⟨a, vs, rfl, hS, rr⟩ := rv.lst_inv
      obtain ⟨b, ws, rfl, hS2, rr2⟩ := rw'.lst_inv
      exact ⟨a, b, vs, ws, rfl, .inl ⟨.inl (Same.rd s hS), .inl (Same.rd s hS2), k _ (Itp.zip (.inl hS) (.inl hS2) rr rr2 (by rw [sizeLine_eq]; omega))⟩⟩
    · cases hz
  · split at hz
    · rename_i hl
      cases hz
      obtain ⟨v, w, rfl, rv, rw'⟩ := r.two
      obtain ⟨a, vs, rfl, hS, rr⟩ := rv.tup_inv
      obtain ⟨b, ws, rfl, hS2, rr2⟩ := rw'.tup_inv
      exact ⟨a, b, vs, ws, rfl, .inr ⟨Same.sqt s hS, Same.sqt s hS2, k _ (Itp.zipT hS hS2 rr rr2 (by rw [sizeLine_eq]; omega))⟩⟩
    · cases hz
  · cases hz
theorem i_zip (hm : X.mg "zip" = none) (ha : PA X [a, b] (tA G X.K .sh E κ f)) (hg : Gl X "zip" := by rfl) (hs : starEach [a, b] X.env = (false, eval a X.env) :: starEach [b] X.env := by rfl) (hpl : (backTo pos (starEach [b] X.env)).any (·.1) = false := by rfl) :
    PI X (.Tuple elts kk tpos) (.Call (.Name "zip" p') [a, b] [] pos) (tI G X.K true E κ (iFn pZip f)) := pi_weak (RZ.pi_zipA hg hm ha hs hpl) fun _ _ _ h => w_ifn g_zip h
theorem i_enum (hm : X.mg "enumerate" = none) (ha : PA X [a] (tA G X.K .sh E κ f)) (hg : Gl X "enumerate" := by rfl) (hs : starEach [a] X.env = [(false, eval a X.env)] := by rfl) :
    PI X (.Tuple elts kk tpos) (.Call (.Name "enumerate" p') [a] [] pos) (tI G X.K true E κ (iFn pEnum f)) := pi_weak (pi_enumT hg hm ha hs) fun _ _ _ h => w_ifn g_enum h
end
end Lp
end
section
set_option Elab.async false
set_option linter.all false
set_option maxRecDepth 100000
namespace Lp
open PySem PySem.Spec L2

/-- an error may not leave from here -/
def Res.nx {α : Type} : Res α → Res α
  | .ok a => .ok a
  | .exc _ _ => .bad
  | .bad => .bad
@[simp] theorem Res.nx_ok {α : Type} (a : α) : (Res.ok a).nx = .ok a := (rfl)
@[simp] theorem Res.nx_exc {α : Type} (c fs) : (Res.exc c fs : Res α).nx = .bad := (rfl)
@[simp] theorem Res.nx_bad {α : Type} : (Res.bad : Res α).nx = .bad := (rfl)
theorem Res.nx_inv {α : Type} {x : Res α} {a : α} (h : x.nx = .ok a) : x = .ok a := by
  cases x with
  | ok b => exact h
  | exc c fs => cases h
  | bad => cases h
theorem Res.bind_ok {α β : Type} {x : Res α} {f : α → Res β} {b : β} (h : (x >>= f) = .ok b) : ∃ a, x = .ok a ∧ f a = .ok b := by
  cases x with
  | ok a => exact ⟨a, rfl, h⟩
  | exc c fs => cases h
  | bad => cases h
def tYesM : LE → Res Bool := fun _ => .ok true
def compL (tgt : PV → LE → Res LE) (cond : LE → Res Bool) (elt : LE → Res PV) (τ : LE) : List PV → Res (List PV)
  | [] => .ok []
  | p :: ps => (tgt p τ).nx >>= fun τ1 => (cond τ1).nx >>= fun b =>
    if b = true then (elt τ1).nx >>= fun q => compL tgt cond elt τ ps >>= fun r => .ok (q :: r) else compL tgt cond elt τ ps
def wipeL (τ : LE) : List Nat → LE
  | [] => τ
  | v :: vs => (wipeL τ vs).set v none
def eComp (own : List Nat) (it : LE → Res (List PV)) (tgt : PV → LE → Res LE) (cond : LE → Res Bool) (elt : LE → Res PV) : LE → Res PV := fun τ => it τ >>= fun ps => (compL tgt cond elt (wipeL τ own) ps).nx >>= fun rs => .ok (.lst rs)
def compL2 (tgt : PV → LE → Res LE) (cond : LE → Res Bool) (it1 : LE → Res (List PV)) (own1 : List Nat) (tgt1 : PV → LE → Res LE) (cond1 : LE → Res Bool) (elt : LE → Res PV) (τ : LE) : List PV → Res (List PV)
  | [] => .ok []
  | p :: ps => (tgt p τ).nx >>= fun τ1 => (cond τ1).nx >>= fun b =>
    if b = true then (it1 τ1).nx >>= fun qs => compL tgt1 cond1 elt (wipeL τ1 own1) qs >>= fun r1 => compL2 tgt cond it1 own1 tgt1 cond1 elt τ ps >>= fun r => .ok (r1 ++ r) else compL2 tgt cond it1 own1 tgt1 cond1 elt τ ps
def eComp2 (own : List Nat) (it : LE → Res (List PV)) (tgt : PV → LE → Res LE) (cond : LE → Res Bool) (it1 : LE → Res (List PV)) (own1 : List Nat) (tgt1 : PV → LE → Res LE) (cond1 : LE → Res Bool) (elt : LE → Res PV) : LE → Res PV :=
  fun τ => it τ >>= fun ps => (compL2 tgt cond it1 own1 tgt1 cond1 elt (wipeL τ own) ps).nx >>= fun rs => if rs.length ≤ 1000000 then .ok (.lst rs) else .bad

section
variable {G : Nat → Addr} {K : PySem.W.Frag} {F H F' H' F0 H0 B : Hp} {X : Cx} {v x y : V} {p : PV} {κ : Kd} {E : St → XK} {m md : Mode} {e a b tg iter elt : Expr} {es : List Expr} {pos : Pos} {σ : St} {τ : LE}
theorem wipeL_length : ∀ vs : List Nat, (wipeL τ vs).length = τ.length
  | [] => rfl
  | v :: vs => by unfold wipeL; rw [List.length_set]; exact wipeL_length vs
theorem wipeL_some {i : Nat} {p : PV} : ∀ {vs : List Nat}, (wipeL τ vs)[i]? = some (some p) → τ[i]? = some (some p) ∧ i ∉ vs
  | [], h => ⟨h, by simp⟩
  | v :: vs, h => by
    unfold wipeL at h
    by_cases hv : v = i
    · subst hv
      rw [List.getElem?_set] at h
      simp only [if_true] at h
      split at h <;> cases h
    · rw [List.getElem?_set_ne hv] at h
      obtain ⟨h1, h2⟩ := wipeL_some h
      exact ⟨h1, by simp [Ne.symm hv, h2]⟩
theorem Lc.wipe (l : Lc G K κ F H σ τ) (vs : List Nat) : Lc G K κ F H (wipe σ vs) (wipeL τ vs) := by
  refine ⟨l.sub, by rw [wipe_length, wipeL_length]; exact l.len, fun j q h1 h2 => ?_, fun j q h1 h2 => ?_, fun j1 j2 q1 q2 a h1 h2 h3 h4 h5 h6 => ?_⟩
  · obtain ⟨h3, h4⟩ := wipeL_some h1
    rw [wipe_out h4]
    exact l.sh j q h3 h2
  · obtain ⟨h3, h4⟩ := wipeL_some h1
    rw [wipe_out h4]
    exact l.ow j q h3 h2
  · obtain ⟨k3, m3⟩ := wipeL_some h3
    obtain ⟨k4, m4⟩ := wipeL_some h4
    rw [wipe_out m3] at h5
    rw [wipe_out m4] at h6
    exact l.ap j1 j2 q1 q2 a h1 h2 k3 k4 h5 h6
theorem wipe_mem {i : Nat} : ∀ {vs : List Nat}, i ∈ vs → (wipe σ vs)[i]? = if i < σ.length then some none else none
  | v :: vs, h => by
    unfold wipe
    by_cases hv : v = i
    · subst hv
      rw [List.getElem?_set]
      simp only [if_true, wipe_length]
    · rw [List.getElem?_set_ne hv]
      exact wipe_mem ((List.mem_cons.mp h).resolve_left fun z => hv z.symm)
theorem wipe_same {σ' : St} {vs ws : List Nat} (hw : ∀ j ∈ ws, j ∈ vs) (hl : σ'.length = σ.length) (h : ∀ j, j ∉ ws → σ'[j]? = σ[j]?) : wipe σ' vs = wipe σ vs := by
  refine List.ext_getElem? fun j => ?_
  by_cases hj : j ∈ vs
  · rw [wipe_mem hj, wipe_mem hj, hl]
  · rw [wipe_out hj, wipe_out hj]
    exact h j fun z => hj (hw j z)
theorem wipe_wipe {vs : List Nat} : wipe (wipe σ vs) vs = wipe σ vs := by
  refine List.ext_getElem? fun j => ?_
  by_cases hj : j ∈ vs
  · rw [wipe_mem hj, wipe_mem hj, wipe_length]
  · rw [wipe_out hj, wipe_out hj]
theorem Lc.len2 {τ' : LE} {σ' : St} (l : Lc G K κ F H σ τ) (l' : Lc G K κ F' H' σ' τ') (e : τ'.length = τ.length) : σ'.length = σ.length := by rw [l.len, l'.len, e]
abbrev EN : St → XK := fun _ => E0
/-- what a target leaves as it is -/
structure GOk (κ : Kd) (ws : List Nat) (g : PV → LE → Res LE) : Prop where
  len : ∀ p τ τ', g p τ = .ok τ' → τ'.length = τ.length
  keep : ∀ p τ τ', g p τ = .ok τ' → ∀ j, j ∉ ws → τ'[j]? = τ[j]?
  un : ∀ j ∈ ws, κ j = false
structure GOks (κ : Kd) (ws : List Nat) (g : List PV → LE → Res LE) : Prop where
  len : ∀ p τ τ', g p τ = .ok τ' → τ'.length = τ.length
  keep : ∀ p τ τ', g p τ = .ok τ' → ∀ j, j ∉ ws → τ'[j]? = τ[j]?
  un : ∀ j ∈ ws, κ j = false

theorem compL_len {tgt : PV → LE → Res LE} {cond : LE → Res Bool} {elt : LE → Res PV} : ∀ {ps rs : List PV}, compL tgt cond elt τ ps = .ok rs → rs.length ≤ ps.length
  | [], rs, h => by rw [compL] at h; cases h; exact Nat.le_refl _
  | p :: ps, rs, h => by
    rw [compL] at h
    obtain ⟨τ1, _, h⟩ := Res.bind_ok h
    obtain ⟨b, _, h⟩ := Res.bind_ok h
    cases b with
    | true =>
      rw [if_pos rfl] at h
      obtain ⟨q, _, h⟩ := Res.bind_ok h
      obtain ⟨r, h1, h⟩ := Res.bind_ok h
      cases h
      have := compL_len h1
      simp; exact this
    | false =>
      rw [if_neg (by decide)] at h
      have := compL_len h
      simp; omega
/-! ### the turns of a list comprehension -/
/-- the list that grows stands at D -/
structure Grow (F1 H1 : Hp) (D : Addr) (done : List PV) (F H : Hp) : Prop where
  ext : Ext F1 H1 F H
  nd : F D = none
  at_ : ∃ vs, H D = some (.lst vs) ∧ Reps G K F vs done
theorem Grow.ext2 {F1 H1 F2 H2 : Hp} {D : Addr} {done : List PV} (g : Grow (G := G) (K := K) F1 H1 D done F H) (e : Ext F H F2 H2) : Grow (G := G) (K := K) F1 H1 D done F2 H2 := by
  obtain ⟨vs, h, r⟩ := g.at_
  exact ⟨g.ext.trans e, e.apart g.nd h, vs, e.h _ _ h, Reps.mono e.f r⟩
theorem Grow.push {F1 H1 : Hp} {D : Addr} {done : List PV} {vs : List V} (g : Grow (G := G) (K := K) F1 H1 D done F H) (hD : H1 D = none) (h : H D = some (.lst vs)) (rv : Rep G K F v p) :
    Grow (G := G) (K := K) F1 H1 D (done ++ [p]) F (upd H D (.lst (vs ++ [v]))) := by
  obtain ⟨vs', h', r⟩ := g.at_
  rw [h] at h'
  cases h'
  exact ⟨⟨g.ext.f, same_updR g.ext.h hD, same_updR g.ext.sub g.nd, g.ext.new⟩, g.nd, _, upd_same, Reps.snoc r rv⟩

/-- one turn's end: the item is evaluated and appended -/
theorem elt_turn {te : LE → Res PV} {F1 H1 : Hp} {D : Addr} {done : List PV} {q : PV} {Nx : Hp → Prop} (g : Grow (G := G) (K := K) F1 H1 D done F H) (hD : H1 D = none) (hl : done.length < sizeLine) (l : Lc G K κ F H σ τ) (hq : te τ = .ok q)
    (k : ∀ F' H', Grow (G := G) (K := K) F1 H1 D (done ++ [q]) F' H' → Nx H') : tE G K .sh EN κ te σ H fun y H4 => ∃ acc, H4 D = some (.lst acc) ∧ acc.length < sizeLine ∧ Nx (upd H4 D (.lst (acc ++ [y]))) := by
  refine ⟨F, τ, l, ?_⟩
  rw [hq]
  intro v F2 H2 e2 r2
  have g2 := g.ext2 e2
  obtain ⟨vs, h, r⟩ := g2.at_
  exact ⟨vs, h, by rw [r.length]; exact hl, k _ _ (g2.push hD h r2)⟩

/-- behind i turns -/
def LcN (G : Nat → Addr) (K : PySem.W.Frag) (F1 H1 : Hp) (D : Addr) (f : List PV → Res (List PV)) (rs ps : List PV) (pre : List PV) (i : Nat) (H : Hp) : Prop :=
  ∃ F done rest, Grow (G := G) (K := K) F1 H1 D (pre ++ done) F H ∧ f (ps.drop i) = .ok rest ∧ rs = done ++ rest
theorem w_lc {own ws : List Nat} {wi : LE → Res (List PV)} {tgt : PV → LE → Res LE} {cond : LE → Res Bool} {te : LE → Res PV} {Q : VK} (hw : ∀ j ∈ ws, j ∈ own) (hl : GOk κ ws tgt)
    (h : tE G K .fr E κ (eComp own wi tgt cond te) σ H Q) : tLc (tI G K false E κ wi) (tG G K ws EN κ tgt) (tT G K EN κ cond) (tE G K .sh EN κ te) own σ H Q := by
  obtain ⟨F, τ, l, q⟩ := h
  refine ⟨F, τ, l, ?_⟩
  unfold eComp at q
  cases hwi : wi τ with
  | exc c ps => rw [hwi] at q; exact q
  | bad => rw [hwi] at q; exact q
  | ok ps =>
    rw [hwi, Res.ok_bind] at q
    intro J F1 H1 e1 i1 D hD
    simp only [Bool.false_eq_true, if_false] at i1
    cases hc : (compL tgt cond te (wipeL τ own) ps).nx with
    | exc c fs => cases hx : compL tgt cond te (wipeL τ own) ps <;> rw [hx] at hc <;> cases hc
    | bad => rw [hc] at q; exact q.elim
    | ok rs =>
      rw [hc, Res.ok_bind] at q
      have hc := Res.nx_inv hc
      have hlen : ∀ (d r : List PV), rs = d ++ r → d.length ≤ ps.length := fun d r e => by
        have h1 := compL_len hc
        have h2 := congrArg List.length e
        rw [List.length_append] at h2
        omega
      refine ⟨fun i m H => m = ps.length - i ∧ i ≤ ps.length ∧ LcN G K F1 H1 D (compL tgt cond te (wipeL τ own)) rs ps [] i H,
        ⟨ps.length, by simp, Nat.zero_le _, F1, [], rs, ?_, by simpa using hc, by simp⟩, ?_⟩
      · exact ⟨⟨Same.refl _, same_new hD, same_updR e1.sub (Same.free e1.sub hD), fun a h1 h2 => absurd h1 h2⟩, Same.free e1.sub hD, [], upd_same, .nil⟩
      · rintro i m H2 ⟨rfl, hi, F2, done, rest, g, hcr, hrs⟩
        by_cases hlt : i < ps.length
        · refine .inr ⟨i1.go i H2 g.ext.h hlt, LcN G K F1 H1 D (compL tgt cond te (wipeL τ own)) rs ps [] (i + 1), fun H' n => ⟨ps.length - (i + 1), by omega, rfl, hlt, n⟩, fun x H3 hy => ?_⟩
          have hp : ps[i]? = some ps[i] := List.getElem?_eq_getElem hlt
          obtain ⟨F3, e3, r3⟩ := i1.yld i x H2 H3 F2 _ g.ext.h g.ext.f g.ext.sub hy hp
          have g3 := g.ext2 e3
          have l3 : Lc G K κ F3 H3 (wipe σ own) (wipeL τ own) := ((l.ext e1).ext g3.ext).wipe own
          rw [List.drop_eq_getElem_cons hlt, compL] at hcr
          obtain ⟨τ1, ht, hcr⟩ := Res.bind_ok hcr
          obtain ⟨bb, hb, hcr⟩ := Res.bind_ok hcr
          have ht := Res.nx_inv ht
          have hb := Res.nx_inv hb
          refine ⟨F3, wipeL τ own, ps[i], l3, r3, ?_⟩
          rw [ht]
          intro σ' l4 k4
          refine ⟨?_, ?_⟩
          · have e := wipe_same (σ := wipe σ own) hw (Lc.len2 l3 l4 (hl.len _ _ _ ht)) k4
            rw [e, wipe_wipe]
          · refine ⟨F3, τ1, l4, ?_⟩
            rw [hb]
            intro F4 H4 e4
            have g4 := g3.ext2 e4
            cases bb with
            | true =>
              rw [if_pos rfl] at hcr ⊢
              obtain ⟨q0, hq0, hcr⟩ := Res.bind_ok hcr
              obtain ⟨r', hr', hcr⟩ := Res.bind_ok hcr
              cases hcr
              have hd := hlen (done ++ [q0]) r' (by rw [hrs]; simp)
              rw [List.length_append, List.length_singleton] at hd
              exact elt_turn g4 hD (by have := i1.len; simp; omega) (l4.ext e4) (Res.nx_inv hq0) fun F' H' g' => ⟨F', done ++ [q0], r', by simpa using g', hr', by rw [hrs]; simp⟩
            | false =>
              rw [if_neg (by decide)] at hcr ⊢
              exact ⟨F4, done, rest, g4, hcr, hrs⟩
        · have e : i = ps.length := by omega
          subst e
          rw [List.drop_length, compL] at hcr
          cases hcr
          refine .inl ⟨i1.stop H2 g.ext.h, ?_⟩
          rw [List.append_nil] at hrs
          subst hrs
          exact q _ F2 H2 (e1.trans g.ext) ⟨D, rfl, Same.free e1.h hD, g.nd, g.at_⟩

theorem ts_nil : PTs X [] (tT G K E κ tYesM) := ⟨fun pins s σ H Q I ⟨F, τ, l, q⟩ => pts_nil.run pins s σ H Q I (q F H (Ext.refl l.sub))⟩
theorem ts_one {c : Expr} {t : LE → Res Bool} (h : PT X c (tT G K E κ t)) : PTs X [c] (tT G K E κ t) := pts_one h
theorem gok_name {i : Nat} (k : κ i = false := by rfl) : GOk κ [i] (gNm i) where
  len p τ τ' h := by
    unfold gNm at h
    split at h
    · cases h; rw [List.length_set]
    · cases h
  keep p τ τ' h j hj := by
    unfold gNm at h
    split at h
    · cases h; exact List.getElem?_set_ne fun e => hj (by simp [e])
    · cases h
  un j hj := by rw [List.mem_singleton] at hj; rw [hj]; exact k
theorem goks_nil : GOks κ [] gsN where
  len ps τ τ' h := by
    unfold gsN at h
    split at h
    · cases h; rfl
    · cases h
  keep ps τ τ' h j _ := by
    unfold gsN at h
    split at h
    · cases h; rfl
    · cases h
  un j hj := by cases hj
theorem goks_cons {ws1 ws2 : List Nat} {g : PV → LE → Res LE} {gs : List PV → LE → Res LE} (h1 : GOk κ ws1 g) (h2 : GOks κ ws2 gs) : GOks κ (ws1 ++ ws2) (gsC g gs) where
  len ps τ τ' h := by
    unfold gsC at h
    split at h
    · cases h
    · obtain ⟨τ1, a, b⟩ := Res.bind_ok h
      rw [h2.len _ _ _ b, h1.len _ _ _ a]
  keep ps τ τ' h j hj := by
    rw [List.mem_append, not_or] at hj
    unfold gsC at h
    split at h
    · cases h
    · obtain ⟨τ1, a, b⟩ := Res.bind_ok h
      rw [h2.keep _ _ _ b j hj.2, h1.keep _ _ _ a j hj.1]
  un j hj := by
    rcases List.mem_append.mp hj with h | h
    · exact h1.un j h
    · exact h2.un j h
theorem gok_tup {ws : List Nat} {gs : List PV → LE → Res LE} {n : Nat} (h1 : GOks κ ws gs) : GOk κ ws (gTp gs n) where
  len p τ τ' h := by
    unfold gTp at h
    split at h
    · split at h
      · exact h1.len _ _ _ h
      · cases h
    · split at h
      · exact h1.len _ _ _ h
      · cases h
    · cases h
  keep p τ τ' h j hj := by
    unfold gTp at h
    split at h
    · split at h
      · exact h1.keep _ _ _ h j hj
      · cases h
    · split at h
      · exact h1.keep _ _ _ h j hj
      · cases h
    · cases h
  un := h1.un

/-- [elt for tg in iter if ..] -/
theorem v_lc {ifs : List Expr} {scope : Scope} {own : List (Str × Nat)} {ws : List Nat} {wi : LE → Res (List PV)} {tgt : PV → LE → Res LE} {cond : LE → Res Bool} {te : LE → Res PV} (hc : X.calm = true) (hN : X.N.Nodup)
    (hi : PI X tg iter (tI G X.K false E κ wi)) (ok : BlkOk X.N X.env.scope scope own)
    (hg : ∀ (s : Shared) (H : Hp) (C : Addr) (cl : List (Str × Addr)) (fp : List Addr), PG (X.blk s H scope (compEnvC scope cl C X.env) fp) tg (tG G X.K ws EN κ tgt))
    (ht : ∀ (s : Shared) (H : Hp) (C : Addr) (cl : List (Str × Addr)) (fp : List Addr), PTs (X.blk s H scope (compEnvC scope cl C X.env) fp) ifs (tT G X.K EN κ cond))
    (he : ∀ (s : Shared) (H : Hp) (C : Addr) (cl : List (Str × Addr)) (fp : List Addr), PE (X.blk s H scope (compEnvC scope cl C X.env) fp) elt (tE G X.K .sh EN κ te))
    (hw : ∀ j ∈ ws, j ∈ own.map (·.2)) (hl : GOk κ ws tgt) (hs : ∀ x, foldedSetIterable iter X.env x = pure x := by intro _; rfl) :
    PE X (.ListComp elt [⟨tg, iter, ifs, 0⟩] scope pos) (tE G X.K .fr E κ (eComp (own.map (·.2)) wi tgt cond te)) :=
  pe_weak (pe_lc hc hN hi ok hg ht he hs) fun _ _ _ h => w_lc hw hl h

/-! ### two clauses -/
theorem del_upd {H : Hp} {D : Addr} {o : HO} : del (upd H D o) D = del H D := by
  funext b
  unfold del upd
  by_cases h : b = D <;> simp [h]
theorem del_none {H : Hp} {D : Addr} (h : H D = none) : del H D = H := by
  funext b
  unfold del
  by_cases hb : b = D
  · subst hb; rw [if_pos rfl, h]
  · rw [if_neg hb]
theorem Ext.del {D : Addr} (e : Ext F H F' H') (h1 : F D = none) (h2 : F' D = none) : Ext F (del H D) F' (del H' D) := by
  have s : ∀ {A B : Hp}, Same A B → A D = none → Same A (L2.del B D) := fun {A B} s hA b o hb => by
    have : b ≠ D := fun z => by subst z; rw [hA] at hb; cases hb
    unfold L2.del
    rw [if_neg this]
    exact s b o hb
  refine ⟨e.f, fun b o hb => ?_, s e.sub h2, fun a q1 q2 => ?_⟩
  · unfold L2.del at hb ⊢
    by_cases z : b = D
    · rw [if_pos z] at hb; cases hb
    · rw [if_neg z] at hb ⊢; exact e.h b o hb
  · unfold L2.del
    by_cases z : a = D
    · rw [if_pos z]
    · rw [if_neg z]; exact e.new a q1 q2
theorem Lc.undel {D : Addr} (l : Lc G K κ F (del H D) σ τ) (s : Same F H) : Lc G K κ F H σ τ :=
  ⟨s, l.len, l.sh, fun i p h1 h2 => by
    obtain ⟨a, e1, hF, o⟩ := l.ow i p h1 h2
    obtain ⟨ob, ho⟩ := o.some
    have hne : a ≠ D := fun z => by rw [z, del_same] at ho; cases ho
    exact ⟨a, e1, hF, o.mono (Same.refl _) (del_ne hne).symm⟩, l.ap⟩
/-- the slots behind a target, D left out -/
theorem Lc.redel {D : Addr} {ws : List Nat} {σ' : St} {τ' : LE} (l : Lc G K κ F (del H D) σ τ) (l' : Lc G K κ F H σ' τ') (hun : ∀ j ∈ ws, κ j = false) (hk : ∀ j, j ∉ ws → τ'[j]? = τ[j]?) (hs : ∀ j, j ∉ ws → σ'[j]? = σ[j]?) (nd : F D = none) : Lc G K κ F (del H D) σ' τ' :=
  ⟨l.sub, l'.len, l'.sh, fun i p h1 h2 => by
    have hi : i ∉ ws := fun z => by rw [hun i z] at h2; cases h2
    obtain ⟨a, e1, hF, o⟩ := l.ow i p (by rw [← hk i hi]; exact h1) h2
    exact ⟨a, by rw [hs i hi]; exact e1, hF, o⟩, l'.ap⟩

theorem compL_inner {own1 ws1 : List Nat} {tgt1 : PV → LE → Res LE} {cond1 : LE → Res Bool} {te : LE → Res PV} {wi1 : LE → Res (List PV)} {F1 H1 : Hp} {D : Addr} {done qs r1 : List PV} {Nx : Hp → Prop} (hw : ∀ j ∈ ws1, j ∈ own1) (hl : GOk κ ws1 tgt1)
    (hD : H1 D = none) (g : Grow (G := G) (K := K) F1 H1 D done F H) (l : Lc G K κ F (del H D) σ τ) (hwi : wi1 τ = .ok qs) (hc : compL tgt1 cond1 te (wipeL τ own1) qs = .ok r1) (hz : done.length + r1.length ≤ 1000000)
    (k : ∀ F' H', Grow (G := G) (K := K) F1 H1 D (done ++ r1) F' H' → Nx H') :
    tI G K true EN κ wi1 σ H fun J1 H4 => ∃ W1 : Nat → Nat → Hp → Prop, (∃ m, W1 0 m H4) ∧ ∀ j k H, W1 j k H →
      (J1.stop j H ∧ Nx H) ∨ (J1.go j H ∧ ∃ Nx1 : Hp → Prop, (∀ H', Nx1 H' → ∃ k', k' < k ∧ W1 (j + 1) k' H') ∧ ∀ x H', J1.yld j H x H' → tG G K ws1 EN κ tgt1 x (wipe σ own1) H' fun σ3 H5 => wipe σ3 own1 = wipe σ own1 ∧ tT G K EN κ cond1 σ3 H5 fun b H6 =>
        if b = true then tE G K .sh EN κ te σ3 H6 fun y H7 => ∃ acc, H7 D = some (.lst acc) ∧ acc.length < sizeLine ∧ Nx1 (upd H7 D (.lst (acc ++ [y]))) else Nx1 H6) := by
  refine ⟨F, τ, l.undel g.ext.sub, ?_⟩
  rw [hwi]
  intro J Fa Ha ea i1
  rw [if_pos rfl] at i1
  have ga := g.ext2 ea
  have la := l.ext (ea.del g.nd ga.nd)
  refine ⟨fun i m H => m = qs.length - i ∧ i ≤ qs.length ∧ ∃ F2 dn rest, Grow (G := G) (K := K) F1 H1 D (done ++ dn) F2 H ∧ Same Fa F2 ∧ Lc G K κ F2 (del H D) σ τ ∧ compL tgt1 cond1 te (wipeL τ own1) (qs.drop i) = .ok rest ∧ r1 = dn ++ rest,
    ⟨qs.length, by simp, Nat.zero_le _, Fa, [], r1, by simpa using ga, Same.refl _, la, by simpa using hc, by simp⟩, ?_⟩
  rintro i m H2 ⟨rfl, hi, F2, dn, rest, g2, s2, l2, hcr, hrs⟩
  have sB : Same Fa H2 := s2.trans g2.ext.sub
  by_cases hlt : i < qs.length
  · refine .inr ⟨i1.go i H2 sB hlt, fun H => ∃ F2 dn rest, Grow (G := G) (K := K) F1 H1 D (done ++ dn) F2 H ∧ Same Fa F2 ∧ Lc G K κ F2 (del H D) σ τ ∧ compL tgt1 cond1 te (wipeL τ own1) (qs.drop (i + 1)) = .ok rest ∧ r1 = dn ++ rest, fun H' n => ⟨qs.length - (i + 1), by omega, rfl, hlt, n⟩, fun x H3 hy => ?_⟩
    have hp : qs[i]? = some qs[i] := List.getElem?_eq_getElem hlt
    obtain ⟨F3, e3, r3⟩ := i1.yld i x H2 H3 F2 _ sB s2 g2.ext.sub hy hp
    have g3 := g2.ext2 e3
    have l3 := l2.ext (e3.del g2.nd g3.nd)
    have l3w : Lc G K κ F3 H3 (wipe σ own1) (wipeL τ own1) := (l3.undel g3.ext.sub).wipe own1
    rw [List.drop_eq_getElem_cons hlt, compL] at hcr
    obtain ⟨τ1, ht, hcr⟩ := Res.bind_ok hcr
    obtain ⟨bb, hb, hcr⟩ := Res.bind_ok hcr
    have ht := Res.nx_inv ht
    have hb := Res.nx_inv hb
    refine ⟨F3, wipeL τ own1, qs[i], l3w, r3, ?_⟩
    rw [ht]
    intro σ' l4 k4
    refine ⟨?_, ?_⟩
    · have e := wipe_same (σ := wipe σ own1) hw (Lc.len2 l3w l4 (hl.len _ _ _ ht)) k4
      rw [e, wipe_wipe]
    · refine ⟨F3, τ1, l4, ?_⟩
      rw [hb]
      intro F4 H4 e4
      have g4 := g3.ext2 e4
      have l4d := l3.ext (e4.del g3.nd g4.nd)
      cases bb with
      | true =>
        rw [if_pos rfl] at hcr ⊢
        obtain ⟨q0, hq0, hcr⟩ := Res.bind_ok hcr
        obtain ⟨r', hr', hcr⟩ := Res.bind_ok hcr
        cases hcr
        have hdn : done.length + dn.length < 1000000 := by
          have := congrArg List.length hrs
          rw [List.length_append, List.length_cons] at this
          omega
        refine ⟨F4, τ1, l4.ext e4, ?_⟩
        rw [Res.nx_inv hq0]
        intro v F5 H5 e5 r5
        have g5 := g4.ext2 e5
        obtain ⟨vs, h, r⟩ := g5.at_
        refine ⟨vs, h, by rw [r.length, List.length_append, sizeLine_eq]; omega, F5, dn ++ [q0], r', by rw [← List.append_assoc]; exact g5.push hD h r5, ((s2.trans e3.f).trans e4.f).trans e5.f, ?_, hr', by rw [hrs]; simp⟩
        rw [del_upd]
        exact l4d.ext (e5.del g4.nd g5.nd)
      | false =>
        rw [if_neg (by decide)] at hcr ⊢
        exact ⟨F4, dn, rest, g4, (s2.trans e3.f).trans e4.f, l4d, hcr, hrs⟩
  · have e : i = qs.length := by omega
    subst e
    rw [List.drop_length, compL] at hcr
    cases hcr
    rw [List.append_nil] at hrs
    subst hrs
    exact .inl ⟨i1.stop H2 sB, k F2 H2 g2⟩

theorem w_lc2 {own own1 ws ws1 : List Nat} {wi wi1 : LE → Res (List PV)} {tgt tgt1 : PV → LE → Res LE} {cond cond1 : LE → Res Bool} {te : LE → Res PV} {Q : VK} (hw : ∀ j ∈ ws, j ∈ own) (hl : GOk κ ws tgt) (hw1 : ∀ j ∈ ws1, j ∈ own1) (hl1 : GOk κ ws1 tgt1)
    (h : tE G K .fr E κ (eComp2 own wi tgt cond wi1 own1 tgt1 cond1 te) σ H Q) : tLc2 (tI G K false E κ wi) (tG G K ws EN κ tgt) (tT G K EN κ cond) (tI G K true EN κ wi1) (tG G K ws1 EN κ tgt1) (tT G K EN κ cond1) (tE G K .sh EN κ te) own own1 σ H Q := by
  obtain ⟨F, τ, l, q⟩ := h
  refine ⟨F, τ, l, ?_⟩
  unfold eComp2 at q
  cases hwi : wi τ with
  | exc c ps => rw [hwi] at q; exact q
  | bad => rw [hwi] at q; exact q
  | ok ps =>
    rw [hwi, Res.ok_bind] at q
    intro J F1 H1 e1 i1 D hD
    simp only [Bool.false_eq_true, if_false] at i1
    cases hc : (compL2 tgt cond wi1 own1 tgt1 cond1 te (wipeL τ own) ps).nx with
    | exc c fs => cases hx : compL2 tgt cond wi1 own1 tgt1 cond1 te (wipeL τ own) ps <;> rw [hx] at hc <;> cases hc
    | bad => rw [hc] at q; exact q.elim
    | ok rs =>
      rw [hc, Res.ok_bind] at q
      have hc := Res.nx_inv hc
      by_cases hz : rs.length ≤ 1000000
      case neg => rw [if_neg hz] at q; exact q.elim
      rw [if_pos hz] at q
      refine ⟨fun i m H => m = ps.length - i ∧ i ≤ ps.length ∧ LcN G K F1 H1 D (compL2 tgt cond wi1 own1 tgt1 cond1 te (wipeL τ own)) rs ps [] i H ,
        ⟨ps.length, by simp, Nat.zero_le _, F1, [], rs, ?_, by simpa using hc, by simp⟩, ?_⟩
      · exact ⟨⟨Same.refl _, same_new hD, same_updR e1.sub (Same.free e1.sub hD), fun a h1 h2 => absurd h1 h2⟩, Same.free e1.sub hD, [], upd_same, .nil⟩
      · rintro i m H2 ⟨rfl, hi, F2, done, rest, g, hcr, hrs⟩
        by_cases hlt : i < ps.length
        · refine .inr ⟨i1.go i H2 g.ext.h hlt, LcN G K F1 H1 D (compL2 tgt cond wi1 own1 tgt1 cond1 te (wipeL τ own)) rs ps [] (i + 1), fun H' n => ⟨ps.length - (i + 1), by omega, rfl, hlt, n⟩, fun x H3 hy => ?_⟩
          have hp : ps[i]? = some ps[i] := List.getElem?_eq_getElem hlt
          obtain ⟨F3, e3, r3⟩ := i1.yld i x H2 H3 F2 _ g.ext.h g.ext.f g.ext.sub hy hp
          have g3 := g.ext2 e3
          have b1 : F1 D = none := Same.free e1.sub hD
          have ed : Ext F1 H1 F3 (del H3 D) := by
            have := g3.ext.del b1 g3.nd
            rw [del_none hD] at this
            exact this
          have l3 : Lc G K κ F3 H3 (wipe σ own) (wipeL τ own) := ((l.ext e1).ext g3.ext).wipe own
          have l3d : Lc G K κ F3 (del H3 D) (wipe σ own) (wipeL τ own) := ((l.ext e1).ext ed).wipe own
          rw [List.drop_eq_getElem_cons hlt, compL2] at hcr
          obtain ⟨τ1, ht, hcr⟩ := Res.bind_ok hcr
          obtain ⟨bb, hb, hcr⟩ := Res.bind_ok hcr
          have ht := Res.nx_inv ht
          have hb := Res.nx_inv hb
          refine ⟨F3, wipeL τ own, ps[i], l3, r3, ?_⟩
          rw [ht]
          intro σ' l4 k4
          refine ⟨?_, ?_⟩
          · have e := wipe_same (σ := wipe σ own) hw (Lc.len2 l3 l4 (hl.len _ _ _ ht)) k4
            rw [e, wipe_wipe]
          · refine ⟨F3, τ1, l4, ?_⟩
            rw [hb]
            intro F4 H4 e4
            have g4 := g3.ext2 e4
            have l4d : Lc G K κ F4 (del H4 D) σ' τ1 := (l3d.redel l4 hl.un (hl.keep _ _ _ ht) k4 g3.nd).ext (e4.del g3.nd g4.nd)
            cases bb with
            | true =>
              rw [if_pos rfl] at hcr ⊢
              obtain ⟨qs, hq0, hcr⟩ := Res.bind_ok hcr
              obtain ⟨r1, hr1, hcr⟩ := Res.bind_ok hcr
              obtain ⟨r', hr', hcr⟩ := Res.bind_ok hcr
              cases hcr
              have hlen := congrArg List.length hrs
              rw [List.length_append, List.length_append] at hlen
              exact compL_inner hw1 hl1 hD g4 l4d (Res.nx_inv hq0) hr1 (by simp; omega) fun F' H' g' => ⟨F', done ++ r1, r', by simpa using g', hr', by rw [hrs]; simp⟩
            | false =>
              rw [if_neg (by decide)] at hcr ⊢
              exact ⟨F4, done, rest, g4, hcr, hrs⟩
        · have e : i = ps.length := by omega
          subst e
          rw [List.drop_length, compL2] at hcr
          cases hcr
          refine .inl ⟨i1.stop H2 g.ext.h, ?_⟩
          rw [List.append_nil] at hrs
          subst hrs
          exact q _ F2 H2 (e1.trans g.ext) ⟨D, rfl, Same.free e1.h hD, g.nd, g.at_⟩
/-- [elt for tg in iter if .. for tg1 in iter1 if ..] -/
theorem v_lc2 {tg1 iter1 : Expr} {ifs ifs1 : List Expr} {scope : Scope} {own : List (Str × Nat)} {own1 ws ws1 : List Nat} {wi wi1 : LE → Res (List PV)} {tgt tgt1 : PV → LE → Res LE} {cond cond1 : LE → Res Bool} {te : LE → Res PV} (hc : X.calm = true) (hN : X.N.Nodup)
    (hi : PI X tg iter (tI G X.K false E κ wi)) (ok : BlkOk X.N X.env.scope scope own) (hv : ∀ i ∈ own1, i ∈ own.map (·.2))
    (hg : ∀ (s : Shared) (H : Hp) (C : Addr) (cl : List (Str × Addr)) (fp : List Addr), PG (X.blk s H scope (compEnvC scope cl C X.env) fp) tg (tG G X.K ws EN κ tgt))
    (ht : ∀ (s : Shared) (H : Hp) (C : Addr) (cl : List (Str × Addr)) (fp : List Addr), PTs (X.blk s H scope (compEnvC scope cl C X.env) fp) ifs (tT G X.K EN κ cond))
    (hi1 : ∀ (s : Shared) (H : Hp) (C : Addr) (cl : List (Str × Addr)) (fp : List Addr), PI (X.blk s H scope (compEnvC scope cl C X.env) fp) tg1 iter1 (tI G X.K true EN κ wi1))
    (hg1 : ∀ (s : Shared) (H : Hp) (C : Addr) (cl : List (Str × Addr)) (fp : List Addr), PG (X.blk s H scope (compEnvC scope cl C X.env) fp) tg1 (tG G X.K ws1 EN κ tgt1))
    (ht1 : ∀ (s : Shared) (H : Hp) (C : Addr) (cl : List (Str × Addr)) (fp : List Addr), PTs (X.blk s H scope (compEnvC scope cl C X.env) fp) ifs1 (tT G X.K EN κ cond1))
    (he : ∀ (s : Shared) (H : Hp) (C : Addr) (cl : List (Str × Addr)) (fp : List Addr), PE (X.blk s H scope (compEnvC scope cl C X.env) fp) elt (tE G X.K .sh EN κ te))
    (hw : ∀ j ∈ ws, j ∈ own.map (·.2)) (hl : GOk κ ws tgt) (hw1 : ∀ j ∈ ws1, j ∈ own1) (hl1 : GOk κ ws1 tgt1) (hs : ∀ x, foldedSetIterable iter X.env x = pure x := by intro _; rfl) (hs1 : ∀ env x, foldedSetIterable iter1 env x = pure x := by intro _ _; rfl) :
    PE X (.ListComp elt [⟨tg, iter, ifs, 0⟩, ⟨tg1, iter1, ifs1, 0⟩] scope pos) (tE G X.K .fr E κ (eComp2 (own.map (·.2)) wi tgt cond wi1 own1 tgt1 cond1 te)) :=
  pe_weak (pe_lc2 hc hN hi ok hv hg ht hi1 hg1 ht1 he hs hs1) fun _ _ _ h => w_lc2 hw hl hw1 hl1 h
end
end Lp
end
section
set_option Elab.async false
set_option linter.all false
set_option maxRecDepth 100000
namespace Lp
open PySem PySem.Spec L2

def keyP : PV → Option Key
  | .int i => some (.inl i)
  | .str x => some (.inr x)
  | _ => none
def valP (kvs : List (Key × PV)) (k : Key) : Option PV := (kvs.find? fun kv => decide (kv.1 = k)).map (·.2)
def hasP (kvs : List (Key × PV)) (k : Key) : Bool := kvs.any fun kv => decide (kv.1 = k)
def setP (kvs : List (Key × PV)) (k : Key) (v : PV) : List (Key × PV) := if hasP kvs k then kvs.map fun kv => if kv.1 = k then (kv.1, v) else kv else kvs ++ [(k, v)]
def dropP (kvs : List (Key × PV)) (k : Key) : List (Key × PV) := kvs.filter fun kv => decide (kv.1 ≠ k)
section
variable {G : Nat → Addr} {K : PySem.W.Frag} {F H F' H' F0 H0 B : Hp} {X : Cx} {v x y : V} {p : PV} {κ : Kd} {E : St → XK} {m md : Mode} {e a b tg iter elt : Expr} {es : List Expr} {pos : Pos} {σ : St} {τ : LE}
theorem keyP_rep {k : Key} (r : Rep G K F v p) (h : keyP p = some k) : v = kV k := by
  unfold keyP at h
  split at h
  · cases h; exact r.int_inv
  · cases h; exact r.str_inv
  · cases h
theorem kV_rep : ∀ k : Key, Rep G K F (kV k) (match k with | .inl i => .int i | .inr x => .str x)
  | .inl i => .int i
  | .inr x => .str x
theorem RepK.val {k : Key} : ∀ {kvs : List (Key × V)} {ps : List (Key × PV)}, RepK G K F kvs ps → (valV kvs k = none ∧ valP ps k = none) ∨ ∃ v p, valV kvs k = some v ∧ valP ps k = some p ∧ Rep G K F v p
  | _, _, .nil => .inl ⟨rfl, rfl⟩
  | _, _, .cons (k := j) r rs => by
    by_cases h : j = k
    · subst h
      refine .inr ⟨_, _, ?_, ?_, r⟩
      · exact valV_pos rfl
      · unfold valP; simp
    · rcases RepK.val rs with ⟨h1, h2⟩ | ⟨v, p, h1, h2, h3⟩
      · refine .inl ⟨(valV_neg h).trans h1, ?_⟩
        unfold valP at h2 ⊢
        simp only [List.find?_cons, h, decide_false]
        exact h2
      · refine .inr ⟨v, p, (valV_neg h).trans h1, ?_, h3⟩
        unfold valP at h2 ⊢
        simp only [List.find?_cons, h, decide_false]
        exact h2
theorem hasP_val (kvs : List (Key × PV)) (k : Key) : hasP kvs k = (valP kvs k).isSome := by
  unfold hasP valP
  induction kvs with
  | nil => rfl
  | cons kv r ih =>
    rw [List.any_cons, List.find?_cons]
    by_cases h : kv.1 = k
    · simp [h]
    · simp only [h, decide_false, Bool.false_or]; exact ih
theorem RepK.any {k : Key} : ∀ {kvs : List (Key × V)} {ps : List (Key × PV)}, RepK G K F kvs ps → (kvs.any fun kv => decide (kv.1 = k)) = hasP ps k
  | _, _, .nil => rfl
  | _, _, .cons r rs => by
    unfold hasP
    rw [List.any_cons, List.any_cons, RepK.any rs]
    rfl
theorem RepK.append : ∀ {a b : List (Key × V)} {c d : List (Key × PV)}, RepK G K F a c → RepK G K F b d → RepK G K F (a ++ b) (c ++ d)
  | _, _, _, _, .nil, s => s
  | _, _, _, _, .cons r rs, s => .cons r (RepK.append rs s)
theorem RepK.mapSet {k : Key} (r : Rep G K F v p) : ∀ {kvs : List (Key × V)} {ps : List (Key × PV)}, RepK G K F kvs ps → RepK G K F (kvs.map fun kv => if kv.1 = k then (kv.1, v) else kv) (ps.map fun kv => if kv.1 = k then (kv.1, p) else kv)
  | _, _, .nil => .nil
  | _, _, .cons (k := j) q rs => by
    rw [List.map_cons, List.map_cons]
    by_cases h : j = k
    · simp only [h, if_true]; exact .cons r (RepK.mapSet r rs)
    · simp only [h, if_false]; exact .cons q (RepK.mapSet r rs)
theorem RepK.set {k : Key} {kvs : List (Key × V)} {ps : List (Key × PV)} (h : RepK G K F kvs ps) (r : Rep G K F v p) : RepK G K F (putK kvs k v) (setP ps k p) := by
  unfold putK setP
  rw [h.any]
  by_cases hh : hasP ps k = true
  · rw [if_pos hh, if_pos hh]; exact RepK.mapSet r h
  · rw [if_neg hh, if_neg hh]; exact RepK.append h (.cons r .nil)
theorem RepK.drop {k : Key} : ∀ {kvs : List (Key × V)} {ps : List (Key × PV)}, RepK G K F kvs ps → RepK G K F (dropK kvs k) (dropP ps k)
  | _, _, .nil => .nil
  | _, _, .cons (k := j) r rs => by
    unfold dropK dropP
    by_cases h : j = k
    · simp only [List.filter_cons, h, ne_eq, not_true, decide_false, Bool.false_eq_true, if_false]
      exact RepK.drop rs
    · simp only [List.filter_cons, h, ne_eq, not_false_eq_true, decide_true, if_true]
      exact .cons r (RepK.drop rs)

/-! ### d[k], k in d -/
def pDGet : PV → PV → Option PV
  | .dK kvs, q => (keyP q).bind (valP kvs)
  | _, _ => none
def pDIn (n : Bool) : PV → PV → Option PV
  | q, .dK kvs => (keyP q).map fun k => .bl (n ^^ hasP kvs k)
  | _, _ => none
variable {f f' : LE → Res PV}
theorem v_dget (hu : X.A.units + 1 < cLine) (ha : PE X a (tE G K .top E κ f)) (hb : PE X b (tE G K .sh E κ f')) (hs : NoSl b := by exact fun _ _ => rfl) : PE X (.Subscript a b pos) (tE G K .sh E κ (e2 pDGet f f')) :=
  pe_weak (pe_dget hu ha hb hs) fun σ H Q ⟨F, τ, l, q⟩ => by
    refine ⟨F, τ, l, ?_⟩
    unfold e2 at q
    cases hf : f τ with
    | exc c ps => rw [hf] at q; exact q
    | bad => rw [hf] at q; exact q
    | ok p =>
      rw [hf] at q
      intro v F1 H1 e1 r1
      refine ⟨F1, τ, l.ext e1, ?_⟩
      cases hf' : f' τ with
      | exc c ps => rw [Res.ok_bind, hf'] at q; exact ExcOk.ext q e1
      | bad => rw [Res.ok_bind, hf'] at q; exact q
      | ok p' =>
        rw [Res.ok_bind, hf', Res.ok_bind] at q
        intro v' F2 H2 e2 r2
        cases p with
        | dK kvs =>
          unfold pDGet at q
          cases hk : keyP p' with
          | none => simp only [hk, Option.bind_none, up_none] at q
          | some k =>
            simp only [hk, Option.bind_some] at q
            obtain ⟨d, kv, rfl, hd, rr⟩ := (Top.ext r1 e2).dK_inv e2.sub
            obtain rfl := keyP_rep r2 hk
            rcases rr.val (k := k) with ⟨h1, h2⟩ | ⟨w, p0, h1, h2, h3⟩
            · rw [h2] at q; exact q.elim
            · rw [h2] at q
              exact ⟨d, w, rfl, by rw [← h1]; exact DGet.k hd, q w F2 H2 (e1.trans e2) h3⟩
        | _ => exact q.elim
theorem w_din {n : Bool} {t : TE} {σ : St} {H : Hp} {Q : VK} (h : tE G K .sh E κ (e2 (pDIn n) f f') σ H Q) :
    tE G K .sh E κ f σ H fun y H1 => tE G K .top E κ f' σ H1 fun x H2 => ∃ a o, x = .ref a ∧ DGet H2 a y o ∧ Q (.bl (n ^^ o.isSome)) H2 := by
  obtain ⟨F, τ, l, q⟩ := h
  refine ⟨F, τ, l, ?_⟩
  unfold e2 at q
  cases hf : f τ with
  | exc c ps => rw [hf] at q; exact q
  | bad => rw [hf] at q; exact q
  | ok p =>
    rw [hf] at q
    intro v F1 H1 e1 r1
    refine ⟨F1, τ, l.ext e1, ?_⟩
    cases hf' : f' τ with
    | exc c ps => rw [Res.ok_bind, hf'] at q; exact ExcOk.ext q e1
    | bad => rw [Res.ok_bind, hf'] at q; exact q
    | ok p' =>
      rw [Res.ok_bind, hf', Res.ok_bind] at q
      intro v' F2 H2 e2 r2
      cases p' with
      | dK kvs =>
        unfold pDIn at q
        cases hk : keyP p with
        | none => simp only [hk, Option.map_none, up_none] at q
        | some k =>
          simp only [hk, Option.map_some, up_some] at q
          obtain ⟨d, kv, rfl, hd, rr⟩ := r2.dK_inv e2.sub
          obtain rfl := keyP_rep r1 hk
          refine ⟨d, _, rfl, DGet.k hd, ?_⟩
          have hh : (valV kv k).isSome = hasP kvs k := by
            rw [hasP_val]
            rcases rr.val (k := k) with ⟨h1, h2⟩ | ⟨w, p0, h1, h2, h3⟩
            · rw [h1, h2]; rfl
            · rw [h1, h2]; rfl
          rw [hh]
          exact q _ F2 H2 (e1.trans e2) (.bl _)
      | _ => unfold pDIn at q; exact q.elim
theorem v_din (hu : X.A.units + 1 < cLine) (ha : PE X a (tE G K .sh E κ f)) (hb : PE X b (tE G K .top E κ f')) (h1 : behindInMarks .In b = false := by first | rfl | with_unfolding_all rfl) : PE X (.Compare a [.In] [b] pos) (tE G K .sh E κ (e2 (pDIn false) f f')) :=
  pe_weak (pe_cmp (pc_din hu ha hb) h1) fun σ H Q h => by have q := w_din (t := tC .non) h; simp only [Bool.false_xor] at q; exact q
theorem v_dnin (hu : X.A.units + 1 < cLine) (ha : PE X a (tE G K .sh E κ f)) (hb : PE X b (tE G K .top E κ f')) (h1 : behindInMarks .NotIn b = false := by first | rfl | with_unfolding_all rfl) : PE X (.Compare a [.NotIn] [b] pos) (tE G K .sh E κ (e2 (pDIn true) f f')) :=
  pe_weak (pe_cmp (pc_dnotin hu ha hb) h1) fun σ H Q h => by have q := w_din (t := tC .non) h; simp only [Bool.true_xor] at q; exact q
theorem t_din (hu : X.A.units + 1 < cLine) (ha : PE X a (tE G K .sh E κ f)) (hb : PE X b (tE G K .top E κ f')) (h1 : behindInMarks .In b = false := by first | rfl | with_unfolding_all rfl) : PT X (.Compare a [.In] [b] pos) (tT G K E κ (tst (e2 (pDIn false) f f'))) :=
  pt_weak (pt_cmp (pc_din hu ha hb) h1) fun σ H Q q => w_tst (fun σ H Q h => by have q := w_din (t := tC .non) h; simp only [Bool.false_xor] at q; exact q) q
theorem t_dnin (hu : X.A.units + 1 < cLine) (ha : PE X a (tE G K .sh E κ f)) (hb : PE X b (tE G K .top E κ f')) (h1 : behindInMarks .NotIn b = false := by first | rfl | with_unfolding_all rfl) : PT X (.Compare a [.NotIn] [b] pos) (tT G K E κ (tst (e2 (pDIn true) f f'))) :=
  pt_weak (pt_cmp (pc_dnotin hu ha hb) h1) fun σ H Q q => w_tst (fun σ H Q h => by have q := w_din (t := tC .non) h; simp only [Bool.true_xor] at q; exact q) q
/-- {} -/
theorem v_dnew : PE X (.Dict [] [] pos) (tE G K .fr E κ (eC (.dK []))) := pe_weak pe_dnewK fun σ H Q ⟨F, τ, l, q⟩ p np =>
  q (.ref p) F _ (Ext.pushOwn _ (Ext.refl l.sub) np) ⟨p, rfl, np, Same.free l.sub np, [], upd_same, .nil⟩

/-! ### {k: v for ..} -/
def dcL (tgt : PV → LE → Res LE) (cond : LE → Res Bool) (ek ev : LE → Res PV) (τ : LE) : List (Key × PV) → List PV → Res (List (Key × PV))
  | acc, [] => .ok acc
  | acc, p :: ps => (tgt p τ).nx >>= fun τ1 => (cond τ1).nx >>= fun b =>
    if b = true then (ek τ1).nx >>= fun q => (ev τ1).nx >>= fun r => match keyP q with
      | some k => dcL tgt cond ek ev τ (setP acc k r) ps
      | none => .bad
    else dcL tgt cond ek ev τ acc ps
def eDComp (own : List Nat) (it : LE → Res (List PV)) (tgt : PV → LE → Res LE) (cond : LE → Res Bool) (ek ev : LE → Res PV) : LE → Res PV := fun τ => it τ >>= fun ps => (dcL tgt cond ek ev (wipeL τ own) [] ps).nx >>= fun rs => .ok (.dK rs)
theorem setP_len (kvs : List (Key × PV)) (k : Key) (v : PV) : (setP kvs k v).length ≤ kvs.length + 1 := by
  unfold setP
  split <;> simp
structure GrowD (G : Nat → Addr) (K : PySem.W.Frag) (F1 H1 : Hp) (D : Addr) (done : List (Key × PV)) (F H : Hp) : Prop where
  ext : Ext F1 H1 F H
  nd : F D = none
  at_ : ∃ vs, H D = some (.dK vs) ∧ RepK G K F vs done
theorem GrowD.ext2 {F1 H1 F2 H2 : Hp} {D : Addr} {done : List (Key × PV)} (g : GrowD G K F1 H1 D done F H) (e : Ext F H F2 H2) : GrowD G K F1 H1 D done F2 H2 := by
  obtain ⟨vs, h, r⟩ := g.at_
  exact ⟨g.ext.trans e, e.apart g.nd h, vs, e.h _ _ h, RepK.mono e.f r⟩
theorem w_dc {own ws : List Nat} {wi : LE → Res (List PV)} {tgt : PV → LE → Res LE} {cond : LE → Res Bool} {ek ev : LE → Res PV} {Q : VK} (hw : ∀ j ∈ ws, j ∈ own) (hl : GOk κ ws tgt)
    (h : tE G K .fr E κ (eDComp own wi tgt cond ek ev) σ H Q) : tDc (tI G K false E κ wi) (tG G K ws EN κ tgt) (tT G K EN κ cond) (tE G K .sh EN κ ek) (tE G K .sh EN κ ev) own σ H Q := by
  obtain ⟨F, τ, l, q⟩ := h
  refine ⟨F, τ, l, ?_⟩
  unfold eDComp at q
  cases hwi : wi τ with
  | exc c ps => rw [hwi] at q; exact q
  | bad => rw [hwi] at q; exact q
  | ok ps =>
    rw [hwi, Res.ok_bind] at q
    intro J F1 H1 e1 i1 D hD
    simp only [Bool.false_eq_true, if_false] at i1
    cases hc : (dcL tgt cond ek ev (wipeL τ own) [] ps).nx with
    | exc c fs => cases hx : dcL tgt cond ek ev (wipeL τ own) [] ps <;> rw [hx] at hc <;> cases hc
    | bad => rw [hc] at q; exact q.elim
    | ok rs =>
      rw [hc, Res.ok_bind] at q
      have hc := Res.nx_inv hc
      refine ⟨fun i m H => m = ps.length - i ∧ i ≤ ps.length ∧ ∃ F acc, GrowD G K F1 H1 D acc F H ∧ acc.length ≤ i ∧ dcL tgt cond ek ev (wipeL τ own) acc (ps.drop i) = .ok rs,
        ⟨ps.length, by simp, Nat.zero_le _, F1, [], ?_, Nat.le_refl _, by simpa using hc⟩, ?_⟩
      · exact ⟨⟨Same.refl _, same_new hD, same_updR e1.sub (Same.free e1.sub hD), fun a h1 h2 => absurd h1 h2⟩, Same.free e1.sub hD, [], upd_same, .nil⟩
      · rintro i m H2 ⟨rfl, hi, F2, acc, g, hal, hcr⟩
        by_cases hlt : i < ps.length
        · refine .inr ⟨i1.go i H2 g.ext.h hlt, fun H => ∃ F acc, GrowD G K F1 H1 D acc F H ∧ acc.length ≤ i + 1 ∧ dcL tgt cond ek ev (wipeL τ own) acc (ps.drop (i + 1)) = .ok rs, fun H' n => ⟨ps.length - (i + 1), by omega, rfl, hlt, n⟩, fun x H3 hy => ?_⟩
          have hp : ps[i]? = some ps[i] := List.getElem?_eq_getElem hlt
          obtain ⟨F3, e3, r3⟩ := i1.yld i x H2 H3 F2 _ g.ext.h g.ext.f g.ext.sub hy hp
          have g3 := g.ext2 e3
          have l3 : Lc G K κ F3 H3 (wipe σ own) (wipeL τ own) := ((l.ext e1).ext g3.ext).wipe own
          rw [List.drop_eq_getElem_cons hlt, dcL] at hcr
          obtain ⟨τ1, ht, hcr⟩ := Res.bind_ok hcr
          obtain ⟨bb, hb, hcr⟩ := Res.bind_ok hcr
          have ht := Res.nx_inv ht
          have hb := Res.nx_inv hb
          refine ⟨F3, wipeL τ own, ps[i], l3, r3, ?_⟩
          rw [ht]
          intro σ' l4 k4
          refine ⟨?_, ?_⟩
          · have e := wipe_same (σ := wipe σ own) hw (Lc.len2 l3 l4 (hl.len _ _ _ ht)) k4
            rw [e, wipe_wipe]
          · refine ⟨F3, τ1, l4, ?_⟩
            rw [hb]
            intro F4 H4 e4
            have g4 := g3.ext2 e4
            cases bb with
            | true =>
              rw [if_pos rfl] at hcr ⊢
              obtain ⟨q0, hq0, hcr⟩ := Res.bind_ok hcr
              obtain ⟨r0, hr0, hcr⟩ := Res.bind_ok hcr
              cases hk : keyP q0 with
              | none => rw [hk] at hcr; cases hcr
              | some k =>
                rw [hk] at hcr
                refine ⟨F4, τ1, l4.ext e4, ?_⟩
                rw [Res.nx_inv hq0]
                intro v5 F5 H5 e5 r5
                refine ⟨F5, τ1, (l4.ext e4).ext e5, ?_⟩
                rw [Res.nx_inv hr0]
                intro v6 F6 H6 e6 r6
                have g6 := (g4.ext2 e5).ext2 e6
                obtain ⟨vs, h, r⟩ := g6.at_
                have hvl : vs.length < sizeLine := by rw [r.length]; have := i1.len; omega
                refine ⟨vs, k, keyP_rep r5 hk, h, hvl, F6, setP acc k r0, ?_, ?_, hcr⟩
                · exact ⟨⟨g6.ext.f, same_updR g6.ext.h hD, same_updR g6.ext.sub g6.nd, g6.ext.new⟩, g6.nd, _, upd_same, RepK.set r r6⟩
                · have := setP_len acc k r0; omega
            | false =>
              rw [if_neg (by decide)] at hcr ⊢
              exact ⟨F4, acc, g4, by omega, hcr⟩
        · have e : i = ps.length := by omega
          subst e
          rw [List.drop_length, dcL] at hcr
          cases hcr
          exact .inl ⟨i1.stop H2 g.ext.h, q _ F2 H2 (e1.trans g.ext) ⟨D, rfl, Same.free e1.h hD, g.nd, g.at_⟩⟩
theorem v_dc {kx vx : Expr} {ifs : List Expr} {scope : Scope} {own : List (Str × Nat)} {ws : List Nat} {wi : LE → Res (List PV)} {tgt : PV → LE → Res LE} {cond : LE → Res Bool} {ek ev : LE → Res PV} (hc : X.calm = true) (hN : X.N.Nodup)
    (hi : PI X tg iter (tI G X.K false E κ wi)) (ok : BlkOk X.N X.env.scope scope own)
    (hg : ∀ (s : Shared) (H : Hp) (C : Addr) (cl : List (Str × Addr)) (fp : List Addr), PG (X.blk s H scope (compEnvC scope cl C X.env) fp) tg (tG G X.K ws EN κ tgt))
    (ht : ∀ (s : Shared) (H : Hp) (C : Addr) (cl : List (Str × Addr)) (fp : List Addr), PTs (X.blk s H scope (compEnvC scope cl C X.env) fp) ifs (tT G X.K EN κ cond))
    (hk : ∀ (s : Shared) (H : Hp) (C : Addr) (cl : List (Str × Addr)) (fp : List Addr), PE (X.blk s H scope (compEnvC scope cl C X.env) fp) kx (tE G X.K .sh EN κ ek))
    (he : ∀ (s : Shared) (H : Hp) (C : Addr) (cl : List (Str × Addr)) (fp : List Addr), PE (X.blk s H scope (compEnvC scope cl C X.env) fp) vx (tE G X.K .sh EN κ ev))
    (hw : ∀ j ∈ ws, j ∈ own.map (·.2)) (hl : GOk κ ws tgt) (hs : ∀ x, foldedSetIterable iter X.env x = pure x := by intro _; rfl) :
    PE X (.DictComp kx vx [⟨tg, iter, ifs, 0⟩] scope pos) (tE G X.K .fr E κ (eDComp (own.map (·.2)) wi tgt cond ek ev)) :=
  pe_weak (pe_dc hc hN hi ok hg ht hk he hs) fun _ _ _ h => w_dc hw hl h
end
end Lp
end
section
set_option Elab.async false
set_option linter.all false
set_option maxRecDepth 100000
namespace L2
open PySem PySem.Spec PyProof.Rows
/-- xs.remove(y) over flat values -/
def rRemV : V → List V → Hp → VK → Prop := fun x xs H Q => ∃ (l : Addr) (ys : List V) (y : V) (j : Nat) (z : V), x = V.ref l ∧ xs = [y] ∧ H l = some (.lst ys) ∧ flatV y = true ∧ ys.all flatV = true ∧ ys[j]? = some z ∧ eqV z y = true ∧
  (∀ (m : Nat) (z' : V), m < j → ys[m]? = some z' → eqV z' y = false) ∧ Q .non (upd H l (.lst (ys.eraseIdx j)))
theorem mt_removeV {X : Cx} : MtM X "list.remove" rRemV := by
  intro pins s σ H x xs v us Q I rx rxs h
  obtain ⟨a, ys, y, j, z, rfl, rfl, hs, fy, fys, hz, hzj, hno, q⟩ := h
  cases rx
  cases rxs with
  | cons ry rt =>
    rename_i uy ut
    cases rt
    obtain ⟨hz', its, n, rv, hvl, ho⟩ := I.lstM hs
    obtain ⟨u, hu, ru⟩ := rv.get hz
    obtain ⟨hjl, hje⟩ := List.getElem?_eq_some_iff.mp hu
    have hj : j < its.toArray.size := by simpa using hjl
    have hsl := sizeLine_eq
    refine call_meets PySem.F.slot_list_remove ⟨_, ho, rfl⟩ PySem.F.entry_list_remove (PySem.F.args_list_remove_2 _ _)
      (SeqAt.list_removeAt a its.toArray n none #[] uy (eqU y) j hj ?_ ?_ (by rw [List.size_toArray]; omega)) ⟨ho, fun u' hu' => mem_eqAt ry fy rv fys u' (by simpa using hu'), ?_⟩
    · have e1 : its.toArray[j] = u := by simpa using hje
      rw [e1, eqU_of ru (flat_at fys hz)]
      exact hzj
    · intro m hm hmj
      have hml : m < its.length := by simpa using hm
      have hmy : m < ys.length := by omega
      have hy' : ys[m]? = some ys[m] := List.getElem?_eq_getElem hmy
      obtain ⟨u2, hu2, ru2⟩ := rv.get hy'
      obtain ⟨_, hme⟩ := List.getElem?_eq_some_iff.mp hu2
      have e1 : its.toArray[m] = u2 := by simpa using hme
      rw [e1, eqU_of ru2 (flat_at fys hy')]
      exact hno m _ hmj hy'
    · have rr := rv.eraseIdx j
      refine ⟨.non, _, I.lset (its' := its.eraseIdx j) (t' := s.toks) hs ho ?_ rr ?_, rfl, q⟩
      · show its.toArray.eraseIdxIfInBounds j = (its.eraseIdx j).toArray
        rw [List.eraseIdxIfInBounds_toArray]
      · have z2 := len_erase ys j
        omega
end L2
namespace Lp
open PySem PySem.Spec L2

/-- how a statement ends -/
inductive Fl where
  | nx (τ : LE) | bk (τ : LE) | ct (τ : LE) | rt (p : PV) | ex (c : Nat) (fs : List (Str × PV)) (τ : LE) | bad
def rs {α : Type} (r : Res α) (τ : LE) (k : α → Fl) : Fl := match r with
  | .ok a => k a
  | .exc c fs => .ex c fs τ
  | .bad => .bad
@[simp] theorem rs_ok {α : Type} (a : α) (τ : LE) (k : α → Fl) : rs (.ok a) τ k = k a := (rfl)
@[simp] theorem rs_exc {α : Type} (c fs) (τ : LE) (k : α → Fl) : rs (.exc c fs) τ k = .ex c fs τ := (rfl)
@[simp] theorem rs_bad {α : Type} (τ : LE) (k : α → Fl) : rs .bad τ k = .bad := (rfl)

section
variable (G : Nat → Addr) (K : PySem.W.Frag)
/-- the state within a def: F0, H0 its entry -/
structure Ls (κ : Kd) (zs : Option Addr) (F0 H0 F H : Hp) (σ : St) (τ : LE) : Prop where
  lc : Lc G K κ F H σ τ
  ext : Ext F0 H0 F H
  new : ∀ i p a, κ i = true → τ[i]? = some (some p) → σ[i]? = some (some (.ref a)) → H0 a = none
  me : ∀ a, zs = some a → κ 0 = true ∧ σ[0]? = some (some (.ref a))
def tStm (E : St → XK) (κ : Kd) (rm : Mode) (m : LE → Fl) : TS := fun D σ H => ∃ F0 H0 F τ zs, Ls G K κ zs F0 H0 F H σ τ ∧ match m τ with
  | .nx τ' => ∀ σ' F' H', Ls G K κ zs F0 H0 F' H' σ' τ' → D.nx σ' H'
  | .bk τ' => ∀ σ' F' H', Ls G K κ zs F0 H0 F' H' σ' τ' → D.bk σ' H'
  | .ct τ' => ∀ σ' F' H', Ls G K κ zs F0 H0 F' H' σ' τ' → D.ct σ' H'
  | .rt p => ∀ v F' H', Ext F0 H0 F' H' → RM G K rm H0 F' H' v p → D.rt v H'
  | .ex c ps τ' => ∀ σ' F' H' d fs, Ls G K κ zs F0 H0 F' H' σ' τ' → F' d = some (.xd fs) → RepF G K F' fs ps → E σ' (.ref (G c)) (some d) H'
  | .bad => False
end
section
variable {G : Nat → Addr} {K : PySem.W.Frag} {F H F' H' F0 H0 B : Hp} {X : Cx} {v x y : V} {p : PV} {κ : Kd} {E : St → XK} {m md rm : Mode} {e a b tg iter elt : Expr} {es : List Expr} {pos : Pos} {zs : Option Addr} {σ : St} {τ : LE}
theorem Ls.of_ext (l : Ls G K κ zs F0 H0 F H σ τ) (e : Ext F H F' H') : Ls G K κ zs F0 H0 F' H' σ τ := ⟨l.lc.ext e, l.ext.trans e, l.new, l.me⟩
theorem Ls.exc {c : Nat} {ps : List (Str × PV)} (l : Ls G K κ zs F0 H0 F H σ τ) (q : ∀ σ' F' H' d fs, Ls G K κ zs F0 H0 F' H' σ' τ → F' d = some (.xd fs) → RepF G K F' fs ps → E σ' (.ref (G c)) (some d) H') : ExcOk G K (E σ) F H c ps :=
  fun d fs F' H' e h1 h2 => q σ F' H' d fs (l.of_ext e) h1 h2
/-! ### blocks -/
def sSeq (m1 m2 : LE → Fl) : LE → Fl := fun τ => match m1 τ with
  | .nx τ' => m2 τ'
  | r => r
def sNil : LE → Fl := fun τ => .nx τ
variable {st : Stmt} {sts : List Stmt} {m1 m2 : LE → Fl}
theorem ss_nil : PSs X [] (tStm G K E κ rm sNil) := pss_weak pss_nil fun D σ H ⟨F0, H0, F, τ, zs, l, q⟩ => q σ F H l
theorem ss_cons (h1 : PS X st (tStm G K E κ rm m1)) (h2 : PSs X sts (tStm G K E κ rm m2)) : PSs X (st :: sts) (tStm G K E κ rm (sSeq m1 m2)) := pss_weak (pss_cons h1 h2) fun D σ H ⟨F0, H0, F, τ, zs, l, q⟩ => by
  refine ⟨F0, H0, F, τ, zs, l, ?_⟩
  unfold sSeq at q
  cases h : m1 τ with
  | nx τ' => simp only [h] at q; exact fun σ' F' H' l' => ⟨F0, H0, F', τ', zs, l', q⟩
  | bk τ' => simp only [h] at q; exact q
  | ct τ' => simp only [h] at q; exact q
  | rt p => simp only [h] at q; exact q
  | ex c ps τ' => simp only [h] at q; exact q
  | bad => simp only [h] at q
theorem ss_one (h1 : PS X st (tStm G K E κ rm m1)) : PSs X [st] (tStm G K E κ rm m1) := pss_one h1
theorem s_pass : PS X (.Pass pos) (tStm G K E κ rm sNil) := ps_weak ps_pass fun D σ H ⟨F0, H0, F, τ, zs, l, q⟩ => q σ F H l
theorem s_break : PS X (.Break pos) (tStm G K E κ rm .bk) := ps_weak ps_break fun D σ H ⟨F0, H0, F, τ, zs, l, q⟩ => q σ F H l
theorem s_continue : PS X (.Continue pos) (tStm G K E κ rm .ct) := ps_weak ps_continue fun D σ H ⟨F0, H0, F, τ, zs, l, q⟩ => q σ F H l
/-! ### if -/
def sIf (t : LE → Res Bool) (m1 m2 : LE → Fl) : LE → Fl := fun τ => rs (t τ) τ fun b => if b = true then m1 τ else m2 τ
theorem s_if {c : Expr} {s1 s2 : List Stmt} {t : LE → Res Bool} (hc : PT X c (tT G K E κ t)) (h1 : PSs X s1 (tStm G K E κ rm m1)) (h2 : PSs X s2 (tStm G K E κ rm m2)) : PS X (.If c s1 s2 pos) (tStm G K E κ rm (sIf t m1 m2)) :=
  ps_weak (ps_if hc h1 h2) fun D σ H ⟨F0, H0, F, τ, zs, l, q⟩ => by
    refine ⟨F, τ, l.lc, ?_⟩
    unfold sIf at q
    cases h : t τ with
    | exc c ps => rw [h] at q; exact l.exc q
    | bad => rw [h] at q; exact q
    | ok b =>
      rw [h, rs_ok] at q
      intro F1 H1 e1
      cases b with
      | true => rw [if_pos rfl] at q ⊢; exact ⟨F0, H0, F1, τ, zs, l.of_ext e1, q⟩
      | false => rw [if_neg (by decide)] at q ⊢; exact ⟨F0, H0, F1, τ, zs, l.of_ext e1, q⟩
/-! ### return, an expression alone -/
def sRet (f : LE → Res PV) : LE → Fl := fun τ => rs (f τ) τ .rt
def sRetN : LE → Fl := fun _ => .rt .non
def sExpr (f : LE → Res PV) : LE → Fl := fun τ => rs (f τ) τ fun _ => .nx τ
variable {f f' : LE → Res PV}
theorem s_ret (h : PE X e (tE G K rm E κ f)) : PS X (.Return (some e) pos) (tStm G K E κ rm (sRet f)) := ps_weak (ps_ret h) fun D σ H ⟨F0, H0, F, τ, zs, l, q⟩ => by
  refine ⟨F, τ, l.lc, ?_⟩
  unfold sRet at q
  cases h : f τ with
  | exc c ps => rw [h] at q; exact l.exc q
  | bad => rw [h] at q; exact q
  | ok p => rw [h, rs_ok] at q; exact fun v F1 H1 e1 r1 => q v F1 H1 (l.ext.trans e1) (r1.before l.ext.h)
theorem s_retN : PS X (.Return none pos) (tStm G K E κ .sh sRetN) := ps_weak ps_retN fun D σ H ⟨F0, H0, F, τ, zs, l, q⟩ => q _ F H l.ext .non
/-- return of an owned slot: as a new object -/
theorem s_retO (i : Nat) {x : Str} {p' : Pos} (k : κ i = true := by rfl) (hN : X.N[i]? = some x := by rfl) (hv : Vis X.env.scope x := by first | exact Or.inl rfl | exact Or.inr (Or.inl rfl) | exact Or.inr (Or.inr rfl)) (hd : (x == ("__debug__" : Str)) = false := by decide)
    (hcd : (x == ("__classdict__" : Str)) = false := by decide) : PS X (.Return (some (.Name x p')) pos) (tStm G K E κ .fr (sRet (eVar i))) := ps_weak (ps_ret (pe_var hN hv hd hcd)) fun D σ H ⟨F0, H0, F, τ, zs, l, q⟩ => by
  unfold sRet eVar at q
  cases h : τ[i]? with
  | none => rw [h] at q; exact q.elim
  | some o =>
    cases o with
    | none => rw [h] at q; exact q.elim
    | some p =>
      rw [h] at q
      obtain ⟨a, e1, hF, r⟩ := l.lc.ow i p h k
      exact ⟨.ref a, e1, q _ F H l.ext ⟨a, rfl, l.new i p a k h e1, hF, r⟩⟩
/-- .. shared -/
theorem s_retF (i : Nat) {x : Str} {p' : Pos} (k : κ i = true := by rfl) (hN : X.N[i]? = some x := by rfl) (hv : Vis X.env.scope x := by first | exact Or.inl rfl | exact Or.inr (Or.inl rfl) | exact Or.inr (Or.inr rfl)) (hd : (x == ("__debug__" : Str)) = false := by decide)
    (hcd : (x == ("__classdict__" : Str)) = false := by decide) : PS X (.Return (some (.Name x p')) pos) (tStm G K E κ .sh (sRet (eVar i))) := ps_weak (ps_ret (pe_var hN hv hd hcd)) fun D σ H ⟨F0, H0, F, τ, zs, l, q⟩ => by
  unfold sRet eVar at q
  cases h : τ[i]? with
  | none => rw [h] at q; exact q.elim
  | some o =>
    cases o with
    | none => rw [h] at q; exact q.elim
    | some p =>
      rw [h] at q
      obtain ⟨a, e1, hF, r⟩ := l.lc.ow i p h k
      obtain ⟨F2, e2, r2⟩ := l.ext.freeze (l.new i p a k h e1) hF r
      exact ⟨.ref a, e1, q _ F2 H e2 r2⟩
theorem s_expr (h : PE X e (tE G K m E κ f)) (hs : swapsWith e none pos.line X.env = pure false := by rfl) : PS X (.Expr e pos) (tStm G K E κ rm (sExpr f)) := ps_weak (ps_expr h hs) fun D σ H ⟨F0, H0, F, τ, zs, l, q⟩ => by
  refine ⟨F, τ, l.lc, ?_⟩
  unfold sExpr at q
  cases h : f τ with
  | exc c ps => rw [h] at q; exact l.exc q
  | bad => rw [h] at q; exact q
  | ok p => rw [h, rs_ok] at q; exact fun v F1 H1 e1 _ => q σ F1 H1 (l.of_ext e1)
/-! ### name = value, target = value -/
def sSet (i : Nat) (f : LE → Res PV) : LE → Fl := fun τ => rs (f τ) τ fun p => if i < τ.length then .nx (τ.set i (some p)) else .bad
theorem Ls.set {i : Nat} (l : Ls G K κ zs F0 H0 F H σ τ) (k : κ i = false) (hi : i < τ.length) (r : Rep G K F v p) : Ls G K κ zs F0 H0 F H (σ.set i (some v)) (τ.set i (some p)) :=
  ⟨l.lc.set k hi r, l.ext, fun j q a h1 h2 h3 => by
    have hj : i ≠ j := fun e => by subst e; rw [k] at h1; cases h1
    rw [List.getElem?_set_ne hj] at h2 h3
    exact l.new j q a h1 h2 h3, fun a e => ⟨(l.me a e).1, by
    rw [List.getElem?_set_ne fun z => by rw [z] at k; rw [(l.me a e).1] at k; cases k]
    exact (l.me a e).2⟩⟩
theorem s_set (i : Nat) {x : Str} {pos' : Pos} (h : PE X e (tE G K .sh E κ f)) (hN : X.N.Nodup) (k : κ i = false := by rfl) (hi : X.N[i]? = some x := by rfl) (hx : Loc X.env.scope x := by first | exact .inl rfl | exact .inr rfl) (hs : swapsWith e (some (.Name x pos')) pos.line X.env = pure false := by rfl)
    (hf : X.fn x = true ∨ X.env.scope.names.lookup x = some .local := by first | exact .inl rfl | exact .inr rfl | assumption) : PS X (.Assign [.Name x pos'] e pos) (tStm G K E κ rm (sSet i f)) := ps_weak (ps_set hN hi hx h hs hf) fun D σ H ⟨F0, H0, F, τ, zs, l, q⟩ => by
  refine ⟨F, τ, l.lc, ?_⟩
  unfold sSet at q
  cases h : f τ with
  | exc c ps => rw [h] at q; exact l.exc q
  | bad => rw [h] at q; exact q
  | ok p =>
    rw [h, rs_ok] at q
    intro v F1 H1 e1 r1
    by_cases hl : i < τ.length
    · rw [if_pos hl] at q
      exact q _ F1 H1 ((l.of_ext e1).set k hl r1)
    · rw [if_neg hl] at q; exact q.elim
/-- a new object into an owned slot -/
theorem Ls.setO {i : Nat} (l : Ls G K κ zs F0 H0 F H σ τ) (e : Ext F H F' H') (k : κ i = true) (hi0 : i ≠ 0) (hi : i < τ.length) (r : Frs G K H F' H' v p) : Ls G K κ zs F0 H0 F' H' (σ.set i (some v)) (τ.set i (some p)) := by
  obtain ⟨a, rfl, h0, hF, o⟩ := r
  have l1 := l.of_ext e
  have old : ∀ j q b, κ j = true → τ[j]? = some (some q) → σ[j]? = some (some (.ref b)) → b ≠ a := fun j q b h1 h2 h3 z => by
    obtain ⟨b', e1, _, o'⟩ := l.lc.ow j q h2 h1
    rw [h3] at e1
    cases e1
    obtain ⟨ob, ho⟩ := o'.some
    rw [z, h0] at ho
    cases ho
  refine ⟨⟨l1.lc.sub, by rw [List.length_set, List.length_set]; exact l.lc.len, fun j q h1 h2 => ?_, fun j q h1 h2 => ?_, fun j1 j2 q1 q2 b h1 h2 h3 h4 h5 h6 => ?_⟩, l1.ext, fun j q b h1 h2 h3 => ?_, fun a e => ⟨(l.me a e).1, by rw [List.getElem?_set_ne hi0]; exact (l.me a e).2⟩⟩
  · have hj : i ≠ j := fun e => by subst e; rw [k] at h2; cases h2
    rw [List.getElem?_set_ne hj] at h1 ⊢
    exact l1.lc.sh j q h1 h2
  · by_cases hj : i = j
    · subst hj
      rw [List.getElem?_set_self hi] at h1
      cases h1
      exact ⟨a, List.getElem?_set_self (by rw [l.lc.len]; exact hi), hF, o⟩
    · rw [List.getElem?_set_ne hj] at h1 ⊢
      exact l1.lc.ow j q h1 h2
  · by_cases n1 : i = j1
    · subst n1
      by_cases n2 : i = j2
      · exact n2
      · rw [List.getElem?_set_ne n2] at h4 h6
        rw [List.getElem?_set_self (by rw [l.lc.len]; exact hi)] at h5
        cases h5
        exact absurd rfl (old j2 q2 a h2 h4 h6)
    · rw [List.getElem?_set_ne n1] at h3 h5
      by_cases n2 : i = j2
      · subst n2
        rw [List.getElem?_set_self (by rw [l.lc.len]; exact hi)] at h6
        cases h6
        exact absurd rfl (old j1 q1 a h1 h3 h5)
      · rw [List.getElem?_set_ne n2] at h4 h6
        exact l.lc.ap j1 j2 q1 q2 b h1 h2 h3 h4 h5 h6
  · by_cases hj : i = j
    · subst hj
      rw [List.getElem?_set_self (by rw [l.lc.len]; exact hi)] at h3
      cases h3
      exact Same.free l.ext.h h0
    · rw [List.getElem?_set_ne hj] at h2 h3
      exact l.new j q b h1 h2 h3
theorem s_setO (i : Nat) {x : Str} {pos' : Pos} (h : PE X e (tE G K .fr E κ f)) (hN : X.N.Nodup) (k : κ i = true := by rfl) (hi0 : i ≠ 0 := by decide) (hi : X.N[i]? = some x := by rfl) (hx : Loc X.env.scope x := by first | exact .inl rfl | exact .inr rfl) (hs : swapsWith e (some (.Name x pos')) pos.line X.env = pure false := by rfl)
    (hf : X.fn x = true ∨ X.env.scope.names.lookup x = some .local := by first | exact .inl rfl | exact .inr rfl | assumption) : PS X (.Assign [.Name x pos'] e pos) (tStm G K E κ rm (sSet i f)) := ps_weak (ps_set hN hi hx h hs hf) fun D σ H ⟨F0, H0, F, τ, zs, l, q⟩ => by
  refine ⟨F, τ, l.lc, ?_⟩
  unfold sSet at q
  cases h : f τ with
  | exc c ps => rw [h] at q; exact l.exc q
  | bad => rw [h] at q; exact q
  | ok p =>
    rw [h, rs_ok] at q
    intro v F1 H1 e1 r1
    by_cases hl : i < τ.length
    · rw [if_pos hl] at q
      exact q _ F1 H1 (l.setO e1 k hi0 hl r1)
    · rw [if_neg hl] at q; exact q.elim
def sAsg (f : LE → Res PV) (g : PV → LE → Res LE) : LE → Fl := fun τ => rs (f τ) τ fun p => rs (g p τ).nx τ .nx
theorem s_asg {ws : List Nat} {g : PV → LE → Res LE} (h : PE X e (tE G K .sh E κ f)) (hg : PG X tg (tG G K ws E κ g)) (ok : GOk κ ws g) (hs : swapsWithSole [tg] e pos.line X.env = pure false := by rfl) (hw : swappedStores [tg] e X.env = pure none := by rfl)
    (h1 : (assignEach [tg] X.env).map (·.2) = [assign tg X.env] := by rfl) : PS X (.Assign [tg] e pos) (tStm G K E κ rm (sAsg f g)) := ps_weak (ps_asg h hg hs hw h1) fun D σ H ⟨F0, H0, F, τ, zs, l, q⟩ => by
  refine ⟨F, τ, l.lc, ?_⟩
  unfold sAsg at q
  cases h : f τ with
  | exc c ps => rw [h] at q; exact l.exc q
  | bad => rw [h] at q; exact q
  | ok p =>
    rw [h, rs_ok] at q
    intro v F1 H1 e1 r1
    refine ⟨F1, τ, p, l.lc.ext e1, r1, ?_⟩
    cases hg : g p τ with
    | exc c ps => rw [hg] at q; exact q.elim
    | bad => rw [hg] at q; exact q.elim
    | ok τ' =>
      rw [hg, Res.nx_ok, rs_ok] at q
      exact fun σ' l' k' => q σ' F1 H1 ⟨l', l.ext.trans e1, fun i p a h1 h2 h3 => by
        have hi : i ∉ ws := fun z => by rw [ok.un i z] at h1; cases h1
        rw [ok.keep _ _ _ hg i hi] at h2
        rw [k' i hi] at h3
        exact l.new i p a h1 h2 h3, fun a e => ⟨(l.me a e).1, by rw [k' 0 fun z => by have := ok.un 0 z; rw [(l.me a e).1] at this; cases this]; exact (l.me a e).2⟩⟩
/-! ### x op= e of ints -/
def sAug (i : Nat) (g : Int → Int → Int) (f : LE → Res PV) : LE → Fl := fun τ => match τ[i]? with
  | some (some (.int a)) => rs (f τ) τ fun q => match q with
    | .int b => .nx (τ.set i (some (.int (g a b))))
    | _ => .bad
  | _ => .bad
theorem s_aug (i : Nat) {x : Str} {op : Operator} {g : Int → Int → Int} {pos' : Pos} (h : PE X e (tE G K .sh E κ f)) (ho : PIp X op (ipI g)) (hN : X.N.Nodup) (k : κ i = false := by rfl) (hi : X.N[i]? = some x := by rfl) (hx : Loc X.env.scope x := by first | exact .inl rfl | exact .inr rfl)
    (hf : X.fn x = true ∨ X.env.scope.names.lookup x = some .local := by first | exact .inl rfl | exact .inr rfl | assumption) : PS X (.AugAssign (.Name x pos') op e pos) (tStm G K E κ rm (sAug i g f)) := ps_weak (ps_aug hN hi hx h ho hf) fun D σ H ⟨F0, H0, F, τ, zs, l, q⟩ => by
  have hτ : (∃ a, τ[i]? = some (some (.int a))) ∨ sAug i g f τ = .bad := by
    unfold sAug
    split
    · rename_i a ha; exact .inl ⟨a, ha⟩
    · exact .inr rfl
  rcases hτ with ⟨a, ht⟩ | hb
  case inr => rw [hb] at q; exact q.elim
  obtain ⟨w, e1, r0⟩ := l.lc.sh i _ ht k
  refine ⟨w, e1, F, τ, l.lc, ?_⟩
  unfold sAug at q
  simp only [ht] at q
  cases h : f τ with
  | bad => rw [h] at q; exact q.elim
  | exc c ps => rw [h, rs_exc] at q; exact l.exc q
  | ok p =>
    rw [h, rs_ok] at q
    intro v F1 H1 e1 r1
    cases p with
    | int b => exact ⟨a, b, Rep.int_inv r0, Rep.int_inv r1, q _ F1 H1 ((l.of_ext e1).set k (List.getElem?_eq_some_iff.mp ht).1 (.int _))⟩
    | _ => exact q.elim

/-! ### loops -/
open Classical in
/-- what stands now, but the objects of the slots, is the entry of what follows -/
theorem Ls.rebase (l : Ls G K κ zs F0 H0 F H σ τ) : ∃ H1, Ext F0 H0 F H1 ∧ Ls G K κ zs F H1 F H σ τ := by
  let own : Addr → Prop := fun a => ∃ i p, κ i = true ∧ τ[i]? = some (some p) ∧ σ[i]? = some (some (.ref a))
  let H1 : Hp := fun a => if own a then none else H a
  have sub : Same H1 H := fun a o h => by
    by_cases hw : own a
    · simp only [H1, if_pos hw] at h; cases h
    · simpa only [H1, if_neg hw] using h
  have none_of : ∀ a, own a → H1 a = none := fun a hw => by simp only [H1, if_pos hw]
  have keep : ∀ a o, ¬ own a → H a = some o → H1 a = some o := fun a o hw h => by simp only [H1, if_neg hw]; exact h
  refine ⟨H1, ⟨l.ext.f, fun a o h => ?_, fun a o h => ?_, l.ext.new⟩, l.lc, ⟨Same.refl _, sub, l.lc.sub, fun a h1 h2 => absurd h1 h2⟩, fun i p a h1 h2 h3 => none_of a ⟨i, p, h1, h2, h3⟩, l.me⟩
  · refine keep a o (fun ⟨i, p, h1, h2, h3⟩ => ?_) (l.ext.h a o h)
    rw [l.new i p a h1 h2 h3] at h; cases h
  · refine keep a o (fun ⟨i, p, h1, h2, h3⟩ => ?_) (l.lc.sub a o h)
    obtain ⟨b, e1, hF, _⟩ := l.lc.ow i p h2 h1
    rw [h3] at e1
    cases e1
    rw [hF] at h; cases h
theorem Ls.back {H1 : Hp} {σ' : St} {τ' : LE} (e : Ext F0 H0 F H1) (l : Ls G K κ zs F H1 F' H' σ' τ') : Ls G K κ zs F0 H0 F' H' σ' τ' :=
  ⟨l.lc, e.trans l.ext, fun i p a h1 h2 h3 => Same.free e.h (l.new i p a h1 h2 h3), l.me⟩
def forL (g : PV → LE → Res LE) (body : LE → Fl) : List PV → LE → Fl
  | [], τ => .nx τ
  | p :: ps, τ => rs (g p τ).nx τ fun τ1 => match body τ1 with
    | .nx τ2 => forL g body ps τ2
    | .ct τ2 => forL g body ps τ2
    | .bk τ2 => .nx τ2
    | r => r
def sFor (it : LE → Res (List PV)) (g : PV → LE → Res LE) (body : LE → Fl) : LE → Fl := fun τ => rs (it τ) τ fun ps => forL g body ps τ
theorem s_for {ws : List Nat} {wi : LE → Res (List PV)} {g : PV → LE → Res LE} {body : LE → Fl} {sb : List Stmt} (hp : PassesOwn (model X.prog X.w) X.A X.env X.xe) (hc : X.calm = true) (hi : PI X tg iter (tI G K true E κ wi)) (hg : PG X tg (tG G K ws E κ g)) (ok : GOk κ ws g)
    (hb : PSs X sb (tStm G K E κ rm body)) (hs : ∀ x, foldedSetIterable iter X.env x = pure x := by intro _; rfl) : PS X (.For tg iter sb [] pos) (tStm G K E κ rm (sFor wi g body)) := ps_weak (ps_for hp hc hi hg hb hs) fun D σ H ⟨F0, H0, F, τ, zs, l, q⟩ => by
  refine ⟨F, τ, l.lc, ?_⟩
  unfold sFor at q
  cases h : wi τ with
  | bad => rw [h] at q; exact q.elim
  | exc c ps => rw [h, rs_exc] at q; exact l.exc q
  | ok ps =>
    rw [h, rs_ok] at q
    intro J F1 H1 e1 i1
    rw [if_pos rfl] at i1
    have l1 := l.of_ext e1
    refine ⟨fun i m σ H => m = ps.length - i ∧ i ≤ ps.length ∧ ∃ F τ', Ls G K κ zs F0 H0 F H σ τ' ∧ Same F1 F ∧ forL g body (ps.drop i) τ' = forL g body ps τ,
      ⟨ps.length, by simp, Nat.zero_le _, F1, τ, l1, Same.refl _, rfl⟩, ?_⟩
    rintro i m σ2 H2 ⟨rfl, hi, F2, τ2, l2, s2, hq⟩
    have sB : Same F1 H2 := s2.trans l2.ext.sub
    by_cases hlt : i < ps.length
    · refine .inr ⟨i1.go i H2 sB hlt, fun σ H => ∃ F τ', Ls G K κ zs F0 H0 F H σ τ' ∧ Same F1 F ∧ forL g body (ps.drop (i + 1)) τ' = forL g body ps τ, fun σ' H' n => ⟨ps.length - (i + 1), by omega, rfl, hlt, n⟩, fun x H3 hy => ?_⟩
      have hp : ps[i]? = some ps[i] := List.getElem?_eq_getElem hlt
      obtain ⟨F3, e3, r3⟩ := i1.yld i x H2 H3 F2 _ sB s2 l2.ext.sub hy hp
      have l3 := l2.of_ext e3
      refine ⟨F3, τ2, ps[i], l3.lc, r3, ?_⟩
      rw [List.drop_eq_getElem_cons hlt, forL] at hq
      cases hg' : g ps[i] τ2 with
      | exc c fs => rw [hg', Res.nx_exc, rs_bad] at hq; rw [← hq] at q; exact q.elim
      | bad => rw [hg', Res.nx_bad, rs_bad] at hq; rw [← hq] at q; exact q.elim
      | ok τ3 =>
        rw [hg', Res.nx_ok, rs_ok] at hq
        intro σ' l' k'
        have l4 : Ls G K κ zs F0 H0 F3 H3 σ' τ3 := ⟨l', l3.ext, fun i p a h1 h2 h3 => by
          have hi : i ∉ ws := fun z => by rw [ok.un i z] at h1; cases h1
          rw [ok.keep _ _ _ hg' i hi] at h2
          rw [k' i hi] at h3
          exact l3.new i p a h1 h2 h3, fun a e => ⟨(l3.me a e).1, by rw [k' 0 fun z => by have := ok.un 0 z; rw [(l3.me a e).1] at this; cases this]; exact (l3.me a e).2⟩⟩
        obtain ⟨H5, e5, l5⟩ := l4.rebase
        refine ⟨F3, H5, F3, τ3, zs, l5, ?_⟩
        have nxt : ∀ τ4, forL g body (ps.drop (i + 1)) τ4 = forL g body ps τ → ∀ σ' F' H', Ls G K κ zs F3 H5 F' H' σ' τ4 → ∃ F τ', Ls G K κ zs F0 H0 F H' σ' τ' ∧ Same F1 F ∧ forL g body (ps.drop (i + 1)) τ' = forL g body ps τ :=
          fun τ4 h4 σ' F' H' l' => ⟨F', τ4, l'.back e5, (s2.trans e3.f).trans l'.ext.f, h4⟩
        cases hbd : body τ3 with
        | nx τ4 => rw [hbd] at hq; exact nxt τ4 hq
        | ct τ4 => rw [hbd] at hq; exact nxt τ4 hq
        | bk τ4 =>
          simp only [hbd] at hq
          rw [← hq] at q
          exact fun σ' F' H' l' => q σ' F' H' (l'.back e5)
        | rt p =>
          simp only [hbd] at hq
          rw [← hq] at q
          exact fun v F' H' e' r' => q v F' H' (e5.trans e') (r'.before e5.h)
        | ex c fs τ4 =>
          simp only [hbd] at hq
          rw [← hq] at q
          exact fun σ' F' H' d fs l' => q σ' F' H' d fs (l'.back e5)
        | bad =>
          simp only [hbd] at hq
          rw [← hq] at q
          exact q.elim
    · have e : i = ps.length := by omega
      subst e
      rw [List.drop_length, forL] at hq
      rw [← hq] at q
      exact .inl ⟨i1.stop H2 sB, q σ2 F2 H2 l2⟩
/-! while: n turns at most -/
def whileL (t : LE → Res Bool) (body : LE → Fl) : Nat → LE → Fl
  | 0, _ => .bad
  | n + 1, τ => rs (t τ) τ fun b => if b = true then match body τ with
      | .nx τ2 => whileL t body n τ2
      | .ct τ2 => whileL t body n τ2
      | .bk τ2 => .nx τ2
      | r => r
    else .nx τ
theorem s_while {c : Expr} {sb : List Stmt} {t : LE → Res Bool} {body : LE → Fl} (n : Nat) (hp : PassesOwn (model X.prog X.w) X.A X.env X.xe) (hc : PT X c (tT G K E κ t)) (hb : PSs X sb (tStm G K E κ rm body)) : PS X (.While c sb [] pos) (tStm G K E κ rm (whileL t body n)) :=
  ps_weak (ps_while hp hc hb) fun D σ H ⟨F0, H0, F, τ, zs, l, q⟩ => by
    refine ⟨fun m σ H => ∃ F τ', Ls G K κ zs F0 H0 F H σ τ' ∧ whileL t body m τ' = whileL t body n τ, ⟨n, F, τ, l, rfl⟩, ?_⟩
    rintro m σ2 H2 ⟨F2, τ2, l2, hq⟩
    cases m with
    | zero => rw [whileL] at hq; rw [← hq] at q; exact q.elim
    | succ m =>
      rw [whileL] at hq
      refine ⟨F2, τ2, l2.lc, ?_⟩
      cases ht : t τ2 with
      | bad => rw [ht] at hq; rw [rs_bad] at hq; rw [← hq] at q; exact q.elim
      | exc c ps => rw [ht] at hq; rw [rs_exc] at hq; rw [← hq] at q; exact l2.exc q
      | ok b =>
        rw [ht] at hq; rw [rs_ok] at hq
        intro F3 H3 e3
        have l3 := l2.of_ext e3
        cases b with
        | false =>
          rw [if_neg (by decide)] at hq ⊢
          rw [← hq] at q
          exact q σ2 F3 H3 l3
        | true =>
          rw [if_pos rfl] at hq ⊢
          refine ⟨fun σ H => ∃ F τ', Ls G K κ zs F0 H0 F H σ τ' ∧ whileL t body m τ' = whileL t body n τ, fun σ' H' w => ⟨m, Nat.lt_succ_self _, w⟩, F0, H0, F3, τ2, zs, l3, ?_⟩
          cases hbd : body τ2 with
          | nx τ4 => simp only [hbd] at hq; exact fun σ' F' H' l' => ⟨F', τ4, l', hq⟩
          | ct τ4 => simp only [hbd] at hq; exact fun σ' F' H' l' => ⟨F', τ4, l', hq⟩
          | bk τ4 => simp only [hbd] at hq; rw [← hq] at q; exact q
          | rt p => simp only [hbd] at hq; rw [← hq] at q; exact q
          | ex c fs τ4 => simp only [hbd] at hq; rw [← hq] at q; exact q
          | bad => simp only [hbd] at hq; rw [← hq] at q; exact q.elim

/-! ### what changes an owned slot -/
/-- the object of slot i is written -/
theorem Ls.write {i : Nat} {a : Addr} {o : HO} {p' : PV} (l : Ls G K κ zs F0 H0 F H σ τ) (k : κ i = true) (hτ : τ[i]? = some (some p)) (hσ : σ[i]? = some (some (.ref a))) (h : OwnAt G K F (upd H a o) a p') : Ls G K κ zs F0 H0 F (upd H a o) σ (τ.set i (some p')) := by
  obtain ⟨b, e1, hF, o0⟩ := l.lc.ow i p hτ k
  rw [hσ] at e1
  cases e1
  have h0 := l.new i p a k hτ hσ
  have hi : i < τ.length := (List.getElem?_eq_some_iff.mp hτ).1
  refine ⟨⟨same_updR l.lc.sub hF, by rw [List.length_set]; exact l.lc.len, fun j q h1 h2 => ?_, fun j q h1 h2 => ?_, fun j1 j2 q1 q2 b h1 h2 h3 h4 h5 h6 => ?_⟩, ⟨l.ext.f, same_updR l.ext.h h0, same_updR l.ext.sub hF, l.ext.new⟩, fun j q b h1 h2 h3 => ?_, l.me⟩
  · have hj : i ≠ j := fun e => by subst e; rw [k] at h2; cases h2
    rw [List.getElem?_set_ne hj] at h1
    exact l.lc.sh j q h1 h2
  · by_cases hj : i = j
    · subst hj
      rw [List.getElem?_set_self hi] at h1
      cases h1
      exact ⟨a, hσ, hF, h⟩
    · rw [List.getElem?_set_ne hj] at h1
      obtain ⟨b, e1, hb, ob⟩ := l.lc.ow j q h1 h2
      have hne : b ≠ a := fun z => by
        subst z
        exact hj (l.lc.ap i j p q b k h2 hτ h1 hσ e1)
      exact ⟨b, e1, hb, ob.mono (Same.refl _) (upd_ne hne)⟩
  · have t1 : ∃ q, τ[j1]? = some (some q) := by
      by_cases n1 : i = j1
      · subst n1; exact ⟨p, hτ⟩
      · rw [List.getElem?_set_ne n1] at h3; exact ⟨_, h3⟩
    have t2 : ∃ q, τ[j2]? = some (some q) := by
      by_cases n1 : i = j2
      · subst n1; exact ⟨p, hτ⟩
      · rw [List.getElem?_set_ne n1] at h4; exact ⟨_, h4⟩
    obtain ⟨q1', t1⟩ := t1
    obtain ⟨q2', t2⟩ := t2
    exact l.lc.ap j1 j2 q1' q2' b h1 h2 t1 t2 h5 h6
  · have t1 : ∃ q, τ[j]? = some (some q) := by
      by_cases n1 : i = j
      · subst n1; exact ⟨p, hτ⟩
      · rw [List.getElem?_set_ne n1] at h2; exact ⟨_, h2⟩
    obtain ⟨q', t1⟩ := t1
    exact l.new j q' b h1 t1 h3
/-- an expression that changes slots' objects -/
def tM (E : St → XK) (κ : Kd) (f : LE → Res (PV × LE)) : TE := fun σ H Q => ∃ F0 H0 F τ zs, Ls G K κ zs F0 H0 F H σ τ ∧ match f τ with
  | .ok r => ∀ v F' H', Ls G K κ zs F0 H0 F' H' σ r.2 → Rep G K F' v r.1 → Q v H'
  | .exc c ps => ExcOk G K (E σ) F H c ps
  | .bad => False
/-- a method of a list that a slot holds -/
def MutV (r : V → List V → Hp → VK → Prop) (G : Nat → Addr) (K : PySem.W.Frag) (g : List PV → List PV → Option (List PV × PV)) : Prop :=
  ∀ (F H : Hp) (a : Addr) (vs : List V) (ps : List PV) (args : List V) (qs ps' : List PV) (z : PV) (Q : VK), Same F H → H a = some (.lst vs) → Reps G K F vs ps → Reps G K F args qs → g ps qs = some (ps', z) →
    (∀ v vs', Reps G K F vs' ps' → Rep G K F v z → Q v (upd H a (.lst vs'))) → r (.ref a) args H Q
def eMut (i : Nat) (g : List PV → List PV → Option (List PV × PV)) (f : LE → Res (List PV)) : LE → Res (PV × LE) := fun τ => match τ[i]? with
  | some (some (.lst ps)) => f τ >>= fun qs => match g ps qs with
    | some (ps', z) => .ok (z, τ.set i (some (.lst ps')))
    | none => .bad
  | _ => .bad
theorem w_mut {i : Nat} {r : V → List V → Hp → VK → Prop} {g : List PV → List PV → Option (List PV × PV)} {f : LE → Res (List PV)} (k : κ i = true) (hg : MutV r G K g) {σ : St} {H : Hp} {Q : VK}
    (h : tM (G := G) (K := K) E κ (eMut i g f) σ H Q) : tBM K "list" r (tVar i) (tA G K .sh E κ f) σ H Q := by
  obtain ⟨F0, H0, F, τ, zs, l, q⟩ := h
  have hτ : (∃ ps, τ[i]? = some (some (.lst ps))) ∨ eMut i g f τ = .bad := by
    unfold eMut
    split
    · rename_i ps hp; exact .inl ⟨ps, hp⟩
    · exact .inr rfl
  rcases hτ with ⟨ps, ht⟩ | hb
  case inr => rw [hb] at q; exact q.elim
  obtain ⟨a, e1, hF, vs, hH, rr⟩ := l.lc.ow i _ ht k
  refine ⟨.ref a, e1, .inl ⟨rfl, vs, .inl (.inl hH)⟩, F, τ, l.lc, ?_⟩
  unfold eMut at q
  simp only [ht] at q
  cases hf : f τ with
  | bad => rw [hf] at q; exact q.elim
  | exc c ps => rw [hf] at q; exact q
  | ok qs =>
    rw [hf, Res.ok_bind] at q
    intro args F1 H1 e1' r1
    have l1 := l.of_ext e1'
    cases hz : g ps qs with
    | none => rw [hz] at q; exact q.elim
    | some pz =>
      obtain ⟨ps', z⟩ := pz
      rw [hz] at q
      refine hg F1 H1 a vs ps args qs ps' z Q e1'.sub (e1'.h _ _ hH) (Reps.mono e1'.f rr) r1.shared hz fun v vs' r2 r3 => ?_
      exact q v F1 _ (l1.write k ht e1 ⟨vs', upd_same, r2⟩) r3
theorem w_mut0 {i : Nat} {r : V → List V → Hp → VK → Prop} {g : List PV → List PV → Option (List PV × PV)} (k : κ i = true) (hg : MutV r G K g) {σ : St} {H : Hp} {Q : VK}
    (h : tM (G := G) (K := K) E κ (eMut i g aNil) σ H Q) : tBM0 K "list" r (tVar i) σ H Q := by
  obtain ⟨a, e1, ty, q⟩ := w_mut k hg h
  refine ⟨a, e1, ty, ?_⟩
  obtain ⟨F, τ, l, q⟩ := q
  exact q [] F H (Ext.refl l.sub) .nil
def gApp (ps qs : List PV) : Option (List PV × PV) := match qs with
  | [q] => if ps.length < 1000000 then some (ps ++ [q], .non) else none
  | _ => none
theorem g_app : MutV rAppend G K gApp := by
  intro F H a vs ps args qs ps' z Q s hH r1 r2 hz k
  unfold gApp at hz
  split at hz
  · obtain ⟨v, rfl, rv⟩ := r2.one
    split at hz
    · rename_i hl
      cases hz
      exact ⟨a, vs, v, rfl, rfl, hH, by rw [r1.length, sizeLine_eq]; omega, k _ _ (Reps.snoc r1 rv) .non⟩
    · cases hz
  · cases hz
def gPop (ps qs : List PV) : Option (List PV × PV) := match qs with
  | [] => ps[ps.length - 1]?.map fun z => (ps.dropLast, z)
  | _ => none
theorem Reps.dropLast : ∀ {vs : List V} {ps : List PV}, Reps G K F vs ps → Reps G K F vs.dropLast ps.dropLast
  | _, _, .nil => .nil
  | _, _, .cons _ .nil => .nil
  | _, _, .cons r (.cons r' rs) => .cons r (Reps.dropLast (.cons r' rs))
theorem g_pop : MutV rPop G K gPop := by
  intro F H a vs ps args qs ps' z Q s hH r1 r2 hz k
  unfold gPop at hz
  split at hz
  · cases r2
    cases hp : ps[ps.length - 1]? with
    | none => rw [hp] at hz; cases hz
    | some y =>
      rw [hp] at hz
      cases hz
      obtain ⟨v, e, rv⟩ := r1.get hp
      exact ⟨a, vs, v, rfl, rfl, hH, by rw [r1.length]; exact e, k _ _ r1.dropLast rv⟩
  · cases hz
def gPopAt (ps qs : List PV) : Option (List PV × PV) := match qs with
  | [.int i] => if -(2 ^ 63) ≤ i ∧ i < 2 ^ 63 then (ixN ps.length i).bind fun j => ps[j]?.map fun z => (ps.eraseIdx j, z) else none
  | _ => none
theorem g_popAt : MutV rPopAt G K gPopAt := by
  intro F H a vs ps args qs ps' z Q s hH r1 r2 hz k
  unfold gPopAt at hz
  split at hz
  · rename_i i
    obtain ⟨v, rfl, rv⟩ := r2.one
    obtain rfl := rv.int_inv
    split at hz
    · rename_i hb
      cases hj : ixN ps.length i with
      | none => rw [hj] at hz; cases hz
      | some j =>
        rw [hj] at hz
        cases hp : ps[j]? with
        | none => simp only [Option.bind_some, hp] at hz; cases hz
        | some y =>
          simp only [Option.bind_some, hp, Option.map_some] at hz
          cases hz
          obtain ⟨w, e, rw'⟩ := r1.get hp
          exact ⟨a, vs, i, j, w, rfl, rfl, hH, hb.1, hb.2, by rw [r1.length]; exact (ixN_seq hj).1, e, k _ _ (r1.eraseIdx j) rw'⟩
    · cases hz
  · cases hz
/-- the first place of a value -/
def firstP (q : PV) (ps : List PV) : Option Nat := ps.findIdx? fun y => eqP y q
def gRem (ps qs : List PV) : Option (List PV × PV) := match qs with
  | [q] => if q.flat && ps.all PV.flat then (firstP q ps).map fun j => (ps.eraseIdx j, .non) else none
  | _ => none
theorem g_rem : MutV rRemV G K gRem := by
  intro F H a vs ps args qs ps' z Q s hH r1 r2 hz k
  unfold gRem at hz
  split at hz
  · rename_i q
    obtain ⟨v, rfl, rv⟩ := r2.one
    split at hz
    · rename_i hf
      rw [Bool.and_eq_true] at hf
      cases hj : firstP q ps with
      | none => rw [hj] at hz; cases hz
      | some j =>
        rw [hj] at hz
        cases hz
        unfold firstP at hj
        rw [List.findIdx?_eq_some_iff_getElem] at hj
        obtain ⟨hjl, h1, h2⟩ := hj
        obtain ⟨w, e, rw'⟩ := r1.get (List.getElem?_eq_getElem hjl)
        have fl : ∀ (m : Nat) (hm : m < ps.length), ps[m].flat = true := fun m hm => List.all_eq_true.mp hf.2 _ (List.getElem_mem hm)
        refine ⟨a, vs, v, j, w, rfl, rfl, hH, rv.flat hf.1, r1.flat hf.2, e, by rw [rw'.eqP rv (fl j hjl) hf.1]; exact h1, fun m z' hm hz' => ?_, k _ _ (r1.eraseIdx j) .non⟩
        obtain ⟨p', e', rp'⟩ := r1.getV hz'
        have hml : m < ps.length := (List.getElem?_eq_some_iff.mp e').1
        have ep : ps[m] = p' := (List.getElem?_eq_some_iff.mp e').2
        have hfl := fl m hml
        rw [ep] at hfl
        rw [rp'.eqP rv hfl hf.1, ← ep]
        have := h2 m hm
        simpa using this
    · cases hz
  · cases hz
def gRev (ps qs : List PV) : Option (List PV × PV) := match qs with
  | [] => some (ps.reverse, .non)
  | _ => none
theorem g_rev : MutV rReverse G K gRev := by
  intro F H a vs ps args qs ps' z Q s hH r1 r2 hz k
  unfold gRev at hz
  split at hz
  · cases r2
    cases hz
    exact ⟨a, vs, rfl, rfl, hH, k _ _ r1.reverse .non⟩
  · cases hz
def gExt (ps qs : List PV) : Option (List PV × PV) := match qs with
  | [.lst zs] => if ps.length + zs.length ≤ 1000000 then some (ps ++ zs, .non) else none
  | _ => none
def rExtR : V → List V → Hp → VK → Prop := fun x vs H Q => ∃ l b xs zs, x = .ref l ∧ vs = [.ref b] ∧ H l = some (.lst xs) ∧ Rd H b (.lst zs) ∧ xs.length + zs.length ≤ sizeLine ∧ Q .non (upd H l (.lst (xs ++ zs)))
theorem mt_extR : MtM X "list.extend" rExtR := by
  intro pins s σ H x vs v us Q I rx rv h
  obtain ⟨l, b, xs, zs, rfl, rfl, hH, hB, hz, q⟩ := h
  cases rx
  obtain ⟨u, rfl, ru⟩ := rv.one
  cases ru
  obtain ⟨z, its, n, r, hl, e⟩ := I.lstM hH
  obtain ⟨z2, its2, n2, r2, hl2, e2⟩ := Rd.lstM I hB
  have hsz : its.toArray.size + its2.toArray.size ≤ sizeLine := by rw [List.size_toArray, List.size_toArray]; omega
  have hlong : ¬ (!its.toArray.isEmpty && Builtin.List.listTooLong (its.toArray.size + its2.toArray.size)) = true := by
    rw [notLongL hsz, Bool.and_false]
    exact Bool.false_ne_true
  refine PySem.call_meets F.slot_list_extend ⟨_, e, rfl⟩ F.entry_list_extend (F.args_list_extend_2 _ _)
    (AutoSeq1.list_extend_list_list_0 l its.toArray n b its2.toArray n2 hlong (by rw [List.size_toArray]; omega) (by omega)) ⟨e, e2, ?_⟩
  refine ⟨.non, _, I.lset (its' := its ++ its2) hH e (by simp) (r.append r2) ?_, rfl, q⟩
  rw [List.length_append]
  omega
theorem g_ext : MutV rExtR G K gExt := by
  intro F H a vs ps args qs ps' z Q s hH r1 r2 hz k
  unfold gExt at hz
  split at hz
  · obtain ⟨v, rfl, rv⟩ := r2.one
    obtain ⟨b, ws, rfl, hB, rw'⟩ := rv.lst_inv
    split at hz
    · rename_i hl
      cases hz
      exact ⟨a, b, vs, ws, rfl, rfl, hH, Same.rd s hB, by rw [r1.length, rw'.length, sizeLine_eq]; omega, k _ _ (Reps.append r1 rw') .non⟩
    · cases hz
  · cases hz
/-- xs.m(..) as a statement; name = xs.m(..) -/
def sExprM (f : LE → Res (PV × LE)) : LE → Fl := fun τ => rs (f τ) τ fun r => .nx r.2
def sSetM (j : Nat) (f : LE → Res (PV × LE)) : LE → Fl := fun τ => rs (f τ) τ fun r => if j < r.2.length then .nx (r.2.set j (some r.1)) else .bad
theorem s_exprM {f : LE → Res (PV × LE)} (h : PE X e (tM (G := G) (K := K) E κ f)) (hs : swapsWith e none pos.line X.env = pure false := by rfl) : PS X (.Expr e pos) (tStm G K E κ rm (sExprM f)) := ps_weak (ps_expr h hs) fun D σ H ⟨F0, H0, F, τ, zs, l, q⟩ => by
  refine ⟨F0, H0, F, τ, zs, l, ?_⟩
  unfold sExprM at q
  cases h : f τ with
  | bad => rw [h] at q; exact q.elim
  | exc c ps => rw [h, rs_exc] at q; exact l.exc q
  | ok r => rw [h, rs_ok] at q; exact fun v F' H' l' _ => q σ F' H' l'
theorem s_setM (j : Nat) {x : Str} {pos' : Pos} {f : LE → Res (PV × LE)} (h : PE X e (tM (G := G) (K := K) E κ f)) (hN : X.N.Nodup) (k : κ j = false := by rfl) (hi : X.N[j]? = some x := by rfl) (hx : Loc X.env.scope x := by first | exact .inl rfl | exact .inr rfl) (hs : swapsWith e (some (.Name x pos')) pos.line X.env = pure false := by rfl)
    (hf : X.fn x = true ∨ X.env.scope.names.lookup x = some .local := by first | exact .inl rfl | exact .inr rfl | assumption) : PS X (.Assign [.Name x pos'] e pos) (tStm G K E κ rm (sSetM j f)) := ps_weak (ps_set hN hi hx h hs hf) fun D σ H ⟨F0, H0, F, τ, zs, l, q⟩ => by
  refine ⟨F0, H0, F, τ, zs, l, ?_⟩
  unfold sSetM at q
  cases h : f τ with
  | bad => rw [h] at q; exact q.elim
  | exc c ps => rw [h, rs_exc] at q; exact l.exc q
  | ok r =>
    rw [h, rs_ok] at q
    intro v F' H' l' rr
    by_cases hl : j < r.2.length
    · rw [if_pos hl] at q
      exact q _ F' H' (l'.set k hl rr)
    · rw [if_neg hl] at q; exact q.elim
variable {o : Expr} {name : Str} {apos cpos : Pos} {id : String} {r : V → List V → Hp → VK → Prop} {g : List PV → List PV → Option (List PV × PV)} {x' : Str}
theorem m_list (i : Nat) (slot : PySem.Slot "list" name id) (hty : typeOf (.builtin id) = pure (.type "method_descriptor")) (hm : MtR X id r) (hg : MutV r G X.K g) {fa : LE → Res (List PV)} (ha : PA X (e :: es) (tA G X.K .sh E κ fa)) (k : κ i = true := by rfl) (hN : X.N[i]? = some x' := by rfl)
    (hv : Vis X.env.scope x' := by first | exact Or.inl rfl | exact Or.inr (Or.inl rfl) | exact Or.inr (Or.inr rfl)) (hd : (x' == ("__debug__" : Str)) = false := by decide) (hcd : (x' == ("__classdict__" : Str)) = false := by decide)
    (hbase : attributeBase (.Name x' pos) name X.env (eval (.Name x' pos) X.env) = eval (.Name x' pos) X.env := by rfl)
    (hfew : ((backTo cpos (starEach (e :: es) X.env)).all (fun x => !x.1) && (backToKw cpos (keywordEach [] X.env)).all (fun x => x.1.isSome)
      && decide ((e :: es).length + ([] : List Keyword).length + (if ([] : List Keyword).isEmpty then 0 else 1) < 30)) = true := by rfl)
    (hline : (apos.endLine == cpos.line) = true := by rfl) (hs : starEach (e :: es) X.env = (false, eval e X.env) :: starEach es X.env := by rfl) (hplain : (backTo cpos (starEach es X.env)).any (·.1) = false := by rfl) :
    PE X (.Call (.Attribute (.Name x' pos) name apos) (e :: es) [] cpos) (tM (G := G) (K := X.K) E κ (eMut i g fa)) :=
  pe_weak (pe_bm F.plainAttrs_list slot hty hm (pe_var hN hv hd hcd) ha hbase hfew hline hs hplain) fun _ _ _ h => w_mut k hg h
theorem m_list0 (i : Nat) (slot : PySem.Slot "list" name id) (hty : typeOf (.builtin id) = pure (.type "method_descriptor")) (hm : MtR X id r) (hg : MutV r G X.K g) (k : κ i = true := by rfl) (hN : X.N[i]? = some x' := by rfl)
    (hv : Vis X.env.scope x' := by first | exact Or.inl rfl | exact Or.inr (Or.inl rfl) | exact Or.inr (Or.inr rfl)) (hd : (x' == ("__debug__" : Str)) = false := by decide) (hcd : (x' == ("__classdict__" : Str)) = false := by decide)
    (hbase : attributeBase (.Name x' pos) name X.env (eval (.Name x' pos) X.env) = eval (.Name x' pos) X.env := by rfl) (hline : (apos.endLine == cpos.line) = true := by rfl) :
    PE X (.Call (.Attribute (.Name x' pos) name apos) [] [] cpos) (tM (G := G) (K := X.K) E κ (eMut i g aNil)) :=
  pe_weak (pe_bm0 F.plainAttrs_list slot hty hm (pe_var hN hv hd hcd) hbase hline) fun _ _ _ h => w_mut0 k hg h
end
end Lp
end
section
set_option Elab.async false
set_option linter.all false
set_option maxRecDepth 100000
namespace Lx
open PySem PySem.Spec PyProof.Rows L2

section
variable {X : Cx} {pins : List (Addr × Obj)} {σ : L2.St} {H : Hp} {s : Shared} {x C cda f u : Addr} {fd : FuncData} {ar : Arg} {oc oc2 : Value} {od od2 : Option Addr} {osl osl2 : Array (Option Value)} {vs : Array Value} {file : Str} {tf : Tok} {kc : Nat}
  {body : List Stmt} {m : Str} {j : Nat} {p0 p1 p2 p3 p4 pos : Pos} {Q : Value → Shared → Prop} {E : Value → Shared → Prop}

/-- the bound ValueError.__init__ called -/
theorem call_mw {A : Around} {us : List Value} (T : OexC X.K C) (I : Inv X pins σ H s) (e : H x = some (exo x C none)) (hu : s.heap.get? u = some (PySem.W.kxs_mw "ValueError.__init__" x)) (hl : us.length ≤ sizeLine) (h : ∀ s', Inv X pins σ H s' → Q .none s') :
    wpAny (model X.prog X.w) A (call (.ref u) us) Q E s := by
  obtain ⟨nm, q, N, bs, bm, sn, sub, ab, col, dd, k0, k1, k2, k3, k5, hC, hbm⟩ := T.cls
  obtain ⟨t1, ho⟩ := exo_at I.hok e
  have hC' := I.kIn _ _ hC
  obtain ⟨hp, g, d, t, os⟩ := s
  refine wpAny_call (codeAny_of_tree ?_)
  show wpAny _ A.in1 (callAny (.ref u) ⟨us, []⟩) _ _ _
  simp only [callAny]
  refine wpAny_bind (wpAny_load hu ?_)
  simp only [PySem.W.kxs_mw, show (Value.type "method-wrapper" == Value.type "method" || Value.type "method-wrapper" == Value.type "builtin_function_or_method" || Value.type "method-wrapper" == Value.type "method-wrapper") = true by decide, if_true]
  refine PySem.W.KFB.if_so (by decide) ?_
  refine wpAny_bind (PySem.W.check_bound_init F.excBase_ValueError.toExcCallFacts hC' ho rfl ?_)
  refine wpAny_bind (wpAny_pure (wpAny_pure ?_))
  refine ⟨Code.quiet_builtin _ (by decide +kernel), codeAny_builtin F.excBase_ValueError.initEntry ?_⟩
  refine PySem.W.exc_init_tree (cls := .ref C) (t0 := t1) (dv := none) (c2 := .none) (c3 := .none) (b4 := .bool false) ho hl (fun h' k hx _ => ?_)
  have J := I.write (t' := t) (x := x) (e := x) (o := exo x C none) (by rw [e]; exact True.intro) (.inl rfl) k ⟨_, hx⟩ (exo_ok hx)
  have eu : upd H x (exo x C none) = H := by
    funext b
    by_cases hb : b = x
    · rw [hb, upd_same, e]
    · rw [upd_ne hb]
  rw [eu] at J
  exact h _ J
/-- super().__init__('..') -/
theorem sup_stmt (T : OexC X.K C) (I : Inv X pins σ H s) (e : H x = some (exo x C none))
    (hfu : X.env.func = some f) (hf : X.K.lookup f = some ⟨oc, od, .func fd, osl⟩) (hp : (fd.params.posonlyargs ++ fd.params.args).head? = some ar)
    (hco : X.env.code = .ref cda) (hcode : X.K.lookup cda = some ⟨oc2, od2, .fields vs, osl2⟩) (hvs : vs[2]? = some (.str file tf)) (hfile : ((X.prog.main.file : Str) == file) = true) (htop : (X.prog.main.scope.names.lookup ("super" : Str)).isSome = false)
    (hN0 : X.N[0]? = some ar.arg) (h0 : σ[0]? = some (some (.ref x))) (k0 : X.env.scope.names.lookup ar.arg = some .local)
    (hNc : X.N[kc]? = some ("__class__" : Str)) (hc : σ[kc]? = some (some (.ref C))) (hkc : X.env.scope.names.lookup ("__class__" : Str) = some .free)
    (hks : X.env.scope.names.lookup ("super" : Str) = some .globalImplicit) (hsg : X.mg "super" = none)
    (ho : PySem.W.nsIn X.K cStatics "thirdparty.any" = some none) (hm : PySem.W.ks_superIn X.K C C "__init__" = some (some (.builtin "ValueError.__init__"))) (hB : PySem.W.subIn X.K (.ref C) (.type "ValueError") = some true)
    (hin : interactive X.env = false) (hs : swapsWith (.Call (.Attribute (.Call (.Name "super" p0) [] [] p1) "__init__" p2) [.Constant (.str m) j p3] [] p4) none pos.line X.env = pure false)
    {pl : Sem Bool} (hev : eval (.Call (.Attribute (.Call (.Name "super" p0) [] [] p1) "__init__" p2) [.Constant (.str m) j p3] [] p4) X.env = (do
      let ov ← attributeBase (.Call (.Name "super" p0) [] [] p1) "__init__" X.env (eval (.Call (.Name "super" p0) [] [] p1) X.env)
      standAt p2.atName
      let (f, first) ← holding [ov] (getMethod ov "__init__" pl)
      callWith p4 f first (backTo p4 (starEach [.Constant (.str m) j p3] X.env)) []))
    (he : starEach [.Constant (.str m) j p3] X.env = (false, eval (.Constant (.str m) j p3) X.env) :: starEach [] X.env := by rfl) (hpl : (backTo p4 (starEach [] X.env)).any (·.1) = false := by rfl) :
    PySem.wpAt (model X.prog X.w) X.A (.func body X.env) (exec (.Expr (.Call (.Attribute (.Call (.Name "super" p0) [] [] p1) "__init__" p2) [.Constant (.str m) j p3] [] p4) pos) X.env) (fun fl s' => fl = .next ∧ Inv X pins σ H s') X.xe s := by
  obtain ⟨nm, q, N, bs, bm, sn, sub, ab, col, dd, k0', k1, k2, k3, k5, hC, hbm⟩ := T.cls
  have hcl : PySem.W.clsIn X.K C = some { name := nm, bases := bs, mro := .ref C :: bm, ns := N, qualname := q, hasDict := true, slotNames := sn, subclasses := sub, abstract := ab, collection := col, hasDel := false } := by unfold PySem.W.clsIn; rw [hC] <;> rfl
  obtain ⟨t1, hox⟩ := exo_at I.hok e
  have KI := I.kIn
  obtain ⟨mL, hns, look⟩ := id I.loc
  have vx : mL ar.arg = some (.ref x) := by
    obtain ⟨u, ru, l⟩ := look 0 ar.arg (.ref x) hN0 h0 (.inl k0)
    obtain rfl : u = Value.ref x := ru
    rcases l with ⟨_, l⟩ | ⟨l, _⟩
    · exact l
    · rcases l with l | l <;> exact absurd ((show X.env.scope.names.lookup ar.arg = _ from l).symm.trans k0) (by decide)
  obtain ⟨cc, hcc, hcv⟩ : ∃ c, X.env.cells.lookup ("__class__" : Str) = some c ∧ s.heap.IsCell c (some (.ref C)) := by
    obtain ⟨u, ru, l⟩ := look kc "__class__" (.ref C) hNc hc (.inr (.inr hkc))
    obtain rfl : u = Value.ref C := ru
    rcases l with ⟨l, _⟩ | ⟨_, l⟩
    · exact absurd ((show X.env.scope.names.lookup ("__class__" : Str) = _ from l).symm.trans hkc) (by decide)
    · exact l
  have hmro : PySem.W.mroIn X.K C (.ref C) = some true := by
    unfold PySem.W.mroIn
    rw [hcl, Option.bind_some]
    simp
  obtain ⟨hp0, g, d, t, os⟩ := s
  refine PySem.ks_wpAt_Expr_any (PySem.ks_wpAt_MethodCall ?_ hev) hin hs
  refine PySem.ks_wpAt_super_base hks hkc (by decide) hfu (KI _ _ hf) rfl hp hco (KI _ _ hcode) rfl hvs hfile htop ?_
  obtain ⟨mb, hb1, hb2⟩ := I.mod.blt
  refine PySem.W.ks_loadName_global I.ok.kind hks (Calls.loadGlobal_builtin (by rw [I.ok.glob]; exact I.mod.glob.keeps I.bk) hsg (by rw [I.ok.blt]; exact hb1.keeps I.bk) ((hb2 "super" (by decide)).trans (show bootBuiltins "super" = some (.type "super") by kernel_rfl)) ⟨rfl, ?_⟩)
  refine wpAny_loadName_free I.ok.kind hkc hcc hcv ?_
  refine wpAny_loadName_local I.ok.kind k0 hns vx ?_
  refine PySem.ks_wpAny_isType_cls (KI _ _ hC) rfl ⟨rfl, ?_⟩
  refine PySem.ks_wpAny_call_super (KI _ _ hC) rfl hox rfl (fun c z => by cases z) (PySem.W.looks_mroIn KI hmro) (fun h1 eso k1' => ?_)
  have I1 : Inv X pins σ H ⟨h1, g, d, t, os⟩ := I.kept (t' := t) k1'
  have hox1 := k1' _ _ hox
  have hI : PySem.W.Looks (model X.prog X.w) h1 (isInstance (.ref x) (.type "ValueError")) true :=
    (show PySem.W.InstAt h1 x _ C none from ⟨hox1, rfl, rfl, trivial⟩).type.andThen (PySem.W.looks_subIn I1.kIn hB)
  have hm' : PySem.W.alongIn X.K "__init__" (((Value.ref C :: bm).dropWhile (· != .ref C)).drop 1) = some (some (.builtin "ValueError.__init__")) := by
    unfold PySem.W.ks_superIn at hm
    rw [hcl] at hm
    exact hm
  have hxC : x ≠ C := fun z => by
    rw [z] at hox
    have := KI _ _ hC
    rw [hox] at this
    cases this
  refine PySem.W.kxs_getMethod PySem.W.kxs_ValueError eso (PySem.W.looks_opaque I1.kIn ho) (l₀ := .ref C :: bm) ?_ rfl I1.kIn hm' hI hxC (by decide) ?_
  · exact fun A Q E s k q => wpAny_bind ((PySem.W.looks_clsIn I1.kIn hcl) A _ E s k (wpAny_pure q))
  have k2' : ∀ b o, h1.get? b = some o → (h1.push (PySem.W.kxs_mw "ValueError.__init__" x)).get? b = some o := fun b o z => Heap.get?_push_of_some _ z
  have I2 : Inv X pins σ H ⟨h1.push (PySem.W.kxs_mw "ValueError.__init__" x), g, d, t + 1, os⟩ := I1.kept (t' := t + 1) k2'
  have hu : (h1.push (PySem.W.kxs_mw "ValueError.__init__" x)).get? h1.objs.size = some (PySem.W.kxs_mw "ValueError.__init__" x) := Heap.get?_push_at rfl rfl
  have ha : PA X [.Constant (.str m) j p3] (tCons (tC (.str m)) tNil) := pa_cons pe_str pa_nil
  rw [he]
  refine PySem.W.kxs_callWith (i := "ValueError.__init__") (u := h1.objs.size) (x := x) (by show (false || (backTo p4 (starEach [] X.env)).any (·.1)) = false; rw [hpl]; rfl) ?_
  show wpAny _ _ (evalArgs _ true ((false, eval (.Constant (.str m) j p3) X.env) :: backTo p4 (starEach [] X.env)) []) _ _ _
  refine Calls.evalArgs_plain (Calls.spliced_cons (Calls.Constant_str (Calls.spliced_nil ⟨hu, ?_⟩)))
  exact call_mw T (I2.tok _) e hu (by show 1 ≤ sizeLine; rw [sizeLine_eq]; omega) fun s' J => ⟨rfl, J⟩
end
end Lx
end
section
set_option Elab.async false
set_option linter.all false
set_option maxRecDepth 100000
namespace Lx
open PySem PySem.Spec PyProof.Rows L2

section
variable {P : Program} {w : World} {K : PySem.W.Frag} {mg : Str → Option Value} {base : Heap} {CX : CXT} {k : Nat} {f C cc cda : Addr} {name qual : Str} {params : Arguments} {body rest : List Stmt} {scope : Scope} {dV kV doc pm ct oc oc1 oc2 : Value} {an od od1 od2 : Option Addr}
  {osl osl1 osl2 : Array (Option Value)} {N ps : List Str} {sp : Sp} {ar : Arg} {vs : Array Value} {file : Str} {tf : Tok} {m : Str} {j : Nat} {p0 p1 p2 p3 p4 pos : Pos}
abbrev nf (name qual : Str) (params : Arguments) (body : List Stmt) (scope : Scope) (cc cda : Addr) : NdefX.NF := ⟨name, qual, params, body, scope, [("__class__", cc)], cda⟩
theorem fn_exc (T : OexC K C) (lk : K.lookup f = some ⟨oc, od, .func (PySem.W.fnX name qual params body scope [("__class__", cc)] dV kV doc pm an (.ref cda) ct), osl⟩) (hcd : PySem.W.codeIn K (.ref cda) qual = true)
    (lc : K.lookup cc = some ⟨oc1, od1, .cell (some (.ref C)), osl1⟩) (lcd : K.lookup cda = some ⟨oc2, od2, .fields vs, osl2⟩) (hvs : vs[2]? = some (.str file tf)) (hfile : ((P.main.file : Str) == file) = true)
    (htop : (P.main.scope.names.lookup ("super" : Str)).isSome = false) (S : NdefX.NScope N ps ["__class__"] scope) (hp : (params.posonlyargs ++ params.args).head? = some ar) (har : ps.head? = some ar.arg)
    (hks : scope.names.lookup ("super" : Str) = some .globalImplicit) (hsg : mg "super" = none) (ho : PySem.W.nsIn K cStatics "thirdparty.any" = some none) (hm : PySem.W.ks_superIn K C C "__init__" = some (some (.builtin "ValueError.__init__")))
    (hB : PySem.W.subIn K (.ref C) (.type "ValueError") = some true)
    (hb : body = .Expr (.Call (.Attribute (.Call (.Name "super" p0) [] [] p1) "__init__" p2) [.Constant (.str m) j p3] [] p4) pos :: rest)
    {pl : Env → Sem Bool} (hev : ∀ env : Env, eval (.Call (.Attribute (.Call (.Name "super" p0) [] [] p1) "__init__" p2) [.Constant (.str m) j p3] [] p4) env = (do
      let ov ← attributeBase (.Call (.Name "super" p0) [] [] p1) "__init__" env (eval (.Call (.Name "super" p0) [] [] p1) env)
      standAt p2.atName
      let (f, first) ← holding [ov] (getMethod ov "__init__" (pl env))
      callWith p4 f first (backTo p4 (starEach [.Constant (.str m) j p3] env)) []))
    (hsw : ∀ env : Env, swapsWith (.Call (.Attribute (.Call (.Name "super" p0) [] [] p1) "__init__" p2) [.Constant (.str m) j p3] [] p4) none pos.line env = pure false)
    (hsp : ∀ vs H Q E, sp vs H Q E → vs.length = ps.length ∧ ∃ a vs', vs = .ref a :: vs' ∧ H a = some (exo a C none))
    (hrest : ∀ (A : Around) (outer : List Env) (s : Shared) (H : Hp) (E : XK), ∃ t, PSs (NdefX.ncx CX P w K mg base N (nf name qual params body scope cc cda) f A outer s H E) rest t ∧
      ∀ vs Q, sp vs H Q E → t { nx := fun _ H' => Q .non H', rt := Q } (NdefX.startF N vs [some (.ref C)]) H) :
    FnOk P w K mg base CX (k + 1) f (PySem.W.fnX name qual params body scope [("__class__", cc)] dV kV doc pm an (.ref cda) ct) ps sp := by
  refine ⟨fun vs H Q E h => (hsp vs H Q E h).1, fun A outer s H args us vs0 Q E hr e0 hbd r hs => ?_⟩
  obtain ⟨hl, a, vs', rfl, ea⟩ := hsp _ _ _ _ hs
  have KX : K.In s.heap := e0.mod.kin.keeps fun b o e => (e0.bs b o e).1
  have lim : s.heap.NoLimit := e0.mod.nolimit.keeps fun b o e => (e0.bs b o e).1
  refine ks_codeAny_call_defAt hr.depth (KX _ _ lk) rfl lim (PySem.W.codeRec_of KX hcd) rfl hbd S.nocell (fun ⟨n, _⟩ hy => S.par n (List.of_mem_zip hy).1) (fun h₁ hns kp => ?_) S.co S.gen S.kind
  have hcb := e0.mod.kin _ _ lc
  have CA : NdefX.CellsAt [(("__class__" : Str), cc)] ["__class__"] [some (.ref C)] s.heap H := by
    have l1 : ∀ {y : Str} {c : Addr}, [(("__class__" : Str), cc)].lookup y = some c → y = "__class__" ∧ c = cc := fun {y c} z => by
      by_cases hy : y = ("__class__" : Str)
      · subst hy
        rw [List.lookup_cons_self] at z
        exact ⟨rfl, (Option.some.inj z).symm⟩
      · have hb : (y == ("__class__" : Str)) = false := by simpa using hy
        rw [List.lookup_cons, hb] at z
        cases z
    refine ⟨rfl, fun y c z => ?_, fun x y c z1 z2 => (l1 z1).1.trans (l1 z2).1.symm, fun i y hi => ?_⟩
    · obtain ⟨_, rfl⟩ := l1 z
      exact ⟨(e0.bs _ _ hcb).2, _, _, (e0.bs _ _ hcb).1, rfl⟩
    · cases i with
      | succ i => cases hi
      | zero =>
        cases hi
        exact ⟨cc, List.lookup_cons_self, fun v hv => by
          cases hv
          exact ⟨.ref C, rfl, _, (e0.bs _ _ hcb).1, rfl⟩⟩
  have I := NdefX.inv_startN (CX := CX) (E := E) (f := f) (F := nf name qual params body scope cc cda) (tk := s.toks + (ps.zip us).length) S hr.hd e0 hl r CA hns kp
  obtain ⟨t, ht, hq⟩ := hrest A outer s H E
  have hpl : ps.length + 1 ≤ N.length := by
    have q := congrArg List.length S.pre
    rw [List.length_take, List.length_append] at q
    simp only [List.length_cons, List.length_nil] at q
    omega
  have hps : ps = ar.arg :: ps.tail := by
    cases ps with
    | nil => cases har
    | cons p q => cases har; rfl
  have hN0 : N[0]? = some ar.arg := by
    have := congrArg (fun l => l[0]?) S.pre
    simp only [List.length_cons, List.length_nil] at this
    rw [List.getElem?_take_of_lt (by omega), hps] at this
    exact this
  have hNc : N[ps.length]? = some ("__class__" : Str) := by
    have := congrArg (fun l => l[ps.length]?) S.pre
    simp only [List.length_cons, List.length_nil] at this
    rw [List.getElem?_take_of_lt (by omega), List.getElem?_append_right (Nat.le_refl _), Nat.sub_self] at this
    exact this
  have hS0 : (NdefX.startF N (V.ref a :: vs') [some (.ref C)])[0]? = some (some (V.ref a)) := rfl
  have hSc : (NdefX.startF N (V.ref a :: vs') [some (.ref C)])[ps.length]? = some (some (V.ref C)) := by
    unfold NdefX.startF
    rw [List.getElem?_append_right (by rw [List.length_map, hl]; exact Nat.le_refl _), List.length_map, hl, Nat.sub_self]
    rfl
  rw [hb]
  refine PySem.ks_wpAt_execs_cons (PySem.ks_wpAt_mono (sup_stmt (X := NdefX.ncx CX P w K mg base N (nf name qual params body scope cc cda) f A outer s H E) T I ea rfl lk hp rfl lcd hvs hfile htop hN0 hS0 (S.par _ (by rw [hps]; exact List.mem_cons_self)) hNc hSc (S.frk _ List.mem_cons_self) hks hsg ho hm hB (by show interactive (NdefX.envF (nf name qual params body scope cc cda) f s.heap.objs.size) = false; unfold interactive; simp [S.kind]) (hsw _) (hev _)) (fun fl s' h => ?_) fun _ _ h => h)
  obtain ⟨rfl, J⟩ := h
  refine wpAt_of_wpAny (wpAny_mono (ht.run [] s' _ H _ J (hq _ _ hs)) (fun fl s2 hs => ?_) fun e s' hs => hs)
  have fin : ∀ {σ' : L2.St} {H' : Hp} {v : V} {u : Value}, Inv (NdefX.ncx CX P w K mg base N (nf name qual params body scope cc cda) f A outer s H E) [] σ' H' s2 → L2.RelV v u → Q v H' → CE outer P w H s Q u s2 :=
    fun {σ' H' v u} J rv q => ⟨v, H', J.os, J.bare, J.base, J.hok, rv, q⟩
  cases fl with
  | ret u =>
    obtain ⟨v, σ', H', J, rv, q⟩ := hs
    exact fin J rv q
  | next =>
    obtain ⟨σ', H', J, q⟩ := hs
    exact fin (v := V.non) (u := Value.none) J rfl q
  | brk =>
    obtain ⟨_, _, _, q⟩ := hs
    exact False.elim q
  | cont =>
    obtain ⟨_, _, _, q⟩ := hs
    exact False.elim q
end
end Lx
end
section
set_option Elab.async false
set_option linter.all false
set_option maxRecDepth 100000
namespace Lp
open PySem PySem.Spec L2

/-- an own exception's __init__ with one field -/
def spX1 (C : Addr) (fld : Str) : Sp := fun vs H Q _ => ∃ a y, vs = [.ref a, y] ∧ H a = some (exo a C none) ∧ ∀ d, H d = none → d ≠ a → Q .non (upd (upd H d (exd d [(fld, y)])) a (exo a C (some d)))
/-- .. with two fields -/
def spX2 (C : Addr) (f1 f2 : Str) : Sp := fun vs H Q _ => ∃ a y z, vs = [.ref a, y, z] ∧ H a = some (exo a C none) ∧ ∀ d, H d = none → d ≠ a → Q .non (upd (upd (upd H d (exd d [(f1, y)])) a (exo a C (some d))) d (exd d [(f2, z), (f1, y)]))
section
variable {P : Program} {w : World} {K : PySem.W.Frag} {mg : Str → Option Value} {base : Heap} {CX : CXT} {A : Around} {outer : List Env} {s : Shared} {H : Hp} {E : XK} {C f : Addr} {F : NdefX.NF} {fld f1 f2 v v1 v2 : Str} {q1 q2 q3 q4 r1 r2 r3 r4 : Pos}
abbrev tX1 (K : PySem.W.Frag) (fld : Str) : TS := tOst K fld (tVar 0) (tVar 1)
theorem rest1 (h0 : F.scope.names.lookup ("self" : Str) = some .local) (h1 : F.scope.names.lookup v = some .local) (hd : (v == ("__debug__" : Str)) = false) (hcd : (v == ("__classdict__" : Str)) = false) (T : OexC K C) (hf : PySem.W.findIn K (.ref C) fld = some none) :
    ∃ t, PSs (NdefX.ncx CX P w K mg base ["self", v, "__class__"] F f A outer s H E) [.Assign [.Attribute (.Name "self" q1) fld q2] (.Name v q3) q4] t ∧
      ∀ vs Q, spX1 C fld vs H Q E → t { nx := fun _ H' => Q .non H', rt := Q } (NdefX.startF ["self", v, "__class__"] vs [some (.ref C)]) H := by
  refine ⟨_, pss_one (ps_ost (pe_var (i := 0) rfl (.inl h0) (by decide) (by decide)) (pe_var (i := 1) rfl (.inl h1) hd hcd)), fun vs Q q => ?_⟩
  obtain ⟨a, y, rfl, ea, q⟩ := q
  exact ⟨y, rfl, .ref a, rfl, a, C, rfl, T, hf, .inl ⟨ea, fun dx n ne => q dx n ne⟩⟩
theorem rest2 (h0 : F.scope.names.lookup ("self" : Str) = some .local) (h1 : F.scope.names.lookup v1 = some .local) (hd1 : (v1 == ("__debug__" : Str)) = false) (hcd1 : (v1 == ("__classdict__" : Str)) = false)
    (h2 : F.scope.names.lookup v2 = some .local) (hd2 : (v2 == ("__debug__" : Str)) = false) (hcd2 : (v2 == ("__classdict__" : Str)) = false) (T : OexC K C) (hf1 : PySem.W.findIn K (.ref C) f1 = some none) (hf2 : PySem.W.findIn K (.ref C) f2 = some none) :
    ∃ t, PSs (NdefX.ncx CX P w K mg base ["self", v1, v2, "__class__"] F f A outer s H E) [.Assign [.Attribute (.Name "self" q1) f1 q2] (.Name v1 q3) q4, .Assign [.Attribute (.Name "self" r1) f2 r2] (.Name v2 r3) r4] t ∧
      ∀ vs Q, spX2 C f1 f2 vs H Q E → t { nx := fun _ H' => Q .non H', rt := Q } (NdefX.startF ["self", v1, v2, "__class__"] vs [some (.ref C)]) H := by
  refine ⟨_, pss_cons (ps_ost (pe_var (i := 0) rfl (.inl h0) (by decide) (by decide)) (pe_var (i := 1) rfl (.inl h1) hd1 hcd1)) (pss_one (ps_ost (pe_var (i := 0) rfl (.inl h0) (by decide) (by decide)) (pe_var (i := 2) rfl (.inl h2) hd2 hcd2))), fun vs Q q => ?_⟩
  obtain ⟨a, y, z, rfl, ea, q⟩ := q
  refine ⟨y, rfl, .ref a, rfl, a, C, rfl, T, hf1, .inl ⟨ea, fun dx n ne => ?_⟩⟩
  exact ⟨z, rfl, .ref a, rfl, a, C, rfl, T, hf2, .inr ⟨dx, _, upd_same, by rw [upd_ne ne, upd_same], by simp, q dx n ne⟩⟩
end

/-- x: an own exception's class at C, made as sp says -/
structure ExcC (P : Program) (w : World) (K : PySem.W.Frag) (mg : Str → Option Value) (base : Heap) (k : Nat) (x : Str) (C : Addr) (sp : Sp) : Prop where
  oex : OexC K C
  ex : ∃ fI fd ps, PySem.W.findIn K (.ref C) "__init__" = some (some (.ref fI)) ∧ PySem.W.typeIn K (.ref fI) = some (.type "function") ∧ FnOk P w K mg base (L2.CX P w) k fI fd ps sp ∧ Binds K fd ps []
  glob : mg x = some (.ref C)

section
variable {G : Nat → Addr} {X : Cx} {κ : Kd} {W : WX} {rm : Mode} {e ea eb : Expr} {x fld f1 f2 : Str} {k c : Nat} {p p1 pos : Pos} {f fa fb : LE → Res PV}
theorem delX_upd {H1 : Hp} {a d : Addr} {o1 o2 o3 : HO} (ha : H1 a = none) : upd (del (upd (upd (upd H1 a o1) d o2) a o3) a) d (.xd fs) = upd H1 d (.xd fs) := by
  funext b
  by_cases hd : b = d
  · rw [hd, upd_same, upd_same]
  · rw [upd_ne hd, upd_ne hd]
    by_cases hb : b = a
    · rw [hb, del_same, ha]
    · rw [del_ne hb, upd_ne hb, upd_ne hd, upd_ne hb]
theorem delX_upd2 {H1 : Hp} {a d : Addr} {o1 o2 o3 o4 : HO} (ha : H1 a = none) : upd (del (upd (upd (upd (upd H1 a o1) d o2) a o3) d o4) a) d (.xd fs) = upd H1 d (.xd fs) := by
  funext b
  by_cases hd : b = d
  · rw [hd, upd_same, upd_same]
  · rw [upd_ne hd, upd_ne hd]
    by_cases hb : b = a
    · rw [hb, del_same, ha]
    · rw [del_ne hb, upd_ne hd, upd_ne hb, upd_ne hd, upd_ne hb]
def sRaise (c : Nat) (fld : Str) (f : LE → Res PV) : LE → Fl := fun τ => rs (f τ) τ fun p => .ex c [(fld, p)] τ
theorem s_raise (hc : X.calm = true) (tk : Takes X W) (XC : ExcC X.prog X.w X.K X.mg X.base k x (G c) (spX1 (G c) fld)) (hr : Room (k + 1) X.A) (h : PE X e (tE G X.K .sh (WE W) κ f)) (hg : Gl X x := by rfl)
    (hdb : (x == ("__debug__" : Str)) = false := by decide) (he : starEach (e :: []) X.env = (false, eval e X.env) :: starEach [] X.env := by rfl) (hpl : (backTo p1 (starEach [] X.env)).any (·.1) = false := by rfl) :
    PS X (.Raise (some (.Call (.Name x p) [e] [] p1)) none pos) (tStm G X.K (WE W) κ rm (sRaise c fld f)) := by
  obtain ⟨oex, ⟨fI, fd, ps, iC, tI, F1, hb⟩, gl⟩ := XC
  refine ps_weak (ps_raise hc tk (pmk_oex oex iC tI F1 hr hb .nil passL hg gl (a_cons h a_nil he) hdb he hpl)) fun D σ H ⟨F0, H0, F, τ, zs, l, q⟩ => ?_
  refine ⟨F, τ, l.lc, ?_⟩
  unfold sRaise at q
  unfold aCons
  cases hf : f τ with
  | bad => rw [hf] at q; exact q.elim
  | exc c ps => rw [hf, rs_exc] at q; exact l.exc q
  | ok p =>
    rw [hf, rs_ok] at q
    intro vs F1 H1 e1 r1
    cases r1 with
    | cons r1 rn =>
      rename_i v vs
      cases rn
      refine ⟨by simp, fun a ha => ⟨a, v, rfl, upd_same, fun d hd hne => ⟨rfl, d, [(fld, v)], upd_same, by rw [upd_ne hne, upd_same], by rw [upd_ne hne] at hd; exact hd, ?_⟩⟩⟩
      rw [delX_upd ha]
      rw [upd_ne hne] at hd
      have e2 := e1.push (.xd [(fld, v)]) hd
      exact q σ _ _ d [(fld, v)] (l.of_ext e2) upd_same (.cons (Rep.mono (same_new (Same.free e1.sub hd)) r1) .nil)
def sRaise2 (c : Nat) (f1 f2 : Str) (fa fb : LE → Res PV) : LE → Fl := fun τ => rs (fa τ) τ fun p => rs (fb τ) τ fun q => .ex c [(f2, q), (f1, p)] τ
theorem s_raise2 (hc : X.calm = true) (tk : Takes X W) (XC : ExcC X.prog X.w X.K X.mg X.base k x (G c) (spX2 (G c) f1 f2)) (hr : Room (k + 1) X.A) (ha : PE X ea (tE G X.K .sh (WE W) κ fa)) (hb' : PE X eb (tE G X.K .sh (WE W) κ fb)) (hg : Gl X x := by rfl)
    (hdb : (x == ("__debug__" : Str)) = false := by decide) (he : starEach [ea, eb] X.env = (false, eval ea X.env) :: starEach [eb] X.env := by rfl) (he2 : starEach [eb] X.env = (false, eval eb X.env) :: starEach [] X.env := by rfl) (hpl : (backTo p1 (starEach [eb] X.env)).any (·.1) = false := by rfl) :
    PS X (.Raise (some (.Call (.Name x p) [ea, eb] [] p1)) none pos) (tStm G X.K (WE W) κ rm (sRaise2 c f1 f2 fa fb)) := by
  obtain ⟨oex, ⟨fI, fd, ps, iC, tI, F1, hb⟩, gl⟩ := XC
  refine ps_weak (ps_raise hc tk (pmk_oex oex iC tI F1 hr hb .nil passL hg gl (a_cons ha (a_cons hb' a_nil he2) he) hdb he hpl)) fun D σ H ⟨F0, H0, F, τ, zs, l, q⟩ => ?_
  refine ⟨F, τ, l.lc, ?_⟩
  unfold sRaise2 at q
  unfold aCons
  cases hf : fa τ with
  | bad => rw [hf] at q; exact q.elim
  | exc c ps => rw [hf, rs_exc] at q; exact l.exc q
  | ok p =>
    rw [hf, rs_ok] at q
    cases hg : fb τ with
    | bad => rw [hg] at q; exact q.elim
    | exc c ps =>
      rw [hg, rs_exc] at q
      simp only [Res.ok_bind, Res.exc_bind]
      exact l.exc q
    | ok p2 =>
      rw [hg, rs_ok] at q
      intro vs F1 H1 e1 r1
      cases r1 with
      | cons r1 rn =>
        rename_i v vs
        cases rn with
        | cons r2 rn =>
          rename_i v2 vs
          cases rn
          refine ⟨by simp, fun a ha => ⟨a, v, v2, rfl, upd_same, fun d hd hne => ⟨rfl, d, [(f2, v2), (f1, v)], by rw [upd_ne (Ne.symm hne), upd_same], upd_same, by rw [upd_ne hne] at hd; exact hd, ?_⟩⟩⟩
          rw [delX_upd2 ha]
          rw [upd_ne hne] at hd
          have e2 := e1.push (.xd [(f2, v2), (f1, v)]) hd
          have s2 := same_new (o := .xd [(f2, v2), (f1, v)]) (Same.free e1.sub hd)
          exact q σ _ _ d _ (l.of_ext e2) upd_same (.cons (Rep.mono s2 r2) (.cons (Rep.mono s2 r1) .nil))
end
end Lp
end
section
set_option Elab.async false
set_option linter.all false
set_option maxRecDepth 100000
namespace Lp
open PySem PySem.Spec L2

/-! ### defs and their calls -/
section
variable (G : Nat → Addr) (K : PySem.W.Frag)
/-- what a def promises: it answers as g -/
def spM (rm : Mode) (n : Nat) (g : List PV → Res PV) : Sp := fun vs H Q E => ∃ F ps, Same F H ∧ Reps G K F vs ps ∧ ps.length = n ∧ match g ps with
  | .ok p => ∀ v F' H', Ext F H F' H' → RM G K rm H F' H' v p → Q v H'
  | .exc c fs => ExcOk G K E F H c fs
  | .bad => False
end
def eFn (g : List PV → Res PV) (fa : LE → Res (List PV)) : LE → Res PV := fun τ => fa τ >>= g
/-- how a def's body ends, told to the caller -/
def fin (rm : Mode) (r : Fl) : Res PV := match r with
  | .rt p => .ok p
  | .nx _ => match rm with
    | .sh => .ok .non
    | _ => .bad
  | .ex c fs _ => .exc c fs
  | _ => .bad
structure Dk (P : Program) (w : World) (K : PySem.W.Frag) (mg : Str → Option Value) (base : Heap) (k : Nat) (x : Str) (sp : Sp) : Prop where
  ex : ∃ f fd ps, FnOk P w K mg base (L2.CX P w) k f fd ps sp ∧ mg x = some (.ref f) ∧ PySem.W.keepIn K (.ref f) = true ∧ Binds K fd ps []
def ar1 (m : PV → Res PV) : List PV → Res PV
  | [a] => m a
  | _ => .bad
def ar2 (m : PV → PV → Res PV) : List PV → Res PV
  | [a, b] => m a b
  | _ => .bad
def ar3 (m : PV → PV → PV → Res PV) : List PV → Res PV
  | [a, b, c] => m a b c
  | _ => .bad
def ar4 (m : PV → PV → PV → PV → Res PV) : List PV → Res PV
  | [a, b, c, d] => m a b c d
  | _ => .bad
def ar5 (m : PV → PV → PV → PV → PV → Res PV) : List PV → Res PV
  | [a, b, c, d, e] => m a b c d e
  | _ => .bad
def ar6 (m : PV → PV → PV → PV → PV → PV → Res PV) : List PV → Res PV
  | [a, b, c, d, e, f] => m a b c d e f
  | _ => .bad
theorem ar1_len {m} : ∀ ps, ar1 m ps ≠ .bad → ps.length = 1 := fun ps h => by unfold ar1 at h; split at h <;> first | rfl | exact absurd rfl h
theorem ar2_len {m} : ∀ ps, ar2 m ps ≠ .bad → ps.length = 2 := fun ps h => by unfold ar2 at h; split at h <;> first | rfl | exact absurd rfl h
theorem ar3_len {m} : ∀ ps, ar3 m ps ≠ .bad → ps.length = 3 := fun ps h => by unfold ar3 at h; split at h <;> first | rfl | exact absurd rfl h
theorem ar4_len {m} : ∀ ps, ar4 m ps ≠ .bad → ps.length = 4 := fun ps h => by unfold ar4 at h; split at h <;> first | rfl | exact absurd rfl h
theorem ar5_len {m} : ∀ ps, ar5 m ps ≠ .bad → ps.length = 5 := fun ps h => by unfold ar5 at h; split at h <;> first | rfl | exact absurd rfl h
theorem ar6_len {m} : ∀ ps, ar6 m ps ≠ .bad → ps.length = 6 := fun ps h => by unfold ar6 at h; split at h <;> first | rfl | exact absurd rfl h

section
variable {G : Nat → Addr} {K : PySem.W.Frag} {F H F' H' F0 H0 : Hp} {X : Cx} {v : V} {p : PV} {κ : Kd} {E : St → XK} {W : WX} {m md rm : Mode} {e : Expr} {es : List Expr} {pos p' : Pos} {zs : Option Addr} {σ : St} {τ : LE} {x : Str} {k n : Nat} {g : List PV → Res PV} {fa : LE → Res (List PV)}
theorem spM_len {vs : List V} {Q : VK} {E : XK} (h : spM G K rm n g vs H Q E) : vs.length = n := by
  obtain ⟨F, ps, _, r, e, _⟩ := h
  rw [r.length, e]
theorem v_call (D : Dk X.prog X.w X.K X.mg X.base k x (spM G X.K rm n g)) (hr : Room k X.A) (tk : Takes X W) (ha : PA X (e :: es) (tA G X.K .sh (WE W) κ fa)) (hL : ∀ ps, g ps ≠ .bad → ps.length = n) (hg : Gl X x := by rfl)
    (hdb : (x == ("__debug__" : Str)) = false := by decide) (he : starEach (e :: es) X.env = (false, eval e X.env) :: starEach es X.env := by rfl) (hpl : (backTo pos (starEach es X.env)).any (·.1) = false := by rfl) :
    PE X (.Call (.Name x p') (e :: es) [] pos) (tE G X.K rm (WE W) κ (eFn g fa)) := by
  obtain ⟨f, fd, ps, Fk, hm, hk, hb⟩ := D.ex
  refine pe_weak (pe_callS Fk hr hg hm hk hb (fun σ => passAt tk σ) ha hdb he hpl) fun σ H Q ⟨F, τ, l, q⟩ => ?_
  refine ⟨F, τ, l, ?_⟩
  unfold eFn at q
  cases hf : fa τ with
  | bad => rw [hf] at q; exact q
  | exc c ps => rw [hf] at q; exact q
  | ok qs =>
    rw [hf, Res.ok_bind] at q
    intro vs F1 H1 e1 r1
    refine ⟨F1, qs, e1.sub, r1.shared, hL qs fun z => by rw [z] at q; exact q, ?_⟩
    cases hg : g qs with
    | bad => rw [hg] at q; exact q
    | exc c ps => rw [hg] at q; exact ExcOk.ext q e1
    | ok p => rw [hg] at q; exact fun v F2 H2 e2 r2 => q v F2 H2 (e1.trans e2) (r2.before e1.h)

theorem start_shared {N : List Str} {vs : List V} {qs : List PV} (s : Same F H) (r : Reps G K F vs qs) (hκ : ∀ i, i < qs.length → κ i = false) (hl : qs.length ≤ N.length) : Lc G K κ F H (start N vs) (qs.map some ++ List.replicate (N.length - qs.length) none) := by
  have hlen := r.length
  have key : ∀ i p, (qs.map some ++ List.replicate (N.length - qs.length) none)[i]? = some (some p) → qs[i]? = some p := fun i p h => by
    by_cases hi : i < qs.length
    · rw [List.getElem?_append_left (by rw [List.length_map]; exact hi), List.getElem?_map] at h
      cases e : qs[i]? with
      | none => rw [e] at h; cases h
      | some a => rw [e] at h; cases h; rfl
    · rw [List.getElem?_append_right (by rw [List.length_map]; omega), List.getElem?_replicate] at h
      split at h <;> cases h
  refine ⟨s, ?_, fun i p h1 h2 => ?_, fun i p h1 h2 => ?_, fun i j p q a h1 h2 h3 h4 _ _ => ?_⟩
  · unfold L2.start
    rw [List.length_append, List.length_append, List.length_map, List.length_map, List.length_replicate, List.length_replicate, hlen]
  · obtain ⟨v, e, rv⟩ := r.get (key i p h1)
    refine ⟨v, ?_, rv⟩
    unfold L2.start
    have hi : i < vs.length := (List.getElem?_eq_some_iff.mp e).1
    rw [List.getElem?_append_left (by rw [List.length_map]; exact hi), List.getElem?_map, e]
    rfl
  · have hi := (List.getElem?_eq_some_iff.mp (key i p h1)).1
    rw [hκ i hi] at h2; cases h2
  · have hi := (List.getElem?_eq_some_iff.mp (key i p h3)).1
    rw [hκ i hi] at h1; cases h1
/-- a def by its body -/
theorem d_of {P : Program} {w : World} {mg : Str → Option Value} {base : Heap} {qual : Str} {st : Stmt} {f : Addr} {fd : FuncData} {N ps : List Str} {k : Nat} {m : LE → Fl} (Fn : Fun K x qual st f fd) (S : FnScope N ps (defScope st)) (hκ : ∀ i, i < ps.length → κ i = false)
    (hg : ∀ qs, qs.length = ps.length → g qs = fin rm (m (qs.map some ++ List.replicate (N.length - qs.length) none)))
    (hbody : ∀ (cdv : Value) (A : Around) (outer : List Env) (s : Shared) (H : Hp) (E : XK), Room k (A.deeper (PyProof.Rows.envOfC qual (defScope st) s.heap.objs.size f cdv)) →
      PSs (cxOf (L2.CX P w) P w K mg base N qual (defScope st) f cdv A outer s H E) (defBody st) (tStm G K (WE fun cls d _ H => E cls d H) κ rm m)) :
    FnOk P w K mg base (L2.CX P w) (k + 1) f fd ps (spM G K rm ps.length g) := by
  have hpl : ps.length ≤ N.length := by have := congrArg List.length S.pre; rw [List.length_take] at this; omega
  refine Fn.okX S (fun vs H Q E h => spM_len h) fun cdv A outer s H vs Q E hr hsp => ?_
  obtain ⟨F, qs, sm, r, hl, q⟩ := hsp
  refine ⟨_, hbody cdv A outer s H E hr, F, H, F, _, none, ⟨start_shared sm r (by rw [hl]; exact hκ) (by omega), Ext.refl sm, fun i p a h1 h2 h3 => ?_, fun a z => nomatch z⟩, ?_⟩
  · exfalso
    by_cases hi : i < qs.length
    · rw [hκ i (by omega)] at h1; cases h1
    · rw [List.getElem?_append_right (by rw [List.length_map]; omega), List.getElem?_replicate] at h2
      split at h2 <;> cases h2
  · rw [hg qs hl] at q
    cases hm : m (qs.map some ++ List.replicate (N.length - qs.length) none) with
    | bk τ => rw [hm] at q; exact q.elim
    | ct τ => rw [hm] at q; exact q.elim
    | bad => rw [hm] at q; exact q.elim
    | rt p => rw [hm] at q; exact q
    | ex c fs τ => rw [hm] at q; exact fun σ' F' H' d fs l h1 h2 => q d fs F' H' l.ext h1 h2
    | nx τ =>
      rw [hm] at q
      cases rm with
      | sh => exact fun σ' F' H' l => q .non F' H' l.ext .non
      | fr => exact q.elim
      | top => exact q.elim
end
end Lp
end
section
set_option Elab.async false
set_option linter.all false
set_option maxRecDepth 100000
namespace Lp
open PySem PySem.Spec L2

/-! ### try .. except -/
def noEx : Fl → Fl
  | .ex _ _ _ => .bad
  | r => r
/-- the name of the clause goes -/
def tidy (i : Nat) : Fl → Fl
  | .nx τ => .nx (τ.set i none)
  | .bk τ => .bk (τ.set i none)
  | .ct τ => .ct (τ.set i none)
  | .ex _ _ _ => .bad
  | r => r
def sTryO (cov : Nat → Option Bool) (mb ms : LE → Fl) : LE → Fl := fun τ => match mb τ with
  | .ex c fs τ1 => match cov c with
    | some true => noEx (ms τ1)
    | some false => .ex c fs τ1
    | none => .bad
  | r => r
section
variable {G : Nat → Addr} {F H F' H' F0 H0 : Hp} {X : Cx} {κ : Kd} {E : St → XK} {W : WX} {rm : Mode} {zs : Option Addr} {σ : St} {τ : LE} {x n f : Str} {body suite : List Stmt} {b₀ : Stmt} {np pos pos' : Pos} {cv : Value} {mb ms : LE → Fl} {cov : Nat → Option Bool} {i : Nat}
theorem s_tryO (cov : Nat → Option Bool) (hcov : ∀ c b, cov c = some b → PySem.W.exmOne X.K (.ref (G c)) cv = some b) (hc : Names X x cv) (tk : Takes X W)
    (hb : ∀ (W : WX) (pn : List (Addr × Obj)) (xe : Value → Shared → Prop), Takes (X.tr pn xe) W → PassesOwn (model X.prog X.w) X.A X.env xe → PSs (X.tr pn xe) body (tStm G X.K (WE W) κ rm mb))
    (hsu : ∀ (a : Addr) (oe : Obj) (pn : List (Addr × Obj)), PSs (X.suite a ((a, oe) :: pn)) (b₀ :: suite) (tStm G X.K (fun _ _ _ _ => False) κ rm ms))
    (hs : X.stack = X.env :: X.outer := by rfl) (hf : X.env.frame = some X.env.locals := by rfl) :
    PS X (.Try body [.ExceptHandler (some (.Name x np)) none (b₀ :: suite) pos'] [] [] pos) (tStm G X.K (WE W) κ rm (sTryO cov mb ms)) := by
  refine ps_weak (ps_try_only (tb := fun W => tStm G X.K (WE W) κ rm mb) (ts := fun _ _ _ => tStm G X.K (fun _ _ _ _ => False) κ rm ms) hs hf hc tk hb fun a oe cls d pn _ _ => hsu a oe pn) fun D σ H ⟨F0, H0, F, τ, zs, l, q⟩ => ?_
  refine ⟨F0, H0, F, τ, zs, l, ?_⟩
  unfold sTryO at q
  cases h : mb τ with
  | nx τ' => simp only [h] at q; exact q
  | bk τ' => simp only [h] at q; exact q
  | ct τ' => simp only [h] at q; exact q
  | rt p => simp only [h] at q; exact q
  | bad => simp only [h] at q
  | ex c fs τ1 =>
    simp only [h] at q
    intro σ' F' H' d fs' l' h1 h2
    cases hcv : cov c with
    | none => simp only [hcv] at q
    | some b =>
      refine ⟨b, hcov c b hcv, fun hbt => ?_, fun hbf => ?_⟩
      · subst hbt
        simp only [hcv] at q
        refine fun a _ => ⟨F0, H0, F', τ1, zs, l', ?_⟩
        cases hm : ms τ1 with
        | ex c fs τ2 => rw [hm] at q; exact q.elim
        | _ => rw [hm] at q; exact q
      · subst hbf
        simp only [hcv] at q
        exact q σ' F' H' d fs' l' h1 h2

/-- except x as n: slot i -/
def sTryA (cov : Nat → Option Bool) (i : Nat) (mb : LE → Fl) (ms : Addr → Addr → Nat → LE → Fl) : LE → Fl := fun τ => match mb τ with
  | .ex c fs τ1 => match cov c with
    | some true => if i < τ1.length then tidy i (ms 0 0 c (τ1.set i (some (.exn 0 0 c fs)))) else .bad
    | some false => .ex c fs τ1
    | none => .bad
  | r => r
theorem Ls.clear (l : Ls G X.K κ zs F0 H0 F H σ τ) (k : κ i = false) : Ls G X.K κ zs F0 H0 F H (σ.set i none) (τ.set i none) := by
  have nn : ∀ j (q : PV), (τ.set i none)[j]? = some (some q) → j ≠ i ∧ τ[j]? = some (some q) := fun j q h => by
    by_cases hj : i = j
    · subst hj
      rw [List.getElem?_set] at h
      simp only [if_true] at h
      split at h <;> cases h
    · rw [List.getElem?_set_ne hj] at h
      exact ⟨Ne.symm hj, h⟩
  refine ⟨⟨l.lc.sub, by rw [List.length_set, List.length_set]; exact l.lc.len, fun j q h1 h2 => ?_, fun j q h1 h2 => ?_, fun j1 j2 q1 q2 b h1 h2 h3 h4 h5 h6 => ?_⟩, l.ext, fun j q a h1 h2 h3 => ?_, fun a e => ⟨(l.me a e).1, by rw [List.getElem?_set_ne fun z => by rw [z] at k; rw [(l.me a e).1] at k; cases k]; exact (l.me a e).2⟩⟩
  · obtain ⟨hj, h⟩ := nn j q h1
    rw [List.getElem?_set_ne (Ne.symm hj)]
    exact l.lc.sh j q h h2
  · obtain ⟨hj, h⟩ := nn j q h1
    rw [List.getElem?_set_ne (Ne.symm hj)]
    exact l.lc.ow j q h h2
  · obtain ⟨hj1, h3⟩ := nn j1 q1 h3
    obtain ⟨hj2, h4⟩ := nn j2 q2 h4
    rw [List.getElem?_set_ne (Ne.symm hj1)] at h5
    rw [List.getElem?_set_ne (Ne.symm hj2)] at h6
    exact l.lc.ap j1 j2 q1 q2 b h1 h2 h3 h4 h5 h6
  · obtain ⟨hj, h⟩ := nn j q h2
    rw [List.getElem?_set_ne (Ne.symm hj)] at h3
    exact l.new j q a h1 h h3
theorem s_tryA (cov : Nat → Option Bool) (i : Nat) {ms : Addr → Addr → Nat → LE → Fl} (hcov : ∀ c b, cov c = some b → PySem.W.exmOne X.K (.ref (G c)) cv = some b) (hind : ∀ a d c fs (τ : LE), tidy i (ms a d c (τ.set i (some (.exn a d c fs)))) = tidy i (ms 0 0 c (τ.set i (some (.exn 0 0 c fs)))))
    (hc : Names X x cv) (tk : Takes X W)
    (hb : ∀ (W : WX) (pn : List (Addr × Obj)) (xe : Value → Shared → Prop), Takes (X.tr pn xe) W → PassesOwn (model X.prog X.w) X.A X.env xe → PSs (X.tr pn xe) body (tStm G X.K (WE W) κ rm mb))
    (hsu : ∀ (a d : Addr) (oe : Obj) (pn : List (Addr × Obj)) (c : Nat), cov c = some true → Zc (.ref (G c)) (some d) oe → (∃ vs, oe.data = .fields vs) → PSs (X.suite a ((a, oe) :: pn)) (b₀ :: suite) (tStm G X.K (fun _ _ _ _ => False) κ rm (ms a d c)))
    (hN : X.N.Nodup) (k : κ i = false := by rfl) (hi : X.N[i]? = some n := by rfl) (hln : X.env.kindOf n = some .local := by rfl)
    (hs : X.stack = X.env :: X.outer := by rfl) (hf : X.env.frame = some X.env.locals := by rfl) :
    PS X (.Try body [.ExceptHandler (some (.Name x np)) (some n) (b₀ :: suite) pos'] [] [] pos) (tStm G X.K (WE W) κ rm (sTryA cov i mb ms)) := by
  refine ps_weak (ps_try_as (tb := fun W => tStm G X.K (WE W) κ rm mb) (ts := fun a cls d D σ H => ∃ c dd, cls = .ref (G c) ∧ d = some dd ∧ cov c = some true ∧ tStm G X.K (fun _ _ _ _ => False) κ rm (ms a dd c) D σ H) hs hf hN hi hln hc tk hb
    fun a oe cls d pn hz hfl => ⟨fun pins s σ H D I ⟨c, dd, e1, e2, e3, h⟩ => ?_⟩) fun D σ H ⟨F0, H0, F, τ, zs, l, q⟩ => ?_
  · subst e1 e2
    exact (hsu a dd oe pn c e3 hz hfl).run pins s σ H D I h
  refine ⟨F0, H0, F, τ, zs, l, ?_⟩
  unfold sTryA at q
  cases h : mb τ with
  | nx τ' => simp only [h] at q; exact q
  | bk τ' => simp only [h] at q; exact q
  | ct τ' => simp only [h] at q; exact q
  | rt p => simp only [h] at q; exact q
  | bad => simp only [h] at q
  | ex c fs τ1 =>
    simp only [h] at q
    intro σ' F' H' d fs' l' h1 h2
    cases hcv : cov c with
    | none => simp only [hcv] at q
    | some b =>
      refine ⟨b, hcov c b hcv, fun hbt => ?_, fun hbf => ?_⟩
      · subst hbt
        simp only [hcv] at q
        by_cases hlt : i < τ1.length
        · rw [if_pos hlt] at q
          refine fun a ha => ⟨c, d, rfl, rfl, hcv, F0, H0, F', τ1.set i (some (.exn a d c fs)), zs, l'.set k hlt (.exn h1 h2), ?_⟩
          rw [← hind a d c fs τ1] at q
          cases hm : ms a d c (τ1.set i (some (.exn a d c fs))) with
          | ex c fs τ2 => rw [hm] at q; exact q.elim
          | bad => rw [hm] at q; exact q.elim
          | rt p => rw [hm] at q; exact q
          | nx τ2 => rw [hm] at q; exact fun σ2 F2 H2 l2 => q _ F2 H2 (l2.clear k)
          | bk τ2 => rw [hm] at q; exact fun σ2 F2 H2 l2 => q _ F2 H2 (l2.clear k)
          | ct τ2 => rw [hm] at q; exact fun σ2 F2 H2 l2 => q _ F2 H2 (l2.clear k)
        · rw [if_neg hlt] at q; exact q.elim
      · subst hbf
        simp only [hcv] at q
        exact q σ' F' H' d fs' l' h1 h2
end
end Lp
end
section
set_option Elab.async false
set_option linter.all false
set_option maxRecDepth 100000
namespace PySem.W
open PySem PySem.Spec PySem.Calls PyProof.Rows
section
variable {prog : Program} {w : World} {A : Around} {E : Value → Shared → Prop} {s : Shared} {K : Frag} {x D : Addr} {ox : Obj} {od : Option Obj}
theorem lp_findObj_data {C : Addr} {name : Str} {a g : Value} (hc : (clsIn K C).isSome = true) (ha : findIn K (.ref C) name = some (some a)) (hg : specialIn K a "__get__" = some (some g)) (ht : takesIn K a = some true) : findObj K C od name = some (.bind g a) := by
  obtain ⟨cd, hc⟩ := Option.isSome_iff_exists.mp hc
  unfold findObj
  rw [hc, Option.bind_some, ha, Option.bind_some]
  simp [hg, ht]
theorem lp_kin_classE {Q : Option Value → Shared → Prop} (hga : findIn K (.ref D) "__getattribute__" = some (some (.builtin "BaseException.__getattribute__"))) (hgt : findIn K (.ref D) "__getattr__" = some none) (hsub : subIn K (.ref D) (.type "BaseException") = some true)
    (hdct : hasDictIn K D = true) (ha : findIn K (.ref D) "__class__" = some (some (.builtin "object.__class__")))
    (hn : specialIn K (.builtin "object.__class__") "__get__" = some (some (.builtin "getset_descriptor.__get__"))) (htk : takesIn K (.builtin "object.__class__") = some true) (hm : mroIn K D (.type "object") = some true)
    (X : K.In s.heap) (I : InstAt s.heap x ox D od) (h : Q (some (.ref D)) { s with toks := s.toks + 1 }) : wpAny (model prog w) A (getAttr? (.ref x) "__class__") Q E s := by
  have hf : findObj K D od "__class__" = some (.bind (.builtin "getset_descriptor.__get__") (.builtin "object.__class__")) := lp_findObj_data (by obtain ⟨cd, hc, _⟩ := any_some hdct; rw [hc]; rfl) ha hn htk
  obtain ⟨hp, g, d, t, os⟩ := s
  have L0 := I.type (M := model prog w)
  have L1 := looks_findIn (M := model prog w) X hga
  have L2 := looks_findIn (M := model prog w) X hgt
  have L3 := looks_find (M := model prog w) X I hf
  have sub : Looks (model prog w) hp (isInstance (.ref x) (.type "BaseException")) true := L0.andThen (looks_subIn X hsub)
  have hx0 : (false && onTheHeap (Value.builtin "BaseException.__getattribute__")) = false := rfl
  have hx2 : (Value.builtin "BaseException.__getattribute__" == Value.builtin "object.__getattribute__") = false := by decide +kernel
  have hx1 : (onTheHeap (Value.ref D) && Value.builtin "BaseException.__getattribute__" == Value.builtin "object.__getattribute__") = false := by rw [hx2]; rfl
  unfold getAttr? getAttrBy? getAttrBy
  refine wpAny_bind (wpAny_mkText (wpAny_bind (wpAny_attempt (wpAny_holding (wpAny_bind (L0.at (wpAny_bind (L1.at ?_))))))))
  show wpAny _ _ (if (onTheHeap (Value.ref D) && Value.builtin "BaseException.__getattribute__" == Value.builtin "object.__getattribute__") = true then _ else _) _ _ _
  rw [hx1, if_neg Bool.false_ne_true]
  unfold getAttrByItsOwn hookBefore
  refine wpAny_bind ?_
  rw [if_pos (show onTheHeap (Value.ref D) = true from rfl)]
  refine L2.at ?_
  refine wpAny_bind (wpAny_attempt (wpAny_holding ?_))
  unfold callGetattribute
  rw [hx0, if_neg Bool.false_ne_true]
  unfold boundAndCalled
  rw [PySem.F.excAttr_ValueError.ga.bind (.ref x)]
  refine wpAny_bind (wpAny_pure ?_)
  show wpAny _ _ (call (.builtin "BaseException.__getattribute__") [.ref x, .str "__class__" t]) _ _ _
  refine wpAny_call (codeAny_call_builtin PySem.F.excAttr_ValueError.ga.plain PySem.F.entry_bexc_ga ?_)
  refine @check_slot (model prog w) _ _ ⟨hp, g, d, t + 1, os⟩ "BaseException.__getattribute__" "BaseException" "__getattribute__" (.ref x) [.str "__class__" t] [] _ (by decide +kernel) (by decide +kernel) sub (PySem.F.args_bexc_ga (.ref x) (.str "__class__" t)) ?_
  unfold Builtin.«object.__getattribute__»
  refine wpAny_bind (wpAny_of_eq (a := ((Value.ref x : Value), [Value.str "__class__" t])) (by first | rfl | (simp only [slotArgs]; rfl)) ?_)
  refine wpAny_bind (wpAny_pure (wpAny_bind (L0.at (wpAny_bind (L3.at ?_)))))
  show wpAny _ _ (holding [Value.builtin "object.__class__"] (call (.builtin "getset_descriptor.__get__") [.builtin "object.__class__", .ref x, .ref D]) >>= ret) _ _ _
  refine wpAny_bind (wpAny_holding (wpAny_call (class_get (s := ⟨hp, g, d, t + 1, os⟩) (ox := ox) (od := od) X I hm ?_)))
  refine wpAny_pure ?_
  show wpAny _ _ (handedOut (.ref D)) _ _ _
  rw [handedOut_of (v := .ref D) rfl]
  first
    | exact wpAny_pure (wpAny_pure h)
    | exact wpAny_pure h
    | exact wpAny_pure (wpAny_bind (wpAny_pure (wpAny_pure h)))
theorem lp_kitx_exc (hga : findIn K (.ref D) "__getattribute__" = some (some (.builtin "BaseException.__getattribute__"))) (hgt : findIn K (.ref D) "__getattr__" = some none) (hsub : subIn K (.ref D) (.type "BaseException") = some true) (hdct : hasDictIn K D = true) (ha : findIn K (.ref D) "__class__" = some (some (.builtin "object.__class__")))
    (hn : specialIn K (.builtin "object.__class__") "__get__" = some (some (.builtin "getset_descriptor.__get__"))) (htk : takesIn K (.builtin "object.__class__") = some true) (hm : mroIn K D (.type "object") = some true) :
    KitX K (.ref x) (.ref D) (fun h => InstAt h x ox D od) where
  ty := fun _ _ _ I => I.type
  it := fun _ _ X _ => by
    obtain ⟨cdD, hcD, _⟩ := any_some hdct
    unfold clsIn at hcD
    split at hcD
    · rename_i c' d' cd' sl' ho
      intro A' Q' E' s' k q
      unfold isType loadHead
      exact wpAny_bind (wpAny_loadPart (k _ _ (X _ _ ho)) (wpAny_pure q))
    · cases hcD
  ne := fun h tp dd its n sl X htp => by
    obtain ⟨cdD, hcD, _⟩ := any_some hdct
    refine Bool.eq_false_iff.mpr fun q => ?_
    have e : D = tp := Value.ref.inj (beq_iff_eq.mp q)
    subst e
    unfold clsIn at hcD
    split at hcD
    · rename_i c' d' cd' sl' ho
      have z := (X _ _ ho).symm.trans htp
      cases z
    · cases hcD
  ca := fun X I k => lp_kin_classE hga hgt hsub hdct ha hn htk hm X I k
end
end PySem.W
namespace L2
open PySem PySem.Spec PyProof.Rows
/-- isinstance(e, c), e the exception (with its dict at dd) that the suite holds -/
def rIsD (K : PySem.W.Frag) (D a dd : Addr) : List V → Hp → VK → Prop := fun xs H Q => ∃ (c : V) (cv : Value) (b : Bool) (fs : List (Str × V)), xs = [.ref a, c] ∧ H dd = some (.xd fs) ∧ (∀ u, RelV c u → u = cv) ∧ PySem.W.kitOne K (.ref D) cv = some b ∧ Q (.bl b) H
theorem call_isD {X : Cx} {a D dd : Addr} {oe : Obj} {pn : List (Addr × Obj)} (C : L2.ExcC X.K D) (hz : Zc (.ref D) (some dd) oe) (hf : ∃ vs, oe.data = .fields vs) : CallR (X.suite a ((a, oe) :: pn)) (.builtin "isinstance") (rIsD X.K D a dd) := by
  intro pins s σ H xs us Q I r h
  obtain ⟨c, cv, b, fs, rfl, hd, hcv, e, q⟩ := h
  cases r with
  | cons rx rr =>
    cases rr with
    | cons rt rr =>
      cases rr
      cases rx
      have ec := hcv _ rt
      subst ec
      obtain ⟨hget, _⟩ := I.pin (a, oe) (List.mem_append.mpr (.inl List.mem_cons_self))
      obtain ⟨vs, hv⟩ := hf
      have hx : ObjOk X.prog X.w H s.heap dd (.xd fs) := I.hok dd _ hd
      obtain ⟨mA, hns, hr⟩ := hx
      obtain ⟨od, ho, hl⟩ := lookIn_ns hns
      have J : PySem.W.InstAt s.heap a oe D (some od) := ⟨hget, hz.1, by unfold PySem.W.notCls; rw [hv] <;> rfl, by rw [hz.2]; exact ho⟩
      exact PySem.W.kia_one (PySem.W.lp_kitx_exc C.hg C.hk C.hs C.hd C.ha C.hn C.ht C.hm) I.kIn J e (fun z => nomatch z) fun tk => ⟨.bl b, H, I.kept (t' := tk) fun _ _ z => z, rfl, q⟩
end L2
end
section
set_option Elab.async false
set_option linter.all false
set_option maxRecDepth 100000
namespace Lp
open PySem PySem.Spec L2

section
variable {G : Nat → Addr} {F H F' H' F0 H0 : Hp} {X : Cx} {v : V} {p : PV} {κ : Kd} {E : St → XK} {W : WX} {m md rm : Mode} {e e' o iv : Expr} {es : List Expr} {pos p' pos' tpos apos : Pos} {zs : Option Addr} {σ : St} {τ : LE} {x f fld : Str} {k n c : Nat} {fi fe : LE → Res PV}

def onLst (t : Option (Option PV)) (f : List PV → Fl) : Fl := match t with
  | some (some (.lst ps)) => f ps
  | _ => .bad
def onDK (t : Option (Option PV)) (f : List (Key × PV) → Fl) : Fl := match t with
  | some (some (.dK ps)) => f ps
  | _ => .bad
def onIns (t : Option (Option PV)) (f : Nat → List (Str × PV) → Fl) : Fl := match t with
  | some (some (.ins c ps)) => f c ps
  | _ => .bad
@[simp] theorem onLst_ok (ps : List PV) (f : List PV → Fl) : onLst (some (some (.lst ps))) f = f ps := (rfl)
@[simp] theorem onDK_ok (ps : List (Key × PV)) (f : List (Key × PV) → Fl) : onDK (some (some (.dK ps))) f = f ps := (rfl)
@[simp] theorem onIns_ok (c : Nat) (ps : List (Str × PV)) (f : Nat → List (Str × PV) → Fl) : onIns (some (some (.ins c ps))) f = f c ps := (rfl)
theorem onLst_or (t : Option (Option PV)) (f : List PV → Fl) : (∃ ps, t = some (some (.lst ps))) ∨ onLst t f = .bad := by
  unfold onLst
  split
  · exact .inl ⟨_, rfl⟩
  · exact .inr rfl
theorem onDK_or (t : Option (Option PV)) (f : List (Key × PV) → Fl) : (∃ ps, t = some (some (.dK ps))) ∨ onDK t f = .bad := by
  unfold onDK
  split
  · exact .inl ⟨_, rfl⟩
  · exact .inr rfl
theorem onIns_or (t : Option (Option PV)) (f : Nat → List (Str × PV) → Fl) : (∃ c ps, t = some (some (.ins c ps))) ∨ onIns t f = .bad := by
  unfold onIns
  split
  · exact .inl ⟨_, _, rfl⟩
  · exact .inr rfl
/-! ### xs[i] = e -/
def sSetI (i : Nat) (fi fe : LE → Res PV) : LE → Fl := fun τ => rs (fe τ) τ fun p => onLst τ[i]? fun ps => rs (fi τ) τ fun q => match q with
    | .int k => match ixN ps.length k with
      | some j => .nx (τ.set i (some (.lst (ps.set j p))))
      | none => .bad
    | _ => .bad
theorem s_setI (i : Nat) (hi : PE X iv (tE G X.K .sh E κ fi)) (he : PE X e (tE G X.K .sh E κ fe)) (k : κ i = true := by rfl) (hN : X.N[i]? = some x := by rfl) (hv : Vis X.env.scope x := by first | exact Or.inl rfl | exact Or.inr (Or.inl rfl) | exact Or.inr (Or.inr rfl)) (hd : (x == ("__debug__" : Str)) = false := by decide)
    (hcd : (x == ("__classdict__" : Str)) = false := by decide) (hs : swapsWithSole [.Subscript (.Name x p') iv pos'] e pos.line X.env = pure false := by rfl) (hw : swappedStores [.Subscript (.Name x p') iv pos'] e X.env = pure none := by rfl)
    (h1 : (assignEach [.Subscript (.Name x p') iv pos'] X.env).map (·.2) = [assign (.Subscript (.Name x p') iv pos') X.env] := by rfl)
    (ha : ∀ v, assign (.Subscript (.Name x p') iv pos') X.env v = (do
      let ov ← holding [v] (eval (.Name x p') X.env)
      let iv ← holding [v, ov] (eval iv X.env)
      standAt pos'
      holding [v, ov, iv] (setItem ov iv v)
      release [v, ov, iv] []) := by intro _; rfl) : PS X (.Assign [.Subscript (.Name x p') iv pos'] e pos) (tStm G X.K E κ rm (sSetI i fi fe)) :=
  ps_weak (ps_asg he (pg_sub (pe_var hN hv hd hcd) hi set_list ha) hs hw h1) fun D σ H ⟨F0, H0, F, τ, zs, l, q⟩ => by
    refine ⟨F, τ, l.lc, ?_⟩
    unfold sSetI at q
    cases h : fe τ with
    | bad => rw [h] at q; exact q.elim
    | exc c ps => rw [h, rs_exc] at q; exact l.exc q
    | ok pv =>
      rw [h, rs_ok] at q
      intro v F1 H1 e1 r1
      have l1 := l.of_ext e1
      rcases onLst_or τ[i]? _ with ⟨ps, ht⟩ | hb
      case inr => rw [hb] at q; exact q.elim
      obtain ⟨a, e2, hF, ow⟩ := l1.lc.ow i _ ht k
      simp only [ht, onLst_ok, onDK_ok, onIns_ok] at q
      refine ⟨.ref a, e2, F1, τ, l1.lc, ?_⟩
      cases h2 : fi τ with
      | bad => rw [h2] at q; exact q.elim
      | exc c ps => rw [h2, rs_exc] at q; exact l1.exc q
      | ok pi =>
        rw [h2, rs_ok] at q
        intro w F2 H2 e3 r3
        have l2 := l1.of_ext e3
        cases pi with
        | int kk =>
          simp only at q
          cases hj : ixN ps.length kk with
          | none => simp only [hj] at q
          | some j =>
            simp only [hj] at q
            obtain ⟨a', e2', hF', vs, hH, rr⟩ := l2.lc.ow i _ ht k
            rw [e2] at e2'
            cases e2'
            refine ⟨a, vs, kk, j, rfl, r3.int_inv, hH, by rw [rr.length]; exact hj, ?_⟩
            exact q σ F2 _ (l2.write k ht e2 ⟨_, upd_same, Reps.set (Rep.mono e3.f r1) j rr⟩)
        | _ => exact q.elim
/-! ### d[k] = e, del d[k] -/
def sPut (i : Nat) (fi fe : LE → Res PV) : LE → Fl := fun τ => rs (fe τ) τ fun p => onDK τ[i]? fun kvs => rs (fi τ) τ fun q => match keyP q with
    | some k => if kvs.length < 1000000 then .nx (τ.set i (some (.dK (setP kvs k p)))) else .bad
    | none => .bad
theorem s_put (i : Nat) (hu : X.A.units + 1 < cLine) (hi : PE X iv (tE G X.K .sh E κ fi)) (he : PE X e (tE G X.K .sh E κ fe)) (k : κ i = true := by rfl) (hN : X.N[i]? = some x := by rfl) (hv : Vis X.env.scope x := by first | exact Or.inl rfl | exact Or.inr (Or.inl rfl) | exact Or.inr (Or.inr rfl)) (hd : (x == ("__debug__" : Str)) = false := by decide)
    (hcd : (x == ("__classdict__" : Str)) = false := by decide) (hs : swapsWith e (some (.Subscript (.Name x p') iv pos')) pos.line X.env = pure false := by rfl) : PS X (.Assign [.Subscript (.Name x p') iv pos'] e pos) (tStm G X.K E κ rm (sPut i fi fe)) :=
  ps_weak (ps_dput hu (pe_var hN hv hd hcd) hi he hs) fun D σ H ⟨F0, H0, F, τ, zs, l, q⟩ => by
    refine ⟨F, τ, l.lc, ?_⟩
    unfold sPut at q
    cases h : fe τ with
    | bad => rw [h] at q; exact q.elim
    | exc c ps => rw [h, rs_exc] at q; exact l.exc q
    | ok pv =>
      rw [h, rs_ok] at q
      intro v F1 H1 e1 r1
      have l1 := l.of_ext e1
      rcases onDK_or τ[i]? _ with ⟨ps, ht⟩ | hb
      case inr => rw [hb] at q; exact q.elim
      obtain ⟨a, e2, hF, ow⟩ := l1.lc.ow i _ ht k
      simp only [ht, onLst_ok, onDK_ok, onIns_ok] at q
      refine ⟨.ref a, e2, F1, τ, l1.lc, ?_⟩
      cases h2 : fi τ with
      | bad => rw [h2] at q; exact q.elim
      | exc c ps => rw [h2, rs_exc] at q; exact l1.exc q
      | ok pi =>
        rw [h2, rs_ok] at q
        intro w F2 H2 e3 r3
        have l2 := l1.of_ext e3
        cases hk : keyP pi with
        | none => simp only [hk] at q
        | some kk =>
          simp only [hk] at q
          by_cases hl : ps.length < 1000000
          · rw [if_pos hl] at q
            obtain ⟨a', e2', hF', kvs, hH, rr⟩ := l2.lc.ow i _ ht k
            rw [e2] at e2'
            cases e2'
            have hw := keyP_rep r3 hk
            subst hw
            refine ⟨a, _, rfl, DPut.k hH (by rw [rr.length, sizeLine_eq]; omega), ?_⟩
            exact q σ F2 _ (l2.write k ht e2 ⟨_, upd_same, RepK.set rr (Rep.mono e3.f r1)⟩)
          · rw [if_neg hl] at q; exact q.elim
def sDel (i : Nat) (fi : LE → Res PV) : LE → Fl := fun τ => onDK τ[i]? fun kvs => rs (fi τ) τ fun q => match keyP q with
    | some k => if hasP kvs k then .nx (τ.set i (some (.dK (dropP kvs k)))) else .bad
    | none => .bad
theorem s_del (i : Nat) (hi : PE X iv (tE G X.K .sh E κ fi)) (k : κ i = true := by rfl) (hN : X.N[i]? = some x := by rfl) (hv : Vis X.env.scope x := by first | exact Or.inl rfl | exact Or.inr (Or.inl rfl) | exact Or.inr (Or.inr rfl)) (hd : (x == ("__debug__" : Str)) = false := by decide)
    (hcd : (x == ("__classdict__" : Str)) = false := by decide) : PS X (.Delete [.Subscript (.Name x p') iv pos'] pos) (tStm G X.K E κ rm (sDel i fi)) :=
  ps_weak (ps_ddel (pe_var hN hv hd hcd) hi) fun D σ H ⟨F0, H0, F, τ, zs, l, q⟩ => by
    unfold sDel at q
    rcases onDK_or τ[i]? _ with ⟨ps, ht⟩ | hb
    case inr => rw [hb] at q; exact q.elim
    obtain ⟨a, e2, hF, ow⟩ := l.lc.ow i _ ht k
    simp only [ht, onLst_ok, onDK_ok, onIns_ok] at q
    refine ⟨.ref a, e2, F, τ, l.lc, ?_⟩
    cases h2 : fi τ with
    | bad => rw [h2] at q; exact q.elim
    | exc c ps => rw [h2, rs_exc] at q; exact l.exc q
    | ok pi =>
      rw [h2, rs_ok] at q
      intro w F2 H2 e3 r3
      have l2 := l.of_ext e3
      cases hk : keyP pi with
      | none => simp only [hk] at q
      | some kk =>
        simp only [hk] at q
        by_cases hh : hasP ps kk = true
        · rw [if_pos hh] at q
          obtain ⟨a', e2', hF', kvs, hH, rr⟩ := l2.lc.ow i _ ht k
          rw [e2] at e2'
          cases e2'
          have hw := keyP_rep r3 hk
          subst hw
          have hs : (valV kvs kk).isSome = true := by
            rw [hasP_val] at hh
            rcases rr.val (k := kk) with ⟨_, z⟩ | ⟨v, p, z1, z2, _⟩
            · rw [z] at hh; cases hh
            · rw [z1]; rfl
          refine ⟨a, kvs, kk, rfl, hH, rfl, hs, ?_⟩
          exact q σ F2 _ (l2.write k ht e2 ⟨_, upd_same, RepK.drop rr⟩)
        · rw [if_neg hh] at q; exact q.elim
/-! ### self.f = e in __init__ (slot 0 is owned) -/
def sFld (i : Nat) (cl : Nat) (f : Str) (fe : LE → Res PV) : LE → Fl := fun τ => rs (fe τ) τ fun p => onIns τ[i]? fun c fs => if c = cl ∧ fs.length < 1000 then .nx (τ.set i (some (.ins c (putP f p fs)))) else .bad
theorem s_fld (i : Nat) (cl : Nat) (hC : Cls X.K (G cl)) (hno : NoAttr X.K (G cl) fld) (he : PE X e (tE G X.K .sh E κ fe)) (k : κ i = true := by rfl) (hN : X.N[i]? = some x := by rfl) (hv : Vis X.env.scope x := by first | exact Or.inl rfl | exact Or.inr (Or.inl rfl) | exact Or.inr (Or.inr rfl)) (hd : (x == ("__debug__" : Str)) = false := by decide)
    (hcd : (x == ("__classdict__" : Str)) = false := by decide) (hs : swapsWith e (some (.Attribute (.Name x p') fld pos')) pos.line X.env = pure false := by rfl) : PS X (.Assign [.Attribute (.Name x p') fld pos'] e pos) (tStm G X.K E κ rm (sFld i cl fld fe)) :=
  ps_weak (ps_fld (pe_var hN hv hd hcd) he hs) fun D σ H ⟨F0, H0, F, τ, zs, l, q⟩ => by
    refine ⟨F, τ, l.lc, ?_⟩
    unfold sFld at q
    cases h : fe τ with
    | bad => rw [h] at q; exact q.elim
    | exc c ps => rw [h, rs_exc] at q; exact l.exc q
    | ok pv =>
      rw [h, rs_ok] at q
      intro v F1 H1 e1 r1
      have l1 := l.of_ext e1
      rcases onIns_or τ[i]? _ with ⟨c, ps, ht⟩ | hb
      case inr => rw [hb] at q; exact q.elim
      obtain ⟨a, e2, hF, dx, fs, hH, rr⟩ := l1.lc.ow i _ ht k
      simp only [ht, onIns_ok] at q
      by_cases hl : c = cl ∧ ps.length < 1000
      · rw [if_pos hl] at q
        obtain ⟨rfl, hl⟩ := hl
        exact ⟨.ref a, e2, a, G c, dx, fs, rfl, hH, hC, hno, by rw [rr.length]; exact hl, q σ F1 _ (l1.write k ht e2 ⟨dx, _, upd_same, RepF.put r1 rr⟩)⟩
      · rw [if_neg hl] at q; exact q.elim
/-! ### e.f of an instance -/
def eAtt (ok : Nat → Bool) (f : Str) (fe : LE → Res PV) : LE → Res PV := fun τ => fe τ >>= fun p => match p with
  | .ins c fs => if ok c then (match fs.lookup f with
    | some q => .ok q
    | none => .bad) else .bad
  | _ => .bad
theorem v_att (ok : Nat → Bool) (hA : ∀ c, ok c = true → Cls X.K (G c) ∧ NoAttr X.K (G c) fld) (he : PE X e (tE G X.K m E κ fe)) (hb : attributeBase e fld X.env (eval e X.env) = eval e X.env := by rfl) : PE X (.Attribute e fld pos) (tE G X.K .sh E κ (eAtt ok fld fe)) :=
  pe_weak (pe_fld he hb) fun σ H Q ⟨F, τ, l, q⟩ => by
    refine ⟨F, τ, l, ?_⟩
    unfold eAtt at q
    cases h : fe τ with
    | bad => rw [h] at q; exact q
    | exc c ps => rw [h] at q; exact q
    | ok p =>
      rw [h, Res.ok_bind] at q
      intro v F1 H1 e1 r1
      cases p with
      | ins c fs =>
        simp only at q
        by_cases ho : ok c = true
        · rw [if_pos ho] at q
          cases hl : fs.lookup fld with
          | none => simp only [hl] at q
          | some z =>
            simp only [hl] at q
            have key : ∃ a dx vs, v = .ref a ∧ H1 a = some (.ins (G c) dx vs) ∧ RepF G X.K F1 vs fs := by
              rcases r1.top with r | ⟨a, rfl, _, o⟩
              · obtain ⟨a, dx, vs, rfl, hF, rr⟩ := r.ins_inv
                exact ⟨a, dx, vs, rfl, e1.sub _ _ hF, rr⟩
              · obtain ⟨dx, vs, hH, rr⟩ := o
                exact ⟨a, dx, vs, rfl, hH, rr⟩
            obtain ⟨a, dx, vs, rfl, hH, rr⟩ := key
            obtain ⟨w, hw, rw'⟩ := rr.lookup hl
            exact ⟨a, G c, dx, vs, w, rfl, hH, (hA c ho).1, (hA c ho).2, hw, q w F1 H1 e1 rw'⟩
        · rw [if_neg ho] at q; exact q.elim
      | _ => exact q.elim
end
end Lp
end
section
set_option Elab.async false
set_option linter.all false
set_option maxRecDepth 100000
namespace Lp
open PySem PySem.Spec L2

/-! ### isinstance -/
/-- is it one of the built-in type n? -/
def PV.isa (n : String) : PV → Option Bool
  | .non => some false
  | .bl _ => some (n == "bool" || n == "int")
  | .int _ => some (n == "int")
  | .str _ => some (n == "str")
  | .tup _ => some (n == "tuple")
  | .lst _ => some (n == "list")
  | .scr _ => some (n == "list")
  | .dK _ => some (n == "dict")
  | _ => none
def PV.tyN : PV → Option String
  | .non => some "NoneType"
  | .bl _ => some "bool"
  | .int _ => some "int"
  | .str _ => some "str"
  | .tup _ => some "tuple"
  | .lst _ => some "list"
  | .scr _ => some "list"
  | .dK _ => some "dict"
  | _ => none
def isaKnown (n : String) : Bool := n == "int" || n == "bool" || n == "str" || n == "tuple" || n == "list" || n == "dict"
theorem isa_kit {K : PySem.W.Frag} {p : PV} {n t : String} {b : Bool} (hn : isaKnown n = true) (h : p.isa n = some b) (ht : p.tyN = some t) : PySem.W.kitOne K (.type t) (.type n) = some b := by
  unfold isaKnown at hn
  simp only [Bool.or_eq_true, beq_iff_eq] at hn
  rcases hn with ((((rfl | rfl) | rfl) | rfl) | rfl) | rfl <;> cases p <;> first | (cases ht; done) | (cases ht; cases h; exact kit_ty (by decide +kernel))
section
variable {G : Nat → Addr} {K : PySem.W.Frag} {F H F' H' F0 H0 : Hp} {X : Cx} {v : V} {p : PV} {κ : Kd} {E : St → XK} {W : WX} {m md rm : Mode} {e e' o iv : Expr} {es : List Expr} {pos p' p1 p2 p3 p4 pos' tpos apos : Pos} {σ : St} {τ : LE} {x f fld : Str} {k n c : Nat} {fi fe : LE → Res PV} {g : List PV → Res PV} {fa : LE → Res (List PV)}
theorem isa_ty {n : String} {b : Bool} (h : p.isa n = some b) : ∃ t, p.tyN = some t := by
  cases p <;> first | exact ⟨_, rfl⟩ | cases h
theorem tyx_of (s : Same F H) (r : Top G K F H v p) {t : String} (ht : p.tyN = some t) : TyX K H v (.type t) := by
  rcases r with r | ⟨a, rfl, _, o⟩
  · cases r with
    | non => cases ht; exact .base .non
    | bl b => cases ht; exact .base (.bl b)
    | int b => cases ht; exact .base (.int b)
    | str b => cases ht; exact .base (.str b)
    | ty n => cases ht
    | exn _ _ => cases ht
    | ins _ _ => cases ht
    | rng _ => cases ht
    | itm _ => cases ht
    | scr h =>
      cases ht
      rcases h with (h | ⟨o, h⟩) | ⟨o, its, n, h, hc, _⟩
      · exact .base (.lst (s _ _ h))
      · exact .base (.frz (s _ _ h))
      · exact .kList h hc
    | tup h _ =>
      cases ht
      rcases h.sqt with (h | ⟨o, h⟩) | ⟨o, its, n, h, hc, _⟩
      · exact .base (.tup (s _ _ h))
      · exact .fTuple (s _ _ h)
      · exact .kTuple h hc
    | lst h _ =>
      cases ht
      rcases h with h | ⟨o, h⟩
      · exact .base (.lst (s _ _ h))
      · exact .base (.frz (s _ _ h))
    | dK h _ => cases ht; exact .base (.dK (s _ _ h))
  · cases p with
    | lst ps => cases ht; obtain ⟨vs, h, _⟩ := o; exact .base (.lst h)
    | dK ps => cases ht; obtain ⟨vs, h, _⟩ := o; exact .base (.dK h)
    | ins c ps => cases ht
    | _ => exact o.elim
def pIsi : List PV → Option PV
  | [p, .ty n] => if isaKnown n then (p.isa n).map .bl else none
  | _ => none
theorem g_isi : CalV G K (rIsi K) .sh pIsi := by
  intro F H xs ps z Q s r hz k
  unfold pIsi at hz
  split at hz
  · rename_i p n
    obtain ⟨v, w, rfl, rv, rw'⟩ := r.two
    by_cases hn : isaKnown n = true
    · rw [if_pos hn] at hz
      cases hb : p.isa n with
      | none => rw [hb] at hz; cases hz
      | some b =>
        rw [hb] at hz
        cases hz
        obtain ⟨t, ht⟩ := isa_ty hb
        have hw : w = .ty n := by
          rcases rw' with q | ⟨a, _, _, o⟩
          · exact q.ty_inv
          · exact o.elim
        subst hw
        exact ⟨v, .ty n, .type t, .type n, b, rfl, .ty n, tyx_of s rv ht, isa_kit hn hb ht, k _ F H (Ext.refl s) (.bl _)⟩
    · rw [if_neg hn] at hz; cases hz
  · cases hz
/-- isinstance(e, (A, B)) -/
def eIsi2 (a b : String) (fe : LE → Res PV) : LE → Res PV := fun τ => fe τ >>= fun p => match p.isa a, p.isa b with
  | some x, some y => .ok (.bl (x || y))
  | _, _ => .bad
theorem v_isi2 (a b : String) {x1 : Nat} {sa sb : Str} (he : PE X e (tE G X.K m E κ fe)) (hm : X.mg "isinstance" = none) (ma : X.mg sa = none) (mb : X.mg sb = none) (va : bootBuiltins sa = some (.type a)) (vb : bootBuiltins sb = some (.type b))
    (hka : isaKnown a = true := by decide) (hkb : isaKnown b = true := by decide) (hv : bootBuiltins "isinstance" = some (.builtin "isinstance") := by kernel_rfl) (hg : Gl X "isinstance" := by rfl) (ga : Gl X sa := by rfl) (gb : Gl X sb := by rfl)
    (na : sa ≠ "__name__" := by decide) (nb : sb ≠ "__name__" := by decide) (da : (sa == ("__debug__" : Str)) = false := by decide) (db : (sb == ("__debug__" : Str)) = false := by decide)
    (h1 : starEach [e, .Tuple [.Name sa p1, .Name sb p2] x1 p3] X.env = (false, eval e X.env) :: starEach [.Tuple [.Name sa p1, .Name sb p2] x1 p3] X.env := by rfl)
    (h2 : starEach [.Tuple [.Name sa p1, .Name sb p2] x1 p3] X.env = (false, eval (.Tuple [.Name sa p1, .Name sb p2] x1 p3) X.env) :: starEach [] X.env := by rfl)
    (h3 : starEach [.Name sa p1, .Name sb p2] X.env = (false, eval (.Name sa p1) X.env) :: starEach [.Name sb p2] X.env := by rfl) (h4 : starEach [.Name sb p2] X.env = (false, eval (.Name sb p2) X.env) :: starEach [] X.env := by rfl)
    (hpl : (backTo pos (starEach [.Tuple [.Name sa p1, .Name sb p2] x1 p3] X.env)).any (·.1) = false := by rfl) :
    PE X (.Call (.Name "isinstance" p') [e, .Tuple [.Name sa p1, .Name sb p2] x1 p3] [] pos) (tE G X.K .sh E κ (eIsi2 a b fe)) :=
  pe_weak (pe_callB call_isiT hg hm hv (pa_cons he (pa_cons (pe_tup (pa_cons (pe_bltn (v := .ty a) ga ma va rfl na da) (pa_cons (pe_bltn (v := .ty b) gb mb vb rfl nb db) pa_nil h4) h3)) pa_nil h2) h1) (by decide) (by decide) h1 hpl) fun σ H Q ⟨F, τ, l, q⟩ => by
    refine ⟨F, τ, l, ?_⟩
    unfold eIsi2 at q
    cases hf : fe τ with
    | exc c ps => rw [hf] at q; exact q
    | bad => rw [hf] at q; exact q
    | ok p =>
      rw [hf, Res.ok_bind] at q
      intro v F1 H1 e1 r1
      refine ⟨by rw [sizeLine_eq]; show 2 ≤ 16777216; omega, fun tp htp => ?_⟩
      cases ha : p.isa a with
      | none => simp only [ha] at q
      | some ba =>
        cases hb : p.isa b with
        | none => simp only [ha, hb] at q
        | some bb =>
          simp only [ha, hb] at q
          obtain ⟨t, ht⟩ := isa_ty ha
          have e2 := e1.push (.tup [V.ty a, V.ty b]) htp
          have r2 := (r1.top).ext (⟨same_new (Same.free e1.sub htp), same_new htp, same_upd2 e1.sub htp, fun c h1 h2 => by
            by_cases hc : c = tp
            · rw [hc]; exact htp
            · rw [upd_ne hc] at h2; exact absurd h1 h2⟩ : Ext F1 H1 (upd F1 tp (.tup [V.ty a, V.ty b])) (upd H1 tp (.tup [V.ty a, V.ty b])))
          refine ⟨v, tp, _, .type t, [.type a, .type b], ba || bb, rfl, upd_same, .cons (.ty a) (.cons (.ty b) .nil), tyx_of e2.sub r2 ht, ?_, q _ _ _ e2 (.bl _)⟩
          refine kitAny_cons (isa_kit hka ha ht) (fun h => ?_) (fun h => by rw [h]; rfl)
          subst h
          refine kitAny_cons (isa_kit hkb hb ht) (fun h => ?_) (fun h => by rw [h]; rfl)
          subst h
          exact kitAny_nil

/-! ### in the suite of an except clause: slot i holds the error -/
def eAt (a d : Addr) (i : Nat) (k : List (Str × PV) → Res PV) : LE → Res PV := fun τ => match τ[i]? with
  | some (some (.exn a' d' _ fs)) => if a' = a ∧ d' = d then k fs else .bad
  | _ => .bad
def xGet (f : Str) (fs : List (Str × PV)) : Res PV := match fs.lookup f with
  | some p => .ok p
  | none => .bad
@[simp] theorem eAt_set (a d : Addr) (i c : Nat) (k : List (Str × PV) → Res PV) (fs : List (Str × PV)) (τ : LE) : eAt a d i k (τ.set i (some (.exn a d c fs))) = if i < τ.length then k fs else .bad := by
  unfold eAt
  by_cases h : i < τ.length
  · rw [List.getElem?_set_self h, if_pos h]
    simp
  · rw [if_neg h, List.getElem?_eq_none (by rw [List.length_set]; omega)]
theorem eAt_or (a d : Addr) (i : Nat) (k : List (Str × PV) → Res PV) (τ : LE) : (∃ c fs, τ[i]? = some (some (.exn a d c fs)) ∧ eAt a d i k τ = k fs) ∨ eAt a d i k τ = .bad := by
  unfold eAt
  split
  · rename_i a' d' c' fs ht
    by_cases hh : a' = a ∧ d' = d
    · rw [if_pos hh]
      obtain ⟨rfl, rfl⟩ := hh
      exact .inl ⟨c', fs, ht, rfl⟩
    · rw [if_neg hh]; exact .inr rfl
  · exact .inr rfl
theorem v_xf {a d : Addr} {oe : Obj} {pn : List (Addr × Obj)} (i : Nat) (T : XfC X.K (G c)) (hno : PySem.W.findIn X.K (.ref (G c)) fld = some none) (hz : Zc (.ref (G c)) (some d) oe) (hf : ∃ vs, oe.data = .fields vs)
    (k : κ i = false := by rfl) (hN : X.N[i]? = some x := by rfl) (hv : Vis X.env.scope x := by first | exact Or.inl rfl | exact Or.inr (Or.inl rfl) | exact Or.inr (Or.inr rfl)) (hd : (x == ("__debug__" : Str)) = false := by decide)
    (hcd : (x == ("__classdict__" : Str)) = false := by decide) (hb : attributeBase (.Name x p1) fld X.env (eval (.Name x p1) X.env) = eval (.Name x p1) X.env := by rfl) :
    PE (X.suite a ((a, oe) :: pn)) (.Attribute (.Name x p1) fld pos) (tE G X.K .sh E κ (eAt a d i (xGet fld))) :=
  pe_weak (pe_xf T hno hz hf (pe_var (X := X.suite a ((a, oe) :: pn)) hN hv hd hcd) hb) fun σ H Q ⟨F, τ, l, q⟩ => by
    rcases eAt_or a d i (xGet fld) τ with ⟨c', fs, ht, e⟩ | e
    case inr => rw [e] at q; exact q.elim
    rw [e] at q
    obtain ⟨v, e1, r⟩ := l.sh i _ ht k
    obtain ⟨rfl, vs, hF, rr⟩ := r.exn_inv
    unfold xGet at q
    cases hl : fs.lookup fld with
    | none => simp only [hl] at q
    | some z =>
      simp only [hl] at q
      obtain ⟨w, hw, rw'⟩ := rr.lookup hl
      exact ⟨_, e1, rfl, rfl, d, vs, w, rfl, l.sub _ _ hF, hw, q w F H (Ext.refl l.sub) rw'⟩
/-- isinstance(e, c) -/
theorem v_xis {a d : Addr} {oe : Obj} {pn : List (Addr × Obj)} {ce : Expr} {cv : Value} {cw : V} {b : Bool} (i : Nat) (C : L2.ExcC X.K (G c)) (hz : Zc (.ref (G c)) (some d) oe) (hf : ∃ vs, oe.data = .fields vs) (hce : PE (X.suite a ((a, oe) :: pn)) ce (tC cw)) (hcv : ∀ u, RelV cw u → u = cv)
    (hk : PySem.W.kitOne X.K (.ref (G c)) cv = some b) (hm : X.mg "isinstance" = none)
    (k : κ i = false := by rfl) (hN : X.N[i]? = some x := by rfl) (hv : Vis X.env.scope x := by first | exact Or.inl rfl | exact Or.inr (Or.inl rfl) | exact Or.inr (Or.inr rfl)) (hd : (x == ("__debug__" : Str)) = false := by decide)
    (hcd : (x == ("__classdict__" : Str)) = false := by decide) (hv' : bootBuiltins "isinstance" = some (.builtin "isinstance") := by kernel_rfl) (hg : Gl X "isinstance" := by rfl)
    (h1 : starEach [.Name x p1, ce] X.env = (false, eval (.Name x p1) X.env) :: starEach [ce] X.env := by rfl)
    (h2 : starEach [ce] X.env = (false, eval ce X.env) :: starEach [] X.env := by rfl) (hpl : (backTo pos (starEach [ce] X.env)).any (·.1) = false := by rfl) :
    PE (X.suite a ((a, oe) :: pn)) (.Call (.Name "isinstance" p') [.Name x p1, ce] [] pos) (tE G X.K .sh E κ (eAt a d i fun _ => .ok (.bl b))) :=
  pe_weak (pe_callB (X := X.suite a ((a, oe) :: pn)) (call_isD C hz hf) hg hm hv' (pa_cons (pe_var (X := X.suite a ((a, oe) :: pn)) hN hv hd hcd) (pa_cons hce pa_nil h2) h1) (by decide) (by decide) h1 hpl) fun σ H Q ⟨F, τ, l, q⟩ => by
    rcases eAt_or a d i (fun _ => .ok (.bl b)) τ with ⟨c', fs, ht, e⟩ | e
    case inr => rw [e] at q; exact q.elim
    rw [e] at q
    obtain ⟨v, e1, r⟩ := l.sh i _ ht k
    obtain ⟨rfl, vs, hF, rr⟩ := r.exn_inv
    exact ⟨_, e1, cw, cv, b, vs, rfl, l.sub _ _ hF, hcv, hk, q _ F H (Ext.refl l.sub) (.bl b)⟩
end
end Lp
end
section
set_option Elab.async false
set_option linter.all false
set_option maxRecDepth 100000
namespace L2
open PySem PySem.Spec PyProof.Rows
section
variable {X : Cx} {CX : CXT} {k : Nat} {f C : Addr} {fd : FuncData} {ps : List Str} {sp : Sp} {E : St → XK} {x : Str} {p pos : Pos} {e : Expr} {es : List Expr} {t : TA}
def tMakeS (C : Addr) (sp : Sp) (E : St → XK) (t : TA) : TE := fun σ H Q => t σ H fun vs H1 => ∀ x dx, H1 x = none → H1 dx = none → dx ≠ x → sp (.ref x :: vs) (upd (upd H1 dx (.own x)) x (.ins C dx [])) (fun v H2 => v = .non ∧ Q (.ref x) H2) (E σ)
theorem pe_makeS (M : Mk X.K C f) (F : FnOk X.prog X.w X.K X.mg X.base CX k f fd ps sp) (hr : Room (k + 1) X.A) (hg : Gl X x) (hm : X.mg x = some (.ref C)) (hb : Binds X.K fd ps []) (hx : ∀ σ, PassesAt CX X σ (E σ))
    (ha : PA X (e :: es) t) (hdb : (x == ("__debug__" : Str)) = false := by decide) (he : starEach (e :: es) X.env = (false, eval e X.env) :: starEach es X.env := by rfl) (hpl : (backTo pos (starEach es X.env)).any (·.1) = false := by rfl) :
    PE X (.Call (.Name x p) (e :: es) [] pos) (tMakeS C sp E t) := by
  refine ⟨fun pins s σ H Q I h => ?_⟩
  refine wpAny_Call_Name_kw (ld_glob I hg hm ?_ hdb)
  refine PySem.W.callWith_K (h₀ := X.base) I.ok.mod.kin M.kp (thn (ha.run pos pins s σ H _ I h) fun us s1 ⟨vs, H1, I1, r, q⟩ => ⟨I1.kIn, ?_⟩) he hpl
  show wpAny (model X.prog X.w) X.A (call (.ref C) us) (EP X pins σ Q) X.xe s1
  have hq := q (s1.heap.objs.size + 1) s1.heap.objs.size (I1.hok.fresh (Nat.le_succ _)) (I1.hok.fresh (Nat.le_refl _)) (Nat.ne_of_lt (Nat.lt_succ_self _))
  have I2 := Inv.made (C := C) I1
  have r2 : Vals (V.ref (s1.heap.objs.size + 1) :: vs) (Value.ref (s1.heap.objs.size + 1) :: us) := .cons rfl r
  have hl : (Value.ref (s1.heap.objs.size + 1) :: us ++ []).length = ps.length := by
    have e := r2.length
    rw [F.len _ _ _ _ hq] at e
    rw [List.append_nil]
    exact e.symm
  have b := hb _ (Value.ref (s1.heap.objs.size + 1) :: us) I2.kIn hl
  rw [List.append_nil] at b
  refine wpAny_call (make_map (f := f) I1.kIn M.makes M.init (beq_iff_eq.mp M.fn) (codeAny_mono (F.run _ X.stack _ _ ⟨Value.ref (s1.heap.objs.size + 1) :: us, []⟩ (Value.ref (s1.heap.objs.size + 1) :: us) _ _ (E σ) (hr.make C us [])
    (I2.env0.make C us []) b r2 hq) fun r s' hq' => ?_))
  cases r with
  | error e => exact hx σ pins _ _ e s' I2 hq'
  | ok fl =>
    cases fl with
    | ret u =>
      obtain ⟨v, H', I3, rv, ev, q3⟩ := I2.after hq'
      subst ev
      exact ⟨rv, ⟨V.ref (s1.heap.objs.size + 1), H', I3, rfl, q3⟩⟩
    | next => exact False.elim hq'
    | brk => exact False.elim hq'
    | cont => exact False.elim hq'
end
end L2
namespace Lp
open PySem PySem.Spec L2

section
variable (G : Nat → Addr) (K : PySem.W.Frag)
/-- what __init__ of the class c promises -/
def spI (c : Nat) (n : Nat) (g : List PV → Res PV) : Sp := fun vs H Q E => ∃ F H1 x dx ws ps, vs = .ref x :: ws ∧ H = upd (upd H1 dx (.own x)) x (.ins (G c) dx []) ∧ H1 x = none ∧ H1 dx = none ∧ dx ≠ x ∧ Same F H1 ∧ Reps G K F ws ps ∧ ps.length = n ∧ match g ps with
  | .ok p => ∀ F' H', Ext F H1 F' H' → Frs G K H1 F' H' (.ref x) p → Q .non H'
  | .exc c fs => ExcOk G K E F H1 c fs
  | .bad => False
end
/-- how __init__ ends: the object of slot 0 -/
def finI (r : Fl) : Res PV := match r with
  | .nx τ => match τ[0]? with
    | some (some p) => .ok p
    | _ => .bad
  | .ex c fs _ => .exc c fs
  | _ => .bad
structure Mkr (P : Program) (w : World) (K : PySem.W.Frag) (mg : Str → Option Value) (base : Heap) (k : Nat) (x : Str) (C : Addr) (sp : Sp) : Prop where
  ex : ∃ f fd ps, Mk K C f ∧ FnOk P w K mg base (L2.CX P w) k f fd ps sp ∧ mg x = some (.ref C) ∧ Binds K fd ps []
section
variable {G : Nat → Addr} {K : PySem.W.Frag} {F H F' H' F0 H0 : Hp} {X : Cx} {v : V} {p : PV} {κ : Kd} {E : St → XK} {W : WX} {m md rm : Mode} {e : Expr} {es : List Expr} {pos p' : Pos} {zs : Option Addr} {σ : St} {τ : LE} {x : Str} {k n c : Nat} {g : List PV → Res PV} {fa : LE → Res (List PV)}
theorem v_make (D : Mkr X.prog X.w X.K X.mg X.base k x (G c) (spI G X.K c n g)) (hr : Room (k + 1) X.A) (tk : Takes X W) (ha : PA X (e :: es) (tA G X.K .sh (WE W) κ fa)) (hL : ∀ ps, g ps ≠ .bad → ps.length = n) (hg : Gl X x := by rfl)
    (hdb : (x == ("__debug__" : Str)) = false := by decide) (he : starEach (e :: es) X.env = (false, eval e X.env) :: starEach es X.env := by rfl) (hpl : (backTo pos (starEach es X.env)).any (·.1) = false := by rfl) :
    PE X (.Call (.Name x p') (e :: es) [] pos) (tE G X.K .fr (WE W) κ (eFn g fa)) := by
  obtain ⟨f, fd, ps, M, Fk, hm, hb⟩ := D.ex
  refine pe_weak (pe_makeS M Fk hr hg hm hb (fun σ => passAt tk σ) ha hdb he hpl) fun σ H Q ⟨F, τ, l, q⟩ => ?_
  refine ⟨F, τ, l, ?_⟩
  unfold eFn at q
  cases hf : fa τ with
  | bad => rw [hf] at q; exact q
  | exc c ps => rw [hf] at q; exact q
  | ok qs =>
    rw [hf, Res.ok_bind] at q
    intro vs F1 H1 e1 r1 x dx hx hdx hne
    refine ⟨F1, H1, x, dx, vs, qs, rfl, rfl, hx, hdx, hne, e1.sub, r1.shared, hL qs fun z => by rw [z] at q; exact q, ?_⟩
    cases hg : g qs with
    | bad => rw [hg] at q; exact q
    | exc c ps => rw [hg] at q; exact ExcOk.ext q e1
    | ok p => rw [hg] at q; exact fun F2 H2 e2 r2 => ⟨rfl, q _ F2 H2 (e1.trans e2) (Frs.before r2 e1.h)⟩

theorem d_init {P : Program} {w : World} {mg : Str → Option Value} {base : Heap} {qual : Str} {st : Stmt} {f : Addr} {fd : FuncData} {N ps : List Str} {k : Nat} {m : LE → Fl} {c n : Nat} (Fn : Fun K x qual st f fd) (S : FnScope N ps (defScope st)) (hn : ps.length = n + 1) (hκ0 : κ 0 = true) (hκ : ∀ i, i < n → κ (i + 1) = false)
    (hg : ∀ qs, qs.length = n → g qs = finI (m (some (.ins c []) :: (qs.map some ++ List.replicate (N.length - (n + 1)) none))))
    (hbody : ∀ (cdv : Value) (A : Around) (outer : List Env) (s : Shared) (H : Hp) (E : XK), Room k (A.deeper (PyProof.Rows.envOfC qual (defScope st) s.heap.objs.size f cdv)) →
      PSs (cxOf (L2.CX P w) P w K mg base N qual (defScope st) f cdv A outer s H E) (defBody st) (tStm G K (WE fun cls d _ H => E cls d H) κ .sh m)) :
    FnOk P w K mg base (L2.CX P w) (k + 1) f fd ps (spI G K c n g) := by
  have hpl : ps.length ≤ N.length := by have := congrArg List.length S.pre; rw [List.length_take] at this; omega
  refine Fn.okX S (fun vs H Q E h => ?_) fun cdv A outer s H vs Q E hr hsp => ?_
  · obtain ⟨F, H1, x, dx, ws, qs, rfl, _, _, _, _, _, r, e, _⟩ := h
    rw [List.length_cons, r.length, e, hn]
  obtain ⟨F, H1, x, dx, ws, qs, rfl, rfl, hx, hdx, hne, sm, r, hl, q⟩ := hsp
  have hFx : F x = none := Same.free sm hx
  have hFdx : F dx = none := Same.free sm hdx
  have e1 : Ext F H1 F (upd (upd H1 dx (.own x)) x (.ins (G c) dx [])) := ((Ext.refl sm).pushOwn (.own x) hdx).pushOwn _ (by rw [upd_ne (Ne.symm hne)]; exact hx)
  have hlen := r.length
  have key : ∀ i p, (some (PV.ins c []) :: (qs.map some ++ List.replicate (N.length - (n + 1)) none))[i]? = some (some p) → (i = 0 ∧ p = .ins c []) ∨ ∃ j, i = j + 1 ∧ qs[j]? = some p := fun i p h => by
    cases i with
    | zero => rw [List.getElem?_cons_zero] at h; cases h; exact .inl ⟨rfl, rfl⟩
    | succ i =>
      rw [List.getElem?_cons_succ] at h
      refine .inr ⟨i, rfl, ?_⟩
      by_cases hi : i < qs.length
      · rw [List.getElem?_append_left (by rw [List.length_map]; exact hi), List.getElem?_map] at h
        cases e : qs[i]? with
        | none => rw [e] at h; cases h
        | some a => rw [e] at h; cases h; rfl
      · rw [List.getElem?_append_right (by rw [List.length_map]; omega), List.getElem?_replicate] at h
        split at h <;> cases h
  have kj : ∀ {j p}, qs[j]? = some p → κ (j + 1) = false := fun {j p} h => hκ j (by have := (List.getElem?_eq_some_iff.mp h).1; omega)
  have st0 : (L2.start N (V.ref x :: ws))[0]? = some (some (V.ref x)) := rfl
  have stj : ∀ {j v}, ws[j]? = some v → (L2.start N (V.ref x :: ws))[j + 1]? = some (some v) := fun {j v} h => by
    unfold L2.start
    have hj : j < ws.length := (List.getElem?_eq_some_iff.mp h).1
    rw [List.getElem?_append_left (by rw [List.length_map, List.length_cons]; omega), List.getElem?_map, List.getElem?_cons_succ, h]
    rfl
  have L : Ls G K κ (some x) F H1 F (upd (upd H1 dx (.own x)) x (.ins (G c) dx [])) (L2.start N (V.ref x :: ws)) (some (PV.ins c []) :: (qs.map some ++ List.replicate (N.length - (n + 1)) none)) := by
    refine ⟨⟨e1.sub, ?_, fun i p h1 h2 => ?_, fun i p h1 h2 => ?_, fun i j p q a h1 h2 h3 h4 h5 h6 => ?_⟩, e1, fun i p a h1 h2 h3 => ?_, fun a z => by cases z; exact ⟨hκ0, st0⟩⟩
    · unfold L2.start
      rw [List.length_append, List.length_map, List.length_cons, List.length_cons, List.length_append, List.length_map, List.length_replicate, List.length_replicate, hlen]
      omega
    · rcases key i p h1 with ⟨rfl, rfl⟩ | ⟨j, rfl, hj⟩
      · rw [hκ0] at h2; cases h2
      · obtain ⟨v, e, rv⟩ := r.get hj
        exact ⟨v, stj e, rv⟩
    · rcases key i p h1 with ⟨rfl, rfl⟩ | ⟨j, rfl, hj⟩
      · exact ⟨x, st0, hFx, dx, [], upd_same, .nil⟩
      · rw [kj hj] at h2; cases h2
    · rcases key i p h3 with ⟨rfl, rfl⟩ | ⟨i, rfl, hi⟩
      · rcases key j q h4 with ⟨rfl, rfl⟩ | ⟨j, rfl, hj⟩
        · rfl
        · rw [kj hj] at h2; cases h2
      · rw [kj hi] at h1; cases h1
    · rcases key i p h2 with ⟨rfl, rfl⟩ | ⟨i, rfl, hi⟩
      · rw [st0] at h3; cases h3; exact hx
      · rw [kj hi] at h1; cases h1
  refine ⟨_, hbody cdv A outer s _ E hr, F, H1, F, _, some x, L, ?_⟩
  rw [hg qs hl] at q
  cases hm : m (some (.ins c []) :: (qs.map some ++ List.replicate (N.length - (n + 1)) none)) with
  | bk τ => rw [hm] at q; exact q.elim
  | ct τ => rw [hm] at q; exact q.elim
  | bad => rw [hm] at q; exact q.elim
  | rt p => rw [hm] at q; exact q.elim
  | ex c fs τ => rw [hm] at q; exact fun σ' F' H' d fs l h1 h2 => q d fs F' H' l.ext h1 h2
  | nx τ =>
    rw [hm] at q
    intro σ' F' H' l
    unfold finI at q
    simp only at q
    cases ht : τ[0]? with
    | none => simp only [ht] at q
    | some t =>
      cases t with
      | none => simp only [ht] at q
      | some p =>
        simp only [ht] at q
        obtain ⟨_, hx'⟩ := l.me x rfl
        obtain ⟨a, e2, hF, o⟩ := l.lc.ow 0 p ht hκ0
        rw [hx'] at e2
        cases e2
        exact q F' H' l.ext ⟨x, rfl, hx, hF, o⟩
end
end Lp
end
section
set_option Elab.async false
set_option linter.all false
set_option maxRecDepth 100000
namespace Lp
open PySem PySem.Spec L2

/-- the keywords' values in the parameters' order -/
def gp {α : Type} (perm : List Nat) (xs : List α) : List α := perm.filterMap fun i => xs[i]?
theorem gp_vals {zs : List V} {ws : List Value} (r : Vals zs ws) : ∀ perm : List Nat, Vals (gp perm zs) (gp perm ws)
  | [] => .nil
  | i :: perm => by
    have ih := gp_vals r perm
    unfold gp at ih ⊢
    rw [List.filterMap_cons, List.filterMap_cons]
    cases h : zs[i]? with
    | none =>
      have h2 : ws[i]? = none := by
        rw [List.getElem?_eq_none_iff] at h ⊢
        rw [← r.length]; exact h
      rw [h2]
      exact ih
    | some v =>
      obtain ⟨u, hu, ru⟩ := r.get h
      rw [hu]
      exact .cons ru ih
section
variable {G : Nat → Addr} {K : PySem.W.Frag} {F H F' H' F0 H0 : Hp}
theorem gp_reps {vs : List V} {qs : List PV} (r : Reps G K F vs qs) : ∀ perm : List Nat, Reps G K F (gp perm vs) (gp perm qs)
  | [] => .nil
  | i :: perm => by
    have ih := gp_reps r perm
    unfold gp at ih ⊢
    rw [List.filterMap_cons, List.filterMap_cons]
    cases h : qs[i]? with
    | none =>
      have h2 : vs[i]? = none := by
        rw [List.getElem?_eq_none_iff] at h ⊢
        rw [r.length]; exact h
      rw [h2]
      exact ih
    | some v =>
      obtain ⟨u, hu, ru⟩ := r.get h
      rw [hu]
      exact .cons ru ih
end
structure DkK (P : Program) (w : World) (K : PySem.W.Frag) (mg : Str → Option Value) (base : Heap) (k : Nat) (x : Str) (sp : Sp) (ks : List Str) (perm : List Nat) : Prop where
  ex : ∃ f fd ps, FnOk P w K mg base (L2.CX P w) k f fd ps sp ∧ mg x = some (.ref f) ∧ PySem.W.keepIn K (.ref f) = true ∧ KBn K fd ps 0 ks (fun _ ws => gp perm ws) (fun _ zs => gp perm zs)
structure MkrK (P : Program) (w : World) (K : PySem.W.Frag) (mg : Str → Option Value) (base : Heap) (k : Nat) (x : Str) (C : Addr) (sp : Sp) (ks : List Str) (perm : List Nat) : Prop where
  ex : ∃ f fd ps, Mk K C f ∧ FnOk P w K mg base (L2.CX P w) k f fd ps sp ∧ mg x = some (.ref C) ∧ KBn K fd ps 1 ks (fun us ws => us ++ gp perm ws) (fun vs zs => vs ++ gp perm zs)
theorem kbn0 {K : PySem.W.Frag} {x qual : Str} {st : Stmt} {f : Addr} {fd : FuncData} {ps : List Str} (F : Fun K x qual st f fd) (ks : List Str) (perm : List Nat)
    (h : ∀ (kV doc pm : Value) (an : Option Addr) (cdv ct : Value) (ws : List Value), ws.length = ks.length → bindArgs (PySem.W.fnOf x qual (defArgs st) (defBody st) (defScope st) .none kV doc pm an cdv ct) ⟨[], ks.zip ws⟩ = pure (ps.zip (gp perm ws))) :
    KBn K fd ps 0 ks (fun _ ws => gp perm ws) (fun _ zs => gp perm zs) := by
  obtain ⟨oc, od, kV, doc, pm, an, cdv, ct, osl, rfl, lk, hcd⟩ := F.ex
  refine ⟨fun s us ws X l1 l2 => ?_, fun _ r => gp_vals r perm⟩
  have : us = [] := List.length_eq_zero_iff.mp l1
  subst this
  exact BindsTo.of_eq (h kV doc pm an cdv ct ws l2)
theorem kbn1 {K : PySem.W.Frag} {x qual : Str} {st : Stmt} {f : Addr} {fd : FuncData} {ps : List Str} (F : Fun K x qual st f fd) (ks : List Str) (perm : List Nat)
    (h : ∀ (kV doc pm : Value) (an : Option Addr) (cdv ct : Value) (u : Value) (ws : List Value), ws.length = ks.length → bindArgs (PySem.W.fnOf x qual (defArgs st) (defBody st) (defScope st) .none kV doc pm an cdv ct) ⟨[u], ks.zip ws⟩ = pure (ps.zip (u :: gp perm ws))) :
    KBn K fd ps 1 ks (fun us ws => us ++ gp perm ws) (fun vs zs => vs ++ gp perm zs) := by
  obtain ⟨oc, od, kV, doc, pm, an, cdv, ct, osl, rfl, lk, hcd⟩ := F.ex
  refine ⟨fun s us ws X l1 l2 => ?_, fun r1 r => r1.append (gp_vals r perm)⟩
  obtain ⟨u, rfl⟩ := List.length_eq_one_iff.mp l1
  exact BindsTo.of_eq (h kV doc pm an cdv ct u ws l2)

section
variable {G : Nat → Addr} {F H F' H' F0 H0 : Hp} {X : Cx} {v : V} {p : PV} {κ : Kd} {E : St → XK} {W : WX} {m md rm : Mode} {e : Expr} {kws : List Keyword} {pos p' kpos : Pos} {σ : St} {τ : LE} {x : Str} {k n c : Nat} {g : List PV → Res PV} {f : LE → Res PV} {fa : LE → Res (List PV)} {ks : List Str} {perm : List Nat} {nm : Option Str}
theorem pk_weak {t t' : TA} (h : PK X kws t) (w : ∀ σ H Q, t' σ H Q → t σ H Q) : PK X kws t' := ⟨fun pos pins s σ H Q I q => h.run pos pins s σ H Q I (w σ H Q q)⟩
theorem k_nil : PK X [] (tA G X.K m E κ aNil) := pk_weak pk_nil fun σ H Q ⟨F, τ, l, q⟩ => q [] F H (Ext.refl l.sub) .nil
theorem k_cons {g : LE → Res (List PV)} (h : PE X e (tE G X.K m E κ f)) (hr : PK X kws (tA G X.K m E κ g)) : PK X (⟨nm, e, kpos⟩ :: kws) (tA G X.K m E κ (aCons f g)) :=
  pk_weak (pk_cons h hr) fun σ H Q ⟨F, τ, l, q⟩ => by
    refine ⟨F, τ, l, ?_⟩
    unfold aCons at q
    cases hf : f τ with
    | exc c ps => rw [hf] at q; exact q
    | bad => rw [hf] at q; exact q
    | ok p =>
      rw [hf] at q
      intro v F1 H1 e1 r1
      refine ⟨F1, τ, l.ext e1, ?_⟩
      cases hg : g τ with
      | exc c ps => rw [Res.ok_bind, hg] at q; exact ExcOk.ext q e1
      | bad => rw [Res.ok_bind, hg] at q; exact q
      | ok ps =>
        rw [Res.ok_bind, hg] at q
        exact fun vs F2 H2 e2 r2 => q (v :: vs) F2 H2 (e1.trans e2) (.cons (r1.ext e2) (r2.before e1.h))
def eFnK (nk : Nat) (perm : List Nat) (g : List PV → Res PV) (fa : LE → Res (List PV)) : LE → Res PV := fun τ => fa τ >>= fun qs => if qs.length = nk then g (gp perm qs) else .bad
theorem v_callK (D : DkK X.prog X.w X.K X.mg X.base k x (spM G X.K rm n g) ks perm) (hr : Room k X.A) (tk : Takes X W) (hkw : PK X kws (tA G X.K .sh (WE W) κ fa)) (hL : ∀ ps, g ps ≠ .bad → ps.length = n) {nk : Nat} (hnk : ks.length = nk := by rfl) (hg : Gl X x := by rfl)
    (hall : (backToKw pos (keywordEach kws X.env)).all (·.1.isSome) = true := by rfl) (hks : (backToKw pos (keywordEach kws X.env)).filterMap (·.1) = ks := by rfl) (hdb : (x == ("__debug__" : Str)) = false := by decide)
    (hpl : ((backTo pos (starEach [] X.env)).any (·.1) || (backToKw pos (keywordEach kws X.env)).any (·.1.isNone)) = false := by rfl) :
    PE X (.Call (.Name x p') [] kws pos) (tE G X.K rm (WE W) κ (eFnK nk perm g fa)) := by
  subst hnk
  obtain ⟨f, fd, ps, Fk, hm, hk, hb⟩ := D.ex
  refine ⟨fun pins s σ H Q I ⟨F, τ, l, q⟩ => ?_⟩
  refine wpAny_Call_Name_kw (ld_glob I hg hm ?_ hdb)
  refine PySem.W.callWith_KW0 (h₀ := X.base) I.ok.mod.kin hk hall ?_ hpl
  refine thn (hkw.run pos pins s σ H (fun zs H2 => spM G X.K rm n g (gp perm zs) H2 Q (WE W σ) ∧ zs.length = ks.length) I ⟨F, τ, l, ?_⟩) fun ws s2 ⟨zs, H2, I2, rz, q2, hz⟩ => ⟨I2.kIn, ?_⟩
  · unfold eFnK at q
    cases hf : fa τ with
    | bad => rw [hf] at q; exact q
    | exc c ps => rw [hf] at q; exact q
    | ok qs =>
      rw [hf, Res.ok_bind] at q
      intro vs F1 H1 e1 r1
      by_cases hlen : qs.length = ks.length
      · rw [if_pos hlen] at q
        have rs := r1.shared
        refine ⟨⟨F1, gp perm qs, e1.sub, gp_reps rs perm, hL _ fun z => by rw [z] at q; exact q, ?_⟩, by rw [rs.length]; exact hlen⟩
        cases hg : g (gp perm qs) with
        | bad => rw [hg] at q; exact q
        | exc c ps => rw [hg] at q; exact ExcOk.ext q e1
        | ok p => rw [hg] at q; exact fun v F2 H2 e2 r2 => q v F2 H2 (e1.trans e2) (r2.before e1.h)
      · rw [if_neg hlen] at q; exact q.elim
  · rw [hks]
    have r2 := gp_vals rz perm
    refine wpAny_call (codeAny_mono (Fk.run X.A X.stack s2 H2 ⟨[], ks.zip ws⟩ (gp perm ws) (gp perm zs) Q (WE W σ) hr I2.env0 (hb.to s2 [] ws I2.kIn rfl (rz.length.symm.trans hz)) r2 q2) fun r s' hq => ?_)
    cases r with
    | error e => exact passAt tk σ pins H2 s2 e s' I2 hq
    | ok fl =>
      cases fl with
      | ret u => exact I2.after hq
      | next => exact False.elim hq
      | brk => exact False.elim hq
      | cont => exact False.elim hq
theorem v_makeK (D : MkrK X.prog X.w X.K X.mg X.base k x (G c) (spI G X.K c n g) ks perm) (hr : Room (k + 1) X.A) (tk : Takes X W) (hkw : PK X kws (tA G X.K .sh (WE W) κ fa)) (hL : ∀ ps, g ps ≠ .bad → ps.length = n) {nk : Nat} (hnk : ks.length = nk := by rfl) (hg : Gl X x := by rfl)
    (hall : (backToKw pos (keywordEach kws X.env)).all (·.1.isSome) = true := by rfl) (hks : (backToKw pos (keywordEach kws X.env)).filterMap (·.1) = ks := by rfl) (hdb : (x == ("__debug__" : Str)) = false := by decide)
    (hpl : ((backTo pos (starEach [] X.env)).any (·.1) || (backToKw pos (keywordEach kws X.env)).any (·.1.isNone)) = false := by rfl) :
    PE X (.Call (.Name x p') [] kws pos) (tE G X.K .fr (WE W) κ (eFnK nk perm g fa)) := by
  subst hnk
  obtain ⟨f, fd, ps, M, Fk, hm, hb⟩ := D.ex
  refine ⟨fun pins s σ H Q I ⟨F, τ, l, q⟩ => ?_⟩
  refine wpAny_Call_Name_kw (ld_glob I hg hm ?_ hdb)
  refine PySem.W.callWith_KW0 (h₀ := X.base) I.ok.mod.kin M.kp hall ?_ hpl
  refine thn (hkw.run pos pins s σ H (fun zs H2 => (∀ x dx, H2 x = none → H2 dx = none → dx ≠ x → spI G X.K c n g (.ref x :: gp perm zs) (upd (upd H2 dx (.own x)) x (.ins (G c) dx [])) (fun v H3 => v = .non ∧ Q (.ref x) H3) (WE W σ)) ∧ zs.length = ks.length) I ⟨F, τ, l, ?_⟩) fun ws s1 ⟨zs, H2, I2, rz, q2, hz⟩ => ⟨I2.kIn, ?_⟩
  · unfold eFnK at q
    cases hf : fa τ with
    | bad => rw [hf] at q; exact q
    | exc c ps => rw [hf] at q; exact q
    | ok qs =>
      rw [hf, Res.ok_bind] at q
      intro vs F1 H1 e1 r1
      by_cases hlen : qs.length = ks.length
      · rw [if_pos hlen] at q
        have rs := r1.shared
        refine ⟨fun x dx hx hdx hne => ⟨F1, H1, x, dx, gp perm vs, gp perm qs, rfl, rfl, hx, hdx, hne, e1.sub, gp_reps rs perm, hL _ fun z => by rw [z] at q; exact q, ?_⟩, by rw [rs.length]; exact hlen⟩
        cases hg : g (gp perm qs) with
        | bad => rw [hg] at q; exact q
        | exc c ps => rw [hg] at q; exact ExcOk.ext q e1
        | ok p => rw [hg] at q; exact fun F2 H2 e2 r2 => ⟨rfl, q _ F2 H2 (e1.trans e2) (Frs.before r2 e1.h)⟩
      · rw [if_neg hlen] at q; exact q.elim
  · rw [hks]
    show wpAny (model X.prog X.w) X.A (call (.ref (G c)) [] (ks.zip ws)) (EP X pins σ Q) X.xe s1
    have hq := q2 (s1.heap.objs.size + 1) s1.heap.objs.size (I2.hok.fresh (Nat.le_succ _)) (I2.hok.fresh (Nat.le_refl _)) (Nat.ne_of_lt (Nat.lt_succ_self _))
    have I3 := Inv.made (C := G c) I2
    have r2 : Vals (V.ref (s1.heap.objs.size + 1) :: gp perm zs) (Value.ref (s1.heap.objs.size + 1) :: gp perm ws) := .cons rfl (gp_vals rz perm)
    refine wpAny_call (make_map (f := f) I2.kIn M.makes M.init (beq_iff_eq.mp M.fn) (codeAny_mono (Fk.run _ X.stack _ _ ⟨Value.ref (s1.heap.objs.size + 1) :: [], ks.zip ws⟩ _ _ _ (WE W σ) (hr.make (G c) [] (ks.zip ws))
      (I3.env0.make (G c) [] (ks.zip ws)) (hb.to _ [Value.ref (s1.heap.objs.size + 1)] ws I3.kIn rfl (rz.length.symm.trans hz)) r2 hq) fun r s' hq' => ?_))
    cases r with
    | error e => exact passAt tk σ pins _ _ e s' I3 hq'
    | ok fl =>
      cases fl with
      | ret u =>
        obtain ⟨v, H', I4, rv, ev, q3⟩ := I3.after hq'
        subst ev
        exact ⟨rv, ⟨V.ref (s1.heap.objs.size + 1), H', I4, rfl, q3⟩⟩
      | next => exact False.elim hq'
      | brk => exact False.elim hq'
      | cont => exact False.elim hq'
end
end Lp
end
section
set_option Elab.async false
set_option linter.all false
set_option maxRecDepth 100000
namespace Lp
open PySem PySem.Spec L2

section
variable {G : Nat → Addr} {K : PySem.W.Frag} {F H F' H' F0 H0 : Hp} {X : Cx} {v : V} {p : PV} {κ : Kd} {E : St → XK} {W : WX} {m md rm : Mode} {e e' a b : Expr} {es : List Expr} {pos p' : Pos} {σ : St} {τ : LE} {f fi fe : LE → Res PV}
/-! ### a value as a test -/
theorem t_val (h : PE X e (tE G K .sh E κ f)) (he : ∀ whole, isTrue e X.env whole = (do let v ← whole; standAt e.pos; holding [v] (truthy v)) := by intro _; rfl) : PT X e (tT G K E κ (tst f)) :=
  pt_weak (pt_val h he) fun _ _ _ q => w_tst (fun _ _ _ h => h) q
/-! ### either of two readings -/
theorem OpV.freeze {r : R2} {g : PV → PV → Option PV} (h : OpV G K r .fr g) : OpV G K r .sh g := fun F H x y p q z Q s rx ry hz k => h F H x y p q z Q s rx ry hz fun v F' H' e r => by
  obtain ⟨a, rfl, h0, hF, o⟩ := r
  obtain ⟨F2, e2, r2⟩ := e.freeze h0 hF o
  exact k _ F2 H' e2 r2
def orP (g g' : PV → PV → Option PV) : PV → PV → Option PV := fun p q => match g p q with
  | some z => some z
  | none => g' p q
theorem OpV.or {r r' : R2} {g g' : PV → PV → Option PV} (h : OpV G K r m g) (h' : OpV G K r' m g') : OpV G K (fun x y H Q => r x y H Q ∨ r' x y H Q) m (orP g g') := fun F H x y p q z Q s rx ry hz k => by
  unfold orP at hz
  cases hg : g p q with
  | some w =>
    rw [hg] at hz
    cases hz
    exact .inl (h F H x y p q _ Q s rx ry hg k)
  | none =>
    rw [hg] at hz
    exact .inr (h' F H x y p q z Q s rx ry hz k)
def pAddA : PV → PV → Option PV := orP pAdd pCat
theorem op_addA : OpR X (binaryOp .Add) (fun x y H Q => rAddV X.K x y H Q ∨ rCatR x y H Q) := op_addV.or op_catR
theorem g_addA : OpV G K (fun x y H Q => rAddV K x y H Q ∨ rCatR x y H Q) .sh pAddA := g_add.or g_cat.freeze
/-! ### slices of texts, tuples, lists -/
def pSlA (p : PV) (lo hi : Option Int) : Option PV := match pSl p lo hi with
  | some z => some z
  | none => pSlL p lo hi
theorem sl_A : SlR X (fun x lo hi H Q => rSlV X.K x lo hi H Q ∨ rSlL X.K x lo hi H Q) := sl_V.or sl_list
theorem g_slA : SlV (fun x lo hi H Q => rSlV K x lo hi H Q ∨ rSlL K x lo hi H Q) .sh G K pSlA := fun F H x p z lo hi Q s rx hz k => by
  unfold pSlA at hz
  cases hg : pSl p lo hi with
  | some w =>
    rw [hg] at hz
    cases hz
    exact .inl (g_sl F H x p _ lo hi Q s rx hg k)
  | none =>
    rw [hg] at hz
    refine .inr (g_slL F H x p z lo hi Q s rx hz fun v F' H' e r => ?_)
    obtain ⟨a, rfl, h0, hF, o⟩ := r
    obtain ⟨F2, e2, r2⟩ := e.freeze h0 hF o
    exact k _ F2 H' e2 r2
end
end Lp
end
section
set_option Elab.async false
set_option linter.all false
set_option maxRecDepth 100000
namespace L2
open PySem PySem.Spec PyProof.Rows
section
variable {X : Cx} {a b c d : Expr} {pos : Pos} {ta tb tc td : TE} {op1 op2 op3 : CmpOp} {g1 g2 g3 : Int → Int → Bool}
/-- a op1 b op2 c op3 d of ints -/
def tChain3 (g1 g2 g3 : Int → Int → Bool) (ta tb tc td : TE) : TE := fun σ H Q => ta σ H fun x H1 => tb σ H1 fun y H2 => ∃ i j, x = .int i ∧ y = .int j ∧
  (if g1 i j = true then tc σ H2 fun z H3 => ∃ k, z = .int k ∧ (if g2 j k = true then td σ H3 fun w H4 => ∃ l, w = .int l ∧ Q (.bl (g3 k l)) H4 else Q (.bl false) H3) else Q (.bl false) H2)
theorem pe_chain3 (h1 : OpR X (compareOp op1) (rI0 fun i j => .bl (g1 i j))) (h2 : OpR X (compareOp op2) (rI0 fun i j => .bl (g2 i j))) (h3 : OpR X (compareOp op3) (rI0 fun i j => .bl (g3 i j))) (ha : PE X a ta) (hb : PE X b tb) (hc : PE X c tc) (hd : PE X d td)
    (hm : lastMarks [op1, op2, op3] [b, c, d] = false := by with_unfolding_all rfl) : PE X (.Compare a [op1, op2, op3] [b, c, d] pos) (tChain3 g1 g2 g3 ta tb tc td) := by
  refine ⟨fun pins s σ H Q I h => ?_⟩
  refine Compare_chain (thn (ha.run pins s σ H _ I h) fun v s1 ⟨x, H1, I1, r1, q1⟩ => chain_link (thn (hb.run pins s1 σ H1 _ I1 q1) fun u s2 ⟨y, H2, I2, r2, i, j, ex, ey, q2⟩ =>
    thn (h1 pins s2 σ H2 x y v u (fun z H3 => z = .bl (g1 i j) ∧ H3 = H2) I2 r1 r2 ⟨i, j, ex, ey, rfl, rfl⟩) fun d' s3 ⟨z, H3, I3, r3, e, e'⟩ => ?_)) hm
  subst e e'
  cases r3
  refine wpAny_truthy_bool ?_
  cases hg : g1 i j with
  | false =>
    rw [hg, if_neg Bool.false_ne_true] at q2
    exact ite_ff ⟨.bl false, _, I3, rfl, q2⟩
  | true =>
    rw [hg, if_pos rfl] at q2
    refine ite_tt (chain_link (thn (hc.run pins s3 σ _ _ I3 q2) fun u3 s4 ⟨z, H4, I4, r4, k, ez, q4⟩ =>
      thn (h2 pins s4 σ H4 y z u u3 (fun w H5 => w = .bl (g2 j k) ∧ H5 = H4) I4 r2 r4 ⟨j, k, ey, ez, rfl, rfl⟩) fun d2 s5 ⟨w, H5, I5, r5, e, e'⟩ => ?_))
    subst e e'
    cases r5
    refine wpAny_truthy_bool ?_
    cases hg2 : g2 j k with
    | false =>
      rw [hg2, if_neg Bool.false_ne_true] at q4
      exact ite_ff ⟨.bl false, _, I5, rfl, q4⟩
    | true =>
      rw [hg2, if_pos rfl] at q4
      exact ite_tt (chain_last (thn (hd.run pins s5 σ _ _ I5 q4) fun u6 s6 ⟨w, H6, I6, r6, l, ew, q6⟩ => h3 pins s6 σ H6 z w u3 u6 Q I6 r4 r6 ⟨k, l, ez, ew, q6⟩))
end
end L2
namespace Lp
open PySem PySem.Spec L2

section
variable {G : Nat → Addr} {K : PySem.W.Frag} {F H F' H' F0 H0 : Hp} {X : Cx} {v : V} {p : PV} {κ : Kd} {E : St → XK} {m md rm : Mode} {a b c d : Expr} {pos p' : Pos} {σ : St} {τ : LE} {f1 f2 f3 f4 : LE → Res PV} {op1 op2 op3 : CmpOp} {g1 g2 g3 : Int → Int → Bool}
def asI (f : LE → Res PV) : LE → Res Int := fun τ => f τ >>= fun p => match p with
  | .int i => .ok i
  | _ => .bad
def eChain3 (g1 g2 g3 : Int → Int → Bool) (f1 f2 f3 f4 : LE → Res PV) : LE → Res PV := fun τ => asI f1 τ >>= fun i => asI f2 τ >>= fun j => if g1 i j = true then asI f3 τ >>= fun k => (if g2 j k = true then asI f4 τ >>= fun l => .ok (.bl (g3 k l)) else .ok (.bl false)) else .ok (.bl false)
theorem w_asI {f : LE → Res PV} {k : Int → Res PV} {F : Hp} {σ : St} {H : Hp} {Q : VK} (l : Lc G K κ F H σ τ) (q : match asI f τ >>= k with
    | .ok p => ∀ v F' H', Ext F H F' H' → RM G K .sh H F' H' v p → Q v H'
    | .exc c ps => ExcOk G K (E σ) F H c ps
    | .bad => False) (R : VK) (h : ∀ i F1 H1, Ext F H F1 H1 → (match k i with
    | .ok p => ∀ v F' H', Ext F1 H1 F' H' → RM G K .sh H1 F' H' v p → Q v H'
    | .exc c ps => ExcOk G K (E σ) F1 H1 c ps
    | .bad => False) → R (.int i) H1) : tE G K .top E κ f σ H R := by
  refine ⟨F, τ, l, ?_⟩
  unfold asI at q
  cases hf : f τ with
  | exc c ps => rw [hf] at q; exact q
  | bad => rw [hf] at q; exact q
  | ok p =>
    rw [hf] at q
    intro v F1 H1 e1 r1
    cases p with
    | int i =>
      obtain rfl := Top.int_inv r1
      refine h i F1 H1 e1 ?_
      simp only [Res.ok_bind] at q
      cases hk : k i with
      | ok p => rw [hk] at q; exact fun v F2 H2 e2 r2 => q v F2 H2 (e1.trans e2) r2
      | exc c ps => rw [hk] at q; exact ExcOk.ext q e1
      | bad => rw [hk] at q; exact q
    | _ => exact q.elim
theorem v_chain3 (h1 : OpR X (compareOp op1) (rI0 fun i j => .bl (g1 i j))) (h2 : OpR X (compareOp op2) (rI0 fun i j => .bl (g2 i j))) (h3 : OpR X (compareOp op3) (rI0 fun i j => .bl (g3 i j)))
    (ha : PE X a (tE G K .top E κ f1)) (hb : PE X b (tE G K .top E κ f2)) (hc : PE X c (tE G K .top E κ f3)) (hd : PE X d (tE G K .top E κ f4))
    (hm : lastMarks [op1, op2, op3] [b, c, d] = false := by with_unfolding_all rfl) : PE X (.Compare a [op1, op2, op3] [b, c, d] pos) (tE G K .sh E κ (eChain3 g1 g2 g3 f1 f2 f3 f4)) :=
  pe_weak (pe_chain3 h1 h2 h3 ha hb hc hd hm) fun σ H Q ⟨F, τ, l, q⟩ => by
    unfold eChain3 at q
    refine w_asI l q _ fun i F1 H1 e1 q => ?_
    refine w_asI (l.ext e1) q _ fun j F2 H2 e2 q => ?_
    refine ⟨i, j, rfl, rfl, ?_⟩
    cases hg : g1 i j with
    | false =>
      rw [hg, if_neg Bool.false_ne_true] at q
      rw [if_neg Bool.false_ne_true]
      exact q _ F2 H2 (Ext.refl e2.sub) (.bl _)
    | true =>
      rw [hg, if_pos rfl] at q
      rw [if_pos rfl]
      refine w_asI ((l.ext e1).ext e2) q _ fun k F3 H3 e3 q => ?_
      refine ⟨k, rfl, ?_⟩
      cases hg2 : g2 j k with
      | false =>
        rw [hg2, if_neg Bool.false_ne_true] at q
        rw [if_neg Bool.false_ne_true]
        exact q _ F3 H3 (Ext.refl e3.sub) (.bl _)
      | true =>
        rw [hg2, if_pos rfl] at q
        rw [if_pos rfl]
        refine w_asI (((l.ext e1).ext e2).ext e3) q _ fun n F4 H4 e4 q => ?_
        exact ⟨n, rfl, q _ F4 H4 (Ext.refl e4.sub) (.bl _)⟩
end
end Lp
end
section
set_option Elab.async false
set_option linter.all false
set_option maxRecDepth 100000
namespace Lp
open PySem PySem.Spec L2
section
variable {G : Nat → Addr} {K : PySem.W.Frag} {X : Cx} {κ : Kd} {E : St → XK} {pos : Pos} {x z : Str} {i : Int}
theorem v_gintE (hm : ∃ t, X.mg x = some (.int i t)) (hg : Gl X x := by rfl) (hd : (x == ("__debug__" : Str)) = false := by decide) : PE X (.Name x pos) (tE G K .sh E κ (eC (.int i))) := let ⟨_, h⟩ := hm; v_gint h hg hd
theorem v_gstrE (hm : ∃ t, X.mg x = some (.str z t)) (hg : Gl X x := by rfl) (hd : (x == ("__debug__" : Str)) = false := by decide) : PE X (.Name x pos) (tE G K .sh E κ (eC (.str z))) := let ⟨_, h⟩ := hm; v_gstr h hg hd
theorem tidy_rs (i : Nat) (r : Res PV) (τ τ' : LE) : tidy i (rs r τ Fl.rt) = tidy i (rs r τ' Fl.rt) := by cases r <;> rfl
end
end Lp
end
section
set_option Elab.async false
set_option linter.all false
set_option maxRecDepth 100000
namespace L2
open PySem PySem.Spec PyProof.Rows
section
variable {X : Cx}
theorem ps_setDc {i : Nat} {y : Str} {py : Pos} {kx vx tg iter : Expr} {ifs : List Expr} {scope : Scope} {own : List (Str × Nat)} {pos spos : Pos} {wi : TI} {g : TG} {tt : TT} {tk tv : TE} (hc : X.calm = true) (hN : X.N.Nodup) (hy : X.N[i]? = some y) (hyl : X.env.scope.names.lookup y = some .local)
    (hsw : swapsWith (.DictComp kx vx [⟨tg, iter, ifs, 0⟩] scope pos) (some (.Name y py)) spos.line X.env = pure true) (hi : PI X tg iter wi) (ok : BlkOk X.N X.env.scope scope own)
    (hg : ∀ (s : Shared) (H : Hp) (C : Addr) (cl : List (Str × Addr)) (fp : List Addr), PG (X.blk s H scope (compEnvC scope cl C X.env) fp) tg g) (ht : ∀ (s : Shared) (H : Hp) (C : Addr) (cl : List (Str × Addr)) (fp : List Addr), PTs (X.blk s H scope (compEnvC scope cl C X.env) fp) ifs tt)
    (hk : ∀ (s : Shared) (H : Hp) (C : Addr) (cl : List (Str × Addr)) (fp : List Addr), PE (X.blk s H scope (compEnvC scope cl C X.env) fp) kx tk)
    (he : ∀ (s : Shared) (H : Hp) (C : Addr) (cl : List (Str × Addr)) (fp : List Addr), PE (X.blk s H scope (compEnvC scope cl C X.env) fp) vx tv) (hs : ∀ x, foldedSetIterable iter X.env x = pure x := by intro _; rfl) :
    PS X (.Assign [.Name y py] (.DictComp kx vx [⟨tg, iter, ifs, 0⟩] scope pos) spos) (tAsg (tDc wi g tt tk tv (own.map (·.2))) (gName i)) := by
  refine ⟨fun pins s σ H D I h => ?_⟩
  rw [exec_Assign_Name_used _ _ _ _ hsw]
  refine wpAny_bind (wpAny_standAt (wpAny_bind ?_))
  show wpAny _ X.A (do let _ ← comprehension (.DictComp kx vx [⟨tg, iter, ifs, 0⟩] scope pos) scope X.env (firstIterPos [⟨tg, iter, ifs, 0⟩] pos) newDict false (eval iter X.env) (some (assign (.Name y py) X.env))) _ _ s
  have h : tDc wi g tt tk tv (own.map (·.2)) σ H (fun x H1 => gName i x σ H1 D.nx) := h
  refine wpAny_bind (thn (dc_core (Qf := fun _ s' => SP X pins D .next s') hc hN I hi ok hg ht hk he hs h fun L C s' m H' I' q hn f => ?_) fun _ s' hq => wpAny_pure (wpAny_pure hq))
  show wpAny _ _ (assign (.Name y py) X.env (.ref L)) _ _ _
  refine wpAny_assign_Name (store_ok2 (v := V.ref L) I' hN hy (.inl hyl) rfl (fun s2 I2 ⟨a, sb, ha⟩ => ?_) (.inr hyl))
  obtain ⟨f0, f1, f2, f3, f4, f5⟩ := f
  have haC : C ≠ a := by
    rcases ha with z | z
    · rw [z]; exact f1
    · exact fun e => f4 y a z e.symm
  refine ⟨m, hn.sameBut sb haC, fun h3 sb3 => ?_⟩
  exact ⟨_, H', I2.turned (t' := s2.toks) (fun b o hb e => (sb3.2 b hb).trans e) f0 f1 f3 f4 f5, q⟩
end
end L2
namespace Lp
open PySem PySem.Spec L2
section
variable {G : Nat → Addr} {K : PySem.W.Frag} {F H F' H' F0 H0 : Hp} {X : Cx} {v : V} {p : PV} {κ : Kd} {E : St → XK} {m md rm : Mode} {tg iter elt : Expr} {pos p' : Pos} {zs : Option Addr} {σ : St} {τ : LE} {f : LE → Res PV} {te : TE} {i : Nat}
/-- a fresh object, into an owned slot or a shared one -/
theorem w_setO (k : κ i = true) (hi0 : i ≠ 0) (hw : ∀ σ H Q, tE G K .fr E κ f σ H Q → te σ H Q) {D : Ends} (q : tStm G K E κ rm (sSet i f) D σ H) : tAsg te (gName i) D σ H := by
  obtain ⟨F0, H0, F, τ, zs, l, q⟩ := q
  refine hw σ H _ ⟨F, τ, l.lc, ?_⟩
  unfold sSet at q
  cases h : f τ with
  | exc c ps => rw [h] at q; exact l.exc q
  | bad => rw [h] at q; exact q
  | ok p =>
    rw [h, rs_ok] at q
    intro v F1 H1 e1 r1
    by_cases hl : i < τ.length
    · rw [if_pos hl] at q
      exact q _ F1 H1 (l.setO e1 k hi0 hl r1)
    · rw [if_neg hl] at q; exact q.elim
theorem w_setF (k : κ i = false) (hw : ∀ σ H Q, tE G K .fr E κ f σ H Q → te σ H Q) {D : Ends} (q : tStm G K E κ rm (sSet i f) D σ H) : tAsg te (gName i) D σ H := by
  obtain ⟨F0, H0, F, τ, zs, l, q⟩ := q
  refine hw σ H _ ⟨F, τ, l.lc, ?_⟩
  unfold sSet at q
  cases h : f τ with
  | exc c ps => rw [h] at q; exact l.exc q
  | bad => rw [h] at q; exact q
  | ok p =>
    rw [h, rs_ok] at q
    intro v F1 H1 e1 r1
    obtain ⟨a, rfl, h0, hF, o⟩ := r1
    obtain ⟨F2, e2, r2⟩ := e1.freeze h0 hF o
    by_cases hl : i < τ.length
    · rw [if_pos hl] at q
      exact q _ F2 H1 ((l.of_ext e2).set k hl r2)
    · rw [if_neg hl] at q; exact q.elim
theorem w_setX (b : Bool) (k : κ i = b) (hi0 : b = true → i ≠ 0) (hw : ∀ σ H Q, tE G K .fr E κ f σ H Q → te σ H Q) {D : Ends} (q : tStm G K E κ rm (sSet i f) D σ H) : tAsg te (gName i) D σ H := by
  cases b with
  | true => exact w_setO k (hi0 rfl) hw q
  | false => exact w_setF k hw q
theorem s_setLc (i : Nat) (b : Bool) {y : Str} {py spos : Pos} {ifs : List Expr} {scope : Scope} {own : List (Str × Nat)} {ws : List Nat} {wi : LE → Res (List PV)} {tgt : PV → LE → Res LE} {cond : LE → Res Bool} {te : LE → Res PV} (hc : X.calm = true) (hN : X.N.Nodup)
    (hi : PI X tg iter (tI G X.K false E κ wi)) (ok : BlkOk X.N X.env.scope scope own)
    (hg : ∀ (s : Shared) (H : Hp) (C : Addr) (cl : List (Str × Addr)) (fp : List Addr), PG (X.blk s H scope (compEnvC scope cl C X.env) fp) tg (tG G X.K ws EN κ tgt))
    (ht : ∀ (s : Shared) (H : Hp) (C : Addr) (cl : List (Str × Addr)) (fp : List Addr), PTs (X.blk s H scope (compEnvC scope cl C X.env) fp) ifs (tT G X.K EN κ cond))
    (he : ∀ (s : Shared) (H : Hp) (C : Addr) (cl : List (Str × Addr)) (fp : List Addr), PE (X.blk s H scope (compEnvC scope cl C X.env) fp) elt (tE G X.K .sh EN κ te))
    (hw : ∀ j ∈ ws, j ∈ own.map (·.2)) (hl : GOk κ ws tgt) (k : κ i = b := by rfl) (hi0 : b = true → i ≠ 0 := by decide) (hy : X.N[i]? = some y := by rfl) (hyl : X.env.scope.names.lookup y = some .local := by rfl)
    (hsw : swapsWith (.ListComp elt [⟨tg, iter, ifs, 0⟩] scope pos) (some (.Name y py)) spos.line X.env = pure true := by rfl) (hs : ∀ x, foldedSetIterable iter X.env x = pure x := by intro _; rfl) :
    PS X (.Assign [.Name y py] (.ListComp elt [⟨tg, iter, ifs, 0⟩] scope pos) spos) (tStm G X.K E κ rm (sSet i (eComp (own.map (·.2)) wi tgt cond te))) :=
  ps_weak (ps_setLc hc hN hy hyl hsw hi ok hg ht he hs) fun D σ H q => w_setX b k hi0 (fun _ _ _ h => w_lc hw hl h) q
theorem s_setLc2 (i : Nat) (b : Bool) {y : Str} {py spos : Pos} {tg1 iter1 : Expr} {ifs ifs1 : List Expr} {scope : Scope} {own : List (Str × Nat)} {own1 ws ws1 : List Nat} {wi wi1 : LE → Res (List PV)} {tgt tgt1 : PV → LE → Res LE} {cond cond1 : LE → Res Bool} {te : LE → Res PV} (hc : X.calm = true) (hN : X.N.Nodup)
    (hi : PI X tg iter (tI G X.K false E κ wi)) (ok : BlkOk X.N X.env.scope scope own) (hv : ∀ i ∈ own1, i ∈ own.map (·.2))
    (hg : ∀ (s : Shared) (H : Hp) (C : Addr) (cl : List (Str × Addr)) (fp : List Addr), PG (X.blk s H scope (compEnvC scope cl C X.env) fp) tg (tG G X.K ws EN κ tgt))
    (ht : ∀ (s : Shared) (H : Hp) (C : Addr) (cl : List (Str × Addr)) (fp : List Addr), PTs (X.blk s H scope (compEnvC scope cl C X.env) fp) ifs (tT G X.K EN κ cond))
    (hi1 : ∀ (s : Shared) (H : Hp) (C : Addr) (cl : List (Str × Addr)) (fp : List Addr), PI (X.blk s H scope (compEnvC scope cl C X.env) fp) tg1 iter1 (tI G X.K true EN κ wi1))
    (hg1 : ∀ (s : Shared) (H : Hp) (C : Addr) (cl : List (Str × Addr)) (fp : List Addr), PG (X.blk s H scope (compEnvC scope cl C X.env) fp) tg1 (tG G X.K ws1 EN κ tgt1))
    (ht1 : ∀ (s : Shared) (H : Hp) (C : Addr) (cl : List (Str × Addr)) (fp : List Addr), PTs (X.blk s H scope (compEnvC scope cl C X.env) fp) ifs1 (tT G X.K EN κ cond1))
    (he : ∀ (s : Shared) (H : Hp) (C : Addr) (cl : List (Str × Addr)) (fp : List Addr), PE (X.blk s H scope (compEnvC scope cl C X.env) fp) elt (tE G X.K .sh EN κ te))
    (hw : ∀ j ∈ ws, j ∈ own.map (·.2)) (hl : GOk κ ws tgt) (hw1 : ∀ j ∈ ws1, j ∈ own1) (hl1 : GOk κ ws1 tgt1) (k : κ i = b := by rfl) (hi0 : b = true → i ≠ 0 := by decide) (hy : X.N[i]? = some y := by rfl) (hyl : X.env.scope.names.lookup y = some .local := by rfl)
    (hsw : swapsWith (.ListComp elt [⟨tg, iter, ifs, 0⟩, ⟨tg1, iter1, ifs1, 0⟩] scope pos) (some (.Name y py)) spos.line X.env = pure true := by rfl) (hs : ∀ x, foldedSetIterable iter X.env x = pure x := by intro _; rfl) (hs1 : ∀ env x, foldedSetIterable iter1 env x = pure x := by intro _ _; rfl) :
    PS X (.Assign [.Name y py] (.ListComp elt [⟨tg, iter, ifs, 0⟩, ⟨tg1, iter1, ifs1, 0⟩] scope pos) spos) (tStm G X.K E κ rm (sSet i (eComp2 (own.map (·.2)) wi tgt cond wi1 own1 tgt1 cond1 te))) :=
  ps_weak (ps_setLc2 hc hN hy hyl hsw hi ok hv hg ht hi1 hg1 ht1 he hs hs1) fun D σ H q => w_setX b k hi0 (fun _ _ _ h => w_lc2 hw hl hw1 hl1 h) q
theorem s_setDc (i : Nat) (b : Bool) {y : Str} {py spos : Pos} {kx vx : Expr} {ifs : List Expr} {scope : Scope} {own : List (Str × Nat)} {ws : List Nat} {wi : LE → Res (List PV)} {tgt : PV → LE → Res LE} {cond : LE → Res Bool} {ek ev : LE → Res PV} (hc : X.calm = true) (hN : X.N.Nodup)
    (hi : PI X tg iter (tI G X.K false E κ wi)) (ok : BlkOk X.N X.env.scope scope own)
    (hg : ∀ (s : Shared) (H : Hp) (C : Addr) (cl : List (Str × Addr)) (fp : List Addr), PG (X.blk s H scope (compEnvC scope cl C X.env) fp) tg (tG G X.K ws EN κ tgt))
    (ht : ∀ (s : Shared) (H : Hp) (C : Addr) (cl : List (Str × Addr)) (fp : List Addr), PTs (X.blk s H scope (compEnvC scope cl C X.env) fp) ifs (tT G X.K EN κ cond))
    (hk : ∀ (s : Shared) (H : Hp) (C : Addr) (cl : List (Str × Addr)) (fp : List Addr), PE (X.blk s H scope (compEnvC scope cl C X.env) fp) kx (tE G X.K .sh EN κ ek))
    (he : ∀ (s : Shared) (H : Hp) (C : Addr) (cl : List (Str × Addr)) (fp : List Addr), PE (X.blk s H scope (compEnvC scope cl C X.env) fp) vx (tE G X.K .sh EN κ ev))
    (hw : ∀ j ∈ ws, j ∈ own.map (·.2)) (hl : GOk κ ws tgt) (k : κ i = b := by rfl) (hi0 : b = true → i ≠ 0 := by decide) (hy : X.N[i]? = some y := by rfl) (hyl : X.env.scope.names.lookup y = some .local := by rfl)
    (hsw : swapsWith (.DictComp kx vx [⟨tg, iter, ifs, 0⟩] scope pos) (some (.Name y py)) spos.line X.env = pure true := by rfl) (hs : ∀ x, foldedSetIterable iter X.env x = pure x := by intro _; rfl) :
    PS X (.Assign [.Name y py] (.DictComp kx vx [⟨tg, iter, ifs, 0⟩] scope pos) spos) (tStm G X.K E κ rm (sSet i (eDComp (own.map (·.2)) wi tgt cond ek ev))) :=
  ps_weak (ps_setDc hc hN hy hyl hsw hi ok hg ht hk he hs) fun D σ H q => w_setX b k hi0 (fun _ _ _ h => w_dc hw hl h) q
end
end Lp
end
section
set_option Elab.async false
set_option linter.all false
set_option maxRecDepth 100000
namespace Lp
open PySem PySem.Spec
theorem clsIn_exc {K : PySem.W.Frag} {nm q : Str} {C N : Addr} {bs bm : List Value} {hd : Bool} {sn : List Str} {sb : List Value} {ab : Bool} {col : Option Bool} {dd : Option Addr} {k0 k1 k2 k3 k5 : Option Value} {nid : String}
    (h : K.lookup C = some (excClassObj nm q C N bs bm hd sn sb ab col dd k0 k1 k2 k3 k5 nid)) : ∃ cd, PySem.W.clsIn K C = some cd ∧ cd.mro = .ref C :: bm := by
  unfold PySem.W.clsIn
  rw [h]
  exact ⟨_, rfl, rfl⟩
theorem sup_of {K : PySem.W.Frag} {name : Str} {r : Option Value} {nm q nm0 q0 : Str} {C N C0 N0 : Addr} {bs bs0 bm0 : List Value} {hd hd0 : Bool} {sn sn0 : List Str} {sb sb0 : List Value} {ab ab0 : Bool} {col col0 : Option Bool} {dd dd0 : Option Addr} {k0 k1 k2 k3 k5 j0 j1 j2 j3 j5 : Option Value} {nid nid0 : String}
    (h : K.lookup C = some (excClassObj nm q C N bs (.ref C0 :: bm0) hd sn sb ab col dd k0 k1 k2 k3 k5 nid)) (h0 : K.lookup C0 = some (excClassObj nm0 q0 C0 N0 bs0 bm0 hd0 sn0 sb0 ab0 col0 dd0 j0 j1 j2 j3 j5 nid0))
    (hf : PySem.W.findIn K (.ref C0) name = some r) : PySem.W.ks_superIn K C C name = some r := by
  obtain ⟨cd, hc, hm⟩ := clsIn_exc h
  unfold PySem.W.ks_superIn
  rw [hc, Option.bind_some, hm]
  have e : ((Value.ref C :: (.ref C0 :: bm0)).dropWhile (· != .ref C)).drop 1 = .ref C0 :: bm0 := by simp [List.dropWhile_cons]
  rw [e, ← hf]
  unfold PySem.W.findIn
  dsimp only
  rw [h0]
theorem kit_ref {K : PySem.W.Frag} {t : Value} {C : Addr} {b : Bool} (hd : PySem.W.hasDictIn K C = true) (ht : PySem.W.typeIn K (.ref C) = some (.type "type")) (h4 : PySem.W.subIn K t (.ref C) = some b) (hb : t = .ref C → b = true) : PySem.W.kitOne K t (.ref C) = some b := by
  obtain ⟨cd, hc, _⟩ := PySem.W.any_some hd
  unfold PySem.W.kitOne
  by_cases e : t = .ref C
  · rw [if_pos (by rw [e]; exact beq_self_eq_true _), hb e]
  · rw [if_neg (by simpa using e)]
    show (if ((PySem.W.clsIn K C).isSome && PySem.W.typeIn K (.ref C) == some (.type "type")) = true then PySem.W.subIn K t (.ref C) else none) = some b
    rw [if_pos (by rw [hc, ht]; rfl)]
    exact h4
theorem kit_typ {K : PySem.W.Frag} {C : Addr} {T : String} {b : Bool} (hm : PySem.W.kitMeta T = true) (h4 : PySem.W.subIn K (.ref C) (.type T) = some b) : PySem.W.kitOne K (.ref C) (.type T) = some b := by
  unfold PySem.W.kitOne
  rw [if_neg (by simp)]
  show (if PySem.W.kitMeta T = true then PySem.W.subIn K (.ref C) (.type T) else none) = some b
  rw [if_pos hm]
  exact h4
theorem exm_typ {K : PySem.W.Frag} {C : Addr} {T : String} {b : Bool} (h1 : PySem.W.subIn K (.type T) (.type "BaseException") = some true) (hm : PySem.W.kitMeta T = true) (h4 : PySem.W.subIn K (.ref C) (.type T) = some b) : PySem.W.exmOne K (.ref C) (.type T) = some b := by
  unfold PySem.W.exmOne
  rw [if_pos (by rw [h1]; rfl)]
  show (if PySem.W.kitMeta T = true then PySem.W.subIn K (.ref C) (.type T) else none) = some b
  rw [if_pos hm]
  exact h4
end Lp
end
section
set_option Elab.async false
set_option linter.all false
set_option maxRecDepth 100000
namespace Lp
open PySem PySem.Spec L2

/-! ### a list of lists that are changed in place -/
section
variable (G : Nat → Addr) (K : PySem.W.Frag)
def Rw1 (F H : Hp) (a : Addr) (r : List PV) : Prop := F a = none ∧ ∃ vs, H a = some (.lst vs) ∧ Reps G K F vs r
inductive Rws (F H : Hp) : List Addr → List (List PV) → Prop
  | nil : Rws F H [] []
  | cons {a : Addr} {as : List Addr} {r : List PV} {rs : List (List PV)} : Rw1 G K F H a r → Rws F H as rs → Rws F H (a :: as) (r :: rs)
/-- the rows at as, in the list at D; H0: what stood before -/
structure Rl (H0 F H : Hp) (D : Addr) (as : List Addr) (rs : List (List PV)) : Prop where
  at_ : H D = some (.lst (as.map V.ref))
  nF : F D = none
  n0 : H0 D = none
  nd : as.Nodup
  out : D ∉ as
  new : ∀ a ∈ as, H0 a = none
  rows : Rws G K F H as rs
end
section
variable {G : Nat → Addr} {K : PySem.W.Frag} {F H F' H' H0 : Hp} {D a : Addr} {as : List Addr} {r r' : List PV} {rs : List (List PV)} {vs : List V}
theorem Rw1.ext (h : Rw1 G K F H a r) (e : Ext F H F' H') : Rw1 G K F' H' a r := by
  obtain ⟨h1, vs, h2, h3⟩ := h
  exact ⟨e.apart h1 h2, vs, e.h _ _ h2, Reps.mono e.f h3⟩
theorem Rws.ext (e : Ext F H F' H') : ∀ {as rs}, Rws G K F H as rs → Rws G K F' H' as rs
  | _, _, .nil => .nil
  | _, _, .cons h hs => .cons (h.ext e) (Rws.ext e hs)
theorem Rl.ext (h : Rl G K H0 F H D as rs) (e : Ext F H F' H') : Rl G K H0 F' H' D as rs :=
  ⟨e.h _ _ h.at_, e.apart h.nF h.at_, h.n0, h.nd, h.out, h.new, h.rows.ext e⟩
theorem Rws.len : ∀ {as : List Addr} {rs : List (List PV)}, Rws G K F H as rs → as.length = rs.length
  | _, _, .nil => rfl
  | _, _, .cons _ hs => congrArg (· + 1) (Rws.len hs)
theorem Rws.get : ∀ {as : List Addr} {rs : List (List PV)} {i : Nat}, Rws G K F H as rs → rs[i]? = some r → ∃ a, as[i]? = some a ∧ Rw1 G K F H a r
  | _, _, _, .nil, e => by simp at e
  | _, _, 0, .cons h _, e => by simp at e; subst e; exact ⟨_, rfl, h⟩
  | _, _, i + 1, .cons _ hs, e => by
    obtain ⟨a, e1, h⟩ := Rws.get (i := i) hs (by simpa using e)
    exact ⟨a, by simpa using e1, h⟩
theorem Rws.keep : ∀ {as : List Addr} {rs : List (List PV)}, (∀ a ∈ as, H' a = H a) → Rws G K F H as rs → Rws G K F H' as rs
  | _, _, _, .nil => .nil
  | _, _, k, .cons h hs => .cons (by obtain ⟨h1, vs, h2, h3⟩ := h; exact ⟨h1, vs, (k _ List.mem_cons_self).trans h2, h3⟩) (Rws.keep (fun a ha => k a (List.mem_cons_of_mem _ ha)) hs)
theorem Rws.snoc (h1 : Rw1 G K F H a r) : ∀ {as : List Addr} {rs : List (List PV)}, Rws G K F H as rs → Rws G K F H (as ++ [a]) (rs ++ [r])
  | _, _, .nil => .cons h1 .nil
  | _, _, .cons h hs => .cons h (Rws.snoc h1 hs)
theorem Rws.write (hr : Reps G K F vs r') (hw : Rws G K F H as rs) : ∀ {i : Nat}, as.Nodup → as[i]? = some a → Rws G K F (upd H a (.lst vs)) as (rs.set i r') := by
  induction hw with
  | nil => intro i _ e; simp at e
  | @cons b as r rs h hs ih =>
    intro i nd e
    obtain ⟨n1, n2⟩ := List.nodup_cons.mp nd
    cases i with
    | zero =>
      simp at e; subst e
      exact .cons ⟨h.1, vs, upd_same, hr⟩ (hs.keep fun c hc => upd_ne fun z => n1 (by rw [← z]; exact hc))
    | succ i =>
      simp only [List.getElem?_cons_succ] at e
      have hne : b ≠ a := fun z => n1 (by rw [z]; exact List.mem_of_getElem? e)
      obtain ⟨h1, ws, h2, h3⟩ := h
      exact .cons ⟨h1, ws, by rw [upd_ne hne]; exact h2, h3⟩ (ih n2 e)
/-- a row is written -/
theorem Rl.write {i : Nat} (h : Rl G K H0 F H D as rs) (ha : as[i]? = some a) (hr : Reps G K F vs r') : Rl G K H0 F (upd H a (.lst vs)) D as (rs.set i r') :=
  ⟨by rw [upd_ne (a := a) (b := D) fun z => h.out (by rw [z]; exact List.mem_of_getElem? ha)]; exact h.at_, h.nF, h.n0, h.nd, h.out, h.new, h.rows.write hr h.nd ha⟩
/-- a row more -/
theorem Rl.snoc (h : Rl G K H0 F H D as rs) (sF : Same F H) (s0 : Same H0 H) (ha : H a = none) (hr : Reps G K F vs r) : Rl G K H0 F (upd (upd H a (.lst vs)) D (.lst ((as ++ [a]).map V.ref))) D (as ++ [a]) (rs ++ [r]) := by
  have hna : a ∉ as := fun z => by
    have : ∀ {as : List Addr} {rs : List (List PV)}, Rws G K F H as rs → a ∈ as → False := by
      intro as rs hw
      induction hw with
      | nil => intro h; cases h
      | cons h _ ih =>
        intro hm
        rcases List.mem_cons.mp hm with rfl | hm
        · obtain ⟨_, vs, h2, _⟩ := h; rw [ha] at h2; cases h2
        · exact ih hm
    exact this h.rows z
  have hD : D ≠ a := fun z => by rw [← z, h.at_] at ha; cases ha
  refine ⟨upd_same, h.nF, h.n0, List.nodup_append.mpr ⟨h.nd, by simp, fun x hx y hy => by rw [List.mem_singleton.mp hy]; exact fun z => hna (z ▸ hx)⟩, fun z => ?_, fun b hb => ?_, ?_⟩
  · rcases List.mem_append.mp z with z | z
    · exact h.out z
    · exact hD (List.mem_singleton.mp z)
  · rcases List.mem_append.mp hb with z | z
    · exact h.new b z
    · rw [List.mem_singleton.mp z]; exact Same.free s0 ha
  · refine Rws.snoc ⟨Same.free sF ha, vs, by rw [upd_ne (Ne.symm hD), upd_same], hr⟩ (h.rows.keep fun b hb => ?_)
    rw [upd_ne fun z => h.out (by rw [← z]; exact hb), upd_ne fun z => hna (by rw [← z]; exact hb)]
/-- an object of another slot is written -/
theorem Rl.keep (h : Rl G K H0 F H D as rs) (hD : H' D = H D) (k : ∀ a ∈ as, H' a = H a) : Rl G K H0 F H' D as rs := ⟨hD.trans h.at_, h.nF, h.n0, h.nd, h.out, h.new, h.rows.keep k⟩
/-! ### [[e, ..] for x in it] -/
def rowL (tgt : PV → LE → Res LE) (fr : LE → Res (List PV)) (τ : LE) : List PV → Res (List (List PV))
  | [] => .ok []
  | p :: ps => (tgt p τ).nx >>= fun τ1 => (fr τ1).nx >>= fun r => rowL tgt fr τ ps >>= fun rs => .ok (r :: rs)
theorem rowL_len {tgt : PV → LE → Res LE} {fr : LE → Res (List PV)} {τ : LE} : ∀ {ps : List PV} {rs : List (List PV)}, rowL tgt fr τ ps = .ok rs → rs.length = ps.length
  | [], rs, h => by rw [rowL] at h; cases h; rfl
  | p :: ps, rs, h => by
    rw [rowL] at h
    obtain ⟨τ1, _, h⟩ := Res.bind_ok h
    obtain ⟨r, _, h⟩ := Res.bind_ok h
    obtain ⟨rs', h1, h⟩ := Res.bind_ok h
    cases h
    simp [rowL_len h1]
structure GrR (G : Nat → Addr) (K : PySem.W.Frag) (F1 H1 : Hp) (D : Addr) (done : List (List PV)) (F H : Hp) : Prop where
  ext : Ext F1 H1 F H
  rl : ∃ as, Rl G K H1 F H D as done
theorem GrR.ext2 {F1 H1 F2 H2 : Hp} {done : List (List PV)} (g : GrR G K F1 H1 D done F H) (e : Ext F H F2 H2) : GrR G K F1 H1 D done F2 H2 := ⟨g.ext.trans e, let ⟨as, h⟩ := g.rl; ⟨as, h.ext e⟩⟩
theorem GrR.push {F1 H1 : Hp} {done : List (List PV)} (g : GrR G K F1 H1 D done F H) (ha : H a = none) (hr : Reps G K F vs r) : ∃ acc, (upd H a (.lst vs)) D = some (.lst acc) ∧ acc.length = done.length ∧ GrR G K F1 H1 D (done ++ [r]) F (upd (upd H a (.lst vs)) D (.lst (acc ++ [.ref a]))) := by
  obtain ⟨as, h⟩ := g.rl
  have hD : D ≠ a := fun z => by rw [← z, h.at_] at ha; cases ha
  refine ⟨as.map V.ref, by rw [upd_ne hD]; exact h.at_, by rw [List.length_map, h.rows.len], ?_, as ++ [a], ?_⟩
  · exact ⟨g.ext.f, same_updR (same_updR g.ext.h (Same.free g.ext.h ha)) h.n0, same_updR (same_updR g.ext.sub (Same.free g.ext.sub ha)) h.nF, g.ext.new⟩
  · have := h.snoc g.ext.sub g.ext.h ha hr
    rw [List.map_append] at this
    exact this
variable {κ : Kd} {E : St → XK} {σ : St} {τ : LE}
theorem w_rowsLc {own ws : List Nat} {wi : LE → Res (List PV)} {tgt : PV → LE → Res LE} {fr : LE → Res (List PV)} {ps : List PV} {rs : List (List PV)} {Q : VK} (hw : ∀ j ∈ ws, j ∈ own) (hl : GOk κ ws tgt) (l : Lc G K κ F H σ τ) (hwi : wi τ = .ok ps)
    (hc : rowL tgt fr (wipeL τ own) ps = .ok rs) (hrl : ∀ r ∈ rs, r.length ≤ 1000) (q : ∀ F' H' D as, Ext F H F' H' → Rl G K H F' H' D as rs → Q (.ref D) H') :
    tLc (tI G K false E κ wi) (tG G K ws EN κ tgt) (tT G K EN κ tYesM) (tLst (tA G K .sh EN κ fr)) own σ H Q := by
  refine ⟨F, τ, l, ?_⟩
  rw [hwi]
  intro J F1 H1 e1 i1 D hD
  simp only [Bool.false_eq_true, if_false] at i1
  refine ⟨fun i m H => m = ps.length - i ∧ i ≤ ps.length ∧ ∃ F done rest, GrR G K F1 H1 D done F H ∧ rowL tgt fr (wipeL τ own) (ps.drop i) = .ok rest ∧ rs = done ++ rest, ⟨ps.length, by simp, Nat.zero_le _, F1, [], rs, ?_, by simpa using hc, by simp⟩, ?_⟩
  · exact ⟨⟨Same.refl _, same_new hD, same_updR e1.sub (Same.free e1.sub hD), fun a h1 h2 => absurd h1 h2⟩, [], upd_same, Same.free e1.sub hD, hD, .nil, by simp, by simp, .nil⟩
  · rintro i m H2 ⟨rfl, hi, F2, done, rest, g, hcr, hrs⟩
    by_cases hlt : i < ps.length
    · refine .inr ⟨i1.go i H2 g.ext.h hlt, fun H => ∃ F done rest, GrR G K F1 H1 D done F H ∧ rowL tgt fr (wipeL τ own) (ps.drop (i + 1)) = .ok rest ∧ rs = done ++ rest, fun H' ⟨F', d', r', n1, n2, n3⟩ => ⟨ps.length - (i + 1), by omega, rfl, hlt, F', d', r', n1, n2, n3⟩, fun x H3 hy => ?_⟩
      have hp : ps[i]? = some ps[i] := List.getElem?_eq_getElem hlt
      obtain ⟨F3, e3, r3⟩ := i1.yld i x H2 H3 F2 _ g.ext.h g.ext.f g.ext.sub hy hp
      have g3 := g.ext2 e3
      have l3 : Lc G K κ F3 H3 (wipe σ own) (wipeL τ own) := ((l.ext e1).ext g3.ext).wipe own
      rw [List.drop_eq_getElem_cons hlt, rowL] at hcr
      obtain ⟨τ1, ht, hcr⟩ := Res.bind_ok hcr
      obtain ⟨r0, hr0, hcr⟩ := Res.bind_ok hcr
      obtain ⟨rs', hrs', hcr⟩ := Res.bind_ok hcr
      cases hcr
      have ht := Res.nx_inv ht
      have hr0 := Res.nx_inv hr0
      refine ⟨F3, wipeL τ own, ps[i], l3, r3, ?_⟩
      rw [ht]
      intro σ' l4 k4
      refine ⟨?_, ?_⟩
      · have e := wipe_same (σ := wipe σ own) hw (Lc.len2 l3 l4 (hl.len _ _ _ ht)) k4
        rw [e, wipe_wipe]
      · refine ⟨F3, τ1, l4, ?_⟩
        show ∀ F' H', Ext F3 H3 F' H' → _
        intro F4 H4 e4
        rw [if_pos rfl]
        have g4 := g3.ext2 e4
        refine ⟨F4, τ1, l4.ext e4, ?_⟩
        rw [hr0]
        intro vs F5 H5 e5 r5
        have g5 := g4.ext2 e5
        have r5' := r5.shared
        have hmem : r0 ∈ rs := by rw [hrs]; simp
        refine ⟨by rw [r5'.length, sizeLine_eq]; have := hrl _ hmem; omega, fun p np => ?_⟩
        obtain ⟨acc, h1, h2, h3⟩ := g5.push np r5'
        refine ⟨acc, h1, ?_, F5, done ++ [r0], rs', h3, hrs', by rw [hrs]; simp⟩
        rw [h2]
        have := rowL_len hc
        have h4 := congrArg List.length hrs
        have := i1.len
        simp at h4
        omega
    · have e : i = ps.length := by omega
      subst e
      rw [List.drop_length, rowL] at hcr
      cases hcr
      obtain ⟨as, rl⟩ := g.rl
      refine .inl ⟨i1.stop H2 g.ext.h, q F2 H2 D as (e1.trans g.ext) ?_⟩
      rw [hrs, List.append_nil]
      exact ⟨rl.at_, rl.nF, Same.free e1.h rl.n0, rl.nd, rl.out, fun a ha => Same.free e1.h (rl.new a ha), rl.rows⟩
/-! ### [tuple(x) for x in rows] -/
abbrev rTupOf (K : PySem.W.Frag) : List V → Hp → VK → Prop := fun xs H Q => ∃ p ys, xs = [.ref p] ∧ ((SqL K H p ys ∧ ∀ l o, H l = none → KO o → Q (.ref l) (upd H l (.frz o (.tup ys)))) ∨ (SqT K H p ys ∧ Q (.ref p) H))
theorem w_tupRows {i j : Nat} {own : List Nat} {Q : VK} {H0 : Hp} (rl : Rl G K H0 F H D as rs) (sF : Same F H) (hσ : σ[i]? = some (some (.ref D))) (hjo : j ∈ own) (hj : j < σ.length) (hl : rs.length ≤ 1000000)
    (q : ∀ F' H' D2 vs, Ext F H F' H' → H D2 = none → F' D2 = none → H' D2 = some (.lst vs) → Reps G K F' vs (rs.map .tup) → Q (.ref D2) H') :
    tLc (iAny K (tVar i)) (gName j) tYes (tCB (rTupOf K) (tCons (tVar j) tNil)) own σ H Q := by
  refine ⟨.ref D, hσ, .inl ⟨D, as.map V.ref, rfl, .inl (.inl rl.at_), fun _ D2 hD2 => ?_⟩⟩
  have hlen := rl.rows.len
  refine ⟨fun k m H' => m = rs.length - k ∧ k ≤ rs.length ∧ ∃ F2 vs, Ext F H F2 H' ∧ F2 D2 = none ∧ H' D2 = some (.lst vs) ∧ Reps G K F2 vs ((rs.take k).map .tup),
    ⟨rs.length, by simp, Nat.zero_le _, F, [], ⟨Same.refl _, same_new hD2, same_updR sF (Same.free sF hD2), fun a h1 h2 => absurd h1 h2⟩, Same.free sF hD2, upd_same, by simpa using Reps.nil⟩, ?_⟩
  rintro k m H2 ⟨rfl, hk, F2, vs, e2, hF2, hH2, r2⟩
  have rl2 := rl.ext e2
  by_cases hlt : k < rs.length
  · have hr : rs[k]? = some rs[k] := List.getElem?_eq_getElem hlt
    obtain ⟨a, ha, hnF, ws, hw, rw'⟩ := rl2.rows.get hr
    refine .inr ⟨⟨as.map V.ref, .ref a, .inl (.inl rl2.at_), by rw [List.getElem?_map, ha]; rfl⟩, fun H' => ∃ F3 vs, Ext F H F3 H' ∧ F3 D2 = none ∧ H' D2 = some (.lst vs) ∧ Reps G K F3 vs ((rs.take (k + 1)).map .tup),
      fun H' ⟨F3, vs, n1, n2, n3, n4⟩ => ⟨rs.length - (k + 1), by omega, rfl, hlt, F3, vs, n1, n2, n3, n4⟩, fun x H3 hy => ?_⟩
    obtain ⟨rfl, hx⟩ := hy
    have hx := hx _ (.inl (.inl rl2.at_))
    rw [List.getElem?_map, ha] at hx
    cases hx
    refine ⟨?_, ?_⟩
    · refine List.ext_getElem? fun x => ?_
      by_cases hx : x ∈ own
      · rw [wipe_mem hx, wipe_mem hx, List.length_set, wipe_length]
      · rw [wipe_out hx, wipe_out hx, List.getElem?_set_ne fun z => hx (by rw [← z]; exact hjo), wipe_out hx]
    · unfold tYes; dsimp only
      rw [if_pos rfl]
      refine ⟨.ref a, by rw [List.getElem?_set_self (by rw [wipe_length]; exact hj)], ⟨a, ws, rfl, .inl ⟨.inl (.inl hw), fun p o np ko => ?_⟩⟩⟩
      have hp2 : D2 ≠ p := fun z => by rw [← z, hH2] at np; cases np
      refine ⟨vs, by rw [upd_ne hp2]; exact hH2, by rw [r2.length, sizeLine_eq]; simp; omega, upd F2 p (.frz o (.tup ws)), vs ++ [.ref p], ?_, by rw [upd_ne hp2]; exact hF2, upd_same, ?_⟩
      · have e3 := e2.push (.frz o (.tup ws)) np
        exact ⟨e3.f, same_updR e3.h hD2, same_updR e3.sub (by rw [upd_ne hp2]; exact hF2), e3.new⟩
      · have s3 := same_new (o := .frz o (.tup ws)) (Same.free e2.sub np)
        have e : (rs.take (k + 1)).map PV.tup = (rs.take k).map PV.tup ++ [.tup rs[k]] := by rw [← List.take_append_getElem hlt, List.map_append]; rfl
        rw [e]
        exact Reps.snoc (Reps.mono s3 r2) (.tup (.inl ⟨o, upd_same, ko⟩) (Reps.mono s3 rw'))
  · have e : k = rs.length := by omega
    subst e
    rw [List.take_length] at r2
    exact .inl ⟨⟨as.map V.ref, .inl (.inl rl2.at_), by rw [List.length_map, hlen]; exact Nat.le_refl _⟩, q F2 H2 D2 vs e2 hD2 hF2 hH2 r2⟩
end
end Lp
end
section
set_option Elab.async false
set_option linter.all false
set_option maxRecDepth 100000
namespace Lp
open PySem PySem.Spec L2
/-! an owned slot is shared from a statement on; behind the block it is empty -/
def κd (κ : Kd) (j : Nat) : Kd := fun i => κ i && !(i == j)
def sLet (j : Nat) (m : LE → Fl) : LE → Fl := fun τ => match m τ with
  | .nx τ' => .nx (τ'.set j none)
  | .bk τ' => .bk (τ'.set j none)
  | .ct τ' => .ct (τ'.set j none)
  | .ex c fs τ' => .ex c fs (τ'.set j none)
  | .rt p => .rt p
  | .bad => .bad
section
variable {G : Nat → Addr} {K : PySem.W.Frag} {F H F' H' F0 H0 : Hp} {X : Cx} {κ : Kd} {E : St → XK} {rm : Mode} {zs : Option Addr} {σ : St} {τ : LE} {st : Stmt} {sts : List Stmt} {m : LE → Fl} {j : Nat}
theorem κd_ne {i : Nat} (h : i ≠ j) : κd κ j i = κ i := by
  unfold κd
  have : (i == j) = false := by simpa using h
  rw [this]; simp
theorem κd_self : κd κ j j = false := by unfold κd; simp
theorem κd_le {i : Nat} (h : κd κ j i = true) : κ i = true ∧ i ≠ j := by
  unfold κd at h
  simp only [Bool.and_eq_true, Bool.not_eq_true', beq_eq_false_iff_ne, ne_eq] at h
  exact h
theorem set_none_some {i : Nat} {p : PV} (h : (τ.set j none)[i]? = some (some p)) : i ≠ j ∧ τ[i]? = some (some p) := by
  by_cases hj : j = i
  · subst hj
    rw [List.getElem?_set] at h
    simp only [if_true] at h
    split at h <;> cases h
  · rw [List.getElem?_set_ne hj] at h
    exact ⟨fun e => hj e.symm, h⟩
theorem Ls.undo (l : Ls G K (κd κ j) zs F0 H0 F H σ τ) : Ls G K κ zs F0 H0 F H σ (τ.set j none) := by
  refine ⟨⟨l.lc.sub, by rw [List.length_set]; exact l.lc.len, fun i p h k => ?_, fun i p h k => ?_, fun i i2 p q a k1 k2 h1 h2 h3 h4 => ?_⟩, l.ext, fun i p a k h1 h2 => ?_, fun a ha => ?_⟩
  · obtain ⟨hi, h⟩ := set_none_some h
    exact l.lc.sh i p h (by rw [κd_ne hi]; exact k)
  · obtain ⟨hi, h⟩ := set_none_some h
    exact l.lc.ow i p h (by rw [κd_ne hi]; exact k)
  · obtain ⟨hi, h1⟩ := set_none_some h1
    obtain ⟨hi2, h2⟩ := set_none_some h2
    exact l.lc.ap i i2 p q a (by rw [κd_ne hi]; exact k1) (by rw [κd_ne hi2]; exact k2) h1 h2 h3 h4
  · obtain ⟨hi, h1⟩ := set_none_some h1
    exact l.new i p a (by rw [κd_ne hi]; exact k) h1 h2
  · obtain ⟨h1, h2⟩ := l.me a ha
    exact ⟨(κd_le h1).1, h2⟩
open Classical in
theorem Ls.share (l : Ls G K κ zs F0 H0 F H σ τ) (hj : 0 < j) (k : κ j = true) : ∃ F2, Ls G K (κd κ j) zs F0 H0 F2 H σ τ := by
  have me : ∀ a, zs = some a → κd κ j 0 = true ∧ σ[0]? = some (some (.ref a)) := fun a ha => by
    obtain ⟨h1, h2⟩ := l.me a ha
    exact ⟨by rw [κd_ne (by omega)]; exact h1, h2⟩
  by_cases ht : ∃ p, τ[j]? = some (some p)
  · obtain ⟨p, hp⟩ := ht
    obtain ⟨a, ha, hF, o⟩ := l.lc.ow j p hp k
    let F2 : Hp := fun b => if b = a then H a else F b
    have hs : Same F F2 := fun b u h => by
      by_cases hb : b = a
      · rw [hb, hF] at h; cases h
      · simpa only [F2, if_neg hb] using h
    have hsub : Same F2 H := fun b u h => by
      by_cases hb : b = a
      · simp only [F2, if_pos hb] at h
        rw [hb]; exact h
      · simp only [F2, if_neg hb] at h
        exact l.lc.sub _ _ h
    have ha2 : F2 a = H a := if_pos rfl
    have ne2 : ∀ b, b ≠ a → F b = none → F2 b = none := fun b hb h => by simp only [F2, if_neg hb]; exact h
    have rp : Rep G K F2 (.ref a) p := by
      cases p <;> first | exact o.elim | skip
      · obtain ⟨vs, q, r⟩ := o; exact .lst (.inl (ha2.trans q)) (Reps.mono hs r)
      · obtain ⟨vs, q, r⟩ := o; exact .dK (ha2.trans q) (RepK.mono hs r)
      · obtain ⟨dx, vs, q, r⟩ := o; exact .ins (ha2.trans q) (RepF.mono hs r)
    refine ⟨F2, ⟨hsub, l.lc.len, fun i q h ki => ?_, fun i q h ki => ?_, fun i i2 q q2 b k1 k2 h1 h2 h3 h4 => l.lc.ap i i2 q q2 b (κd_le k1).1 (κd_le k2).1 h1 h2 h3 h4⟩, ⟨l.ext.f.trans hs, l.ext.h, hsub, fun b h1 h2 => ?_⟩, fun i q b ki h1 h2 => l.new i q b (κd_le ki).1 h1 h2, me⟩
    · by_cases hi : i = j
      · subst hi
        rw [hp] at h
        cases h
        exact ⟨_, ha, rp⟩
      · obtain ⟨v, e, r⟩ := l.lc.sh i q h (by rw [← κd_ne (κ := κ) hi]; exact ki)
        exact ⟨v, e, Rep.mono hs r⟩
    · obtain ⟨k1, hi⟩ := κd_le ki
      obtain ⟨b, e, hFb, o2⟩ := l.lc.ow i q h k1
      have hb : b ≠ a := fun e2 => hi (l.lc.ap i j q p a k1 k h hp (e2 ▸ e) ha)
      exact ⟨b, e, ne2 b hb hFb, o2.mono hs rfl⟩
    · by_cases hb : b = a
      · rw [hb]; exact l.new j p a k hp ha
      · simp only [F2, if_neg hb] at h2
        exact l.ext.new b h1 h2
  · refine ⟨F, ⟨l.lc.sub, l.lc.len, fun i q h ki => ?_, fun i q h ki => l.lc.ow i q h (κd_le ki).1, fun i i2 q q2 b k1 k2 h1 h2 h3 h4 => l.lc.ap i i2 q q2 b (κd_le k1).1 (κd_le k2).1 h1 h2 h3 h4⟩, l.ext, fun i q b ki h1 h2 => l.new i q b (κd_le ki).1 h1 h2, me⟩
    by_cases hi : i = j
    · subst hi; exact absurd ⟨q, h⟩ ht
    · exact l.lc.sh i q h (by rw [← κd_ne (κ := κ) hi]; exact ki)
theorem ss_free (j : Nat) (h : PSs X sts (tStm G K E (κd κ j) rm m)) (k : κ j = true := by rfl) (hj : 0 < j := by decide) : PSs X sts (tStm G K E κ rm (sLet j m)) := pss_weak h fun D σ H ⟨F0, H0, F, τ, zs, l, q⟩ => by
  obtain ⟨F2, l2⟩ := l.share hj k
  refine ⟨F0, H0, F2, τ, zs, l2, ?_⟩
  unfold sLet at q
  cases hm : m τ with
  | nx τ' => rw [hm] at q; exact fun σ' F' H' l' => q σ' F' H' l'.undo
  | bk τ' => rw [hm] at q; exact fun σ' F' H' l' => q σ' F' H' l'.undo
  | ct τ' => rw [hm] at q; exact fun σ' F' H' l' => q σ' F' H' l'.undo
  | rt p => rw [hm] at q; exact q
  | ex c ps τ' => rw [hm] at q; exact fun σ' F' H' d fs l' => q σ' F' H' d fs l'.undo
  | bad => rw [hm] at q; exact q
end
end Lp
end
section
set_option Elab.async false
set_option linter.all false
set_option maxRecDepth 100000
namespace Lp
open PySem PySem.Spec L2
/-! the truth of any value -/
def tru : PV → Option Bool
  | .non => some false
  | .bl b => some b
  | .int i => some (i != 0)
  | .str y => if y.length ≤ sizeLine then some ((y.length : Int) != 0) else none
  | .tup xs => some !xs.isEmpty
  | .lst xs => some !xs.isEmpty
  | .dK xs => some !xs.isEmpty
  | _ => none
def tstV (f : LE → Res PV) : LE → Res Bool := fun τ => f τ >>= fun p => up (tru p)
def pIsB : PV → PV → Option PV
  | .bl a, .bl b => some (.bl (decide (a = b)))
  | _, _ => none
def pNotB : PV → PV → Option PV
  | .bl a, .bl b => some (.bl (!decide (a = b)))
  | _, _ => none
section
variable {G : Nat → Addr} {K : PySem.W.Frag} {F H F' H' F0 H0 : Hp} {X : Cx} {κ : Kd} {E : St → XK} {m rm : Mode} {σ : St} {τ : LE} {v : V} {p : PV} {k : Bool} {e : Expr} {f : LE → Res PV} {pos : Pos}
theorem Reps.empty {vs : List V} {ps : List PV} (r : Reps G K H vs ps) : (!vs.isEmpty) = !ps.isEmpty := by cases r <;> rfl
theorem RepK.empty {vs : List (Key × V)} {ps : List (Key × PV)} (r : RepK G K H vs ps) : (!vs.isEmpty) = !ps.isEmpty := by cases r <;> rfl
theorem Rep.tru (s : Same F H) (r : Rep G K F v p) (h : Lp.tru p = some k) : L2.TruV K v H k := by
  cases r with
  | non => cases h; rfl
  | bl b => cases h; rfl
  | int i => cases h; rfl
  | str x =>
    unfold Lp.tru at h
    dsimp only at h
    split at h
    · cases h; exact ⟨by assumption, rfl⟩
    · cases h
  | ty n => cases h
  | exn _ _ => cases h
  | scr _ => cases h
  | tup hq rr => cases h; exact .inr (.inl ⟨_, Same.sqt s hq.sqt, by rw [rr.empty]⟩)
  | lst hq rr => cases h; exact .inl ⟨_, .inl (Same.rd s hq), by rw [rr.empty]⟩
  | dK hq rr => cases h; exact .inr (.inr ⟨_, s _ _ hq, by rw [rr.empty]⟩)
  | ins _ _ => cases h
  | rng _ => cases h
  | itm _ => cases h
theorem Top.tru (s : Same F H) (r : Top G K F H v p) (h : Lp.tru p = some k) : L2.TruV K v H k := by
  rcases r with r | ⟨a, rfl, hF, o⟩
  · exact r.tru s h
  · cases p <;> first | exact o.elim | skip
    · obtain ⟨vs, hq, rr⟩ := o; cases h; exact .inl ⟨_, .inl (.inl hq), by rw [rr.empty]⟩
    · obtain ⟨vs, hq, rr⟩ := o; cases h; exact .inr (.inr ⟨_, hq, by rw [rr.empty]⟩)
    · cases h
theorem t_tru (h : PE X e (tE G X.K .top E κ f)) (he : ∀ whole, isTrue e X.env whole = (do let v ← whole; standAt e.pos; holding [v] (truthy v)) := by exact fun _ => rfl) : PT X e (tT G X.K E κ (tstV f)) :=
  pt_weak (pt_truth h he) fun σ H Q ⟨F, τ, l, q⟩ => by
    refine ⟨F, τ, l, ?_⟩
    unfold tstV at q
    cases hf : f τ with
    | exc c ps => rw [hf] at q; exact q
    | bad => rw [hf] at q; exact q
    | ok p =>
      rw [hf, Res.ok_bind] at q
      cases ht : Lp.tru p with
      | none => rw [ht] at q; exact q.elim
      | some b =>
        rw [ht] at q
        exact fun v F1 H1 e1 r1 => ⟨b, Top.tru e1.sub r1 ht, q F1 H1 e1⟩
theorem g_isB : OpV G K (fun x y H Q => ∃ a b, x = .bl a ∧ y = .bl b ∧ Q (.bl (decide (a = b))) H) .sh pIsB := by
  intro F H x y p q z Q s rx ry hz k
  unfold pIsB at hz
  split at hz
  · obtain rfl := rx.bl_inv
    obtain rfl := ry.bl_inv
    cases hz
    exact ⟨_, _, rfl, rfl, k _ F H (Ext.refl s) (.bl _)⟩
  · cases hz
theorem g_notB : OpV G K (fun x y H Q => ∃ a b, x = .bl a ∧ y = .bl b ∧ Q (.bl (!decide (a = b))) H) .sh pNotB := by
  intro F H x y p q z Q s rx ry hz k
  unfold pNotB at hz
  split at hz
  · obtain rfl := rx.bl_inv
    obtain rfl := ry.bl_inv
    cases hz
    exact ⟨_, _, rfl, rfl, k _ F H (Ext.refl s) (.bl _)⟩
  · cases hz
end
end Lp
end
section
set_option Elab.async false
set_option linter.all false
set_option maxRecDepth 100000
/-! a list, a tuple, a text times an int -/
namespace L2
open PySem PySem.Spec PyProof.Rows
section
variable {X : Cx}
def rTimesL : R2 := fun x y H Q => ∃ l k xs, x = .ref l ∧ y = .int k ∧ Rd H l (.lst xs) ∧ (0 ≤ k ∧ k ≤ 1000 ∧ xs.length ≤ 1000) ∧ ∀ p, H p = none → Q (.ref p) (upd H p (.lst (List.replicate k.toNat xs).flatten))
theorem op_timesL : OpR X (binaryOp .Mult) rTimesL := by
  rintro pins s σ H x y v u Q I rx ry ⟨l, k, xs, rfl, rfl, hR, ⟨k0, k1, kx⟩, hq⟩
  cases rx
  obtain ⟨t, rfl⟩ := ry
  obtain ⟨_, ws, m, rv, hw, he⟩ := Lp.Rd.lstM I hR
  have hmul : xs.length * k.toNat ≤ 1000 * 1000 := Nat.mul_le_mul kx (by omega)
  have hmul' : ws.toArray.size * k.toNat ≤ 1000000 := by rw [List.size_toArray, ← hw]; exact hmul
  have a1 : ¬ (!Builtin.List.listFitsIndex k) = true := by
    rw [fitsIndex_both (by omega) (by omega)]; decide
  have a2 : ¬ ws.toArray.size * k.toNat > (2 ^ 63 - 1) / 8 := by
    have h8 : (1000000 : Nat) ≤ (2 ^ 63 - 1) / 8 := by decide
    omega
  have a3 : ¬ Builtin.List.listTooLong (ws.toArray.size * k.toNat) = true := by
    rw [notLongL (by rw [sizeLine_eq]; omega)]; decide
  have fl : ∀ q : Nat, List.foldl (fun x1 x2 => x1 ++ x2) #[] (List.replicate q ws.toArray) = (List.replicate q ws).flatten.toArray := fun q => by
    have := foldl_rep ws q []
    rwa [List.nil_append] at this
  have a4 : List.foldl (fun x1 x2 => x1 ++ x2) #[] (List.replicate (if ws.toArray.isEmpty = true then 0 else k.toNat) ws.toArray) = (List.replicate k.toNat ws).flatten.toArray := by
    rw [fl]
    cases ws with
    | nil => simp
    | cons _ _ => rw [if_neg (by simp)]
  refine wpAny_binaryOp_repeat_ref (T := "list") (U := "int") (by decide) ⟨_, he, rfl⟩ (fun z => typeIs_int z k t) noFill_list_mul F.fills_int_mul F.slot_int_rmul repeat_list F.slot_int_index.lookup
    (call_meets F.slot_int_rmul (typeIs_int s k t) F.entry_int_rmul (F.args_int_rmul_2 _ _) (int___rmul___int_list k t l ws.toArray m)
      ⟨he, rfl, ⟨_, he, rfl⟩, call_meets F.slot_list_mul ⟨_, he, rfl⟩ F.entry_list_mul (F.args_list_mul_2 _ _) (AutoListH.list___mul___list_int_3 l ws.toArray m k t a1 a2 a3) ⟨he, ?_⟩⟩)
  rw [a4]
  exact ⟨.ref _, _, I.lnew (t' := s.toks) (rv.rep k.toNat) (by rw [lm_len_rep_flat, Nat.mul_comm, sizeLine_eq]; omega), rfl, hq _ I.fresh⟩
/-- a text so many times -/
def timesS (z : Str) (k : Int) : Str := ⟨(List.replicate k.toNat z.cps.toList).flatten.toArray⟩
theorem foldl_app {α : Type} (xs : List α) : ∀ (q : Nat) (acc : Array α), List.foldl (fun x1 x2 => x1 ++ x2) acc (List.replicate q xs.toArray) = acc ++ (List.replicate q xs).flatten.toArray
  | 0, acc => by simp
  | q + 1, acc => by
    rw [List.replicate_succ, List.foldl_cons, foldl_app xs q, List.replicate_succ, List.flatten_cons]
    simp
theorem mul_timesS (z : Str) (k : Int) (k0 : 0 ≤ k) : Txt.mul z k = timesS z k := by
  obtain ⟨c⟩ := z
  have hc : c = c.toList.toArray := by simp
  unfold Txt.mul timesS
  by_cases h : k < 1
  · rw [if_pos h]
    obtain rfl : k = 0 := by omega
    rfl
  · rw [if_neg h]
    by_cases h2 : (k == 1 || Str.length ⟨c⟩ == 0) = true
    · rw [if_pos h2]
      simp only [Bool.or_eq_true, beq_iff_eq] at h2
      rcases h2 with rfl | h2
      · simp
      · have : c = #[] := by
          have h2 : c.size = 0 := h2
          exact Array.eq_empty_of_size_eq_zero h2
        subst this
        simp
    · rw [if_neg h2]
      congr 1
      rw [hc, foldl_app c.toList]
      simp
def rTimesS : R2 := fun x y H Q => ∃ z k, x = .str z ∧ y = .int k ∧ (0 ≤ k ∧ k ≤ 1000 ∧ z.length ≤ 1000) ∧ Q (.str (timesS z k)) H
theorem op_timesS : OpR X (binaryOp .Mult) rTimesS := by
  rintro pins s σ H x y v u Q I rx ry ⟨z, k, rfl, rfl, ⟨k0, k1, kz⟩, hq⟩
  obtain ⟨t, rfl⟩ := rx
  obtain ⟨t', rfl⟩ := ry
  have hm : z.length * k.toNat ≤ 1000 * 1000 := Nat.mul_le_mul kz (by omega)
  refine SB.mul ⟨by rw [decide_eq_false (by omega), decide_eq_false (by omega)]; rfl, fun hk _ hgt => ?_, fun _ _ => ?_⟩ fun t2 n2 => ⟨.str (Txt.mul z k), H, I.tok _, ⟨_, rfl⟩, by rw [mul_timesS z k k0]; exact hq⟩
  · have : (1000 : Int) * k ≤ 2 ^ 63 - 1 := by omega
    have := Int.le_ediv_of_mul_le (show (0 : Int) < k by omega) this
    omega
  · unfold Builtin.Str.tooLong
    rw [sizeLine_eq]
    exact decide_eq_false (by omega)
end
end L2
namespace Lp
open PySem PySem.Spec L2
def pTimes : PV → PV → Option PV
  | .str z, .int k => if 0 ≤ k ∧ k ≤ 1000 ∧ z.length ≤ 1000 then some (.str (timesS z k)) else none
  | .lst xs, .int k => if 0 ≤ k ∧ k ≤ 1000 ∧ xs.length ≤ 1000 then some (.lst (List.replicate k.toNat xs).flatten) else none
  | _, _ => none
def pMulA : PV → PV → Option PV := orP pMul pTimes
def rMulA : R2 := fun x y H Q => rI CMul (fun i j => .int (i * j)) x y H Q ∨ (fun x y H Q => rTimesS x y H Q ∨ rTimesL x y H Q) x y H Q
section
variable {G : Nat → Addr} {K : PySem.W.Frag} {F H : Hp} {X : Cx}
theorem op_mulA : OpR X (binaryOp .Mult) rMulA := op_mul.or (op_timesS.or op_timesL)
theorem Reps.rep {vs : List V} {ps : List PV} (r : Reps G K H vs ps) : ∀ n : Nat, Reps G K H (List.replicate n vs).flatten (List.replicate n ps).flatten
  | 0 => .nil
  | n + 1 => by
    rw [List.replicate_succ, List.replicate_succ, List.flatten_cons, List.flatten_cons]
    exact r.append (Reps.rep r n)
theorem g_times : OpV G K (fun x y H Q => rTimesS x y H Q ∨ rTimesL x y H Q) .sh pTimes := by
  intro F H x y p q z Q s rx ry hz k
  unfold pTimes at hz
  split at hz
  · obtain rfl := rx.str_inv
    obtain rfl := ry.int_inv
    split at hz
    · rename_i hc
      cases hz
      exact .inl ⟨_, _, rfl, rfl, hc, k _ F H (Ext.refl s) (.str _)⟩
    · cases hz
  · rename_i xs j
    obtain ⟨a, vs, rfl, ha, r1⟩ := rx.lst_inv s
    obtain rfl := ry.int_inv
    split at hz
    · rename_i hc
      cases hz
      refine .inr ⟨a, _, vs, rfl, rfl, ha, by rw [r1.length]; exact hc, fun p np => ?_⟩
      refine k _ _ _ (Ext.push (.lst (List.replicate j.toNat vs).flatten) (Ext.refl s) np) (.lst (.inl upd_same) ?_)
      exact Reps.mono (same_new (Same.free s np)) (r1.rep _)
    · cases hz
  · cases hz
theorem g_mulA : OpV G K rMulA .sh pMulA := (g_I (C := CMul) (g := fun i j => i * j)).or g_times
/-- as a new list -/
def pTimesL : PV → PV → Option PV
  | .lst xs, .int k => if 0 ≤ k ∧ k ≤ 1000 ∧ xs.length ≤ 1000 then some (.lst (List.replicate k.toNat xs).flatten) else none
  | _, _ => none
theorem g_timesL : OpV G K rTimesL .fr pTimesL := by
  intro F H x y p q z Q s rx ry hz k
  unfold pTimesL at hz
  split at hz
  · rename_i xs j
    obtain ⟨a, vs, rfl, ha, r1⟩ := rx.lst_inv s
    obtain rfl := ry.int_inv
    split at hz
    · rename_i hc
      cases hz
      refine ⟨a, _, vs, rfl, rfl, ha, by rw [r1.length]; exact hc, fun p np => ?_⟩
      obtain ⟨e, f⟩ := frs_new s np (r1.rep j.toNat)
      exact k _ _ _ e f
    · cases hz
  · cases hz
end
end Lp
end
section
set_option Elab.async false
set_option linter.all false
set_option maxRecDepth 100000
/-! a tuple backwards -/
namespace Lt
open PySem PySem.Spec PyProof.Rows L2 HT
section
variable {prog : Program} {w : World} {A : Around} {E : Value → Shared → Prop} {s : Shared}
theorem adjust_back (n : Nat) : Builtin.Slice.sliceAdjust none none (-1) (n : Int) = ((n : Int) - 1, -1) := rfl
theorem places_back (n : Nat) : Builtin.Slice.slicePlaces ((n : Int) - 1) (-1) (-1) = n := by
  unfold Builtin.Slice.slicePlaces
  rw [if_neg (by decide)]
  by_cases h : n = 0
  · subst h; rfl
  · rw [if_pos (by omega)]
    have : ((n : Int) - 1 - -1 - 1) / (- -1) = (n : Int) - 1 := by rw [show (- -1 : Int) = 1 by decide, Int.ediv_one]; omega
    rw [this]; omega
theorem pick_back (xs : Array Value) : ((List.range xs.size).filterMap fun (m : Nat) => xs[(((xs.size : Nat) : Int) - 1 + (m : Int) * (-1)).toNat]?).toArray = xs.toList.reverse.toArray := by
  congr 1
  have e : ∀ m, m < xs.size → xs[(((xs.size : Nat) : Int) - 1 + (m : Int) * (-1)).toNat]? = xs.toList.reverse[m]? := fun m hm => by
    have : (((xs.size : Nat) : Int) - 1 + (m : Int) * (-1)).toNat = xs.size - 1 - m := by omega
    rw [this, List.getElem?_reverse (by simpa using hm)]
    simp
  have gen : ∀ (l : List Value) (f : Nat → Option Value), (∀ m, m < l.length → f m = l[m]?) → (List.range l.length).filterMap f = l := by
    intro l
    induction l with
    | nil => intro f _; rfl
    | cons x l ih =>
      intro f hf
      rw [List.length_cons, List.range_succ_eq_map, List.filterMap_cons, hf 0 (by simp)]
      simp only [List.getElem?_cons_zero, List.filterMap_map]
      rw [ih (f ∘ Nat.succ) fun m hm => by
        show f (m + 1) = _
        rw [hf (m + 1) (by simpa using hm)]; simp]
  have := gen xs.toList.reverse _ (fun m hm => e m (by simpa using hm))
  simpa using this
theorem applied_back {sl : Addr} {t : Tok} {n : Nat} {Q : Int × Int × Nat → Shared → Prop} (hs : s.heap.IsSliceOf sl .none .none (.int (-1) t)) (h : Q ((n : Int) - 1, -1, n) s) :
    wpAny (model prog w) A (Builtin.Slice.sliceApplied (.ref sl) (pure (n : Int))) Q E s := by
  obtain ⟨o, h1, h2, h3⟩ := id hs
  unfold Builtin.Slice.sliceApplied Builtin.Slice.sliceFields
  refine wpAny_bind (wpAny_bind (wpAny_field h1 h3 (x := .none) rfl ?_))
  refine wpAny_bind (wpAny_field h1 h3 (x := .none) rfl (wpAny_bind (wpAny_field h1 h3 (x := .int (-1) t) rfl (wpAny_pure ?_))))
  refine wpAny_bind (slicePart_int ?_)
  show wpAny _ _ (if ((-1 : Int) == 0) = true then _ else _) _ _ s
  rw [if_neg (by decide)]
  refine wpAny_bind (slicePart_none (wpAny_bind (slicePart_none (wpAny_bind (wpAny_pure ?_)))))
  show wpAny _ _ (match Builtin.Slice.sliceAdjust none none (-1) (n : Int) with | (lo, hi) => pure (lo, (-1 : Int), Builtin.Slice.slicePlaces lo hi (-1))) _ _ s
  rw [adjust_back n]
  show wpAny _ _ (pure ((n : Int) - 1, (-1 : Int), Builtin.Slice.slicePlaces ((n : Int) - 1) (-1) (-1))) _ _ s
  rw [places_back]
  exact wpAny_pure h
theorem item_back {t sl : Addr} {items : Array Value} {u : Tok} {Q : Value → Shared → Prop} (ht : IsTup s.heap t items) (hs : s.heap.IsSliceOf sl .none .none (.int (-1) u))
    (h : Q (.ref s.heap.objs.size) { s with heap := s.heap.push { cls := .type "tuple", data := .seq items.toList.reverse.toArray } }) (hz : items.size ≤ sizeLine) : wpAny (model prog w) A (getItem (.ref t) (.ref sl)) Q E s := by
  have hsz : sizeOk (.seq items.toList.reverse.toArray) := by
    show items.toList.reverse.toArray.size ≤ sizeLine
    simpa using hz
  obtain ⟨o, h1, h2, h3⟩ := id hs
  have hT : s.TypeIs (.ref sl) "slice" := ⟨o, h1, h2⟩
  unfold getItem
  try with_reducible refine wpAny_holding ?_
  first | refine wpAny_bind (wpAny_pure ?_) | skip
  refine wpAny_bind (wpAny_sequenceKey ht.typeIs (by decide) ?_)
  refine wpAny_bind (wpAny_callSpecial?_slot (name := Str.ofString "__getitem__") ht.typeIs slot_tuple_getitem (wpAny_call_entry slot_tuple_getitem ht.typeIs entry_tuple_getitem ?_ (args_tuple_getitem _ _)))
  show wpAny _ _ (Builtin.Tuple.tupleItemsOf (.ref t) >>= _) _ _ s
  refine wpAny_bind (tupleItemsOf_ ht (wpAny_bind (wpAny_typeOf hT ?_)))
  rw [if_pos (by decide)]
  refine wpAny_bind (applied_back hs ?_)
  have hno : ¬ ((((items.size : Nat) : Int) - 1 == 0 && (-1 : Int) == 1 && items.size == items.size) = true) := by
    intro q
    rw [Bool.and_eq_true, Bool.and_eq_true] at q
    exact absurd q.1.2 (by decide)
  show wpAny _ _ (if ((((items.size : Nat) : Int) - 1 == 0 && (-1 : Int) == 1 && items.size == items.size) = true) then _ else _) _ _ s
  rw [if_neg hno, pick_back]
  first
    | exact wpAny_bind (m := Builtin.Tuple.tupleExact _) (wpAny_newObj_type (wpAny_pure ⟨_, rfl, wpAny_pure h⟩) hsz)
    | exact wpAny_bind (m := Builtin.Tuple.tupleExact _) (wpAny_newObj_type (wpAny_bind (wpAny_pure (wpAny_pure ⟨_, rfl, wpAny_pure h⟩))) hsz)
    | exact wpAny_bind (wpAny_bind (m := Builtin.Tuple.tupleExact _) (wpAny_newObj_type (wpAny_pure (wpAny_pure ⟨_, rfl, wpAny_pure h⟩)) hsz))
    | exact wpAny_bind (wpAny_bind (m := Builtin.Tuple.tupleExact _) (wpAny_newObj_type (wpAny_pure ⟨_, rfl, wpAny_pure h⟩) hsz))
end
section
variable {X : Cx} {e : Expr} {te : TE} {k : Nat} {p1 p2 p3 pos : Pos}
def tRevA (K : PySem.W.Frag) (te : TE) : TE := fun σ H Q => te σ H fun x H1 => ∃ a xs, x = .ref a ∧ ((SqT K H1 a xs ∧ ∀ p o, H1 p = none → Lp.KO o → Q (.ref p) (upd H1 p (.frz o (.tup xs.reverse)))) ∨ (SqL K H1 a xs ∧ ∀ p, H1 p = none → Q (.ref p) (upd H1 p (.lst xs.reverse))))
theorem pe_revA (he : PE X e te) : PE X (.Subscript e (.Slice none none (some (.UnaryOp .USub (.Constant (.int 1) k p1) p2)) p3) pos) (tRevA X.K te) := by
  refine ⟨fun pins s σ H Q I h => Subscript_ (thn (he.run pins s σ H _ I h) fun v s1 ⟨x, H1, I1, r1, q1⟩ => ?_)⟩
  obtain ⟨a, xs, rfl, q1⟩ := q1
  cases r1
  have hst : PO X (some (.UnaryOp .USub (.Constant (.int 1) k p1) p2)) (tPart (tUn (rU fun i => .int (-i)) (tC (.int 1)))) := po_some (pe_un un_neg pe_int)
  refine wpAny_Slice (thn (po_none.run pins s1 σ H1 (fun o H2 => o = none ∧ H2 = H1) I1 ⟨rfl, rfl⟩) fun vl s2 ⟨l, H2, I2, pl, el, e2⟩ => ?_)
  subst el e2
  refine thn (po_none.run pins s2 σ H2 (fun o H3 => o = none ∧ H3 = H2) I2 ⟨rfl, rfl⟩) fun vu s3 ⟨u, H3, I3, pu, eu, e3⟩ => ?_
  subst eu e3
  refine thn (hst.run pins s3 σ H3 (fun o H4 => o = some (-1) ∧ H4 = H3) I3 ⟨1, rfl, -1, rfl, rfl, rfl⟩) fun vs s4 ⟨o, H4, I4, ps, eo, e4⟩ => ?_
  subst eo e4
  obtain rfl : vl = .none := by cases pl; rfl
  obtain rfl : vu = .none := by cases pu; rfl
  obtain ⟨tk, rfl⟩ : ∃ tk, vs = .int (-1) tk := by cases ps; exact ⟨_, rfl⟩
  have I5 : L2.Inv X pins σ H4 { s4 with heap := s4.heap.push { cls := .type "slice", data := .fields #[.none, .none, .int (-1) tk] } } := I4.kept (t' := s4.toks) fun b ob q => Heap.get?_push_of_some _ q
  rcases q1 with ⟨hx, q⟩ | ⟨hx, q⟩
  · obtain ⟨its, r, ht, hz⟩ := I5.tuple hx
    have hlen := r.length
    refine tail_any (ops := [.ref a, .ref s4.heap.objs.size]) ht.typeIs (slot_tuple_getitem.lookup) ?_ (by with_unfolding_all rfl)
    refine item_back ht (Heap.IsSliceOf.new _ .none .none (.int (-1) tk)) ?_ (by rw [List.size_toArray]; omega)
    exact ⟨.ref _, _, Lk.laidK I5 (by rw [List.length_reverse]; exact hz) r.reverse, rfl, q _ _ (I5.hok.fresh (Nat.le_refl _)) (Lk.tupO_ok _)⟩
  · obtain ⟨its, r, ht, hz⟩ := I5.list hx
    have hlen := r.length
    refine tail_any (ops := [.ref a, .ref s4.heap.objs.size]) ht.isList.typeIs (PySem.slot_list_getitem.lookup) ?_ (by with_unfolding_all rfl)
    refine wpAny_getItem_list_slice ht.isList (Heap.IsSliceOf.new _ .none .none (.int (-1) tk)) pl pu ps (by decide) ?_ (by rw [List.size_toArray]; omega)
    rw [PySem.W.krv_pick]
    refine ⟨.ref _, _, I5.laid (t' := s4.toks) (o := .lst xs.reverse) (fun b ob q => Heap.get?_push_of_some _ q) (Nat.le_refl _) ?_, rfl, q _ (I5.hok.fresh (Nat.le_refl _))⟩
    exact ⟨by rw [List.length_reverse]; exact hz, _, 0, r.reverse, Heap.get?_push_size _ rfl⟩
end
end Lt
namespace Lp
open PySem PySem.Spec L2
def pRev : PV → Option PV
  | .tup xs => some (.tup xs.reverse)
  | .lst xs => some (.lst xs.reverse)
  | _ => none
/-- among data of any kind -/
def pInD (n : Bool) (p q : PV) : Option PV := match p.toD, q with
  | some d, .lst ys => match toDs ys with
    | some ds => if SeqAt.shaped d && SeqAt.shaped (.list ds) then some (.bl (n ^^ ds.any fun z => PyData.eqv z d)) else none
    | none => none
  | some d, .tup ys => match toDs ys with
    | some ds => if SeqAt.shaped d && SeqAt.shaped (.list ds) then some (.bl (n ^^ ds.any fun z => PyData.eqv z d)) else none
    | none => none
  | _, _ => none
def pInA (n : Bool) : PV → PV → Option PV := orP (pIn n) (pInD n)
section
variable {G : Nat → Addr} {K : PySem.W.Frag} {F H F' H' F0 H0 : Hp} {X : Cx} {κ : Kd} {E : St → XK} {m rm : Mode} {σ : St} {τ : LE} {v : V} {p : PV} {k : Nat} {e : Expr} {f : LE → Res PV} {p1 p2 p3 pos : Pos}
theorem v_rev (he : PE X e (tE G X.K .top E κ f)) : PE X (.Subscript e (.Slice none none (some (.UnaryOp .USub (.Constant (.int 1) k p1) p2)) p3) pos) (tE G X.K .sh E κ (e1 pRev f)) :=
  pe_weak (Lt.pe_revA he) fun σ H Q ⟨F, τ, l, q⟩ => by
    refine ⟨F, τ, l, ?_⟩
    unfold e1 at q
    cases hf : f τ with
    | exc c ps => rw [hf] at q; exact q
    | bad => rw [hf] at q; exact q
    | ok p =>
      rw [hf, Res.ok_bind] at q
      intro v F1 H1 e1 r1
      cases p with
      | tup xs =>
        have r1 : Top G X.K F1 H1 v (.tup xs) := r1
        obtain ⟨a, vs, rfl, h, rr⟩ := r1.tup_inv e1.sub
        exact ⟨a, vs, rfl, .inl ⟨h, fun p o np ko => q _ _ _ (e1.push (.frz o (.tup vs.reverse)) np) (.tup (.inl ⟨o, upd_same, ko⟩) (Reps.mono (same_new (Same.free e1.sub np)) rr.reverse))⟩⟩
      | lst xs =>
        have r1 : Top G X.K F1 H1 v (.lst xs) := r1
        obtain ⟨a, vs, rfl, h, rr⟩ := r1.lst_inv e1.sub
        exact ⟨a, vs, rfl, .inr ⟨.inl h, fun p np => q _ _ _ (e1.push (.lst vs.reverse) np) (.lst (.inl upd_same) (Reps.mono (same_new (Same.free e1.sub np)) rr.reverse))⟩⟩
      | _ => exact q.elim
/-- x in a list, in a tuple, of data -/
def rInLT (K : PySem.W.Frag) (n : Bool) : R2 := fun x y H Q => ∃ d ds, Dp K H x d ∧ (Dp K H y (.list ds) ∨ Dp K H y (.tuple ds)) ∧ SeqAt.shaped d = true ∧ SeqAt.shaped (.list ds) = true ∧ Q (.bl (n ^^ ds.any fun z => PyData.eqv z d)) H
theorem op_inLT (hu : X.A.units + 65 < cLine) : OpR X (compareOp .In) (rInLT X.K false) := fun pins s σ H x y v u Q I rx ry ⟨d, ds, hd, he, sd, se, q⟩ => by
  rw [Bool.false_xor] at q
  obtain ⟨as, r1⟩ := Dp.reads I d x v hd rx
  have fin : EP X pins σ Q (.bool (ds.any fun z => PyData.eqv z d)) s := ⟨.bl _, H, I, rfl, q⟩
  rcases he with he | he
  · obtain ⟨bs, r2⟩ := Dp.reads I (.list ds) y u he ry
    exact SeqAt.in_list_reads r2 r1 (SeqAt.canLay_of_shaped se) (SeqAt.canLay_of_shaped sd) (PyProof.Rows.room_in_shaped sd hu) fin
  · obtain ⟨bs, r2⟩ := Dp.reads I (.tuple ds) y u he ry
    exact SeqAt.in_tuple_reads r2 r1 (SeqAt.canLay_of_shaped se) (SeqAt.canLay_of_shaped sd) (PyProof.Rows.room_in_shaped sd hu) fin
theorem op_notInLT (hu : X.A.units + 65 < cLine) : OpR X (compareOp .NotIn) (rInLT X.K true) := fun pins s σ H x y v u Q I rx ry ⟨d, ds, hd, he, sd, se, q⟩ => by
  rw [Bool.true_xor] at q
  obtain ⟨as, r1⟩ := Dp.reads I d x v hd rx
  have fin : EP X pins σ Q (.bool (!ds.any fun z => PyData.eqv z d)) s := ⟨.bl _, H, I, rfl, q⟩
  rcases he with he | he
  · obtain ⟨bs, r2⟩ := Dp.reads I (.list ds) y u he ry
    exact SeqAt.notIn_list_reads r2 r1 (SeqAt.canLay_of_shaped se) (SeqAt.canLay_of_shaped sd) (PyProof.Rows.room_in_shaped sd hu) fin
  · obtain ⟨bs, r2⟩ := Dp.reads I (.tuple ds) y u he ry
    exact SeqAt.notIn_tuple_reads r2 r1 (SeqAt.canLay_of_shaped se) (SeqAt.canLay_of_shaped sd) (PyProof.Rows.room_in_shaped sd hu) fin
theorem g_inD {n : Bool} : OpV G K (rInLT K n) .sh (pInD n) := by
  intro F H x y p q z Q s rx ry hz k
  unfold pInD at hz
  split at hz
  · rename_i d ys hd
    split at hz
    · rename_i ds hds
      split at hz
      · rename_i hs
        cases hz
        rw [Bool.and_eq_true] at hs
        have hq : (PV.lst ys).toD = some (.list ds) := by rw [PV.toD, hds]; rfl
        exact ⟨d, ds, rx.dp s hd, .inl (ry.dp s hq), hs.1, hs.2, k _ F H (Ext.refl s) (.bl _)⟩
      · cases hz
    · cases hz
  · rename_i d ys hd
    split at hz
    · rename_i ds hds
      split at hz
      · rename_i hs
        cases hz
        rw [Bool.and_eq_true] at hs
        have hq : (PV.tup ys).toD = some (.tuple ds) := by rw [PV.toD, hds]; rfl
        exact ⟨d, ds, rx.dp s hd, .inr (ry.dp s hq), hs.1, hs.2, k _ F H (Ext.refl s) (.bl _)⟩
      · cases hz
    · cases hz
  · cases hz
theorem hu65 {k : Nat} {A : Around} (r : Room k A) : A.units + 65 < cLine := by have := r.un; omega
theorem op_inA (hu : X.A.units + 65 < cLine) : OpR X (compareOp .In) (fun x y H Q => rInV X.K false x y H Q ∨ rInLT X.K false x y H Q) := op_inV.or (op_inLT hu)
theorem op_notInA (hu : X.A.units + 65 < cLine) : OpR X (compareOp .NotIn) (fun x y H Q => rInV X.K true x y H Q ∨ rInLT X.K true x y H Q) := op_notInV.or (op_notInLT hu)
theorem g_inA {n : Bool} : OpV G K (fun x y H Q => rInV K n x y H Q ∨ rInLT K n x y H Q) .sh (pInA n) := g_in.or g_inD
end
end Lp
end
section
set_option Elab.async false
set_option linter.all false
set_option maxRecDepth 100000
namespace Lp
open PySem PySem.Spec L2
/-! // by wide numbers -/
theorem CDivW_iff {i j : Int} : (decide (0 < j) && Nat.ble (j.natAbs.log2 + 1) 9000) = true ↔ CDivW i j := by
  rw [Bool.and_eq_true, Nat.ble_eq, decide_eq_true_iff]
  unfold CDivW
  omega
instance (i j : Int) : Decidable (CDivW i j) := decidable_of_iff _ (CDivW_iff (i := i))
abbrev pDivW := pI CDivW fun i j => i / j
end Lp
end
section
set_option Elab.async false
set_option linter.all false
set_option maxRecDepth 100000
set_option maxHeartbeats 2000000
/-! zip of a list and a tuple, of any two sequences -/
namespace Lz
open PySem PySem.Spec PyProof.Rows L2 RZ
open PySem.Sem (wp)
inductive Sq where
  | l | t
def SqIt (q : Sq) (h : Heap) (it a : Addr) (k : Nat) : Prop := match q with
  | .l => h.IsListIter it a k
  | .t => h.IsTupleIter it a k
def SqIs (q : Sq) (h : Heap) (a : Addr) (items : Array Value) : Prop := match q with
  | .l => h.IsList a items
  | .t => h.IsTuple a items
theorem SqIt.put {q : Sq} {h h' : Heap} {it a : Addr} {k : Nat} (x : SqIt q h it a k) (e : ∀ o, h.get? it = some o → h'.get? it = some o) : SqIt q h' it a k := by
  cases q with
  | l => exact Heap.IsListIter.at (h := h) x e
  | t => exact Heap.IsTupleIter.at (h := h) x e
theorem SqIt.obj {q : Sq} {h : Heap} {it a : Addr} {k : Nat} (x : SqIt q h it a k) : ∃ o vs, h.get? it = some o ∧ o.data = .fields vs := by
  cases q with
  | l => obtain ⟨o, e, _, d⟩ := x; exact ⟨o, _, e, d⟩
  | t => obtain ⟨o, e, _, d⟩ := x; exact ⟨o, _, e, d⟩
theorem SqIs.put {q : Sq} {h h' : Heap} {a b : Addr} {xs : Array Value} (x : SqIs q h a xs) (e : Heap.ExtBut b h h') (n : a ≠ b) : SqIs q h' a xs := by
  cases q with
  | l => exact Heap.IsList.extBut x e n
  | t => exact Heap.IsTuple.extBut x e n
theorem SqIt.ext {q : Sq} {h h' : Heap} {it a b : Addr} {k : Nat} (x : SqIt q h it a k) (e : Heap.ExtBut b h h') (n : it ≠ b) : SqIt q h' it a k := x.put fun o ho => e _ o n ho
section
variable {prog : Program} {w : World} {A : Around} {E : Value → Shared → Prop} {s : Shared}
theorem sq_next {q : Sq} {it a : Addr} {k : Nat} {items : Array Value} {x : Value} {Q : Value → Shared → Prop} (h1 : SqIt q s.heap it a k) (h2 : SqIs q s.heap a items) (hx : items[k]? = some x)
    (hQ : ∀ h', SqIt q h' it a (k + 1) → Heap.SameBut it s.heap h' → Q x { s with heap := h' }) : wpAny (model prog w) A (Builtin.SmallTypes.nextOf (.ref it)) Q E s := by
  cases q with
  | l => exact wpAny_nextOf_list_item h1 h2 hx hQ
  | t => exact nextOf_tuple_item h1 h2 hx hQ
theorem sq_end {q : Sq} {it a : Addr} {k : Nat} {items : Array Value} {Q : Value → Shared → Prop} (hh : A.handled = none) (h1 : SqIt q s.heap it a k) (h2 : SqIs q s.heap a items) (hx : items[k]? = none)
    (hE : ∀ h' e, Heap.ExtBut it s.heap h' → (∃ o, h'.get? e = some o ∧ o.cls = .type "StopIteration") → E (.ref e) { s with heap := h' }) : wpAny (model prog w) A (Builtin.SmallTypes.nextOf (.ref it)) Q E s := by
  cases q with
  | l => exact wpAny_nextOf_list_end hh h1 h2 hx hE
  | t => exact nextOf_tuple_end hh h1 h2 hx hE
theorem zip_head {z TI TO i1 i2 : Addr} {Q : Fin → Shared → Prop} (hz : IsZip s.heap z TI TO .none) (hTI : IsPair s.heap TI (.ref i1) (.ref i2)) : True := trivial
/-- one turn: both have an item -/
theorem step_item {p q : Sq} {z TI TO i1 i2 l1 l2 : Addr} {m n : Nat} {xs ys : Array Value} {x y a b : Value} {Q : Value → Shared → Prop} (D : ZipApart z TI TO i1 i2 l1 l2)
    (hz : IsZip s.heap z TI TO .none) (hTI : IsPair s.heap TI (.ref i1) (.ref i2)) (hTO : IsPair s.heap TO a b) (u1 : SqIt p s.heap i1 l1 m) (u2 : SqIt q s.heap i2 l2 n) (v1 : SqIs p s.heap l1 xs) (v2 : SqIs q s.heap l2 ys)
    (hx : xs[m]? = some x) (hy : ys[n]? = some y)
    (hQ : ∀ h', IsZip h' z TI TO (rawInt s.heap.objs.size) → IsPair h' TO x y → SqIt p h' i1 l1 (m + 1) → SqIt q h' i2 l2 (n + 1) → IsPair h' s.heap.objs.size x y → h'.objs.size = s.heap.objs.size + 1 →
      (∀ c o, c ≠ z → c ≠ TO → c ≠ i1 → c ≠ i2 → s.heap.get? c = some o → h'.get? c = some o) → Q (.ref s.heap.objs.size) { s with heap := h' }) :
    wpAny (model prog w) A (Builtin.«zip.__next__» ⟨[.ref z], []⟩) (fun fin s' => ∃ v, fin = .done (.ret v) ∧ Q v s') E s := by
  show wpAny _ _ (field (.ref z) 2 >>= _) _ _ _
  refine wpAny_bind (wpAny_field hz rfl (x := .bool false) rfl ?_)
  show wpAny _ _ (field (.ref z) 3 >>= _) _ _ _
  refine wpAny_bind (wpAny_field hz rfl (x := .ref TI) rfl (wpAny_bind (wpAny_seqItems hTI rfl ?_)))
  show wpAny _ _ (Builtin.SmallTypes.ownedTupleIsFree (.ref z) >>= _) _ _ _
  refine wpAny_bind ?_
  unfold Builtin.SmallTypes.ownedTupleIsFree
  refine wpAny_bind (wpAny_field hz rfl (x := .none) rfl (wpAny_pure ?_))
  simp only [if_true]
  refine wpAny_bind (wpAny_rule (wpAny_bind (wpAny_field hz rfl (x := .ref TO) rfl (wpAny_bind (wpAny_setField_rec hz (by simp) fun g1 k1 f1 => ?_)))))
  have k1 : IsZip g1 z TI TO .ellipsis := k1
  refine wpAny_bind ?_
  simp only [List.zipIdx_cons, List.zipIdx_nil, List.forIn_cons, List.forIn_nil]
  refine wpAny_bind (wpAny_bind (wpAny_onRaise ?_))
  show wpAny _ _ (Builtin.SmallTypes.nextOf (.ref i1) >>= _) _ _ _
  refine wpAny_bind (sq_next (u1.ext f1.extBut D.i1z) (v1.put f1.extBut D.l1z) hx fun g2 w1 f2 => wpAny_pure ?_)
  have t2 : IsPair g2 TO a b := f2.extBut _ _ D.TOi1 (f1.extBut _ _ D.TOz hTO)
  refine wpAny_bind (wpAny_seqItems t2 rfl (wpAny_bind (wpAny_updateSeq_pair t2 fun g3 t3 f3 => wpAny_bind (wpAny_letGo (wpAny_pure ?_)))))
  have t3 : IsPair g3 TO x b := t3
  refine wpAny_bind (wpAny_bind (wpAny_onRaise ?_))
  show wpAny _ _ (Builtin.SmallTypes.nextOf (.ref i2) >>= _) _ _ _
  have v2' : SqIs q g3 l2 ys := ((v2.put f1.extBut D.l2z).put f2.extBut D.l2i1).put f3.extBut D.l2TO
  have u2' : SqIt q g3 i2 l2 n := ((u2.ext f1.extBut D.i2z).ext f2.extBut D.i12.symm).ext f3.extBut D.TOi2.symm
  refine wpAny_bind (sq_next u2' v2' hy fun g4 w2 f4 => wpAny_pure ?_)
  have t4 : IsPair g4 TO x b := f4.extBut _ _ D.TOi2 t3
  refine wpAny_bind (wpAny_seqItems t4 rfl (wpAny_bind (wpAny_updateSeq_pair t4 fun g5 t5 f5 => wpAny_bind (wpAny_letGo (wpAny_pure (wpAny_pure ?_))))))
  have t5 : IsPair g5 TO x y := t5
  refine wpAny_bind (wpAny_seqItems t5 rfl (wpAny_bind (wpAny_newTuple ?_)))
  have sz : g5.objs.size = s.heap.objs.size := f5.1.trans (f4.1.trans (f3.1.trans (f2.1.trans f1.1)))
  have z5 : IsZip g5 z TI TO .ellipsis := f5.extBut _ _ D.TOz.symm (f4.extBut _ _ D.i2z.symm (f3.extBut _ _ D.TOz.symm (f2.extBut _ _ D.i1z.symm k1)))
  have rest : ∀ c o, c ≠ z → c ≠ TO → c ≠ i1 → c ≠ i2 → s.heap.get? c = some o → g5.get? c = some o := fun c o n1 n2 n3 n4 e =>
    f5.extBut _ _ n2 (f4.extBut _ _ n4 (f3.extBut _ _ n2 (f2.extBut _ _ n3 (f1.extBut _ _ n1 e))))
  have w1' : SqIt p g5 i1 l1 (m + 1) := ((w1.ext f3.extBut D.TOi1.symm).ext f4.extBut D.i12).ext f5.extBut D.TOi1.symm
  have w2' : SqIt q g5 i2 l2 (n + 1) := w2.ext f5.extBut D.TOi2.symm
  have zl : z < g5.objs.size := Heap.lt_size z5
  show wpAny _ _ (Builtin.SmallTypes.ownedTupleHandOut (.ref z) (.ref g5.objs.size) >>= _) _ _ _
  refine wpAny_bind ?_
  unfold Builtin.SmallTypes.ownedTupleHandOut
  have z6 : IsZip (g5.push { cls := .type "tuple", data := .seq #[x, y] }) z TI TO .ellipsis := Heap.get?_push_of_some _ z5
  refine wpAny_bind (wpAny_setField_rec z6 (by simp) fun g7 z7 f7 => ?_)
  have z7 : IsZip g7 z TI TO (rawInt g5.objs.size) := z7
  refine wpAny_setField_rec z7 (by simp) fun g8 z8 f8 => ?_
  have z8 : IsZip g8 z TI TO (rawInt g5.objs.size) := z8
  have up : ∀ c o, c ≠ z → g5.get? c = some o → g8.get? c = some o := fun c o n1 e => f8.extBut _ _ n1 (f7.extBut _ _ n1 (Heap.get?_push_of_some _ e))
  have t8 : IsPair g8 g5.objs.size x y := f8.extBut _ _ (Nat.ne_of_gt zl) (f7.extBut _ _ (Nat.ne_of_gt zl) (Heap.get?_push_size _ rfl))
  have n8 : g8.objs.size = g5.objs.size + 1 := f8.1.trans (f7.1.trans (Heap.size_push ..))
  rw [sz] at z8 t8 n8
  refine wpAny_pure ⟨_, rfl, ?_⟩
  show Q (.ref g5.objs.size) _
  rw [sz]
  exact hQ g8 z8 (up _ _ D.TOz t5) (w1'.put fun o e => up _ o D.i1z e) (w2'.put fun o e => up _ o D.i2z e) t8 n8 fun c o n1 n2 n3 n4 e => up c o n1 (rest c o n1 n2 n3 n4 e)
/-- one of the two has none -/
theorem step_end {p q : Sq} {z TI TO i1 i2 l1 l2 : Addr} {m n : Nat} {xs ys : Array Value} {a b : Value} {Q : Fin → Shared → Prop} (hh : A.handled = none) (D : ZipApart z TI TO i1 i2 l1 l2)
    (hz : IsZip s.heap z TI TO .none) (hTI : IsPair s.heap TI (.ref i1) (.ref i2)) (hTO : IsPair s.heap TO a b) (u1 : SqIt p s.heap i1 l1 m) (u2 : SqIt q s.heap i2 l2 n) (v1 : SqIs p s.heap l1 xs) (v2 : SqIs q s.heap l2 ys)
    (hend : xs[m]? = none ∨ ys[n]? = none)
    (hE : ∀ h' e, (∀ c o, c ≠ z → c ≠ TO → c ≠ i1 → c ≠ i2 → s.heap.get? c = some o → h'.get? c = some o) → (∃ o, h'.get? e = some o ∧ o.cls = .type "StopIteration") → E (.ref e) { s with heap := h' }) :
    wpAny (model prog w) A (Builtin.«zip.__next__» ⟨[.ref z], []⟩) Q E s := by
  show wpAny _ _ (field (.ref z) 2 >>= _) _ _ _
  refine wpAny_bind (wpAny_field hz rfl (x := .bool false) rfl ?_)
  show wpAny _ _ (field (.ref z) 3 >>= _) _ _ _
  refine wpAny_bind (wpAny_field hz rfl (x := .ref TI) rfl (wpAny_bind (wpAny_seqItems hTI rfl ?_)))
  show wpAny _ _ (Builtin.SmallTypes.ownedTupleIsFree (.ref z) >>= _) _ _ _
  refine wpAny_bind ?_
  unfold Builtin.SmallTypes.ownedTupleIsFree
  refine wpAny_bind (wpAny_field hz rfl (x := .none) rfl (wpAny_pure ?_))
  simp only [if_true]
  refine wpAny_bind (wpAny_rule (wpAny_bind (wpAny_field hz rfl (x := .ref TO) rfl (wpAny_bind (wpAny_setField_rec hz (by simp) fun g1 k1 f1 => ?_)))))
  have k1 : IsZip g1 z TI TO .ellipsis := k1
  refine wpAny_bind ?_
  simp only [List.zipIdx_cons, List.zipIdx_nil, List.forIn_cons, List.forIn_nil]
  refine wpAny_bind (wpAny_bind (wpAny_onRaise ?_))
  show wpAny _ _ (Builtin.SmallTypes.nextOf (.ref i1) >>= _) _ _ _
  have noz : ∀ {g : Heap} {e : Addr} {oe : Obj}, IsZip g z TI TO .ellipsis → g.get? e = some oe → oe.cls = .type "StopIteration" → e ≠ z := fun hz he hc x => by
    subst x; rw [hz] at he; cases he; simp at hc
  cases hx : xs[m]? with
  | none =>
    refine wpAny_bind (sq_end hh (u1.ext f1.extBut D.i1z) (v1.put f1.extBut D.l1z) hx fun g2 e f2 he => ?_)
    obtain ⟨oe, h1, h2⟩ := he
    have k2 : IsZip g2 z TI TO .ellipsis := f2 _ _ D.i1z.symm k1
    refine wpAny_setField_rec k2 (by simp) fun g3 _ f3 => hE g3 e (fun c o n1 _ n3 _ x => f3.extBut _ _ n1 (f2 _ _ n3 (f1.extBut _ _ n1 x))) ⟨oe, f3.extBut _ _ (noz k2 h1 h2) h1, h2⟩
  | some x =>
    have hy : ys[n]? = none := by
      rcases hend with h | h
      · rw [hx] at h; cases h
      · exact h
    refine wpAny_bind (sq_next (u1.ext f1.extBut D.i1z) (v1.put f1.extBut D.l1z) hx fun g2 w1 f2 => wpAny_pure ?_)
    have t2 : IsPair g2 TO a b := f2.extBut _ _ D.TOi1 (f1.extBut _ _ D.TOz hTO)
    refine wpAny_bind (wpAny_seqItems t2 rfl (wpAny_bind (wpAny_updateSeq_pair t2 fun g3 t3 f3 => wpAny_bind (wpAny_letGo (wpAny_pure ?_)))))
    refine wpAny_bind (wpAny_bind (wpAny_onRaise ?_))
    show wpAny _ _ (Builtin.SmallTypes.nextOf (.ref i2) >>= _) _ _ _
    have v2' : SqIs q g3 l2 ys := ((v2.put f1.extBut D.l2z).put f2.extBut D.l2i1).put f3.extBut D.l2TO
    have u2' : SqIt q g3 i2 l2 n := ((u2.ext f1.extBut D.i2z).ext f2.extBut D.i12.symm).ext f3.extBut D.TOi2.symm
    refine wpAny_bind (sq_end hh u2' v2' hy fun g4 e f4 he => ?_)
    obtain ⟨oe, h1, h2⟩ := he
    have k4 : IsZip g4 z TI TO .ellipsis := f4 _ _ D.i2z.symm (f3.extBut _ _ D.TOz.symm (f2.extBut _ _ D.i1z.symm k1))
    refine wpAny_setField_rec k4 (by simp) fun g5 _ f5 => hE g5 e (fun c o n1 n2 n3 n4 x => f5.extBut _ _ n1 (f4 _ _ n4 (f3.extBut _ _ n2 (f2.extBut _ _ n3 (f1.extBut _ _ n1 x))))) ⟨oe, f5.extBut _ _ (noz k4 h1 h2) h1, h2⟩
end
end Lz
end
section
set_option Elab.async false
set_option linter.all false
set_option maxRecDepth 100000
set_option maxHeartbeats 2000000
namespace Lz
open PySem PySem.Spec PyProof.Rows L2 RZ
section
variable {prog : Program} {w : World} {A : Around} {E : Value → Shared → Prop} {s : Shared}
theorem next_item {p q : Sq} {z TI TO i1 i2 l1 l2 : Addr} {m n : Nat} {xs ys : Array Value} {x y a b : Value} {Q : Option Value → Shared → Prop} (D : ZipApart z TI TO i1 i2 l1 l2)
    (hz : IsZip s.heap z TI TO .none) (hTI : IsPair s.heap TI (.ref i1) (.ref i2)) (hTO : IsPair s.heap TO a b) (u1 : SqIt p s.heap i1 l1 m) (u2 : SqIt q s.heap i2 l2 n) (v1 : SqIs p s.heap l1 xs) (v2 : SqIs q s.heap l2 ys)
    (hx : xs[m]? = some x) (hy : ys[n]? = some y)
    (hQ : ∀ h', IsZip h' z TI TO (rawInt s.heap.objs.size) → IsPair h' TO x y → SqIt p h' i1 l1 (m + 1) → SqIt q h' i2 l2 (n + 1) → IsPair h' s.heap.objs.size x y → h'.objs.size = s.heap.objs.size + 1 →
      (∀ c o, c ≠ z → c ≠ TO → c ≠ i1 → c ≠ i2 → s.heap.get? c = some o → h'.get? c = some o) → Q (some (.ref s.heap.objs.size)) { s with heap := h' }) :
    wpAny (model prog w) A (pyNext (.ref z)) Q E s := by
  have hT : s.TypeIs (.ref z) "zip" := ⟨_, hz, rfl⟩
  unfold pyNext
  refine wpAny_bind (wpAny_attempt (wpAny_callSpecial?_slot (name := Str.ofString "__next__") hT F.slot_zip_next (wpAny_call_entry F.slot_zip_next hT F.entry_zip_next ?_ (F.args_zip_next_1 _))))
  exact step_item D hz hTI hTO u1 u2 v1 v2 hx hy fun h' a1 a2 a3 a4 a5 a6 a7 => wpAny_pure (hQ h' a1 a2 a3 a4 a5 a6 a7)
theorem next_end {p q : Sq} {z TI TO i1 i2 l1 l2 : Addr} {m n : Nat} {xs ys : Array Value} {a b : Value} {Q : Option Value → Shared → Prop} (hh : A.handled = none) (D : ZipApart z TI TO i1 i2 l1 l2)
    (hz : IsZip s.heap z TI TO .none) (hTI : IsPair s.heap TI (.ref i1) (.ref i2)) (hTO : IsPair s.heap TO a b) (u1 : SqIt p s.heap i1 l1 m) (u2 : SqIt q s.heap i2 l2 n) (v1 : SqIs p s.heap l1 xs) (v2 : SqIs q s.heap l2 ys)
    (hend : xs[m]? = none ∨ ys[n]? = none) (hQ : ∀ h', (∀ c o, c ≠ z → c ≠ TO → c ≠ i1 → c ≠ i2 → s.heap.get? c = some o → h'.get? c = some o) → Q none { s with heap := h' }) : wpAny (model prog w) A (pyNext (.ref z)) Q E s := by
  have hT : s.TypeIs (.ref z) "zip" := ⟨_, hz, rfl⟩
  unfold pyNext
  refine wpAny_bind (wpAny_attempt (wpAny_callSpecial?_slot (name := Str.ofString "__next__") hT F.slot_zip_next (wpAny_call_entry F.slot_zip_next hT F.entry_zip_next (step_end hh D hz hTI hTO u1 u2 v1 v2 hend fun h' e hk he => ?_) (F.args_zip_next_1 _))))
  obtain ⟨o, ho, hc⟩ := he
  exact wpAny_bind (wpAny_isInstance (T := "StopIteration") (b := true) ⟨o, ho, hc⟩ isSubtype_stop (wpAny_pure (hQ _ hk)))
end
/-! zip(..) made -/
def itO (q : Sq) (a : Addr) : Obj := { cls := .type (match q with | .l => "list_iterator" | .t => "tuple_iterator"), data := .fields #[.ref a, .int 0 0] }
abbrev gH1 (p : Sq) (h : Heap) (l1 : Addr) : Heap := h.push (itO p l1)
abbrev gH2 (p q : Sq) (h : Heap) (l1 l2 : Addr) : Heap := (gH1 p h l1).push (itO q l2)
abbrev gH3 (p q : Sq) (h : Heap) (l1 l2 : Addr) : Heap := (gH2 p q h l1 l2).push { cls := .type "tuple", data := .seq #[.ref h.objs.size, .ref (gH1 p h l1).objs.size] }
abbrev gH4 (p q : Sq) (h : Heap) (l1 l2 : Addr) : Heap := (gH3 p q h l1 l2).push { cls := .type "tuple", data := .seq #[.none, .none] }
abbrev gH5 (p q : Sq) (h : Heap) (l1 l2 : Addr) : Heap := (gH4 p q h l1 l2).push { cls := .type "zip", data := .fields #[.none, .bool false, .bool false, .ref (gH2 p q h l1 l2).objs.size, .ref (gH3 p q h l1 l2).objs.size] }
theorem meets_new (p q : Sq) (l1 l2 : Addr) (xs ys : Array Value) :
    Meets (Builtin.«zip.__new__» ⟨[.type "zip", .ref l1, .ref l2], []⟩) (fun _ R s => SqIs p s.heap l1 xs ∧ SqIs q s.heap l2 ys ∧ R (.ok (.ret (.ref (gH4 p q s.heap l1 l2).objs.size))) { s with heap := gH5 p q s.heap l1 l2 }) :=
  .of_wp fun prog w A R s h => by
    obtain ⟨hp, g, d, tk, os⟩ := s
    obtain ⟨h1, h2, h⟩ := h
    have hsub := sub_zip
    cases p with
    | l =>
      have a1 : Heap.IsList (Shared.heap ⟨hp, g, d, tk, os⟩) l1 xs := h1
      cases q with
      | l =>
        have a2 : Heap.IsList (Shared.heap ⟨hp.push { cls := .type "list_iterator", data := .fields #[.ref l1, .int 0 0] }, g, d, tk, os⟩) l2 ys := Heap.IsList.push h2 _
        wp_walk using wpAny_pyIter_list a1, wpAny_pyIter_list a2
        exact ⟨_, rfl, h⟩
      | t =>
        have a2 : Heap.IsTuple (Shared.heap ⟨hp.push { cls := .type "list_iterator", data := .fields #[.ref l1, .int 0 0] }, g, d, tk, os⟩) l2 ys := Heap.IsTuple.push h2 _
        wp_walk using wpAny_pyIter_list a1, wpAny_pyIter_tuple a2
        exact ⟨_, rfl, h⟩
    | t =>
      have a1 : Heap.IsTuple (Shared.heap ⟨hp, g, d, tk, os⟩) l1 xs := h1
      cases q with
      | l =>
        have a2 : Heap.IsList (Shared.heap ⟨hp.push { cls := .type "tuple_iterator", data := .fields #[.ref l1, .int 0 0] }, g, d, tk, os⟩) l2 ys := Heap.IsList.push h2 _
        wp_walk using wpAny_pyIter_tuple a1, wpAny_pyIter_list a2
        exact ⟨_, rfl, h⟩
      | t =>
        have a2 : Heap.IsTuple (Shared.heap ⟨hp.push { cls := .type "tuple_iterator", data := .fields #[.ref l1, .int 0 0] }, g, d, tk, os⟩) l2 ys := Heap.IsTuple.push h2 _
        wp_walk using wpAny_pyIter_tuple a1, wpAny_pyIter_tuple a2
        exact ⟨_, rfl, h⟩
section
variable {prog : Program} {w : World} {A : Around} {E : Value → Shared → Prop} {s : Shared}
theorem itO_at {q : Sq} {h : Heap} {it a : Addr} (e : h.get? it = some (itO q a)) : SqIt q h it a 0 := by
  cases q with
  | l => exact ⟨_, e, rfl, rfl⟩
  | t => exact ⟨_, e, rfl, rfl⟩
theorem call_new {p q : Sq} {l1 l2 : Addr} {xs ys : Array Value} {Q : Value → Shared → Prop} (v1 : SqIs p s.heap l1 xs) (v2 : SqIs q s.heap l2 ys)
    (h : ∀ h', IsZip h' (s.heap.objs.size + 4) (s.heap.objs.size + 2) (s.heap.objs.size + 3) .none → IsPair h' (s.heap.objs.size + 2) (.ref s.heap.objs.size) (.ref (s.heap.objs.size + 1)) →
      IsPair h' (s.heap.objs.size + 3) .none .none → SqIt p h' s.heap.objs.size l1 0 → SqIt q h' (s.heap.objs.size + 1) l2 0 → (∀ c o, s.heap.get? c = some o → h'.get? c = some o) → Q (.ref (s.heap.objs.size + 4)) { s with heap := h' }) :
    wpAny (model prog w) A (call (.type "zip") [.ref l1, .ref l2]) Q E s := by
  refine callType_new F.called_zip (by decide) (F.typeCall_zip_2 _ _) (F.newCall_zip_2 _ _) (fun obj => F.args_object_init_3 obj _ _) F.entry_zip_new (meets_new p q l1 l2 xs ys) ⟨v1, v2, ?_⟩
  have n1 : (gH1 p s.heap l1).objs.size = s.heap.objs.size + 1 := Heap.size_push ..
  have n2 : (gH2 p q s.heap l1 l2).objs.size = s.heap.objs.size + 2 := (Heap.size_push ..).trans (by rw [n1])
  have n3 : (gH3 p q s.heap l1 l2).objs.size = s.heap.objs.size + 3 := (Heap.size_push ..).trans (by rw [n2])
  have n4 : (gH4 p q s.heap l1 l2).objs.size = s.heap.objs.size + 4 := (Heap.size_push ..).trans (by rw [n3])
  have a5 : (gH5 p q s.heap l1 l2).get? (gH4 p q s.heap l1 l2).objs.size = some _ := Heap.get?_push_size _ rfl
  have a4 : (gH5 p q s.heap l1 l2).get? (gH3 p q s.heap l1 l2).objs.size = some _ := Heap.get?_push_of_some _ (Heap.get?_push_size _ rfl)
  have a3 : (gH5 p q s.heap l1 l2).get? (gH2 p q s.heap l1 l2).objs.size = some _ := Heap.get?_push_of_some _ (Heap.get?_push_of_some _ (Heap.get?_push_size _ rfl))
  have a2 : (gH5 p q s.heap l1 l2).get? (gH1 p s.heap l1).objs.size = some (itO q l2) := Heap.get?_push_of_some _ (Heap.get?_push_of_some _ (Heap.get?_push_of_some _ (Heap.get?_push_size _ (by cases q <;> rfl))))
  have a1 : (gH5 p q s.heap l1 l2).get? s.heap.objs.size = some (itO p l1) := Heap.get?_push_of_some _ (Heap.get?_push_of_some _ (Heap.get?_push_of_some _ (Heap.get?_push_of_some _ (Heap.get?_push_size _ (by cases p <;> rfl)))))
  show _ ∧ _
  rw [n2, n3, n4] at a5
  rw [n1, n2] at a3
  rw [n3] at a4
  rw [n1] at a2
  rw [n4]
  exact ⟨⟨_, a5, rfl⟩, h _ a5 a3 a4 (itO_at a1) (itO_at a2) fun c o x => Heap.get?_push_of_some _ (Heap.get?_push_of_some _ (Heap.get?_push_of_some _ (Heap.get?_push_of_some _ (Heap.get?_push_of_some _ x))))⟩
end
/-! as a source of a loop -/
def SqV (q : Sq) (K : PySem.W.Frag) (H : Hp) (a : Addr) (xs : List V) : Prop := match q with
  | .l => SqL K H a xs
  | .t => SqT K H a xs
section
variable {X : Cx} {pins : List (Addr × Obj)} {σ : L2.St} {H : Hp} {s : Shared}
theorem sq_inv {q : Sq} {a : Addr} {xs : List V} (I : L2.Inv X pins σ H s) (h : SqV q X.K H a xs) : ∃ its : List Value, Vals xs its ∧ SqIs q s.heap a its.toArray ∧ a < s.heap.objs.size := by
  cases q with
  | l =>
    obtain ⟨its, r, p, _⟩ := I.list h
    exact ⟨its, r, p.isList, p.lt⟩
  | t =>
    obtain ⟨its, r, p, _⟩ := I.tuple h
    obtain ⟨o, ho, _⟩ := id p
    exact ⟨its, r, p, Heap.lt_size ho⟩
theorem sq_inj {q : Sq} {a : Addr} {xs ys : List V} (I : L2.Inv X pins σ H s) (h : SqV q X.K H a xs) (k : SqV q X.K H a ys) : xs = ys := by
  cases q with
  | l => exact I.list_inj h k
  | t => exact I.tuple_inj h k
end
def ItzM (p q : Sq) (K : PySem.W.Frag) (a b : Addr) : It :=
  ⟨fun i H => ∃ (xs ys : List V) (x y : V), SqV p K H a xs ∧ SqV q K H b ys ∧ xs[i]? = some x ∧ ys[i]? = some y,
    fun i H v H' => ∃ T x y, v = .ref T ∧ H T = none ∧ H' = upd H T (.tup [x, y]) ∧ (∀ xs, SqV p K H a xs → xs[i]? = some x) ∧ ∀ ys, SqV q K H b ys → ys[i]? = some y,
    fun i H => ∃ xs ys : List V, SqV p K H a xs ∧ SqV q K H b ys ∧ (xs.length ≤ i ∨ ys.length ≤ i)⟩
theorem turn_m {p q : Sq} {P : Program} {w : World} {K : PySem.W.Frag} {elts : List Expr} {kk : Nat} {tpos : Pos} {a b z TI TO i1 i2 : Addr} (D : ZipApart z TI TO i1 i2 a b) :
    Turn P w K (.Tuple elts kk tpos) (ItzM p q K a b) [z, TI, TO, i1, i2] z (fun i h => IsZip h z TI TO .none ∧ IsPair h TI (.ref i1) (.ref i2) ∧ (∃ x y, IsPair h TO x y) ∧ SqIt p h i1 a i ∧ SqIt q h i2 b i) where
  mem := by simp
  obj := fun i h st c hc => by
    obtain ⟨hz, hTI, ⟨x, y, hTO⟩, u1, u2⟩ := st
    obtain ⟨o1, _, e1, d1⟩ := u1.obj
    obtain ⟨o2, _, e2, d2⟩ := u2.obj
    simp only [List.mem_cons, List.not_mem_nil, or_false] at hc
    rcases hc with rfl | rfl | rfl | rfl | rfl
    · exact ⟨_, hz, fun v q => nomatch q⟩
    · exact ⟨_, hTI, fun v q => nomatch q⟩
    · exact ⟨_, hTO, fun v q => nomatch q⟩
    · exact ⟨o1, e1, fun v q => by rw [d1] at q; cases q⟩
    · exact ⟨o2, e2, fun v q => by rw [d2] at q; cases q⟩
  keep := fun i h h' st k => by
    obtain ⟨hz, hTI, ⟨x, y, hTO⟩, u1, u2⟩ := st
    exact ⟨k z (by simp) _ hz, k TI (by simp) _ hTI, ⟨x, y, k TO (by simp) _ hTO⟩, u1.put fun o e => k i1 (by simp) o e, u2.put fun o e => k i2 (by simp) o e⟩
  item := by
    intro X hP hw hK hc i pins s σ H E I hf st hg
    subst hP hw hK
    obtain ⟨hz, hTI, ⟨x0, y0, hTO⟩, u1, u2⟩ := st
    obtain ⟨xs, ys, x, y, hqx, hqy, hx, hy⟩ := hg
    obtain ⟨its, rv, v1, _⟩ := sq_inv I hqx
    obtain ⟨its2, rv2, v2, _⟩ := sq_inv I hqy
    obtain ⟨u, hu, ru⟩ := rv.get hx
    obtain ⟨u', hu', ru'⟩ := rv2.get hy
    have zl : z < s.heap.objs.size := Heap.lt_size hz
    refine next_item D hz hTI hTO u1 u2 v1 v2 (x := u) (y := u') (by simpa using hu) (by simpa using hu') fun h' z' t' w1 w2 hT hsz hk => ?_
    refine ⟨_, rfl, wpAny_letOwnedTupleGo_zip (s := { s with heap := h' }) z' fun h'' z'' sb => ?_⟩
    have hT2 : h''.get? s.heap.objs.size = some { cls := .type "tuple", data := .seq #[u, u'] } := (sb.2 _ (Nat.ne_of_gt zl)).trans hT
    have new : ObjOk X.prog X.w (upd H s.heap.objs.size (.tup [x, y])) h'' s.heap.objs.size (.tup [x, y]) := ⟨by show 2 ≤ sizeLine; decide, [u, u'], .cons ru (.cons ru' .nil), ⟨_, hT2, rfl, _, rfl⟩⟩
    have I1 : L2.Inv X pins σ (upd H s.heap.objs.size (.tup [x, y])) { s with heap := h'' } :=
      I.turnedNew (t' := s.toks) (ch := [z, TI, TO, i1, i2]) (fun c o hb e => (sb.2 c (fun n => hb (by simp [n]))).trans (hk c o (fun n => hb (by simp [n])) (fun n => hb (by simp [n])) (fun n => hb (by simp [n])) (fun n => hb (by simp [n])) e)) hf (Nat.le_refl _) new
    refine ⟨.ref s.heap.objs.size, _, I1, rfl, ⟨_, x, y, rfl, I.hok.fresh (Nat.le_refl _), rfl, fun l hl => by rw [sq_inj I hl hqx]; exact hx, fun l hl => by rw [sq_inj I hl hqy]; exact hy⟩, ⟨z'', ?_, ⟨u, u', ?_⟩, ?_, ?_⟩, fun c hcm => ?_⟩
    · exact (sb.2 _ D.TIz).trans (hk _ _ D.TIz D.TITO D.TIi1 D.TIi2 hTI)
    · exact (sb.2 _ D.TOz).trans t'
    · exact w1.put fun o e => (sb.2 _ D.i1z).trans e
    · exact w2.put fun o e => (sb.2 _ D.i2z).trans e
    · have lt : c < s.heap.objs.size := by
        obtain ⟨_, _, e1, _⟩ := u1.obj
        obtain ⟨_, _, e2, _⟩ := u2.obj
        simp only [List.mem_cons, List.not_mem_nil, or_false] at hcm
        rcases hcm with rfl | rfl | rfl | rfl | rfl
        · exact zl
        · exact Heap.lt_size hTI
        · exact Heap.lt_size hTO
        · exact Heap.lt_size e1
        · exact Heap.lt_size e2
      rw [upd_ne (Nat.ne_of_lt lt)]
      exact (hf c hcm).1
  done := by
    intro X hP hw hK hc i pins s σ H E I hf st hg
    subst hP hw hK
    obtain ⟨hz, hTI, ⟨x0, y0, hTO⟩, u1, u2⟩ := st
    obtain ⟨xs, ys, hqx, hqy, hend⟩ := hg
    obtain ⟨its, rv, v1, _⟩ := sq_inv I hqx
    obtain ⟨its2, rv2, v2, _⟩ := sq_inv I hqy
    have l1 := rv.length
    have l2 := rv2.length
    have he : its.toArray[i]? = none ∨ its2.toArray[i]? = none := by
      rcases hend with e | e
      · exact .inl (by simp; omega)
      · exact .inr (by simp; omega)
    exact next_end (I.ok.hd hc) D hz hTI hTO u1 u2 v1 v2 he fun h' hk => ⟨rfl, I.turnedL (t' := s.toks) (ch := [z, TI, TO, i1, i2]) (fun c o hb e =>
      hk c o (fun n => hb (by simp [n])) (fun n => hb (by simp [n])) (fun n => hb (by simp [n])) (fun n => hb (by simp [n])) e) hf⟩
  self := fun A i s Q E st h => wpAny_pyIter_zip st.1 h
def iZipM (K : PySem.W.Frag) (ta : TA) : TI := fun σ H R => ta σ H fun vs H1 => ∃ p q a b xs ys, vs = [.ref a, .ref b] ∧ SqV p K H1 a xs ∧ SqV q K H1 b ys ∧ R (ItzM p q K a b) H1
theorem pi_zipM {X : Cx} {e e2 : Expr} {ta : TA} {p0 pos tpos : Pos} {elts : List Expr} {kk : Nat} (hg : Gl X "zip") (hm : X.mg "zip" = none) (ha : PA X [e, e2] ta)
    (hs : starEach [e, e2] X.env = (false, eval e X.env) :: starEach [e2] X.env := by rfl) (hpl : (backTo pos (starEach [e2] X.env)).any (·.1) = false := by rfl) :
    PI X (.Tuple elts kk tpos) (.Call (.Name "zip" p0) [e, e2] [] pos) (iZipM X.K ta) := by
  refine ⟨fun pins s σ H R I h => Call_ (ld_blt I hg hm PyProof.Rows.boot_zip (PyProof.Rows.callWith_type1 (thn (ha.run pos pins s σ H _ I h) fun us s1 ⟨vs, H1, I1, r1, q1⟩ => ?_) hs hpl))⟩
  obtain ⟨p, q, a, b, xs, ys, rfl, hqx, hqy, hR⟩ := q1
  cases r1 with
  | cons r rr =>
    cases rr with
    | cons r' rr =>
      cases rr
      cases r
      cases r'
      obtain ⟨its, rv, v1, lt1⟩ := sq_inv I1 hqx
      obtain ⟨its2, rv2, v2, lt2⟩ := sq_inv I1 hqy
      refine call_new v1 v2 fun h' hz hTI hTO w1 w2 hk => wpAny_pyIter_zip hz ?_
      have I2 : L2.Inv X pins σ H1 { s1 with heap := h' } := I1.kept (t' := s1.toks) hk
      have fr : ∀ c, c ∈ [s1.heap.objs.size + 4, s1.heap.objs.size + 2, s1.heap.objs.size + 3, s1.heap.objs.size, s1.heap.objs.size + 1] → FpOk X pins H1 c := fun c hcm => by
        simp only [List.mem_cons, List.not_mem_nil, or_false] at hcm
        have le : s1.heap.objs.size ≤ c := by omega
        exact I1.fpOk le (I1.hok.fresh le)
      exact ⟨s1.heap.objs.size + 4, [s1.heap.objs.size + 4, s1.heap.objs.size + 2, s1.heap.objs.size + 3, s1.heap.objs.size, s1.heap.objs.size + 1], _, _, H1, rfl, I2, turn_m (PySem.W.ktu_apart s1.heap.objs.size a b lt1 lt2), ⟨hz, hTI, ⟨_, _, hTO⟩, w1, w2⟩, fr, hR⟩
end Lz
end
section
set_option Elab.async false
set_option linter.all false
set_option maxRecDepth 100000
/-! zip of any two sequences, in the value layer -/
namespace Lp
open PySem PySem.Spec PyProof.Rows L2
open Lz
section
variable {G : Nat → Addr} {K : PySem.W.Frag} {B : Hp} {F0 : Hp}
theorem SqV_same {q : Sq} {H : Hp} {a : Addr} {xs : List V} (s : Same B H) (h : SqV q K B a xs) : SqV q K H a xs := by
  cases q with
  | l => exact Same.seq s h
  | t => exact Same.sqt s h
theorem Itp.zipM {p q : Sq} {a b : Addr} {vs ws : List V} {ps qs : List PV} (hB : SqV p K B a vs) (hB2 : SqV q K B b ws) (r : Reps G K F0 vs ps) (r2 : Reps G K F0 ws qs) (hl : ps.length ≤ sizeLine) : Itp G K (ItzM p q K a b) B F0 (zipP ps qs) where
  len := by rw [zipP_len]; omega
  go i H s hi := by
    rw [zipP_len] at hi
    obtain ⟨v, e, _⟩ := r.get (List.getElem?_eq_getElem (show i < ps.length by omega))
    obtain ⟨v2, e2, _⟩ := r2.get (List.getElem?_eq_getElem (show i < qs.length by omega))
    exact ⟨vs, ws, v, v2, SqV_same s hB, SqV_same s hB2, e, e2⟩
  stop H s := ⟨vs, ws, SqV_same s hB, SqV_same s hB2, by rw [zipP_len, r.length, r2.length]; omega⟩
  yld i x H H' F p s s0 sF hy hp := by
    obtain ⟨T, x', y', rfl, nT, rfl, hx, hy⟩ := hy
    obtain ⟨c, d, hc, hd, rfl⟩ := zipP_get hp
    obtain ⟨v, e, rv⟩ := r.get hc
    obtain ⟨v2, e2, rv2⟩ := r2.get hd
    have := (hx vs (SqV_same s hB)).symm.trans e
    cases this
    have := (hy ws (SqV_same s hB2)).symm.trans e2
    cases this
    exact rep_pair sF nT (rv.mono s0) (rv2.mono s0)
end
def seqP : PV → Option (Sq × List PV)
  | .lst xs => some (.l, xs)
  | .tup xs => some (.t, xs)
  | _ => none
theorem seqP_inv {G : Nat → Addr} {K : PySem.W.Frag} {F : Hp} {v : V} {z : PV} {q : Sq} {xs : List PV} (r : Rep G K F v z) (e : seqP z = some (q, xs)) : ∃ a vs, v = .ref a ∧ SqV q K F a vs ∧ Reps G K F vs xs := by
  unfold seqP at e
  split at e
  · cases e
    obtain ⟨a, vs, rfl, hS, rr⟩ := r.lst_inv
    exact ⟨a, vs, rfl, .inl hS, rr⟩
  · cases e
    obtain ⟨a, vs, rfl, hS, rr⟩ := r.tup_inv
    exact ⟨a, vs, rfl, hS, rr⟩
  · cases e
def pZipA : List PV → Option (List PV)
  | [a, b] => match seqP a, seqP b with
    | some (_, xs), some (_, ys) => if xs.length ≤ 1000000 then some (zipP xs ys) else none
    | _, _ => none
  | _ => none
theorem g_zipA {G : Nat → Addr} {K : PySem.W.Frag} : IfV (fun vs H1 R => ∃ p q a b xs ys, vs = [.ref a, .ref b] ∧ SqV p K H1 a xs ∧ SqV q K H1 b ys ∧ R (ItzM p q K a b) H1) G K pZipA := by
  intro F H xs ps zs R s r hz k
  unfold pZipA at hz
  split at hz
  · split at hz
    · rename_i e1 e2
      split at hz
      · rename_i hl
        cases hz
        obtain ⟨v, w, rfl, rv, rw'⟩ := r.two
        obtain ⟨a, vs, rfl, hS, rr⟩ := seqP_inv rv e1
        obtain ⟨b, ws, rfl, hS2, rr2⟩ := seqP_inv rw' e2
        exact ⟨_, _, a, b, vs, ws, rfl, SqV_same s hS, SqV_same s hS2, k _ (Itp.zipM hS hS2 rr rr2 (by rw [sizeLine_eq]; omega))⟩
      · cases hz
    · cases hz
  · cases hz
section
variable {G : Nat → Addr} {X : Cx} {κ : Kd} {E : L2.St → XK} {a b : Expr} {pos p' tpos : Pos} {f : LE → Res (List PV)} {elts : List Expr} {kk : Nat}
theorem i_zipM (hm : X.mg "zip" = none) (ha : PA X [a, b] (tA G X.K .sh E κ f)) (hg : Gl X "zip" := by rfl) (hs : starEach [a, b] X.env = (false, eval a X.env) :: starEach [b] X.env := by rfl) (hpl : (backTo pos (starEach [b] X.env)).any (·.1) = false := by rfl) :
    PI X (.Tuple elts kk tpos) (.Call (.Name "zip" p') [a, b] [] pos) (tI G X.K true E κ (iFn pZipA f)) := pi_weak (pi_zipM hg hm ha hs hpl) fun _ _ _ h => w_ifn g_zipA h
end
end Lp
end
section
set_option Elab.async false
set_option linter.all false
set_option maxRecDepth 100000
/-! several clauses, each with a name -/
namespace Lt
open PySem PySem.Spec PyProof.Rows L2
abbrev CT := Value × Nat × (Addr → Value → Option Addr → TS)
/-- the ends of a suite whose name goes -/
def endN (i : Nat) (D : Ends) : Ends := { nx := fun σ' H' => D.nx (σ'.set i none) H', rt := D.rt, bk := fun σ' H' => D.bk (σ'.set i none) H', ct := fun σ' H' => D.ct (σ'.set i none) H' }
def wMA (K : PySem.W.Frag) (Wout : WX) (D : Ends) : List CT → WX
  | [] => Wout
  | z :: r => fun cls d σ H => ∃ b, PySem.W.exmOne K cls z.1 = some b ∧ (b = true → ∀ a, H a = none → z.2.2 a cls d (endN z.2.1 D) (σ.set z.2.1 (some (.ref a))) H) ∧ (b = false → wMA K Wout D r cls d σ H)
inductive HdA (X : Cx) : List ExceptHandler → List CT → Prop
  | nil : HdA X [] []
  | cons {x n : Str} {c : Value} {i : Nat} {ts : Addr → Value → Option Addr → TS} {b₀ : Stmt} {suite : List Stmt} {np pos' : Pos} {hds : List ExceptHandler} {l : List CT}
      (hi : X.N[i]? = some n) (hln : X.env.kindOf n = some .local) (hc : Names X x c)
      (hsu : ∀ (a : Addr) (oe : Obj) (cls : Value) (d : Option Addr) (pn : List (Addr × Obj)), Zc cls d oe → (∃ vs, oe.data = .fields vs) → PSs (X.suite a ((a, oe) :: pn)) (b₀ :: suite) (ts a cls d))
      (r : HdA X hds l) : HdA X (.ExceptHandler (some (.Name x np)) (some n) (b₀ :: suite) pos' :: hds) ((c, i, ts) :: l)
section
variable {X : Cx} {body : List Stmt} {h₀ : ExceptHandler} {hds : List ExceptHandler} {l : List CT} {pos : Pos} {tb : WX → TS} {Wout : WX}
theorem ps_try_nm (hs : X.stack = X.env :: X.outer) (hf : X.env.frame = some X.env.locals) (hN : X.N.Nodup) (tk : Takes X Wout)
    (hb : ∀ (W : WX) (pn : List (Addr × Obj)) (xe : Value → Shared → Prop), Takes (X.tr pn xe) W → PassesOwn (model X.prog X.w) X.A X.env xe → PSs (X.tr pn xe) body (tb W))
    (hh : HdA X (h₀ :: hds) l) : PS X (.Try body (h₀ :: hds) [] [] pos) (fun D σ H => tb (wMA X.K Wout D l) D σ H) := by
  refine ⟨fun pins s σ H D I h => ?_⟩
  have ok := I.ok
  have hfr : X.A.frames = some (X.env :: X.outer) := by rw [ok.frames, hs]
  refine wpAny_Try_except ?_
  refine wpAny_mono ((hb (wMA X.K Wout D l) (X.pn ++ pins) (fun e s₁ => wpAny (model X.prog X.w) X.A (noteFrame e X.env) (fun _ s₂ => wpAny (model X.prog X.w) X.A (setFlight e none) (fun _ s₃ =>
    wpAny (model X.prog X.w) X.A (handleBy e X.env (h₀ :: hds)) (SP X pins D) X.xe s₃) X.xe s₂) X.xe s₁) (fun u s' xx => ?_) PassesOwn.looking).run [] s σ H D (I.toTry _) h) (fun f s1 hsp => ?_) (fun e s1 he => he)
  · obtain ⟨a, B, sI, pins', σ', H', cls, d, rfl, J', nb, up, sky, na, os, ag, w⟩ := xx
    have J : Inv X pins σ' H' sI := J'.ofTry ok
    have sky' : Sky B (X.env :: X.outer) a (Zc cls d) X.env.locals s'.heap := by rw [← hs]; exact sky
    show wpAny (model X.prog X.w) X.A (noteFrame (.ref a) X.env) _ _ _
    refine Sky.land Zc.steady hfr hf sky' fun h3 fl3 up3 => ?_
    have J3 : Inv X pins σ' H' { s' with heap := h3 } := J.landed nb fl3.1 (up.trans up3) os ag
    obtain ⟨oe3, vs3, he3, hz3, hd3⟩ := fl3.there
    have nfr : a ∉ frs (X.env :: X.outer) := fun hm => by
      obtain ⟨_, o', e', hnf⟩ := fl3.2.2.1.mem hm
      rw [he3] at e'; cases e'
      exact hnf _ hd3
    have nL : a ≠ X.env.locals := fun z => nfr (List.mem_filterMap.mpr ⟨X.env, List.mem_cons_self, by rw [hf, z]⟩)
    have nF : a ∉ X.fs := fun hm => by
      obtain ⟨e, he, q⟩ := List.mem_filterMap.mp hm
      exact nfr (List.mem_filterMap.mpr ⟨e, List.mem_cons_of_mem _ he, q⟩)
    have S3 := J3.suite he3 hd3 na nL nF
    have go : ∀ {hd : List ExceptHandler} {l' : List CT}, HdA X hd l' → wMA X.K Wout D l' cls d σ' H' → wpAny (model X.prog X.w) X.A (handleBy (.ref a) X.env hd) (SP X pins D) X.xe { s' with heap := h3 } := by
      intro hd l' hk
      induction hk with
      | nil =>
        intro w
        refine wpAny_handleBy_nil ?_
        obtain ⟨k1, k2, k3, oe, vs, T, oT, ts', he, hz, hd, h1, hr⟩ := id fl3
        unfold PySem.passOn
        refine wpAny_bind (wpAny_field he hd h1 ?_)
        rw [if_neg (show ¬ ((Value.ref T == Value.none) = true) from by simp)]
        have fin : wpAny (model X.prog X.w) X.A (setFlight (.ref a) X.env.frame) (fun _ s4 => wpAny (model X.prog X.w) X.A (throw (.ref a) : Sem Flow) (SP X pins D) X.xe s4) X.xe { s' with heap := h3 } := by
          rw [hf]
          refine HandSPX.setFlight_upZ fl3 fun h4 hh4 up4 => wpAny_throw (tk _ _ ?_)
          exact ⟨a, B, sI, pins, σ', H', cls, d, rfl, J, nb, (up.trans up3).trans up4, .inr (.inr (by rw [hs]; exact hh4)), na, os, ag, w⟩
        first
          | exact wpAny_bind (wpAny_pure (wpAny_bind fin))
          | exact wpAny_bind fin
      | @cons x n c i ts b₀ suite np pos' hd2 l2 hi hln hc hsu r ih =>
        intro w
        obtain ⟨b, hb1, hyes, hno⟩ := w
        have hloc : Loc X.env.scope n := .inl hln
        refine wpAny_handleBy_cons (codeAny_handlers_test ?_) (by intro q; cases q)
        have LT : PySem.W.Looks (model X.prog X.w) h3 (typeOf (.ref a)) cls := fun A Q E s k q => wpAny_typeOf_ref (k _ _ he3) (by rw [hz3.1]; exact q)
        have LM := PySem.W.exm_one (M := model X.prog X.w) (J3.kIn) LT hb1
        have test : ∀ {Q : Value → Shared → Prop} {E : Value → Shared → Prop}, Q c { s' with heap := h3 } → wpAny (model X.prog X.w) (X.A.mark (some (.ref a))) (eval (.Name x np) X.env) Q E { s' with heap := h3 } := fun {Q E} q => by
          obtain ⟨hg, hdbg, hm | ⟨hm, hv, hnn⟩⟩ := hc
          · exact ld_glob (X := X.suite a ((a, oe3) :: (X.pn ++ pins))) S3 hg hm q hdbg
          · exact ld_blt (X := X.suite a ((a, oe3) :: (X.pn ++ pins))) S3 hg hm hv q hnn hdbg
        refine test (LM.here ?_)
        cases b with
        | true =>
          refine codeAny_handlers_suite_as ?_
          refine HandSPX.lands_againZ fl3 fun h4 fl4 up4 => ?_
          have J4 : Inv X pins σ' H' { s' with heap := h4 } := J.landed nb fl4.1 ((up.trans up3).trans up4) os ag
          obtain ⟨oe4, vs4, he4, hz4, hd4⟩ := fl4.there
          have S4 := J4.suite he4 hd4 na nL nF
          refine store_ok (X := X.suite a ((a, oe4) :: (X.pn ++ pins))) (v := .ref a) S4 hN hi hloc rfl (fun s5 S5 => ?_) (.inr hln)
          refine wpAny_mono ((hsu a oe4 cls d (X.pn ++ pins) hz4 ⟨_, hd4⟩).run [] s5 _ H' _ S5 (hyes rfl a na)) (fun f s6 hsp => ?_) (fun _ _ z => False.elim z)
          have end_ : ∀ {σ6 : L2.St} {H6 : Hp} {Q : Shared → Prop}, Inv (X.suite a ((a, oe4) :: (X.pn ++ pins))) [] σ6 H6 s6 → (∀ s7, Inv X pins (σ6.set i none) H6 s7 → Q s7) →
              wpAny (model X.prog X.w) X.A (do bindName X.env n .none; unbindBehindTheSuite X.env n pos') (fun _ s7 => Q s7) X.xe s6 := fun {σ6 H6 Q} S6 hq => gone_ok (S6.unsuite ok) hN hi hln hq
          cases f with
          | next =>
            obtain ⟨σ6, H6, S6, q6⟩ := hsp
            exact end_ S6 fun s7 J7 => ⟨_, _, J7, q6⟩
          | brk =>
            obtain ⟨σ6, H6, S6, q6⟩ := hsp
            exact end_ S6 fun s7 J7 => ⟨_, _, J7, q6⟩
          | cont =>
            obtain ⟨σ6, H6, S6, q6⟩ := hsp
            exact end_ S6 fun s7 J7 => ⟨_, _, J7, q6⟩
          | ret u =>
            obtain ⟨v6, σ6, H6, S6, r6, q6⟩ := hsp
            exact end_ S6 fun s7 J7 => ⟨_, _, _, J7, r6, q6⟩
        | false =>
          show wpAny _ X.A (handleBy (.ref a) X.env hd2) _ _ _
          exact ih (hno rfl)
    exact go hh w
  · cases f with
    | next =>
      obtain ⟨σ', H', J', q⟩ := hsp
      exact wpAny_execs_nil ⟨σ', H', J'.ofTry ok, q⟩
    | brk =>
      obtain ⟨σ', H', J', q⟩ := hsp
      exact ⟨σ', H', J'.ofTry ok, q⟩
    | cont =>
      obtain ⟨σ', H', J', q⟩ := hsp
      exact ⟨σ', H', J'.ofTry ok, q⟩
    | ret u =>
      obtain ⟨v, σ', H', J', r, q⟩ := hsp
      exact ⟨v, σ', H', J'.ofTry ok, r, q⟩
end
end Lt
end
section
set_option Elab.async false
set_option linter.all false
set_option maxRecDepth 100000
namespace Lp
open PySem PySem.Spec L2
/-! several clauses, each with a name -/
abbrev MH := (Nat → Option Bool) × Nat × (Addr → Addr → Nat → LE → Fl)
def pickH : List MH → Nat → List (Str × PV) → LE → Fl
  | [], c, fs, τ1 => .ex c fs τ1
  | h :: r, c, fs, τ1 => match h.1 c with
    | some true => if h.2.1 < τ1.length then tidy h.2.1 (h.2.2 0 0 c (τ1.set h.2.1 (some (.exn 0 0 c fs)))) else .bad
    | some false => pickH r c fs τ1
    | none => .bad
def sTryN (hs : List MH) (mb : LE → Fl) : LE → Fl := fun τ => match mb τ with
  | .ex c fs τ1 => pickH hs c fs τ1
  | r => r
section
variable {G : Nat → Addr} {F H F' H' F0 H0 : Hp} {X : Cx} {κ : Kd} {W : WX} {rm : Mode} {zs : Option Addr} {σ : St} {τ : LE} {body : List Stmt} {pos : Pos} {mb : LE → Fl}
def tsH (G : Nat → Addr) (K : PySem.W.Frag) (κ : Kd) (rm : Mode) (h : MH) : Addr → Value → Option Addr → TS := fun a cls d D σ H => ∃ c dd, cls = .ref (G c) ∧ d = some dd ∧ h.1 c = some true ∧ tStm G K (fun _ _ _ _ => False) κ rm (h.2.2 a dd c) D σ H
inductive HvOk (G : Nat → Addr) (X : Cx) (κ : Kd) (rm : Mode) : List ExceptHandler → List (Value × MH) → Prop
  | nil : HvOk G X κ rm [] []
  | cons {x n : Str} {cv : Value} {h : MH} {b₀ : Stmt} {suite : List Stmt} {np pos' : Pos} {hds : List ExceptHandler} {l : List (Value × MH)}
      (hcov : ∀ c b, h.1 c = some b → PySem.W.exmOne X.K (.ref (G c)) cv = some b)
      (hind : ∀ a d c fs (τ : LE), tidy h.2.1 (h.2.2 a d c (τ.set h.2.1 (some (.exn a d c fs)))) = tidy h.2.1 (h.2.2 0 0 c (τ.set h.2.1 (some (.exn 0 0 c fs)))))
      (hc : Names X x cv)
      (hsu : ∀ (a d : Addr) (oe : Obj) (pn : List (Addr × Obj)) (c : Nat), h.1 c = some true → Zc (.ref (G c)) (some d) oe → (∃ vs, oe.data = .fields vs) → PSs (X.suite a ((a, oe) :: pn)) (b₀ :: suite) (tStm G X.K (fun _ _ _ _ => False) κ rm (h.2.2 a d c)))
      (r : HvOk G X κ rm hds l)
      (k : κ h.2.1 = false := by rfl) (hi : X.N[h.2.1]? = some n := by rfl) (hln : X.env.kindOf n = some .local := by rfl) :
      HvOk G X κ rm (.ExceptHandler (some (.Name x np)) (some n) (b₀ :: suite) pos' :: hds) ((cv, h) :: l)
theorem HvOk.hda {hds : List ExceptHandler} {l : List (Value × MH)} (h : HvOk G X κ rm hds l) : Lt.HdA X hds (l.map fun z => (z.1, z.2.2.1, tsH G X.K κ rm z.2)) := by
  induction h with
  | nil => exact .nil
  | cons hcov hind hc hsu r k hi hln ih =>
    refine .cons hi hln hc (fun a oe cls d pn hz hfl => ⟨fun pins s σ H D I ⟨c, dd, e1, e2, e3, h⟩ => ?_⟩) ih
    subst e1 e2
    exact (hsu a dd oe pn c e3 hz hfl).run pins s σ H D I h
def PO (G : Nat → Addr) (K : PySem.W.Frag) (W : WX) (κ : Kd) (rm : Mode) (D : Ends) (F0 H0 : Hp) (zs : Option Addr) (r : Fl) : Prop := match r with
  | .nx τ' => ∀ σ' F' H', Ls G K κ zs F0 H0 F' H' σ' τ' → D.nx σ' H'
  | .bk τ' => ∀ σ' F' H', Ls G K κ zs F0 H0 F' H' σ' τ' → D.bk σ' H'
  | .ct τ' => ∀ σ' F' H', Ls G K κ zs F0 H0 F' H' σ' τ' → D.ct σ' H'
  | .rt p => ∀ v F' H', Ext F0 H0 F' H' → RM G K rm H0 F' H' v p → D.rt v H'
  | .ex c ps τ' => ∀ σ' F' H' d fs, Ls G K κ zs F0 H0 F' H' σ' τ' → F' d = some (.xd fs) → RepF G K F' fs ps → W (.ref (G c)) (some d) σ' H'
  | .bad => False
theorem HvOk.pick {hds : List ExceptHandler} {l : List (Value × MH)} (h : HvOk G X κ rm hds l) {D : Ends} {σ' : St} {c : Nat} {d : Addr} {fs : List (Str × PV)} {fs' : List (Str × V)} {τ1 : LE} (l' : Ls G X.K κ zs F0 H0 F' H' σ' τ1) (h1 : F' d = some (.xd fs')) (h2 : RepF G X.K F' fs' fs)
    (q : PO G X.K W κ rm D F0 H0 zs (pickH (l.map (·.2)) c fs τ1)) : Lt.wMA X.K W D (l.map fun z => (z.1, z.2.2.1, tsH G X.K κ rm z.2)) (.ref (G c)) (some d) σ' H' := by
  induction h with
  | nil => exact q σ' F' H' d fs' l' h1 h2
  | @cons x n cv h b₀ suite np pos' hds l hcov hind hc hsu r k hi hln ih =>
    rw [List.map_cons] at q ⊢
    unfold pickH at q
    cases hcv : h.1 c with
    | none => simp only [hcv] at q; exact q.elim
    | some b =>
      refine ⟨b, hcov c b hcv, fun hbt => ?_, fun hbf => ?_⟩
      · subst hbt
        simp only [hcv] at q
        by_cases hlt : h.2.1 < τ1.length
        · rw [if_pos hlt] at q
          refine fun a ha => ⟨c, d, rfl, rfl, hcv, F0, H0, F', τ1.set h.2.1 (some (.exn a d c fs)), zs, l'.set k hlt (.exn h1 h2), ?_⟩
          rw [← hind a d c fs τ1] at q
          cases hm : h.2.2 a d c (τ1.set h.2.1 (some (.exn a d c fs))) with
          | ex c fs τ2 => rw [hm] at q; exact q.elim
          | bad => rw [hm] at q; exact q.elim
          | rt p => rw [hm] at q; exact q
          | nx τ2 => rw [hm] at q; exact fun σ2 F2 H2 l2 => q _ F2 H2 (l2.clear k)
          | bk τ2 => rw [hm] at q; exact fun σ2 F2 H2 l2 => q _ F2 H2 (l2.clear k)
          | ct τ2 => rw [hm] at q; exact fun σ2 F2 H2 l2 => q _ F2 H2 (l2.clear k)
        · rw [if_neg hlt] at q; exact q.elim
      · subst hbf
        simp only [hcv] at q
        exact ih q
theorem s_tryN {h₀ : ExceptHandler} {hds : List ExceptHandler} (l : List (Value × MH)) {ml : List MH} (tk : Takes X W)
    (hb : ∀ (W : WX) (pn : List (Addr × Obj)) (xe : Value → Shared → Prop), Takes (X.tr pn xe) W → PassesOwn (model X.prog X.w) X.A X.env xe → PSs (X.tr pn xe) body (tStm G X.K (WE W) κ rm mb))
    (hh : HvOk G X κ rm (h₀ :: hds) l) (hN : X.N.Nodup) (hm : l.map (·.2) = ml := by rfl)
    (hs : X.stack = X.env :: X.outer := by rfl) (hf : X.env.frame = some X.env.locals := by rfl) :
    PS X (.Try body (h₀ :: hds) [] [] pos) (tStm G X.K (WE W) κ rm (sTryN ml mb)) := by
  subst hm
  refine ps_weak (Lt.ps_try_nm (tb := fun W => tStm G X.K (WE W) κ rm mb) hs hf hN tk hb hh.hda) fun D σ H ⟨F0, H0, F, τ, zs, l, q⟩ => ?_
  refine ⟨F0, H0, F, τ, zs, l, ?_⟩
  unfold sTryN at q
  cases h : mb τ with
  | nx τ' => simp only [h] at q; exact q
  | bk τ' => simp only [h] at q; exact q
  | ct τ' => simp only [h] at q; exact q
  | rt p => simp only [h] at q; exact q
  | bad => simp only [h] at q
  | ex c fs τ1 =>
    simp only [h] at q
    exact fun σ' F' H' d fs' l' h1 h2 => hh.pick l' h1 h2 q
end
end Lp
end
section
set_option Elab.async false
set_option linter.all false
set_option maxRecDepth 100000
/-! texts joined, texts sorted, index, keys listed -/
namespace Lp
open PySem PySem.Spec L2
section
variable {G : Nat → Addr} {K : PySem.W.Frag} {F H F' H' F0 H0 : Hp} {X : Cx} {κ : Kd} {E : L2.St → XK} {m : Mode} {e o : Expr} {es : List Expr} {f fo : LE → Res PV} {pos apos cpos : Pos}
def strsOf : List PV → Option (List Str)
  | [] => some []
  | .str b :: xs => (strsOf xs).map (b :: ·)
  | _ => none
theorem Reps.strs : ∀ {vs : List V} {ps : List PV} {bs : List Str}, Reps G K F vs ps → strsOf ps = some bs → vs = bs.map V.str
  | _, _, _, .nil, h => by simp [strsOf] at h; subst h; rfl
  | _, _, _, .cons (p := p) (ps := ps) r rs, h => by
    cases p <;> simp only [strsOf] at h <;> try cases h
    cases hb : strsOf ps with
    | none => rw [hb] at h; cases h
    | some bs' =>
      rw [hb] at h
      cases h
      rw [Rep.str_inv r, Reps.strs rs hb]
      rfl
theorem reps_strs (F : Hp) : ∀ bs : List Str, Reps G K F (bs.map V.str) (bs.map PV.str)
  | [] => .nil
  | b :: bs => .cons (.str b) (reps_strs F bs)
theorem strsOf_map (bs : List Str) : strsOf (bs.map PV.str) = some bs := by
  induction bs with
  | nil => rfl
  | cons b bs ih => rw [List.map_cons, strsOf, ih]; rfl
/-! sep.join(..) -/
def joinOk (S : Str) (ps : List PV) : Option PV := match strsOf ps with
  | some ys => if (ys.map (·.length)).sum + ys.length * S.length ≤ 1000000 then some (.str (Txt.join S ys)) else none
  | none => none
def pJoin (S : Str) : PV → Option PV
  | .lst ps => joinOk S ps
  | .tup ps => joinOk S ps
  | _ => none
def rJn (K : PySem.W.Frag) (S : Str) : V → Hp → VK → Prop := fun y H Q => ∃ a p, ∃ ys : List Str, V.str S = .str a ∧ [y] = [.ref p] ∧ (SqL K H p (ys.map V.str) ∨ SqT K H p (ys.map V.str)) ∧ (ys.map (·.length)).sum + ys.length * a.length ≤ 16777216 ∧ Q (.str (Txt.join a ys)) H
theorem joinOk_some {S : Str} {ps : List PV} {z : PV} (h : joinOk S ps = some z) : ∃ ys, strsOf ps = some ys ∧ (ys.map (·.length)).sum + ys.length * S.length ≤ 1000000 ∧ z = .str (Txt.join S ys) := by
  unfold joinOk at h
  split at h
  · rename_i ys hy
    split at h
    · rename_i hl
      cases h
      exact ⟨ys, hy, hl, rfl⟩
    · cases h
  · cases h
theorem g_join (S : Str) : UnV G K (rJn K S) .sh (pJoin S) := by
  intro F H x p z Q s r hz k
  unfold pJoin at hz
  split at hz
  · obtain ⟨ys, hy, hl, rfl⟩ := joinOk_some hz
    obtain ⟨a, vs, rfl, h, rr⟩ := r.lst_inv s
    rw [rr.strs hy] at h
    exact ⟨S, a, ys, rfl, rfl, .inl (.inl h), by omega, k _ F H (Ext.refl s) (.str _)⟩
  · obtain ⟨ys, hy, hl, rfl⟩ := joinOk_some hz
    obtain ⟨a, vs, rfl, h, rr⟩ := r.tup_inv s
    rw [rr.strs hy] at h
    exact ⟨S, a, ys, rfl, rfl, .inr h, by omega, k _ F H (Ext.refl s) (.str _)⟩
  · cases hz
theorem v_join {S : Str} {j : Nat} {p1 : Pos} (he : PE X e (tE G X.K .top E κ f)) (hs : starEach [e] X.env = [(false, eval e X.env)] := by rfl)
    (hbase : attributeBase (.Constant (.str S) j p1) "join" X.env (eval (.Constant (.str S) j p1) X.env) = eval (.Constant (.str S) j p1) X.env := by rfl) (hline : (apos.endLine == pos.line) = true := by rfl) :
    PE X (.Call (.Attribute (.Constant (.str S) j p1) "join" apos) [e] [] pos) (tE G X.K .sh E κ (e1 (pJoin S) f)) :=
  pe_weak (pe_join pe_str he hs hbase hline) fun σ H Q h => ⟨⟨_, rfl⟩, w_un (g_join S) h⟩
end
end Lp
end
section
set_option Elab.async false
set_option linter.all false
set_option maxRecDepth 100000
/-! texts in Python's order -/
namespace Lp
open PySem PySem.Spec L2
def leS (a b : Str) : Bool := !PySem.Spec.ltCps b.cps.toList a.cps.toList
theorem leS_iff (a b : Str) : leS a b = true ↔ a.cps.toList ≤ b.cps.toList := by
  unfold leS
  rw [PyProof.Rows.ltCps_eq]
  simp
theorem leS_trans {a b c : Str} (h : leS a b = true) (k : leS b c = true) : leS a c = true := by
  rw [leS_iff] at *
  exact List.le_trans h k
theorem leS_total (a b : Str) : leS a b = true ∨ leS b a = true := by
  rw [leS_iff, leS_iff]
  exact List.le_total _ _
theorem leS_anti {a b : Str} (h : leS a b = true) (k : leS b a = true) : a = b := by
  rw [leS_iff] at *
  have := List.le_antisymm h k
  cases a; cases b
  simp only [Str.mk.injEq]
  exact Array.toList_inj.mp this
def insS (x : Str) : List Str → List Str
  | [] => [x]
  | y :: r => if leS x y = true then x :: y :: r else y :: insS x r
def srt : List Str → List Str
  | [] => []
  | x :: r => insS x (srt r)
theorem insS_perm (x : Str) : ∀ l : List Str, (insS x l).Perm (x :: l)
  | [] => List.Perm.refl _
  | y :: r => by
    unfold insS
    split
    · exact List.Perm.refl _
    · exact ((insS_perm x r).cons y).trans (List.Perm.swap x y r)
theorem srt_perm : ∀ l : List Str, (srt l).Perm l
  | [] => List.Perm.refl _
  | x :: r => (insS_perm x _).trans ((srt_perm r).cons x)
theorem insS_sorted (x : Str) : ∀ l : List Str, l.Pairwise (fun a b => leS a b = true) → (insS x l).Pairwise fun a b => leS a b = true
  | [], _ => by simp [insS]
  | y :: r, h => by
    unfold insS
    have hc := List.pairwise_cons.mp h
    split
    · rename_i hx
      refine List.pairwise_cons.mpr ⟨fun z hz => ?_, h⟩
      rcases List.mem_cons.mp hz with rfl | hz
      · exact hx
      · exact leS_trans hx (hc.1 z hz)
    · rename_i hx
      have hy : leS y x = true := (leS_total y x).resolve_right fun z => hx z
      refine List.pairwise_cons.mpr ⟨fun z hz => ?_, insS_sorted x r hc.2⟩
      rcases List.mem_cons.mp ((insS_perm x r).subset hz) with rfl | hz
      · exact hy
      · exact hc.1 z hz
theorem srt_sorted : ∀ l : List Str, (srt l).Pairwise fun a b => leS a b = true
  | [] => .nil
  | x :: r => insS_sorted x _ (srt_sorted r)
theorem pairwise_rising : ∀ (l : List Str) (p : Str), PyProof.Rows.risingS p l = true → (p :: l).Pairwise fun a b => leS a b = true
  | [], p, _ => by simp
  | x :: r, p, h => by
    simp only [PyProof.Rows.risingS, Bool.and_eq_true] at h
    have ih := pairwise_rising r x h.2
    refine List.pairwise_cons.mpr ⟨fun z hz => ?_, ih⟩
    rcases List.mem_cons.mp hz with rfl | hz
    · exact h.1
    · exact leS_trans (b := x) h.1 ((List.pairwise_cons.mp ih).1 z hz)
theorem pairwise_sorted : ∀ l : List Str, PyProof.Rows.sortedS l = true → l.Pairwise fun a b => leS a b = true
  | [], _ => .nil
  | x :: r, h => pairwise_rising r x h
theorem srt_only {xs ys : List Str} (hp : ys.Perm xs) (hs : PyProof.Rows.sortedS ys = true) : ys = srt xs :=
  List.Perm.eq_of_pairwise (fun a b _ _ h k => leS_anti h k) (pairwise_sorted ys hs) (srt_sorted xs) (hp.trans (srt_perm xs).symm)
/-- the order asks for the names alone -/
theorem srt_eq {xs ys : List Str} : srt xs = srt ys ↔ xs.Perm ys := by
  constructor
  · intro h
    exact (srt_perm xs).symm.trans (h ▸ srt_perm ys)
  · intro h
    exact List.Perm.eq_of_pairwise (fun a b _ _ h k => leS_anti h k) (srt_sorted xs) (srt_sorted ys) ((srt_perm xs).trans (h.trans (srt_perm ys).symm))
section
variable {G : Nat → Addr} {K : PySem.W.Frag} {F H F' H' F0 H0 : Hp} {X : Cx} {κ : Kd} {E : L2.St → XK} {m : Mode} {e o : Expr} {es : List Expr} {f fo : LE → Res PV} {pos apos cpos : Pos}
/-! sorted(..) of texts -/
def pSort : List PV → Option PV
  | [.lst ps] => match strsOf ps with
    | some ys => if ys.length < 64 then some (.lst ((srt ys).map .str)) else none
    | none => none
  | _ => none
theorem g_sortS : CalV G K (rSortedS K) .fr pSort := by
  intro F H xs ps z Q s r hz k
  unfold pSort at hz
  split at hz
  · split at hz
    · rename_i ys hy
      split at hz
      · rename_i hl
        cases hz
        obtain ⟨v, rfl, rv⟩ := r.one
        obtain ⟨a, vs, rfl, h, rr⟩ := rv.lst_inv s
        have e := rr.strs hy
        subst e
        refine ⟨a, ys, rfl, .inl h, hl, fun zs p hp hs np => ?_⟩
        rw [srt_only hp hs]
        obtain ⟨e, f⟩ := frs_new s np (reps_strs (G := G) (K := K) F (srt ys))
        exact k _ _ _ e f
      · cases hz
    · cases hz
  · cases hz
/-! list(d) -/
def keyPV : Key → PV
  | .inl i => .int i
  | .inr x => .str x
def pListD : List PV → Option PV
  | [.dK ps] => some (.lst (ps.map fun kv => keyPV kv.1))
  | _ => none
theorem RepK.keys : ∀ {vs : List (Key × V)} {ps : List (Key × PV)}, RepK G K F vs ps → Reps G K F (vs.map fun kv => kV kv.1) (ps.map fun kv => keyPV kv.1)
  | _, _, .nil => .nil
  | _, _, .cons (k := k) r rs => .cons (by cases k <;> constructor) (RepK.keys rs)
theorem g_listD : CalV G K (fun xs H Q => ∃ (a : Addr) (kvs : List (Key × V)), xs = [.ref a] ∧ Rd H a (.dK kvs) ∧ ∀ p, H p = none → Q (.ref p) (upd H p (.lst (kvs.map fun kv => kV kv.1)))) .fr pListD := by
  intro F H xs ps z Q s r hz k
  unfold pListD at hz
  split at hz
  · cases hz
    obtain ⟨v, rfl, rv⟩ := r.one
    obtain ⟨a, vs, rfl, h, rr⟩ := rv.dK_inv s
    refine ⟨a, vs, rfl, .inl h, fun l nl => ?_⟩
    obtain ⟨e, f⟩ := frs_new s nl rr.keys
    exact k _ _ _ e f
  · cases hz
end
end Lp
end
section
set_option Elab.async false
set_option linter.all false
set_option maxRecDepth 100000
/-! a method of a list within a method of another one -/
namespace Lp
open PySem PySem.Spec L2
section
variable {G : Nat → Addr} {K : PySem.W.Frag} {F H F' H' F0 H0 : Hp} {X : Cx} {κ : Kd} {E : L2.St → XK} {m : Mode} {e o : Expr} {pos apos cpos : Pos} {name : Str} {id : String} {r : V → List V → Hp → VK → Prop} {g : List PV → List PV → Option (List PV × PV)} {x' : Str} {fi : LE → Res (PV × LE)}
def kMutM (i : Nat) (g : List PV → List PV → Option (List PV × PV)) (r : PV × LE) : Res (PV × LE) := match r.2[i]? with
  | some (some (.lst ps)) => match g ps [r.1] with
    | some (ps', z) => .ok (z, r.2.set i (some (.lst ps')))
    | none => .bad
  | _ => .bad
def eMutM (i : Nat) (g : List PV → List PV → Option (List PV × PV)) (fi : LE → Res (PV × LE)) : LE → Res (PV × LE) := fun τ => match τ[i]? with
  | some (some (.lst _)) => fi τ >>= kMutM i g
  | _ => .bad
theorem w_mutM {i : Nat} (k : κ i = true) (hg : MutV r G K g) {σ : L2.St} {H : Hp} {Q : VK}
    (h : tM (G := G) (K := K) E κ (eMutM i g fi) σ H Q) : tBM K "list" r (tVar i) (tCons (tM (G := G) (K := K) E κ fi) tNil) σ H Q := by
  obtain ⟨F0, H0, F, τ, zs, l, q⟩ := h
  have hτ : (∃ ps, τ[i]? = some (some (.lst ps))) ∨ eMutM i g fi τ = .bad := by
    unfold eMutM
    split
    · rename_i ps hp; exact .inl ⟨ps, hp⟩
    · exact .inr rfl
  rcases hτ with ⟨ps, ht⟩ | hb
  case inr => rw [hb] at q; exact q.elim
  obtain ⟨a, e1, hF, vs, hH, rr⟩ := l.lc.ow i _ ht k
  refine ⟨.ref a, e1, .inl ⟨rfl, vs, .inl (.inl hH)⟩, F0, H0, F, τ, zs, l, ?_⟩
  unfold eMutM at q
  simp only [ht] at q
  cases hf : fi τ with
  | bad => rw [hf] at q; exact q.elim
  | exc c ps => rw [hf] at q; exact q
  | ok w =>
    rw [hf, Res.ok_bind] at q
    intro v F1 H1 l1 r1
    show r (.ref a) [v] H1 Q
    have hw : (∃ ps2, w.2[i]? = some (some (.lst ps2))) ∨ kMutM i g w = .bad := by
      unfold kMutM
      split
      · rename_i ps2 hp; exact .inl ⟨ps2, hp⟩
      · exact .inr rfl
    rcases hw with ⟨ps2, ht2⟩ | hb
    case inr => rw [hb] at q; exact q.elim
    unfold kMutM at q
    simp only [ht2] at q
    obtain ⟨a2, e2, hF2, vs2, hH2, rr2⟩ := l1.lc.ow i _ ht2 k
    have ha : a2 = a := by
      rw [e1] at e2
      simpa using e2.symm
    subst ha
    cases hz : g ps2 [w.1] with
    | none => rw [hz] at q; exact q.elim
    | some pz =>
      obtain ⟨ps', z⟩ := pz
      rw [hz] at q
      exact hg F1 H1 a2 vs2 ps2 [v] [w.1] ps' z Q l1.lc.sub hH2 rr2 (.cons r1 .nil) hz fun v2 vs' r2 r3 => q v2 F1 _ (l1.write k ht2 e2 ⟨vs', upd_same, r2⟩) r3
theorem m_listM (i : Nat) (slot : PySem.Slot "list" name id) (hty : typeOf (.builtin id) = pure (.type "method_descriptor")) (hm : MtR X id r) (hg : MutV r G X.K g) (hi : PE X e (tM (G := G) (K := X.K) E κ fi)) (k : κ i = true := by rfl) (hN : X.N[i]? = some x' := by rfl)
    (hv : Vis X.env.scope x' := by first | exact Or.inl rfl | exact Or.inr (Or.inl rfl) | exact Or.inr (Or.inr rfl)) (hd : (x' == ("__debug__" : Str)) = false := by decide) (hcd : (x' == ("__classdict__" : Str)) = false := by decide)
    (hbase : attributeBase (.Name x' pos) name X.env (eval (.Name x' pos) X.env) = eval (.Name x' pos) X.env := by rfl)
    (hfew : ((backTo cpos (starEach [e] X.env)).all (fun x => !x.1) && (backToKw cpos (keywordEach [] X.env)).all (fun x => x.1.isSome)
      && decide (([e] : List Expr).length + ([] : List Keyword).length + (if ([] : List Keyword).isEmpty then 0 else 1) < 30)) = true := by rfl)
    (hline : (apos.endLine == cpos.line) = true := by rfl) (hs : starEach [e] X.env = (false, eval e X.env) :: starEach [] X.env := by rfl) (hplain : (backTo cpos (starEach [] X.env)).any (·.1) = false := by rfl) :
    PE X (.Call (.Attribute (.Name x' pos) name apos) [e] [] cpos) (tM (G := G) (K := X.K) E κ (eMutM i g fi)) :=
  pe_weak (pe_bm F.plainAttrs_list slot hty hm (pe_var hN hv hd hcd) (pa_cons hi pa_nil hs) hbase hfew hline hs hplain) fun _ _ _ h => w_mutM k hg h
end
end Lp
end
section
set_option Elab.async false
set_option linter.all false
set_option maxRecDepth 100000
/-! range(n) held by a name -/
namespace Lt
open PySem PySem.Spec PyProof.Rows L2
section
variable {X : Cx} {tg : Expr}
theorem cr_range1 : CallR X (.type "range") (fun vs H Q => ∃ j : Int, vs = [V.int j] ∧ ∀ p, H p = none → Q (.ref p) (upd H p (.rng 0 j))) := by
  intro pins s σ H vs us Q I r h
  obtain ⟨j, rfl, q⟩ := h
  obtain ⟨u1, rfl, ri⟩ := vals1 r
  obtain ⟨t, rfl⟩ := ri
  refine call_range_1 ⟨.ref s.heap.objs.size, upd H s.heap.objs.size (.rng 0 j), I.laid (t' := s.toks + 1 + 1) (fun b o e => Heap.get?_push_of_some _ e) (Nat.le_refl _) ?_, rfl, q _ (I.hok.fresh (Nat.le_refl _))⟩
  exact ⟨_, _, _, Heap.get?_push_size _ rfl⟩
def iRngV (tl : TE) : TI := fun σ H R => tl σ H fun x H1 => ∃ (a : Addr) (n : Nat), x = .ref a ∧ H1 a = some (.rng 0 (n : Int)) ∧ n ≤ 1000000 ∧ R (Itr 0 n) H1
theorem pi_rngV {l : Expr} {tl : TE} (hl : PE X l tl) : PI X tg l (iRngV tl) := by
  refine ⟨fun pins s σ H R I h => ?_⟩
  refine thn (hl.run pins s σ H _ I h) fun v s1 ⟨x, H1, I1, r1, q1⟩ => ?_
  obtain ⟨a, n, rfl, ha, hn, q⟩ := q1
  cases r1
  obtain ⟨t, u, w, hob⟩ := I1.hok a _ ha
  refine wpAny_pyIter_range (show IsRange s1.heap a 0 (n : Int) 1 t u w from hob) (small_one (by omega) (by omega) (by omega) (by omega)) ?_
  refine ⟨s1.heap.objs.size, [s1.heap.objs.size], _, _, H1, rfl, I1.kept (t' := s1.toks) fun b o e => Heap.get?_push_of_some _ e, turn_range s1.heap.objs.size 0 n, ?_, fun b hb => ?_, q⟩
  · have e1 : (0 : Int) + ((0 : Nat) : Int) * 1 = 0 := by simp
    have e2 : ((n : Nat) : Int) - ((0 : Nat) : Int) = Builtin.Range.rangeSize 0 (n : Int) 1 := by rw [rangeSize_one]; split <;> omega
    show IsRangeIter _ _ ((0 : Int) + ((0 : Nat) : Int) * 1) (((n : Nat) : Int) - ((0 : Nat) : Int)) 1
    rw [e1, e2]
    exact Heap.get?_push_size _ rfl
  · have e : b = s1.heap.objs.size := by simpa using hb
    subst e
    exact I1.fpOk (Nat.le_refl _) (I1.hok.fresh (Nat.le_refl _))
end
end Lt
namespace Lp
open PySem PySem.Spec L2
section
variable {G : Nat → Addr} {K : PySem.W.Frag} {X : Cx} {κ : Kd} {E : L2.St → XK} {e tg : Expr} {f : LE → Res PV}
def pRng : List PV → Option PV
  | [.int i] => if 0 ≤ i ∧ i ≤ 1000000 then some (.rng i.toNat) else none
  | _ => none
theorem g_rng : CalV G K (fun vs H Q => ∃ j : Int, vs = [V.int j] ∧ ∀ p, H p = none → Q (.ref p) (upd H p (.rng 0 j))) .sh pRng := by
  intro F H xs ps z Q s r hz k
  unfold pRng at hz
  split at hz
  · split at hz
    · rename_i i hi
      cases hz
      obtain ⟨v, rfl, rv⟩ := r.one
      obtain rfl := rv.int_inv
      refine ⟨i, rfl, fun p np => ?_⟩
      refine k (.ref p) (upd F p (.rng 0 i)) _ (Ext.push _ (Ext.refl s) np) ?_
      have e : ((i.toNat : Nat) : Int) = i := by omega
      exact .rng (by rw [e]; exact upd_same)
    · cases hz
  · cases hz
def kRng : PV → Res (List PV)
  | .rng n => if n ≤ 1000000 then .ok ((List.range n).map fun i => .int (i : Nat)) else .bad
  | _ => .bad
def iRng (f : LE → Res PV) : LE → Res (List PV) := fun τ => f τ >>= kRng
theorem i_rng (h : PE X e (tE G X.K .sh E κ f)) : PI X tg e (tI G X.K true E κ (iRng f)) := pi_weak (Lt.pi_rngV h) fun σ H R ⟨F, τ, l, q⟩ => by
  refine ⟨F, τ, l, ?_⟩
  unfold iRng at q
  cases hf : f τ with
  | exc c ps => rw [hf] at q; exact q
  | bad => rw [hf] at q; exact q
  | ok p =>
    rw [hf, Res.ok_bind] at q
    intro v F1 H1 e1 r1
    cases p with
    | rng n =>
      obtain ⟨a, rfl, ha⟩ := Rep.rng_inv r1
      unfold kRng at q
      by_cases hn : n ≤ 1000000
      · simp only [if_pos hn] at q
        refine ⟨a, n, rfl, e1.sub _ _ ha, hn, q _ F1 H1 e1 ?_⟩
        have := Itp.range (G := G) (K := X.K) (B := F1) (F0 := F1) (lo := 0) (n := n) (by rw [sizeLine_eq]; omega)
        simpa using this
      · simp only [if_neg hn] at q
    | _ => exact q.elim
end
end Lp
end
section
set_option Elab.async false
set_option linter.all false
set_option maxRecDepth 100000
/-! a method of a tuple that was made: t.index(x) -/
namespace Lk
open PySem PySem.Spec PyProof.Rows L2 Lp
section
variable {X : Cx} {o e : Expr} {es : List Expr} {to : TE} {t : TA} {name : Str} {apos cpos : Pos} {id : String} {r : V → List V → Hp → VK → Prop}
def tyK (K : PySem.W.Frag) (x : V) (H : Hp) : Prop := ∃ p xs, x = .ref p ∧ KT K H p xs
theorem tyK_is {pins : List (Addr × Obj)} {σ : L2.St} {H : Hp} {s : Shared} {x : V} {v : Value} (I : L2.Inv X pins σ H s) (rx : RelV x v) (ty : tyK X.K x H) :
    s.TypeIs v "tuple" ∧ ∀ a, v = .ref a → ∃ ob, s.heap.get? a = some ob ∧ ob.dict = none := by
  obtain ⟨p, xs, rfl, ty⟩ := ty
  cases rx
  rcases ty with ⟨ob, h, ko⟩ | ⟨ob, _, _, h, ko, _⟩
  · have e := (I.hok p _ h).1
    exact ⟨⟨ob, e, ko.1⟩, fun a ea => by cases ea; exact ⟨ob, e, ko.2⟩⟩
  · have e := I.kIn p ob h
    exact ⟨⟨ob, e, ko.1⟩, fun a ea => by cases ea; exact ⟨ob, e, ko.2⟩⟩
def tBMK (K : PySem.W.Frag) (r : V → List V → Hp → VK → Prop) (to : TE) (t : TA) : TE := fun σ H Q => to σ H fun x H1 => tyK K x H1 ∧ t σ H1 fun xs H2 => r x xs H2 Q
theorem pe_bmK (slot : PySem.Slot "tuple" name id) (hty : typeOf (.builtin id) = pure (.type "method_descriptor")) (hm : MtR X id r) (ho : PE X o to) (ha : PA X (e :: es) t)
    (hbase : attributeBase o name X.env (eval o X.env) = eval o X.env := by rfl)
    (hfew : ((backTo cpos (starEach (e :: es) X.env)).all (fun x => !x.1) && (backToKw cpos (keywordEach [] X.env)).all (fun x => x.1.isSome)
      && decide ((e :: es).length + ([] : List Keyword).length + (if ([] : List Keyword).isEmpty then 0 else 1) < 30)) = true := by rfl)
    (hline : (apos.endLine == cpos.line) = true := by rfl) (hs : starEach (e :: es) X.env = (false, eval e X.env) :: starEach es X.env := by rfl) (hplain : (backTo cpos (starEach es X.env)).any (·.1) = false := by rfl) :
    PE X (.Call (.Attribute o name apos) (e :: es) [] cpos) (tBMK X.K r to t) :=
  ⟨fun pins s σ H Q I h => wpAny_Call_method_late hbase hfew hline rfl (thn (ho.run pins s σ H _ I h) fun v s1 ⟨x, H1, I1, r1, ty, q1⟩ => by
    have hA := ha.run cpos pins s1 σ H1 _ I1 q1
    rw [hs] at hA ⊢
    refine ⟨"tuple", id, PySem.F.plainAttrs_tuple, slot, hty, (tyK_is I1 r1 ty).1, (tyK_is I1 r1 ty).2, Calls.callWith_builtin ?_ (Calls.evalArgs_plain ?_)⟩
    · show (false || (backTo cpos (starEach es X.env)).any (·.1)) = false
      rw [hplain]; rfl
    · exact thn hA fun us s2 ⟨vs, H2, I2, r2, q2⟩ => hm pins s2 σ H2 x vs v us Q I2 r1 r2 q2)⟩
end
end Lk
namespace Lp
open PySem PySem.Spec L2
section
variable {G : Nat → Addr} {K : PySem.W.Frag} {X : Cx} {κ : Kd} {E : L2.St → XK} {e o : Expr} {f g : LE → Res PV} {apos cpos : Pos}
def pIndex : PV → PV → Option PV
  | .tup ps, .str z => match strsOf ps with
    | some ys => (ys.findIdx? fun y => decide (y = z)).map fun j => .int (j : Nat)
    | none => none
  | _, _ => none
def kIdx (r : Res PV) : PV → Res PV
  | .tup ps => r >>= fun z => up (pIndex (.tup ps) z)
  | _ => .bad
def eIdx (f g : LE → Res PV) : LE → Res PV := fun τ => f τ >>= kIdx (g τ)
theorem findIdx_first {α : Type} {p : α → Bool} : ∀ {l : List α} {i : Nat}, l.findIdx? p = some i → (∃ a, l[i]? = some a ∧ p a = true) ∧ ∀ m, m < i → ∀ a, l[m]? = some a → p a = false
  | [], i, h => by simp at h
  | a :: l, i, h => by
    rw [List.findIdx?_cons] at h
    by_cases hp : p a = true
    · rw [if_pos hp] at h
      cases h
      exact ⟨⟨a, rfl, hp⟩, fun m hm => by omega⟩
    · rw [if_neg hp] at h
      cases hq : l.findIdx? p with
      | none => rw [hq] at h; cases h
      | some j =>
        rw [hq] at h
        cases h
        obtain ⟨h1, h2⟩ := findIdx_first hq
        refine ⟨by simpa using h1, fun m hm b hb => ?_⟩
        cases m with
        | zero => cases hb; simpa using hp
        | succ m =>
          have hm : m + 1 < j + 1 := hm
          exact h2 m (by omega) b (by simpa using hb)
theorem v_index (ho : PE X o (tE G X.K .sh E κ f)) (he : PE X e (tE G X.K .sh E κ g))
    (hbase : attributeBase o "index" X.env (eval o X.env) = eval o X.env := by rfl)
    (hfew : ((backTo cpos (starEach [e] X.env)).all (fun x => !x.1) && (backToKw cpos (keywordEach [] X.env)).all (fun x => x.1.isSome)
      && decide ([e].length + ([] : List Keyword).length + (if ([] : List Keyword).isEmpty then 0 else 1) < 30)) = true := by rfl)
    (hline : (apos.endLine == cpos.line) = true := by rfl) (hs : starEach [e] X.env = [(false, eval e X.env)] := by rfl) :
    PE X (.Call (.Attribute o "index" apos) [e] [] cpos) (tE G X.K .sh E κ (eIdx f g)) :=
  pe_weak (Lk.pe_bmK PySem.F.slot_tuple_index PySem.F.type_tuple_index mt_tup_index ho (pa_cons he pa_nil hs) hbase hfew hline hs rfl) fun σ H Q ⟨F, τ, l, q⟩ => by
    refine ⟨F, τ, l, ?_⟩
    unfold eIdx at q
    cases hf : f τ with
    | exc c ps => rw [hf] at q; exact q
    | bad => rw [hf] at q; exact q
    | ok p =>
      rw [hf, Res.ok_bind] at q
      intro v F1 H1 e1 r1
      cases p with
      | tup ps =>
        unfold kIdx at q
        dsimp only at q
        obtain ⟨a, vs, rfl, hk, rr⟩ := Rep.tup_invK (show Rep G X.K F1 v (.tup ps) from r1)
        refine ⟨⟨a, vs, rfl, Same.kt e1.sub hk⟩, F1, τ, l.ext e1, ?_⟩
        cases hg : g τ with
        | exc c ps => rw [hg, Res.exc_bind] at q; exact ExcOk.ext q e1
        | bad => rw [hg, Res.bad_bind] at q; exact q
        | ok z =>
          rw [hg, Res.ok_bind] at q
          intro w F2 H2 e2 r2
          cases z with
          | str z =>
            obtain rfl := Rep.str_inv (show Rep G X.K F2 w (.str z) from r2)
            unfold pIndex at q
            dsimp only at q
            cases hy : strsOf ps with
            | none => rw [hy] at q; exact q.elim
            | some ys =>
              rw [hy] at q
              dsimp only at q
              cases hi : ys.findIdx? fun y => decide (y = z) with
              | none => rw [hi] at q; exact q.elim
              | some j =>
                rw [hi] at q
                obtain ⟨⟨y, h1, h2⟩, h3⟩ := findIdx_first hi
                have hvs := rr.strs hy
                rw [hvs] at hk
                refine ⟨a, ys, z, j, rfl, rfl, Same.sqt (e1.sub.trans e2.h) hk.sqt, ?_, fun m hm hz => ?_, q _ F2 H2 (e1.trans e2) (.int _)⟩
                · rw [h1, of_decide_eq_true h2]
                · have := h3 m hm z hz
                  simp at this
          | _ => exact q.elim
      | _ => exact q.elim
end
end Lp
end
section
set_option Elab.async false
set_option linter.all false
set_option maxRecDepth 100000
set_option maxHeartbeats 4000000
namespace K10
open PySem PySem.Spec L2 Lp
abbrev c_YardError : Nat := 0
abbrev c_InvalidYard : Nat := 1
abbrev c_InvalidDay : Nat := 2
abbrev c_InvalidNumber : Nat := 3
abbrev c_UnknownBox : Nat := 4
abbrev c_Yard : Nat := 5
abbrev c_Day : Nat := 6
/-! _law_draws: 0 _law_script, 1 _law_k, 2 _law_bounds, 3 _law_cell, 4 _law_rest, 5 _law_drawn, 6 _law_j, 7 _law_mixed -/
def κ__law_draws : Kd := fun i => i == 5
def lb__law_draws_0 : LE → Fl := (sIf (tst (e2 pGt (eVar 4) (eC (.int 0)))) (sSeq (sExprM (eMut 5 gApp (aCons (e2 pMod (eCall pInt (aCons (eVar 4) aNil)) (e2 pIx (eVar 2) (eVar 6))) aNil)))
    (sSet 4 (e2 pDivW (eVar 4) (e2 pIx (eVar 2) (eVar 6))))) (sSeq (sSet 7 (e2 pMod (eCall pInt (aCons (e2 pAddA (e2 pAddA (e2 pAddA (e2 pMul (eVar 3) (eC (.int 48271))) (e2 pMul (eVar 1) (eC (.int 69621)))) (e2 pMul (eVar 6) (eC (.int 40692)))) (eC (.int 12345))) aNil)) (eC (.int 2147483647))))
    (sSeq (sSet 7 (e2 pMod (eCall pInt (aCons (e2 pAddA (e2 pAddA (e2 pMul (eVar 7) (eVar 7)) (e2 pMul (eVar 6) (eC (.int 16807)))) (eC (.int 271))) aNil)) (eC (.int 2147483563))))
    (sSeq (sSet 7 (e2 pMod (eCall pInt (aCons (e2 pAddA (e2 pAddA (e2 pMul (eVar 7) (eVar 7)) (e2 pMul (eVar 7) (eC (.int 39373)))) (eC (.int 7))) aNil)) (eC (.int 2147483399))))
    (sExprM (eMut 5 gApp (aCons (e2 pMod (e2 pDiv (eVar 7) (eC (.int 16))) (e2 pIx (eVar 2) (eVar 6))) aNil)))))))
def b__law_draws : LE → Fl := (sSeq (sSet 3 (eC (.int 0)))
    (sSeq (sSet 4 (eC (.int 0)))
    (sSeq (sIf (tst (e2 pLt (eVar 1) (eCall pLen (aCons (eVar 0) aNil)))) (sSeq (sSet 3 (eCall pInt (aCons (e2 pIx (eVar 0) (eVar 1)) aNil)))
    (sSet 4 (eCall pMax (aCons (eC (.int 0)) (aCons (e2 pSub (eVar 3) (e2 pPow (eC (.int 10)) (eC (.int 18)))) aNil))))) (sIf (tst (e2 pGt (eCall pLen (aCons (eVar 0) aNil)) (eC (.int 0)))) (sSet 3 (eCall pInt (aCons (e2 pIx (eVar 0) (e2 pMod (eCall pInt (aCons (eVar 1) aNil)) (eCall pLen (aCons (eVar 0) aNil)))) aNil))) sNil))
    (sSeq (sSet 5 (eLst aNil))
    (sSeq (sFor (iFn pR1 (aCons (eCall pLen (aCons (eVar 2) aNil)) aNil)) (gNm 6) lb__law_draws_0)
    (sRet (eVar 5)))))))
def m__law_draws (a0 a1 a2 : PV) : Res PV := fin .sh (b__law_draws [some a0, some a1, some a2, none, none, none, none, none])
/-! _law_pool: 0 _law_script, 1 _law_k, 2 _law_size, 3 _law_drawn, 4 _law_length, 5 _law_step, 6 _law_place, 7 _law_pool_here, 8 _law_j, 9 _law_number, 10 _law_word -/
def κ__law_pool : Kd := fun i => i == 7
def lb__law_pool_0 : LE → Fl := (sSet 5 (e2 pMul (eC (.int 26)) (eVar 5)))
def lb__law_pool_1 : LE → Fl := (sSeq (sSet 10 (e2 pAddA (eVar 10) (e2 pIx (eC (.str ("abcdefghijklmnopqrstuvwxyz" : Str))) (e2 pMod (eCall pInt (aCons (eVar 9) aNil)) (eC (.int 26))))))
    (sSet 9 (e2 pDiv (eVar 9) (eC (.int 26)))))
def lb__law_pool_2 : LE → Fl := (sSeq (sSet 9 (e2 pAddA (e2 pIx (eVar 3) (eC (.int 1))) (e2 pMul (e2 pDiv (eVar 8) (eC (.int 2))) (eVar 5))))
    (sSeq (sSet 10 (eC (.str ("" : Str))))
    (sSeq (sFor (iFn pR1 (aCons (eVar 4) aNil)) (gNm 6) lb__law_pool_1)
    (sExprM (eMut 7 gApp (aCons (e2 pAddA (eVar 10) (e2 pMulA (eC (.str ("z" : Str))) (e2 pMod (eCall pInt (aCons (eVar 8) aNil)) (eC (.int 2))))) aNil))))))
def b__law_pool : LE → Fl := (sSeq (sSet 3 (eFn (ar3 m__law_draws) (aCons (eVar 0) (aCons (eVar 1) (aCons (eLst (aCons (eC (.int 7)) (aCons (e2 pPow (eC (.int 26)) (eC (.int 8))) (aCons (eC (.int 9)) (aCons (eC (.int 7)) aNil))))) aNil)))))
    (sSeq (sSet 4 (e2 pAddA (eC (.int 1)) (e2 pIx (eVar 3) (eC (.int 0)))))
    (sSeq (sSet 5 (e2 pAddA (eC (.int 1)) (e2 pIx (eVar 3) (eC (.int 2)))))
    (sSeq (sFor (iFn pR1 (aCons (e2 pMod (eCall pInt (aCons (e2 pIx (eVar 3) (eC (.int 3))) aNil)) (eVar 4)) aNil)) (gNm 6) lb__law_pool_0)
    (sSeq (sSet 7 (eLst aNil))
    (sSeq (sFor (iFn pR1 (aCons (eVar 2) aNil)) (gNm 8) lb__law_pool_2)
    (sRet (eVar 7))))))))
def m__law_pool (a0 a1 a2 : PV) : Res PV := fin .sh (b__law_pool [some a0, some a1, some a2, none, none, none, none, none, none, none, none])
/-! _law_stacked: 0 _law_order, 1 _law_places, 2 _law_count, 3 _law_height, 4 _law_stacks, 5 _law_k, 6 _law_put, 7 _law_turn, 8 _law_i, 9 _law_at -/
def κ__law_stacked : Kd := fun i => i == 4
def lc__law_stacked_0 : LE → Res PV := (eComp [8] (iFn pR1 (aCons (eVar 2) aNil)) (gNm 8) tYesM (eTup aNil))
def lb__law_stacked_1 : LE → Fl := (sSeq (sSet 9 (e2 pMod (eCall pInt (aCons (e2 pAddA (e2 pIx (eVar 1) (eVar 5)) (eVar 7)) aNil)) (eVar 2)))
    (sIf (tAndM (tNotM (tstV (eVar 6))) (tst (e2 pLt (eCall pLen (aCons (e2 pIx (eVar 4) (eVar 9)) aNil)) (eVar 3)))) (sSeq (sSetI 4 (eVar 9) (e2 pAddA (e2 pIx (eVar 4) (eVar 9)) (eTup (aCons (e2 pIx (eVar 0) (eVar 5)) aNil))))
    (sSet 6 (eC (.bl true)))) sNil))
def lb__law_stacked_2 : LE → Fl := (sSeq (sSet 6 (eC (.bl false)))
    (sSeq (sFor (iFn pR1 (aCons (eVar 2) aNil)) (gNm 7) lb__law_stacked_1)
    (sIf (tNotM (tstV (eVar 6))) (sRet (eC .non)) sNil)))
def b__law_stacked : LE → Fl := (sSeq (sSet 4 lc__law_stacked_0)
    (sSeq (sFor (iFn pR1 (aCons (eCall pLen (aCons (eVar 0) aNil)) aNil)) (gNm 5) lb__law_stacked_2)
    (sRet (eCall pTuple (aCons (eVar 4) aNil)))))
def m__law_stacked (a0 a1 a2 a3 : PV) : Res PV := fin .sh (b__law_stacked [some a0, some a1, some a2, some a3, none, none, none, none, none, none])
/-! _law_yard: 0 _law_script, 1 _law_k, 2 _law_pool_here, 3 _law_count, 4 _law_height, 5 _law_most, 6 _law_drawn, 7 _law_size, 8 _law_turn, 9 _law_names -/
def κ__law_yard : Kd := fun i => false
def b__law_yard : LE → Fl := (sSeq (sSet 6 (eFn (ar3 m__law_draws) (aCons (eVar 0) (aCons (eVar 1) (aCons (e2 pAddA (eLst (aCons (e2 pAddA (eC (.int 1)) (eVar 5)) (aCons (eC (.int 12)) aNil))) (e2 pMulA (eLst (aCons (eVar 3) aNil)) (eVar 5))) aNil)))))
    (sSeq (sSet 7 (e2 pIx (eVar 6) (eC (.int 0))))
    (sSeq (sIf (tst (e2 pGt (eVar 7) (e2 pMul (eVar 3) (eVar 4)))) (sSet 7 (e2 pMul (eVar 3) (eVar 4))) sNil)
    (sSeq (sSet 8 (e2 pMod (eCall pInt (aCons (e2 pIx (eVar 6) (eC (.int 1))) aNil)) (eCall pLen (aCons (eVar 2) aNil))))
    (sSeq (sSet 9 (e2 pAddA (eSl pSlA (eVar 2) (oSome (eVar 8)) oNone) (eSl pSlA (eVar 2) oNone (oSome (eVar 8)))))
    (sRet (eFn (ar4 m__law_stacked) (aCons (eSl pSlA (eVar 9) oNone (oSome (eVar 7))) (aCons (eSl pSlA (eVar 6) (oSome (eC (.int 2))) oNone) (aCons (eVar 3) (aCons (eVar 4) aNil)))))))))))
def m__law_yard (a0 a1 a2 a3 a4 a5 : PV) : Res PV := fin .sh (b__law_yard [some a0, some a1, some a2, some a3, some a4, some a5, none, none, none, none])
/-! _law_boxes: 0 _law_stacks, 1 _law_boxes_here, 2 _law_stack -/
def κ__law_boxes : Kd := fun i => i == 1
def lb__law_boxes_0 : LE → Fl := (sSet 1 (e2 pCat (eVar 1) (eCall pList (aCons (eVar 2) aNil))))
def b__law_boxes : LE → Fl := (sSeq (sSet 1 (eLst aNil))
    (sSeq (sFor (iSeq (eVar 0)) (gNm 2) lb__law_boxes_0)
    (sRet (eVar 1))))
def m__law_boxes (a0 : PV) : Res PV := fin .fr (b__law_boxes [some a0, none, none])
/-! _law_events: 0 _law_script, 1 _law_k, 2 _law_pool_here, 3 _law_stacks, 4 _law_most, 5 _law_here, 6 _law_drawn, 7 _law_events_here, 8 _law_j, 9 _law_away, 10 _law_number, 11 _law_name, 12 _law_other -/
def κ__law_events : Kd := fun i => i == 7
def lc__law_events_0 : LE → Res PV := (eComp [11] (iSeq (eVar 2)) (gNm 11) (tst (e2 (pInA true) (eVar 11) (eVar 5))) (eVar 11))
def lc__law_events_1 : LE → Res PV := (eComp [12] (iSeq (eVar 5)) (gNm 12) (tst (e2 pNe (eVar 12) (eVar 11))) (eVar 12))
def lb__law_events_2 : LE → Fl := (sSeq (sSet 9 lc__law_events_0)
    (sSeq (sSet 10 (e2 pIx (eVar 6) (e2 pAddA (eC (.int 1)) (e2 pMul (eC (.int 2)) (eVar 8)))))
    (sIf (tAndM (tst (e2 pGt (eCall pLen (aCons (eVar 5) aNil)) (eC (.int 0)))) (tOrM (tst (e2 pLt (e2 pIx (eVar 6) (e2 pAddA (eC (.int 2)) (e2 pMul (eC (.int 2)) (eVar 8)))) (eC (.int 2)))) (tOrM (tst (e2 pEq (eCall pLen (aCons (eVar 9) aNil)) (eC (.int 0)))) (tst (e2 pGt (eCall pLen (aCons (eVar 5) aNil)) (eC (.int 9))))))) (sSeq (sSet 11 (e2 pIx (eVar 5) (e2 pMod (eCall pInt (aCons (eVar 10) aNil)) (eCall pLen (aCons (eVar 5) aNil)))))
    (sSeq (sExprM (eMut 7 gApp (aCons (eTup (aCons (eC (.str ("out" : Str))) (aCons (eVar 11) aNil))) aNil)))
    (sSet 5 lc__law_events_1))) (sSeq (sSet 11 (e2 pIx (eVar 9) (e2 pMod (eCall pInt (aCons (eVar 10) aNil)) (eCall pLen (aCons (eVar 9) aNil)))))
    (sSeq (sExprM (eMut 7 gApp (aCons (eTup (aCons (eC (.str ("in" : Str))) (aCons (eVar 11) aNil))) aNil)))
    (sSet 5 (e2 pAddA (eVar 5) (eLst (aCons (eVar 11) aNil)))))))))
def b__law_events : LE → Fl := (sSeq (sSet 5 (eFn (ar1 m__law_boxes) (aCons (eVar 3) aNil)))
    (sSeq (sSet 6 (eFn (ar3 m__law_draws) (aCons (eVar 0) (aCons (eVar 1) (aCons (e2 pAddA (eLst (aCons (e2 pAddA (eC (.int 1)) (eVar 4)) aNil)) (e2 pMulA (eLst (aCons (eC (.int 40)) (aCons (eC (.int 3)) aNil))) (eVar 4))) aNil)))))
    (sSeq (sSet 7 (eLst aNil))
    (sSeq (sFor (iFn pR1 (aCons (e2 pIx (eVar 6) (eC (.int 0))) aNil)) (gNm 8) lb__law_events_2)
    (sRet (eCall pTuple (aCons (eVar 7) aNil)))))))
def m__law_events (a0 a1 a2 a3 a4 : PV) : Res PV := fin .sh (b__law_events [some a0, some a1, some a2, some a3, some a4, none, none, none, none, none, none, none, none])
/-! is_sequence: 0 value -/
def κ_is_sequence : Kd := fun i => false
def b_is_sequence : LE → Fl := (sRet (eIsi2 "list" "tuple" (eVar 0)))
def m_is_sequence (a0 : PV) : Res PV := fin .sh (b_is_sequence [some a0])
/-! boxes_of: 0 yard, 1 stack, 2 name -/
def κ_boxes_of : Kd := fun i => false
def lc_boxes_of_0 : LE → Res PV := (eComp2 [1, 2] (iSeq (eAtt (fun c => c == 5) ("stacks" : Str) (eVar 0))) (gNm 1) tYesM (iSeq (eVar 1)) [2] (gNm 2) tYesM (eVar 2))
def b_boxes_of : LE → Fl := (sRet (eCall pTuple (aCons lc_boxes_of_0 aNil)))
def m_boxes_of (a0 : PV) : Res PV := fin .sh (b_boxes_of [some a0, none, none])
/-! is_name: 0 value, 1 sign -/
def κ_is_name : Kd := fun i => false
def lc_is_name_0 : LE → Res PV := (eComp [1] (iSeq (eVar 0)) (gNm 1) tYesM (e2 (pIn false) (eVar 1) (eC (.str ("abcdefghijklmnopqrstuvwxyz" : Str)))))
def b_is_name : LE → Fl := (sSeq (sIf (tOrM (tNotM (tst (eCall pIsi (aCons (eVar 0) (aCons (eC (.ty "str")) aNil))))) (tNotM (tst (eChain pLe pLe (eC (.int 1)) (eCall pLen (aCons (eVar 0) aNil)) (eC (.int 8)))))) (sRet (eC (.bl false))) sNil)
    (sRet (eCall pAll (aCons lc_is_name_0 aNil))))
def m_is_name (a0 : PV) : Res PV := fin .sh (b_is_name [some a0, none])
/-! is_event: 0 value -/
def κ_is_event : Kd := fun i => false
def b_is_event : LE → Fl := (sSeq (sIf (tOrM (tNotM (tst (eCall pIsi (aCons (eVar 0) (aCons (eC (.ty "tuple")) aNil))))) (tOrM (tst (e2 pNe (eCall pLen (aCons (eVar 0) aNil)) (eC (.int 2)))) (tNotM (tst (eCall pIsi (aCons (e2 pIx (eVar 0) (eC (.int 0))) (aCons (eC (.ty "str")) aNil))))))) (sRet (eC (.bl false))) sNil)
    (sRet (eAnd (e2 (pIn false) (e2 pIx (eVar 0) (eC (.int 0))) (eTup (aCons (eC (.str ("in" : Str))) (aCons (eC (.str ("out" : Str))) aNil)))) (eFn (ar1 m_is_name) (aCons (e2 pIx (eVar 0) (eC (.int 1))) aNil)))))
def m_is_event (a0 : PV) : Res PV := fin .sh (b_is_event [some a0])
/-! as_events: 0 yard, 1 value, 2 there, 3 word, 4 name, 5 event -/
def κ_as_events : Kd := fun i => i == 2
def lc_as_events_0 : LE → Res PV := (eComp [5] (iSeq (eVar 1)) (gNm 5) tYesM (eFn (ar1 m_is_event) (aCons (eVar 5) aNil)))
def lc_as_events_1 : LE → Res PV := (eDComp [4] (iSeq (eFn (ar1 m_boxes_of) (aCons (eVar 0) aNil))) (gNm 4) tYesM (eVar 4) (eC (.bl true)))
def lb_as_events_2 : LE → Fl := (sSeq (sIf (tst (e2 pEq (e2 (pDIn false) (eVar 4) (eVar 2)) (e2 pEq (eVar 3) (eC (.str ("in" : Str)))))) (sRet (eC .non)) sNil)
    (sIf (tst (e2 pEq (eVar 3) (eC (.str ("in" : Str))))) (sPut 2 (eVar 4) (eC (.bl true))) (sDel 2 (eVar 4))))
def b_as_events : LE → Fl := (sSeq (sIf (tOrM (tNotM (tst (eFn (ar1 m_is_sequence) (aCons (eVar 1) aNil)))) (tNotM (tst (eCall pAll (aCons lc_as_events_0 aNil))))) (sRet (eC .non)) sNil)
    (sSeq (sSet 2 lc_as_events_1)
    (sSeq (sFor (iSeq (eVar 1)) (gTp (gsC (gNm 3) (gsC (gNm 4) gsN)) 2) lb_as_events_2)
    (sRet (eCall pTuple (aCons (eVar 1) aNil))))))
def m_as_events (a0 a1 : PV) : Res PV := fin .sh (b_as_events [some a0, some a1, none, none, none, none])
def κ_Day : Kd := fun i => i == 0
def b_Day : LE → Fl := (sSeq (sSet 3 (eFn (ar2 m_as_events) (aCons (eVar 1) (aCons (eVar 2) aNil))))
    (sSeq (sIf (tst (e2 pIsN (eVar 3) (eC .non))) (sRaise 2 ("value" : Str) (eVar 2)) sNil)
    (sSeq (sFld 0 6 ("yard" : Str) (eVar 1))
    (sFld 0 6 ("events" : Str) (eVar 3)))))
def m_Day (a0 a1 : PV) : Res PV := finI (b_Day [some (.ins 6 []), some a0, some a1, none])
/-! _law_present: 0 _law_stacks, 1 _law_events_here, 2 _law_e, 3 _law_here, 4 _law_event, 5 _law_name -/
def κ__law_present : Kd := fun i => i == 3
def lc__law_present_0 : LE → Res PV := (eComp [5] (iSeq (eVar 3)) (gNm 5) (tst (e2 pNe (eVar 5) (e2 pIx (eVar 4) (eC (.int 1))))) (eVar 5))
def lb__law_present_1 : LE → Fl := (sIf (tst (e2 pEq (e2 pIx (eVar 4) (eC (.int 0))) (eC (.str ("in" : Str))))) (sSet 3 (e2 pCat (eVar 3) (eLst (aCons (e2 pIx (eVar 4) (eC (.int 1))) aNil)))) (sSet 3 lc__law_present_0))
def b__law_present : LE → Fl := (sSeq (sSet 3 (eFn (ar1 m__law_boxes) (aCons (eVar 0) aNil)))
    (sSeq (sFor (iSeq (eSl pSlA (eVar 1) oNone (oSome (eVar 2)))) (gNm 4) lb__law_present_1)
    (sRet (eVar 3))))
def m__law_present (a0 a1 a2 : PV) : Res PV := fin .fr (b__law_present [some a0, some a1, some a2, none, none, none])
/-! _law_state: 0 _law_script, 1 _law_k, 2 _law_height, 3 _law_stacks, 4 _law_events_here, 5 _law_drawn, 6 _law_e, 7 _law_left, 8 _law_number, 9 _law_order, 10 _law_turn, 11 _law_arranged -/
def κ__law_state : Kd := fun i => i == 7 || i == 9
def lb__law_state_0 : LE → Fl := (sSeq (sExprM (eMutM 9 gApp (eMut 7 gPopAt (aCons (e2 pMod (eCall pInt (aCons (eVar 8) aNil)) (eCall pLen (aCons (eVar 7) aNil))) aNil))))
    (sSet 8 (e2 pDivW (eVar 8) (e2 pAddA (eC (.int 1)) (eCall pLen (aCons (eVar 7) aNil))))))
def b__law_state : LE → Fl := (sSeq (sSet 5 (eFn (ar3 m__law_draws) (aCons (eVar 0) (aCons (eVar 1) (aCons (e2 pAddA (eLst (aCons (eC (.int 13)) (aCons (eC (.int 3628800)) (aCons (eC (.int 4)) aNil)))) (e2 pMulA (eLst (aCons (eC (.int 5)) aNil)) (eC (.int 12)))) aNil)))))
    (sSeq (sSet 6 (e2 pMod (eCall pInt (aCons (e2 pIx (eVar 5) (eC (.int 0))) aNil)) (e2 pAddA (eC (.int 1)) (eCall pLen (aCons (eVar 4) aNil)))))
    (sSeq (sSet 7 (eFn (ar3 m__law_present) (aCons (eVar 3) (aCons (eVar 4) (aCons (eVar 6) aNil)))))
    (sSeq (sSet 8 (e2 pIx (eVar 5) (eC (.int 1))))
    (sSeq (sSet 9 (eLst aNil))
    (sSeq (sFor (iFn pR1 (aCons (eCall pLen (aCons (eVar 7) aNil)) aNil)) (gNm 10) lb__law_state_0)
    (sLet 9 (sSeq (sSet 11 (eFn (ar4 m__law_stacked) (aCons (eVar 9) (aCons (e2 pAddA (eSl pSlA (eVar 5) (oSome (eC (.int 3))) oNone) (e2 pMulA (eLst (aCons (eC (.int 0)) aNil)) (eCall pLen (aCons (eVar 9) aNil)))) (aCons (eCall pLen (aCons (eVar 3) aNil)) (aCons (eVar 2) aNil))))))
    (sSeq (sIf (tOrM (tAndM (tst (e2 pEq (eVar 6) (eC (.int 0)))) (tst (e2 pEq (e2 pIx (eVar 5) (eC (.int 2))) (eC (.int 0))))) (tst (e2 pIsN (eVar 11) (eC .non)))) (sRet (eTup (aCons (eC (.int 0)) (aCons (eVar 3) aNil)))) sNil)
    (sRet (eTup (aCons (eVar 6) (aCons (eVar 11) aNil)))))))))))))
def m__law_state (a0 a1 a2 a3 a4 : PV) : Res PV := fin .sh (b__law_state [some a0, some a1, some a2, some a3, some a4, none, none, none, none, none, none, none])
/-! goings: 0 day, 1 e, 2 found, 3 at, 4 word, 5 name -/
def κ_goings : Kd := fun i => i == 2
def lb_goings_0 : LE → Fl := (sSeq (sAsg (e2 pIx (eAtt (fun c => c == 6) ("events" : Str) (eVar 0)) (eVar 3)) (gTp (gsC (gNm 4) (gsC (gNm 5) gsN)) 2))
    (sIf (tAndM (tst (e2 pEq (eVar 4) (eC (.str ("out" : Str))))) (tst (e2 (pDIn true) (eVar 5) (eVar 2)))) (sPut 2 (eVar 5) (eVar 3)) sNil))
def b_goings : LE → Fl := (sSeq (sSet 2 (eC (.dK [])))
    (sSeq (sFor (iFn pR2 (aCons (eVar 1) (aCons (eCall pLen (aCons (eAtt (fun c => c == 6) ("events" : Str) (eVar 0)) aNil)) aNil))) (gNm 3) lb_goings_0)
    (sRet (eVar 2))))
def m_goings (a0 a1 : PV) : Res PV := fin .sh (b_goings [some a0, some a1, none, none, none, none])
/-! is_integer: 0 value -/
def κ_is_integer : Kd := fun i => false
def b_is_integer : LE → Fl := (sRet (eAnd (eCall pIsi (aCons (eVar 0) (aCons (eC (.ty "int")) aNil))) (eNot (eCall pIsi (aCons (eVar 0) (aCons (eC (.ty "bool")) aNil))))))
def m_is_integer (a0 : PV) : Res PV := fin .sh (b_is_integer [some a0])
/-! is_number: 0 value -/
def κ_is_number : Kd := fun i => false
def b_is_number : LE → Fl := (sRet (eAnd (eFn (ar1 m_is_integer) (aCons (eVar 0) aNil)) (e2 pGe (eVar 0) (eC (.int 0)))))
def m_is_number (a0 : PV) : Res PV := fin .sh (b_is_number [some a0])
/-! boxes_at: 0 day, 1 e, 2 there, 3 word, 4 name -/
def κ_boxes_at : Kd := fun i => i == 2
def lc_boxes_at_0 : LE → Res PV := (eDComp [4] (iSeq (eFn (ar1 m_boxes_of) (aCons (eAtt (fun c => c == 6) ("yard" : Str) (eVar 0)) aNil))) (gNm 4) tYesM (eVar 4) (eC (.bl true)))
def lb_boxes_at_1 : LE → Fl := (sIf (tst (e2 pEq (eVar 3) (eC (.str ("in" : Str))))) (sPut 2 (eVar 4) (eC (.bl true))) (sDel 2 (eVar 4)))
def b_boxes_at : LE → Fl := (sSeq (sIf (tOrM (tNotM (tst (eFn (ar1 m_is_number) (aCons (eVar 1) aNil)))) (tst (e2 pGt (eVar 1) (eCall pLen (aCons (eAtt (fun c => c == 6) ("events" : Str) (eVar 0)) aNil))))) (sRaise 3 ("value" : Str) (eVar 1)) sNil)
    (sSeq (sSet 2 lc_boxes_at_0)
    (sSeq (sFor (iSeq (eSl pSlA (eAtt (fun c => c == 6) ("events" : Str) (eVar 0)) oNone (oSome (eVar 1)))) (gTp (gsC (gNm 3) (gsC (gNm 4) gsN)) 2) lb_boxes_at_1)
    (sRet (eCall pTuple (aCons (eCall pSort (aCons (eCall pListD (aCons (eVar 2) aNil)) aNil)) aNil))))))
def m_boxes_at (a0 a1 : PV) : Res PV := fin .sh (b_boxes_at [some a0, some a1, none, none, none])
/-! are_unlike: 0 names, 1 name -/
def κ_are_unlike : Kd := fun i => false
def lc_are_unlike_0 : LE → Res PV := (eDComp [1] (iSeq (eVar 0)) (gNm 1) tYesM (eVar 1) (eC (.bl true)))
def b_are_unlike : LE → Fl := (sRet (e2 pEq (eCall pLen (aCons lc_are_unlike_0 aNil)) (eCall pLen (aCons (eVar 0) aNil))))
def m_are_unlike (a0 : PV) : Res PV := fin .sh (b_are_unlike [some a0, none])
/-! as_stacks: 0 height, 1 value, 2 stacks, 3 names, 4 stack, 5 name -/
def κ_as_stacks : Kd := fun i => false
def lc_as_stacks_0 : LE → Res PV := (eComp [4] (iSeq (eVar 1)) (gNm 4) tYesM (eFn (ar1 m_is_sequence) (aCons (eVar 4) aNil)))
def lc_as_stacks_1 : LE → Res PV := (eComp [4] (iSeq (eVar 1)) (gNm 4) tYesM (eCall pTuple (aCons (eVar 4) aNil)))
def lc_as_stacks_2 : LE → Res PV := (eComp2 [4, 5] (iSeq (eVar 2)) (gNm 4) tYesM (iSeq (eVar 4)) [5] (gNm 5) tYesM (eVar 5))
def lc_as_stacks_3 : LE → Res PV := (eComp [5] (iSeq (eVar 3)) (gNm 5) tYesM (eFn (ar1 m_is_name) (aCons (eVar 5) aNil)))
def lc_as_stacks_4 : LE → Res PV := (eComp [4] (iSeq (eVar 2)) (gNm 4) tYesM (e2 pLe (eCall pLen (aCons (eVar 4) aNil)) (eVar 0)))
def b_as_stacks : LE → Fl := (sSeq (sIf (tOrM (tNotM (tst (eFn (ar1 m_is_sequence) (aCons (eVar 1) aNil)))) (tOrM (tst (e2 pEq (eCall pLen (aCons (eVar 1) aNil)) (eC (.int 0)))) (tNotM (tst (eCall pAll (aCons lc_as_stacks_0 aNil)))))) (sRet (eC .non)) sNil)
    (sSeq (sSet 2 (eCall pTuple (aCons lc_as_stacks_1 aNil)))
    (sSeq (sSet 3 lc_as_stacks_2)
    (sSeq (sIf (tOrM (tNotM (tst (eCall pAll (aCons lc_as_stacks_3 aNil)))) (tNotM (tst (eFn (ar1 m_are_unlike) (aCons (eVar 3) aNil))))) (sRet (eC .non)) sNil)
    (sRet (eIf (tst (eCall pAll (aCons lc_as_stacks_4 aNil))) (eVar 2) (eC .non)))))))
def m_as_stacks (a0 a1 : PV) : Res PV := fin .sh (b_as_stacks [some a0, some a1, none, none, none, none])
/-! need_state: 0 day, 1 e, 2 stacks, 3 names, 4 told, 5 stack, 6 name -/
def κ_need_state : Kd := fun i => false
def lc_need_state_0 : LE → Res PV := (eComp2 [5, 6] (iSeq (eVar 4)) (gNm 5) tYesM (iSeq (eVar 5)) [6] (gNm 6) tYesM (eVar 6))
def b_need_state : LE → Fl := (sSeq (sSet 3 (eFn (ar2 m_boxes_at) (aCons (eVar 0) (aCons (eVar 1) aNil))))
    (sSeq (sSet 4 (eFn (ar2 m_as_stacks) (aCons (eAtt (fun c => c == 5) ("height" : Str) (eAtt (fun c => c == 6) ("yard" : Str) (eVar 0))) (aCons (eVar 2) aNil))))
    (sSeq (sIf (tOrM (tst (e2 pIsN (eVar 4) (eC .non))) (tst (e2 pNe (eCall pLen (aCons (eVar 4) aNil)) (eCall pLen (aCons (eAtt (fun c => c == 5) ("stacks" : Str) (eAtt (fun c => c == 6) ("yard" : Str) (eVar 0))) aNil))))) (sRaise 1 ("value" : Str) (eVar 2)) sNil)
    (sSeq (sIf (tst (e2 pNe (eCall pTuple (aCons (eCall pSort (aCons lc_need_state_0 aNil)) aNil)) (eVar 3))) (sRaise 1 ("value" : Str) (eVar 2)) sNil)
    (sRet (eTup (aCons (eVar 1) (aCons (eVar 4) aNil))))))))
def m_need_state (a0 a1 a2 : PV) : Res PV := fin .sh (b_need_state [some a0, some a1, some a2, none, none, none, none])
/-! goes_before: 0 times, 1 name, 2 other -/
def κ_goes_before : Kd := fun i => false
def b_goes_before : LE → Fl := (sRet (eAnd (e2 (pDIn false) (eVar 1) (eVar 0)) (eOr (e2 (pDIn true) (eVar 2) (eVar 0)) (e2 pLt (e2 pDGet (eVar 0) (eVar 1)) (e2 pDGet (eVar 0) (eVar 2))))))
def m_goes_before (a0 a1 a2 : PV) : Res PV := fin .sh (b_goes_before [some a0, some a1, some a2])
/-! blocked_by: 0 day, 1 e, 2 stacks, 3 name, 4 rows, 5 times, 6 above, 7 stack, 8 other -/
def κ_blocked_by : Kd := fun i => false
def lc_blocked_by_0 : LE → Res PV := (eComp [7] (iSeq (e2 pIx (eFn (ar3 m_need_state) (aCons (eVar 0) (aCons (eVar 1) (aCons (eVar 2) aNil)))) (eC (.int 1)))) (gNm 7) (tst (e2 (pInA false) (eVar 3) (eVar 7))) (eVar 7))
def lc_blocked_by_1 : LE → Res PV := (eComp [8] (iSeq (eVar 6)) (gNm 8) (tst (eFn (ar3 m_goes_before) (aCons (eVar 5) (aCons (eVar 3) (aCons (eVar 8) aNil))))) (eVar 8))
def b_blocked_by : LE → Fl := (sSeq (sSet 4 lc_blocked_by_0)
    (sSeq (sIf (tst (e2 pEq (eCall pLen (aCons (eVar 4) aNil)) (eC (.int 0)))) (sRaise 4 ("name" : Str) (eVar 3)) sNil)
    (sSeq (sSet 5 (eFn (ar2 m_goings) (aCons (eVar 0) (aCons (eVar 1) aNil))))
    (sSeq (sSet 6 (eSl pSlA (e2 pIx (eVar 4) (eC (.int 0))) (oSome (e2 pAddA (eIdx (e2 pIx (eVar 4) (eC (.int 0))) (eVar 3)) (eC (.int 1)))) oNone))
    (sRet (eCall pTuple (aCons lc_blocked_by_1 aNil)))))))
def m_blocked_by (a0 a1 a2 a3 : PV) : Res PV := fin .sh (b_blocked_by [some a0, some a1, some a2, some a3, none, none, none, none, none])
/-! blocking_in: 0 times, 1 stack, 2 found, 3 at, 4 name, 5 below -/
def κ_blocking_in : Kd := fun i => i == 2
def lc_blocking_in_0 : LE → Res PV := (eComp [5] (iSeq (eSl pSlA (eVar 1) oNone (oSome (eVar 3)))) (gNm 5) tYesM (eFn (ar3 m_goes_before) (aCons (eVar 0) (aCons (eVar 5) (aCons (eVar 4) aNil)))))
def lb_blocking_in_1 : LE → Fl := (sIf (tst (eCall pAny (aCons lc_blocking_in_0 aNil))) (sExprM (eMut 2 gApp (aCons (eVar 4) aNil))) sNil)
def b_blocking_in : LE → Fl := (sSeq (sSet 2 (eLst aNil))
    (sSeq (sFor (iFn pEnum (aCons (eVar 1) aNil)) (gTp (gsC (gNm 3) (gsC (gNm 4) gsN)) 2) lb_blocking_in_1)
    (sRet (eVar 2))))
def m_blocking_in (a0 a1 : PV) : Res PV := fin .sh (b_blocking_in [some a0, some a1, none, none, none, none])
/-! blocking_at: 0 day, 1 state, 2 times, 3 stack, 4 name -/
def κ_blocking_at : Kd := fun i => false
def lc_blocking_at_0 : LE → Res PV := (eComp2 [3, 4] (iSeq (e2 pIx (eVar 1) (eC (.int 1)))) (gNm 3) tYesM (iSeq (eFn (ar2 m_blocking_in) (aCons (eVar 2) (aCons (eVar 3) aNil)))) [4] (gNm 4) tYesM (eVar 4))
def b_blocking_at : LE → Fl := (sSeq (sSet 2 (eFn (ar2 m_goings) (aCons (eVar 0) (aCons (e2 pIx (eVar 1) (eC (.int 0))) aNil))))
    (sRet lc_blocking_at_0))
def m_blocking_at (a0 a1 : PV) : Res PV := fin .sh (b_blocking_at [some a0, some a1, none, none, none])
/-! blocking: 0 day, 1 e, 2 stacks -/
def κ_blocking : Kd := fun i => false
def b_blocking : LE → Fl := (sRet (eCall pTuple (aCons (eFn (ar2 m_blocking_at) (aCons (eVar 0) (aCons (eFn (ar3 m_need_state) (aCons (eVar 0) (aCons (eVar 1) (aCons (eVar 2) aNil)))) aNil))) aNil)))
def m_blocking (a0 a1 a2 : PV) : Res PV := fin .sh (b_blocking [some a0, some a1, some a2])
/-! low_bound: 0 day, 1 e, 2 stacks -/
def κ_low_bound : Kd := fun i => false
def b_low_bound : LE → Fl := (sRet (eCall pLen (aCons (eFn (ar3 m_blocking) (aCons (eVar 0) (aCons (eVar 1) (aCons (eVar 2) aNil)))) aNil)))
def m_low_bound (a0 a1 a2 : PV) : Res PV := fin .sh (b_low_bound [some a0, some a1, some a2])
/-! _law_told: 0 _law_which, 1 _law_day, 2 _law_e, 3 _law_stacks, 4 _law_name, 5 number_error, 6 yard_error, 7 box_error -/
def κ__law_told : Kd := fun i => false
def ms__law_told_5 : Addr → Addr → Nat → LE → Fl := (fun a d c => match c with | 3 => (sRet (eTup (aCons (eC (.str ("number" : Str))) (aCons (eAt a d 5 (xGet ("value" : Str))) aNil)))) | _ => fun _ => .bad)
theorem hind__law_told_5 : ∀ a d c fs (τ : LE), tidy 5 (ms__law_told_5 a d c (τ.set 5 (some (.exn a d c fs)))) = tidy 5 (ms__law_told_5 0 0 c (τ.set 5 (some (.exn 0 0 c fs)))) := by
  intro a d c fs τ
  unfold ms__law_told_5
  split <;> first | rfl | (simp only [sRet, eAnd, eOr, e2, eTup, aCons, aNil, eC, eAt_set]; exact tidy_rs _ _ _ _)
def ms__law_told_6 : Addr → Addr → Nat → LE → Fl := (fun a d c => match c with | 1 => (sRet (eTup (aCons (eC (.str ("yard" : Str))) (aCons (eAt a d 6 (xGet ("value" : Str))) aNil)))) | _ => fun _ => .bad)
theorem hind__law_told_6 : ∀ a d c fs (τ : LE), tidy 6 (ms__law_told_6 a d c (τ.set 6 (some (.exn a d c fs)))) = tidy 6 (ms__law_told_6 0 0 c (τ.set 6 (some (.exn 0 0 c fs)))) := by
  intro a d c fs τ
  unfold ms__law_told_6
  split <;> first | rfl | (simp only [sRet, eAnd, eOr, e2, eTup, aCons, aNil, eC, eAt_set]; exact tidy_rs _ _ _ _)
def ms__law_told_7 : Addr → Addr → Nat → LE → Fl := (fun a d c => match c with | 4 => (sRet (eTup (aCons (eC (.str ("unknown" : Str))) (aCons (eAt a d 7 (xGet ("name" : Str))) aNil)))) | _ => fun _ => .bad)
theorem hind__law_told_7 : ∀ a d c fs (τ : LE), tidy 7 (ms__law_told_7 a d c (τ.set 7 (some (.exn a d c fs)))) = tidy 7 (ms__law_told_7 0 0 c (τ.set 7 (some (.exn 0 0 c fs)))) := by
  intro a d c fs τ
  unfold ms__law_told_7
  split <;> first | rfl | (simp only [sRet, eAnd, eOr, e2, eTup, aCons, aNil, eC, eAt_set]; exact tidy_rs _ _ _ _)
def b__law_told : LE → Fl := (sTryN [((fun c => match c with | 1 => some false | 2 => some false | 3 => some true | 4 => some false | _ => none), 5, ms__law_told_5), ((fun c => match c with | 1 => some true | 2 => some false | 3 => some false | 4 => some false | _ => none), 6, ms__law_told_6), ((fun c => match c with | 1 => some false | 2 => some false | 3 => some false | 4 => some true | _ => none), 7, ms__law_told_7)] (sSeq (sIf (tst (e2 pEq (eVar 0) (eC (.int 0)))) (sRet (eTup (aCons (eC (.str ("value" : Str))) (aCons (eFn (ar3 m_blocking) (aCons (eVar 1) (aCons (eVar 2) (aCons (eVar 3) aNil)))) aNil)))) sNil)
    (sSeq (sIf (tst (e2 pEq (eVar 0) (eC (.int 1)))) (sRet (eTup (aCons (eC (.str ("value" : Str))) (aCons (eFn (ar3 m_low_bound) (aCons (eVar 1) (aCons (eVar 2) (aCons (eVar 3) aNil)))) aNil)))) sNil)
    (sRet (eTup (aCons (eC (.str ("value" : Str))) (aCons (eFn (ar4 m_blocked_by) (aCons (eVar 1) (aCons (eVar 2) (aCons (eVar 3) (aCons (eVar 4) aNil))))) aNil)))))))
def m__law_told (a0 a1 a2 a3 a4 : PV) : Res PV := fin .sh (b__law_told [some a0, some a1, some a2, some a3, some a4, none, none, none])
/-! _law_equal: 0 _law_actual, 1 _law_expected, 2 _law_k -/
def κ__law_equal : Kd := fun i => false
def lb__law_equal_0 (rec : PV → PV → Res PV) : LE → Fl := (sIf (tNotM (tst (eFn (ar2 rec) (aCons (e2 pIx (eVar 0) (eVar 2)) (aCons (e2 pIx (eVar 1) (eVar 2)) aNil))))) (sRet (eC (.bl false))) sNil)
def b__law_equal (rec : PV → PV → Res PV) : LE → Fl := (sSeq (sIf (tst (e2 pIsN (eVar 1) (eC .non))) (sRet (e2 pIsN (eVar 0) (eC .non))) sNil)
    (sSeq (sIf (tst (eCall pIsi (aCons (eVar 1) (aCons (eC (.ty "bool")) aNil)))) (sRet (eAnd (eCall pIsi (aCons (eVar 0) (aCons (eC (.ty "bool")) aNil))) (e2 pEq (eVar 0) (eVar 1)))) sNil)
    (sSeq (sIf (tst (eCall pIsi (aCons (eVar 1) (aCons (eC (.ty "int")) aNil)))) (sRet (eAnd (eCall pIsi (aCons (eVar 0) (aCons (eC (.ty "int")) aNil))) (eAnd (eNot (eCall pIsi (aCons (eVar 0) (aCons (eC (.ty "bool")) aNil)))) (e2 pEq (eVar 0) (eVar 1))))) sNil)
    (sSeq (sIf (tst (eCall pIsi (aCons (eVar 1) (aCons (eC (.ty "str")) aNil)))) (sRet (eAnd (eCall pIsi (aCons (eVar 0) (aCons (eC (.ty "str")) aNil))) (e2 pEq (eVar 0) (eVar 1)))) sNil)
    (sSeq (sIf (tOrM (tNotM (tst (eCall pIsi (aCons (eVar 0) (aCons (eC (.ty "tuple")) aNil))))) (tst (e2 pNe (eCall pLen (aCons (eVar 0) aNil)) (eCall pLen (aCons (eVar 1) aNil))))) (sRet (eC (.bl false))) sNil)
    (sSeq (sFor (iFn pR1 (aCons (eCall pLen (aCons (eVar 1) aNil)) aNil)) (gNm 2) (lb__law_equal_0 rec))
    (sRet (eC (.bl true)))))))))
def m__law_equal : Nat → PV → PV → Res PV
  | 0, _, _ => .bad
  | n + 1, a0, a1 => fin .sh (b__law_equal (m__law_equal n) [some a0, some a1, none])
def κ_Yard : Kd := fun i => i == 0
def b_Yard : LE → Fl := (sSeq (sIf (tOrM (tNotM (tst (eFn (ar1 m_is_number) (aCons (eVar 1) aNil)))) (tst (e2 pEq (eVar 1) (eC (.int 0))))) (sRaise 3 ("value" : Str) (eVar 1)) sNil)
    (sSeq (sSet 3 (eFn (ar2 m_as_stacks) (aCons (eVar 1) (aCons (eVar 2) aNil))))
    (sSeq (sIf (tst (e2 pIsN (eVar 3) (eC .non))) (sRaise 1 ("value" : Str) (eVar 2)) sNil)
    (sSeq (sFld 0 5 ("height" : Str) (eVar 1))
    (sFld 0 5 ("stacks" : Str) (eVar 3))))))
def m_Yard (a0 a1 : PV) : Res PV := finI (b_Yard [some (.ins 5 []), some a0, some a1, none])
/-! _law_bad_states: 0 _law_script, 1 _law_k, 2 _law_height, 3 _law_stacks, 4 _law_pool_here, 5 _law_drawn, 6 _law_at, 7 _law_stack, 8 _law_place, 9 _law_boxes_here, 10 _law_away, 11 _law_rows, 12 _law_name, 13 _law_other -/
def κ__law_bad_states : Kd := fun i => i == 11
def lc__law_bad_states_0 : LE → Res PV := (eComp [12] (iSeq (eVar 4)) (gNm 12) (tst (e2 (pInA true) (eVar 12) (eVar 9))) (eVar 12))
def lc__law_bad_states_1 : LE → Res PV := (eComp [13] (iSeq (eVar 3)) (gNm 13) tYesM (e1 (pJoin ("" : Str)) (eVar 13)))
def lc__law_bad_states_2 : LE → Res PV := (eComp [13] (iSeq (eSl pSlA (eVar 3) (oSome (eC (.int 1))) oNone)) (gNm 13) tYesM (eTup aNil))
def b__law_bad_states : LE → Fl := (sSeq (sSet 5 (eFn (ar3 m__law_draws) (aCons (eVar 0) (aCons (eVar 1) (aCons (eLst (aCons (eC (.int 5)) (aCons (eC (.int 6)) (aCons (eC (.int 12)) aNil)))) aNil)))))
    (sSeq (sSet 6 (e2 pMod (eCall pInt (aCons (e2 pIx (eVar 5) (eC (.int 0))) aNil)) (eCall pLen (aCons (eVar 3) aNil))))
    (sSeq (sSet 7 (e2 pIx (eVar 3) (eVar 6)))
    (sSeq (sSet 8 (e2 pMod (eCall pInt (aCons (e2 pIx (eVar 5) (eC (.int 1))) aNil)) (e2 pAddA (eC (.int 1)) (eCall pLen (aCons (eVar 7) aNil)))))
    (sSeq (sSet 9 (eFn (ar1 m__law_boxes) (aCons (eVar 3) aNil)))
    (sSeq (sSet 10 lc__law_bad_states_0)
    (sSeq (sSet 11 (eLst (aCons (eC .non) (aCons (eC (.int 3)) (aCons (eC (.str ("ab" : Str))) (aCons (eTup aNil) (aCons (e2 pAddA (eVar 3) (eTup (aCons (eTup aNil) aNil))) (aCons (eSl pSlA (eVar 3) oNone (oSome (e1 pNeg (eC (.int 1))))) (aCons (e2 pAddA (e2 pAddA (eSl pSlA (eVar 3) oNone (oSome (eVar 6))) (eTup (aCons (eC .non) aNil))) (eSl pSlA (eVar 3) (oSome (e2 pAddA (eVar 6) (eC (.int 1)))) oNone)) (aCons (eTup (aCons (eVar 3) aNil)) (aCons (e2 pAddA (eTup (aCons (eTup aNil) aNil)) (eVar 3)) aNil)))))))))))
    (sSeq (sExprM (eMut 11 gApp (aCons (e2 pAddA (e2 pAddA (eSl pSlA (eVar 3) oNone (oSome (eVar 6))) (eTup (aCons (e2 pAddA (e2 pAddA (eSl pSlA (eVar 7) oNone (oSome (eVar 8))) (eTup (aCons (e2 pIx (eVar 10) (eC (.int 0))) aNil))) (eSl pSlA (eVar 7) (oSome (eVar 8)) oNone)) aNil))) (eSl pSlA (eVar 3) (oSome (e2 pAddA (eVar 6) (eC (.int 1)))) oNone)) aNil)))
    (sSeq (sExprM (eMut 11 gApp (aCons (e2 pAddA (e2 pAddA (eSl pSlA (eVar 3) oNone (oSome (eVar 6))) (eTup (aCons (e2 pAddA (e2 pAddA (eSl pSlA (eVar 7) oNone (oSome (eVar 8))) (eTup (aCons (eC (.str ("" : Str))) aNil))) (eSl pSlA (eVar 7) (oSome (eVar 8)) oNone)) aNil))) (eSl pSlA (eVar 3) (oSome (e2 pAddA (eVar 6) (eC (.int 1)))) oNone)) aNil)))
    (sSeq (sIf (tst (e2 pGt (eCall pLen (aCons (eVar 7) aNil)) (eC (.int 0)))) (sSeq (sSet 8 (e2 pMod (eCall pInt (aCons (e2 pIx (eVar 5) (eC (.int 1))) aNil)) (eCall pLen (aCons (eVar 7) aNil))))
    (sSeq (sExprM (eMut 11 gApp (aCons (e2 pAddA (e2 pAddA (eSl pSlA (eVar 3) oNone (oSome (eVar 6))) (eTup (aCons (e2 pAddA (eSl pSlA (eVar 7) oNone (oSome (eVar 8))) (eSl pSlA (eVar 7) (oSome (e2 pAddA (eVar 8) (eC (.int 1)))) oNone)) aNil))) (eSl pSlA (eVar 3) (oSome (e2 pAddA (eVar 6) (eC (.int 1)))) oNone)) aNil)))
    (sSeq (sExprM (eMut 11 gApp (aCons (e2 pAddA (e2 pAddA (eSl pSlA (eVar 3) oNone (oSome (eVar 6))) (eTup (aCons (e2 pAddA (e2 pAddA (eSl pSlA (eVar 7) oNone (oSome (eVar 8))) (eTup (aCons (e2 pIx (eVar 10) (eC (.int 0))) aNil))) (eSl pSlA (eVar 7) (oSome (e2 pAddA (eVar 8) (eC (.int 1)))) oNone)) aNil))) (eSl pSlA (eVar 3) (oSome (e2 pAddA (eVar 6) (eC (.int 1)))) oNone)) aNil)))
    (sExprM (eMut 11 gApp (aCons (e2 pAddA (e2 pAddA (eSl pSlA (eVar 3) oNone (oSome (eVar 6))) (eTup (aCons (e2 pAddA (e2 pAddA (eSl pSlA (eVar 7) oNone (oSome (eVar 8))) (eTup (aCons (eC .non) aNil))) (eSl pSlA (eVar 7) (oSome (e2 pAddA (eVar 8) (eC (.int 1)))) oNone)) aNil))) (eSl pSlA (eVar 3) (oSome (e2 pAddA (eVar 6) (eC (.int 1)))) oNone)) aNil)))))) sNil)
    (sSeq (sIf (tst (e2 pGt (eCall pLen (aCons (eVar 9) aNil)) (eC (.int 0)))) (sSeq (sSet 12 (e2 pIx (eVar 9) (e2 pMod (eCall pInt (aCons (e2 pIx (eVar 5) (eC (.int 2))) aNil)) (eCall pLen (aCons (eVar 9) aNil)))))
    (sExprM (eMut 11 gApp (aCons (e2 pAddA (e2 pAddA (eSl pSlA (eVar 3) oNone (oSome (eVar 6))) (eTup (aCons (e2 pAddA (e2 pAddA (eSl pSlA (eVar 7) oNone (oSome (eVar 8))) (eTup (aCons (eVar 12) aNil))) (eSl pSlA (eVar 7) (oSome (eVar 8)) oNone)) aNil))) (eSl pSlA (eVar 3) (oSome (e2 pAddA (eVar 6) (eC (.int 1)))) oNone)) aNil)))) sNil)
    (sSeq (sExprM (eMut 11 gApp (aCons (e2 pAddA (e2 pAddA (eSl pSlA (eVar 3) oNone (oSome (eVar 6))) (eTup (aCons (e1 (pJoin ("" : Str)) (eVar 7)) aNil))) (eSl pSlA (eVar 3) (oSome (e2 pAddA (eVar 6) (eC (.int 1)))) oNone)) aNil)))
    (sSeq (sExprM (eMut 11 gApp (aCons (eCall pTuple (aCons lc__law_bad_states_1 aNil)) aNil)))
    (sSeq (sIf (tst (e2 pGt (eCall pLen (aCons (eVar 9) aNil)) (eVar 2))) (sExprM (eMut 11 gApp (aCons (e2 pAddA (eTup (aCons (eCall pTuple (aCons (eVar 9) aNil)) aNil)) (eCall pTuple (aCons lc__law_bad_states_2 aNil))) aNil))) sNil)
    (sRet (eVar 11))))))))))))))))
def m__law_bad_states (a0 a1 a2 a3 a4 : PV) : Res PV := fin .sh (b__law_bad_states [some a0, some a1, some a2, some a3, some a4, none, none, none, none, none, none, none, none, none])
/-! _law_going: 0 _law_events_here, 1 _law_e, 2 _law_name, 3 _law_k -/
def κ__law_going : Kd := fun i => false
def lb__law_going_0 : LE → Fl := (sIf (tst (e2 pEq (e2 pIx (eVar 0) (eVar 3)) (eTup (aCons (eC (.str ("out" : Str))) (aCons (eVar 2) aNil))))) (sRet (eVar 3)) sNil)
def b__law_going : LE → Fl := (sSeq (sFor (iFn pR2 (aCons (eVar 1) (aCons (eCall pLen (aCons (eVar 0) aNil)) aNil))) (gNm 3) lb__law_going_0)
    (sRet (eCall pLen (aCons (eVar 0) aNil))))
def m__law_going (a0 a1 a2 : PV) : Res PV := fin .sh (b__law_going [some a0, some a1, some a2, none])
/-! _law_blocking: 0 _law_events_here, 1 _law_e, 2 _law_stacks, 3 _law_found, 4 _law_stack, 5 _law_k, 6 _law_below, 7 _law_name -/
def κ__law_blocking : Kd := fun i => i == 3
def lc__law_blocking_0 : LE → Res PV := (eComp [7] (iSeq (eSl pSlA (eVar 4) oNone (oSome (eVar 5)))) (gNm 7) (tst (e2 pLt (eFn (ar3 m__law_going) (aCons (eVar 0) (aCons (eVar 1) (aCons (eVar 7) aNil)))) (eFn (ar3 m__law_going) (aCons (eVar 0) (aCons (eVar 1) (aCons (e2 pIx (eVar 4) (eVar 5)) aNil)))))) (eVar 7))
def lb__law_blocking_1 : LE → Fl := (sSeq (sSet 6 lc__law_blocking_0)
    (sIf (tst (e2 pGt (eCall pLen (aCons (eVar 6) aNil)) (eC (.int 0)))) (sExprM (eMut 3 gApp (aCons (e2 pIx (eVar 4) (eVar 5)) aNil))) sNil))
def lb__law_blocking_2 : LE → Fl := (sFor (iFn pR1 (aCons (eCall pLen (aCons (eVar 4) aNil)) aNil)) (gNm 5) lb__law_blocking_1)
def b__law_blocking : LE → Fl := (sSeq (sSet 3 (eLst aNil))
    (sSeq (sFor (iSeq (eVar 2)) (gNm 4) lb__law_blocking_2)
    (sRet (eCall pTuple (aCons (eVar 3) aNil)))))
def m__law_blocking (a0 a1 a2 : PV) : Res PV := fin .sh (b__law_blocking [some a0, some a1, some a2, none, none, none, none, none])
/-! _law_blocks_above: 0 _law_events_here, 1 _law_e, 2 _law_stack, 3 _law_place, 4 _law_going_here, 5 _law_name -/
def κ__law_blocks_above : Kd := fun i => false
def lc__law_blocks_above_0 : LE → Res PV := (eComp [5] (iSeq (eSl pSlA (eVar 2) (oSome (e2 pAddA (eVar 3) (eC (.int 1)))) oNone)) (gNm 5) (tst (e2 pGt (eFn (ar3 m__law_going) (aCons (eVar 0) (aCons (eVar 1) (aCons (eVar 5) aNil)))) (eVar 4))) (eVar 5))
def b__law_blocks_above : LE → Fl := (sSeq (sSet 4 (eFn (ar3 m__law_going) (aCons (eVar 0) (aCons (eVar 1) (aCons (e2 pIx (eVar 2) (eVar 3)) aNil)))))
    (sRet lc__law_blocks_above_0))
def m__law_blocks_above (a0 a1 a2 a3 : PV) : Res PV := fin .sh (b__law_blocks_above [some a0, some a1, some a2, some a3, none, none])
/-! _law_is_right: 0 _law_day, 1 _law_events_here, 2 _law_e, 3 _law_stacks, 4 _law_handed, 5 _law_due, 6 _law_stack, 7 _law_k, 8 _law_above -/
def κ__law_is_right : Kd := fun i => false
def lb__law_is_right_0 : LE → Fl := (sSeq (sSet 8 (eTup (aCons (eC (.str ("value" : Str))) (aCons (eCall pTuple (aCons (eFn (ar4 m__law_blocks_above) (aCons (eVar 1) (aCons (eVar 2) (aCons (eVar 6) (aCons (eVar 7) aNil))))) aNil)) aNil))))
    (sIf (tNotM (tst (eFn (ar2 (m__law_equal 12)) (aCons (eFn (ar5 m__law_told) (aCons (eC (.int 2)) (aCons (eVar 0) (aCons (eVar 2) (aCons (eVar 4) (aCons (e2 pIx (eVar 6) (eVar 7)) aNil)))))) (aCons (eVar 8) aNil))))) (sRet (eC (.bl false))) sNil))
def lb__law_is_right_1 : LE → Fl := (sFor (iFn pR1 (aCons (eCall pLen (aCons (eVar 6) aNil)) aNil)) (gNm 7) lb__law_is_right_0)
def b__law_is_right : LE → Fl := (sSeq (sSet 5 (eFn (ar3 m__law_blocking) (aCons (eVar 1) (aCons (eVar 2) (aCons (eVar 3) aNil)))))
    (sSeq (sIf (tNotM (tst (eFn (ar2 (m__law_equal 12)) (aCons (eFn (ar5 m__law_told) (aCons (eC (.int 0)) (aCons (eVar 0) (aCons (eVar 2) (aCons (eVar 4) (aCons (eC (.str ("" : Str))) aNil)))))) (aCons (eTup (aCons (eC (.str ("value" : Str))) (aCons (eVar 5) aNil))) aNil))))) (sRet (eC (.bl false))) sNil)
    (sSeq (sIf (tNotM (tst (eFn (ar2 (m__law_equal 12)) (aCons (eFn (ar5 m__law_told) (aCons (eC (.int 1)) (aCons (eVar 0) (aCons (eVar 2) (aCons (eVar 4) (aCons (eC (.str ("" : Str))) aNil)))))) (aCons (eTup (aCons (eC (.str ("value" : Str))) (aCons (eCall pLen (aCons (eVar 5) aNil)) aNil))) aNil))))) (sRet (eC (.bl false))) sNil)
    (sSeq (sFor (iSeq (eVar 3)) (gNm 6) lb__law_is_right_1)
    (sRet (eC (.bl true)))))))
def m__law_is_right (a0 a1 a2 a3 a4 : PV) : Res PV := fin .sh (b__law_is_right [some a0, some a1, some a2, some a3, some a4, none, none, none, none])
/-! law: 0 _law_script, 1 _law_drawn, 2 _law_height, 3 _law_pool_here, 4 _law_stacks, 5 _law_events_here, 6 _law_day, 7 _law_state_here, 8 _law_other, 9 _law_asked, 10 _law_size, 11 _law_which, 12 _law_listed, 13 _law_told_here, 14 _law_here, 15 _law_name, 16 _law_bad, 17 _law_stack -/
def κ_law : Kd := fun i => false
def lc_law_0 : LE → Res PV := (eComp [17] (iSeq (e2 pIx (eVar 9) (eC (.int 1)))) (gNm 17) tYesM (eCall pList (aCons (eVar 17) aNil)))
def lb_law_1 : LE → Fl := (sSeq (sIf (tNotM (tst (eFn (ar5 m__law_is_right) (aCons (eVar 6) (aCons (eVar 5) (aCons (e2 pIx (eVar 9) (eC (.int 0))) (aCons (e2 pIx (eVar 9) (eC (.int 1))) (aCons (e2 pIx (eVar 9) (eC (.int 1))) aNil)))))))) (sRet (eC (.bl false))) sNil)
    (sIf (tNotM (tst (eFn (ar5 m__law_is_right) (aCons (eVar 6) (aCons (eVar 5) (aCons (e2 pIx (eVar 9) (eC (.int 0))) (aCons (e2 pIx (eVar 9) (eC (.int 1))) (aCons lc_law_0 aNil)))))))) (sRet (eC (.bl false))) sNil))
def lb_law_2 : LE → Fl := (sIf (tNotM (tst (eFn (ar2 (m__law_equal 12)) (aCons (eFn (ar5 m__law_told) (aCons (eVar 11) (aCons (eVar 6) (aCons (eVar 16) (aCons (eC .non) (aCons (eC (.str ("" : Str))) aNil)))))) (aCons (eTup (aCons (eC (.str ("number" : Str))) (aCons (eVar 16) aNil))) aNil))))) (sRet (eC (.bl false))) sNil)
def lb_law_3 : LE → Fl := (sIf (tNotM (tst (eFn (ar2 (m__law_equal 12)) (aCons (eFn (ar5 m__law_told) (aCons (eVar 11) (aCons (eVar 6) (aCons (e2 pIx (eVar 7) (eC (.int 0))) (aCons (eVar 16) (aCons (eC (.str ("" : Str))) aNil)))))) (aCons (eTup (aCons (eC (.str ("yard" : Str))) (aCons (eVar 16) aNil))) aNil))))) (sRet (eC (.bl false))) sNil)
def lb_law_4 : LE → Fl := (sSeq (sFor (iSeq (eLst (aCons (e2 pAddA (eVar 10) (eC (.int 1))) (aCons (e1 pNeg (eC (.int 1))) (aCons (e2 pAddA (e2 pAddA (eVar 10) (eC (.int 1))) (e2 pIx (eVar 1) (eC (.int 2)))) (aCons (eC (.bl true)) (aCons (eC .non) (aCons (eC (.str ("0" : Str))) aNil)))))))) (gNm 16) lb_law_2)
    (sFor (iSeq (eFn (ar5 m__law_bad_states) (aCons (eVar 0) (aCons (eC (.int 6)) (aCons (eVar 2) (aCons (e2 pIx (eVar 7) (eC (.int 1))) (aCons (eVar 3) aNil))))))) (gNm 16) lb_law_3))
def lc_law_5 : LE → Res PV := (eComp [17] (iSeq (e2 pIx (eVar 7) (eC (.int 1)))) (gNm 17) tYesM (eCall pList (aCons (eVar 17) aNil)))
def lc_law_6 : LE → Res PV := (eComp [15] (iSeq (eVar 3)) (gNm 15) (tst (e2 (pInA true) (eVar 15) (eVar 14))) (eVar 15))
def lb_law_7 : LE → Fl := (sIf (tNotM (tst (eFn (ar2 (m__law_equal 12)) (aCons (eFn (ar5 m__law_told) (aCons (eC (.int 2)) (aCons (eVar 6) (aCons (e2 pIx (eVar 7) (eC (.int 0))) (aCons (e2 pIx (eVar 7) (eC (.int 1))) (aCons (eVar 15) aNil)))))) (aCons (eTup (aCons (eC (.str ("unknown" : Str))) (aCons (eVar 15) aNil))) aNil))))) (sRet (eC (.bl false))) sNil)
def b_law : LE → Fl := (sSeq (sSet 1 (eFn (ar3 m__law_draws) (aCons (eVar 0) (aCons (eC (.int 0)) (aCons (eLst (aCons (eC (.int 5)) (aCons (eC (.int 5)) (aCons (eC (.int 90)) aNil)))) aNil)))))
    (sSeq (sSet 2 (e2 pAddA (eC (.int 1)) (e2 pIx (eVar 1) (eC (.int 0)))))
    (sSeq (sSet 3 (eFn (ar3 m__law_pool) (aCons (eVar 0) (aCons (eC (.int 1)) (aCons (eC (.int 12)) aNil)))))
    (sSeq (sSet 4 (eFn (ar6 m__law_yard) (aCons (eVar 0) (aCons (eC (.int 2)) (aCons (eVar 3) (aCons (e2 pAddA (eC (.int 1)) (e2 pIx (eVar 1) (eC (.int 1)))) (aCons (eVar 2) (aCons (eC (.int 10)) aNil))))))))
    (sSeq (sSet 5 (eFn (ar5 m__law_events) (aCons (eVar 0) (aCons (eC (.int 3)) (aCons (eVar 3) (aCons (eVar 4) (aCons (eC (.int 12)) aNil)))))))
    (sSeq (sSet 6 (eFn (ar2 m_Day) (aCons (eFn (ar2 m_Yard) (aCons (eVar 2) (aCons (eVar 4) aNil))) (aCons (eVar 5) aNil))))
    (sSeq (sSet 7 (eFn (ar5 m__law_state) (aCons (eVar 0) (aCons (eC (.int 4)) (aCons (eVar 2) (aCons (eVar 4) (aCons (eVar 5) aNil)))))))
    (sSeq (sSet 8 (eFn (ar5 m__law_state) (aCons (eVar 0) (aCons (eC (.int 5)) (aCons (eVar 2) (aCons (eVar 4) (aCons (eVar 5) aNil)))))))
    (sSeq (sFor (iSeq (eLst (aCons (eVar 7) (aCons (eVar 8) (aCons (eVar 7) (aCons (eTup (aCons (eC (.int 0)) (aCons (eVar 4) aNil))) aNil)))))) (gNm 9) lb_law_1)
    (sSeq (sSet 10 (eCall pLen (aCons (eVar 5) aNil)))
    (sSeq (sFor (iFn pR1 (aCons (eC (.int 3)) aNil)) (gNm 11) lb_law_4)
    (sSeq (sSet 12 (e2 pAddA lc_law_5 (eLst (aCons (eLst aNil) aNil))))
    (sSeq (sSet 13 (eFn (ar5 m__law_told) (aCons (eC (.int 0)) (aCons (eVar 6) (aCons (e2 pIx (eVar 7) (eC (.int 0))) (aCons (eVar 12) (aCons (eC (.str ("" : Str))) aNil)))))))
    (sSeq (sIf (tOrM (tst (e2 pNe (e2 pIx (eVar 13) (eC (.int 0))) (eC (.str ("yard" : Str))))) (tst (e2 pNe (e2 pIx (eVar 13) (eC (.int 1))) (eVar 12)))) (sRet (eC (.bl false))) sNil)
    (sSeq (sSet 14 (eFn (ar1 m__law_boxes) (aCons (e2 pIx (eVar 7) (eC (.int 1))) aNil)))
    (sSeq (sFor (iSeq (e2 pAddA lc_law_6 (eLst (aCons (eC (.str ("" : Str))) (aCons (eC (.str ("A" : Str))) (aCons (eC .non) (aCons (eC (.int 3)) (aCons (eC (.bl true)) (aCons (eTup (aCons (eC (.str ("a" : Str))) aNil)) aNil))))))))) (gNm 15) lb_law_7)
    (sRet (eFn (ar2 (m__law_equal 12)) (aCons (eFnK 3 [0, 1, 2] (ar3 m_low_bound) (aCons (eVar 6) (aCons (eC (.int 0)) (aCons (eVar 4) aNil)))) (aCons (eCall pLen (aCons (eFn (ar3 m__law_blocking) (aCons (eVar 5) (aCons (eC (.int 0)) (aCons (eVar 4) aNil)))) aNil)) aNil))))))))))))))))))))
def m_law (a0 : PV) : Res PV := fin .sh (b_law [some a0, none, none, none, none, none, none, none, none, none, none, none, none, none, none, none, none, none])
end K10
end
section
set_option Elab.async false
set_option linter.all false
set_option maxRecDepth 100000
set_option maxHeartbeats 4000000
namespace K10
open PySem PySem.Spec L2 Lp
abbrev topS (i : Nat) : Stmt := PySem.Challenge.pw_leastshifts_k10_blocking_boxes.main.body.getD i (.Pass ⟨0, 0, 0, 0⟩)
section
variable (G : Nat → Addr) (K : PySem.W.Frag) (mg : Str → Option Value)
structure Zs : Prop where
  n_len : mg ("len" : Str) = none
  n_int : mg ("int" : Str) = none
  n_max : mg ("max" : Str) = none
  n_range : mg ("range" : Str) = none
  n_tuple : mg ("tuple" : Str) = none
  n_list : mg ("list" : Str) = none
  n_isinstance : mg ("isinstance" : Str) = none
  at_5_stacks : Cls K (G 5) ∧ NoAttr K (G 5) ("stacks" : Str)
  n_str : mg ("str" : Str) = none
  g_MOST_LETTERS : ∃ t, mg ("MOST_LETTERS" : Str) = some (.int 8 t)
  g_LETTERS : ∃ t, mg ("LETTERS" : Str) = some (.str ("abcdefghijklmnopqrstuvwxyz" : Str) t)
  n_all : mg ("all" : Str) = none
  g_OUT : ∃ t, mg ("OUT" : Str) = some (.str ("out" : Str) t)
  g_IN : ∃ t, mg ("IN" : Str) = some (.str ("in" : Str) t)
  at_6_yard : Cls K (G 6) ∧ NoAttr K (G 6) ("yard" : Str)
  at_6_events : Cls K (G 6) ∧ NoAttr K (G 6) ("events" : Str)
  n_bool : mg ("bool" : Str) = none
  n_sorted : mg ("sorted" : Str) = none
  at_5_height : Cls K (G 5) ∧ NoAttr K (G 5) ("height" : Str)
  n_enumerate : mg ("enumerate" : Str) = none
  n_any : mg ("any" : Str) = none
  c_InvalidNumber : mg ("InvalidNumber" : Str) = some (.ref (G 3))
  ex_1_3 : PySem.W.exmOne K (.ref (G 1)) (.ref (G 3)) = some false
  ex_2_3 : PySem.W.exmOne K (.ref (G 2)) (.ref (G 3)) = some false
  ex_3_3 : PySem.W.exmOne K (.ref (G 3)) (.ref (G 3)) = some true
  ex_4_3 : PySem.W.exmOne K (.ref (G 4)) (.ref (G 3)) = some false
  xf_3 : XfC K (G 3)
  nf_3_value : PySem.W.findIn K (.ref (G 3)) ("value" : Str) = some none
  c_InvalidYard : mg ("InvalidYard" : Str) = some (.ref (G 1))
  ex_1_1 : PySem.W.exmOne K (.ref (G 1)) (.ref (G 1)) = some true
  ex_2_1 : PySem.W.exmOne K (.ref (G 2)) (.ref (G 1)) = some false
  ex_3_1 : PySem.W.exmOne K (.ref (G 3)) (.ref (G 1)) = some false
  ex_4_1 : PySem.W.exmOne K (.ref (G 4)) (.ref (G 1)) = some false
  xf_1 : XfC K (G 1)
  nf_1_value : PySem.W.findIn K (.ref (G 1)) ("value" : Str) = some none
  c_UnknownBox : mg ("UnknownBox" : Str) = some (.ref (G 4))
  ex_1_4 : PySem.W.exmOne K (.ref (G 1)) (.ref (G 4)) = some false
  ex_2_4 : PySem.W.exmOne K (.ref (G 2)) (.ref (G 4)) = some false
  ex_3_4 : PySem.W.exmOne K (.ref (G 3)) (.ref (G 4)) = some false
  ex_4_4 : PySem.W.exmOne K (.ref (G 4)) (.ref (G 4)) = some true
  xf_4 : XfC K (G 4)
  nf_4_name : PySem.W.findIn K (.ref (G 4)) ("name" : Str) = some none
end
section
variable {G : Nat → Addr} {K : PySem.W.Frag} {mg : Str → Option Value} {P : Program} {w : World} {base : Heap}
theorem d__law_draws (Z : Zs G K mg) {f : Addr} {fd : FuncData} (Fn : Fun K ("_law_draws" : Str) ("_law_draws" : Str) (topS 41) f fd)  : FnOk P w K mg base (L2.CX P w) 1 f fd [("_law_script" : Str), ("_law_k" : Str), ("_law_bounds" : Str)] (spM G K .sh 3 (ar3 m__law_draws)) := by
  have S : FnScope [("_law_script" : Str), ("_law_k" : Str), ("_law_bounds" : Str), ("_law_cell" : Str), ("_law_rest" : Str), ("_law_drawn" : Str), ("_law_j" : Str), ("_law_mixed" : Str)] [("_law_script" : Str), ("_law_k" : Str), ("_law_bounds" : Str)] (defScope (topS 41)) := C8.fnScope_by (by decide +kernel)
  refine d_of (κ := κ__law_draws) (m := b__law_draws) (k := 0) Fn S (fun i hi => by revert i; decide) (fun qs hl => match qs, hl with | [_, _, _], _ => rfl) fun cdv A outer s H E hr => ?_
  exact (ss_cons (s_set 3 v_int S.nd)
    (ss_cons (s_set 4 v_int S.nd)
    (ss_cons (s_if (t_cmp op_lt (g_B (g := fun i j => decide (i < j))) (v_up (v_var 1)) (v_up (v_callB call_lenV g_len Z.n_len (by kernel_rfl) (a_cons (v_up (v_var 0)) a_nil)))) (ss_cons (s_set 3 (v_callTy call_int1 g_int Z.n_int (by kernel_rfl) (a_cons (v_up (v_ix (v_up (v_var 0)) (v_up (v_var 1)))) a_nil)) S.nd)
    (ss_one (s_set 4 (v_callB (call_max2 rfl) (g_I2 (g := fun i j => if j > i then j else i)) Z.n_max (by kernel_rfl) (a_cons (v_up v_int) (a_cons (v_up (v_op op_sub g_sub (v_up (v_var 3)) (v_up (v_op op_pow (g_I (C := CPow) (g := fun i j => i ^ j.toNat)) (v_up v_int) (v_up v_int))))) a_nil))) S.nd))) (ss_one (s_if (t_cmp op_gt (g_B (g := fun i j => decide (j < i))) (v_up (v_callB call_lenV g_len Z.n_len (by kernel_rfl) (a_cons (v_up (v_var 0)) a_nil))) (v_up v_int)) (ss_one (s_set 3 (v_callTy call_int1 g_int Z.n_int (by kernel_rfl) (a_cons (v_up (v_ix (v_up (v_var 0)) (v_up (v_op op_mod (g_I (C := fun _ j => 0 < j) (g := fun i j => i % j)) (v_up (v_callTy call_int1 g_int Z.n_int (by kernel_rfl) (a_cons (v_up (v_var 1)) a_nil))) (v_up (v_callB call_lenV g_len Z.n_len (by kernel_rfl) (a_cons (v_up (v_var 0)) a_nil))))))) a_nil)) S.nd)) ss_nil)))
    (ss_cons (s_setO 5 (v_lst a_nil) S.nd)
    (ss_cons (s_for (passes_of rfl) rfl (i_range1 Z.n_range (a_cons (v_callB call_lenV g_len Z.n_len (by kernel_rfl) (a_cons (v_up (v_var 2)) a_nil)) a_nil)) (gv_name 6 (hN := S.nd)) gok_name (ss_one (s_if (t_cmp op_gt (g_B (g := fun i j => decide (j < i))) (v_up (v_var 4)) (v_up v_int)) (ss_cons (s_exprM (m_list 5 PySem.F.slot_list_append PySem.F.type_list_append mt_append g_app (a_cons (v_op op_mod (g_I (C := fun _ j => 0 < j) (g := fun i j => i % j)) (v_up (v_callTy call_int1 g_int Z.n_int (by kernel_rfl) (a_cons (v_up (v_var 4)) a_nil))) (v_up (v_ix (v_up (v_var 2)) (v_up (v_var 6))))) a_nil)))
    (ss_one (s_set 4 (v_op op_fdivW (g_I (C := CDivW) (g := fun i j => i / j)) (v_up (v_var 4)) (v_up (v_ix (v_up (v_var 2)) (v_up (v_var 6))))) S.nd))) (ss_cons (s_set 7 (v_op op_mod (g_I (C := fun _ j => 0 < j) (g := fun i j => i % j)) (v_up (v_callTy call_int1 g_int Z.n_int (by kernel_rfl) (a_cons (v_up (v_op op_addA g_addA (v_up (v_op op_addA g_addA (v_up (v_op op_addA g_addA (v_up (v_op op_mul (g_I (C := CMul) (g := fun i j => i * j)) (v_up (v_var 3)) (v_up v_int))) (v_up (v_op op_mul (g_I (C := CMul) (g := fun i j => i * j)) (v_up (v_var 1)) (v_up v_int))))) (v_up (v_op op_mul (g_I (C := CMul) (g := fun i j => i * j)) (v_up (v_var 6)) (v_up v_int))))) (v_up v_int))) a_nil))) (v_up v_int)) S.nd)
    (ss_cons (s_set 7 (v_op op_mod (g_I (C := fun _ j => 0 < j) (g := fun i j => i % j)) (v_up (v_callTy call_int1 g_int Z.n_int (by kernel_rfl) (a_cons (v_up (v_op op_addA g_addA (v_up (v_op op_addA g_addA (v_up (v_op op_mul (g_I (C := CMul) (g := fun i j => i * j)) (v_up (v_var 7)) (v_up (v_var 7)))) (v_up (v_op op_mul (g_I (C := CMul) (g := fun i j => i * j)) (v_up (v_var 6)) (v_up v_int))))) (v_up v_int))) a_nil))) (v_up v_int)) S.nd)
    (ss_cons (s_set 7 (v_op op_mod (g_I (C := fun _ j => 0 < j) (g := fun i j => i % j)) (v_up (v_callTy call_int1 g_int Z.n_int (by kernel_rfl) (a_cons (v_up (v_op op_addA g_addA (v_up (v_op op_addA g_addA (v_up (v_op op_mul (g_I (C := CMul) (g := fun i j => i * j)) (v_up (v_var 7)) (v_up (v_var 7)))) (v_up (v_op op_mul (g_I (C := CMul) (g := fun i j => i * j)) (v_up (v_var 7)) (v_up v_int))))) (v_up v_int))) a_nil))) (v_up v_int)) S.nd)
    (ss_one (s_exprM (m_list 5 PySem.F.slot_list_append PySem.F.type_list_append mt_append g_app (a_cons (v_op op_mod (g_I (C := fun _ j => 0 < j) (g := fun i j => i % j)) (v_up (v_op op_fdiv (g_I (C := CDiv) (g := fun i j => i / j)) (v_up (v_var 7)) (v_up v_int))) (v_up (v_ix (v_up (v_var 2)) (v_up (v_var 6))))) a_nil))))))))))
    (ss_one (s_retF 5)))))))
theorem d__law_pool (Z : Zs G K mg) {f : Addr} {fd : FuncData} (Fn : Fun K ("_law_pool" : Str) ("_law_pool" : Str) (topS 43) f fd) (D__law_draws : Dk P w K mg base 1 ("_law_draws" : Str) (spM G K .sh 3 (ar3 m__law_draws))) : FnOk P w K mg base (L2.CX P w) 2 f fd [("_law_script" : Str), ("_law_k" : Str), ("_law_size" : Str)] (spM G K .sh 3 (ar3 m__law_pool)) := by
  have S : FnScope [("_law_script" : Str), ("_law_k" : Str), ("_law_size" : Str), ("_law_drawn" : Str), ("_law_length" : Str), ("_law_step" : Str), ("_law_place" : Str), ("_law_pool_here" : Str), ("_law_j" : Str), ("_law_number" : Str), ("_law_word" : Str)] [("_law_script" : Str), ("_law_k" : Str), ("_law_size" : Str)] (defScope (topS 43)) := C8.fnScope_by (by decide +kernel)
  refine d_of (κ := κ__law_pool) (m := b__law_pool) (k := 1) Fn S (fun i hi => by revert i; decide) (fun qs hl => match qs, hl with | [_, _, _], _ => rfl) fun cdv A outer s H E hr => ?_
  exact (ss_cons (s_set 3 (v_call D__law_draws (hr.mono (by decide)) (takes_of rfl rfl rfl rfl) (a_cons (v_var 0) (a_cons (v_var 1) (a_cons (v_freeze (v_lst (a_cons v_int (a_cons (v_op op_pow (g_I (C := CPow) (g := fun i j => i ^ j.toNat)) (v_up v_int) (v_up v_int)) (a_cons v_int (a_cons v_int a_nil)))))) a_nil))) ar3_len) S.nd)
    (ss_cons (s_set 4 (v_op op_addA g_addA (v_up v_int) (v_up (v_ix (v_up (v_var 3)) (v_up v_int)))) S.nd)
    (ss_cons (s_set 5 (v_op op_addA g_addA (v_up v_int) (v_up (v_ix (v_up (v_var 3)) (v_up v_int)))) S.nd)
    (ss_cons (s_for (passes_of rfl) rfl (i_range1 Z.n_range (a_cons (v_op op_mod (g_I (C := fun _ j => 0 < j) (g := fun i j => i % j)) (v_up (v_callTy call_int1 g_int Z.n_int (by kernel_rfl) (a_cons (v_up (v_ix (v_up (v_var 3)) (v_up v_int))) a_nil))) (v_up (v_var 4))) a_nil)) (gv_name 6 (hN := S.nd)) gok_name (ss_one (s_set 5 (v_op op_mul (g_I (C := CMul) (g := fun i j => i * j)) (v_up v_int) (v_up (v_var 5))) S.nd)))
    (ss_cons (s_setO 7 (v_lst a_nil) S.nd)
    (ss_cons (s_for (passes_of rfl) rfl (i_range1 Z.n_range (a_cons (v_var 2) a_nil)) (gv_name 8 (hN := S.nd)) gok_name (ss_cons (s_set 9 (v_op op_addA g_addA (v_up (v_ix (v_up (v_var 3)) (v_up v_int))) (v_up (v_op op_mul (g_I (C := CMul) (g := fun i j => i * j)) (v_up (v_op op_fdiv (g_I (C := CDiv) (g := fun i j => i / j)) (v_up (v_var 8)) (v_up v_int))) (v_up (v_var 5))))) S.nd)
    (ss_cons (s_set 10 v_str S.nd)
    (ss_cons (s_for (passes_of rfl) rfl (i_range1 Z.n_range (a_cons (v_var 4) a_nil)) (gv_name 6 (hN := S.nd)) gok_name (ss_cons (s_set 10 (v_op op_addA g_addA (v_up (v_var 10)) (v_up (v_ix (v_up v_str) (v_up (v_op op_mod (g_I (C := fun _ j => 0 < j) (g := fun i j => i % j)) (v_up (v_callTy call_int1 g_int Z.n_int (by kernel_rfl) (a_cons (v_up (v_var 9)) a_nil))) (v_up v_int)))))) S.nd)
    (ss_one (s_set 9 (v_op op_fdiv (g_I (C := CDiv) (g := fun i j => i / j)) (v_up (v_var 9)) (v_up v_int)) S.nd))))
    (ss_one (s_exprM (m_list 7 PySem.F.slot_list_append PySem.F.type_list_append mt_append g_app (a_cons (v_op op_addA g_addA (v_up (v_var 10)) (v_up (v_op op_mulA g_mulA (v_up v_str) (v_up (v_op op_mod (g_I (C := fun _ j => 0 < j) (g := fun i j => i % j)) (v_up (v_callTy call_int1 g_int Z.n_int (by kernel_rfl) (a_cons (v_up (v_var 8)) a_nil))) (v_up v_int)))))) a_nil))))))))
    (ss_one (s_retF 7))))))))
theorem d__law_stacked (Z : Zs G K mg) {f : Addr} {fd : FuncData} (Fn : Fun K ("_law_stacked" : Str) ("_law_stacked" : Str) (topS 44) f fd)  : FnOk P w K mg base (L2.CX P w) 1 f fd [("_law_order" : Str), ("_law_places" : Str), ("_law_count" : Str), ("_law_height" : Str)] (spM G K .sh 4 (ar4 m__law_stacked)) := by
  have S : FnScope [("_law_order" : Str), ("_law_places" : Str), ("_law_count" : Str), ("_law_height" : Str), ("_law_stacks" : Str), ("_law_k" : Str), ("_law_put" : Str), ("_law_turn" : Str), ("_law_i" : Str), ("_law_at" : Str)] [("_law_order" : Str), ("_law_places" : Str), ("_law_count" : Str), ("_law_height" : Str)] (defScope (topS 44)) := C8.fnScope_by (by decide +kernel)
  refine d_of (κ := κ__law_stacked) (m := b__law_stacked) (k := 0) Fn S (fun i hi => by revert i; decide) (fun qs hl => match qs, hl with | [_, _, _, _], _ => rfl) fun cdv A outer s H E hr => ?_
  exact (ss_cons (s_setLc 4 true (own := [(("_law_i" : Str), 8)]) rfl S.nd (i_loose (i_range1 Z.n_range (a_cons (v_var 2) a_nil))) (blkOk_by (by kernel_rfl)) (fun _ _ _ _ _ => (gv_name 8 (hN := S.nd))) (fun _ _ _ _ _ => ts_nil) (fun _ _ _ _ _ => (v_tup a_nil)) (by decide) gok_name)
    (ss_cons (s_for (passes_of rfl) rfl (i_range1 Z.n_range (a_cons (v_callB call_lenV g_len Z.n_len (by kernel_rfl) (a_cons (v_up (v_var 0)) a_nil)) a_nil)) (gv_name 5 (hN := S.nd)) gok_name (ss_cons (s_set 6 v_bl S.nd)
    (ss_cons (s_for (passes_of rfl) rfl (i_range1 Z.n_range (a_cons (v_var 2) a_nil)) (gv_name 7 (hN := S.nd)) gok_name (ss_cons (s_set 9 (v_op op_mod (g_I (C := fun _ j => 0 < j) (g := fun i j => i % j)) (v_up (v_callTy call_int1 g_int Z.n_int (by kernel_rfl) (a_cons (v_up (v_op op_addA g_addA (v_up (v_ix (v_up (v_var 1)) (v_up (v_var 5)))) (v_up (v_var 7)))) a_nil))) (v_up (v_var 2))) S.nd)
    (ss_one (s_if (t_w (tw_and (t_not (t_tru (v_up (v_var 6)))) (tw_and1 (t_cmp op_lt (g_B (g := fun i j => decide (i < j))) (v_up (v_callB call_lenV g_len Z.n_len (by kernel_rfl) (a_cons (v_up (v_ix (v_own 4) (v_up (v_var 9)))) a_nil))) (v_up (v_var 3)))))) (ss_cons (s_setI 4 (v_var 9) (v_op op_addA g_addA (v_up (v_ix (v_own 4) (v_up (v_var 9)))) (v_up (v_tup (a_cons (v_ix (v_up (v_var 0)) (v_up (v_var 5))) a_nil)))))
    (ss_one (s_set 6 v_bl S.nd))) ss_nil))))
    (ss_one (s_if (t_not (t_tru (v_up (v_var 6)))) (ss_one (s_ret v_non)) ss_nil)))))
    (ss_one (s_ret (v_callTy Lk.call_tupK g_tuple Z.n_tuple (by kernel_rfl) (a_cons (v_own 4) a_nil))))))
theorem d__law_yard (Z : Zs G K mg) {f : Addr} {fd : FuncData} (Fn : Fun K ("_law_yard" : Str) ("_law_yard" : Str) (topS 45) f fd) (D__law_draws : Dk P w K mg base 1 ("_law_draws" : Str) (spM G K .sh 3 (ar3 m__law_draws))) (D__law_stacked : Dk P w K mg base 1 ("_law_stacked" : Str) (spM G K .sh 4 (ar4 m__law_stacked))) : FnOk P w K mg base (L2.CX P w) 2 f fd [("_law_script" : Str), ("_law_k" : Str), ("_law_pool_here" : Str), ("_law_count" : Str), ("_law_height" : Str), ("_law_most" : Str)] (spM G K .sh 6 (ar6 m__law_yard)) := by
  have S : FnScope [("_law_script" : Str), ("_law_k" : Str), ("_law_pool_here" : Str), ("_law_count" : Str), ("_law_height" : Str), ("_law_most" : Str), ("_law_drawn" : Str), ("_law_size" : Str), ("_law_turn" : Str), ("_law_names" : Str)] [("_law_script" : Str), ("_law_k" : Str), ("_law_pool_here" : Str), ("_law_count" : Str), ("_law_height" : Str), ("_law_most" : Str)] (defScope (topS 45)) := C8.fnScope_by (by decide +kernel)
  refine d_of (κ := κ__law_yard) (m := b__law_yard) (k := 1) Fn S (fun i hi => by revert i; decide) (fun qs hl => match qs, hl with | [_, _, _, _, _, _], _ => rfl) fun cdv A outer s H E hr => ?_
  exact (ss_cons (s_set 6 (v_call D__law_draws (hr.mono (by decide)) (takes_of rfl rfl rfl rfl) (a_cons (v_var 0) (a_cons (v_var 1) (a_cons (v_op op_addA g_addA (v_up (v_lst (a_cons (v_op op_addA g_addA (v_up v_int) (v_up (v_var 5))) (a_cons v_int a_nil)))) (v_up (v_op op_mulA g_mulA (v_up (v_lst (a_cons (v_var 3) a_nil))) (v_up (v_var 5))))) a_nil))) ar3_len) S.nd)
    (ss_cons (s_set 7 (v_ix (v_up (v_var 6)) (v_up v_int)) S.nd)
    (ss_cons (s_if (t_cmp op_gt (g_B (g := fun i j => decide (j < i))) (v_up (v_var 7)) (v_up (v_op op_mul (g_I (C := CMul) (g := fun i j => i * j)) (v_up (v_var 3)) (v_up (v_var 4))))) (ss_one (s_set 7 (v_op op_mul (g_I (C := CMul) (g := fun i j => i * j)) (v_up (v_var 3)) (v_up (v_var 4))) S.nd)) ss_nil)
    (ss_cons (s_set 8 (v_op op_mod (g_I (C := fun _ j => 0 < j) (g := fun i j => i % j)) (v_up (v_callTy call_int1 g_int Z.n_int (by kernel_rfl) (a_cons (v_up (v_ix (v_up (v_var 6)) (v_up v_int))) a_nil))) (v_up (v_callB call_lenV g_len Z.n_len (by kernel_rfl) (a_cons (v_up (v_var 2)) a_nil)))) S.nd)
    (ss_cons (s_set 9 (v_op op_addA g_addA (v_up (v_slice sl_A g_slA (v_up (v_var 2)) (o_some (v_var 8)) o_none)) (v_up (v_slice sl_A g_slA (v_up (v_var 2)) o_none (o_some (v_var 8))))) S.nd)
    (ss_one (s_ret (v_call D__law_stacked (hr.mono (by decide)) (takes_of rfl rfl rfl rfl) (a_cons (v_slice sl_A g_slA (v_up (v_var 9)) o_none (o_some (v_var 7))) (a_cons (v_slice sl_A g_slA (v_up (v_var 6)) (o_some v_int) o_none) (a_cons (v_var 3) (a_cons (v_var 4) a_nil)))) ar4_len))))))))
theorem d__law_boxes (Z : Zs G K mg) {f : Addr} {fd : FuncData} (Fn : Fun K ("_law_boxes" : Str) ("_law_boxes" : Str) (topS 46) f fd)  : FnOk P w K mg base (L2.CX P w) 1 f fd [("_law_stacks" : Str)] (spM G K .fr 1 (ar1 m__law_boxes)) := by
  have S : FnScope [("_law_stacks" : Str), ("_law_boxes_here" : Str), ("_law_stack" : Str)] [("_law_stacks" : Str)] (defScope (topS 46)) := C8.fnScope_by (by decide +kernel)
  refine d_of (κ := κ__law_boxes) (m := b__law_boxes) (k := 0) Fn S (fun i hi => by revert i; decide) (fun qs hl => match qs, hl with | [_], _ => rfl) fun cdv A outer s H E hr => ?_
  exact (ss_cons (s_setO 1 (v_lst a_nil) S.nd)
    (ss_cons (s_for (passes_of rfl) rfl (i_seq (v_var 0)) (gv_name 2 (hN := S.nd)) gok_name (ss_one (s_setO 1 (v_op op_catR g_cat (v_own 1) (v_up (v_callTy call_list_of g_list Z.n_list (by kernel_rfl) (a_cons (v_up (v_var 2)) a_nil)))) S.nd)))
    (ss_one (s_retO 1))))
theorem d__law_events (Z : Zs G K mg) {f : Addr} {fd : FuncData} (Fn : Fun K ("_law_events" : Str) ("_law_events" : Str) (topS 47) f fd) (D__law_boxes : Dk P w K mg base 1 ("_law_boxes" : Str) (spM G K .fr 1 (ar1 m__law_boxes))) (D__law_draws : Dk P w K mg base 1 ("_law_draws" : Str) (spM G K .sh 3 (ar3 m__law_draws))) : FnOk P w K mg base (L2.CX P w) 2 f fd [("_law_script" : Str), ("_law_k" : Str), ("_law_pool_here" : Str), ("_law_stacks" : Str), ("_law_most" : Str)] (spM G K .sh 5 (ar5 m__law_events)) := by
  have S : FnScope [("_law_script" : Str), ("_law_k" : Str), ("_law_pool_here" : Str), ("_law_stacks" : Str), ("_law_most" : Str), ("_law_here" : Str), ("_law_drawn" : Str), ("_law_events_here" : Str), ("_law_j" : Str), ("_law_away" : Str), ("_law_number" : Str), ("_law_name" : Str), ("_law_other" : Str)] [("_law_script" : Str), ("_law_k" : Str), ("_law_pool_here" : Str), ("_law_stacks" : Str), ("_law_most" : Str)] (defScope (topS 47)) := C8.fnScope_by (by decide +kernel)
  refine d_of (κ := κ__law_events) (m := b__law_events) (k := 1) Fn S (fun i hi => by revert i; decide) (fun qs hl => match qs, hl with | [_, _, _, _, _], _ => rfl) fun cdv A outer s H E hr => ?_
  exact (ss_cons (s_set 5 (v_freeze (v_call D__law_boxes (hr.mono (by decide)) (takes_of rfl rfl rfl rfl) (a_cons (v_var 3) a_nil) ar1_len)) S.nd)
    (ss_cons (s_set 6 (v_call D__law_draws (hr.mono (by decide)) (takes_of rfl rfl rfl rfl) (a_cons (v_var 0) (a_cons (v_var 1) (a_cons (v_op op_addA g_addA (v_up (v_lst (a_cons (v_op op_addA g_addA (v_up v_int) (v_up (v_var 4))) a_nil))) (v_up (v_op op_mulA g_mulA (v_up (v_lst (a_cons v_int (a_cons v_int a_nil)))) (v_up (v_var 4))))) a_nil))) ar3_len) S.nd)
    (ss_cons (s_setO 7 (v_lst a_nil) S.nd)
    (ss_cons (s_for (passes_of rfl) rfl (i_range1 Z.n_range (a_cons (v_ix (v_up (v_var 6)) (v_up v_int)) a_nil)) (gv_name 8 (hN := S.nd)) gok_name (ss_cons (s_setLc 9 false (own := [(("_law_name" : Str), 11)]) rfl S.nd (i_loose (i_seq (v_var 2))) (blkOk_by (by kernel_rfl)) (fun _ _ _ _ _ => (gv_name 11 (hN := S.nd))) (fun _ _ _ _ _ => (ts_one (t_cmp (op_notInA (hu65 hr)) (g_inA (n := true)) (v_up (v_var 11)) (v_up (v_var 5))))) (fun _ _ _ _ _ => (v_var 11)) (by decide) gok_name)
    (ss_cons (s_set 10 (v_ix (v_up (v_var 6)) (v_up (v_op op_addA g_addA (v_up v_int) (v_up (v_op op_mul (g_I (C := CMul) (g := fun i j => i * j)) (v_up v_int) (v_up (v_var 8))))))) S.nd)
    (ss_one (s_if (t_w (tw_and (t_cmp op_gt (g_B (g := fun i j => decide (j < i))) (v_up (v_callB call_lenV g_len Z.n_len (by kernel_rfl) (a_cons (v_up (v_var 5)) a_nil))) (v_up v_int)) (tw_and1 (t_w (tw_or (t_cmp op_lt (g_B (g := fun i j => decide (i < j))) (v_up (v_ix (v_up (v_var 6)) (v_up (v_op op_addA g_addA (v_up v_int) (v_up (v_op op_mul (g_I (C := CMul) (g := fun i j => i * j)) (v_up v_int) (v_up (v_var 8)))))))) (v_up v_int)) (tw_or (t_cmp (op_eqD hr.units) g_eq (v_up (v_callB call_lenV g_len Z.n_len (by kernel_rfl) (a_cons (v_up (v_var 9)) a_nil))) (v_up v_int)) (tw_or1 (t_cmp op_gt (g_B (g := fun i j => decide (j < i))) (v_up (v_callB call_lenV g_len Z.n_len (by kernel_rfl) (a_cons (v_up (v_var 5)) a_nil))) (v_up v_int))))))))) (ss_cons (s_set 11 (v_ix (v_up (v_var 5)) (v_up (v_op op_mod (g_I (C := fun _ j => 0 < j) (g := fun i j => i % j)) (v_up (v_callTy call_int1 g_int Z.n_int (by kernel_rfl) (a_cons (v_up (v_var 10)) a_nil))) (v_up (v_callB call_lenV g_len Z.n_len (by kernel_rfl) (a_cons (v_up (v_var 5)) a_nil)))))) S.nd)
    (ss_cons (s_exprM (m_list 7 PySem.F.slot_list_append PySem.F.type_list_append mt_append g_app (a_cons (v_tup (a_cons v_str (a_cons (v_var 11) a_nil))) a_nil)))
    (ss_one (s_set 5 (v_freeze (v_lc (own := [(("_law_other" : Str), 12)]) rfl S.nd (i_loose (i_seq (v_var 5))) (blkOk_by (by kernel_rfl)) (fun _ _ _ _ _ => (gv_name 12 (hN := S.nd))) (fun _ _ _ _ _ => (ts_one (t_cmp (op_neD hr.units) g_ne (v_up (v_var 12)) (v_up (v_var 11))))) (fun _ _ _ _ _ => (v_var 12)) (by decide) gok_name)) S.nd)))) (ss_cons (s_set 11 (v_ix (v_up (v_var 9)) (v_up (v_op op_mod (g_I (C := fun _ j => 0 < j) (g := fun i j => i % j)) (v_up (v_callTy call_int1 g_int Z.n_int (by kernel_rfl) (a_cons (v_up (v_var 10)) a_nil))) (v_up (v_callB call_lenV g_len Z.n_len (by kernel_rfl) (a_cons (v_up (v_var 9)) a_nil)))))) S.nd)
    (ss_cons (s_exprM (m_list 7 PySem.F.slot_list_append PySem.F.type_list_append mt_append g_app (a_cons (v_tup (a_cons v_str (a_cons (v_var 11) a_nil))) a_nil)))
    (ss_one (s_set 5 (v_op op_addA g_addA (v_up (v_var 5)) (v_up (v_lst (a_cons (v_var 11) a_nil)))) S.nd)))))))))
    (ss_one (s_ret (v_callTy Lk.call_tupK g_tuple Z.n_tuple (by kernel_rfl) (a_cons (v_own 7) a_nil))))))))
theorem d_is_sequence (Z : Zs G K mg) {f : Addr} {fd : FuncData} (Fn : Fun K ("is_sequence" : Str) ("is_sequence" : Str) (topS 6) f fd)  : FnOk P w K mg base (L2.CX P w) 1 f fd [("value" : Str)] (spM G K .sh 1 (ar1 m_is_sequence)) := by
  have S : FnScope [("value" : Str)] [("value" : Str)] (defScope (topS 6)) := C8.fnScope_by (by decide +kernel)
  refine d_of (κ := κ_is_sequence) (m := b_is_sequence) (k := 0) Fn S (fun i hi => by revert i; decide) (fun qs hl => match qs, hl with | [_], _ => rfl) fun cdv A outer s H E hr => ?_
  exact (ss_one (s_ret (v_isi2 "list" "tuple" (v_up (v_var 0)) Z.n_isinstance Z.n_list Z.n_tuple (by kernel_rfl) (by kernel_rfl))))
theorem d_boxes_of (Z : Zs G K mg) {f : Addr} {fd : FuncData} (Fn : Fun K ("boxes_of" : Str) ("boxes_of" : Str) (topS 21) f fd)  : FnOk P w K mg base (L2.CX P w) 1 f fd [("yard" : Str)] (spM G K .sh 1 (ar1 m_boxes_of)) := by
  have S : FnScope [("yard" : Str), ("stack" : Str), ("name" : Str)] [("yard" : Str)] (defScope (topS 21)) := C8.fnScope_by (by decide +kernel)
  refine d_of (κ := κ_boxes_of) (m := b_boxes_of) (k := 0) Fn S (fun i hi => by revert i; decide) (fun qs hl => match qs, hl with | [_], _ => rfl) fun cdv A outer s H E hr => ?_
  exact (ss_one (s_ret (v_callTy Lk.call_tupK g_tuple Z.n_tuple (by kernel_rfl) (a_cons (v_up (v_lc2 (own := [(("stack" : Str), 1), (("name" : Str), 2)]) (own1 := [2]) rfl S.nd (i_loose (i_seq (v_att (fun c => c == 5) (fun c h => by obtain rfl := eq_of_beq h; exact Z.at_5_stacks) (v_up (v_var 0))))) (blkOk_by (by kernel_rfl)) (by decide) (fun _ _ _ _ _ => (gv_name 1 (hN := S.nd))) (fun _ _ _ _ _ => ts_nil) (fun _ _ _ _ _ => (i_seq (v_var 1))) (fun _ _ _ _ _ => (gv_name 2 (hN := S.nd))) (fun _ _ _ _ _ => ts_nil) (fun _ _ _ _ _ => (v_var 2)) (by decide) gok_name (by decide) gok_name)) a_nil))))
theorem d_is_name (Z : Zs G K mg) {f : Addr} {fd : FuncData} (Fn : Fun K ("is_name" : Str) ("is_name" : Str) (topS 7) f fd)  : FnOk P w K mg base (L2.CX P w) 1 f fd [("value" : Str)] (spM G K .sh 1 (ar1 m_is_name)) := by
  have S : FnScope [("value" : Str), ("sign" : Str)] [("value" : Str)] (defScope (topS 7)) := C8.fnScope_by (by decide +kernel)
  refine d_of (κ := κ_is_name) (m := b_is_name) (k := 0) Fn S (fun i hi => by revert i; decide) (fun qs hl => match qs, hl with | [_], _ => rfl) fun cdv A outer s H E hr => ?_
  exact (ss_cons (s_if (t_w (tw_or (t_not (t_val (v_callB call_isi g_isi Z.n_isinstance (by kernel_rfl) (a_cons (v_up (v_var 0)) (a_cons (v_up (v_gty Z.n_str (by kernel_rfl))) a_nil))))) (tw_or1 (t_not (t_chain op_le op_le (g_B (g := fun i j => decide (i ≤ j))) (g_B (g := fun i j => decide (i ≤ j))) (v_up v_int) (v_up (v_callB call_lenV g_len Z.n_len (by kernel_rfl) (a_cons (v_up (v_var 0)) a_nil))) (v_up (v_gintE Z.g_MOST_LETTERS))))))) (ss_one (s_ret v_bl)) ss_nil)
    (ss_one (s_ret (v_callB (cr_all rfl) g_all Z.n_all (by kernel_rfl) (a_cons (v_up (v_lc (own := [(("sign" : Str), 1)]) rfl S.nd (i_loose (i_seq (v_var 0))) (blkOk_by (by kernel_rfl)) (fun _ _ _ _ _ => (gv_name 1 (hN := S.nd))) (fun _ _ _ _ _ => ts_nil) (fun _ _ _ _ _ => (v_cmp op_inV (g_in (n := false)) (v_up (v_var 1)) (v_up (v_gstrE Z.g_LETTERS)))) (by decide) gok_name)) a_nil)))))
theorem d_is_event (Z : Zs G K mg) {f : Addr} {fd : FuncData} (Fn : Fun K ("is_event" : Str) ("is_event" : Str) (topS 25) f fd) (D_is_name : Dk P w K mg base 1 ("is_name" : Str) (spM G K .sh 1 (ar1 m_is_name))) : FnOk P w K mg base (L2.CX P w) 2 f fd [("value" : Str)] (spM G K .sh 1 (ar1 m_is_event)) := by
  have S : FnScope [("value" : Str)] [("value" : Str)] (defScope (topS 25)) := C8.fnScope_by (by decide +kernel)
  refine d_of (κ := κ_is_event) (m := b_is_event) (k := 1) Fn S (fun i hi => by revert i; decide) (fun qs hl => match qs, hl with | [_], _ => rfl) fun cdv A outer s H E hr => ?_
  exact (ss_cons (s_if (t_w (tw_or (t_not (t_val (v_callB call_isi g_isi Z.n_isinstance (by kernel_rfl) (a_cons (v_up (v_var 0)) (a_cons (v_up (v_gty Z.n_tuple (by kernel_rfl))) a_nil))))) (tw_or (t_cmp (op_neD hr.units) g_ne (v_up (v_callB call_lenV g_len Z.n_len (by kernel_rfl) (a_cons (v_up (v_var 0)) a_nil))) (v_up v_int)) (tw_or1 (t_not (t_val (v_callB call_isi g_isi Z.n_isinstance (by kernel_rfl) (a_cons (v_up (v_ix (v_up (v_var 0)) (v_up v_int))) (a_cons (v_up (v_gty Z.n_str (by kernel_rfl))) a_nil))))))))) (ss_one (s_ret v_bl)) ss_nil)
    (ss_one (s_ret (v_and (v_cmp op_inV (g_in (n := false)) (v_up (v_ix (v_up (v_var 0)) (v_up v_int))) (v_up (v_tup (a_cons (v_gstrE Z.g_IN) (a_cons (v_gstrE Z.g_OUT) a_nil))))) (v_one (v_call D_is_name (hr.mono (by decide)) (takes_of rfl rfl rfl rfl) (a_cons (v_ix (v_up (v_var 0)) (v_up v_int)) a_nil) ar1_len))))))
theorem d_as_events (Z : Zs G K mg) {f : Addr} {fd : FuncData} (Fn : Fun K ("as_events" : Str) ("as_events" : Str) (topS 26) f fd) (D_is_sequence : Dk P w K mg base 1 ("is_sequence" : Str) (spM G K .sh 1 (ar1 m_is_sequence))) (D_is_event : Dk P w K mg base 2 ("is_event" : Str) (spM G K .sh 1 (ar1 m_is_event))) (D_boxes_of : Dk P w K mg base 1 ("boxes_of" : Str) (spM G K .sh 1 (ar1 m_boxes_of))) : FnOk P w K mg base (L2.CX P w) 3 f fd [("yard" : Str), ("value" : Str)] (spM G K .sh 2 (ar2 m_as_events)) := by
  have S : FnScope [("yard" : Str), ("value" : Str), ("there" : Str), ("word" : Str), ("name" : Str), ("event" : Str)] [("yard" : Str), ("value" : Str)] (defScope (topS 26)) := C8.fnScope_by (by decide +kernel)
  refine d_of (κ := κ_as_events) (m := b_as_events) (k := 2) Fn S (fun i hi => by revert i; decide) (fun qs hl => match qs, hl with | [_, _], _ => rfl) fun cdv A outer s H E hr => ?_
  exact (ss_cons (s_if (t_w (tw_or (t_not (t_val (v_call D_is_sequence (hr.mono (by decide)) (takes_of rfl rfl rfl rfl) (a_cons (v_var 1) a_nil) ar1_len))) (tw_or1 (t_not (t_val (v_callB (cr_all rfl) g_all Z.n_all (by kernel_rfl) (a_cons (v_up (v_lc (own := [(("event" : Str), 5)]) rfl S.nd (i_loose (i_seq (v_var 1))) (blkOk_by (by kernel_rfl)) (fun _ _ _ _ _ => (gv_name 5 (hN := S.nd))) (fun _ _ _ _ _ => ts_nil) (fun _ _ _ _ _ => (v_call D_is_event (hr.mono (by decide)) (takes0) (a_cons (v_var 5) a_nil) ar1_len)) (by decide) gok_name)) a_nil))))))) (ss_one (s_ret v_non)) ss_nil)
    (ss_cons (s_setDc 2 true (own := [(("name" : Str), 4)]) rfl S.nd (i_loose (i_seq (v_call D_boxes_of (hr.mono (by decide)) (takes_of rfl rfl rfl rfl) (a_cons (v_var 0) a_nil) ar1_len))) (blkOk_by (by kernel_rfl)) (fun _ _ _ _ _ => (gv_name 4 (hN := S.nd))) (fun _ _ _ _ _ => ts_nil) (fun _ _ _ _ _ => (v_var 4)) (fun _ _ _ _ _ => v_bl) (by decide) gok_name)
    (ss_cons (s_for (passes_of rfl) rfl (i_seq (v_var 1)) (gv_tup rfl (gvs_cons (gv_name 3 (hN := S.nd)) (gvs_cons (gv_name 4 (hN := S.nd)) gvs_nil (fun _ _ => rfl)) (fun _ _ => rfl))) (gok_tup (goks_cons gok_name (goks_cons gok_name goks_nil))) (ss_cons (s_if (t_cmp (op_eqD hr.units) g_eq (v_up (v_din (hu_of hr) (v_var 4) (v_own 2))) (v_up (v_cmp (op_eqD hr.units) g_eq (v_up (v_var 3)) (v_up (v_gstrE Z.g_IN))))) (ss_one (s_ret v_non)) ss_nil)
    (ss_one (s_if (t_cmp (op_eqD hr.units) g_eq (v_up (v_var 3)) (v_up (v_gstrE Z.g_IN))) (ss_one (s_put 2 (hu_of hr) (v_var 4) v_bl)) (ss_one (s_del 2 (v_var 4)))))))
    (ss_one (s_ret (v_callTy Lk.call_tupK g_tuple Z.n_tuple (by kernel_rfl) (a_cons (v_up (v_var 1)) a_nil)))))))
theorem d_Day (Z : Zs G K mg) {f : Addr} {fd : FuncData} (Fn : Fun K "__init__" ("Day.__init__" : Str) (inClass (topS 27) 0) f fd) (D_as_events : Dk P w K mg base 3 ("as_events" : Str) (spM G K .sh 2 (ar2 m_as_events))) (X_InvalidDay : ExcC P w K mg base 1 ("InvalidDay" : Str) (G 2) (spX1 (G 2) ("value" : Str))) : FnOk P w K mg base (L2.CX P w) 4 f fd [("self" : Str), ("yard" : Str), ("events" : Str)] (spI G K 6 2 (ar2 m_Day)) := by
  have S : FnScope [("self" : Str), ("yard" : Str), ("events" : Str), ("told" : Str)] [("self" : Str), ("yard" : Str), ("events" : Str)] (defScope (inClass (topS 27) 0)) := C8.fnScope_by (by decide +kernel)
  refine d_init (κ := κ_Day) (m := b_Day) (k := 3) (n := 2) Fn S rfl rfl (fun i hi => by revert i; decide) (fun qs hl => match qs, hl with | [_, _], _ => rfl) fun cdv A outer s H E hr => ?_
  exact (ss_cons (s_set 3 (v_call D_as_events (hr.mono (by decide)) (takes_of rfl rfl rfl rfl) (a_cons (v_var 1) (a_cons (v_var 2) a_nil)) ar2_len) S.nd)
    (ss_cons (s_if (t_cmp op_isN g_isN (v_up (v_var 3)) (v_up v_non)) (ss_one (s_raise rfl (takes_of rfl rfl rfl rfl) X_InvalidDay (hr.mono (by decide)) (v_var 2))) ss_nil)
    (ss_cons (s_fld 0 6 Z.at_6_yard.1 Z.at_6_yard.2 (v_var 1))
    (ss_one (s_fld 0 6 Z.at_6_events.1 Z.at_6_events.2 (v_var 3))))))
theorem d__law_present (Z : Zs G K mg) {f : Addr} {fd : FuncData} (Fn : Fun K ("_law_present" : Str) ("_law_present" : Str) (topS 48) f fd) (D__law_boxes : Dk P w K mg base 1 ("_law_boxes" : Str) (spM G K .fr 1 (ar1 m__law_boxes))) : FnOk P w K mg base (L2.CX P w) 2 f fd [("_law_stacks" : Str), ("_law_events_here" : Str), ("_law_e" : Str)] (spM G K .fr 3 (ar3 m__law_present)) := by
  have S : FnScope [("_law_stacks" : Str), ("_law_events_here" : Str), ("_law_e" : Str), ("_law_here" : Str), ("_law_event" : Str), ("_law_name" : Str)] [("_law_stacks" : Str), ("_law_events_here" : Str), ("_law_e" : Str)] (defScope (topS 48)) := C8.fnScope_by (by decide +kernel)
  refine d_of (κ := κ__law_present) (m := b__law_present) (k := 1) Fn S (fun i hi => by revert i; decide) (fun qs hl => match qs, hl with | [_, _, _], _ => rfl) fun cdv A outer s H E hr => ?_
  exact (ss_cons (s_setO 3 (v_call D__law_boxes (hr.mono (by decide)) (takes_of rfl rfl rfl rfl) (a_cons (v_var 0) a_nil) ar1_len) S.nd)
    (ss_cons (s_for (passes_of rfl) rfl (i_seq (v_slice sl_A g_slA (v_up (v_var 1)) o_none (o_some (v_var 2)))) (gv_name 4 (hN := S.nd)) gok_name (ss_one (s_if (t_cmp (op_eqD hr.units) g_eq (v_up (v_ix (v_up (v_var 4)) (v_up v_int))) (v_up v_str)) (ss_one (s_setO 3 (v_op op_catR g_cat (v_own 3) (v_up (v_lst (a_cons (v_ix (v_up (v_var 4)) (v_up v_int)) a_nil)))) S.nd)) (ss_one (s_setLc 3 true (own := [(("_law_name" : Str), 5)]) rfl S.nd (i_own (v_own 3)) (blkOk_by (by kernel_rfl)) (fun _ _ _ _ _ => (gv_name 5 (hN := S.nd))) (fun _ _ _ _ _ => (ts_one (t_cmp (op_neD hr.units) g_ne (v_up (v_var 5)) (v_up (v_ix (v_up (v_var 4)) (v_up v_int)))))) (fun _ _ _ _ _ => (v_var 5)) (by decide) gok_name)))))
    (ss_one (s_retO 3))))
theorem d__law_state (Z : Zs G K mg) {f : Addr} {fd : FuncData} (Fn : Fun K ("_law_state" : Str) ("_law_state" : Str) (topS 49) f fd) (D__law_draws : Dk P w K mg base 1 ("_law_draws" : Str) (spM G K .sh 3 (ar3 m__law_draws))) (D__law_present : Dk P w K mg base 2 ("_law_present" : Str) (spM G K .fr 3 (ar3 m__law_present))) (D__law_stacked : Dk P w K mg base 1 ("_law_stacked" : Str) (spM G K .sh 4 (ar4 m__law_stacked))) : FnOk P w K mg base (L2.CX P w) 3 f fd [("_law_script" : Str), ("_law_k" : Str), ("_law_height" : Str), ("_law_stacks" : Str), ("_law_events_here" : Str)] (spM G K .sh 5 (ar5 m__law_state)) := by
  have S : FnScope [("_law_script" : Str), ("_law_k" : Str), ("_law_height" : Str), ("_law_stacks" : Str), ("_law_events_here" : Str), ("_law_drawn" : Str), ("_law_e" : Str), ("_law_left" : Str), ("_law_number" : Str), ("_law_order" : Str), ("_law_turn" : Str), ("_law_arranged" : Str)] [("_law_script" : Str), ("_law_k" : Str), ("_law_height" : Str), ("_law_stacks" : Str), ("_law_events_here" : Str)] (defScope (topS 49)) := C8.fnScope_by (by decide +kernel)
  refine d_of (κ := κ__law_state) (m := b__law_state) (k := 2) Fn S (fun i hi => by revert i; decide) (fun qs hl => match qs, hl with | [_, _, _, _, _], _ => rfl) fun cdv A outer s H E hr => ?_
  exact (ss_cons (s_set 5 (v_call D__law_draws (hr.mono (by decide)) (takes_of rfl rfl rfl rfl) (a_cons (v_var 0) (a_cons (v_var 1) (a_cons (v_op op_addA g_addA (v_up (v_lst (a_cons v_int (a_cons v_int (a_cons v_int a_nil))))) (v_up (v_op op_mulA g_mulA (v_up (v_lst (a_cons v_int a_nil))) (v_up v_int)))) a_nil))) ar3_len) S.nd)
    (ss_cons (s_set 6 (v_op op_mod (g_I (C := fun _ j => 0 < j) (g := fun i j => i % j)) (v_up (v_callTy call_int1 g_int Z.n_int (by kernel_rfl) (a_cons (v_up (v_ix (v_up (v_var 5)) (v_up v_int))) a_nil))) (v_up (v_op op_addA g_addA (v_up v_int) (v_up (v_callB call_lenV g_len Z.n_len (by kernel_rfl) (a_cons (v_up (v_var 4)) a_nil)))))) S.nd)
    (ss_cons (s_setO 7 (v_call D__law_present (hr.mono (by decide)) (takes_of rfl rfl rfl rfl) (a_cons (v_var 3) (a_cons (v_var 4) (a_cons (v_var 6) a_nil))) ar3_len) S.nd)
    (ss_cons (s_set 8 (v_ix (v_up (v_var 5)) (v_up v_int)) S.nd)
    (ss_cons (s_setO 9 (v_lst a_nil) S.nd)
    (ss_cons (s_for (passes_of rfl) rfl (i_range1 Z.n_range (a_cons (v_callB call_lenV g_len Z.n_len (by kernel_rfl) (a_cons (v_own 7) a_nil)) a_nil)) (gv_name 10 (hN := S.nd)) gok_name (ss_cons (s_exprM (m_listM 9 PySem.F.slot_list_append PySem.F.type_list_append mt_append g_app (m_list 7 PySem.F.slot_list_pop PySem.F.type_list_pop mt_popAt g_popAt (a_cons (v_op op_mod (g_I (C := fun _ j => 0 < j) (g := fun i j => i % j)) (v_up (v_callTy call_int1 g_int Z.n_int (by kernel_rfl) (a_cons (v_up (v_var 8)) a_nil))) (v_up (v_callB call_lenV g_len Z.n_len (by kernel_rfl) (a_cons (v_own 7) a_nil)))) a_nil))))
    (ss_one (s_set 8 (v_op op_fdivW (g_I (C := CDivW) (g := fun i j => i / j)) (v_up (v_var 8)) (v_up (v_op op_addA g_addA (v_up v_int) (v_up (v_callB call_lenV g_len Z.n_len (by kernel_rfl) (a_cons (v_own 7) a_nil)))))) S.nd))))
    (ss_free 9 (ss_cons (s_set 11 (v_call D__law_stacked (hr.mono (by decide)) (takes_of rfl rfl rfl rfl) (a_cons (v_var 9) (a_cons (v_op op_addA g_addA (v_up (v_slice sl_A g_slA (v_up (v_var 5)) (o_some v_int) o_none)) (v_up (v_op op_mulA g_mulA (v_up (v_lst (a_cons v_int a_nil))) (v_up (v_callB call_lenV g_len Z.n_len (by kernel_rfl) (a_cons (v_up (v_var 9)) a_nil)))))) (a_cons (v_callB call_lenV g_len Z.n_len (by kernel_rfl) (a_cons (v_up (v_var 3)) a_nil)) (a_cons (v_var 2) a_nil)))) ar4_len) S.nd)
    (ss_cons (s_if (t_w (tw_or (t_w (tw_and (t_cmp (op_eqD hr.units) g_eq (v_up (v_var 6)) (v_up v_int)) (tw_and1 (t_cmp (op_eqD hr.units) g_eq (v_up (v_ix (v_up (v_var 5)) (v_up v_int))) (v_up v_int))))) (tw_or1 (t_cmp op_isN g_isN (v_up (v_var 11)) (v_up v_non))))) (ss_one (s_ret (v_tup (a_cons v_int (a_cons (v_var 3) a_nil))))) ss_nil)
    (ss_one (s_ret (v_tup (a_cons (v_var 6) (a_cons (v_var 11) a_nil))))))))))))))
theorem d_goings (Z : Zs G K mg) {f : Addr} {fd : FuncData} (Fn : Fun K ("goings" : Str) ("goings" : Str) (topS 30) f fd)  : FnOk P w K mg base (L2.CX P w) 1 f fd [("day" : Str), ("e" : Str)] (spM G K .sh 2 (ar2 m_goings)) := by
  have S : FnScope [("day" : Str), ("e" : Str), ("found" : Str), ("at" : Str), ("word" : Str), ("name" : Str)] [("day" : Str), ("e" : Str)] (defScope (topS 30)) := C8.fnScope_by (by decide +kernel)
  refine d_of (κ := κ_goings) (m := b_goings) (k := 0) Fn S (fun i hi => by revert i; decide) (fun qs hl => match qs, hl with | [_, _], _ => rfl) fun cdv A outer s H E hr => ?_
  exact (ss_cons (s_setO 2 v_dnew S.nd)
    (ss_cons (s_for (passes_of rfl) rfl (i_range2 Z.n_range (a_cons (v_var 1) (a_cons (v_callB call_lenV g_len Z.n_len (by kernel_rfl) (a_cons (v_up (v_att (fun c => c == 6) (fun c h => by obtain rfl := eq_of_beq h; exact Z.at_6_events) (v_up (v_var 0)))) a_nil)) a_nil))) (gv_name 3 (hN := S.nd)) gok_name (ss_cons (s_asg (v_ix (v_up (v_att (fun c => c == 6) (fun c h => by obtain rfl := eq_of_beq h; exact Z.at_6_events) (v_up (v_var 0)))) (v_up (v_var 3))) (gv_tup rfl (gvs_cons (gv_name 4 (hN := S.nd)) (gvs_cons (gv_name 5 (hN := S.nd)) gvs_nil (fun _ _ => rfl)) (fun _ _ => rfl))) (gok_tup (goks_cons gok_name (goks_cons gok_name goks_nil))))
    (ss_one (s_if (t_w (tw_and (t_cmp (op_eqD hr.units) g_eq (v_up (v_var 4)) (v_up (v_gstrE Z.g_OUT))) (tw_and1 (t_dnin (hu_of hr) (v_var 5) (v_own 2))))) (ss_one (s_put 2 (hu_of hr) (v_var 5) (v_var 3))) ss_nil))))
    (ss_one (s_retF 2))))
theorem d_is_integer (Z : Zs G K mg) {f : Addr} {fd : FuncData} (Fn : Fun K ("is_integer" : Str) ("is_integer" : Str) (topS 4) f fd)  : FnOk P w K mg base (L2.CX P w) 1 f fd [("value" : Str)] (spM G K .sh 1 (ar1 m_is_integer)) := by
  have S : FnScope [("value" : Str)] [("value" : Str)] (defScope (topS 4)) := C8.fnScope_by (by decide +kernel)
  refine d_of (κ := κ_is_integer) (m := b_is_integer) (k := 0) Fn S (fun i hi => by revert i; decide) (fun qs hl => match qs, hl with | [_], _ => rfl) fun cdv A outer s H E hr => ?_
  exact (ss_one (s_ret (v_and (v_callB call_isi g_isi Z.n_isinstance (by kernel_rfl) (a_cons (v_up (v_var 0)) (a_cons (v_up (v_gty Z.n_int (by kernel_rfl))) a_nil))) (v_one (v_not (v_callB call_isi g_isi Z.n_isinstance (by kernel_rfl) (a_cons (v_up (v_var 0)) (a_cons (v_up (v_gty Z.n_bool (by kernel_rfl))) a_nil))))))))
theorem d_is_number (Z : Zs G K mg) {f : Addr} {fd : FuncData} (Fn : Fun K ("is_number" : Str) ("is_number" : Str) (topS 5) f fd) (D_is_integer : Dk P w K mg base 1 ("is_integer" : Str) (spM G K .sh 1 (ar1 m_is_integer))) : FnOk P w K mg base (L2.CX P w) 2 f fd [("value" : Str)] (spM G K .sh 1 (ar1 m_is_number)) := by
  have S : FnScope [("value" : Str)] [("value" : Str)] (defScope (topS 5)) := C8.fnScope_by (by decide +kernel)
  refine d_of (κ := κ_is_number) (m := b_is_number) (k := 1) Fn S (fun i hi => by revert i; decide) (fun qs hl => match qs, hl with | [_], _ => rfl) fun cdv A outer s H E hr => ?_
  exact (ss_one (s_ret (v_and (v_call D_is_integer (hr.mono (by decide)) (takes_of rfl rfl rfl rfl) (a_cons (v_var 0) a_nil) ar1_len) (v_one (v_cmp op_ge (g_B (g := fun i j => decide (j ≤ i))) (v_up (v_var 0)) (v_up v_int))))))
theorem d_boxes_at (Z : Zs G K mg) {f : Addr} {fd : FuncData} (Fn : Fun K ("boxes_at" : Str) ("boxes_at" : Str) (topS 28) f fd) (D_is_number : Dk P w K mg base 2 ("is_number" : Str) (spM G K .sh 1 (ar1 m_is_number))) (X_InvalidNumber : ExcC P w K mg base 1 ("InvalidNumber" : Str) (G 3) (spX1 (G 3) ("value" : Str))) (D_boxes_of : Dk P w K mg base 1 ("boxes_of" : Str) (spM G K .sh 1 (ar1 m_boxes_of))) : FnOk P w K mg base (L2.CX P w) 3 f fd [("day" : Str), ("e" : Str)] (spM G K .sh 2 (ar2 m_boxes_at)) := by
  have S : FnScope [("day" : Str), ("e" : Str), ("there" : Str), ("word" : Str), ("name" : Str)] [("day" : Str), ("e" : Str)] (defScope (topS 28)) := C8.fnScope_by (by decide +kernel)
  refine d_of (κ := κ_boxes_at) (m := b_boxes_at) (k := 2) Fn S (fun i hi => by revert i; decide) (fun qs hl => match qs, hl with | [_, _], _ => rfl) fun cdv A outer s H E hr => ?_
  exact (ss_cons (s_if (t_w (tw_or (t_not (t_val (v_call D_is_number (hr.mono (by decide)) (takes_of rfl rfl rfl rfl) (a_cons (v_var 1) a_nil) ar1_len))) (tw_or1 (t_cmp op_gt (g_B (g := fun i j => decide (j < i))) (v_up (v_var 1)) (v_up (v_callB call_lenV g_len Z.n_len (by kernel_rfl) (a_cons (v_up (v_att (fun c => c == 6) (fun c h => by obtain rfl := eq_of_beq h; exact Z.at_6_events) (v_up (v_var 0)))) a_nil))))))) (ss_one (s_raise rfl (takes_of rfl rfl rfl rfl) X_InvalidNumber (hr.mono (by decide)) (v_var 1))) ss_nil)
    (ss_cons (s_setDc 2 true (own := [(("name" : Str), 4)]) rfl S.nd (i_loose (i_seq (v_call D_boxes_of (hr.mono (by decide)) (takes_of rfl rfl rfl rfl) (a_cons (v_att (fun c => c == 6) (fun c h => by obtain rfl := eq_of_beq h; exact Z.at_6_yard) (v_up (v_var 0))) a_nil) ar1_len))) (blkOk_by (by kernel_rfl)) (fun _ _ _ _ _ => (gv_name 4 (hN := S.nd))) (fun _ _ _ _ _ => ts_nil) (fun _ _ _ _ _ => (v_var 4)) (fun _ _ _ _ _ => v_bl) (by decide) gok_name)
    (ss_cons (s_for (passes_of rfl) rfl (i_seq (v_slice sl_A g_slA (v_up (v_att (fun c => c == 6) (fun c h => by obtain rfl := eq_of_beq h; exact Z.at_6_events) (v_up (v_var 0)))) o_none (o_some (v_var 1)))) (gv_tup rfl (gvs_cons (gv_name 3 (hN := S.nd)) (gvs_cons (gv_name 4 (hN := S.nd)) gvs_nil (fun _ _ => rfl)) (fun _ _ => rfl))) (gok_tup (goks_cons gok_name (goks_cons gok_name goks_nil))) (ss_one (s_if (t_cmp (op_eqD hr.units) g_eq (v_up (v_var 3)) (v_up (v_gstrE Z.g_IN))) (ss_one (s_put 2 (hu_of hr) (v_var 4) v_bl)) (ss_one (s_del 2 (v_var 4))))))
    (ss_one (s_ret (v_callTy Lk.call_tupK g_tuple Z.n_tuple (by kernel_rfl) (a_cons (v_up (v_callB cr_sortedS g_sortS Z.n_sorted (by kernel_rfl) (a_cons (v_up (v_callTy (call_listD rfl) g_listD Z.n_list (by kernel_rfl) (a_cons (v_own 2) a_nil))) a_nil))) a_nil)))))))
theorem d_are_unlike (Z : Zs G K mg) {f : Addr} {fd : FuncData} (Fn : Fun K ("are_unlike" : Str) ("are_unlike" : Str) (topS 8) f fd)  : FnOk P w K mg base (L2.CX P w) 1 f fd [("names" : Str)] (spM G K .sh 1 (ar1 m_are_unlike)) := by
  have S : FnScope [("names" : Str), ("name" : Str)] [("names" : Str)] (defScope (topS 8)) := C8.fnScope_by (by decide +kernel)
  refine d_of (κ := κ_are_unlike) (m := b_are_unlike) (k := 0) Fn S (fun i hi => by revert i; decide) (fun qs hl => match qs, hl with | [_], _ => rfl) fun cdv A outer s H E hr => ?_
  exact (ss_one (s_ret (v_cmp (op_eqD hr.units) g_eq (v_up (v_callB call_lenV g_len Z.n_len (by kernel_rfl) (a_cons (v_up (v_dc (own := [(("name" : Str), 1)]) rfl S.nd (i_loose (i_seq (v_var 0))) (blkOk_by (by kernel_rfl)) (fun _ _ _ _ _ => (gv_name 1 (hN := S.nd))) (fun _ _ _ _ _ => ts_nil) (fun _ _ _ _ _ => (v_var 1)) (fun _ _ _ _ _ => v_bl) (by decide) gok_name)) a_nil))) (v_up (v_callB call_lenV g_len Z.n_len (by kernel_rfl) (a_cons (v_up (v_var 0)) a_nil))))))
theorem d_as_stacks (Z : Zs G K mg) {f : Addr} {fd : FuncData} (Fn : Fun K ("as_stacks" : Str) ("as_stacks" : Str) (topS 18) f fd) (D_is_sequence : Dk P w K mg base 1 ("is_sequence" : Str) (spM G K .sh 1 (ar1 m_is_sequence))) (D_is_name : Dk P w K mg base 1 ("is_name" : Str) (spM G K .sh 1 (ar1 m_is_name))) (D_are_unlike : Dk P w K mg base 1 ("are_unlike" : Str) (spM G K .sh 1 (ar1 m_are_unlike))) : FnOk P w K mg base (L2.CX P w) 2 f fd [("height" : Str), ("value" : Str)] (spM G K .sh 2 (ar2 m_as_stacks)) := by
  have S : FnScope [("height" : Str), ("value" : Str), ("stacks" : Str), ("names" : Str), ("stack" : Str), ("name" : Str)] [("height" : Str), ("value" : Str)] (defScope (topS 18)) := C8.fnScope_by (by decide +kernel)
  refine d_of (κ := κ_as_stacks) (m := b_as_stacks) (k := 1) Fn S (fun i hi => by revert i; decide) (fun qs hl => match qs, hl with | [_, _], _ => rfl) fun cdv A outer s H E hr => ?_
  exact (ss_cons (s_if (t_w (tw_or (t_not (t_val (v_call D_is_sequence (hr.mono (by decide)) (takes_of rfl rfl rfl rfl) (a_cons (v_var 1) a_nil) ar1_len))) (tw_or (t_cmp (op_eqD hr.units) g_eq (v_up (v_callB call_lenV g_len Z.n_len (by kernel_rfl) (a_cons (v_up (v_var 1)) a_nil))) (v_up v_int)) (tw_or1 (t_not (t_val (v_callB (cr_all rfl) g_all Z.n_all (by kernel_rfl) (a_cons (v_up (v_lc (own := [(("stack" : Str), 4)]) rfl S.nd (i_loose (i_seq (v_var 1))) (blkOk_by (by kernel_rfl)) (fun _ _ _ _ _ => (gv_name 4 (hN := S.nd))) (fun _ _ _ _ _ => ts_nil) (fun _ _ _ _ _ => (v_call D_is_sequence (hr.mono (by decide)) (takes0) (a_cons (v_var 4) a_nil) ar1_len)) (by decide) gok_name)) a_nil)))))))) (ss_one (s_ret v_non)) ss_nil)
    (ss_cons (s_set 2 (v_callTy Lk.call_tupK g_tuple Z.n_tuple (by kernel_rfl) (a_cons (v_up (v_lc (own := [(("stack" : Str), 4)]) rfl S.nd (i_loose (i_seq (v_var 1))) (blkOk_by (by kernel_rfl)) (fun _ _ _ _ _ => (gv_name 4 (hN := S.nd))) (fun _ _ _ _ _ => ts_nil) (fun _ _ _ _ _ => (v_callTy Lk.call_tupK g_tuple Z.n_tuple (by kernel_rfl) (a_cons (v_up (v_var 4)) a_nil))) (by decide) gok_name)) a_nil)) S.nd)
    (ss_cons (s_setLc2 3 false (own := [(("stack" : Str), 4), (("name" : Str), 5)]) (own1 := [5]) rfl S.nd (i_loose (i_seq (v_var 2))) (blkOk_by (by kernel_rfl)) (by decide) (fun _ _ _ _ _ => (gv_name 4 (hN := S.nd))) (fun _ _ _ _ _ => ts_nil) (fun _ _ _ _ _ => (i_seq (v_var 4))) (fun _ _ _ _ _ => (gv_name 5 (hN := S.nd))) (fun _ _ _ _ _ => ts_nil) (fun _ _ _ _ _ => (v_var 5)) (by decide) gok_name (by decide) gok_name)
    (ss_cons (s_if (t_w (tw_or (t_not (t_val (v_callB (cr_all rfl) g_all Z.n_all (by kernel_rfl) (a_cons (v_up (v_lc (own := [(("name" : Str), 5)]) rfl S.nd (i_loose (i_seq (v_var 3))) (blkOk_by (by kernel_rfl)) (fun _ _ _ _ _ => (gv_name 5 (hN := S.nd))) (fun _ _ _ _ _ => ts_nil) (fun _ _ _ _ _ => (v_call D_is_name (hr.mono (by decide)) (takes0) (a_cons (v_var 5) a_nil) ar1_len)) (by decide) gok_name)) a_nil)))) (tw_or1 (t_not (t_val (v_call D_are_unlike (hr.mono (by decide)) (takes_of rfl rfl rfl rfl) (a_cons (v_var 3) a_nil) ar1_len)))))) (ss_one (s_ret v_non)) ss_nil)
    (ss_one (s_ret (v_if (t_val (v_callB (cr_all rfl) g_all Z.n_all (by kernel_rfl) (a_cons (v_up (v_lc (own := [(("stack" : Str), 4)]) rfl S.nd (i_loose (i_seq (v_var 2))) (blkOk_by (by kernel_rfl)) (fun _ _ _ _ _ => (gv_name 4 (hN := S.nd))) (fun _ _ _ _ _ => ts_nil) (fun _ _ _ _ _ => (v_cmp op_le (g_B (g := fun i j => decide (i ≤ j))) (v_up (v_callB call_lenV g_len Z.n_len (by kernel_rfl) (a_cons (v_up (v_var 4)) a_nil))) (v_up (v_var 0)))) (by decide) gok_name)) a_nil))) (v_var 2) v_non)))))))
theorem d_need_state (Z : Zs G K mg) {f : Addr} {fd : FuncData} (Fn : Fun K ("need_state" : Str) ("need_state" : Str) (topS 35) f fd) (D_boxes_at : Dk P w K mg base 3 ("boxes_at" : Str) (spM G K .sh 2 (ar2 m_boxes_at))) (D_as_stacks : Dk P w K mg base 2 ("as_stacks" : Str) (spM G K .sh 2 (ar2 m_as_stacks))) (X_InvalidYard : ExcC P w K mg base 1 ("InvalidYard" : Str) (G 1) (spX1 (G 1) ("value" : Str))) : FnOk P w K mg base (L2.CX P w) 4 f fd [("day" : Str), ("e" : Str), ("stacks" : Str)] (spM G K .sh 3 (ar3 m_need_state)) := by
  have S : FnScope [("day" : Str), ("e" : Str), ("stacks" : Str), ("names" : Str), ("told" : Str), ("stack" : Str), ("name" : Str)] [("day" : Str), ("e" : Str), ("stacks" : Str)] (defScope (topS 35)) := C8.fnScope_by (by decide +kernel)
  refine d_of (κ := κ_need_state) (m := b_need_state) (k := 3) Fn S (fun i hi => by revert i; decide) (fun qs hl => match qs, hl with | [_, _, _], _ => rfl) fun cdv A outer s H E hr => ?_
  exact (ss_cons (s_set 3 (v_call D_boxes_at (hr.mono (by decide)) (takes_of rfl rfl rfl rfl) (a_cons (v_var 0) (a_cons (v_var 1) a_nil)) ar2_len) S.nd)
    (ss_cons (s_set 4 (v_call D_as_stacks (hr.mono (by decide)) (takes_of rfl rfl rfl rfl) (a_cons (v_att (fun c => c == 5) (fun c h => by obtain rfl := eq_of_beq h; exact Z.at_5_height) (v_up (v_att (fun c => c == 6) (fun c h => by obtain rfl := eq_of_beq h; exact Z.at_6_yard) (v_up (v_var 0))))) (a_cons (v_var 2) a_nil)) ar2_len) S.nd)
    (ss_cons (s_if (t_w (tw_or (t_cmp op_isN g_isN (v_up (v_var 4)) (v_up v_non)) (tw_or1 (t_cmp (op_neD hr.units) g_ne (v_up (v_callB call_lenV g_len Z.n_len (by kernel_rfl) (a_cons (v_up (v_var 4)) a_nil))) (v_up (v_callB call_lenV g_len Z.n_len (by kernel_rfl) (a_cons (v_up (v_att (fun c => c == 5) (fun c h => by obtain rfl := eq_of_beq h; exact Z.at_5_stacks) (v_up (v_att (fun c => c == 6) (fun c h => by obtain rfl := eq_of_beq h; exact Z.at_6_yard) (v_up (v_var 0)))))) a_nil))))))) (ss_one (s_raise rfl (takes_of rfl rfl rfl rfl) X_InvalidYard (hr.mono (by decide)) (v_var 2))) ss_nil)
    (ss_cons (s_if (t_cmp (op_neD hr.units) g_ne (v_up (v_callTy Lk.call_tupK g_tuple Z.n_tuple (by kernel_rfl) (a_cons (v_up (v_callB cr_sortedS g_sortS Z.n_sorted (by kernel_rfl) (a_cons (v_up (v_lc2 (own := [(("stack" : Str), 5), (("name" : Str), 6)]) (own1 := [6]) rfl S.nd (i_loose (i_seq (v_var 4))) (blkOk_by (by kernel_rfl)) (by decide) (fun _ _ _ _ _ => (gv_name 5 (hN := S.nd))) (fun _ _ _ _ _ => ts_nil) (fun _ _ _ _ _ => (i_seq (v_var 5))) (fun _ _ _ _ _ => (gv_name 6 (hN := S.nd))) (fun _ _ _ _ _ => ts_nil) (fun _ _ _ _ _ => (v_var 6)) (by decide) gok_name (by decide) gok_name)) a_nil))) a_nil))) (v_up (v_var 3))) (ss_one (s_raise rfl (takes_of rfl rfl rfl rfl) X_InvalidYard (hr.mono (by decide)) (v_var 2))) ss_nil)
    (ss_one (s_ret (v_tup (a_cons (v_var 1) (a_cons (v_var 4) a_nil)))))))))
theorem d_goes_before (Z : Zs G K mg) {f : Addr} {fd : FuncData} (Fn : Fun K ("goes_before" : Str) ("goes_before" : Str) (topS 31) f fd)  : FnOk P w K mg base (L2.CX P w) 1 f fd [("times" : Str), ("name" : Str), ("other" : Str)] (spM G K .sh 3 (ar3 m_goes_before)) := by
  have S : FnScope [("times" : Str), ("name" : Str), ("other" : Str)] [("times" : Str), ("name" : Str), ("other" : Str)] (defScope (topS 31)) := C8.fnScope_by (by decide +kernel)
  refine d_of (κ := κ_goes_before) (m := b_goes_before) (k := 0) Fn S (fun i hi => by revert i; decide) (fun qs hl => match qs, hl with | [_, _, _], _ => rfl) fun cdv A outer s H E hr => ?_
  exact (ss_one (s_ret (v_and (v_din (hu_of hr) (v_var 1) (v_up (v_var 0))) (v_one (v_or (v_dnin (hu_of hr) (v_var 2) (v_up (v_var 0))) (v_one (v_cmp op_lt (g_B (g := fun i j => decide (i < j))) (v_up (v_dget (hu_of hr) (v_up (v_var 0)) (v_var 1))) (v_up (v_dget (hu_of hr) (v_up (v_var 0)) (v_var 2))))))))))
theorem d_blocked_by (Z : Zs G K mg) {f : Addr} {fd : FuncData} (Fn : Fun K ("blocked_by" : Str) ("blocked_by" : Str) (topS 38) f fd) (D_need_state : Dk P w K mg base 4 ("need_state" : Str) (spM G K .sh 3 (ar3 m_need_state))) (X_UnknownBox : ExcC P w K mg base 1 ("UnknownBox" : Str) (G 4) (spX1 (G 4) ("name" : Str))) (D_goings : Dk P w K mg base 1 ("goings" : Str) (spM G K .sh 2 (ar2 m_goings))) (D_goes_before : Dk P w K mg base 1 ("goes_before" : Str) (spM G K .sh 3 (ar3 m_goes_before))) : FnOk P w K mg base (L2.CX P w) 5 f fd [("day" : Str), ("e" : Str), ("stacks" : Str), ("name" : Str)] (spM G K .sh 4 (ar4 m_blocked_by)) := by
  have S : FnScope [("day" : Str), ("e" : Str), ("stacks" : Str), ("name" : Str), ("rows" : Str), ("times" : Str), ("above" : Str), ("stack" : Str), ("other" : Str)] [("day" : Str), ("e" : Str), ("stacks" : Str), ("name" : Str)] (defScope (topS 38)) := C8.fnScope_by (by decide +kernel)
  refine d_of (κ := κ_blocked_by) (m := b_blocked_by) (k := 4) Fn S (fun i hi => by revert i; decide) (fun qs hl => match qs, hl with | [_, _, _, _], _ => rfl) fun cdv A outer s H E hr => ?_
  exact (ss_cons (s_setLc 4 false (own := [(("stack" : Str), 7)]) rfl S.nd (i_loose (i_seq (v_ix (v_up (v_call D_need_state (hr.mono (by decide)) (takes_of rfl rfl rfl rfl) (a_cons (v_var 0) (a_cons (v_var 1) (a_cons (v_var 2) a_nil))) ar3_len)) (v_up v_int)))) (blkOk_by (by kernel_rfl)) (fun _ _ _ _ _ => (gv_name 7 (hN := S.nd))) (fun _ _ _ _ _ => (ts_one (t_cmp (op_inA (hu65 hr)) (g_inA (n := false)) (v_up (v_var 3)) (v_up (v_var 7))))) (fun _ _ _ _ _ => (v_var 7)) (by decide) gok_name)
    (ss_cons (s_if (t_cmp (op_eqD hr.units) g_eq (v_up (v_callB call_lenV g_len Z.n_len (by kernel_rfl) (a_cons (v_up (v_var 4)) a_nil))) (v_up v_int)) (ss_one (s_raise rfl (takes_of rfl rfl rfl rfl) X_UnknownBox (hr.mono (by decide)) (v_var 3))) ss_nil)
    (ss_cons (s_set 5 (v_call D_goings (hr.mono (by decide)) (takes_of rfl rfl rfl rfl) (a_cons (v_var 0) (a_cons (v_var 1) a_nil)) ar2_len) S.nd)
    (ss_cons (s_set 6 (v_slice sl_A g_slA (v_up (v_ix (v_up (v_var 4)) (v_up v_int))) (o_some (v_op op_addA g_addA (v_up (v_index (v_ix (v_up (v_var 4)) (v_up v_int)) (v_var 3))) (v_up v_int))) o_none) S.nd)
    (ss_one (s_ret (v_callTy Lk.call_tupK g_tuple Z.n_tuple (by kernel_rfl) (a_cons (v_up (v_lc (own := [(("other" : Str), 8)]) rfl S.nd (i_loose (i_seq (v_var 6))) (blkOk_by (by kernel_rfl)) (fun _ _ _ _ _ => (gv_name 8 (hN := S.nd))) (fun _ _ _ _ _ => (ts_one (t_val (v_call D_goes_before (hr.mono (by decide)) (takes0) (a_cons (v_var 5) (a_cons (v_var 3) (a_cons (v_var 8) a_nil))) ar3_len)))) (fun _ _ _ _ _ => (v_var 8)) (by decide) gok_name)) a_nil))))))))
theorem d_blocking_in (Z : Zs G K mg) {f : Addr} {fd : FuncData} (Fn : Fun K ("blocking_in" : Str) ("blocking_in" : Str) (topS 32) f fd) (D_goes_before : Dk P w K mg base 1 ("goes_before" : Str) (spM G K .sh 3 (ar3 m_goes_before))) : FnOk P w K mg base (L2.CX P w) 2 f fd [("times" : Str), ("stack" : Str)] (spM G K .sh 2 (ar2 m_blocking_in)) := by
  have S : FnScope [("times" : Str), ("stack" : Str), ("found" : Str), ("at" : Str), ("name" : Str), ("below" : Str)] [("times" : Str), ("stack" : Str)] (defScope (topS 32)) := C8.fnScope_by (by decide +kernel)
  refine d_of (κ := κ_blocking_in) (m := b_blocking_in) (k := 1) Fn S (fun i hi => by revert i; decide) (fun qs hl => match qs, hl with | [_, _], _ => rfl) fun cdv A outer s H E hr => ?_
  exact (ss_cons (s_setO 2 (v_lst a_nil) S.nd)
    (ss_cons (s_for (passes_of rfl) rfl (i_enum Z.n_enumerate (a_cons (v_var 1) a_nil)) (gv_tup rfl (gvs_cons (gv_name 3 (hN := S.nd)) (gvs_cons (gv_name 4 (hN := S.nd)) gvs_nil (fun _ _ => rfl)) (fun _ _ => rfl))) (gok_tup (goks_cons gok_name (goks_cons gok_name goks_nil))) (ss_one (s_if (t_val (v_callB (cr_any rfl) g_any Z.n_any (by kernel_rfl) (a_cons (v_up (v_lc (own := [(("below" : Str), 5)]) rfl S.nd (i_loose (i_seq (v_slice sl_A g_slA (v_up (v_var 1)) o_none (o_some (v_var 3))))) (blkOk_by (by kernel_rfl)) (fun _ _ _ _ _ => (gv_name 5 (hN := S.nd))) (fun _ _ _ _ _ => ts_nil) (fun _ _ _ _ _ => (v_call D_goes_before (hr.mono (by decide)) (takes0) (a_cons (v_var 0) (a_cons (v_var 5) (a_cons (v_var 4) a_nil))) ar3_len)) (by decide) gok_name)) a_nil))) (ss_one (s_exprM (m_list 2 PySem.F.slot_list_append PySem.F.type_list_append mt_append g_app (a_cons (v_var 4) a_nil)))) ss_nil)))
    (ss_one (s_retF 2))))
theorem d_blocking_at (Z : Zs G K mg) {f : Addr} {fd : FuncData} (Fn : Fun K ("blocking_at" : Str) ("blocking_at" : Str) (topS 33) f fd) (D_goings : Dk P w K mg base 1 ("goings" : Str) (spM G K .sh 2 (ar2 m_goings))) (D_blocking_in : Dk P w K mg base 2 ("blocking_in" : Str) (spM G K .sh 2 (ar2 m_blocking_in))) : FnOk P w K mg base (L2.CX P w) 3 f fd [("day" : Str), ("state" : Str)] (spM G K .sh 2 (ar2 m_blocking_at)) := by
  have S : FnScope [("day" : Str), ("state" : Str), ("times" : Str), ("stack" : Str), ("name" : Str)] [("day" : Str), ("state" : Str)] (defScope (topS 33)) := C8.fnScope_by (by decide +kernel)
  refine d_of (κ := κ_blocking_at) (m := b_blocking_at) (k := 2) Fn S (fun i hi => by revert i; decide) (fun qs hl => match qs, hl with | [_, _], _ => rfl) fun cdv A outer s H E hr => ?_
  exact (ss_cons (s_set 2 (v_call D_goings (hr.mono (by decide)) (takes_of rfl rfl rfl rfl) (a_cons (v_var 0) (a_cons (v_ix (v_up (v_var 1)) (v_up v_int)) a_nil)) ar2_len) S.nd)
    (ss_one (s_ret (v_freeze (v_lc2 (own := [(("stack" : Str), 3), (("name" : Str), 4)]) (own1 := [4]) rfl S.nd (i_loose (i_seq (v_ix (v_up (v_var 1)) (v_up v_int)))) (blkOk_by (by kernel_rfl)) (by decide) (fun _ _ _ _ _ => (gv_name 3 (hN := S.nd))) (fun _ _ _ _ _ => ts_nil) (fun _ _ _ _ _ => (i_seq (v_call D_blocking_in (hr.mono (by decide)) (takes0) (a_cons (v_var 2) (a_cons (v_var 3) a_nil)) ar2_len))) (fun _ _ _ _ _ => (gv_name 4 (hN := S.nd))) (fun _ _ _ _ _ => ts_nil) (fun _ _ _ _ _ => (v_var 4)) (by decide) gok_name (by decide) gok_name)))))
theorem d_blocking (Z : Zs G K mg) {f : Addr} {fd : FuncData} (Fn : Fun K ("blocking" : Str) ("blocking" : Str) (topS 37) f fd) (D_blocking_at : Dk P w K mg base 3 ("blocking_at" : Str) (spM G K .sh 2 (ar2 m_blocking_at))) (D_need_state : Dk P w K mg base 4 ("need_state" : Str) (spM G K .sh 3 (ar3 m_need_state))) : FnOk P w K mg base (L2.CX P w) 5 f fd [("day" : Str), ("e" : Str), ("stacks" : Str)] (spM G K .sh 3 (ar3 m_blocking)) := by
  have S : FnScope [("day" : Str), ("e" : Str), ("stacks" : Str)] [("day" : Str), ("e" : Str), ("stacks" : Str)] (defScope (topS 37)) := C8.fnScope_by (by decide +kernel)
  refine d_of (κ := κ_blocking) (m := b_blocking) (k := 4) Fn S (fun i hi => by revert i; decide) (fun qs hl => match qs, hl with | [_, _, _], _ => rfl) fun cdv A outer s H E hr => ?_
  exact (ss_one (s_ret (v_callTy Lk.call_tupK g_tuple Z.n_tuple (by kernel_rfl) (a_cons (v_up (v_call D_blocking_at (hr.mono (by decide)) (takes_of rfl rfl rfl rfl) (a_cons (v_var 0) (a_cons (v_call D_need_state (hr.mono (by decide)) (takes_of rfl rfl rfl rfl) (a_cons (v_var 0) (a_cons (v_var 1) (a_cons (v_var 2) a_nil))) ar3_len) a_nil)) ar2_len)) a_nil))))
theorem d_low_bound (Z : Zs G K mg) {f : Addr} {fd : FuncData} (Fn : Fun K ("low_bound" : Str) ("low_bound" : Str) (topS 39) f fd) (D_blocking : Dk P w K mg base 5 ("blocking" : Str) (spM G K .sh 3 (ar3 m_blocking))) : FnOk P w K mg base (L2.CX P w) 6 f fd [("day" : Str), ("e" : Str), ("stacks" : Str)] (spM G K .sh 3 (ar3 m_low_bound)) := by
  have S : FnScope [("day" : Str), ("e" : Str), ("stacks" : Str)] [("day" : Str), ("e" : Str), ("stacks" : Str)] (defScope (topS 39)) := C8.fnScope_by (by decide +kernel)
  refine d_of (κ := κ_low_bound) (m := b_low_bound) (k := 5) Fn S (fun i hi => by revert i; decide) (fun qs hl => match qs, hl with | [_, _, _], _ => rfl) fun cdv A outer s H E hr => ?_
  exact (ss_one (s_ret (v_callB call_lenV g_len Z.n_len (by kernel_rfl) (a_cons (v_up (v_call D_blocking (hr.mono (by decide)) (takes_of rfl rfl rfl rfl) (a_cons (v_var 0) (a_cons (v_var 1) (a_cons (v_var 2) a_nil))) ar3_len)) a_nil))))
theorem d__law_told (Z : Zs G K mg) {f : Addr} {fd : FuncData} (Fn : Fun K ("_law_told" : Str) ("_law_told" : Str) (topS 54) f fd) (D_blocking : Dk P w K mg base 5 ("blocking" : Str) (spM G K .sh 3 (ar3 m_blocking))) (D_low_bound : Dk P w K mg base 6 ("low_bound" : Str) (spM G K .sh 3 (ar3 m_low_bound))) (D_blocked_by : Dk P w K mg base 5 ("blocked_by" : Str) (spM G K .sh 4 (ar4 m_blocked_by))) : FnOk P w K mg base (L2.CX P w) 7 f fd [("_law_which" : Str), ("_law_day" : Str), ("_law_e" : Str), ("_law_stacks" : Str), ("_law_name" : Str)] (spM G K .sh 5 (ar5 m__law_told)) := by
  have S : FnScope [("_law_which" : Str), ("_law_day" : Str), ("_law_e" : Str), ("_law_stacks" : Str), ("_law_name" : Str), ("number_error" : Str), ("yard_error" : Str), ("box_error" : Str)] [("_law_which" : Str), ("_law_day" : Str), ("_law_e" : Str), ("_law_stacks" : Str), ("_law_name" : Str)] (defScope (topS 54)) := C8.fnScope_by (by decide +kernel)
  refine d_of (κ := κ__law_told) (m := b__law_told) (k := 6) Fn S (fun i hi => by revert i; decide) (fun qs hl => match qs, hl with | [_, _, _, _, _], _ => rfl) fun cdv A outer s H E hr => ?_
  exact (ss_one (s_tryN [((.ref (G 3)), ((fun c => match c with | 1 => some false | 2 => some false | 3 => some true | 4 => some false | _ => none), 5, ms__law_told_5)), ((.ref (G 1)), ((fun c => match c with | 1 => some true | 2 => some false | 3 => some false | 4 => some false | _ => none), 6, ms__law_told_6)), ((.ref (G 4)), ((fun c => match c with | 1 => some false | 2 => some false | 3 => some false | 4 => some true | _ => none), 7, ms__law_told_7))] (takes_of rfl rfl rfl rfl) (fun W pn xe tk hp => (ss_cons (s_if (t_cmp (op_eqD hr.units) g_eq (v_up (v_var 0)) (v_up v_int)) (ss_one (s_ret (v_tup (a_cons v_str (a_cons (v_call D_blocking (hr.mono (by decide)) tk (a_cons (v_var 1) (a_cons (v_var 2) (a_cons (v_var 3) a_nil))) ar3_len) a_nil))))) ss_nil)
    (ss_cons (s_if (t_cmp (op_eqD hr.units) g_eq (v_up (v_var 0)) (v_up v_int)) (ss_one (s_ret (v_tup (a_cons v_str (a_cons (v_call D_low_bound (hr.mono (by decide)) tk (a_cons (v_var 1) (a_cons (v_var 2) (a_cons (v_var 3) a_nil))) ar3_len) a_nil))))) ss_nil)
    (ss_one (s_ret (v_tup (a_cons v_str (a_cons (v_call D_blocked_by (hr.mono (by decide)) tk (a_cons (v_var 1) (a_cons (v_var 2) (a_cons (v_var 3) (a_cons (v_var 4) a_nil)))) ar4_len) a_nil)))))))) (HvOk.cons (h := ((fun c => match c with | 1 => some false | 2 => some false | 3 => some true | 4 => some false | _ => none), 5, ms__law_told_5)) (fun c b h => by
      simp only at h
      split at h
      · cases h; exact Z.ex_1_3
      · cases h; exact Z.ex_2_3
      · cases h; exact Z.ex_3_3
      · cases h; exact Z.ex_4_3
      · cases h) hind__law_told_5 ⟨rfl, by decide, .inl Z.c_InvalidNumber⟩ (fun a d oe pn c hcv hz hf => by
      simp only at hcv
      split at hcv
      · cases hcv
      · cases hcv
      · exact (ss_one (s_ret (v_tup (a_cons v_str (a_cons (v_xf (c := 3) 5 Z.xf_3 Z.nf_3_value hz hf) a_nil)))))
      · cases hcv
      · cases hcv) (HvOk.cons (h := ((fun c => match c with | 1 => some true | 2 => some false | 3 => some false | 4 => some false | _ => none), 6, ms__law_told_6)) (fun c b h => by
      simp only at h
      split at h
      · cases h; exact Z.ex_1_1
      · cases h; exact Z.ex_2_1
      · cases h; exact Z.ex_3_1
      · cases h; exact Z.ex_4_1
      · cases h) hind__law_told_6 ⟨rfl, by decide, .inl Z.c_InvalidYard⟩ (fun a d oe pn c hcv hz hf => by
      simp only at hcv
      split at hcv
      · exact (ss_one (s_ret (v_tup (a_cons v_str (a_cons (v_xf (c := 1) 6 Z.xf_1 Z.nf_1_value hz hf) a_nil)))))
      · cases hcv
      · cases hcv
      · cases hcv
      · cases hcv) (HvOk.cons (h := ((fun c => match c with | 1 => some false | 2 => some false | 3 => some false | 4 => some true | _ => none), 7, ms__law_told_7)) (fun c b h => by
      simp only at h
      split at h
      · cases h; exact Z.ex_1_4
      · cases h; exact Z.ex_2_4
      · cases h; exact Z.ex_3_4
      · cases h; exact Z.ex_4_4
      · cases h) hind__law_told_7 ⟨rfl, by decide, .inl Z.c_UnknownBox⟩ (fun a d oe pn c hcv hz hf => by
      simp only at hcv
      split at hcv
      · cases hcv
      · cases hcv
      · cases hcv
      · exact (ss_one (s_ret (v_tup (a_cons v_str (a_cons (v_xf (c := 4) 7 Z.xf_4 Z.nf_4_name hz hf) a_nil)))))
      · cases hcv) .nil))) S.nd))
theorem d__law_equal (Z : Zs G K mg) {f : Addr} {fd : FuncData} (Fn : Fun K ("_law_equal" : Str) ("_law_equal" : Str) (topS 42) f fd) (hm : mg ("_law_equal" : Str) = some (.ref f)) (hb : Binds K fd [("_law_actual" : Str), ("_law_expected" : Str)] [])  : ∀ n, FnOk P w K mg base (L2.CX P w) (1 + n) f fd [("_law_actual" : Str), ("_law_expected" : Str)] (spM G K .sh 2 (ar2 (m__law_equal n)))
  | 0 => ⟨fun vs H Q E h => spM_len h, fun A outer s H args us vs Q E _ _ _ _ h => by
      obtain ⟨F, ps, _, _, hl, h⟩ := h
      match ps, hl with
      | [_, _], _ => exact h.elim⟩
  | n + 1 => by
    have ih := d__law_equal Z Fn hm hb  n
    have hrec : Dk P w K mg base (1 + n) ("_law_equal" : Str) (spM G K .sh 2 (ar2 (m__law_equal n))) := ⟨f, fd, _, ih, hm, Fn.kp, hb⟩
    have S : FnScope [("_law_actual" : Str), ("_law_expected" : Str), ("_law_k" : Str)] [("_law_actual" : Str), ("_law_expected" : Str)] (defScope (topS 42)) := C8.fnScope_by (by decide +kernel)
    refine d_of (κ := κ__law_equal) (m := b__law_equal (m__law_equal n)) (k := 1 + n) Fn S (fun i hi => by revert i; decide) (fun qs hl => match qs, hl with | [_, _], _ => rfl) fun cdv A outer s H E hr => ?_
    exact (ss_cons (s_if (t_cmp op_isN g_isN (v_up (v_var 1)) (v_up v_non)) (ss_one (s_ret (v_cmp op_isN g_isN (v_up (v_var 0)) (v_up v_non)))) ss_nil)
    (ss_cons (s_if (t_val (v_callB call_isi g_isi Z.n_isinstance (by kernel_rfl) (a_cons (v_up (v_var 1)) (a_cons (v_up (v_gty Z.n_bool (by kernel_rfl))) a_nil)))) (ss_one (s_ret (v_and (v_callB call_isi g_isi Z.n_isinstance (by kernel_rfl) (a_cons (v_up (v_var 0)) (a_cons (v_up (v_gty Z.n_bool (by kernel_rfl))) a_nil))) (v_one (v_cmp (op_eqD hr.units) g_eq (v_up (v_var 0)) (v_up (v_var 1))))))) ss_nil)
    (ss_cons (s_if (t_val (v_callB call_isi g_isi Z.n_isinstance (by kernel_rfl) (a_cons (v_up (v_var 1)) (a_cons (v_up (v_gty Z.n_int (by kernel_rfl))) a_nil)))) (ss_one (s_ret (v_and (v_callB call_isi g_isi Z.n_isinstance (by kernel_rfl) (a_cons (v_up (v_var 0)) (a_cons (v_up (v_gty Z.n_int (by kernel_rfl))) a_nil))) (v_and (v_not (v_callB call_isi g_isi Z.n_isinstance (by kernel_rfl) (a_cons (v_up (v_var 0)) (a_cons (v_up (v_gty Z.n_bool (by kernel_rfl))) a_nil)))) (v_one (v_cmp (op_eqD hr.units) g_eq (v_up (v_var 0)) (v_up (v_var 1)))))))) ss_nil)
    (ss_cons (s_if (t_val (v_callB call_isi g_isi Z.n_isinstance (by kernel_rfl) (a_cons (v_up (v_var 1)) (a_cons (v_up (v_gty Z.n_str (by kernel_rfl))) a_nil)))) (ss_one (s_ret (v_and (v_callB call_isi g_isi Z.n_isinstance (by kernel_rfl) (a_cons (v_up (v_var 0)) (a_cons (v_up (v_gty Z.n_str (by kernel_rfl))) a_nil))) (v_one (v_cmp (op_eqD hr.units) g_eq (v_up (v_var 0)) (v_up (v_var 1))))))) ss_nil)
    (ss_cons (s_if (t_w (tw_or (t_not (t_val (v_callB call_isi g_isi Z.n_isinstance (by kernel_rfl) (a_cons (v_up (v_var 0)) (a_cons (v_up (v_gty Z.n_tuple (by kernel_rfl))) a_nil))))) (tw_or1 (t_cmp (op_neD hr.units) g_ne (v_up (v_callB call_lenV g_len Z.n_len (by kernel_rfl) (a_cons (v_up (v_var 0)) a_nil))) (v_up (v_callB call_lenV g_len Z.n_len (by kernel_rfl) (a_cons (v_up (v_var 1)) a_nil))))))) (ss_one (s_ret v_bl)) ss_nil)
    (ss_cons (s_for (passes_of rfl) rfl (i_range1 Z.n_range (a_cons (v_callB call_lenV g_len Z.n_len (by kernel_rfl) (a_cons (v_up (v_var 1)) a_nil)) a_nil)) (gv_name 2 (hN := S.nd)) gok_name (ss_one (s_if (t_not (t_val (v_call hrec hr (takes_of rfl rfl rfl rfl) (a_cons (v_ix (v_up (v_var 0)) (v_up (v_var 2))) (a_cons (v_ix (v_up (v_var 1)) (v_up (v_var 2))) a_nil)) ar2_len))) (ss_one (s_ret v_bl)) ss_nil)))
    (ss_one (s_ret v_bl))))))))
theorem d_Yard (Z : Zs G K mg) {f : Addr} {fd : FuncData} (Fn : Fun K "__init__" ("Yard.__init__" : Str) (inClass (topS 19) 0) f fd) (D_is_number : Dk P w K mg base 2 ("is_number" : Str) (spM G K .sh 1 (ar1 m_is_number))) (X_InvalidNumber : ExcC P w K mg base 1 ("InvalidNumber" : Str) (G 3) (spX1 (G 3) ("value" : Str))) (D_as_stacks : Dk P w K mg base 2 ("as_stacks" : Str) (spM G K .sh 2 (ar2 m_as_stacks))) (X_InvalidYard : ExcC P w K mg base 1 ("InvalidYard" : Str) (G 1) (spX1 (G 1) ("value" : Str))) : FnOk P w K mg base (L2.CX P w) 3 f fd [("self" : Str), ("height" : Str), ("stacks" : Str)] (spI G K 5 2 (ar2 m_Yard)) := by
  have S : FnScope [("self" : Str), ("height" : Str), ("stacks" : Str), ("told" : Str)] [("self" : Str), ("height" : Str), ("stacks" : Str)] (defScope (inClass (topS 19) 0)) := C8.fnScope_by (by decide +kernel)
  refine d_init (κ := κ_Yard) (m := b_Yard) (k := 2) (n := 2) Fn S rfl rfl (fun i hi => by revert i; decide) (fun qs hl => match qs, hl with | [_, _], _ => rfl) fun cdv A outer s H E hr => ?_
  exact (ss_cons (s_if (t_w (tw_or (t_not (t_val (v_call D_is_number (hr.mono (by decide)) (takes_of rfl rfl rfl rfl) (a_cons (v_var 1) a_nil) ar1_len))) (tw_or1 (t_cmp (op_eqD hr.units) g_eq (v_up (v_var 1)) (v_up v_int))))) (ss_one (s_raise rfl (takes_of rfl rfl rfl rfl) X_InvalidNumber (hr.mono (by decide)) (v_var 1))) ss_nil)
    (ss_cons (s_set 3 (v_call D_as_stacks (hr.mono (by decide)) (takes_of rfl rfl rfl rfl) (a_cons (v_var 1) (a_cons (v_var 2) a_nil)) ar2_len) S.nd)
    (ss_cons (s_if (t_cmp op_isN g_isN (v_up (v_var 3)) (v_up v_non)) (ss_one (s_raise rfl (takes_of rfl rfl rfl rfl) X_InvalidYard (hr.mono (by decide)) (v_var 2))) ss_nil)
    (ss_cons (s_fld 0 5 Z.at_5_height.1 Z.at_5_height.2 (v_var 1))
    (ss_one (s_fld 0 5 Z.at_5_stacks.1 Z.at_5_stacks.2 (v_var 3)))))))
theorem d__law_bad_states (Z : Zs G K mg) {f : Addr} {fd : FuncData} (Fn : Fun K ("_law_bad_states" : Str) ("_law_bad_states" : Str) (topS 50) f fd) (D__law_draws : Dk P w K mg base 1 ("_law_draws" : Str) (spM G K .sh 3 (ar3 m__law_draws))) (D__law_boxes : Dk P w K mg base 1 ("_law_boxes" : Str) (spM G K .fr 1 (ar1 m__law_boxes))) : FnOk P w K mg base (L2.CX P w) 2 f fd [("_law_script" : Str), ("_law_k" : Str), ("_law_height" : Str), ("_law_stacks" : Str), ("_law_pool_here" : Str)] (spM G K .sh 5 (ar5 m__law_bad_states)) := by
  have S : FnScope [("_law_script" : Str), ("_law_k" : Str), ("_law_height" : Str), ("_law_stacks" : Str), ("_law_pool_here" : Str), ("_law_drawn" : Str), ("_law_at" : Str), ("_law_stack" : Str), ("_law_place" : Str), ("_law_boxes_here" : Str), ("_law_away" : Str), ("_law_rows" : Str), ("_law_name" : Str), ("_law_other" : Str)] [("_law_script" : Str), ("_law_k" : Str), ("_law_height" : Str), ("_law_stacks" : Str), ("_law_pool_here" : Str)] (defScope (topS 50)) := C8.fnScope_by (by decide +kernel)
  refine d_of (κ := κ__law_bad_states) (m := b__law_bad_states) (k := 1) Fn S (fun i hi => by revert i; decide) (fun qs hl => match qs, hl with | [_, _, _, _, _], _ => rfl) fun cdv A outer s H E hr => ?_
  exact (ss_cons (s_set 5 (v_call D__law_draws (hr.mono (by decide)) (takes_of rfl rfl rfl rfl) (a_cons (v_var 0) (a_cons (v_var 1) (a_cons (v_freeze (v_lst (a_cons v_int (a_cons v_int (a_cons v_int a_nil))))) a_nil))) ar3_len) S.nd)
    (ss_cons (s_set 6 (v_op op_mod (g_I (C := fun _ j => 0 < j) (g := fun i j => i % j)) (v_up (v_callTy call_int1 g_int Z.n_int (by kernel_rfl) (a_cons (v_up (v_ix (v_up (v_var 5)) (v_up v_int))) a_nil))) (v_up (v_callB call_lenV g_len Z.n_len (by kernel_rfl) (a_cons (v_up (v_var 3)) a_nil)))) S.nd)
    (ss_cons (s_set 7 (v_ix (v_up (v_var 3)) (v_up (v_var 6))) S.nd)
    (ss_cons (s_set 8 (v_op op_mod (g_I (C := fun _ j => 0 < j) (g := fun i j => i % j)) (v_up (v_callTy call_int1 g_int Z.n_int (by kernel_rfl) (a_cons (v_up (v_ix (v_up (v_var 5)) (v_up v_int))) a_nil))) (v_up (v_op op_addA g_addA (v_up v_int) (v_up (v_callB call_lenV g_len Z.n_len (by kernel_rfl) (a_cons (v_up (v_var 7)) a_nil)))))) S.nd)
    (ss_cons (s_set 9 (v_freeze (v_call D__law_boxes (hr.mono (by decide)) (takes_of rfl rfl rfl rfl) (a_cons (v_var 3) a_nil) ar1_len)) S.nd)
    (ss_cons (s_setLc 10 false (own := [(("_law_name" : Str), 12)]) rfl S.nd (i_loose (i_seq (v_var 4))) (blkOk_by (by kernel_rfl)) (fun _ _ _ _ _ => (gv_name 12 (hN := S.nd))) (fun _ _ _ _ _ => (ts_one (t_cmp (op_notInA (hu65 hr)) (g_inA (n := true)) (v_up (v_var 12)) (v_up (v_var 9))))) (fun _ _ _ _ _ => (v_var 12)) (by decide) gok_name)
    (ss_cons (s_setO 11 (v_lst (a_cons v_non (a_cons v_int (a_cons v_str (a_cons (v_tup a_nil) (a_cons (v_op op_addA g_addA (v_up (v_var 3)) (v_up (v_tup (a_cons (v_tup a_nil) a_nil)))) (a_cons (v_slice sl_A g_slA (v_up (v_var 3)) o_none (o_some (v_un un_neg g_neg (v_up v_int)))) (a_cons (v_op op_addA g_addA (v_up (v_op op_addA g_addA (v_up (v_slice sl_A g_slA (v_up (v_var 3)) o_none (o_some (v_var 6)))) (v_up (v_tup (a_cons v_non a_nil))))) (v_up (v_slice sl_A g_slA (v_up (v_var 3)) (o_some (v_op op_addA g_addA (v_up (v_var 6)) (v_up v_int))) o_none))) (a_cons (v_tup (a_cons (v_var 3) a_nil)) (a_cons (v_op op_addA g_addA (v_up (v_tup (a_cons (v_tup a_nil) a_nil))) (v_up (v_var 3))) a_nil)))))))))) S.nd)
    (ss_cons (s_exprM (m_list 11 PySem.F.slot_list_append PySem.F.type_list_append mt_append g_app (a_cons (v_op op_addA g_addA (v_up (v_op op_addA g_addA (v_up (v_slice sl_A g_slA (v_up (v_var 3)) o_none (o_some (v_var 6)))) (v_up (v_tup (a_cons (v_op op_addA g_addA (v_up (v_op op_addA g_addA (v_up (v_slice sl_A g_slA (v_up (v_var 7)) o_none (o_some (v_var 8)))) (v_up (v_tup (a_cons (v_ix (v_up (v_var 10)) (v_up v_int)) a_nil))))) (v_up (v_slice sl_A g_slA (v_up (v_var 7)) (o_some (v_var 8)) o_none))) a_nil))))) (v_up (v_slice sl_A g_slA (v_up (v_var 3)) (o_some (v_op op_addA g_addA (v_up (v_var 6)) (v_up v_int))) o_none))) a_nil)))
    (ss_cons (s_exprM (m_list 11 PySem.F.slot_list_append PySem.F.type_list_append mt_append g_app (a_cons (v_op op_addA g_addA (v_up (v_op op_addA g_addA (v_up (v_slice sl_A g_slA (v_up (v_var 3)) o_none (o_some (v_var 6)))) (v_up (v_tup (a_cons (v_op op_addA g_addA (v_up (v_op op_addA g_addA (v_up (v_slice sl_A g_slA (v_up (v_var 7)) o_none (o_some (v_var 8)))) (v_up (v_tup (a_cons v_str a_nil))))) (v_up (v_slice sl_A g_slA (v_up (v_var 7)) (o_some (v_var 8)) o_none))) a_nil))))) (v_up (v_slice sl_A g_slA (v_up (v_var 3)) (o_some (v_op op_addA g_addA (v_up (v_var 6)) (v_up v_int))) o_none))) a_nil)))
    (ss_cons (s_if (t_cmp op_gt (g_B (g := fun i j => decide (j < i))) (v_up (v_callB call_lenV g_len Z.n_len (by kernel_rfl) (a_cons (v_up (v_var 7)) a_nil))) (v_up v_int)) (ss_cons (s_set 8 (v_op op_mod (g_I (C := fun _ j => 0 < j) (g := fun i j => i % j)) (v_up (v_callTy call_int1 g_int Z.n_int (by kernel_rfl) (a_cons (v_up (v_ix (v_up (v_var 5)) (v_up v_int))) a_nil))) (v_up (v_callB call_lenV g_len Z.n_len (by kernel_rfl) (a_cons (v_up (v_var 7)) a_nil)))) S.nd)
    (ss_cons (s_exprM (m_list 11 PySem.F.slot_list_append PySem.F.type_list_append mt_append g_app (a_cons (v_op op_addA g_addA (v_up (v_op op_addA g_addA (v_up (v_slice sl_A g_slA (v_up (v_var 3)) o_none (o_some (v_var 6)))) (v_up (v_tup (a_cons (v_op op_addA g_addA (v_up (v_slice sl_A g_slA (v_up (v_var 7)) o_none (o_some (v_var 8)))) (v_up (v_slice sl_A g_slA (v_up (v_var 7)) (o_some (v_op op_addA g_addA (v_up (v_var 8)) (v_up v_int))) o_none))) a_nil))))) (v_up (v_slice sl_A g_slA (v_up (v_var 3)) (o_some (v_op op_addA g_addA (v_up (v_var 6)) (v_up v_int))) o_none))) a_nil)))
    (ss_cons (s_exprM (m_list 11 PySem.F.slot_list_append PySem.F.type_list_append mt_append g_app (a_cons (v_op op_addA g_addA (v_up (v_op op_addA g_addA (v_up (v_slice sl_A g_slA (v_up (v_var 3)) o_none (o_some (v_var 6)))) (v_up (v_tup (a_cons (v_op op_addA g_addA (v_up (v_op op_addA g_addA (v_up (v_slice sl_A g_slA (v_up (v_var 7)) o_none (o_some (v_var 8)))) (v_up (v_tup (a_cons (v_ix (v_up (v_var 10)) (v_up v_int)) a_nil))))) (v_up (v_slice sl_A g_slA (v_up (v_var 7)) (o_some (v_op op_addA g_addA (v_up (v_var 8)) (v_up v_int))) o_none))) a_nil))))) (v_up (v_slice sl_A g_slA (v_up (v_var 3)) (o_some (v_op op_addA g_addA (v_up (v_var 6)) (v_up v_int))) o_none))) a_nil)))
    (ss_one (s_exprM (m_list 11 PySem.F.slot_list_append PySem.F.type_list_append mt_append g_app (a_cons (v_op op_addA g_addA (v_up (v_op op_addA g_addA (v_up (v_slice sl_A g_slA (v_up (v_var 3)) o_none (o_some (v_var 6)))) (v_up (v_tup (a_cons (v_op op_addA g_addA (v_up (v_op op_addA g_addA (v_up (v_slice sl_A g_slA (v_up (v_var 7)) o_none (o_some (v_var 8)))) (v_up (v_tup (a_cons v_non a_nil))))) (v_up (v_slice sl_A g_slA (v_up (v_var 7)) (o_some (v_op op_addA g_addA (v_up (v_var 8)) (v_up v_int))) o_none))) a_nil))))) (v_up (v_slice sl_A g_slA (v_up (v_var 3)) (o_some (v_op op_addA g_addA (v_up (v_var 6)) (v_up v_int))) o_none))) a_nil))))))) ss_nil)
    (ss_cons (s_if (t_cmp op_gt (g_B (g := fun i j => decide (j < i))) (v_up (v_callB call_lenV g_len Z.n_len (by kernel_rfl) (a_cons (v_up (v_var 9)) a_nil))) (v_up v_int)) (ss_cons (s_set 12 (v_ix (v_up (v_var 9)) (v_up (v_op op_mod (g_I (C := fun _ j => 0 < j) (g := fun i j => i % j)) (v_up (v_callTy call_int1 g_int Z.n_int (by kernel_rfl) (a_cons (v_up (v_ix (v_up (v_var 5)) (v_up v_int))) a_nil))) (v_up (v_callB call_lenV g_len Z.n_len (by kernel_rfl) (a_cons (v_up (v_var 9)) a_nil)))))) S.nd)
    (ss_one (s_exprM (m_list 11 PySem.F.slot_list_append PySem.F.type_list_append mt_append g_app (a_cons (v_op op_addA g_addA (v_up (v_op op_addA g_addA (v_up (v_slice sl_A g_slA (v_up (v_var 3)) o_none (o_some (v_var 6)))) (v_up (v_tup (a_cons (v_op op_addA g_addA (v_up (v_op op_addA g_addA (v_up (v_slice sl_A g_slA (v_up (v_var 7)) o_none (o_some (v_var 8)))) (v_up (v_tup (a_cons (v_var 12) a_nil))))) (v_up (v_slice sl_A g_slA (v_up (v_var 7)) (o_some (v_var 8)) o_none))) a_nil))))) (v_up (v_slice sl_A g_slA (v_up (v_var 3)) (o_some (v_op op_addA g_addA (v_up (v_var 6)) (v_up v_int))) o_none))) a_nil))))) ss_nil)
    (ss_cons (s_exprM (m_list 11 PySem.F.slot_list_append PySem.F.type_list_append mt_append g_app (a_cons (v_op op_addA g_addA (v_up (v_op op_addA g_addA (v_up (v_slice sl_A g_slA (v_up (v_var 3)) o_none (o_some (v_var 6)))) (v_up (v_tup (a_cons (v_join (v_up (v_var 7))) a_nil))))) (v_up (v_slice sl_A g_slA (v_up (v_var 3)) (o_some (v_op op_addA g_addA (v_up (v_var 6)) (v_up v_int))) o_none))) a_nil)))
    (ss_cons (s_exprM (m_list 11 PySem.F.slot_list_append PySem.F.type_list_append mt_append g_app (a_cons (v_callTy Lk.call_tupK g_tuple Z.n_tuple (by kernel_rfl) (a_cons (v_up (v_lc (own := [(("_law_other" : Str), 13)]) rfl S.nd (i_loose (i_seq (v_var 3))) (blkOk_by (by kernel_rfl)) (fun _ _ _ _ _ => (gv_name 13 (hN := S.nd))) (fun _ _ _ _ _ => ts_nil) (fun _ _ _ _ _ => (v_join (v_up (v_var 13)))) (by decide) gok_name)) a_nil)) a_nil)))
    (ss_cons (s_if (t_cmp op_gt (g_B (g := fun i j => decide (j < i))) (v_up (v_callB call_lenV g_len Z.n_len (by kernel_rfl) (a_cons (v_up (v_var 9)) a_nil))) (v_up (v_var 2))) (ss_one (s_exprM (m_list 11 PySem.F.slot_list_append PySem.F.type_list_append mt_append g_app (a_cons (v_op op_addA g_addA (v_up (v_tup (a_cons (v_callTy Lk.call_tupK g_tuple Z.n_tuple (by kernel_rfl) (a_cons (v_up (v_var 9)) a_nil)) a_nil))) (v_up (v_callTy Lk.call_tupK g_tuple Z.n_tuple (by kernel_rfl) (a_cons (v_up (v_lc (own := [(("_law_other" : Str), 13)]) rfl S.nd (i_loose (i_seq (v_slice sl_A g_slA (v_up (v_var 3)) (o_some v_int) o_none))) (blkOk_by (by kernel_rfl)) (fun _ _ _ _ _ => (gv_name 13 (hN := S.nd))) (fun _ _ _ _ _ => ts_nil) (fun _ _ _ _ _ => (v_tup a_nil)) (by decide) gok_name)) a_nil)))) a_nil)))) ss_nil)
    (ss_one (s_retF 11))))))))))))))))
theorem d__law_going (Z : Zs G K mg) {f : Addr} {fd : FuncData} (Fn : Fun K ("_law_going" : Str) ("_law_going" : Str) (topS 51) f fd)  : FnOk P w K mg base (L2.CX P w) 1 f fd [("_law_events_here" : Str), ("_law_e" : Str), ("_law_name" : Str)] (spM G K .sh 3 (ar3 m__law_going)) := by
  have S : FnScope [("_law_events_here" : Str), ("_law_e" : Str), ("_law_name" : Str), ("_law_k" : Str)] [("_law_events_here" : Str), ("_law_e" : Str), ("_law_name" : Str)] (defScope (topS 51)) := C8.fnScope_by (by decide +kernel)
  refine d_of (κ := κ__law_going) (m := b__law_going) (k := 0) Fn S (fun i hi => by revert i; decide) (fun qs hl => match qs, hl with | [_, _, _], _ => rfl) fun cdv A outer s H E hr => ?_
  exact (ss_cons (s_for (passes_of rfl) rfl (i_range2 Z.n_range (a_cons (v_var 1) (a_cons (v_callB call_lenV g_len Z.n_len (by kernel_rfl) (a_cons (v_up (v_var 0)) a_nil)) a_nil))) (gv_name 3 (hN := S.nd)) gok_name (ss_one (s_if (t_cmp (op_eqD hr.units) g_eq (v_up (v_ix (v_up (v_var 0)) (v_up (v_var 3)))) (v_up (v_tup (a_cons v_str (a_cons (v_var 2) a_nil))))) (ss_one (s_ret (v_var 3))) ss_nil)))
    (ss_one (s_ret (v_callB call_lenV g_len Z.n_len (by kernel_rfl) (a_cons (v_up (v_var 0)) a_nil)))))
theorem d__law_blocking (Z : Zs G K mg) {f : Addr} {fd : FuncData} (Fn : Fun K ("_law_blocking" : Str) ("_law_blocking" : Str) (topS 53) f fd) (D__law_going : Dk P w K mg base 1 ("_law_going" : Str) (spM G K .sh 3 (ar3 m__law_going))) : FnOk P w K mg base (L2.CX P w) 2 f fd [("_law_events_here" : Str), ("_law_e" : Str), ("_law_stacks" : Str)] (spM G K .sh 3 (ar3 m__law_blocking)) := by
  have S : FnScope [("_law_events_here" : Str), ("_law_e" : Str), ("_law_stacks" : Str), ("_law_found" : Str), ("_law_stack" : Str), ("_law_k" : Str), ("_law_below" : Str), ("_law_name" : Str)] [("_law_events_here" : Str), ("_law_e" : Str), ("_law_stacks" : Str)] (defScope (topS 53)) := C8.fnScope_by (by decide +kernel)
  refine d_of (κ := κ__law_blocking) (m := b__law_blocking) (k := 1) Fn S (fun i hi => by revert i; decide) (fun qs hl => match qs, hl with | [_, _, _], _ => rfl) fun cdv A outer s H E hr => ?_
  exact (ss_cons (s_setO 3 (v_lst a_nil) S.nd)
    (ss_cons (s_for (passes_of rfl) rfl (i_seq (v_var 2)) (gv_name 4 (hN := S.nd)) gok_name (ss_one (s_for (passes_of rfl) rfl (i_range1 Z.n_range (a_cons (v_callB call_lenV g_len Z.n_len (by kernel_rfl) (a_cons (v_up (v_var 4)) a_nil)) a_nil)) (gv_name 5 (hN := S.nd)) gok_name (ss_cons (s_setLc 6 false (own := [(("_law_name" : Str), 7)]) rfl S.nd (i_loose (i_seq (v_slice sl_A g_slA (v_up (v_var 4)) o_none (o_some (v_var 5))))) (blkOk_by (by kernel_rfl)) (fun _ _ _ _ _ => (gv_name 7 (hN := S.nd))) (fun _ _ _ _ _ => (ts_one (t_cmp op_lt (g_B (g := fun i j => decide (i < j))) (v_up (v_call D__law_going (hr.mono (by decide)) (takes0) (a_cons (v_var 0) (a_cons (v_var 1) (a_cons (v_var 7) a_nil))) ar3_len)) (v_up (v_call D__law_going (hr.mono (by decide)) (takes0) (a_cons (v_var 0) (a_cons (v_var 1) (a_cons (v_ix (v_up (v_var 4)) (v_up (v_var 5))) a_nil))) ar3_len))))) (fun _ _ _ _ _ => (v_var 7)) (by decide) gok_name)
    (ss_one (s_if (t_cmp op_gt (g_B (g := fun i j => decide (j < i))) (v_up (v_callB call_lenV g_len Z.n_len (by kernel_rfl) (a_cons (v_up (v_var 6)) a_nil))) (v_up v_int)) (ss_one (s_exprM (m_list 3 PySem.F.slot_list_append PySem.F.type_list_append mt_append g_app (a_cons (v_ix (v_up (v_var 4)) (v_up (v_var 5))) a_nil)))) ss_nil))))))
    (ss_one (s_ret (v_callTy Lk.call_tupK g_tuple Z.n_tuple (by kernel_rfl) (a_cons (v_own 3) a_nil))))))
theorem d__law_blocks_above (Z : Zs G K mg) {f : Addr} {fd : FuncData} (Fn : Fun K ("_law_blocks_above" : Str) ("_law_blocks_above" : Str) (topS 52) f fd) (D__law_going : Dk P w K mg base 1 ("_law_going" : Str) (spM G K .sh 3 (ar3 m__law_going))) : FnOk P w K mg base (L2.CX P w) 2 f fd [("_law_events_here" : Str), ("_law_e" : Str), ("_law_stack" : Str), ("_law_place" : Str)] (spM G K .sh 4 (ar4 m__law_blocks_above)) := by
  have S : FnScope [("_law_events_here" : Str), ("_law_e" : Str), ("_law_stack" : Str), ("_law_place" : Str), ("_law_going_here" : Str), ("_law_name" : Str)] [("_law_events_here" : Str), ("_law_e" : Str), ("_law_stack" : Str), ("_law_place" : Str)] (defScope (topS 52)) := C8.fnScope_by (by decide +kernel)
  refine d_of (κ := κ__law_blocks_above) (m := b__law_blocks_above) (k := 1) Fn S (fun i hi => by revert i; decide) (fun qs hl => match qs, hl with | [_, _, _, _], _ => rfl) fun cdv A outer s H E hr => ?_
  exact (ss_cons (s_set 4 (v_call D__law_going (hr.mono (by decide)) (takes_of rfl rfl rfl rfl) (a_cons (v_var 0) (a_cons (v_var 1) (a_cons (v_ix (v_up (v_var 2)) (v_up (v_var 3))) a_nil))) ar3_len) S.nd)
    (ss_one (s_ret (v_freeze (v_lc (own := [(("_law_name" : Str), 5)]) rfl S.nd (i_loose (i_seq (v_slice sl_A g_slA (v_up (v_var 2)) (o_some (v_op op_addA g_addA (v_up (v_var 3)) (v_up v_int))) o_none))) (blkOk_by (by kernel_rfl)) (fun _ _ _ _ _ => (gv_name 5 (hN := S.nd))) (fun _ _ _ _ _ => (ts_one (t_cmp op_gt (g_B (g := fun i j => decide (j < i))) (v_up (v_call D__law_going (hr.mono (by decide)) (takes0) (a_cons (v_var 0) (a_cons (v_var 1) (a_cons (v_var 5) a_nil))) ar3_len)) (v_up (v_var 4))))) (fun _ _ _ _ _ => (v_var 5)) (by decide) gok_name)))))
theorem d__law_is_right (Z : Zs G K mg) {f : Addr} {fd : FuncData} (Fn : Fun K ("_law_is_right" : Str) ("_law_is_right" : Str) (topS 55) f fd) (D__law_blocking : Dk P w K mg base 2 ("_law_blocking" : Str) (spM G K .sh 3 (ar3 m__law_blocking))) (D__law_equal : Dk P w K mg base 13 ("_law_equal" : Str) (spM G K .sh 2 (ar2 (m__law_equal 12)))) (D__law_told : Dk P w K mg base 7 ("_law_told" : Str) (spM G K .sh 5 (ar5 m__law_told))) (D__law_blocks_above : Dk P w K mg base 2 ("_law_blocks_above" : Str) (spM G K .sh 4 (ar4 m__law_blocks_above))) : FnOk P w K mg base (L2.CX P w) 14 f fd [("_law_day" : Str), ("_law_events_here" : Str), ("_law_e" : Str), ("_law_stacks" : Str), ("_law_handed" : Str)] (spM G K .sh 5 (ar5 m__law_is_right)) := by
  have S : FnScope [("_law_day" : Str), ("_law_events_here" : Str), ("_law_e" : Str), ("_law_stacks" : Str), ("_law_handed" : Str), ("_law_due" : Str), ("_law_stack" : Str), ("_law_k" : Str), ("_law_above" : Str)] [("_law_day" : Str), ("_law_events_here" : Str), ("_law_e" : Str), ("_law_stacks" : Str), ("_law_handed" : Str)] (defScope (topS 55)) := C8.fnScope_by (by decide +kernel)
  refine d_of (κ := κ__law_is_right) (m := b__law_is_right) (k := 13) Fn S (fun i hi => by revert i; decide) (fun qs hl => match qs, hl with | [_, _, _, _, _], _ => rfl) fun cdv A outer s H E hr => ?_
  exact (ss_cons (s_set 5 (v_call D__law_blocking (hr.mono (by decide)) (takes_of rfl rfl rfl rfl) (a_cons (v_var 1) (a_cons (v_var 2) (a_cons (v_var 3) a_nil))) ar3_len) S.nd)
    (ss_cons (s_if (t_not (t_val (v_call D__law_equal (hr.mono (by decide)) (takes_of rfl rfl rfl rfl) (a_cons (v_call D__law_told (hr.mono (by decide)) (takes_of rfl rfl rfl rfl) (a_cons v_int (a_cons (v_var 0) (a_cons (v_var 2) (a_cons (v_var 4) (a_cons v_str a_nil))))) ar5_len) (a_cons (v_tup (a_cons v_str (a_cons (v_var 5) a_nil))) a_nil)) ar2_len))) (ss_one (s_ret v_bl)) ss_nil)
    (ss_cons (s_if (t_not (t_val (v_call D__law_equal (hr.mono (by decide)) (takes_of rfl rfl rfl rfl) (a_cons (v_call D__law_told (hr.mono (by decide)) (takes_of rfl rfl rfl rfl) (a_cons v_int (a_cons (v_var 0) (a_cons (v_var 2) (a_cons (v_var 4) (a_cons v_str a_nil))))) ar5_len) (a_cons (v_tup (a_cons v_str (a_cons (v_callB call_lenV g_len Z.n_len (by kernel_rfl) (a_cons (v_up (v_var 5)) a_nil)) a_nil))) a_nil)) ar2_len))) (ss_one (s_ret v_bl)) ss_nil)
    (ss_cons (s_for (passes_of rfl) rfl (i_seq (v_var 3)) (gv_name 6 (hN := S.nd)) gok_name (ss_one (s_for (passes_of rfl) rfl (i_range1 Z.n_range (a_cons (v_callB call_lenV g_len Z.n_len (by kernel_rfl) (a_cons (v_up (v_var 6)) a_nil)) a_nil)) (gv_name 7 (hN := S.nd)) gok_name (ss_cons (s_set 8 (v_tup (a_cons v_str (a_cons (v_callTy Lk.call_tupK g_tuple Z.n_tuple (by kernel_rfl) (a_cons (v_up (v_call D__law_blocks_above (hr.mono (by decide)) (takes_of rfl rfl rfl rfl) (a_cons (v_var 1) (a_cons (v_var 2) (a_cons (v_var 6) (a_cons (v_var 7) a_nil)))) ar4_len)) a_nil)) a_nil))) S.nd)
    (ss_one (s_if (t_not (t_val (v_call D__law_equal (hr.mono (by decide)) (takes_of rfl rfl rfl rfl) (a_cons (v_call D__law_told (hr.mono (by decide)) (takes_of rfl rfl rfl rfl) (a_cons v_int (a_cons (v_var 0) (a_cons (v_var 2) (a_cons (v_var 4) (a_cons (v_ix (v_up (v_var 6)) (v_up (v_var 7))) a_nil))))) ar5_len) (a_cons (v_var 8) a_nil)) ar2_len))) (ss_one (s_ret v_bl)) ss_nil))))))
    (ss_one (s_ret v_bl))))))
theorem d_law (Z : Zs G K mg) {f : Addr} {fd : FuncData} (Fn : Fun K ("law" : Str) ("law" : Str) (topS 56) f fd) (D__law_draws : Dk P w K mg base 1 ("_law_draws" : Str) (spM G K .sh 3 (ar3 m__law_draws))) (D__law_pool : Dk P w K mg base 2 ("_law_pool" : Str) (spM G K .sh 3 (ar3 m__law_pool))) (D__law_yard : Dk P w K mg base 2 ("_law_yard" : Str) (spM G K .sh 6 (ar6 m__law_yard))) (D__law_events : Dk P w K mg base 2 ("_law_events" : Str) (spM G K .sh 5 (ar5 m__law_events))) (M_Day : Mkr P w K mg base 4 ("Day" : Str) (G 6) (spI G K 6 2 (ar2 m_Day))) (M_Yard : Mkr P w K mg base 3 ("Yard" : Str) (G 5) (spI G K 5 2 (ar2 m_Yard))) (D__law_state : Dk P w K mg base 3 ("_law_state" : Str) (spM G K .sh 5 (ar5 m__law_state))) (D__law_is_right : Dk P w K mg base 14 ("_law_is_right" : Str) (spM G K .sh 5 (ar5 m__law_is_right))) (D__law_equal : Dk P w K mg base 13 ("_law_equal" : Str) (spM G K .sh 2 (ar2 (m__law_equal 12)))) (D__law_told : Dk P w K mg base 7 ("_law_told" : Str) (spM G K .sh 5 (ar5 m__law_told))) (D__law_bad_states : Dk P w K mg base 2 ("_law_bad_states" : Str) (spM G K .sh 5 (ar5 m__law_bad_states))) (D__law_boxes : Dk P w K mg base 1 ("_law_boxes" : Str) (spM G K .fr 1 (ar1 m__law_boxes))) (D__law_blocking : Dk P w K mg base 2 ("_law_blocking" : Str) (spM G K .sh 3 (ar3 m__law_blocking))) (DK_low_bound_day_e_stacks : DkK P w K mg base 6 ("low_bound" : Str) (spM G K .sh 3 (ar3 m_low_bound)) [("day" : Str), ("e" : Str), ("stacks" : Str)] [0, 1, 2]) : FnOk P w K mg base (L2.CX P w) 15 f fd [("_law_script" : Str)] (spM G K .sh 1 (ar1 m_law)) := by
  have S : FnScope [("_law_script" : Str), ("_law_drawn" : Str), ("_law_height" : Str), ("_law_pool_here" : Str), ("_law_stacks" : Str), ("_law_events_here" : Str), ("_law_day" : Str), ("_law_state_here" : Str), ("_law_other" : Str), ("_law_asked" : Str), ("_law_size" : Str), ("_law_which" : Str), ("_law_listed" : Str), ("_law_told_here" : Str), ("_law_here" : Str), ("_law_name" : Str), ("_law_bad" : Str), ("_law_stack" : Str)] [("_law_script" : Str)] (defScope (topS 56)) := C8.fnScope_by (by decide +kernel)
  refine d_of (κ := κ_law) (m := b_law) (k := 14) Fn S (fun i hi => by revert i; decide) (fun qs hl => match qs, hl with | [_], _ => rfl) fun cdv A outer s H E hr => ?_
  exact (ss_cons (s_set 1 (v_call D__law_draws (hr.mono (by decide)) (takes_of rfl rfl rfl rfl) (a_cons (v_var 0) (a_cons v_int (a_cons (v_freeze (v_lst (a_cons v_int (a_cons v_int (a_cons v_int a_nil))))) a_nil))) ar3_len) S.nd)
    (ss_cons (s_set 2 (v_op op_addA g_addA (v_up v_int) (v_up (v_ix (v_up (v_var 1)) (v_up v_int)))) S.nd)
    (ss_cons (s_set 3 (v_call D__law_pool (hr.mono (by decide)) (takes_of rfl rfl rfl rfl) (a_cons (v_var 0) (a_cons v_int (a_cons v_int a_nil))) ar3_len) S.nd)
    (ss_cons (s_set 4 (v_call D__law_yard (hr.mono (by decide)) (takes_of rfl rfl rfl rfl) (a_cons (v_var 0) (a_cons v_int (a_cons (v_var 3) (a_cons (v_op op_addA g_addA (v_up v_int) (v_up (v_ix (v_up (v_var 1)) (v_up v_int)))) (a_cons (v_var 2) (a_cons v_int a_nil)))))) ar6_len) S.nd)
    (ss_cons (s_set 5 (v_call D__law_events (hr.mono (by decide)) (takes_of rfl rfl rfl rfl) (a_cons (v_var 0) (a_cons v_int (a_cons (v_var 3) (a_cons (v_var 4) (a_cons v_int a_nil))))) ar5_len) S.nd)
    (ss_cons (s_set 6 (v_freeze (v_make M_Day (hr.mono (by decide)) (takes_of rfl rfl rfl rfl) (a_cons (v_freeze (v_make M_Yard (hr.mono (by decide)) (takes_of rfl rfl rfl rfl) (a_cons (v_var 2) (a_cons (v_var 4) a_nil)) ar2_len)) (a_cons (v_var 5) a_nil)) ar2_len)) S.nd)
    (ss_cons (s_set 7 (v_call D__law_state (hr.mono (by decide)) (takes_of rfl rfl rfl rfl) (a_cons (v_var 0) (a_cons v_int (a_cons (v_var 2) (a_cons (v_var 4) (a_cons (v_var 5) a_nil))))) ar5_len) S.nd)
    (ss_cons (s_set 8 (v_call D__law_state (hr.mono (by decide)) (takes_of rfl rfl rfl rfl) (a_cons (v_var 0) (a_cons v_int (a_cons (v_var 2) (a_cons (v_var 4) (a_cons (v_var 5) a_nil))))) ar5_len) S.nd)
    (ss_cons (s_for (passes_of rfl) rfl (i_seq (v_freeze (v_lst (a_cons (v_var 7) (a_cons (v_var 8) (a_cons (v_var 7) (a_cons (v_tup (a_cons v_int (a_cons (v_var 4) a_nil))) a_nil))))))) (gv_name 9 (hN := S.nd)) gok_name (ss_cons (s_if (t_not (t_val (v_call D__law_is_right (hr.mono (by decide)) (takes_of rfl rfl rfl rfl) (a_cons (v_var 6) (a_cons (v_var 5) (a_cons (v_ix (v_up (v_var 9)) (v_up v_int)) (a_cons (v_ix (v_up (v_var 9)) (v_up v_int)) (a_cons (v_ix (v_up (v_var 9)) (v_up v_int)) a_nil))))) ar5_len))) (ss_one (s_ret v_bl)) ss_nil)
    (ss_one (s_if (t_not (t_val (v_call D__law_is_right (hr.mono (by decide)) (takes_of rfl rfl rfl rfl) (a_cons (v_var 6) (a_cons (v_var 5) (a_cons (v_ix (v_up (v_var 9)) (v_up v_int)) (a_cons (v_ix (v_up (v_var 9)) (v_up v_int)) (a_cons (v_freeze (v_lc (own := [(("_law_stack" : Str), 17)]) rfl S.nd (i_loose (i_seq (v_ix (v_up (v_var 9)) (v_up v_int)))) (blkOk_by (by kernel_rfl)) (fun _ _ _ _ _ => (gv_name 17 (hN := S.nd))) (fun _ _ _ _ _ => ts_nil) (fun _ _ _ _ _ => (v_freeze (v_callTy call_list_of g_list Z.n_list (by kernel_rfl) (a_cons (v_up (v_var 17)) a_nil)))) (by decide) gok_name)) a_nil))))) ar5_len))) (ss_one (s_ret v_bl)) ss_nil))))
    (ss_cons (s_set 10 (v_callB call_lenV g_len Z.n_len (by kernel_rfl) (a_cons (v_up (v_var 5)) a_nil)) S.nd)
    (ss_cons (s_for (passes_of rfl) rfl (i_range1 Z.n_range (a_cons v_int a_nil)) (gv_name 11 (hN := S.nd)) gok_name (ss_cons (s_for (passes_of rfl) rfl (i_seq (v_freeze (v_lst (a_cons (v_op op_addA g_addA (v_up (v_var 10)) (v_up v_int)) (a_cons (v_un un_neg g_neg (v_up v_int)) (a_cons (v_op op_addA g_addA (v_up (v_op op_addA g_addA (v_up (v_var 10)) (v_up v_int))) (v_up (v_ix (v_up (v_var 1)) (v_up v_int)))) (a_cons v_bl (a_cons v_non (a_cons v_str a_nil))))))))) (gv_name 16 (hN := S.nd)) gok_name (ss_one (s_if (t_not (t_val (v_call D__law_equal (hr.mono (by decide)) (takes_of rfl rfl rfl rfl) (a_cons (v_call D__law_told (hr.mono (by decide)) (takes_of rfl rfl rfl rfl) (a_cons (v_var 11) (a_cons (v_var 6) (a_cons (v_var 16) (a_cons v_non (a_cons v_str a_nil))))) ar5_len) (a_cons (v_tup (a_cons v_str (a_cons (v_var 16) a_nil))) a_nil)) ar2_len))) (ss_one (s_ret v_bl)) ss_nil)))
    (ss_one (s_for (passes_of rfl) rfl (i_seq (v_call D__law_bad_states (hr.mono (by decide)) (takes_of rfl rfl rfl rfl) (a_cons (v_var 0) (a_cons v_int (a_cons (v_var 2) (a_cons (v_ix (v_up (v_var 7)) (v_up v_int)) (a_cons (v_var 3) a_nil))))) ar5_len)) (gv_name 16 (hN := S.nd)) gok_name (ss_one (s_if (t_not (t_val (v_call D__law_equal (hr.mono (by decide)) (takes_of rfl rfl rfl rfl) (a_cons (v_call D__law_told (hr.mono (by decide)) (takes_of rfl rfl rfl rfl) (a_cons (v_var 11) (a_cons (v_var 6) (a_cons (v_ix (v_up (v_var 7)) (v_up v_int)) (a_cons (v_var 16) (a_cons v_str a_nil))))) ar5_len) (a_cons (v_tup (a_cons v_str (a_cons (v_var 16) a_nil))) a_nil)) ar2_len))) (ss_one (s_ret v_bl)) ss_nil))))))
    (ss_cons (s_set 12 (v_op op_addA g_addA (v_up (v_lc (own := [(("_law_stack" : Str), 17)]) rfl S.nd (i_loose (i_seq (v_ix (v_up (v_var 7)) (v_up v_int)))) (blkOk_by (by kernel_rfl)) (fun _ _ _ _ _ => (gv_name 17 (hN := S.nd))) (fun _ _ _ _ _ => ts_nil) (fun _ _ _ _ _ => (v_freeze (v_callTy call_list_of g_list Z.n_list (by kernel_rfl) (a_cons (v_up (v_var 17)) a_nil)))) (by decide) gok_name)) (v_up (v_lst (a_cons (v_freeze (v_lst a_nil)) a_nil)))) S.nd)
    (ss_cons (s_set 13 (v_call D__law_told (hr.mono (by decide)) (takes_of rfl rfl rfl rfl) (a_cons v_int (a_cons (v_var 6) (a_cons (v_ix (v_up (v_var 7)) (v_up v_int)) (a_cons (v_var 12) (a_cons v_str a_nil))))) ar5_len) S.nd)
    (ss_cons (s_if (t_w (tw_or (t_cmp (op_neD hr.units) g_ne (v_up (v_ix (v_up (v_var 13)) (v_up v_int))) (v_up v_str)) (tw_or1 (t_cmp (op_neD hr.units) g_ne (v_up (v_ix (v_up (v_var 13)) (v_up v_int))) (v_up (v_var 12)))))) (ss_one (s_ret v_bl)) ss_nil)
    (ss_cons (s_set 14 (v_freeze (v_call D__law_boxes (hr.mono (by decide)) (takes_of rfl rfl rfl rfl) (a_cons (v_ix (v_up (v_var 7)) (v_up v_int)) a_nil) ar1_len)) S.nd)
    (ss_cons (s_for (passes_of rfl) rfl (i_seq (v_op op_addA g_addA (v_up (v_lc (own := [(("_law_name" : Str), 15)]) rfl S.nd (i_loose (i_seq (v_var 3))) (blkOk_by (by kernel_rfl)) (fun _ _ _ _ _ => (gv_name 15 (hN := S.nd))) (fun _ _ _ _ _ => (ts_one (t_cmp (op_notInA (hu65 hr)) (g_inA (n := true)) (v_up (v_var 15)) (v_up (v_var 14))))) (fun _ _ _ _ _ => (v_var 15)) (by decide) gok_name)) (v_up (v_lst (a_cons v_str (a_cons v_str (a_cons v_non (a_cons v_int (a_cons v_bl (a_cons (v_tup (a_cons v_str a_nil)) a_nil)))))))))) (gv_name 15 (hN := S.nd)) gok_name (ss_one (s_if (t_not (t_val (v_call D__law_equal (hr.mono (by decide)) (takes_of rfl rfl rfl rfl) (a_cons (v_call D__law_told (hr.mono (by decide)) (takes_of rfl rfl rfl rfl) (a_cons v_int (a_cons (v_var 6) (a_cons (v_ix (v_up (v_var 7)) (v_up v_int)) (a_cons (v_ix (v_up (v_var 7)) (v_up v_int)) (a_cons (v_var 15) a_nil))))) ar5_len) (a_cons (v_tup (a_cons v_str (a_cons (v_var 15) a_nil))) a_nil)) ar2_len))) (ss_one (s_ret v_bl)) ss_nil)))
    (ss_one (s_ret (v_call D__law_equal (hr.mono (by decide)) (takes_of rfl rfl rfl rfl) (a_cons (v_callK DK_low_bound_day_e_stacks (hr.mono (by decide)) (takes_of rfl rfl rfl rfl) (k_cons (v_var 6) (k_cons v_int (k_cons (v_var 4) k_nil))) ar3_len) (a_cons (v_callB call_lenV g_len Z.n_len (by kernel_rfl) (a_cons (v_up (v_call D__law_blocking (hr.mono (by decide)) (takes_of rfl rfl rfl rfl) (a_cons (v_var 5) (a_cons v_int (a_cons (v_var 4) a_nil))) ar3_len)) a_nil)) a_nil)) ar2_len)))))))))))))))))))
end
end K10
end
section
set_option Elab.async false
set_option linter.all false
set_option maxRecDepth 100000
namespace Lp
open PySem PySem.Spec L2
/-! ### the plain side: how mirrors are run through by simp -/
section evals
@[simp] theorem eVar_s (i : Nat) (τ : LE) : eVar i τ = (match τ[i]? with
  | some (some p) => .ok p
  | _ => .bad) := (rfl)
@[simp] theorem eC_s (p : PV) (τ : LE) : eC p τ = .ok p := (rfl)
@[simp] theorem aNil_s (τ : LE) : aNil τ = .ok [] := (rfl)
@[simp] theorem aCons_s (f g) (τ : LE) : aCons f g τ = (f τ >>= fun p => g τ >>= fun ps => .ok (p :: ps)) := (rfl)
@[simp] theorem e1_s (g f) (τ : LE) : e1 g f τ = (f τ >>= fun p => up (g p)) := (rfl)
@[simp] theorem e2_s (g f f') (τ : LE) : e2 g f f' τ = (f τ >>= fun p => f' τ >>= fun q => up (g p q)) := (rfl)
/-- the truth of a value -/
def tv : PV → Res Bool
  | .bl b => .ok b
  | _ => .bad
@[simp] theorem tv_bl (b : Bool) : tv (.bl b) = .ok b := (rfl)
@[simp] theorem tst_s (f) (τ : LE) : tst f τ = (f τ >>= tv) := by
  unfold tst
  congr 1
def bAnd (k : Res Bool) (b : Bool) : Res Bool := if b = true then k else .ok false
def bOr (k : Res Bool) (b : Bool) : Res Bool := if b = true then .ok true else k
@[simp] theorem bAnd_ok (b c : Bool) : bAnd (.ok c) b = .ok (b && c) := by cases b <;> rfl
@[simp] theorem bOr_ok (b c : Bool) : bOr (.ok c) b = .ok (b || c) := by cases b <;> rfl
@[simp] theorem bAnd_true (k) : bAnd k true = k := (rfl)
@[simp] theorem bAnd_false (k) : bAnd k false = .ok false := (rfl)
@[simp] theorem bOr_true (k) : bOr k true = .ok true := (rfl)
@[simp] theorem bOr_false (k) : bOr k false = k := (rfl)
@[simp] theorem tAndM_s (f g) (τ : LE) : tAndM f g τ = (f τ >>= bAnd (g τ)) := (rfl)
@[simp] theorem tOrM_s (f g) (τ : LE) : tOrM f g τ = (f τ >>= bOr (g τ)) := (rfl)
@[simp] theorem tNotM_s (f) (τ : LE) : tNotM f τ = (f τ >>= fun b => .ok (!b)) := (rfl)
@[simp] theorem tYesM_s (τ : LE) : tYesM τ = .ok true := (rfl)
@[simp] theorem eIf_s (t f f') (τ : LE) : eIf t f f' τ = (t τ >>= fun b => if b = true then f τ else f' τ) := (rfl)
def kAnd (k : Res PV) : PV → Res PV
  | .bl true => k
  | .bl false => .ok (.bl false)
  | _ => .bad
def kOr (k : Res PV) : PV → Res PV
  | .bl true => .ok (.bl true)
  | .bl false => k
  | _ => .bad
def kNot : PV → Res PV
  | .bl k => .ok (.bl (!k))
  | _ => .bad
theorem kAnd_bl (k) (b : Bool) : kAnd k (.bl b) = if b = true then k else .ok (.bl false) := by cases b <;> rfl
theorem kOr_bl (k) (b : Bool) : kOr k (.bl b) = if b = true then .ok (.bl true) else k := by cases b <;> rfl
@[simp] theorem kAnd_ok (b c : Bool) : kAnd (.ok (.bl c)) (.bl b) = .ok (.bl (b && c)) := by cases b <;> rfl
@[simp] theorem kOr_ok (b c : Bool) : kOr (.ok (.bl c)) (.bl b) = .ok (.bl (b || c)) := by cases b <;> rfl
@[simp] theorem kAnd_true (k) : kAnd k (.bl true) = k := (rfl)
@[simp] theorem kAnd_false (k) : kAnd k (.bl false) = .ok (.bl false) := (rfl)
@[simp] theorem kOr_true (k) : kOr k (.bl true) = .ok (.bl true) := (rfl)
@[simp] theorem kOr_false (k) : kOr k (.bl false) = k := (rfl)
@[simp] theorem kNot_bl (b : Bool) : kNot (.bl b) = .ok (.bl (!b)) := (rfl)
@[simp] theorem eAnd_s (f f') (τ : LE) : eAnd f f' τ = (f τ >>= kAnd (f' τ)) := by
  unfold eAnd
  congr 1
@[simp] theorem eOr_s (f f') (τ : LE) : eOr f f' τ = (f τ >>= kOr (f' τ)) := by
  unfold eOr
  congr 1
@[simp] theorem eNot_s (f) (τ : LE) : eNot f τ = (f τ >>= kNot) := by
  unfold eNot
  congr 1
def kCh (k : Res PV) : Option PV → Res PV
  | some (.bl true) => k
  | some (.bl false) => .ok (.bl false)
  | _ => .bad
theorem kCh_bl (k) (b : Bool) : kCh k (some (.bl b)) = if b = true then k else .ok (.bl false) := by cases b <;> rfl
@[simp] theorem kCh_ok (b c : Bool) : kCh (.ok (.bl c)) (some (.bl b)) = .ok (.bl (b && c)) := by cases b <;> rfl
@[simp] theorem kCh_true (k) : kCh k (some (.bl true)) = k := (rfl)
@[simp] theorem kCh_false (k) : kCh k (some (.bl false)) = .ok (.bl false) := (rfl)
@[simp] theorem eChain_s (g g' f f' f'') (τ : LE) : eChain g g' f f' f'' τ = (f τ >>= fun p => f' τ >>= fun p' => kCh (f'' τ >>= fun p'' => up (g' p' p'')) (g p p')) := by
  unfold eChain
  congr 1
def kI : PV → Res Int
  | .int i => .ok i
  | _ => .bad
@[simp] theorem kI_int (i : Int) : kI (.int i) = .ok i := (rfl)
@[simp] theorem asI_s (f) (τ : LE) : asI f τ = (f τ >>= kI) := by
  unfold asI
  congr 1
@[simp] theorem eChain3_s (g1 g2 g3 f1 f2 f3 f4) (τ : LE) : eChain3 g1 g2 g3 f1 f2 f3 f4 τ = (asI f1 τ >>= fun i => asI f2 τ >>= fun j => if g1 i j = true then asI f3 τ >>= fun k => (if g2 j k = true then asI f4 τ >>= fun l => .ok (.bl (g3 k l)) else .ok (.bl false)) else .ok (.bl false)) := (rfl)
@[simp] theorem eCall_s (g f) (τ : LE) : eCall g f τ = (f τ >>= fun ps => up (g ps)) := (rfl)
@[simp] theorem eFn_s (g fa) (τ : LE) : eFn g fa τ = (fa τ >>= g) := (rfl)
@[simp] theorem eFnK_s (nk perm g fa) (τ : LE) : eFnK nk perm g fa τ = (fa τ >>= fun qs => if qs.length = nk then g (gp perm qs) else .bad) := (rfl)
@[simp] theorem eTup_s (f) (τ : LE) : eTup f τ = (f τ >>= fun ps => if ps.length ≤ 1000 then .ok (.tup ps) else .bad) := (rfl)
@[simp] theorem eLst_s (f) (τ : LE) : eLst f τ = (f τ >>= fun ps => if ps.length ≤ 1000 then .ok (.lst ps) else .bad) := (rfl)
@[simp] theorem oNone_s (τ : LE) : oNone τ = .ok none := (rfl)
def kO : PV → Res (Option Int)
  | .int i => .ok (some i)
  | _ => .bad
@[simp] theorem kO_int (i : Int) : kO (.int i) = .ok (some i) := (rfl)
@[simp] theorem oSome_s (f) (τ : LE) : oSome f τ = (f τ >>= kO) := by
  unfold oSome
  congr 1
@[simp] theorem eSl_s (g f lo hi) (τ : LE) : eSl g f lo hi τ = (f τ >>= fun p => lo τ >>= fun l => hi τ >>= fun h => up (g p l h)) := (rfl)
@[simp] theorem iSeq_s (f) (τ : LE) : iSeq f τ = (f τ >>= fun p => up (itemsOf p)) := (rfl)
@[simp] theorem iFn_s (g f) (τ : LE) : iFn g f τ = (f τ >>= fun ps => up (g ps)) := (rfl)
@[simp] theorem gNm_s (i p) (τ : LE) : gNm i p τ = if i < τ.length then .ok (τ.set i (some p)) else .bad := (rfl)
@[simp] theorem gsN_s (τ : LE) : gsN [] τ = .ok τ := (rfl)
@[simp] theorem gsC_s (g gs p ps) (τ : LE) : gsC g gs (p :: ps) τ = (g p τ >>= fun τ' => gs ps τ') := (rfl)
@[simp] theorem gTp_i (gs n ps) (τ : LE) : gTp gs n (.itm ps) τ = if ps.length = n then gs ps τ else .bad := (rfl)
@[simp] theorem gTp_s (gs n ps) (τ : LE) : gTp gs n (.tup ps) τ = if ps.length = n then gs ps τ else .bad := (rfl)
@[simp] theorem ar1_s (m a) : ar1 m [a] = m a := (rfl)
@[simp] theorem ar2_s (m a b) : ar2 m [a, b] = m a b := (rfl)
@[simp] theorem ar3_s (m a b c) : ar3 m [a, b, c] = m a b c := (rfl)
@[simp] theorem ar4_s (m a b c d) : ar4 m [a, b, c, d] = m a b c d := (rfl)
@[simp] theorem ar5_s (m a b c d e) : ar5 m [a, b, c, d, e] = m a b c d e := (rfl)
@[simp] theorem ar6_s (m a b c d e f) : ar6 m [a, b, c, d, e, f] = m a b c d e f := (rfl)
/-! operations -/
@[simp] theorem pLt_s (i j : Int) : pLt (.int i) (.int j) = some (.bl (decide (i < j))) := (rfl)
@[simp] theorem pLe_s (i j : Int) : pLe (.int i) (.int j) = some (.bl (decide (i ≤ j))) := (rfl)
@[simp] theorem pGt_s (i j : Int) : pGt (.int i) (.int j) = some (.bl (decide (j < i))) := (rfl)
@[simp] theorem pGe_s (i j : Int) : pGe (.int i) (.int j) = some (.bl (decide (j ≤ i))) := (rfl)
@[simp] theorem pAddA_int (i j : Int) : pAddA (.int i) (.int j) = some (.int (i + j)) := (rfl)
@[simp] theorem pSub_int (i j : Int) : pSub (.int i) (.int j) = some (.int (i - j)) := (rfl)
@[simp] theorem pNeg_int (i : Int) : pNeg (.int i) = some (.int (-i)) := (rfl)
@[simp] theorem pLen_lst (xs : List PV) : pLen [.lst xs] = some (.int (xs.length : Nat)) := (rfl)
@[simp] theorem pInt_int (i : Int) : pInt [.int i] = some (.int i) := (rfl)
@[simp] theorem pIx_lst (xs : List PV) (i : Int) : pIx (.lst xs) (.int i) = atI xs i := (rfl)
@[simp] theorem pIx_tup (xs : List PV) (i : Int) : pIx (.tup xs) (.int i) = atI xs i := (rfl)
@[simp] theorem pList_lst (xs : List PV) : pList [.lst xs] = some (.lst xs) := (rfl)
@[simp] theorem pList_tup (xs : List PV) : pList [.tup xs] = some (.lst xs) := (rfl)
@[simp] theorem pTuple_lst (xs : List PV) : pTuple [.lst xs] = some (.tup xs) := (rfl)
@[simp] theorem pTuple_tup (xs : List PV) : pTuple [.tup xs] = some (.tup xs) := (rfl)
@[simp] theorem itemsOf_lst (xs : List PV) : itemsOf (.lst xs) = some xs := (rfl)
@[simp] theorem itemsOf_tup (xs : List PV) : itemsOf (.tup xs) = some xs := (rfl)
@[simp] theorem pIsN_s (p : PV) : pIsN p .non = some (.bl p.isN) := (rfl)
@[simp] theorem pNotN_s (p : PV) : pNotN p .non = some (.bl (!p.isN)) := (rfl)
@[simp] theorem isN_non : PV.isN .non = true := (rfl)
@[simp] theorem isN_tup (x) : PV.isN (.tup x) = false := (rfl)
@[simp] theorem isN_lst (x) : PV.isN (.lst x) = false := (rfl)
@[simp] theorem isN_int (x) : PV.isN (.int x) = false := (rfl)
@[simp] theorem isN_bl (x) : PV.isN (.bl x) = false := (rfl)
@[simp] theorem isN_str (x) : PV.isN (.str x) = false := (rfl)
@[simp] theorem isN_ins (c x) : PV.isN (.ins c x) = false := (rfl)
theorem pMod_int {i j : Int} (h : 0 < j) : pMod (.int i) (.int j) = some (.int (i % j)) := by
  show (if _ then _ else _) = _
  rw [if_pos h]
theorem pDiv_int {i j : Int} (h : CDiv i j) : pDiv (.int i) (.int j) = some (.int (i / j)) := by
  show (if _ then _ else _) = _
  rw [if_pos h]
theorem pDivW_int {i j : Int} (h0 : 0 < j) (h : j < 2 ^ 64) : pDivW (.int i) (.int j) = some (.int (i / j)) := by
  show (if _ then _ else _) = _
  rw [if_pos (wide_div h0 (b := 64) (by omega) (by decide) (by decide))]
theorem pMul_int {i j : Int} (h : CMul i j) : pMul (.int i) (.int j) = some (.int (i * j)) := by
  show (if _ then _ else _) = _
  rw [if_pos h]
theorem pPow_int {i j : Int} (h : CPow i j) : pPow (.int i) (.int j) = some (.int (i ^ j.toNat)) := by
  show (if _ then _ else _) = _
  rw [if_pos h]
theorem pMin_int (i j : Int) : pMin [.int i, .int j] = some (.int (min i j)) := by
  show some (PV.int _) = _
  congr 2
  dsimp only
  split <;> omega
theorem pMax_int (i j : Int) : pMax [.int i, .int j] = some (.int (max i j)) := by
  show some (PV.int _) = _
  congr 2
  dsimp only
  split <;> omega
theorem tup_list (xs : List PV) : True := trivial
theorem eqB_int (i j : Int) : eqB (.int i) (.int j) = some (decide (i = j)) := by
  simp [eqB, PV.toD, SeqAt.shaped, PyData.canLay0, PyData.depth, PyData.eqv]
  rfl
@[simp] theorem pEq_int (i j : Int) : pEq (.int i) (.int j) = some (.bl (decide (i = j))) := by
  unfold pEq; rw [eqB_int]; rfl
@[simp] theorem pNe_int (i j : Int) : pNe (.int i) (.int j) = some (.bl (!decide (i = j))) := by
  unfold pNe; rw [eqB_int]; rfl
theorem eqB_bl (i j : Bool) : eqB (.bl i) (.bl j) = some (i == j) := by
  simp [eqB, PV.toD, SeqAt.shaped, PyData.canLay0, PyData.depth, PyData.eqv]
@[simp] theorem pEq_bl (i j : Bool) : pEq (.bl i) (.bl j) = some (.bl (i == j)) := by
  unfold pEq; rw [eqB_bl]; rfl
@[simp] theorem pNe_bl (i j : Bool) : pNe (.bl i) (.bl j) = some (.bl (!(i == j))) := by
  unfold pNe; rw [eqB_bl]; rfl
/-- the text can be laid -/
def sok (x : Str) : Prop := (PyData.str x).canLay0 = true
theorem ofS_inj {a b : String} : Str.ofString a = Str.ofString b ↔ a = b := by
  constructor
  · intro h
    rw [Str.ofString_eq_toList, Str.ofString_eq_toList] at h
    have h2 : a.toList.map Char.toNat = b.toList.map Char.toNat := by
      have := congrArg (fun x => x.cps.toList) h
      simpa using this
    have h3 : a.toList = b.toList := (List.map_inj_right (f := Char.toNat) fun x y e => Char.ext (UInt32.toNat_inj.mp e)).mp h2
    exact String.toList_inj.mp h3
  · exact congrArg _
@[simp] theorem ofS_eq (a b : String) : (Str.ofString a = Str.ofString b) = (a = b) := propext ofS_inj
@[simp] theorem ofS_beq (a b : String) : (Str.ofString a == Str.ofString b) = (a == b) := by
  by_cases h : a = b
  · subst h; simp
  · rw [beq_eq_false_iff_ne.mpr h]
    exact beq_eq_false_iff_ne.mpr fun e => h (ofS_inj.mp e)
theorem sok_of {x : Str} (h : ∀ c ∈ x.cps.toList, c < 0x110000) : sok x := by
  show x.cps.all (· < 0x110000) = true
  rw [Array.all_eq_true']
  intro c hc
  exact decide_eq_true (h c (by simpa using hc))
theorem sok_ofS (s : String) : sok (Str.ofString s) := sok_of fun c hc => by
  rw [Str.ofString_eq_toList] at hc
  simp only [List.mem_map] at hc
  obtain ⟨ch, _, rfl⟩ := hc
  have := ch.valid
  rcases this with h | ⟨_, h⟩
  · exact Nat.lt_trans h (by decide)
  · exact h
theorem eqB_str {x y : Str} (hx : sok x) (hy : sok y) : eqB (.str x) (.str y) = some (decide (x = y)) := by
  unfold sok at hx hy
  simp [eqB, PV.toD, SeqAt.shaped, hx, hy, PyData.depth, PyData.eqv]
  rfl
theorem pEq_str {x y : Str} (hx : sok x) (hy : sok y) : pEq (.str x) (.str y) = some (.bl (decide (x = y))) := by
  unfold pEq; rw [eqB_str hx hy]; rfl
theorem pNe_str {x y : Str} (hx : sok x) (hy : sok y) : pNe (.str x) (.str y) = some (.bl (!decide (x = y))) := by
  unfold pNe; rw [eqB_str hx hy]; rfl
@[simp] theorem isaK_int : isaKnown "int" = true := by decide
@[simp] theorem isaK_bool : isaKnown "bool" = true := by decide
@[simp] theorem isaK_str : isaKnown "str" = true := by decide
@[simp] theorem isaK_tuple : isaKnown "tuple" = true := by decide
@[simp] theorem isaK_list : isaKnown "list" = true := by decide
@[simp] theorem isa_non (n) : PV.isa n .non = some false := (rfl)
@[simp] theorem isa_bl (n b) : PV.isa n (.bl b) = some (n == "bool" || n == "int") := (rfl)
@[simp] theorem isa_int (n b) : PV.isa n (.int b) = some (n == "int") := (rfl)
@[simp] theorem isa_str (n b) : PV.isa n (.str b) = some (n == "str") := (rfl)
@[simp] theorem isa_tup (n b) : PV.isa n (.tup b) = some (n == "tuple") := (rfl)
@[simp] theorem isa_lst (n b) : PV.isa n (.lst b) = some (n == "list") := (rfl)
@[simp] theorem isa_scr (n b) : PV.isa n (.scr b) = some (n == "list") := (rfl)
@[simp] theorem isa_dK (n b) : PV.isa n (.dK b) = some (n == "dict") := (rfl)
@[simp] theorem pIsi_s (p : PV) (n) : pIsi [p, .ty n] = if isaKnown n = true then (p.isa n).map .bl else none := (rfl)
def kIsi2 : Option Bool → Option Bool → Res PV
  | some x, some y => .ok (.bl (x || y))
  | _, _ => .bad
@[simp] theorem kIsi2_s (x y) : kIsi2 (some x) (some y) = .ok (.bl (x || y)) := (rfl)
@[simp] theorem eIsi2_s (a b f) (τ : LE) : eIsi2 a b f τ = (f τ >>= fun p => kIsi2 (p.isa a) (p.isa b)) := by
  unfold eIsi2
  congr 1
@[simp] theorem pLen_tup (xs : List PV) : pLen [.tup xs] = some (.int (xs.length : Nat)) := (rfl)
@[simp] theorem pLen_scr (xs : List Int) : pLen [.scr xs] = some (.int (xs.length : Nat)) := (rfl)
@[simp] theorem pLen_dK (xs : List (Key × PV)) : pLen [.dK xs] = some (.int (xs.length : Nat)) := (rfl)
theorem pLen_str {z : Str} (h : z.length ≤ sizeLine) : pLen [.str z] = some (.int (z.length : Nat)) := if_pos h
@[simp] theorem keyP_str (x : Str) : keyP (.str x) = some (.inr x) := (rfl)
@[simp] theorem keyP_int (x : Int) : keyP (.int x) = some (.inl x) := (rfl)
@[simp] theorem pDIn_s (n : Bool) (q : PV) (d) : pDIn n q (.dK d) = (keyP q).map fun k => .bl (n ^^ hasP d k) := (rfl)
@[simp] theorem pDGet_s (q : PV) (d) : pDGet (.dK d) q = (keyP q).bind (valP d) := (rfl)
@[simp] theorem sPut_s (i fi fe) (τ : LE) : sPut i fi fe τ = rs (fe τ) τ fun p => onDK τ[i]? fun kvs => rs (fi τ) τ fun q => match keyP q with
    | some k => if kvs.length < 1000000 then .nx (τ.set i (some (.dK (setP kvs k p)))) else .bad
    | none => .bad := (rfl)
@[simp] theorem sDel_s (i fi) (τ : LE) : sDel i fi τ = onDK τ[i]? fun kvs => rs (fi τ) τ fun q => match keyP q with
    | some k => if hasP kvs k then .nx (τ.set i (some (.dK (dropP kvs k)))) else .bad
    | none => .bad := (rfl)
@[simp] theorem tru_bl (b) : tru (.bl b) = some b := (rfl)
@[simp] theorem tru_lst (b) : tru (.lst b) = some !b.isEmpty := (rfl)
@[simp] theorem tru_tup (b) : tru (.tup b) = some !b.isEmpty := (rfl)
@[simp] theorem tstV_s (f) (τ : LE) : tstV f τ = (f τ >>= fun p => up (tru p)) := (rfl)
@[simp] theorem pIsB_s (a b) : pIsB (.bl a) (.bl b) = some (.bl (decide (a = b))) := (rfl)
@[simp] theorem pNotB_s (a b) : pNotB (.bl a) (.bl b) = some (.bl (!decide (a = b))) := (rfl)
@[simp] theorem pRev_tup (xs) : pRev (.tup xs) = some (.tup xs.reverse) := (rfl)
@[simp] theorem pRev_lst (xs) : pRev (.lst xs) = some (.lst xs.reverse) := (rfl)
def kAug (i : Nat) (g : Int → Int → Int) (r : Res PV) (τ : LE) : Option (Option PV) → Fl
  | some (some (.int a)) => rs r τ fun q => match q with
    | .int b => .nx (τ.set i (some (.int (g a b))))
    | _ => .bad
  | _ => .bad
@[simp] theorem kAug_int (i g r τ a) : kAug i g r τ (some (some (.int a))) = rs r τ fun q => match q with
    | .int b => .nx (τ.set i (some (.int (g a b))))
    | _ => .bad := (rfl)
@[simp] theorem sAug_s (i g f) (τ : LE) : sAug i g f τ = kAug i g (f τ) τ τ[i]? := by
  unfold sAug
  rcases τ[i]? with _ | _ | p
  · rfl
  · rfl
  · cases p <;> rfl
def kLet (j : Nat) : Fl → Fl
  | .nx τ' => .nx (τ'.set j none)
  | .bk τ' => .bk (τ'.set j none)
  | .ct τ' => .ct (τ'.set j none)
  | .ex c fs τ' => .ex c fs (τ'.set j none)
  | .rt p => .rt p
  | .bad => .bad
@[simp] theorem sLet_s (j m) (τ : LE) : sLet j m τ = kLet j (m τ) := by
  unfold sLet kLet
  cases m τ <;> rfl
@[simp] theorem kLet_nx (j τ) : kLet j (.nx τ) = .nx (τ.set j none) := (rfl)
@[simp] theorem kLet_bk (j τ) : kLet j (.bk τ) = .bk (τ.set j none) := (rfl)
@[simp] theorem kLet_ct (j τ) : kLet j (.ct τ) = .ct (τ.set j none) := (rfl)
@[simp] theorem kLet_ex (j c fs τ) : kLet j (.ex c fs τ) = .ex c fs (τ.set j none) := (rfl)
@[simp] theorem kLet_rt (j p) : kLet j (.rt p) = .rt p := (rfl)
@[simp] theorem pMulA_int (i j : Int) : pMulA (.int i) (.int j) = pMul (.int i) (.int j) := by
  unfold pMulA orP
  by_cases h : CMul i j
  · rw [show pMul (.int i) (.int j) = some (.int (i * j)) from by show (if _ then _ else _) = _; rw [if_pos h]]
  · rw [show pMul (.int i) (.int j) = none from by show (if _ then _ else _) = _; rw [if_neg h]]; rfl
theorem pMulA_lst {xs : List PV} {k : Int} (h : 0 ≤ k ∧ k ≤ 1000 ∧ xs.length ≤ 1000) : pMulA (.lst xs) (.int k) = some (.lst (List.replicate k.toNat xs).flatten) := by
  show (if _ then _ else _) = _
  rw [if_pos h]
theorem pMulA_str {z : Str} {k : Int} (h : 0 ≤ k ∧ k ≤ 1000 ∧ z.length ≤ 1000) : pMulA (.str z) (.int k) = some (.str (timesS z k)) := by
  show (if _ then _ else _) = _
  rw [if_pos h]
/-! statements -/
def Fl.next (r : Fl) (m : LE → Fl) : Fl := match r with
  | .nx τ => m τ
  | r => r
@[simp] theorem next_nx (τ m) : Fl.next (.nx τ) m = m τ := (rfl)
@[simp] theorem next_rt (p m) : Fl.next (.rt p) m = .rt p := (rfl)
@[simp] theorem next_bk (p m) : Fl.next (.bk p) m = .bk p := (rfl)
@[simp] theorem next_ct (p m) : Fl.next (.ct p) m = .ct p := (rfl)
@[simp] theorem next_ex (c fs τ m) : Fl.next (.ex c fs τ) m = .ex c fs τ := (rfl)
@[simp] theorem next_bad (m) : Fl.next .bad m = .bad := (rfl)
@[simp] theorem sSeq_s (m1 m2) (τ : LE) : sSeq m1 m2 τ = (m1 τ).next m2 := by
  unfold sSeq Fl.next
  cases m1 τ <;> rfl
@[simp] theorem sNil_s (τ : LE) : sNil τ = .nx τ := (rfl)
@[simp] theorem sIf_s (t m1 m2) (τ : LE) : sIf t m1 m2 τ = rs (t τ) τ fun b => if b = true then m1 τ else m2 τ := (rfl)
@[simp] theorem sRet_s (f) (τ : LE) : sRet f τ = rs (f τ) τ .rt := (rfl)
@[simp] theorem sRetN_s (τ : LE) : sRetN τ = .rt .non := (rfl)
@[simp] theorem sExpr_s (f) (τ : LE) : sExpr f τ = rs (f τ) τ fun _ => .nx τ := (rfl)
@[simp] theorem sSet_s (i f) (τ : LE) : sSet i f τ = rs (f τ) τ fun p => if i < τ.length then .nx (τ.set i (some p)) else .bad := (rfl)
@[simp] theorem sAsg_s (f g) (τ : LE) : sAsg f g τ = rs (f τ) τ fun p => rs (g p τ).nx τ .nx := (rfl)
@[simp] theorem sExprM_s (f) (τ : LE) : sExprM f τ = rs (f τ) τ fun r => .nx r.2 := (rfl)
@[simp] theorem sSetM_s (j f) (τ : LE) : sSetM j f τ = rs (f τ) τ fun r => if j < r.2.length then .nx (r.2.set j (some r.1)) else .bad := (rfl)
def kMut (i : Nat) (g : List PV → List PV → Option (List PV × PV)) (a : Res (List PV)) (τ : LE) : Option (Option PV) → Res (PV × LE)
  | some (some (.lst ps)) => a >>= fun qs => match g ps qs with
    | some (ps', z) => .ok (z, τ.set i (some (.lst ps')))
    | none => .bad
  | _ => .bad
@[simp] theorem kMut_lst (i g a τ ps) : kMut i g a τ (some (some (.lst ps))) = (a >>= fun qs => match g ps qs with
    | some (ps', z) => .ok (z, τ.set i (some (.lst ps')))
    | none => .bad) := (rfl)
@[simp] theorem eMut_s (i g f) (τ : LE) : eMut i g f τ = kMut i g (f τ) τ τ[i]? := by
  unfold eMut
  rcases τ[i]? with _ | _ | p
  · rfl
  · rfl
  · cases p <;> rfl
theorem gApp_s {ps : List PV} {q : PV} (h : ps.length < 1000000) : gApp ps [q] = some (ps ++ [q], .non) := by
  unfold gApp
  exact if_pos h
@[simp] theorem sRaise_s (c fld f) (τ : LE) : sRaise c fld f τ = rs (f τ) τ fun p => .ex c [(fld, p)] τ := (rfl)
@[simp] theorem fin_rt (m p) : fin m (.rt p) = .ok p := (rfl)
@[simp] theorem fin_ex (m c fs τ) : fin m (.ex c fs τ) = .exc c fs := (rfl)
@[simp] theorem fin_nx (τ) : fin .sh (.nx τ) = .ok .non := (rfl)
@[simp] theorem sFld_s (i cl f fe) (τ : LE) : sFld i cl f fe τ = rs (fe τ) τ fun p => onIns τ[i]? fun c fs => if c = cl ∧ fs.length < 1000 then .nx (τ.set i (some (.ins c (putP f p fs)))) else .bad := (rfl)
def kTryA (cov : Nat → Option Bool) (i : Nat) (ms : Addr → Addr → Nat → LE → Fl) : Fl → Fl
  | .ex c fs τ1 => match cov c with
    | some true => if i < τ1.length then tidy i (ms 0 0 c (τ1.set i (some (.exn 0 0 c fs)))) else .bad
    | some false => .ex c fs τ1
    | none => .bad
  | r => r
@[simp] theorem sTryA_s (cov i mb ms) (τ : LE) : sTryA cov i mb ms τ = kTryA cov i ms (mb τ) := by
  unfold sTryA
  cases mb τ <;> rfl
@[simp] theorem kTryA_rt (cov i ms p) : kTryA cov i ms (.rt p) = .rt p := (rfl)
@[simp] theorem kTryA_nx (cov i ms p) : kTryA cov i ms (.nx p) = .nx p := (rfl)
@[simp] theorem kTryA_ct (cov i ms p) : kTryA cov i ms (.ct p) = .ct p := (rfl)
@[simp] theorem kTryA_bk (cov i ms p) : kTryA cov i ms (.bk p) = .bk p := (rfl)
@[simp] theorem kTryA_ex (cov i ms c fs τ1) : kTryA cov i ms (.ex c fs τ1) = match cov c with
    | some true => if i < τ1.length then tidy i (ms 0 0 c (τ1.set i (some (.exn 0 0 c fs)))) else .bad
    | some false => .ex c fs τ1
    | none => .bad := (rfl)
def kTryO (cov : Nat → Option Bool) (ms : LE → Fl) : Fl → Fl
  | .ex c fs τ1 => match cov c with
    | some true => noEx (ms τ1)
    | some false => .ex c fs τ1
    | none => .bad
  | r => r
@[simp] theorem sTryO_s (cov mb ms) (τ : LE) : sTryO cov mb ms τ = kTryO cov ms (mb τ) := by
  unfold sTryO
  cases mb τ <;> rfl
@[simp] theorem kTryO_rt (cov ms p) : kTryO cov ms (.rt p) = .rt p := (rfl)
@[simp] theorem kTryO_nx (cov ms p) : kTryO cov ms (.nx p) = .nx p := (rfl)
@[simp] theorem kTryO_ct (cov ms p) : kTryO cov ms (.ct p) = .ct p := (rfl)
@[simp] theorem kTryO_bk (cov ms p) : kTryO cov ms (.bk p) = .bk p := (rfl)
@[simp] theorem kTryO_ex (cov ms c fs τ1) : kTryO cov ms (.ex c fs τ1) = match cov c with
    | some true => noEx (ms τ1)
    | some false => .ex c fs τ1
    | none => .bad := (rfl)
@[simp] theorem tidy_nx (i τ) : tidy i (.nx τ) = .nx (τ.set i none) := (rfl)
@[simp] theorem tidy_ct (i τ) : tidy i (.ct τ) = .ct (τ.set i none) := (rfl)
@[simp] theorem tidy_bk (i τ) : tidy i (.bk τ) = .bk (τ.set i none) := (rfl)
@[simp] theorem tidy_rt (i p) : tidy i (.rt p) = .rt p := (rfl)
@[simp] theorem noEx_nx (τ) : noEx (.nx τ) = .nx τ := (rfl)
@[simp] theorem noEx_ct (τ) : noEx (.ct τ) = .ct τ := (rfl)
@[simp] theorem noEx_bk (τ) : noEx (.bk τ) = .bk τ := (rfl)
@[simp] theorem noEx_rt (p) : noEx (.rt p) = .rt p := (rfl)
def kAt (k : List (Str × PV) → Res PV) (a d : Addr) : Option (Option PV) → Res PV
  | some (some (.exn a' d' _ fs)) => if a' = a ∧ d' = d then k fs else .bad
  | _ => .bad
@[simp] theorem kAt_exn (k a d a' d' c fs) : kAt k a d (some (some (.exn a' d' c fs))) = if a' = a ∧ d' = d then k fs else .bad := (rfl)
@[simp] theorem eAt_s (a d i k) (τ : LE) : eAt a d i k τ = kAt k a d τ[i]? := by
  unfold eAt
  rcases τ[i]? with _ | _ | p
  · rfl
  · rfl
  · cases p <;> rfl
@[simp] theorem xGet_s (f fs) : xGet f fs = up (fs.lookup f) := by
  unfold xGet
  cases fs.lookup f <;> rfl
def kAtt (ok : Nat → Bool) (f : Str) : PV → Res PV
  | .ins c fs => if ok c = true then up (fs.lookup f) else .bad
  | _ => .bad
@[simp] theorem kAtt_ins (ok f c fs) : kAtt ok f (.ins c fs) = if ok c = true then up (fs.lookup f) else .bad := (rfl)
@[simp] theorem eAtt_s (ok f fe) (τ : LE) : eAtt ok f fe τ = (fe τ >>= kAtt ok f) := by
  unfold eAtt
  congr 1
  funext p
  cases p <;> try rfl
  unfold kAtt
  dsimp only
  split
  · cases List.lookup f _ <;> rfl
  · rfl
end evals
section sats
/-- what is promised of an end -/
structure Pst where
  nx : LE → Prop := fun _ => False
  rt : PV → Prop := fun _ => False
  bk : LE → Prop := fun _ => False
  ct : LE → Prop := fun _ => False
  ex : Nat → List (Str × PV) → LE → Prop := fun _ _ _ => False
def Fl.sat (r : Fl) (D : Pst) : Prop := match r with
  | .nx τ => D.nx τ
  | .rt p => D.rt p
  | .bk τ => D.bk τ
  | .ct τ => D.ct τ
  | .ex c fs τ => D.ex c fs τ
  | .bad => False
variable {D E : Pst} {τ : LE} {r : Fl} {m : LE → Fl} {it : LE → Res (List PV)} {g : PV → LE → Res LE} {body : LE → Fl} {ps : List PV}
@[simp] theorem sat_nx : (Fl.nx τ).sat D = D.nx τ := (rfl)
@[simp] theorem sat_rt {p} : (Fl.rt p).sat D = D.rt p := (rfl)
@[simp] theorem sat_bk : (Fl.bk τ).sat D = D.bk τ := (rfl)
@[simp] theorem sat_ct : (Fl.ct τ).sat D = D.ct τ := (rfl)
@[simp] theorem sat_ex {c fs} : (Fl.ex c fs τ).sat D = D.ex c fs τ := (rfl)
@[simp] theorem sat_bad : Fl.bad.sat D = False := (rfl)
theorem Fl.sat.mono (h : r.sat D) (h1 : ∀ τ, D.nx τ → E.nx τ) (h2 : ∀ p, D.rt p → E.rt p) (h3 : ∀ τ, D.bk τ → E.bk τ) (h4 : ∀ τ, D.ct τ → E.ct τ) (h5 : ∀ c fs τ, D.ex c fs τ → E.ex c fs τ) : r.sat E := by
  cases r with
  | nx τ => exact h1 _ h
  | rt p => exact h2 _ h
  | bk τ => exact h3 _ h
  | ct τ => exact h4 _ h
  | ex c fs τ => exact h5 _ _ _ h
  | bad => exact h
theorem sat_next (h : r.sat { D with nx := fun τ => (m τ).sat D }) : (r.next m).sat D := by
  cases r <;> exact h
theorem forL_sat {α : Type} (enc : α → PV) (I : Nat → LE → Prop) : ∀ (xs : List α) (n : Nat) (τ : LE), I n τ → (∀ k (hk : k < xs.length) τ, I (n + k) τ → ∃ τ1, g (enc xs[k]) τ = .ok τ1 ∧ (body τ1).sat { nx := I (n + k + 1), ct := I (n + k + 1), bk := D.nx, rt := D.rt, ex := D.ex }) →
    (∀ τ, I (n + xs.length) τ → D.nx τ) → (forL g body (xs.map enc) τ).sat D
  | [], n, τ, h0, _, he => he τ h0
  | x :: xs, n, τ, h0, hs, he => by
    obtain ⟨τ1, e1, s1⟩ := hs 0 (by simp) τ h0
    rw [List.map_cons, forL]
    simp only [List.getElem_cons_zero] at e1
    rw [e1]
    simp only [Res.nx_ok, rs_ok]
    have ih := fun τ h => forL_sat enc I xs (n + 1) τ h (fun k hk τ' h' => by
      obtain ⟨τ2, e2, s2⟩ := hs (k + 1) (by simpa using hk) τ' (by rw [show n + (k + 1) = n + 1 + k by omega]; exact h')
      rw [show n + (k + 1) = n + 1 + k by omega] at s2
      exact ⟨τ2, by simpa using e2, s2⟩) (fun τ' h' => he τ' (by rw [List.length_cons, show n + (xs.length + 1) = n + 1 + xs.length by omega]; exact h'))
    cases hb : body τ1 with
    | nx τ2 => rw [hb] at s1; exact ih τ2 s1
    | ct τ2 => rw [hb] at s1; exact ih τ2 s1
    | bk τ2 => rw [hb] at s1; exact s1
    | rt p => rw [hb] at s1; exact s1
    | ex c fs τ2 => rw [hb] at s1; exact s1
    | bad => rw [hb] at s1; exact s1
/-- a for loop over coded items by an invariant of how many are done -/
theorem for_sat {α : Type} (xs : List α) (enc : α → PV) (I : Nat → LE → Prop) (h : it τ = .ok (xs.map enc)) (h0 : I 0 τ)
    (hs : ∀ k (hk : k < xs.length) τ, I k τ → ∃ τ1, g (enc xs[k]) τ = .ok τ1 ∧ (body τ1).sat { nx := I (k + 1), ct := I (k + 1), bk := D.nx, rt := D.rt, ex := D.ex })
    (he : ∀ τ, I xs.length τ → D.nx τ) : (sFor it g body τ).sat D := by
  unfold sFor
  rw [h, rs_ok]
  exact forL_sat enc I xs 0 τ h0 (fun k hk τ h => by
    rw [Nat.zero_add] at h ⊢
    exact hs k hk τ h) (fun τ h => he τ (by rw [Nat.zero_add] at h; exact h))
theorem sFor_of (h : it τ = .ok ps) : sFor it g body τ = forL g body ps τ := by unfold sFor; rw [h]; rfl
theorem while_sat {t : LE → Res Bool} (I : Nat → LE → Prop) : ∀ (n : Nat) (τ : LE), I n τ → (∀ n τ, I n τ → ∃ b, t τ = .ok b ∧ if b = true then ∃ k, n = k + 1 ∧ (body τ).sat { nx := I k, ct := I k, bk := D.nx, rt := D.rt, ex := D.ex } else 0 < n ∧ D.nx τ) → (whileL t body n τ).sat D
  | 0, τ, h, hs => by
    obtain ⟨b, _, h2⟩ := hs 0 τ h
    cases b
    · exact absurd h2.1 (by omega)
    · obtain ⟨k, e, _⟩ := h2; omega
  | n + 1, τ, h, hs => by
    obtain ⟨b, e, h2⟩ := hs (n + 1) τ h
    unfold whileL
    rw [e, rs_ok]
    cases b
    · exact h2.2
    · obtain ⟨k, ek, s1⟩ := h2
      obtain rfl : n = k := by omega
      rw [if_pos rfl]
      have ih := fun τ h => while_sat I n τ h hs
      cases hb : body τ with
      | nx τ2 => rw [hb] at s1; exact ih τ2 s1
      | ct τ2 => rw [hb] at s1; exact ih τ2 s1
      | bk τ2 => rw [hb] at s1; exact s1
      | rt p => rw [hb] at s1; exact s1
      | ex c fs τ2 => rw [hb] at s1; exact s1
      | bad => rw [hb] at s1; exact s1
theorem fin_sat {rm : Mode} {P : PV → Prop} (h : r.sat { rt := P }) : ∃ v, fin rm r = .ok v ∧ P v := by
  cases r with
  | rt p => exact ⟨p, rfl, h⟩
  | _ => exact h.elim
theorem fin_eq {rm : Mode} {v : PV} (h : r.sat { rt := fun p => p = v }) : fin rm r = .ok v := by
  obtain ⟨w, e, rfl⟩ := fin_sat (rm := rm) h
  exact e
theorem finI_eq {v : PV} (h : r.sat { nx := fun τ => τ[0]? = some (some v) }) : finI r = .ok v := by
  cases r with
  | nx τ =>
    have h : τ[0]? = some (some v) := h
    show (match τ[0]? with
      | some (some p) => Res.ok p
      | _ => .bad) = _
    rw [h]
  | _ => exact h.elim
end sats
section comps
variable {τ : LE} {it : LE → Res (List PV)} {tgt : PV → LE → Res LE} {cond : LE → Res Bool} {elt : LE → Res PV} {own : List Nat}
/-- what one item of a comprehension gives -/
def cItem (tgt : PV → LE → Res LE) (cond : LE → Res Bool) (elt : LE → Res PV) (τ : LE) (p : PV) : Res (Option PV) :=
  tgt p τ >>= fun τ1 => cond τ1 >>= fun b => if b = true then elt τ1 >>= fun v => .ok (some v) else .ok none
theorem compL_item {p : PV} {ps : List PV} {o : Option PV} (h : cItem tgt cond elt τ p = .ok o) : compL tgt cond elt τ (p :: ps) = (compL tgt cond elt τ ps >>= fun r => .ok (o.toList ++ r)) := by
  unfold cItem at h
  rw [compL]
  cases h1 : tgt p τ with
  | exc c fs => rw [h1] at h; cases h
  | bad => rw [h1] at h; cases h
  | ok τ1 =>
    rw [h1, Res.ok_bind] at h
    rw [Res.nx_ok, Res.ok_bind]
    cases h2 : cond τ1 with
    | exc c fs => rw [h2] at h; cases h
    | bad => rw [h2] at h; cases h
    | ok b =>
      rw [h2, Res.ok_bind] at h
      rw [Res.nx_ok, Res.ok_bind]
      cases b
      · cases h
        rw [if_neg (by decide)]
        cases compL tgt cond elt τ ps <;> rfl
      · rw [if_pos rfl] at h ⊢
        cases h3 : elt τ1 with
        | exc c fs => rw [h3] at h; cases h
        | bad => rw [h3] at h; cases h
        | ok v =>
          rw [h3, Res.ok_bind] at h
          cases h
          rfl
theorem compL_map {α : Type} (enc : α → PV) (f : α → Option PV) : ∀ xs : List α, (∀ x ∈ xs, cItem tgt cond elt τ (enc x) = .ok (f x)) → compL tgt cond elt τ (xs.map enc) = .ok (xs.filterMap f)
  | [], _ => rfl
  | x :: xs, h => by
    rw [List.map_cons, compL_item (h x List.mem_cons_self), compL_map enc f xs fun y hy => h y (List.mem_cons_of_mem _ hy), Res.ok_bind, List.filterMap_cons]
    cases f x <;> rfl
theorem comp_opt {α : Type} (xs : List α) (enc : α → PV) (f : α → Option PV) (h : it τ = .ok (xs.map enc)) (hs : ∀ x ∈ xs, cItem tgt cond elt (wipeL τ own) (enc x) = .ok (f x)) : eComp own it tgt cond elt τ = .ok (.lst (xs.filterMap f)) := by
  unfold eComp
  rw [h, Res.ok_bind, compL_map enc f xs hs]
  rfl
theorem comp_map {α : Type} (xs : List α) (enc f : α → PV) (h : it τ = .ok (xs.map enc)) (hs : ∀ x ∈ xs, cItem tgt cond elt (wipeL τ own) (enc x) = .ok (some (f x))) : eComp own it tgt cond elt τ = .ok (.lst (xs.map f)) := by
  rw [comp_opt xs enc (fun x => some (f x)) h hs, List.filterMap_eq_map' ]
theorem comp_filter {α : Type} (xs : List α) (enc f : α → PV) (c : α → Bool) (h : it τ = .ok (xs.map enc)) (hs : ∀ x ∈ xs, cItem tgt cond elt (wipeL τ own) (enc x) = .ok (if c x = true then some (f x) else none)) : eComp own it tgt cond elt τ = .ok (.lst ((xs.filter c).map f)) := by
  rw [comp_opt xs enc _ h hs]
  congr 2
  clear h hs
  induction xs with
  | nil => rfl
  | cons x xs ih =>
    rw [List.filterMap_cons, List.filter_cons]
    cases c x
    · exact ih
    · simp [ih]
def kC2 (it1 : LE → Res (List PV)) (own1 : List Nat) (tgt1 : PV → LE → Res LE) (cond1 : LE → Res Bool) (elt : LE → Res PV) (tgt : PV → LE → Res LE) (cond : LE → Res Bool) (τ : LE) (p : PV) : Res (List PV) :=
  tgt p τ >>= fun τ1 => cond τ1 >>= fun b => if b = true then it1 τ1 >>= fun qs => compL tgt1 cond1 elt (wipeL τ1 own1) qs else .ok []
variable {it1 : LE → Res (List PV)} {own1 : List Nat} {tgt1 : PV → LE → Res LE} {cond1 : LE → Res Bool}
theorem compL2_item {p : PV} {ps o : List PV} (h : kC2 it1 own1 tgt1 cond1 elt tgt cond τ p = .ok o) : compL2 tgt cond it1 own1 tgt1 cond1 elt τ (p :: ps) = (compL2 tgt cond it1 own1 tgt1 cond1 elt τ ps >>= fun r => .ok (o ++ r)) := by
  unfold kC2 at h
  rw [compL2]
  cases h1 : tgt p τ with
  | exc c fs => rw [h1] at h; cases h
  | bad => rw [h1] at h; cases h
  | ok τ1 =>
    rw [h1, Res.ok_bind] at h
    rw [Res.nx_ok, Res.ok_bind]
    cases h2 : cond τ1 with
    | exc c fs => rw [h2] at h; cases h
    | bad => rw [h2] at h; cases h
    | ok b =>
      rw [h2, Res.ok_bind] at h
      rw [Res.nx_ok, Res.ok_bind]
      cases b
      · cases h
        rw [if_neg (by decide)]
        cases compL2 tgt cond it1 own1 tgt1 cond1 elt τ ps <;> rfl
      · rw [if_pos rfl] at h ⊢
        cases h3 : it1 τ1 with
        | exc c fs => rw [h3] at h; cases h
        | bad => rw [h3] at h; cases h
        | ok qs =>
          rw [h3, Res.ok_bind] at h
          rw [Res.nx_ok, Res.ok_bind, h, Res.ok_bind]
theorem compL2_map {α : Type} (enc : α → PV) (f : α → List PV) : ∀ xs : List α, (∀ x ∈ xs, kC2 it1 own1 tgt1 cond1 elt tgt cond τ (enc x) = .ok (f x)) → compL2 tgt cond it1 own1 tgt1 cond1 elt τ (xs.map enc) = .ok (xs.flatMap f)
  | [], _ => rfl
  | x :: xs, h => by
    rw [List.map_cons, compL2_item (h x List.mem_cons_self), compL2_map enc f xs fun y hy => h y (List.mem_cons_of_mem _ hy), Res.ok_bind, List.flatMap_cons]
theorem comp2_map {α : Type} (xs : List α) (enc : α → PV) (f : α → List PV) (h : it τ = .ok (xs.map enc)) (hs : ∀ x ∈ xs, kC2 it1 own1 tgt1 cond1 elt tgt cond (wipeL τ own) (enc x) = .ok (f x)) (hl : (xs.flatMap f).length ≤ 1000000) :
    eComp2 own it tgt cond it1 own1 tgt1 cond1 elt τ = .ok (.lst (xs.flatMap f)) := by
  unfold eComp2
  rw [h, Res.ok_bind, compL2_map enc f xs hs, Res.nx_ok, Res.ok_bind, if_pos hl]
/-! dict comprehensions -/
def dItem (tgt : PV → LE → Res LE) (cond : LE → Res Bool) (ek ev : LE → Res PV) (τ : LE) (p : PV) : Res (PV × PV) :=
  tgt p τ >>= fun τ1 => cond τ1 >>= fun b => if b = true then ek τ1 >>= fun k => ev τ1 >>= fun v => .ok (k, v) else .bad
theorem dcL_map {α : Type} {ek ev : LE → Res PV} (enc : α → PV) (kf : α → PV) (key : α → Key) (val : α → PV) (hk : ∀ x, keyP (kf x) = some (key x)) : ∀ (xs : List α) (acc : List (Key × PV)), (∀ x ∈ xs, dItem tgt cond ek ev τ (enc x) = .ok (kf x, val x)) → dcL tgt cond ek ev τ acc (xs.map enc) = .ok (xs.foldl (fun d x => setP d (key x) (val x)) acc)
  | [], _, _ => by rw [List.map_nil, dcL]; rfl
  | x :: xs, acc, h => by
    have h0 := h x List.mem_cons_self
    have ih := dcL_map enc kf key val hk xs (setP acc (key x) (val x)) fun y hy => h y (List.mem_cons_of_mem _ hy)
    rw [List.map_cons, dcL, List.foldl_cons, ← ih]
    unfold dItem at h0
    cases h1 : tgt (enc x) τ with
    | exc c fs => rw [h1] at h0; cases h0
    | bad => rw [h1] at h0; cases h0
    | ok τ1 =>
      rw [h1, Res.ok_bind] at h0
      rw [Res.nx_ok, Res.ok_bind]
      cases h2 : cond τ1 with
      | exc c fs => rw [h2] at h0; cases h0
      | bad => rw [h2] at h0; cases h0
      | ok b =>
        rw [h2, Res.ok_bind] at h0
        rw [Res.nx_ok, Res.ok_bind]
        cases b
        · cases h0
        · rw [if_pos rfl] at h0 ⊢
          cases h3 : ek τ1 with
          | exc c fs => rw [h3] at h0; cases h0
          | bad => rw [h3] at h0; cases h0
          | ok k =>
            rw [h3, Res.ok_bind] at h0
            rw [Res.nx_ok, Res.ok_bind]
            cases h4 : ev τ1 with
            | exc c fs => rw [h4] at h0; cases h0
            | bad => rw [h4] at h0; cases h0
            | ok v =>
              rw [h4, Res.ok_bind] at h0
              cases h0
              rw [Res.nx_ok, Res.ok_bind, hk x]
theorem dcomp_map {α : Type} {ek ev : LE → Res PV} (xs : List α) (enc kf : α → PV) (key : α → Key) (val : α → PV) (hk : ∀ x, keyP (kf x) = some (key x)) (h : it τ = .ok (xs.map enc)) (hs : ∀ x ∈ xs, dItem tgt cond ek ev (wipeL τ own) (enc x) = .ok (kf x, val x)) :
    eDComp own it tgt cond ek ev τ = .ok (.dK (xs.foldl (fun d x => setP d (key x) (val x)) [])) := by
  unfold eDComp
  rw [h, Res.ok_bind, dcL_map enc kf key val hk xs [] hs]
  rfl
theorem hasP_iff {d : List (Key × PV)} {k : Key} : hasP d k = true ↔ k ∈ d.map (·.1) := by
  simp [hasP, List.mem_map]
/-- unlike keys: the dict stands in their order -/
theorem foldl_setP {α : Type} (key : α → Key) (val : α → PV) : ∀ (xs : List α) (acc : List (Key × PV)), (xs.map key).Nodup → (∀ x ∈ xs, key x ∉ acc.map (·.1)) → xs.foldl (fun d x => setP d (key x) (val x)) acc = acc ++ xs.map fun x => (key x, val x)
  | [], acc, _, _ => by simp
  | x :: xs, acc, hn, h => by
    rw [List.map_cons, List.nodup_cons] at hn
    have hx : hasP acc (key x) = false := by
      have := h x List.mem_cons_self
      rw [← hasP_iff] at this
      simpa using this
    have hs : setP acc (key x) (val x) = acc ++ [(key x, val x)] := by
      unfold setP
      rw [hx]
      rfl
    rw [List.foldl_cons, hs, foldl_setP key val xs _ hn.2 fun y hy => ?_]
    · simp
    · rw [List.map_append, List.mem_append]
      rintro (h1 | h1)
      · exact h y (List.mem_cons_of_mem _ hy) h1
      · simp only [List.map_cons, List.map_nil, List.mem_singleton] at h1
        exact hn.1 (List.mem_map.mpr ⟨y, hy, h1⟩)
theorem blsOf_map {α : Type} (c : α → Bool) : ∀ xs : List α, blsOf (xs.map fun x => .bl (c x)) = some (xs.map c)
  | [] => rfl
  | x :: xs => by rw [List.map_cons, blsOf, blsOf_map c xs]; rfl
theorem pAll_map {α : Type} (c : α → Bool) (xs : List α) : pAll [.lst (xs.map fun x => .bl (c x))] = some (.bl (xs.all c)) := by
  show (blsOf (xs.map fun x => PV.bl (c x))).map (fun bs => PV.bl (bs.all _root_.id)) = _
  rw [blsOf_map]
  simp [List.all_map, Function.comp_def]
theorem pAny_map {α : Type} (c : α → Bool) (xs : List α) : pAny [.lst (xs.map fun x => .bl (c x))] = some (.bl (xs.any c)) := by
  show (blsOf (xs.map fun x => PV.bl (c x))).map (fun bs => PV.bl (bs.any _root_.id)) = _
  rw [blsOf_map]
  simp [List.any_map, Function.comp_def]
theorem atN {α : Type} (xs : List α) (k : Nat) : atI xs ((k : Nat) : Int) = xs[k]? := by
  unfold atI ixN
  rw [if_pos (by omega)]
  by_cases h : k < xs.length
  · rw [if_pos (by omega)]; rfl
  · rw [if_neg (by omega), List.getElem?_eq_none (by omega)]; rfl
theorem atI_pos {α : Type} (xs : List α) {i : Int} (h : 0 ≤ i) : atI xs i = xs[i.toNat]? := by
  obtain ⟨k, rfl⟩ := Int.eq_ofNat_of_zero_le h
  rw [atN]; rfl
@[simp] theorem atI_c0 {α : Type} (x : α) (xs : List α) : atI (x :: xs) 0 = some x := atN (x :: xs) 0
@[simp] theorem atI_c1 {α : Type} (x y : α) (xs : List α) : atI (x :: y :: xs) 1 = some y := atN (x :: y :: xs) 1
@[simp] theorem atI_c2 {α : Type} (x y z : α) (xs : List α) : atI (x :: y :: z :: xs) 2 = some z := atN (x :: y :: z :: xs) 2
@[simp] theorem atI_c3 {α : Type} (x y z w : α) (xs : List α) : atI (x :: y :: z :: w :: xs) 3 = some w := atN (x :: y :: z :: w :: xs) 3
theorem pR1_le (n : Nat) (h : n ≤ 1000000) : pR1 [.int (n : Nat)] = some ((List.range n).map fun i => .int (i : Nat)) := by
  show (if -(2 ^ 62) ≤ (n : Int) ∧ (n : Int) ≤ 1000000 then some (rngP 0 (n : Int).toNat) else none) = _
  rw [if_pos (by omega)]
  simp [rngP]
@[simp] theorem pSlA_lst (xs : List PV) (lo hi) : pSlA (.lst xs) lo hi = some (.lst (cut xs lo hi)) := (rfl)
@[simp] theorem pSlA_tup (xs : List PV) (lo hi) : pSlA (.tup xs) lo hi = some (.tup (cut xs lo hi)) := (rfl)
theorem cut_nn {α : Type} (xs : List α) {a b : Int} (ha : 0 ≤ a) (hb : 0 ≤ b) : cut xs (some a) (some b) = (xs.drop a.toNat).take (b.toNat - a.toNat) := by
  obtain ⟨a, rfl⟩ := Int.eq_ofNat_of_zero_le ha
  obtain ⟨b, rfl⟩ := Int.eq_ofNat_of_zero_le hb
  unfold cut
  rw [HT.sIx_nat, HT.sIx_nat, Int.toNat_natCast, Int.toNat_natCast]
  by_cases h : a ≤ xs.length
  · rw [Nat.min_eq_left h]
    by_cases h2 : b ≤ xs.length
    · rw [Nat.min_eq_left h2]
    · rw [Nat.min_eq_right (by omega), List.take_of_length_le (by rw [List.length_drop]; omega), List.take_of_length_le (by rw [List.length_drop]; omega)]
  · rw [Nat.min_eq_right (a := a) (by omega), List.drop_of_length_le (Nat.le_refl _), List.drop_of_length_le (i := a) (by omega)]
    simp
theorem cut_lo {α : Type} (xs : List α) {b : Int} (hb : 0 ≤ b) : cut xs none (some b) = xs.take b.toNat := by
  obtain ⟨b, rfl⟩ := Int.eq_ofNat_of_zero_le hb
  unfold cut
  rw [HT.sIx_nat, HT.sIx_none, Int.toNat_natCast, List.drop_zero, Nat.sub_zero]
  by_cases h : b ≤ xs.length
  · rw [Nat.min_eq_left h]
  · rw [Nat.min_eq_right (by omega), List.take_of_length_le (Nat.le_refl _), List.take_of_length_le (by omega)]
theorem cut_hi {α : Type} (xs : List α) {a : Int} (ha : 0 ≤ a) : cut xs (some a) none = xs.drop a.toNat := by
  obtain ⟨a, rfl⟩ := Int.eq_ofNat_of_zero_le ha
  unfold cut
  rw [HT.sIx_nat, HT.sIx_none, Int.toNat_natCast]
  by_cases h : a ≤ xs.length
  · rw [Nat.min_eq_left h, List.take_of_length_le (by rw [List.length_drop]; omega)]
  · rw [Nat.min_eq_right (by omega), List.drop_of_length_le (Nat.le_refl _), List.drop_of_length_le (i := a) (by omega)]
    simp
theorem cut_m1 {α : Type} (xs : List α) : cut xs none (some (-1)) = xs.dropLast := by
  unfold cut
  have e : HT.sIx xs.length xs.length (some (-1)) = xs.length - 1 := by
    show (if (-1 : Int) < 0 then (-1 + (xs.length : Int)).toNat else min (-1 : Int).toNat xs.length) = _
    rw [if_pos (by decide)]; omega
  rw [e, HT.sIx_none, List.drop_zero, Nat.sub_zero, List.dropLast_eq_take]
theorem cut_last {α : Type} (xs : List α) : cut xs (some (-1)) none = xs.getLast?.toList := by
  unfold cut
  have e : HT.sIx xs.length 0 (some (-1)) = xs.length - 1 := by
    show (if (-1 : Int) < 0 then (-1 + (xs.length : Int)).toNat else min (-1 : Int).toNat xs.length) = _
    rw [if_pos (by decide)]; omega
  rw [e, HT.sIx_none]
  by_cases h : xs = []
  · subst h; rfl
  · have hl : 0 < xs.length := List.length_pos_iff.mpr h
    rw [List.take_of_length_le (by rw [List.length_drop]; omega), List.getLast?_eq_getElem?, List.getElem?_eq_getElem (by omega), List.drop_eq_getElem_cons (by omega)]
    rw [List.drop_of_length_le (by omega)]
    rfl
theorem atLast {α : Type} (xs : List α) : atI xs (-1) = xs.getLast? := by
  unfold atI ixN
  rw [if_neg (by decide), List.getLast?_eq_getElem?]
  by_cases h : xs = []
  · subst h; rfl
  · have hl : 0 < xs.length := List.length_pos_iff.mpr h
    rw [if_pos (by omega)]
    show xs[(-1 + (xs.length : Int)).toNat]? = _
    congr 1
    omega
end comps
end Lp
end
section
set_option Elab.async false
set_option linter.all false
set_option maxRecDepth 100000
namespace Lp
open PySem PySem.Spec L2
def isI (lo hi : Int) (p : PV) : Prop := ∃ i, p = .int i ∧ lo ≤ i ∧ i < hi
/-- the text of some letters -/
def tx (l : List (Fin 26)) : Str := ⟨(l.map fun i => 97 + i.val).toArray⟩
def sg (i : Fin 26) : Str := ⟨#[97 + i.val]⟩
theorem sg_in : ∀ i : Fin 26, Lp.subIn (sg i) ("abcdefghijklmnopqrstuvwxyz" : Str) = true := by decide +kernel
theorem signs_tx (l : List (Fin 26)) : signsP (tx l) = l.map fun i => .str (sg i) := by
  simp [signsP, tx, sg, Function.comp_def]
theorem len_tx (l : List (Fin 26)) : (tx l).length = l.length := by simp [tx, Str.length]
theorem tx_inj {l m : List (Fin 26)} (h : tx l = tx m) : l = m := by
  unfold tx at h
  simp only [Str.mk.injEq] at h
  have h2 : l.map (fun i => 97 + i.val) = m.map (fun i => 97 + i.val) := by simpa using congrArg Array.toList h
  refine (List.map_inj_right (f := fun i : Fin 26 => 97 + i.val) fun a b e => ?_).mp h2
  exact Fin.ext (by omega)
theorem tx_app (l m : List (Fin 26)) : tx l ++ tx m = tx (l ++ m) := by
  show Str.mk _ = _
  simp [tx]
theorem bls_true {α : Type} : ∀ l : List α, blsOf (l.map fun _ => PV.bl true) = some (l.map fun _ => true)
  | [] => rfl
  | a :: l => by rw [List.map_cons, blsOf, bls_true l]; rfl
theorem all_true {α : Type} (l : List α) : pAll [.lst (l.map fun _ => PV.bl true)] = some (.bl true) := by
  show (blsOf (l.map fun _ => PV.bl true)).map (fun bs => PV.bl (bs.all _root_.id)) = _
  rw [bls_true]
  simp
def ltrs : PV := .str ("abcdefghijklmnopqrstuvwxyz" : Str)
theorem ltr_at : ∀ i : Fin 26, pIx ltrs (.int (i.val : Nat)) = some (.str (sg i)) := by
  intro i
  have hs : (("abcdefghijklmnopqrstuvwxyz" : Str)).length ≤ sizeLine := by rw [sizeLine_eq]; decide +kernel
  unfold ltrs pIx
  dsimp only
  rw [if_pos hs]
  have : ∀ i : Fin 26, (atI (("abcdefghijklmnopqrstuvwxyz" : Str)).cps.toList ((i.val : Nat) : Int)) = some (97 + i.val) := by decide +kernel
  rw [this i]
  rfl
theorem ltr_mod (x : Int) : ∃ i : Fin 26, pIx ltrs (.int (x % 26)) = some (.str (sg i)) ∧ ((i.val : Nat) : Int) = x % 26 := by
  have h0 : 0 ≤ x % 26 := Int.emod_nonneg _ (by decide)
  have h1 : x % 26 < 26 := Int.emod_lt_of_pos _ (by decide)
  refine ⟨⟨(x % 26).toNat, by omega⟩, ?_, by simp; omega⟩
  have e : x % 26 = (((x % 26).toNat : Nat) : Int) := by omega
  have := ltr_at ⟨(x % 26).toNat, by omega⟩
  rw [← e] at this
  exact this
theorem sg_tx (i : Fin 26) : sg i = tx [i] := rfl
theorem add_tx (l m : List (Fin 26)) (h : l.length + m.length ≤ 1000) : pAddA (.str (tx l)) (.str (tx m)) = some (.str (tx (l ++ m))) := by
  have : (tx l).length + (tx m).length ≤ sizeLine := by rw [len_tx, len_tx, sizeLine_eq]; omega
  simp [pAddA, orP, pAdd, this, tx_app]
theorem mark_at {xs : List PV} {b : Int} (hx : ∀ x ∈ xs, isI 0 b x) {j : Int} (h0 : 0 ≤ j) (h1 : j < xs.length) : ∃ m, pIx (.lst xs) (.int j) = some (.int m) ∧ 0 ≤ m ∧ m < b := by
  have hj : j.toNat < xs.length := by omega
  obtain ⟨m, e, h2, h3⟩ := hx _ (List.getElem_mem hj)
  refine ⟨m, ?_, h2, h3⟩
  show atI xs j = _
  unfold atI ixN
  rw [if_pos h0, if_pos h1, ← e]
  exact List.getElem?_eq_getElem hj
/-- the letter at a place, round -/
def lt (x : Int) : Fin 26 := ⟨(x % 26).toNat, by have := Int.emod_nonneg x (show (26 : Int) ≠ 0 by decide); have := Int.emod_lt_of_pos x (show (0 : Int) < 26 by decide); omega⟩
theorem lt_at (x : Int) : pIx ltrs (.int (x % 26)) = some (.str (sg (lt x))) := by
  obtain ⟨i, h, e⟩ := ltr_mod x
  have : i = lt x := Fin.ext (by show i.val = (x % 26).toNat; omega)
  rw [← this]
  exact h
abbrev Nm := List (Fin 26)
def nm (l : Nm) : PV := .str (tx l)
theorem nm_inj {a b : Nm} (h : nm a = nm b) : a = b := tx_inj (by unfold nm at h; injection h)
theorem eqP_nm (a b : Nm) : eqP (nm a) (nm b) = decide (a = b) := by
  show (tx a == tx b) = _
  by_cases h : a = b
  · subst h; simp
  · have : tx a ≠ tx b := fun e => h (tx_inj e)
    rw [decide_eq_false h]
    exact beq_eq_false_iff_ne.mpr this
def evV (e : Bool × Nm) : PV := .tup [.str (if e.1 = true then ("in" : Str) else ("out" : Str)), nm e.2]
def stepE (h : List Nm) (e : Bool × Nm) : Option (List Nm) := if e.1 = true then (if e.2 ∈ h then none else some (h ++ [e.2])) else (if e.2 ∈ h then some (h.erase e.2) else none)
def runE (h : List Nm) (es : List (Bool × Nm)) : Option (List Nm) := es.foldlM stepE h
theorem runE_snoc {h h1 h2 : List Nm} {es : List (Bool × Nm)} {e : Bool × Nm} (h0 : runE h es = some h1) (hs : stepE h1 e = some h2) : runE h (es ++ [e]) = some h2 := by
  unfold runE at *
  rw [List.foldlM_append, h0]
  simp [hs]
theorem firstP_nm (x : Nm) : ∀ l : List Nm, x ∈ l → ∃ j, firstP (nm x) (l.map nm) = some j ∧ (l.map nm).eraseIdx j = (l.erase x).map nm
  | y :: l, h => by
    unfold firstP
    rw [List.map_cons, List.findIdx?_cons, eqP_nm]
    by_cases e : y = x
    · subst e
      refine ⟨0, by simp, ?_⟩
      simp
    · have hx : x ∈ l := by
        rcases List.mem_cons.mp h with h | h
        · exact absurd h.symm e
        · exact h
      obtain ⟨j, h1, h2⟩ := firstP_nm x l hx
      unfold firstP at h1
      refine ⟨j + 1, by simp [e, h1], ?_⟩
      rw [List.eraseIdx_cons_succ, h2, List.erase_cons_tail (by simpa using e)]
      rfl
theorem gRem_nm {x : Nm} {l : List Nm} (h : x ∈ l) : gRem (l.map nm) [nm x] = some ((l.erase x).map nm, .non) := by
  obtain ⟨j, h1, h2⟩ := firstP_nm x l h
  have hf : ((nm x).flat && (l.map nm).all PV.flat) = true := by
    simp [List.all_map, nm, PV.flat, Function.comp_def]
  show (if _ then _ else _) = _
  rw [if_pos hf, h1, Option.map_some, h2]
theorem gPopAt_ok {l : List PV} {k : Nat} (h : k < l.length) (hl : l.length ≤ 1000) : gPopAt l [.int (k : Nat)] = some (l.eraseIdx k, l[k]) := by
  have : ixN l.length ((k : Nat) : Int) = some k := by
    unfold ixN
    rw [if_pos (by omega), if_pos (by omega)]
    rfl
  unfold gPopAt
  dsimp only
  rw [if_pos (by omega), this, Option.bind_some, List.getElem?_eq_getElem h]
  rfl
theorem nm_eraseIdx : ∀ (l : List Nm) (k : Nat), (l.map nm).eraseIdx k = (l.eraseIdx k).map nm
  | [], _ => rfl
  | _ :: _, 0 => rfl
  | x :: l, k + 1 => by rw [List.map_cons, List.eraseIdx_cons_succ, nm_eraseIdx l k]; rfl
theorem mod_nat {m : Int} {n : Nat} (hn : 0 < n) : ∃ k : Nat, m % (n : Int) = (k : Nat) ∧ k < n := by
  have h0 : 0 ≤ m % (n : Int) := Int.emod_nonneg _ (by omega)
  have h1 : m % (n : Int) < n := Int.emod_lt_of_pos _ (by omega)
  exact ⟨(m % (n : Int)).toNat, by omega, by omega⟩
theorem perm_eraseIdx {α : Type} : ∀ (l : List α) (k : Nat) (h : k < l.length), (l[k] :: l.eraseIdx k).Perm l
  | x :: l, 0, _ => List.Perm.refl _
  | x :: l, k + 1, h => by
    rw [List.getElem_cons_succ, List.eraseIdx_cons_succ]
    exact (List.Perm.swap x _ _).trans ((perm_eraseIdx l k (by simpa using h)).cons x)
def stk (s : List Nm) : PV := .tup (s.map nm)
def stksV (ss : List (List Nm)) : PV := .tup (ss.map stk)
theorem ints_of {lo hi : Int} : ∀ {xs : List PV}, (∀ x ∈ xs, isI lo hi x) → ∃ is : List Int, xs = is.map .int ∧ ∀ i ∈ is, lo ≤ i ∧ i < hi
  | [], _ => ⟨[], rfl, by simp⟩
  | x :: xs, h => by
    obtain ⟨i, rfl, h1, h2⟩ := h x List.mem_cons_self
    obtain ⟨is, rfl, h3⟩ := ints_of (xs := xs) fun y hy => h y (List.mem_cons_of_mem _ hy)
    exact ⟨i :: is, rfl, fun j hj => by
      rcases List.mem_cons.mp hj with rfl | hj
      · exact ⟨h1, h2⟩
      · exact h3 j hj⟩
structure DayOk (h : Nat) (ss : List (List Nm)) (es : List (Bool × Nm)) : Prop where
  h1 : 1 ≤ h
  h5 : h ≤ 5
  c1 : 1 ≤ ss.length
  c5 : ss.length ≤ 5
  row : ∀ s ∈ ss, s.length ≤ h
  nd : ss.flatten.Nodup
  nmS : ∀ x ∈ ss.flatten, 1 ≤ x.length ∧ x.length ≤ 8
  nmE : ∀ e ∈ es, 1 ≤ e.2.length ∧ e.2.length ≤ 8
  run : ∃ h', runE ss.flatten es = some h'
  len : es.length ≤ 12
  all : ss.flatten.length ≤ 22
theorem rows_nm : ∀ {rows : List (List PV)}, (∀ p ∈ rows.flatten, ∃ x, p = nm x) → ∃ ss : List (List Nm), rows = ss.map (·.map nm)
  | [], _ => ⟨[], rfl⟩
  | r :: rows, h => by
    have h1 : ∀ {r : List PV}, (∀ p ∈ r, ∃ x, p = nm x) → ∃ s : List Nm, r = s.map nm := by
      intro r
      induction r with
      | nil => exact fun _ => ⟨[], rfl⟩
      | cons p r ih =>
        intro h
        obtain ⟨x, rfl⟩ := h p List.mem_cons_self
        obtain ⟨s, rfl⟩ := ih fun q hq => h q (List.mem_cons_of_mem _ hq)
        exact ⟨x :: s, rfl⟩
    obtain ⟨s, rfl⟩ := h1 (r := r) fun p hp => h p (by simp [hp])
    obtain ⟨ss, rfl⟩ := rows_nm (rows := rows) fun p hp => h p (by
      rw [List.flatten_cons]; exact List.mem_append_right _ hp)
    exact ⟨s :: ss, rfl⟩
theorem stks_rows (ss : List (List Nm)) : PV.tup ((ss.map (·.map nm)).map .tup) = stksV ss := by
  unfold stksV stk
  rw [List.map_map]
  rfl
theorem nodup_nm {l : List Nm} : (l.map nm).Nodup ↔ l.Nodup := by
  unfold List.Nodup
  rw [List.pairwise_map]
  constructor
  · exact fun h => h.imp fun hab e => hab (congrArg nm e)
  · exact fun h => h.imp fun hab e => hab (nm_inj e)
theorem mem_nm {x : Nm} {l : List Nm} : nm x ∈ l.map nm ↔ x ∈ l := by
  constructor
  · intro h
    obtain ⟨y, hy, e⟩ := List.mem_map.mp h
    rw [← nm_inj e]; exact hy
  · exact fun h => List.mem_map.mpr ⟨x, h, rfl⟩
theorem at_row {xs : List PV} {b : Int} (hx : ∀ x ∈ xs, isI 0 b x) (j : Nat) (h : j < xs.length) : ∃ m : Int, atI xs ((j : Nat) : Int) = some (.int m) ∧ 0 ≤ m ∧ m < b := by
  obtain ⟨m, e, h1, h2⟩ := hx _ (List.getElem_mem h)
  exact ⟨m, by rw [atN, List.getElem?_eq_getElem h, e], h1, h2⟩
def evsV (es : List (Bool × Nm)) : PV := .tup (es.map evV)
theorem tup_stk (ss : List (List Nm)) : PV.tup (ss.map stk) = stksV ss := rfl
theorem tup_ev (es : List (Bool × Nm)) : PV.tup (es.map evV) = evsV es := rfl
theorem isN_stks (ss) : (stksV ss).isN = false := rfl
theorem isN_evs (ss) : (evsV ss).isN = false := rfl
/-- the boxes there, as a dict -/
def thD (l : List Nm) : PV := .dK (l.map fun x => ((Sum.inr (tx x) : Key), PV.bl true))
theorem hasP_th (l : List Nm) (x : Nm) : hasP (l.map fun x => ((Sum.inr (tx x) : Key), PV.bl true)) (.inr (tx x)) = decide (x ∈ l) := by
  unfold hasP
  rw [List.any_map]
  by_cases h : x ∈ l
  · rw [decide_eq_true h, List.any_eq_true]
    exact ⟨x, h, by simp⟩
  · rw [decide_eq_false h]
    refine List.any_eq_false.mpr fun y hy => ?_
    simp only [Function.comp_apply, decide_eq_true_eq]
    intro e
    exact h (by rw [← tx_inj (Sum.inr.inj e)]; exact hy)
theorem drop_th : ∀ (l : List Nm) (x : Nm), l.Nodup → dropP (l.map fun x => ((Sum.inr (tx x) : Key), PV.bl true)) (.inr (tx x)) = (l.erase x).map fun x => ((Sum.inr (tx x) : Key), PV.bl true)
  | [], _, _ => rfl
  | y :: l, x, hn => by
    have ih := drop_th l x (List.nodup_cons.mp hn).2
    unfold dropP at ih ⊢
    by_cases h : y = x
    · subst h
      rw [List.map_cons, List.filter_cons_of_neg (by simp), List.erase_cons_head]
      refine List.filter_eq_self.mpr fun kv hkv => ?_
      obtain ⟨z, hz, rfl⟩ := List.mem_map.mp hkv
      refine decide_eq_true fun e => ?_
      exact (List.nodup_cons.mp hn).1 (by rw [← tx_inj (Sum.inr.inj e)]; exact hz)
    · have hne : decide ((Sum.inr (tx y) : Key) ≠ Sum.inr (tx x)) = true := decide_eq_true fun e => h (tx_inj (Sum.inr.inj e))
      rw [List.map_cons, List.filter_cons, if_pos hne, ih, List.erase_cons_tail (by simpa using h)]
      rfl
theorem set_th {l : List Nm} {x : Nm} (h : x ∉ l) : setP (l.map fun x => ((Sum.inr (tx x) : Key), PV.bl true)) (.inr (tx x)) (.bl true) = (l ++ [x]).map fun x => ((Sum.inr (tx x) : Key), PV.bl true) := by
  unfold setP
  rw [hasP_th, decide_eq_false h]
  simp
theorem sok_tx (l : Nm) : sok (tx l) := sok_of fun c hc => by
  simp only [tx, List.mem_map] at hc
  obtain ⟨i, _, rfl⟩ := hc
  have := i.isLt
  omega
theorem stepE_nd {h h' : List Nm} {e : Bool × Nm} (hn : h.Nodup) (hs : stepE h e = some h') : h'.Nodup := by
  unfold stepE at hs
  split at hs
  · split at hs
    · cases hs
    · rename_i hx
      cases hs
      rw [List.nodup_append]
      exact ⟨hn, by simp, fun a ha b hb e => hx (by rw [List.mem_singleton.mp hb] at e; rw [← e]; exact ha)⟩
  · split at hs
    · cases hs
      exact hn.erase _
    · cases hs
theorem stepE_len {h h' : List Nm} {e : Bool × Nm} (hs : stepE h e = some h') : h'.length ≤ h.length + 1 := by
  unfold stepE at hs
  split at hs
  · split at hs
    · cases hs
    · cases hs; simp
  · split at hs
    · cases hs
      have := List.length_erase_le (a := e.2) (l := h)
      omega
    · cases hs
/-- the boxes there before each event -/
theorem runE_split {h h' : List Nm} {es : List (Bool × Nm)} (hr : runE h es = some h') (k : Nat) : ∃ hk, runE h (es.take k) = some hk := by
  have : runE h (es.take k ++ es.drop k) = some h' := by rw [List.take_append_drop]; exact hr
  unfold runE at this ⊢
  rw [List.foldlM_append] at this
  cases hq : List.foldlM stepE h (es.take k) with
  | none => rw [hq] at this; cases this
  | some hk => exact ⟨hk, rfl⟩
theorem runE_step {h h' hk : List Nm} {es : List (Bool × Nm)} (hr : runE h es = some h') {k : Nat} (hlt : k < es.length) (h1 : runE h (es.take k) = some hk) : ∃ h2, stepE hk es[k] = some h2 ∧ runE h (es.take (k + 1)) = some h2 := by
  obtain ⟨h2, e2⟩ := runE_split hr (k + 1)
  refine ⟨h2, ?_, e2⟩
  unfold runE at h1 e2
  rw [List.take_succ_eq_append_getElem hlt, List.foldlM_append, h1] at e2
  simpa using e2
theorem pEq_nm (a b : Nm) : pEq (nm a) (nm b) = some (.bl (decide (a = b))) := by
  have h := pEq_str (sok_tx a) (sok_tx b)
  have e : decide (tx a = tx b) = decide (a = b) := by
    by_cases h : a = b
    · subst h; simp
    · rw [decide_eq_false h, decide_eq_false fun e => h (tx_inj e)]
  rw [e] at h
  exact h
theorem pNe_nm (a b : Nm) : pNe (nm a) (nm b) = some (.bl (!decide (a = b))) := by
  have h := pNe_str (sok_tx a) (sok_tx b)
  have e : decide (tx a = tx b) = decide (a = b) := by
    by_cases h : a = b
    · subst h; simp
    · rw [decide_eq_false h, decide_eq_false fun e => h (tx_inj e)]
  rw [e] at h
  exact h
theorem inP_nm (x : Nm) (l : List Nm) : inP (nm x) (l.map nm) = decide (x ∈ l) := by
  unfold inP
  rw [List.any_map]
  by_cases h : x ∈ l
  · rw [decide_eq_true h, List.any_eq_true]
    exact ⟨x, h, by simp [eqP_nm]⟩
  · rw [decide_eq_false h]
    refine List.any_eq_false.mpr fun y hy => ?_
    simp only [Function.comp_apply, eqP_nm, decide_eq_true_eq]
    intro e; exact h (e ▸ hy)
theorem pIn_nm (n : Bool) (x : Nm) (l : List Nm) : pIn n (nm x) (.lst (l.map nm)) = some (.bl (n ^^ decide (x ∈ l))) := by
  have hf : ((nm x).flat && (l.map nm).all PV.flat) = true := by
    simp [List.all_map, nm, PV.flat, Function.comp_def]
  exact (if_pos hf).trans (by rw [← inP_nm]; rfl)
theorem pIn_nmT (n : Bool) (x : Nm) (l : List Nm) : pIn n (nm x) (.tup (l.map nm)) = some (.bl (n ^^ decide (x ∈ l))) := by
  have hf : ((nm x).flat && (l.map nm).all PV.flat) = true := by
    simp [List.all_map, nm, PV.flat, Function.comp_def]
  exact (if_pos hf).trans (by rw [← inP_nm]; rfl)
theorem pInA_nm (n : Bool) (x : Nm) (l : List Nm) : pInA n (nm x) (.lst (l.map nm)) = some (.bl (n ^^ decide (x ∈ l))) := by
  unfold pInA orP
  rw [pIn_nm]
theorem pInA_nmT (n : Bool) (x : Nm) (l : List Nm) : pInA n (nm x) (.tup (l.map nm)) = some (.bl (n ^^ decide (x ∈ l))) := by
  unfold pInA orP
  rw [pIn_nmT]
theorem pInA_stk (n : Bool) (x : Nm) (l : List Nm) : pInA n (nm x) (stk l) = some (.bl (n ^^ decide (x ∈ l))) := pInA_nmT n x l
end Lp
end
section
set_option Elab.async false
set_option linter.all false
set_option maxRecDepth 100000
namespace K10
open PySem PySem.Spec L2 Lp
theorem is_name_ok (l : List (Fin 26)) (h1 : 1 ≤ l.length) (h8 : l.length ≤ 8) : m_is_name (.str (tx l)) = .ok (.bl true) := by
  have hs : (tx l).length ≤ sizeLine := by rw [len_tx, sizeLine_eq]; omega
  have l0 : lc_is_name_0 [some (.str (tx l)), none] = .ok (.lst (l.map fun _ => .bl true)) :=
    comp_map l (fun i => .str (sg i)) _ (by simp [itemsOf, hs, signs_tx]) fun i _ => by simp [cItem, wipeL, pIn, sg_in]
  have a1 := pAll_map (fun _ : Fin 26 => true) l
  have q1 : (1 : Int) ≤ (l.length : Nat) := by omega
  have q2 : ((l.length : Nat) : Int) ≤ 8 := by omega
  simp [m_is_name, b_is_name, pLen_str hs, len_tx, q1, q2, l0, a1, -List.map_const]
theorem is_event_ok (w : Str) (hw : w = ("in" : Str) ∨ w = ("out" : Str)) (l : List (Fin 26)) (h1 : 1 ≤ l.length) (h8 : l.length ≤ 8) : m_is_event (.tup [.str w, .str (tx l)]) = .ok (.bl true) := by
  have hn : ar1 m_is_name [.str (tx l)] = .ok (.bl true) := is_name_ok l h1 h8
  have hne : pNe (.int 2) (.int 2) = some (.bl false) := by
    simp [pNe, eqB, PV.toD, SeqAt.shaped, PyData.canLay0, PyData.depth, PyData.eqv]
  have hi : PV.isa "tuple" (.tup [.str w, .str (tx l)]) = some true := rfl
  have hi2 : PV.isa "str" (.str w) = some true := rfl
  have hx0 : pIx (.tup [.str w, .str (tx l)]) (.int 0) = some (.str w) := rfl
  have hx1 : pIx (.tup [.str w, .str (tx l)]) (.int 1) = some (.str (tx l)) := rfl
  have ht : pIn false (.str w) (.tup [.str ("in" : Str), .str ("out" : Str)]) = some (.bl true) := by
    rcases hw with rfl | rfl <;> simp [pIn, itemsP, PV.flat, inP, eqP]
  have hne2 : pNe (.int ((2 : Nat) : Int)) (.int 2) = some (.bl false) := hne
  simp [m_is_event, b_is_event, sSeq, sIf, tOrM, tNotM, tst, eCall, eVar, eC, aCons, aNil, pIsi, isaKnown, hi, hi2, hx0, hx1, e2, pLen, hne, hne2, sNil, rs, sRet, eAnd, eTup, ht, eFn, hn, fin]
def yardV (h : Nat) (ss : List (List Nm)) : PV := .ins 5 [(("height" : Str), .int (h : Nat)), (("stacks" : Str), stksV ss)]
def dayV (h : Nat) (ss : List (List Nm)) (es : List (Bool × Nm)) : PV := .ins 6 [(("yard" : Str), yardV h ss), (("events" : Str), evsV es)]
theorem is_seq_tup (xs : List PV) : m_is_sequence (.tup xs) = .ok (.bl true) := by
  simp [m_is_sequence, b_is_sequence]
theorem is_seq_lst (xs : List PV) : m_is_sequence (.lst xs) = .ok (.bl true) := by
  simp [m_is_sequence, b_is_sequence]
theorem is_number_nat (n : Nat) : m_is_number (.int (n : Nat)) = .ok (.bl true) := by
  simp [m_is_number, b_is_number, m_is_integer, b_is_integer]
theorem unlike_ok (l : List Nm) (hn : l.Nodup) : m_are_unlike (.lst (l.map nm)) = .ok (.bl true) := by
  have hk : (l.map fun x => (Sum.inr (tx x) : Key)).Nodup := by
    unfold List.Nodup
    rw [List.pairwise_map]
    exact hn.imp fun h e => h (tx_inj (Sum.inr.inj e))
  have hd : lc_are_unlike_0 [some (.lst (l.map nm)), none] = .ok (.dK (l.map fun x => ((Sum.inr (tx x) : Key), PV.bl true))) := by
    have := dcomp_map (own := [1]) (it := iSeq (eVar 0)) (tgt := gNm 1) (cond := tYesM) (ek := eVar 1) (ev := eC (.bl true)) (τ := [some (.lst (l.map nm)), none]) l nm nm (fun x => Sum.inr (tx x)) (fun _ => .bl true) (fun x => rfl) (by simp) (fun x _ => by simp [dItem, wipeL])
    rw [foldl_setP _ _ _ _ hk (by simp)] at this
    exact this
  simp [m_are_unlike, b_are_unlike, hd]
theorem as_stacks_ok (h : Nat) (ss : List (List Nm)) (c1 : 1 ≤ ss.length) (row : ∀ s ∈ ss, s.length ≤ h) (nd : ss.flatten.Nodup) (hn : ∀ x ∈ ss.flatten, 1 ≤ x.length ∧ x.length ≤ 8) (hl : ss.flatten.length ≤ 1000) :
    m_as_stacks (.int (h : Nat)) (stksV ss) = .ok (stksV ss) := by
  have l0 : lc_as_stacks_0 [some (.int (h : Nat)), some (stksV ss), none, none, none, none] = .ok (.lst (ss.map fun _ => .bl true)) :=
    comp_map ss stk _ (by simp [stksV]) fun s _ => by simp [cItem, wipeL, stk, is_seq_tup]
  have l1 : lc_as_stacks_1 [some (.int (h : Nat)), some (stksV ss), none, none, none, none] = .ok (.lst (ss.map stk)) :=
    comp_map ss stk _ (by simp [stksV]) fun s _ => by simp [cItem, wipeL, stk]
  have l2 : lc_as_stacks_2 [some (.int (h : Nat)), some (stksV ss), some (stksV ss), none, none, none] = .ok (.lst (ss.flatten.map nm)) := by
    have e : ss.flatMap (fun s => s.map nm) = ss.flatten.map nm := by rw [List.map_flatten, List.flatMap_def]
    rw [← e]
    refine comp2_map ss stk (fun s => s.map nm) (by simp [stksV]) (fun s _ => ?_) (by rw [e, List.length_map]; omega)
    simp [kC2, wipeL, stk]
    exact (compL_map nm (fun x => some (nm x)) s fun x _ => by simp [cItem]).trans (by rw [List.filterMap_eq_map'])
  have l3 : lc_as_stacks_3 [some (.int (h : Nat)), some (stksV ss), some (stksV ss), some (.lst (ss.flatten.map nm)), none, none] = .ok (.lst (ss.flatten.map fun _ => .bl true)) :=
    comp_map ss.flatten nm _ (by simp [-List.map_flatten]) fun x hx => by simp [cItem, wipeL, nm, is_name_ok x (hn x hx).1 (hn x hx).2]
  have l4 : lc_as_stacks_4 [some (.int (h : Nat)), some (stksV ss), some (stksV ss), some (.lst (ss.flatten.map nm)), none, none] = .ok (.lst (ss.map fun _ => .bl true)) :=
    comp_map ss stk _ (by simp [stksV]) fun s hs => by
      have := row s hs
      simp [cItem, wipeL, stk, this]
  have hu := unlike_ok ss.flatten nd
  have hs : m_is_sequence (stksV ss) = .ok (.bl true) := is_seq_tup _
  have hlen : pLen [stksV ss] = some (.int (ss.length : Nat)) := by simp [stksV]
  have h0 : ¬ ss = [] := by intro e; rw [e] at c1; simp at c1
  have a1 := pAll_map (fun _ : List Nm => true) ss
  have a2 := pAll_map (fun _ : Nm => true) ss.flatten
  simp [m_as_stacks, b_as_stacks, l0, l1, l2, l3, l4, hu, hs, hlen, h0, a1, a2, tup_stk, -List.map_flatten, -List.map_const]
theorem yard_ok {h : Nat} {ss : List (List Nm)} {es} (D : DayOk h ss es) : m_Yard (.int (h : Nat)) (stksV ss) = .ok (yardV h ss) := by
  have e1 := as_stacks_ok h ss D.c1 D.row D.nd D.nmS (by have := D.all; omega)
  have e2 := is_number_nat h
  have h0 : ¬ h = 0 := by have := D.h1; omega
  refine finI_eq ?_
  simp [b_Yard, e1, e2, h0, isN_stks, putP, yardV]
theorem boxes_of_ok (h : Nat) (ss : List (List Nm)) (hl : ss.flatten.length ≤ 1000) : m_boxes_of (yardV h ss) = .ok (.tup (ss.flatten.map nm)) := by
  have l0 : lc_boxes_of_0 [some (yardV h ss), none, none] = .ok (.lst (ss.flatten.map nm)) := by
    have e : ss.flatMap (fun s => s.map nm) = ss.flatten.map nm := by rw [List.map_flatten, List.flatMap_def]
    rw [← e]
    refine comp2_map ss stk (fun s => s.map nm) (by simp [yardV, stksV, List.lookup]) (fun s _ => ?_) (by rw [e, List.length_map]; omega)
    simp [kC2, wipeL, stk]
    exact (compL_map nm (fun x => some (nm x)) s fun x _ => by simp [cItem]).trans (by rw [List.filterMap_eq_map'])
  simp [m_boxes_of, b_boxes_of, l0, -List.map_flatten]
theorem as_events_ok (h : Nat) (ss : List (List Nm)) (es : List (Bool × Nm)) {h' : List Nm} (hl : ss.flatten.length ≤ 1000) (nd : ss.flatten.Nodup) (hrun : runE ss.flatten es = some h') (hne : ∀ e ∈ es, 1 ≤ e.2.length ∧ e.2.length ≤ 8) (hle : es.length ≤ 1000) :
    m_as_events (yardV h ss) (evsV es) = .ok (evsV es) := by
  have l0 : lc_as_events_0 [some (yardV h ss), some (evsV es), none, none, none, none] = .ok (.lst (es.map fun _ => .bl true)) :=
    comp_map es evV _ (by simp [evsV]) fun e he => by
      have hn := hne e he
      have := is_event_ok (if e.1 = true then ("in" : Str) else ("out" : Str)) (by split <;> simp) e.2 hn.1 hn.2
      simp [cItem, wipeL, evV, nm, this]
  have hb := boxes_of_ok h ss hl
  have l1 : lc_as_events_1 [some (yardV h ss), some (evsV es), none, none, none, none] = .ok (thD ss.flatten) := by
    have := dcomp_map (own := [4]) (it := iSeq (eFn (ar1 m_boxes_of) (aCons (eVar 0) aNil))) (tgt := gNm 4) (cond := tYesM) (ek := eVar 4) (ev := eC (.bl true)) (τ := [some (yardV h ss), some (evsV es), none, none, none, none]) ss.flatten nm nm (fun x => Sum.inr (tx x)) (fun _ => .bl true) (fun x => rfl) (by simp [hb, -List.map_flatten]) (fun x _ => by simp [dItem, wipeL])
    rw [foldl_setP _ _ _ _ (by
      unfold List.Nodup
      rw [List.pairwise_map]
      exact nd.imp fun h e => h (tx_inj (Sum.inr.inj e))) (by simp)] at this
    exact this
  have a1 := pAll_map (fun _ : Bool × Nm => true) es
  have hs : m_is_sequence (evsV es) = .ok (.bl true) := is_seq_tup _
  refine fin_eq ?_
  simp [b_as_events, l0, l1, hs, a1, -List.map_const]
  refine sat_next (for_sat es evV (fun k τ => ∃ hk x3 x4 x5, τ = [some (yardV h ss), some (evsV es), some (thD hk), x3, x4, x5] ∧ runE ss.flatten (es.take k) = some hk ∧ hk.Nodup ∧ hk.length ≤ 1000 + k) (by simp [evsV]) ?_ ?_ ?_)
  · exact ⟨_, _, _, _, rfl, rfl, nd, by omega⟩
  · rintro k hk τ ⟨hh, x3, x4, x5, rfl, hr, hn, hhl⟩
    obtain ⟨h2, e2, r2⟩ := runE_step hrun hk hr
    have n2 := stepE_nd hn e2
    have l2 := stepE_len e2
    obtain ⟨⟨b, x⟩, hbx⟩ : ∃ e, es[k] = e := ⟨_, rfl⟩
    rw [hbx] at e2 ⊢
    have hlx : (hh.map fun x => ((Sum.inr (tx x) : Key), PV.bl true)).length < 1000000 := by rw [List.length_map]; omega
    have hp := hasP_th hh x
    have q1 := pEq_str (sok_ofS "in") (sok_ofS "in")
    have q2 := pEq_str (sok_ofS "out") (sok_ofS "in")
    cases b
    · have hx : x ∈ hh := by
        by_cases h : x ∈ hh
        · exact h
        · simp [stepE, h] at e2
      simp [stepE, hx] at e2
      refine ⟨_, by simp [evV]; rfl, ?_⟩
      have hd := drop_th hh x hn
      simp [lb_as_events_2, thD, nm, hp, hx, q2, hd]
      exact ⟨h2, by rw [e2], r2, n2, by omega⟩
    · have hx : x ∉ hh := by
        intro h
        simp [stepE, h] at e2
      simp [stepE, hx] at e2
      refine ⟨_, by simp [evV]; rfl, ?_⟩
      have hd := set_th hx
      simp at hlx
      simp [lb_as_events_2, thD, nm, hp, hx, q1, hd, hlx]
      exact ⟨h2, by rw [← e2]; simp, r2, n2, by omega⟩
  · rintro τ ⟨hh, x3, x4, x5, rfl, hr, hn, hhl⟩
    simp [evsV]
theorem day_made {h : Nat} {ss : List (List Nm)} {es} (D : DayOk h ss es) : m_Day (yardV h ss) (evsV es) = .ok (dayV h ss es) := by
  obtain ⟨h', hr⟩ := D.run
  have e1 := as_events_ok h ss es (by have := D.all; omega) D.nd hr D.nmE (by have := D.len; omega)
  refine finI_eq ?_
  simp [b_Day, e1, isN_evs, putP, dayV]

end K10
end
section
set_option Elab.async false
set_option linter.all false
set_option maxRecDepth 100000
namespace K10
open PySem PySem.Spec L2 Lp
/-! draws -/
abbrev τd (ns : List Int) (k : Int) (bs : List Int) (cell rest : Int) (ds : List Int) (x6 x7 : Option PV) : LE := [some (.scr ns), some (.int k), some (.lst (bs.map .int)), some (.int cell), some (.int rest), some (.lst (ds.map .int)), x6, x7]
theorem draws_step (ns : List Int) (k : Int) (bs : List Int) (cell rest : Int) (ds : List Int) (j : Nat) (x7 : Option PV) (hj : j < bs.length) (hb : 0 < bs[j] ∧ bs[j] < 2 ^ 64) (hd : ds.length < 1000) :
    ∃ rest' d y7, lb__law_draws_0 (τd ns k bs cell rest ds (some (.int (j : Nat))) x7) = .nx (τd ns k bs cell rest' (ds ++ [d]) (some (.int (j : Nat))) y7) ∧ 0 ≤ d ∧ d < bs[j] := by
  have hat : atI (bs.map PV.int) ((j : Nat) : Int) = some (.int bs[j]) := by rw [atN]; simp [hj]
  generalize bs[j] = b at hat hb
  by_cases h : 0 < rest
  · refine ⟨rest / b, rest % b, x7, ?_, Int.emod_nonneg _ (by omega), Int.emod_lt_of_pos _ (by omega)⟩
    have e1 := pMod_int (i := rest) hb.1
    have e2 := pDivW_int (i := rest) hb.1 hb.2
    have g := gApp_s (ps := ds.map PV.int) (q := .int (rest % b)) (by simp; omega)
    simp [lb__law_draws_0, h, hat, e1, e2, g]
  · let f1 := (cell * 48271 + k * 69621 + (j : Nat) * 40692 + 12345) % 2147483647
    let f2 := (f1 * f1 + (j : Nat) * 16807 + 271) % 2147483563
    let f3 := (f2 * f2 + f2 * 39373 + 7) % 2147483399
    have b1 : 0 ≤ f1 ∧ f1 < 2147483647 := ⟨Int.emod_nonneg _ (by decide), Int.emod_lt_of_pos _ (by decide)⟩
    have b2 : 0 ≤ f2 ∧ f2 < 2147483563 := ⟨Int.emod_nonneg _ (by decide), Int.emod_lt_of_pos _ (by decide)⟩
    have m1 := pMul_int (i := cell) (j := 48271) (.inr ⟨by decide, by decide⟩)
    have m2 := pMul_int (i := k) (j := 69621) (.inr ⟨by decide, by decide⟩)
    have m3 := pMul_int (i := (j : Nat)) (j := 40692) (.inr ⟨by decide, by decide⟩)
    have m4 := pMul_int (i := f1) (j := f1) (.inl ⟨by omega, by omega⟩)
    have m5 := pMul_int (i := (j : Nat)) (j := 16807) (.inr ⟨by decide, by decide⟩)
    have m6 := pMul_int (i := f2) (j := f2) (.inl ⟨by omega, by omega⟩)
    have m7 := pMul_int (i := f2) (j := 39373) (.inr ⟨by decide, by decide⟩)
    have o1 : pMod (.int (cell * 48271 + k * 69621 + (j : Nat) * 40692 + 12345)) (.int 2147483647) = some (.int f1) := pMod_int (by decide)
    have o2 : pMod (.int (f1 * f1 + (j : Nat) * 16807 + 271)) (.int 2147483563) = some (.int f2) := pMod_int (by decide)
    have o3 : pMod (.int (f2 * f2 + f2 * 39373 + 7)) (.int 2147483399) = some (.int f3) := pMod_int (by decide)
    have o4 := pDiv_int (i := f3) (j := 16) ⟨by decide, by decide⟩
    have o5 := pMod_int (i := f3 / 16) hb.1
    clear_value f1 f2 f3
    have g := gApp_s (ps := ds.map PV.int) (q := .int (f3 / 16 % b)) (by simp; omega)
    refine ⟨rest, f3 / 16 % b, some (.int f3), ?_, Int.emod_nonneg _ (by omega), Int.emod_lt_of_pos _ (by omega)⟩
    simp [lb__law_draws_0, h, hat, m1, m2, m3, m4, m5, m6, m7, o1, o2, o3, o4, o5, g]
theorem draws_ok (ns : List Int) (k : Nat) (bs : List Int) (hb : ∀ b ∈ bs, 0 < b ∧ b < 2 ^ 64) (hl : bs.length ≤ 900) :
    ∃ ds : List Int, m__law_draws (.scr ns) (.int (k : Nat)) (.lst (bs.map .int)) = .ok (.lst (ds.map .int)) ∧ ds.length = bs.length ∧ ∀ (i : Nat) (h1 : i < ds.length) (h2 : i < bs.length), 0 ≤ ds[i] ∧ ds[i] < bs[i] := by
  have hpow := pPow_int (i := 10) (j := 18) ⟨by decide, by decide, by decide⟩
  have hr := pR1_le bs.length (by omega)
  have main : ∀ P : PV → Prop, (∀ ds : List Int, ds.length = bs.length → (∀ (i : Nat) (h1 : i < ds.length) (h2 : i < bs.length), 0 ≤ ds[i] ∧ ds[i] < bs[i]) → P (.lst (ds.map .int))) →
      (b__law_draws [some (.scr ns), some (.int (k : Nat)), some (.lst (bs.map .int)), none, none, none, none, none]).sat { rt := P } := by
    intro P hP
    have loop : ∀ cell rest : Int, ((sFor (iFn pR1 (aCons (eCall pLen (aCons (eVar 2) aNil)) aNil)) (gNm 6) lb__law_draws_0 (τd ns (k : Nat) bs cell rest [] none none)).next (sRet (eVar 5))).sat { rt := P } := by
      intro cell rest
      refine sat_next (for_sat (List.range bs.length) (fun i => .int (i : Nat)) (fun j τ => ∃ rest ds x6 x7, τ = τd ns (k : Nat) bs cell rest ds x6 x7 ∧ ds.length = j ∧ ∀ (i : Nat) (h1 : i < ds.length) (h2 : i < bs.length), 0 ≤ ds[i] ∧ ds[i] < bs[i]) (by simp [hr]) ?_ ?_ ?_)
      · exact ⟨rest, [], none, none, rfl, rfl, fun i h1 => by simp at h1⟩
      · rintro j hj τ ⟨rest, ds, x6, x7, rfl, hd, hds⟩
        simp at hj
        refine ⟨_, rfl, ?_⟩
        obtain ⟨rest', d, y7, e, d0, d1⟩ := draws_step ns (k : Nat) bs cell rest ds j x7 hj (hb _ (List.getElem_mem hj)) (by omega)
        simp only [List.getElem_range]
        show (lb__law_draws_0 (τd ns (k : Nat) bs cell rest ds (some (.int (j : Nat))) x7)).sat _
        rw [e]
        refine ⟨rest', ds ++ [d], _, y7, rfl, by simp [hd], fun i h1 h2 => ?_⟩
        by_cases hi : i < ds.length
        · rw [List.getElem_append_left hi]; exact hds i hi h2
        · have : i = j := by simp at h1; omega
          subst this
          rw [List.getElem_append_right (by omega)]
          simpa [hd] using ⟨d0, d1⟩
      · rintro τ ⟨rest, ds, x6, x7, rfl, hd, hds⟩
        simp
        exact hP ds (by simpa using hd) hds
    by_cases h1 : k < ns.length
    · have hx : pIx (.scr ns) (.int (k : Nat)) = some (.int ns[k]) := by
        show (atI ns _).map _ = _
        rw [atN, List.getElem?_eq_getElem h1]; rfl
      have hm := pMax_int 0 (ns[k] - 10 ^ 18)
      simp [b__law_draws, h1, hx, hpow]
      simp at hm
      rw [hm]
      exact loop _ _
    · by_cases h0 : 0 < ns.length
      · obtain ⟨q, hq, hq2⟩ := mod_nat (m := (k : Nat)) h0
        have hx : pIx (.scr ns) (.int (q : Nat)) = some (.int ns[q]) := by
          show (atI ns _).map _ = _
          rw [atN, List.getElem?_eq_getElem hq2]; rfl
        have o := pMod_int (i := (k : Nat)) (j := (ns.length : Nat)) (by omega)
        rw [hq] at o
        simp [b__law_draws, h1, h0, o, hx]
        exact loop _ _
      · simp [b__law_draws, h1, h0]
        exact loop _ _
  obtain ⟨v, hv, ds, rfl, h1, h2⟩ := fin_sat (rm := .sh) (main (fun v => ∃ ds : List Int, v = .lst (ds.map .int) ∧ ds.length = bs.length ∧ ∀ (i : Nat) (h1 : i < ds.length) (h2 : i < bs.length), 0 ≤ ds[i] ∧ ds[i] < bs[i]) fun ds a b => ⟨ds, rfl, a, b⟩)
  exact ⟨ds, hv, h1, h2⟩
end K10
end
section
set_option Elab.async false
set_option linter.all false
set_option maxRecDepth 100000
namespace K10
open PySem PySem.Spec L2 Lp
/-! the pool of names -/
def wd (n L : Nat) : Nm := (List.range L).map fun i => lt ((n / 26 ^ i : Nat) : Int)
theorem wd_succ (n i : Nat) : wd n (i + 1) = wd n i ++ [lt ((n / 26 ^ i : Nat) : Int)] := by simp [wd, List.range_succ]
theorem wd_len (n L : Nat) : (wd n L).length = L := by simp [wd]
theorem lt_nat (n : Nat) : (lt (n : Int)).val = n % 26 := by
  show ((n : Int) % 26).toNat = _
  omega
theorem wd_mod : ∀ (L n m : Nat), wd n L = wd m L → n % 26 ^ L = m % 26 ^ L
  | 0, _, _, _ => by simp [Nat.mod_one]
  | L + 1, n, m, h => by
    rw [wd_succ, wd_succ] at h
    obtain ⟨h1, h2⟩ := List.append_inj' h rfl
    have ih := wd_mod L n m h1
    have h3 : (lt ((n / 26 ^ L : Nat) : Int)) = lt ((m / 26 ^ L : Nat) : Int) := by simpa using h2
    have h4 := congrArg Fin.val h3
    rw [lt_nat, lt_nat] at h4
    rw [Nat.pow_succ, Nat.mod_mul, Nat.mod_mul, ih, h4]
theorem dvd26 : ∀ a < 6, ∀ t < 10, 0 < a → 0 < t → ¬ 26 ∣ a * t := by decide
theorem wd_apart {n t p L a b : Nat} (hp : p < L) (ht : 0 < t) (ht9 : t < 10) (ha : a < 6) (hb : b < 6) (h : wd (n + a * (t * 26 ^ p)) L = wd (n + b * (t * 26 ^ p)) L) : a = b := by
  have gen : ∀ a b : Nat, a < b → b < 6 → wd (n + a * (t * 26 ^ p)) L = wd (n + b * (t * 26 ^ p)) L → False := by
    intro a b hab hb h
    have hm := wd_mod L _ _ h
    have hd : 26 ^ L ∣ (n + b * (t * 26 ^ p)) - (n + a * (t * 26 ^ p)) := Nat.dvd_of_mod_eq_zero (Nat.sub_mod_eq_zero_of_mod_eq hm.symm)
    have e : (n + b * (t * 26 ^ p)) - (n + a * (t * 26 ^ p)) = ((b - a) * t) * 26 ^ p := by
      rw [Nat.add_sub_add_left, ← Nat.sub_mul, Nat.mul_assoc]
    have e2 : 26 ^ L = 26 ^ (L - p) * 26 ^ p := by rw [← Nat.pow_add]; congr 1; omega
    rw [e, e2] at hd
    have h3 : 26 ^ (L - p) ∣ (b - a) * t := Nat.dvd_of_mul_dvd_mul_right (Nat.pow_pos (by decide)) hd
    have h4 : 26 ∣ 26 ^ (L - p) := by
      obtain ⟨k, hk⟩ : ∃ k, L - p = k + 1 := ⟨L - p - 1, by omega⟩
      rw [hk, Nat.pow_succ]
      exact Nat.dvd_mul_left _ _
    exact dvd26 (b - a) (by omega) t ht9 (by omega) ht (Nat.dvd_trans h4 h3)
  rcases Nat.lt_trichotomy a b with h1 | h1 | h1
  · exact (gen a b h1 hb h).elim
  · exact h1
  · exact (gen b a h1 ha h.symm).elim
def stp (t k : Nat) : Nat := t * 26 ^ k
theorem stp_zero (t : Nat) : stp t 0 = t := by simp [stp]
theorem stp_succ (t k : Nat) : (26 : Int) * (stp t k : Int) = (stp t (k + 1) : Int) := by
  have : stp t (k + 1) = 26 * stp t k := by
    unfold stp
    rw [Nat.pow_succ, ← Nat.mul_assoc, Nat.mul_comm]
  rw [this]; norm_cast
theorem loopP0 (a0 a1 a2 a3 a4 : PV) (x7 x8 x9 x10 : Option PV) (t : Nat) {D : Pst} (p : Nat) (hD : ∀ y6, D.nx [some a0, some a1, some a2, some a3, some a4, some (.int (stp t p : Nat)), y6, x7, x8, x9, x10]) :
    (forL (gNm 6) lb__law_pool_0 ((List.range p).map fun i => .int (i : Nat)) [some a0, some a1, some a2, some a3, some a4, some (.int (t : Nat)), none, x7, x8, x9, x10]).sat D := by
  refine forL_sat (fun i => .int (i : Nat)) (fun k τ => ∃ y6, τ = [some a0, some a1, some a2, some a3, some a4, some (.int (stp t k : Nat)), y6, x7, x8, x9, x10]) (List.range p) 0 _ ⟨none, by rw [stp_zero]⟩ ?_ ?_
  · rintro k hk τ ⟨y6, rfl⟩
    refine ⟨_, rfl, ?_⟩
    rw [Nat.zero_add]
    have m := pMul_int (i := 26) (j := (stp t k : Nat)) (.inl ⟨by decide, by decide⟩)
    rw [stp_succ] at m
    simp [lb__law_pool_0, m]
  · rintro τ ⟨y6, rfl⟩
    have := hD y6
    simpa using this
/-- the word of a number -/
theorem loopP1 (a0 a1 a2 a3 a4 a5 a7 : PV) (x8 : Option PV) (n : Nat) {D : Pst} (L : Nat) (hL : L ≤ 8) (y6 : Option PV) (hD : ∀ y6 y9, D.nx [some a0, some a1, some a2, some a3, some a4, some a5, y6, some a7, x8, y9, some (nm (wd n L))]) :
    (forL (gNm 6) lb__law_pool_1 ((List.range L).map fun i => .int (i : Nat)) [some a0, some a1, some a2, some a3, some a4, some a5, y6, some a7, x8, some (.int (n : Nat)), some (.str ("" : Str))]).sat D := by
  refine forL_sat (fun i => .int (i : Nat)) (fun k τ => ∃ y6 q : _, τ = [some a0, some a1, some a2, some a3, some a4, some a5, y6, some a7, x8, some (.int (q : Nat)), some (nm (wd n k))] ∧ q = n / 26 ^ k) (List.range L) 0 _ ⟨y6, n, rfl, by simp⟩ ?_ ?_
  · rintro k hk τ ⟨y6, q, rfl, hq⟩
    simp at hk
    refine ⟨_, rfl, ?_⟩
    rw [Nat.zero_add] at *
    have o := pMod_int (i := (q : Nat)) (j := 26) (by decide)
    have l := lt_at (q : Nat)
    have d := pDiv_int (i := (q : Nat)) (j := 26) ⟨by decide, by decide⟩
    have ha := add_tx (wd n k) [lt (q : Nat)] (by rw [wd_len]; simp; omega)
    rw [← sg_tx] at ha
    unfold ltrs at l
    have hd : ((q : Int) / 26) = ((q / 26 : Nat) : Int) := rfl
    rw [hd] at d
    simp [lb__law_pool_1, nm, o, l, ha, d, -Int.natCast_ediv]
    refine ⟨?_, ?_⟩
    · rw [hq, Nat.div_div_eq_div_mul, Nat.pow_succ]
    · rw [wd_succ, hq]
  · rintro τ ⟨y6, q, rfl, hq⟩
    have := hD y6 (some (.int (q : Nat)))
    simpa using this
def pw (n s L j : Nat) : Nm := wd (n + j / 2 * s) L ++ (if j % 2 = 1 then [25] else [])
theorem pool_ok (ns : List Int) (k : Nat) : ∃ ls : List Nm, m__law_pool (.scr ns) (.int (k : Nat)) (.int 12) = .ok (.lst (ls.map nm)) ∧ ls.length = 12 ∧ ls.Nodup ∧ ∀ l ∈ ls, 1 ≤ l.length ∧ l.length ≤ 8 := by
  obtain ⟨ds, ed, dl, db⟩ := draws_ok ns k [7, 26 ^ 8, 9, 7] (by decide) (by decide)
  obtain ⟨d0, d1, d2, d3, rfl⟩ : ∃ a b c d, ds = [a, b, c, d] := by
    match ds, dl with
    | [a, b, c, d], _ => exact ⟨a, b, c, d, rfl⟩
  have b0 := db 0 (by simp) (by simp)
  have b1 := db 1 (by simp) (by simp)
  have b2 := db 2 (by simp) (by simp)
  have b3 := db 3 (by simp) (by simp)
  simp only [List.getElem_cons_zero, List.getElem_cons_succ] at b0 b1 b2 b3
  obtain ⟨L, hL, L1, L7⟩ : ∃ L : Nat, 1 + d0 = (L : Nat) ∧ 1 ≤ L ∧ L ≤ 7 := ⟨(1 + d0).toNat, by omega, by omega, by omega⟩
  obtain ⟨t, htt, t1, t9⟩ : ∃ L : Nat, 1 + d2 = (L : Nat) ∧ 1 ≤ L ∧ L ≤ 9 := ⟨(1 + d2).toNat, by omega, by omega, by omega⟩
  obtain ⟨p, hp, pL⟩ := mod_nat (m := d3) (n := L) (by omega)
  obtain ⟨n, hn⟩ := Int.eq_ofNat_of_zero_le b1.1
  have hpow := pPow_int (i := 26) (j := 8) ⟨by decide, by decide, by decide⟩
  have om := pMod_int (i := d3) (j := (L : Nat)) (by omega)
  rw [hp] at om
  have hr := pR1_le p (by omega)
  have ed : m__law_draws (.scr ns) (.int (k : Nat)) (.lst [.int 7, .int (26 ^ 8), .int 9, .int 7]) = .ok (.lst [.int d0, .int d1, .int d2, .int d3]) := ed
  have i0 : atI [PV.int d0, .int d1, .int d2, .int d3] 0 = some (.int d0) := rfl
  have i1 : atI [PV.int d0, .int d1, .int d2, .int d3] 1 = some (.int d1) := rfl
  have i2 : atI [PV.int d0, .int d1, .int d2, .int d3] 2 = some (.int d2) := rfl
  have i3 : atI [PV.int d0, .int d1, .int d2, .int d3] 3 = some (.int d3) := rfl
  have hpow' : pPow (.int 26) (.int 8) = some (.int (26 ^ 8)) := hpow
  generalize ((26 : Int) ^ 8) = b8 at ed hpow' b1
  refine ⟨(List.range 12).map fun j => pw n (stp t p) L j, ?_, by simp, ?_, ?_⟩
  · refine fin_eq ?_
    generalize hP : (fun q : PV => q = .lst (((List.range 12).map fun j => pw n (stp t p) L j).map nm)) = P
    have hP2 : P (.lst (((List.range 12).map fun j => pw n (stp t p) L j).map nm)) := by rw [← hP]
    clear hP
    simp only [b__law_pool]
    simp [hpow', ed, i0, i1, i2, i3, hL, htt]
    rw [sFor_of (ps := (List.range p).map fun i => .int (i : Nat)) (by simp [i3, om, hr])]
    refine sat_next (loopP0 _ _ _ _ _ _ _ _ _ t p fun y6 => ?_)
    simp
    have hr2 := pR1_le 12 (by omega)
    refine sat_next (for_sat (List.range 12) (fun i => .int (i : Nat)) (fun j τ => ∃ y6 y8 y9 y10, τ = [some (.scr ns), some (.int (k : Nat)), some (.int 12), some (.lst [.int d0, .int d1, .int d2, .int d3]), some (.int (L : Nat)), some (.int (stp t p : Nat)), y6, some (.lst (((List.range j).map fun j => pw n (stp t p) L j).map nm)), y8, y9, y10]) (by
      have : pR1 [.int 12] = some ((List.range 12).map fun i => .int (i : Nat)) := hr2
      simp [this]) ⟨y6, none, none, none, rfl⟩ ?_ ?_)
    · rintro j hj τ ⟨y6, y8, y9, y10, rfl⟩
      simp only [List.length_range] at hj
      refine ⟨_, rfl, ?_⟩
      simp only [List.getElem_range]
      have dv := pDiv_int (i := (j : Nat)) (j := 2) ⟨by decide, by decide⟩
      have hd : ((j : Nat) : Int) / 2 = ((j / 2 : Nat) : Int) := rfl
      rw [hd] at dv
      have ml := pMul_int (i := ((j / 2 : Nat) : Int)) (j := (stp t p : Nat)) (.inl ⟨by omega, by omega⟩)
      have hm : ((j / 2 : Nat) : Int) * (stp t p : Nat) = ((j / 2 * stp t p : Nat) : Int) := by norm_cast
      rw [hm] at ml
      have hrL := pR1_le L (by omega)
      have ad : pAddA (.int d1) (.int ((j / 2 * stp t p : Nat) : Int)) = some (.int ((n + j / 2 * stp t p : Nat) : Int)) := by
        rw [pAddA_int, hn]; norm_cast
      generalize hN : n + j / 2 * stp t p = N at ad
      generalize j / 2 * stp t p = q at ml ad
      generalize j / 2 = q2 at dv ml
      generalize hY : ((List.range j).map fun j => pw n (stp t p) L j) = Y
      have hYl : Y.length = j := by rw [← hY]; simp
      have md := pMod_int (i := (j : Nat)) (j := 2) (by decide)
      have hd2 : ((j : Nat) : Int) % 2 = ((j % 2 : Nat) : Int) := rfl
      rw [hd2] at md
      have j2 : j % 2 < 2 := Nat.mod_lt _ (by decide)
      have mz := pMulA_str (z := ("z" : Str)) (k := ((j % 2 : Nat) : Int)) ⟨by omega, by omega, by decide +kernel⟩
      have tz : timesS ("z" : Str) ((j % 2 : Nat) : Int) = tx (if j % 2 = 1 then [25] else []) := by
        rcases Nat.lt_or_ge (j % 2) 1 with h | h
        · have : j % 2 = 0 := by omega
          rw [this]; decide +kernel
        · have : j % 2 = 1 := by omega
          rw [this]; decide +kernel
      rw [tz] at mz
      have az := add_tx (wd N L) (if j % 2 = 1 then [25] else []) (by rw [wd_len]; split <;> simp <;> omega)
      have hw : wd N L ++ (if j % 2 = 1 then [25] else []) = pw n (stp t p) L j := by unfold pw; rw [hN]
      rw [hw] at az
      generalize (tx (if j % 2 = 1 then [25] else [])) = tzz at mz az
      generalize ((j % 2 : Nat) : Int) = jm at md mz
      have ga := gApp_s (ps := Y.map nm) (q := nm (pw n (stp t p) L j)) (by simp [hYl]; omega)
      have hsucc : ((List.range (j + 1)).map fun j => pw n (stp t p) L j) = Y ++ [pw n (stp t p) L j] := by
        rw [List.range_succ, List.map_append, hY]; rfl
      rw [hsucc]
      generalize pw n (stp t p) L j = w at *
      generalize stp t p = stpt at *
      have i1 : atI [PV.int d0, .int d1, .int d2, .int d3] 1 = some (.int d1) := rfl
      simp [lb__law_pool_2, dv, ml, i1, ad]
      rw [sFor_of (ps := (List.range L).map fun i => .int (i : Nat)) (by simp [hrL])]
      refine sat_next (loopP1 _ _ _ _ _ _ _ _ N L (by omega) _ fun z6 z9 => ?_)
      unfold nm at ga ⊢
      simp [md, mz, az, ga]
    · rintro τ ⟨y6, y8, y9, y10, rfl⟩
      simp at hP2 ⊢
      exact hP2
  · have wdp : ∀ a b, a < 12 → b < 12 → pw n (stp t p) L a = pw n (stp t p) L b → a = b := by
      intro a b ha hb h
      have hl := congrArg List.length h
      unfold pw at h hl
      simp only [List.length_append, wd_len] at hl
      have hpar : a % 2 = b % 2 := by
        have ha2 : a % 2 = 0 ∨ a % 2 = 1 := by omega
        have hb2 : b % 2 = 0 ∨ b % 2 = 1 := by omega
        rcases ha2 with h1 | h1 <;> rcases hb2 with h2 | h2 <;> simp [h1, h2] at hl ⊢
      rw [hpar] at h
      have h1 := List.append_cancel_right h
      have := wd_apart (n := n) (t := t) (p := p) (L := L) pL (by omega) (by omega) (a := a / 2) (b := b / 2) (by omega) (by omega) h1
      omega
    unfold List.Nodup
    rw [List.pairwise_map]
    refine List.Pairwise.imp_of_mem ?_ (List.nodup_range (n := 12))
    intro a b ha hb hab e
    exact hab (wdp a b (List.mem_range.mp ha) (List.mem_range.mp hb) e)
  · intro l hl
    obtain ⟨j, hj, rfl⟩ := List.mem_map.mp hl
    unfold pw
    rw [List.length_append, wd_len]
    split <;> simp <;> omega
end K10
end
section
set_option Elab.async false
set_option linter.all false
set_option maxRecDepth 100000
namespace K10
open PySem PySem.Spec L2 Lp
/-! stacks drawn -/
theorem lt_flat {h : Nat} : ∀ ss : List (List Nm), (∀ s ∈ ss, s.length ≤ h) → ss.flatten.length < ss.length * h → ∃ i, ∃ hi : i < ss.length, ss[i].length < h
  | [], _, hl => by simp at hl
  | r :: rows, hr, hl => by
    by_cases hb : r.length < h
    · exact ⟨0, by simp, hb⟩
    · have e : r.length = h := Nat.le_antisymm (hr r List.mem_cons_self) (by omega)
      simp only [List.flatten_cons, List.length_append, List.length_cons, Nat.succ_mul] at hl
      obtain ⟨i, hi, g⟩ := lt_flat rows (fun r hr' => hr r (List.mem_cons_of_mem _ hr')) (by omega)
      exact ⟨i + 1, by simp; omega, by simpa using g⟩
theorem perm_put : ∀ (ss : List (List Nm)) (i : Nat) (x : Nm) (hi : i < ss.length), (ss.set i (ss[i] ++ [x])).flatten.Perm (ss.flatten ++ [x])
  | r :: rows, 0, x, _ => by
    simp only [List.set_cons_zero, List.getElem_cons_zero, List.flatten_cons, List.append_assoc]
    exact List.Perm.append_left r List.perm_append_comm
  | r :: rows, i + 1, x, hi => by
    simp only [List.set_cons_succ, List.getElem_cons_succ, List.flatten_cons, List.append_assoc]
    exact List.Perm.append_left r (perm_put rows i x (by simpa using hi))
theorem stk_at {ss : List (List Nm)} {i : Nat} (h : i < ss.length) : atI (ss.map stk) ((i : Nat) : Int) = some (stk ss[i]) := by
  rw [atN]; simp [h]
theorem nm_at {l : List Nm} {i : Nat} (h : i < l.length) : atI (l.map nm) ((i : Nat) : Int) = some (nm l[i]) := by
  rw [atN]; simp [h]
theorem int_at {l : List Int} {i : Nat} (h : i < l.length) : atI (l.map PV.int) ((i : Nat) : Int) = some (.int l[i]) := by
  rw [atN]; simp [h]
abbrev τS (order : List Nm) (places : List Int) (count h : Nat) (ss : List (List Nm)) (x5 x6 x7 x8 x9 : Option PV) : LE := [some (.lst (order.map nm)), some (.lst (places.map .int)), some (.int (count : Nat)), some (.int (h : Nat)), some (.lst (ss.map stk)), x5, x6, x7, x8, x9]
/-- where the box goes: at the t-th turn -/
def atTurn (p : Int) (count t : Nat) : Nat := ((p + (t : Int)) % (count : Int)).toNat
theorem atTurn_lt (p : Int) {count : Nat} (hc : 0 < count) (t : Nat) : atTurn p count t < count ∧ (p + (t : Int)) % (count : Int) = (atTurn p count t : Nat) := by
  have h0 : 0 ≤ (p + (t : Int)) % (count : Int) := Int.emod_nonneg _ (by omega)
  have h1 : (p + (t : Int)) % (count : Int) < count := Int.emod_lt_of_pos _ (by omega)
  unfold atTurn
  omega
theorem atTurn_all (p : Int) {count : Nat} (hc : 0 < count) (i : Nat) (hi : i < count) : ∃ t, t < count ∧ atTurn p count t = i := by
  have h0 : 0 ≤ ((i : Int) - p) % (count : Int) := Int.emod_nonneg _ (by omega)
  have h1 : ((i : Int) - p) % (count : Int) < count := Int.emod_lt_of_pos _ (by omega)
  refine ⟨(((i : Int) - p) % (count : Int)).toNat, by omega, ?_⟩
  unfold atTurn
  have e : ((((i : Int) - p) % (count : Int)).toNat : Int) = ((i : Int) - p) % (count : Int) := by omega
  rw [e, Int.add_emod, Int.emod_emod_of_dvd _ (Int.dvd_refl _), ← Int.add_emod]
  have : (p + ((i : Int) - p)) = (i : Int) := by omega
  rw [this, Int.emod_eq_of_lt (by omega) (by omega)]
  omega
def PutI (order : List Nm) (places : List Int) (count h : Nat) (ss : List (List Nm)) (k : Nat) (hk : k < order.length) (hk2 : k < places.length) (t : Nat) (τ : LE) : Prop := ∃ x7 x9, (τ = τS order places count h ss (some (.int (k : Nat))) (some (.bl false)) x7 none x9 ∧ ∀ u < t, ∀ hu : atTurn places[k] count u < ss.length, ¬ ss[atTurn places[k] count u].length < h) ∨ ∃ i, ∃ hi : i < ss.length, ss[i].length < h ∧ τ = τS order places count h (ss.set i (ss[i] ++ [order[k]])) (some (.int (k : Nat))) (some (.bl true)) x7 none x9
/-- one box put -/
theorem putLoop (order : List Nm) (places : List Int) (count h : Nat) (hc : 0 < count) (hc2 : count ≤ 100) (hh : h ≤ 100) (ss : List (List Nm)) (hss : ss.length = count) (hr : ∀ s ∈ ss, s.length ≤ h) (hf : ss.flatten.length < count * h) (k : Nat) (hk : k < order.length) (hk2 : k < places.length) (x7 x9 : Option PV) {D : Pst}
    (hD : ∀ i (hi : i < ss.length) y7 y9, ss[i].length < h → D.nx (τS order places count h (ss.set i (ss[i] ++ [order[k]])) (some (.int (k : Nat))) (some (.bl true)) y7 none y9)) :
    (forL (gNm 7) lb__law_stacked_1 ((List.range count).map fun i => .int (i : Nat)) (τS order places count h ss (some (.int (k : Nat))) (some (.bl false)) x7 none x9)).sat D := by
  refine forL_sat (fun i => .int (i : Nat)) (PutI order places count h ss k hk hk2) (List.range count) 0 _ ⟨x7, x9, .inl ⟨rfl, fun u hu => by omega⟩⟩ ?_ ?_
  · rintro t ht τ ⟨x7, x9, hI⟩
    simp only [List.length_range] at ht
    simp only [Nat.zero_add, List.getElem_range] at hI ⊢
    obtain ⟨a1, a2⟩ := atTurn_lt places[k] hc t
    have md := pMod_int (i := places[k] + (t : Int)) (j := (count : Nat)) (by omega)
    rw [a2] at md
    have ip := int_at hk2
    rcases hI with ⟨rfl, hno⟩ | ⟨i, hi, hlt, rfl⟩
    · refine ⟨_, rfl, ?_⟩
      have sa := stk_at (ss := ss) (i := atTurn places[k] count t) (by omega)
      by_cases hb : ss[atTurn places[k] count t].length < h
      · have hset : ((ss.map stk).set (atTurn places[k] count t) (stk (ss[atTurn places[k] count t] ++ [order[k]]))) = (ss.set (atTurn places[k] count t) (ss[atTurn places[k] count t] ++ [order[k]])).map stk := by rw [List.map_set]
        have hixn : ixN ss.length ((atTurn places[k] count t : Nat) : Int) = some (atTurn places[k] count t) := by
          unfold ixN
          rw [if_pos (by omega), if_pos (by omega)]
          simp
        have hio : atTurn places[k] count t < ss.length := by omega
        have hadd : pAddA (stk ss[atTurn places[k] count t]) (.tup [nm order[k]]) = some (stk (ss[atTurn places[k] count t] ++ [order[k]])) := by
          have : (ss[atTurn places[k] count t].map nm).length + [nm order[k]].length ≤ sizeLine := by rw [sizeLine_eq]; simp; omega
          simp only [pAddA, orP, stk, pAdd, if_pos this, List.map_append, List.map_cons, List.map_nil]
        have hlen : pLen [stk ss[atTurn places[k] count t]] = some (.int (ss[atTurn places[k] count t].length : Nat)) := by simp [stk]
        have io := nm_at hk
        simp [lb__law_stacked_1, ip, md, sa, hlen, hb, io, hadd, sSetI, hixn, hset, -List.map_set]
        exact ⟨_, _, .inr ⟨_, hio, hb, rfl⟩⟩
      · have hlen : pLen [stk ss[atTurn places[k] count t]] = some (.int (ss[atTurn places[k] count t].length : Nat)) := by simp [stk]
        simp [lb__law_stacked_1, ip, md, sa, hlen, hb]
        refine ⟨_, _, .inl ⟨rfl, fun u hu hlt => ?_⟩⟩
        rcases Nat.lt_or_ge u t with h | h
        · exact hno u h hlt
        · obtain rfl : u = t := by omega
          exact hb
    · refine ⟨_, rfl, ?_⟩
      simp [lb__law_stacked_1, ip, md, -List.map_set]
      exact ⟨_, _, .inr ⟨i, hi, hlt, rfl⟩⟩
  · rintro τ ⟨x7, x9, ⟨rfl, hno⟩ | ⟨i, hi, hlt, rfl⟩⟩
    · exfalso
      obtain ⟨i, hi, hlt⟩ := lt_flat ss hr (by rw [hss]; exact hf)
      obtain ⟨t, ht, e⟩ := atTurn_all places[k] hc i (by omega)
      subst e
      exact hno t (by simpa using ht) hi hlt
    · exact hD i hi x7 x9 hlt
theorem stacked_ok (order : List Nm) (places : List Int) (count h : Nat) (hc : 0 < count) (hc2 : count ≤ 100) (hh : h ≤ 100) (hol : order.length ≤ count * h) (hol2 : order.length ≤ 1000) (hpl : order.length ≤ places.length) :
    ∃ ss : List (List Nm), m__law_stacked (.lst (order.map nm)) (.lst (places.map .int)) (.int (count : Nat)) (.int (h : Nat)) = .ok (stksV ss) ∧ ss.length = count ∧ (∀ s ∈ ss, s.length ≤ h) ∧ ss.flatten.Perm order := by
  have hrc := pR1_le count (by omega)
  have hro := pR1_le order.length (by omega)
  have l0 : lc__law_stacked_0 [some (.lst (order.map nm)), some (.lst (places.map .int)), some (.int (count : Nat)), some (.int (h : Nat)), none, none, none, none, none, none] = .ok (.lst ((List.replicate count ([] : List Nm)).map stk)) := by
    have := comp_map (own := [8]) (it := iFn pR1 (aCons (eVar 2) aNil)) (tgt := gNm 8) (cond := tYesM) (elt := eTup aNil) (τ := [some (.lst (order.map nm)), some (.lst (places.map .int)), some (.int (count : Nat)), some (.int (h : Nat)), none, none, none, none, none, none]) (List.range count) (fun i => .int (i : Nat)) (fun _ => .tup []) (by simp [hrc]) (fun x _ => by simp [cItem, wipeL])
    rw [show ((List.range count).map fun _ => PV.tup []) = (List.replicate count ([] : List Nm)).map stk from by
      rw [List.map_const', List.length_range, List.map_replicate]; rfl] at this
    exact this
  have main : ∀ P : PV → Prop, (∀ ss : List (List Nm), ss.length = count → (∀ s ∈ ss, s.length ≤ h) → ss.flatten.Perm order → P (stksV ss)) →
      (b__law_stacked [some (.lst (order.map nm)), some (.lst (places.map .int)), some (.int (count : Nat)), some (.int (h : Nat)), none, none, none, none, none, none]).sat { rt := P } := by
    intro P hP
    simp [b__law_stacked, l0, -List.map_replicate]
    refine sat_next (for_sat (List.range order.length) (fun i => .int (i : Nat)) (fun k τ => ∃ ss x5 x6 x7 x9, τ = τS order places count h ss x5 x6 x7 none x9 ∧ ss.length = count ∧ (∀ s ∈ ss, s.length ≤ h) ∧ ss.flatten.Perm (order.take k)) (by simp [hro]) ?_ ?_ ?_)
    · exact ⟨List.replicate count [], none, none, none, none, rfl, by simp, fun s hs => by rw [(List.mem_replicate.mp hs).2]; simp, by simp⟩
    · rintro k hk τ ⟨ss, x5, x6, x7, x9, rfl, h1, h2, h3⟩
      simp only [List.length_range] at hk
      refine ⟨_, rfl, ?_⟩
      simp only [List.getElem_range]
      have hfl : ss.flatten.length = k := by rw [h3.length_eq, List.length_take]; omega
      simp [lb__law_stacked_2]
      rw [sFor_of (ps := (List.range count).map fun i => .int (i : Nat)) (by simp [hrc])]
      refine sat_next (putLoop order places count h hc hc2 hh ss h1 h2 (by omega) k hk (by omega) x7 x9 fun i hi y7 y9 hlt => ?_)
      simp
      refine ⟨ss.set i (ss[i] ++ [order[k]]), by rw [List.map_set], by rw [List.length_set]; exact h1, fun s hs => ?_, ?_⟩
      · rcases List.mem_or_eq_of_mem_set hs with hs | rfl
        · exact h2 s hs
        · simp; omega
      · refine (perm_put ss i order[k] hi).trans ?_
        rw [List.take_add_one, List.getElem?_eq_getElem hk]
        exact List.Perm.append_right _ h3
    · rintro τ ⟨ss, x5, x6, x7, x9, rfl, h1, h2, h3⟩
      simp
      rw [tup_stk]
      exact hP ss h1 h2 (by rw [List.take_of_length_le (by simp)] at h3; exact h3)
  obtain ⟨v, hv, ss, rfl, h1, h2, h3⟩ := fin_sat (rm := .sh) (main (fun v => ∃ ss : List (List Nm), v = stksV ss ∧ ss.length = count ∧ (∀ s ∈ ss, s.length ≤ h) ∧ ss.flatten.Perm order) fun ss a b c => ⟨ss, rfl, a, b, c⟩)
  exact ⟨ss, hv, h1, h2, h3⟩
theorem yard_drawn (ns : List Int) (k : Nat) (ls : List Nm) (hl : ls.length = 12) (hnd : ls.Nodup) (count h most : Nat) (hc : 0 < count) (hc2 : count ≤ 100) (hh : h ≤ 100) (hm : most ≤ 100) :
    ∃ ss : List (List Nm), m__law_yard (.scr ns) (.int (k : Nat)) (.lst (ls.map nm)) (.int (count : Nat)) (.int (h : Nat)) (.int (most : Nat)) = .ok (stksV ss) ∧ ss.length = count ∧ (∀ s ∈ ss, s.length ≤ h) ∧ ss.flatten.Nodup ∧ (∀ x ∈ ss.flatten, x ∈ ls) ∧ ss.flatten.length ≤ most := by
  obtain ⟨ds, ed, dl, db⟩ := draws_ok ns k ([(1 + (most : Int)), 12] ++ List.replicate most (count : Int)) (by
    intro b hb
    simp only [List.mem_append, List.mem_cons, List.not_mem_nil, or_false, List.mem_replicate] at hb
    rcases hb with (rfl | rfl) | ⟨_, rfl⟩
    · omega
    · decide
    · omega) (by simp; omega)
  have dl2 : ds.length = most + 2 := by rw [dl]; simp
  obtain ⟨d0, d1, dr, rfl⟩ : ∃ a b r, ds = a :: b :: r := by
    match ds, dl2 with
    | a :: b :: r, _ => exact ⟨a, b, r, rfl⟩
  have b0 := db 0 (by simp) (by simp)
  have b1 := db 1 (by simp) (by simp)
  simp only [List.getElem_cons_zero, List.getElem_cons_succ, List.cons_append] at b0 b1
  have drl : dr.length = most := by simpa using dl2
  obtain ⟨s0, hs0⟩ := Int.eq_ofNat_of_zero_le b0.1
  obtain ⟨turn, ht, ht2⟩ := mod_nat (m := d1) (n := ls.length) (by omega)
  have mm := pMod_int (i := d1) (j := (ls.length : Nat)) (by omega)
  rw [ht] at mm
  have rep := pMulA_lst (xs := [PV.int (count : Nat)]) (k := (most : Nat)) ⟨by omega, by omega, by simp⟩
  rw [Int.toNat_natCast] at rep
  have cat : pAddA (.lst [PV.int (1 + (most : Int)), .int 12]) (.lst (List.replicate most [PV.int (count : Nat)]).flatten) = some (.lst (([(1 + (most : Int)), 12] ++ List.replicate most (count : Int)).map .int)) := by
    have hfl : (List.replicate most [PV.int (count : Nat)]).flatten = (List.replicate most (count : Int)).map PV.int := by
      rw [List.map_replicate, List.flatten_replicate_singleton]
    rw [hfl]
    have : ([PV.int (1 + (most : Int)), .int 12] : List PV).length + ((List.replicate most (count : Int)).map PV.int).length ≤ sizeLine := by rw [sizeLine_eq]; simp; omega
    show (if _ then _ else _) = _
    rw [if_pos this]
    simp
  have mc := pMul_int (i := (count : Int)) (j := (h : Int)) (.inl ⟨by omega, by omega⟩)
  have hcm : ((count : Int) * (h : Int)) = ((count * h : Nat) : Int) := by norm_cast
  rw [hcm] at mc
  let size := min s0 (count * h)
  have i0 : atI (PV.int d0 :: PV.int d1 :: dr.map PV.int) 0 = some (.int d0) := by
    have := atN (PV.int d0 :: PV.int d1 :: dr.map PV.int) 0
    simpa using this
  have i1 : atI (PV.int d0 :: PV.int d1 :: dr.map PV.int) 1 = some (.int d1) := by
    have := atN (PV.int d0 :: PV.int d1 :: dr.map PV.int) 1
    simpa using this
  let names := ls.drop turn ++ ls.take turn
  have hnl : names.length = 12 := by simp only [names, List.length_append, List.length_drop, List.length_take]; omega
  have hnp : names.Perm ls := by
    have : (ls.drop turn ++ ls.take turn).Perm (ls.take turn ++ ls.drop turn) := List.perm_append_comm
    rw [List.take_append_drop] at this
    exact this
  have catn : pAddA (.lst ((ls.drop turn).map nm)) (.lst ((ls.take turn).map nm)) = some (.lst (names.map nm)) := by
    have : ((ls.drop turn).map nm).length + ((ls.take turn).map nm).length ≤ sizeLine := by rw [sizeLine_eq]; simp; omega
    show (if _ then _ else _) = _
    rw [if_pos this]
    simp [names]
  obtain ⟨ss, es, h1, h2, h3⟩ := stacked_ok (names.take size) dr count h hc hc2 hh (by rw [List.length_take]; simp only [size]; omega) (by rw [List.length_take]; omega) (by rw [List.length_take]; simp only [size]; omega)
  have hsub : ∀ x ∈ ss.flatten, x ∈ ls := fun x hx => hnp.subset (List.mem_of_mem_take (h3.subset hx))
  refine ⟨ss, ?_, h1, h2, ?_, hsub, ?_⟩
  · have cs1 : cut (ls.map nm) (some ((turn : Nat) : Int)) none = (ls.drop turn).map nm := by rw [cut_hi _ (by omega), Int.toNat_natCast, List.map_drop]
    have cs2 : cut (ls.map nm) none (some ((turn : Nat) : Int)) = (ls.take turn).map nm := by rw [cut_lo _ (by omega), Int.toNat_natCast, List.map_take]
    have cs3 : cut (PV.int d0 :: PV.int d1 :: dr.map PV.int) (some 2) none = dr.map PV.int := by rw [cut_hi _ (by omega)]; rfl
    have cs4 : cut (names.map nm) none (some ((size : Nat) : Int)) = (names.take size).map nm := by rw [cut_lo _ (by omega), Int.toNat_natCast, List.map_take]
    have ed' : m__law_draws (.scr ns) (.int (k : Nat)) (.lst (([(1 + (most : Int)), 12] ++ List.replicate most (count : Int)).map .int)) = .ok (.lst (PV.int d0 :: PV.int d1 :: dr.map PV.int)) := ed
    have hlen : pLen [.lst (ls.map nm)] = some (.int (ls.length : Nat)) := by simp
    clear_value names
    generalize (([(1 + (most : Int)), 12] ++ List.replicate most (count : Int)).map PV.int) = bnds at cat ed'
    generalize (List.replicate most [PV.int (count : Nat)]).flatten = rp at rep cat
    by_cases hgt : ((count * h : Nat) : Int) < d0
    · have hz : size = count * h := by simp only [size]; omega
      rw [hz] at cs4 es
      generalize count * h = ch at *
      simp [m__law_yard, b__law_yard, rep, cat, ed', i0, i1, mc, hgt, hlen, mm, cs1, cs2, catn, cs3, cs4, es, -List.map_take, -List.map_drop, -pLen_lst]
    · have hz : ((size : Nat) : Int) = d0 := by simp only [size]; omega
      rw [hz] at cs4
      generalize count * h = ch at *
      simp [m__law_yard, b__law_yard, rep, cat, ed', i0, i1, mc, hgt, hlen, mm, cs1, cs2, catn, cs3, cs4, es, -List.map_take, -List.map_drop, -pLen_lst]
  · exact h3.nodup_iff.mpr ((hnp.nodup_iff.mpr hnd).sublist (List.take_sublist _ _))
  · rw [h3.length_eq, List.length_take]
    simp only [size]
    omega
end K10
end
section
set_option Elab.async false
set_option linter.all false
set_option maxRecDepth 100000
namespace K10
open PySem PySem.Spec L2 Lp
theorem boxes2 (ss : List (List Nm)) (hl : ss.flatten.length ≤ 1000000) : m__law_boxes (stksV ss) = .ok (.lst (ss.flatten.map nm)) := by
  refine fin_eq ?_
  generalize hP : (fun q : PV => q = .lst (ss.flatten.map nm)) = P
  have hP2 : P (.lst (ss.flatten.map nm)) := by rw [← hP]
  clear hP
  simp [b__law_boxes]
  refine sat_next (for_sat ss stk (fun k τ => ∃ x2, τ = [some (stksV ss), some (.lst ((ss.take k).flatten.map nm)), x2]) (by simp [stksV]) ⟨none, by simp⟩ ?_ ?_)
  · rintro k hk τ ⟨x2, rfl⟩
    refine ⟨_, rfl, ?_⟩
    have hle : (ss.take k).flatten.length + ss[k].length ≤ ss.flatten.length := by
      conv => rhs; rw [← List.take_append_drop k ss, List.drop_eq_getElem_cons hk, List.flatten_append, List.flatten_cons, List.length_append, List.length_append]
      omega
    have ha : pAddA (.lst ((ss.take k).flatten.map nm)) (.lst (ss[k].map nm)) = some (.lst ((ss.take (k + 1)).flatten.map nm)) := by
      have : ((ss.take k).flatten.map nm).length + (ss[k].map nm).length ≤ sizeLine := by rw [sizeLine_eq, List.length_map, List.length_map]; omega
      show (if _ then _ else _) = _
      rw [if_pos this, List.take_succ_eq_append_getElem hk, List.flatten_append]
      simp
    have hb : pCat (.lst ((ss.take k).flatten.map nm)) (.lst (ss[k].map nm)) = some (.lst ((ss.take (k + 1)).flatten.map nm)) := ha
    simp [lb__law_boxes_0, stk, ha, hb, -List.map_flatten, -List.map_take]
  · rintro τ ⟨x2, rfl⟩
    rw [List.take_of_length_le (Nat.le_refl _)]
    simp [-List.map_flatten]
    exact hP2
/-- what is there at each event drawn -/
structure EvD (here0 pool : List Nm) (h : List Nm) (es : List (Bool × Nm)) (n : Nat) : Prop where
  run : runE here0 es = some h
  nd : h.Nodup
  sub : ∀ x ∈ h, x ∈ pool
  mem : ∀ e ∈ es, e.2 ∈ pool
  len : es.length = n
  few : h.length ≤ 10
  all : ∀ k hk, runE here0 (es.take k) = some hk → hk.length ≤ 10 ∧ ∀ x ∈ hk, x ∈ pool
theorem all_snoc {P : List Nm → Prop} {h0 h2 : List Nm} {es : List (Bool × Nm)} {e : Bool × Nm} (hp : ∀ k hk, runE h0 (es.take k) = some hk → P hk) (hr : runE h0 (es ++ [e]) = some h2) (h2p : P h2) : ∀ k hk, runE h0 ((es ++ [e]).take k) = some hk → P hk := fun k hk hq => by
  rcases Nat.lt_or_ge es.length k with h | h
  · rw [List.take_of_length_le (by simp; omega), hr] at hq
    cases hq
    exact h2p
  · rw [List.take_append_of_le_length h] at hq
    exact hp k hk hq
def EvJ (ns : List Int) (k : Nat) (ls : List Nm) (ss : List (List Nm)) (most : Nat) (ds : List Int) (j : Nat) (τ : LE) : Prop := ∃ h es x8 x9 x10 x11, τ = [some (.scr ns), some (.int (k : Nat)), some (.lst (ls.map nm)), some (stksV ss), some (.int (most : Nat)), some (.lst (h.map nm)), some (.lst (ds.map .int)), some (.lst (es.map evV)), x8, x9, x10, x11, none] ∧ EvD ss.flatten ls h es j
theorem events_drawn (ns : List Int) (k : Nat) (ls : List Nm) (hl : ls.length = 12) (hnd : ls.Nodup) (ss : List (List Nm)) (most : Nat) (hm : most ≤ 100) (hs : ss.flatten.Nodup) (hsub : ∀ x ∈ ss.flatten, x ∈ ls) (hfew : ss.flatten.length ≤ 10) :
    ∃ es h', m__law_events (.scr ns) (.int (k : Nat)) (.lst (ls.map nm)) (stksV ss) (.int (most : Nat)) = .ok (evsV es) ∧ EvD ss.flatten ls h' es es.length ∧ es.length ≤ most := by
  have hnb : ∀ b ∈ (1 + (most : Int)) :: (List.replicate most [(40 : Int), 3]).flatten, 0 < b ∧ b < 2 ^ 64 := by
    intro b hb
    simp only [List.mem_cons, List.mem_flatten, List.mem_replicate] at hb
    rcases hb with rfl | ⟨l, ⟨_, rfl⟩, hb⟩
    · omega
    · simp only [List.mem_cons, List.not_mem_nil, or_false] at hb
      rcases hb with rfl | rfl <;> decide
  have hfl : ((List.replicate most [(40 : Int), 3]).flatten).length = 2 * most := by
    simp; omega
  obtain ⟨ds, ed, dl, db⟩ := draws_ok ns k _ hnb (by simp; omega)
  have dl2 : ds.length = 1 + 2 * most := by rw [dl, List.length_cons, hfl]; omega
  have b0 := db 0 (by omega) (by simp)
  simp only [List.getElem_cons_zero] at b0
  obtain ⟨n, hn⟩ := Int.eq_ofNat_of_zero_le b0.1
  have hn2 : n ≤ most := by omega
  have i0 : atI (ds.map PV.int) 0 = some (.int (n : Nat)) := by
    have := int_at (l := ds) (i := 0) (by omega)
    rw [hn] at this
    exact this
  have rep := pMulA_lst (xs := [PV.int 40, .int 3]) (k := (most : Nat)) ⟨by omega, by omega, by simp⟩
  rw [Int.toNat_natCast] at rep
  have cat : pAddA (.lst [PV.int (1 + (most : Int))]) (.lst (List.replicate most [PV.int 40, .int 3]).flatten) = some (.lst (((1 + (most : Int)) :: (List.replicate most [(40 : Int), 3]).flatten).map .int)) := by
    have e : (List.replicate most [PV.int 40, .int 3]).flatten = ((List.replicate most [(40 : Int), 3]).flatten).map PV.int := by
      rw [List.map_flatten, List.map_replicate]; rfl
    rw [e]
    have : ([PV.int (1 + (most : Int))] : List PV).length + (((List.replicate most [(40 : Int), 3]).flatten).map PV.int).length ≤ sizeLine := by rw [sizeLine_eq, List.length_map, hfl]; simp; omega
    show (if _ then _ else _) = _
    rw [if_pos this]
    rfl
  have hb := boxes2 ss (by omega)
  have hrn := pR1_le n (by omega)
  generalize hbn : ((1 + (most : Int)) :: (List.replicate most [(40 : Int), 3]).flatten).map PV.int = bn at ed cat
  generalize hrp : (List.replicate most [PV.int 40, .int 3]).flatten = rp at rep cat
  have main : ∀ P : PV → Prop, (∀ es h', EvD ss.flatten ls h' es es.length → es.length ≤ most → P (evsV es)) →
      (b__law_events [some (.scr ns), some (.int (k : Nat)), some (.lst (ls.map nm)), some (stksV ss), some (.int (most : Nat)), none, none, none, none, none, none, none, none]).sat { rt := P } := by
    intro P hP
    simp [b__law_events, hb, rep, cat, ed, -List.map_flatten]
    refine sat_next (for_sat (List.range n) (fun i => .int (i : Nat)) (EvJ ns k ls ss most ds) (by simp [i0, hrn]) ?_ ?_ ?_)
    · exact ⟨ss.flatten, [], none, none, none, none, rfl, rfl, hs, hsub, by simp, rfl, hfew, fun k hk hq => by
        rw [List.take_nil] at hq
        cases hq
        exact ⟨hfew, hsub⟩⟩
    · rintro j hj τ ⟨h, es, x8, x9, x10, x11, rfl, I⟩
      simp only [List.length_range] at hj
      refine ⟨_, rfl, ?_⟩
      simp only [List.getElem_range]
      have m2 := pMul_int (i := 2) (j := (j : Nat)) (.inl ⟨by decide, by decide⟩)
      have ia := int_at (l := ds) (i := 1 + 2 * j) (by omega)
      have ib := int_at (l := ds) (i := 2 + 2 * j) (by omega)
      have ca : (((1 + 2 * j : Nat) : Nat) : Int) = 1 + 2 * (j : Int) := by omega
      have cb : (((2 + 2 * j : Nat) : Nat) : Int) = 2 + 2 * (j : Int) := by omega
      rw [ca] at ia
      rw [cb] at ib
      generalize ds[1 + 2 * j] = num at ia
      generalize ds[2 + 2 * j] = kind at ib
      generalize haw : (ls.filter fun x => !decide (x ∈ h)) = aw
      have l0 : ∀ x8 x9 x10 x11, lc__law_events_0 [some (.scr ns), some (.int (k : Nat)), some (.lst (ls.map nm)), some (stksV ss), some (.int (most : Nat)), some (.lst (h.map nm)), some (.lst (ds.map .int)), some (.lst (es.map evV)), x8, x9, x10, x11, none] = .ok (.lst (aw.map nm)) := fun x8 x9 x10 x11 => by
        rw [← haw]
        refine comp_filter ls nm nm _ (by simp) fun x _ => ?_
        simp [cItem, wipeL, pInA_nm]
        split <;> simp_all
      have hal : pLen [.lst (aw.map nm)] = some (.int (aw.length : Nat)) := by simp
      have hhl : pLen [.lst (h.map nm)] = some (.int (h.length : Nat)) := by simp
      have hel := I.len
      by_cases C : 0 < h.length ∧ (kind < 2 ∨ aw.length = 0 ∨ 9 < h.length)
      · obtain ⟨q, hq, hq2⟩ := mod_nat (m := num) C.1
        have md := pMod_int (i := num) (j := (h.length : Nat)) (by omega)
        rw [hq] at md
        have ih := nm_at hq2
        have hx : h[q] ∈ h := List.getElem_mem hq2
        generalize h[q] = x at ih hx
        have hgo : (h.filter fun y => !decide (y = x)) = h.erase x := by
          rw [I.nd.erase_eq_filter]
          congr 1
          funext y
          by_cases e : y = x <;> simp [e]
        have l1 : ∀ es' x8 x9 x10, lc__law_events_1 [some (.scr ns), some (.int (k : Nat)), some (.lst (ls.map nm)), some (stksV ss), some (.int (most : Nat)), some (.lst (h.map nm)), some (.lst (ds.map .int)), es', x8, x9, x10, some (nm x), none] = .ok (.lst ((h.erase x).map nm)) := fun es' x8 x9 x10 => by
          rw [← hgo]
          refine comp_filter h nm nm _ (by simp) fun y _ => ?_
          simp [cItem, wipeL, pNe_nm]
          split <;> simp_all
        have g2 := gApp_s (ps := es.map evV) (q := evV (false, x)) (by simp; omega)
        simp [evV] at g2
        have hI : EvD ss.flatten ls (h.erase x) (es ++ [(false, x)]) (j + 1) := by
          have hs2 : stepE h (false, x) = some (h.erase x) := by simp [stepE, hx]
          refine ⟨runE_snoc I.run hs2, I.nd.erase x, fun y hy => I.sub y (List.mem_of_mem_erase hy), fun e he => ?_, by simp [hel], Nat.le_trans List.length_erase_le I.few, all_snoc I.all (runE_snoc I.run hs2) ⟨Nat.le_trans List.length_erase_le I.few, fun y hy => I.sub y (List.mem_of_mem_erase hy)⟩⟩
          rcases List.mem_append.mp he with he | he
          · exact I.mem e he
          · rw [List.mem_singleton.mp he]; exact I.sub x hx
        have C1 := C.1
        have C2 : kind < 2 ∨ aw = [] ∨ 9 < h.length := by
          rcases C.2 with h | h | h
          · exact .inl h
          · exact .inr (.inl (List.length_eq_zero_iff.mp h))
          · exact .inr (.inr h)
        have C3 : kind < 2 ∨ aw = [] ∨ (9 : Int) < (h.length : Nat) := by
          rcases C2 with h | h | h
          · exact .inl h
          · exact .inr (.inl h)
          · exact .inr (.inr (by omega))
        simp [lb__law_events_2, l0, m2, ia, ib, C1, C3, md, ih, g2, l1]
        exact ⟨h.erase x, es ++ [(false, x)], _, _, _, _, by rw [List.map_append]; rfl, hI⟩
      · have haw0 : aw ≠ [] := by
          intro e
          by_cases h0 : 0 < h.length
          · exact C ⟨h0, .inr (.inl (by rw [e]; rfl))⟩
          · have hh : h = [] := List.length_eq_zero_iff.mp (by omega)
            subst hh
            have : aw.length = 12 := by
              rw [← haw, ← hl]
              congr 1
              exact List.filter_eq_self.mpr fun y _ => by simp
            rw [e] at this; simp at this
        have hawl : 0 < aw.length := List.length_pos_iff.mpr haw0
        obtain ⟨q, hq, hq2⟩ := mod_nat (m := num) hawl
        have md := pMod_int (i := num) (j := (aw.length : Nat)) (by omega)
        rw [hq] at md
        have ih := nm_at hq2
        have hx : aw[q] ∈ aw := List.getElem_mem hq2
        generalize aw[q] = x at ih hx
        rw [← haw] at hx
        obtain ⟨hx1, hx2⟩ := List.mem_filter.mp hx
        simp at hx2
        have hfw := I.few
        have h9 : h.length ≤ 9 := by
          rcases Nat.lt_or_ge 9 h.length with h | h
          · exact absurd ⟨by omega, .inr (.inr h)⟩ C
          · exact h
        have g2 := gApp_s (ps := es.map evV) (q := evV (true, x)) (by simp; omega)
        simp [evV] at g2
        have hI : EvD ss.flatten ls (h ++ [x]) (es ++ [(true, x)]) (j + 1) := by
          have hs2 : stepE h (true, x) = some (h ++ [x]) := by simp [stepE, hx2]
          have hsb : ∀ y ∈ h ++ [x], y ∈ ls := fun y hy => by
            rcases List.mem_append.mp hy with hy | hy
            · exact I.sub y hy
            · rw [List.mem_singleton.mp hy]; exact hx1
          refine ⟨runE_snoc I.run hs2, stepE_nd I.nd hs2, hsb, fun e he => ?_, by simp [hel], by simp; omega, all_snoc I.all (runE_snoc I.run hs2) ⟨by simp; omega, hsb⟩⟩
          · rcases List.mem_append.mp he with he | he
            · exact I.mem e he
            · rw [List.mem_singleton.mp he]; exact hx1
        have cat1 : pAddA (.lst (h.map nm)) (.lst [nm x]) = some (.lst ((h ++ [x]).map nm)) := by
          have : (h.map nm).length + [nm x].length ≤ sizeLine := by rw [sizeLine_eq]; simp; omega
          show (if _ then _ else _) = _
          rw [if_pos this]; simp
        have C3 : ¬ (0 < h.length ∧ (kind < 2 ∨ aw = [] ∨ (9 : Int) < (h.length : Nat))) := by
          rintro ⟨c1, c2⟩
          refine C ⟨c1, ?_⟩
          rcases c2 with h | h | h
          · exact .inl h
          · exact absurd h haw0
          · omega
        simp only [List.map_append, List.map_cons, List.map_nil] at cat1
        simp [lb__law_events_2, l0, m2, ia, ib, C3, md, ih, g2, cat1]
        exact ⟨h ++ [x], es ++ [(true, x)], _, _, _, _, by rw [List.map_append, List.map_append]; rfl, hI⟩
    · rintro τ ⟨h, es, x8, x9, x10, x11, rfl, I⟩
      simp
      simp at I
      have hle := I.len
      exact hP es h (by rw [hle]; exact I) (by omega)
  obtain ⟨v, hv, es, h', rfl, h1, h2⟩ := fin_sat (rm := .sh) (main (fun v => ∃ es h', v = evsV es ∧ EvD ss.flatten ls h' es es.length ∧ es.length ≤ most) fun es h' a b => ⟨es, h', rfl, a, b⟩)
  exact ⟨es, h', hv, h1, h2⟩
/-- a drawn day, by its own names -/
theorem day_of {h : Nat} {ss : List (List Nm)} {es : List (Bool × Nm)} {ls : List Nm} {h' : List Nm} (h1 : 1 ≤ h) (h5 : h ≤ 5) (c1 : 1 ≤ ss.length) (c5 : ss.length ≤ 5) (row : ∀ s ∈ ss, s.length ≤ h) (nd : ss.flatten.Nodup) (hls : ∀ l ∈ ls, 1 ≤ l.length ∧ l.length ≤ 8) (hsub : ∀ x ∈ ss.flatten, x ∈ ls) (hfl : ss.flatten.length ≤ 10) (I : EvD ss.flatten ls h' es es.length) (hel : es.length ≤ 12) : DayOk h ss es :=
  ⟨h1, h5, c1, c5, row, nd, fun x hx => hls x (hsub x hx), fun e he => hls _ (I.mem e he), ⟨h', I.run⟩, hel, by omega⟩
end K10
end
section
set_option Elab.async false
set_option linter.all false
set_option maxRecDepth 100000
namespace K10
open PySem PySem.Spec L2 Lp
/-! who is there behind so many events, as the law reckons -/
theorem runE_nd {h h' : List Nm} : ∀ {es : List (Bool × Nm)}, h.Nodup → runE h es = some h' → h'.Nodup := by
  intro es
  induction es generalizing h with
  | nil => intro hn hr; cases hr; exact hn
  | cons e es ih =>
    intro hn hr
    cases hs : stepE h e with
    | none => rw [show runE h (e :: es) = (stepE h e).bind fun x => runE x es from rfl, hs] at hr; cases hr
    | some h1 =>
      rw [show runE h (e :: es) = (stepE h e).bind fun x => runE x es from rfl, hs] at hr
      exact ih (stepE_nd hn hs) hr
theorem runE_len {h h' : List Nm} : ∀ {es : List (Bool × Nm)}, runE h es = some h' → h'.length ≤ h.length + es.length := by
  intro es
  induction es generalizing h with
  | nil => intro hr; cases hr; simp
  | cons e es ih =>
    intro hr
    cases hs : stepE h e with
    | none => rw [show runE h (e :: es) = (stepE h e).bind fun x => runE x es from rfl, hs] at hr; cases hr
    | some h1 =>
      rw [show runE h (e :: es) = (stepE h e).bind fun x => runE x es from rfl, hs] at hr
      have := ih hr
      have := stepE_len hs
      simp only [List.length_cons]; omega
theorem present_ok {ss : List (List Nm)} {es : List (Bool × Nm)} {h' : List Nm} (nd : ss.flatten.Nodup) (hr : runE ss.flatten es = some h') (hl : ss.flatten.length ≤ 500) (hle : es.length ≤ 400) (k : Nat) {hk : List Nm} (hk1 : runE ss.flatten (es.take k) = some hk) :
    m__law_present (stksV ss) (evsV es) (.int (k : Nat)) = .ok (.lst (hk.map nm)) := by
  have hb := boxes2 ss (by omega)
  have sl : pSlA (evsV es) none (some ((k : Nat) : Int)) = some (.tup ((es.take k).map evV)) := by
    show pSlA (.tup _) _ _ = _
    rw [pSlA_tup, cut_lo _ (by omega), Int.toNat_natCast, List.map_take]
  have hrun : ∀ j, ∃ hj, runE ss.flatten ((es.take k).take j) = some hj := fun j => runE_split hk1 j
  have hlk : (es.take k).length ≤ 400 := by rw [List.length_take]; omega
  generalize es.take k = fs at sl hk1 hrun hlk
  have main : ∀ P : PV → Prop, P (.lst (hk.map nm)) → (b__law_present [some (stksV ss), some (evsV es), some (.int (k : Nat)), none, none, none]).sat { rt := P } := by
    intro P hP
    simp [b__law_present, hb, -List.map_flatten]
    refine sat_next (for_sat fs evV (fun j τ => ∃ hj x4, runE ss.flatten (fs.take j) = some hj ∧ τ = [some (stksV ss), some (evsV es), some (.int (k : Nat)), some (.lst (hj.map nm)), x4, none]) (by simp [sl]) ⟨ss.flatten, none, rfl, rfl⟩ ?_ ?_)
    · rintro j hj τ ⟨hj1, x4, e1, rfl⟩
      refine ⟨_, rfl, ?_⟩
      obtain ⟨h2, e2, e3⟩ := runE_step hk1 hj e1
      have hn := runE_nd nd e1
      have hlen := runE_len e1
      rw [List.length_take] at hlen
      generalize fs[j] = ev at e2
      obtain ⟨b, x⟩ := ev
      have q1 := pEq_str (sok_ofS "in") (sok_ofS "in")
      have q2 := pEq_str (sok_ofS "out") (sok_ofS "in")
      simp at q1 q2
      cases b with
      | true =>
        have hx : x ∉ hj1 := by intro hm; simp [stepE, hm] at e2
        simp [stepE, hx] at e2
        subst e2
        have hc : pCat (.lst (hj1.map nm)) (.lst [nm x]) = some (.lst ((hj1 ++ [x]).map nm)) := by
          have : (hj1.map nm).length + [nm x].length ≤ sizeLine := by rw [sizeLine_eq, List.length_map, List.length_singleton]; omega
          show (if _ then _ else _) = _
          rw [if_pos this]; simp
        simp [lb__law_present_1, evV, q1, hc, -List.map_append]
        exact ⟨_, e3, rfl⟩
      | false =>
        have hx : x ∈ hj1 := by
          by_cases hm : x ∈ hj1
          · exact hm
          · simp [stepE, hm] at e2
        simp [stepE, hx] at e2
        have l0 : lc__law_present_0 [some (stksV ss), some (evsV es), some (.int (k : Nat)), some (.lst (hj1.map nm)), some (.tup [.str (Str.ofString "out"), nm x]), none] = .ok (.lst ((hj1.filter fun y => !decide (y = x)).map nm)) := by
          refine comp_filter hj1 nm nm _ (by simp) fun y _ => ?_
          simp [cItem, wipeL, pNe_nm]
          split <;> simp_all
        have hf : (hj1.filter fun y => !decide (y = x)) = hj1.erase x := by
          rw [hn.erase_eq_filter]
          congr 1
          funext y
          by_cases h : y = x <;> simp [h]
        rw [hf, e2] at l0
        simp [lb__law_present_1, evV, q2, l0]
        exact ⟨_, e3, rfl⟩
    · rintro τ ⟨hj, x4, e1, rfl⟩
      rw [List.take_length, hk1] at e1
      cases e1
      simp
      exact hP
  exact fin_eq (main _ rfl)
end K10
end
section
set_option Elab.async false
set_option linter.all false
set_option maxRecDepth 100000
namespace K10
open PySem PySem.Spec L2 Lp
/-- one box put -/
theorem putLoopX (order : List Nm) (places : List Int) (count h : Nat) (hc : 0 < count) (hc2 : count ≤ 100) (hh : h ≤ 100) (ss : List (List Nm)) (hss : ss.length = count) (hr : ∀ s ∈ ss, s.length ≤ h) (k : Nat) (hk : k < order.length) (hk2 : k < places.length) (x7 x9 : Option PV) {D : Pst}
    (hN : ∀ y7 y9, D.nx (τS order places count h ss (some (.int (k : Nat))) (some (.bl false)) y7 none y9)) (hD : ∀ i (hi : i < ss.length) y7 y9, ss[i].length < h → D.nx (τS order places count h (ss.set i (ss[i] ++ [order[k]])) (some (.int (k : Nat))) (some (.bl true)) y7 none y9)) :
    (forL (gNm 7) lb__law_stacked_1 ((List.range count).map fun i => .int (i : Nat)) (τS order places count h ss (some (.int (k : Nat))) (some (.bl false)) x7 none x9)).sat D := by
  refine forL_sat (fun i => .int (i : Nat)) (PutI order places count h ss k hk hk2) (List.range count) 0 _ ⟨x7, x9, .inl ⟨rfl, fun u hu => by omega⟩⟩ ?_ ?_
  · rintro t ht τ ⟨x7, x9, hI⟩
    simp only [List.length_range] at ht
    simp only [Nat.zero_add, List.getElem_range] at hI ⊢
    obtain ⟨a1, a2⟩ := atTurn_lt places[k] hc t
    have md := pMod_int (i := places[k] + (t : Int)) (j := (count : Nat)) (by omega)
    rw [a2] at md
    have ip := int_at hk2
    rcases hI with ⟨rfl, hno⟩ | ⟨i, hi, hlt, rfl⟩
    · refine ⟨_, rfl, ?_⟩
      have sa := stk_at (ss := ss) (i := atTurn places[k] count t) (by omega)
      by_cases hb : ss[atTurn places[k] count t].length < h
      · have hset : ((ss.map stk).set (atTurn places[k] count t) (stk (ss[atTurn places[k] count t] ++ [order[k]]))) = (ss.set (atTurn places[k] count t) (ss[atTurn places[k] count t] ++ [order[k]])).map stk := by rw [List.map_set]
        have hixn : ixN ss.length ((atTurn places[k] count t : Nat) : Int) = some (atTurn places[k] count t) := by
          unfold ixN
          rw [if_pos (by omega), if_pos (by omega)]
          simp
        have hio : atTurn places[k] count t < ss.length := by omega
        have hadd : pAddA (stk ss[atTurn places[k] count t]) (.tup [nm order[k]]) = some (stk (ss[atTurn places[k] count t] ++ [order[k]])) := by
          have : (ss[atTurn places[k] count t].map nm).length + [nm order[k]].length ≤ sizeLine := by rw [sizeLine_eq]; simp; omega
          simp only [pAddA, orP, stk, pAdd, if_pos this, List.map_append, List.map_cons, List.map_nil]
        have hlen : pLen [stk ss[atTurn places[k] count t]] = some (.int (ss[atTurn places[k] count t].length : Nat)) := by simp [stk]
        have io := nm_at hk
        simp [lb__law_stacked_1, ip, md, sa, hlen, hb, io, hadd, sSetI, hixn, hset, -List.map_set]
        exact ⟨_, _, .inr ⟨_, hio, hb, rfl⟩⟩
      · have hlen : pLen [stk ss[atTurn places[k] count t]] = some (.int (ss[atTurn places[k] count t].length : Nat)) := by simp [stk]
        simp [lb__law_stacked_1, ip, md, sa, hlen, hb]
        refine ⟨_, _, .inl ⟨rfl, fun u hu hlt => ?_⟩⟩
        rcases Nat.lt_or_ge u t with h | h
        · exact hno u h hlt
        · obtain rfl : u = t := by omega
          exact hb
    · refine ⟨_, rfl, ?_⟩
      simp [lb__law_stacked_1, ip, md, -List.map_set]
      exact ⟨_, _, .inr ⟨i, hi, hlt, rfl⟩⟩
  · rintro τ ⟨x7, x9, ⟨rfl, hno⟩ | ⟨i, hi, hlt, rfl⟩⟩
    · exact hN x7 x9
    · exact hD i hi x7 x9 hlt
theorem stackedX_ok (order : List Nm) (places : List Int) (count h : Nat) (hc : 0 < count) (hc2 : count ≤ 100) (hh : h ≤ 100) (hol2 : order.length ≤ 1000) (hpl : order.length ≤ places.length) :
    m__law_stacked (.lst (order.map nm)) (.lst (places.map .int)) (.int (count : Nat)) (.int (h : Nat)) = .ok .non ∨ ∃ ss : List (List Nm), m__law_stacked (.lst (order.map nm)) (.lst (places.map .int)) (.int (count : Nat)) (.int (h : Nat)) = .ok (stksV ss) ∧ ss.length = count ∧ (∀ s ∈ ss, s.length ≤ h) ∧ ss.flatten.Perm order := by
  have hrc := pR1_le count (by omega)
  have hro := pR1_le order.length (by omega)
  have l0 : lc__law_stacked_0 [some (.lst (order.map nm)), some (.lst (places.map .int)), some (.int (count : Nat)), some (.int (h : Nat)), none, none, none, none, none, none] = .ok (.lst ((List.replicate count ([] : List Nm)).map stk)) := by
    have := comp_map (own := [8]) (it := iFn pR1 (aCons (eVar 2) aNil)) (tgt := gNm 8) (cond := tYesM) (elt := eTup aNil) (τ := [some (.lst (order.map nm)), some (.lst (places.map .int)), some (.int (count : Nat)), some (.int (h : Nat)), none, none, none, none, none, none]) (List.range count) (fun i => .int (i : Nat)) (fun _ => .tup []) (by simp [hrc]) (fun x _ => by simp [cItem, wipeL])
    rw [show ((List.range count).map fun _ => PV.tup []) = (List.replicate count ([] : List Nm)).map stk from by
      rw [List.map_const', List.length_range, List.map_replicate]; rfl] at this
    exact this
  have main : ∀ P : PV → Prop, P .non → (∀ ss : List (List Nm), ss.length = count → (∀ s ∈ ss, s.length ≤ h) → ss.flatten.Perm order → P (stksV ss)) →
      (b__law_stacked [some (.lst (order.map nm)), some (.lst (places.map .int)), some (.int (count : Nat)), some (.int (h : Nat)), none, none, none, none, none, none]).sat { rt := P } := by
    intro P hPN hP
    simp [b__law_stacked, l0, -List.map_replicate]
    refine sat_next (for_sat (List.range order.length) (fun i => .int (i : Nat)) (fun k τ => ∃ ss x5 x6 x7 x9, τ = τS order places count h ss x5 x6 x7 none x9 ∧ ss.length = count ∧ (∀ s ∈ ss, s.length ≤ h) ∧ ss.flatten.Perm (order.take k)) (by simp [hro]) ?_ ?_ ?_)
    · exact ⟨List.replicate count [], none, none, none, none, rfl, by simp, fun s hs => by rw [(List.mem_replicate.mp hs).2]; simp, by simp⟩
    · rintro k hk τ ⟨ss, x5, x6, x7, x9, rfl, h1, h2, h3⟩
      simp only [List.length_range] at hk
      refine ⟨_, rfl, ?_⟩
      simp only [List.getElem_range]
      simp [lb__law_stacked_2]
      rw [sFor_of (ps := (List.range count).map fun i => .int (i : Nat)) (by simp [hrc])]
      refine sat_next (putLoopX order places count h hc hc2 hh ss h1 h2 k hk (by omega) x7 x9 (fun y7 y9 => ?_) fun i hi y7 y9 hlt => ?_)
      · simp
        exact hPN
      simp
      refine ⟨ss.set i (ss[i] ++ [order[k]]), by rw [List.map_set], by rw [List.length_set]; exact h1, fun s hs => ?_, ?_⟩
      · rcases List.mem_or_eq_of_mem_set hs with hs | rfl
        · exact h2 s hs
        · simp; omega
      · refine (perm_put ss i order[k] hi).trans ?_
        rw [List.take_add_one, List.getElem?_eq_getElem hk]
        exact List.Perm.append_right _ h3
    · rintro τ ⟨ss, x5, x6, x7, x9, rfl, h1, h2, h3⟩
      simp
      rw [tup_stk]
      exact hP ss h1 h2 (by rw [List.take_of_length_le (by simp)] at h3; exact h3)
  obtain ⟨v, hv, rfl | ⟨ss, rfl, h1, h2, h3⟩⟩ := fin_sat (rm := .sh) (main (fun v => v = .non ∨ ∃ ss : List (List Nm), v = stksV ss ∧ ss.length = count ∧ (∀ s ∈ ss, s.length ≤ h) ∧ ss.flatten.Perm order) (.inl rfl) fun ss a b c => .inr ⟨ss, rfl, a, b, c⟩)
  · exact .inl hv
  · exact .inr ⟨ss, hv, h1, h2, h3⟩
end K10
end
section
set_option Elab.async false
set_option linter.all false
set_option maxRecDepth 100000
namespace Lp
open PySem PySem.Spec L2
/-! states and deeds, plainly -/
inductive Deed where
  | shift (i j : Nat) | inn (j : Nat) | out
  deriving DecidableEq
def deedV : Deed → PV
  | .shift i j => .tup [.str ("shift" : Str), .int (i : Nat), .int (j : Nat)]
  | .inn j => .tup [.str ("in" : Str), .int (j : Nat)]
  | .out => .tup [.str ("out" : Str)]
abbrev Sts := Nat × List (List Nm)
def stV (s : Sts) : PV := .tup [.int (s.1 : Nat), stksV s.2]
def row (ss : List (List Nm)) (i : Nat) : List Nm := ss.getD i []
def shiftP (h : Nat) (ss : List (List Nm)) (i j : Nat) : Option (List (List Nm)) :=
  if i = j ∨ (row ss i).length = 0 ∨ h ≤ (row ss j).length then none else some ((ss.set i (row ss i).dropLast).set j (row ss j ++ (row ss i).getLast?.toList))
/-- the deed done at a state -/
def stepD (h : Nat) (es : List (Bool × Nm)) (s : Sts) : Deed → Option Sts
  | .shift i j => (shiftP h s.2 i j).map fun ss => (s.1, ss)
  | .inn j => match es[s.1]? with
    | some (true, x) => if (row s.2 j).length < h then some (s.1 + 1, s.2.set j (row s.2 j ++ [x])) else none
    | _ => none
  | .out => match es[s.1]? with
    | some (false, x) => match s.2.findIdx? fun r => decide (x ∈ r) with
      | some i => if (row s.2 i).getLast? = some x then some (s.1 + 1, s.2.set i (row s.2 i).dropLast) else none
      | none => none
    | _ => none
/-- the states that are met -/
structure WF (h n : Nat) (ss0 : List (List Nm)) (es : List (Bool × Nm)) (s : Sts) : Prop where
  le : s.1 ≤ es.length
  len : s.2.length = n
  row : ∀ r ∈ s.2, r.length ≤ h
  nd : s.2.flatten.Nodup
  box : ∃ hk, runE ss0.flatten (es.take s.1) = some hk ∧ s.2.flatten.Perm hk
theorem row_lt {ss : List (List Nm)} {i : Nat} (h : i < ss.length) : row ss i = ss[i] := by
  unfold row; rw [List.getD_eq_getElem?_getD, List.getElem?_eq_getElem h]; rfl
theorem row_mem {ss : List (List Nm)} {i : Nat} (h : i < ss.length) : row ss i ∈ ss := by rw [row_lt h]; exact List.getElem_mem h
theorem drop_last {α : Type} (l : List α) : l.dropLast ++ l.getLast?.toList = l := by
  by_cases h : l = []
  · subst h; rfl
  · rw [List.getLast?_eq_getLast h]
    exact List.dropLast_concat_getLast h
theorem flat_at : ∀ (ss : List (List Nm)) (i : Nat), i < ss.length → ss.flatten.Perm (row ss i ++ (ss.eraseIdx i).flatten)
  | r :: ss, 0, _ => by simp [row]
  | r :: ss, i + 1, h => by
    have ih := flat_at ss i (by simpa using h)
    have e : row (r :: ss) (i + 1) = row ss i := by simp [row]
    rw [List.flatten_cons, List.eraseIdx_cons_succ, List.flatten_cons, e]
    refine (List.Perm.append_left r ih).trans ?_
    rw [← List.append_assoc, ← List.append_assoc]
    exact List.Perm.append_right _ List.perm_append_comm
theorem flat_set (ss : List (List Nm)) (i : Nat) (r : List Nm) (h : i < ss.length) : (ss.set i r).flatten.Perm (r ++ (ss.eraseIdx i).flatten) := by
  have := flat_at (ss.set i r) i (by rw [List.length_set]; exact h)
  rw [row_lt (by rw [List.length_set]; exact h), List.getElem_set_self, List.eraseIdx_set_eq] at this
  exact this
/-- a box more on a stack -/
theorem flat_put (ss : List (List Nm)) (j : Nat) (x : Nm) (h : j < ss.length) : (ss.set j (row ss j ++ [x])).flatten.Perm (ss.flatten ++ [x]) := by
  refine (flat_set ss j _ h).trans ?_
  refine List.Perm.trans ?_ (List.Perm.append_right [x] (flat_at ss j h).symm)
  rw [List.append_assoc, List.append_assoc]
  exact List.Perm.append_left _ List.perm_append_comm
/-- the highest box of a stack goes -/
theorem flat_pop (ss : List (List Nm)) (i : Nat) (x : Nm) (h : i < ss.length) (hx : (row ss i).getLast? = some x) : ss.flatten.Perm (x :: (ss.set i (row ss i).dropLast).flatten) := by
  refine (flat_at ss i h).trans ?_
  refine List.Perm.trans ?_ ((flat_set ss i _ h).symm.cons x)
  have e := drop_last (row ss i)
  rw [hx] at e
  conv => lhs; rw [← e]
  simp only [Option.toList_some, List.append_assoc]
  exact List.perm_middle
theorem row_set_ne {ss : List (List Nm)} {i j : Nat} (r : List Nm) (h : i ≠ j) : row (ss.set i r) j = row ss j := by
  unfold row; rw [List.getD_eq_getElem?_getD, List.getD_eq_getElem?_getD, List.getElem?_set_ne h]
theorem mem_set_le {h i : Nat} {ss : List (List Nm)} {r : List Nm} (hr : ∀ r ∈ ss, r.length ≤ h) (h2 : r.length ≤ h) : ∀ q ∈ ss.set i r, q.length ≤ h := fun q hq => by
  rcases List.mem_or_eq_of_mem_set hq with hq | rfl
  · exact hr q hq
  · exact h2
def validD (n : Nat) : Deed → Prop
  | .shift i j => i < n ∧ j < n
  | .inn j => j < n
  | .out => True
theorem findIdx_of {α : Type} {p : α → Bool} : ∀ {l : List α} {i : Nat}, l.findIdx? p = some i → ∃ h : i < l.length, p l[i] = true
  | [], i, h => by simp at h
  | a :: l, i, h => by
    rw [List.findIdx?_cons] at h
    split at h
    · cases h
      rename_i hp
      exact ⟨by simp, hp⟩
    · cases hq : l.findIdx? p with
      | none => rw [hq] at h; cases h
      | some j =>
        rw [hq] at h
        cases h
        obtain ⟨h1, h2⟩ := findIdx_of hq
        exact ⟨by simp; omega, by simpa using h2⟩
variable {h n : Nat} {ss0 : List (List Nm)} {es : List (Bool × Nm)} {s s' : Sts}
theorem shiftP_some {ss ss' : List (List Nm)} {i j : Nat} (hi : i < ss.length) (hj : j < ss.length) (hr : ∀ r ∈ ss, r.length ≤ h) (hs : shiftP h ss i j = some ss') : ss'.length = ss.length ∧ (∀ r ∈ ss', r.length ≤ h) ∧ ss'.flatten.Perm ss.flatten := by
  unfold shiftP at hs
  split at hs
  · cases hs
  · rename_i hc
    cases hs
    have hij : i ≠ j := fun e => hc (.inl e)
    have h0 : (row ss i).length ≠ 0 := fun e => hc (.inr (.inl e))
    have hl : (row ss j).length < h := Nat.lt_of_not_le fun e => hc (.inr (.inr e))
    obtain ⟨x, hx⟩ : ∃ x, (row ss i).getLast? = some x := by
      cases hq : (row ss i).getLast? with
      | none => rw [List.getLast?_eq_none_iff] at hq; rw [hq] at h0; exact absurd rfl h0
      | some x => exact ⟨x, rfl⟩
    rw [hx, Option.toList_some]
    refine ⟨by simp, mem_set_le (mem_set_le hr ?_) (by simp; omega), ?_⟩
    · rw [List.length_dropLast]; have := hr _ (row_mem hi); omega
    · have e : row ss j = row (ss.set i (row ss i).dropLast) j := (row_set_ne _ hij).symm
      rw [e]
      refine (flat_put _ j x (by rw [List.length_set]; exact hj)).trans ?_
      refine List.Perm.trans ?_ (flat_pop ss i x hi hx).symm
      exact List.perm_append_singleton x _
theorem WF.step (w : WF h n ss0 es s) {D : Deed} (hD : validD n D) (hs : stepD h es s D = some s') (hrun : ∃ h', runE ss0.flatten es = some h') : WF h n ss0 es s' := by
  obtain ⟨hk, hk1, hk2⟩ := w.box
  obtain ⟨h', hr⟩ := hrun
  cases D with
  | shift i j =>
    unfold stepD at hs
    dsimp only at hs
    cases hq : shiftP h s.2 i j with
    | none => rw [hq] at hs; cases hs
    | some ss =>
      rw [hq] at hs
      cases hs
      obtain ⟨a, b, c⟩ := shiftP_some (by rw [w.len]; exact hD.1) (by rw [w.len]; exact hD.2) w.row hq
      exact ⟨w.le, a.trans w.len, b, c.nodup_iff.mpr w.nd, hk, hk1, c.trans hk2⟩
  | inn j =>
    unfold stepD at hs
    dsimp only at hs
    split at hs
    · rename_i x he
      split at hs
      · rename_i hl
        cases hs
        obtain ⟨hlt, hx⟩ := List.getElem?_eq_some_iff.mp he
        obtain ⟨h2, e2, r2⟩ := runE_step hr hlt hk1
        rw [hx] at e2
        have hnx : x ∉ hk := by intro hm; simp [stepE, hm] at e2
        simp [stepE, hnx] at e2
        have hp := flat_put s.2 j x (by rw [w.len]; exact hD)
        have hp2 : (s.2.set j (Lp.row s.2 j ++ [x])).flatten.Perm h2 := by
          rw [← e2]; exact hp.trans (List.Perm.append_right _ hk2)
        refine ⟨by show s.1 + 1 ≤ _; omega, by show (s.2.set _ _).length = n; rw [List.length_set]; exact w.len, mem_set_le w.row (by simp; omega), ?_, h2, r2, hp2⟩
        have hn2 := stepE_nd (hk2.nodup_iff.mp w.nd) (show stepE hk (true, x) = some h2 by simp [stepE, hnx, e2])
        exact hp2.nodup_iff.mpr hn2
      · cases hs
    · cases hs
  | out =>
    unfold stepD at hs
    dsimp only at hs
    split at hs
    · rename_i x he
      split at hs
      · rename_i i hi
        split at hs
        · rename_i hl
          cases hs
          obtain ⟨hlt, hx⟩ := List.getElem?_eq_some_iff.mp he
          obtain ⟨hil, _⟩ := findIdx_of hi
          obtain ⟨h2, e2, r2⟩ := runE_step hr hlt hk1
          rw [hx] at e2
          have hp := flat_pop s.2 i x hil hl
          have hmx : x ∈ hk := hk2.subset (hp.symm.subset List.mem_cons_self)
          simp [stepE, hmx] at e2
          have hp2 : (s.2.set i (Lp.row s.2 i).dropLast).flatten.Perm h2 := by
            rw [← e2]
            have h3 : (x :: (s.2.set i (Lp.row s.2 i).dropLast).flatten).Perm (x :: hk.erase x) := hp.symm.trans (hk2.trans (List.perm_cons_erase hmx))
            exact h3.cons_inv
          refine ⟨by show s.1 + 1 ≤ _; omega, by show (s.2.set _ _).length = n; rw [List.length_set]; exact w.len, mem_set_le w.row ?_, ?_, h2, r2, hp2⟩
          · rw [List.length_dropLast]; have := w.row _ (row_mem hil); omega
          · have hn2 := stepE_nd (hk2.nodup_iff.mp w.nd) (show stepE hk (false, x) = some h2 by simp [stepE, hmx, e2])
            exact hp2.nodup_iff.mpr hn2
        · cases hs
      · cases hs
    · cases hs
/-! the deeds that can be done, each with the state behind it -/
def outE (es : List (Bool × Nm)) (s : Sts) (j : Nat) : List (Deed × Sts) := match es[s.1]? with
  | some (false, x) => if (row s.2 j).getLast? = some x then [(.out, (s.1 + 1, s.2.set j (row s.2 j).dropLast))] else []
  | _ => []
def inE (h : Nat) (es : List (Bool × Nm)) (s : Sts) (j : Nat) : List (Deed × Sts) := match es[s.1]? with
  | some (true, x) => if (row s.2 j).length < h then [(.inn j, (s.1 + 1, s.2.set j (row s.2 j ++ [x])))] else []
  | _ => []
def shE (h : Nat) (s : Sts) (i j : Nat) : List (Deed × Sts) := match shiftP h s.2 i j with
  | some ss => [(.shift i j, (s.1, ss))]
  | none => []
def openL (h n : Nat) (es : List (Bool × Nm)) (s : Sts) : List (Deed × Sts) :=
  ((List.range n).flatMap fun j => outE es s j ++ inE h es s j) ++ (List.range n).flatMap fun i => (List.range n).flatMap fun j => shE h s i j
theorem nodup_row {ss : List (List Nm)} (hn : ss.flatten.Nodup) {i j : Nat} (hi : i < ss.length) (hj : j < ss.length) {x : Nm} (h1 : x ∈ ss[i]) (h2 : x ∈ ss[j]) : i = j := by
  induction ss generalizing i j with
  | nil => simp at hi
  | cons r ss ih =>
    rw [List.flatten_cons, List.nodup_append] at hn
    cases i with
    | zero =>
      cases j with
      | zero => rfl
      | succ j =>
        exfalso
        simp at h1 h2 hj
        exact hn.2.2 x h1 x (List.mem_flatten.mpr ⟨_, List.getElem_mem hj, h2⟩) rfl
    | succ i =>
      cases j with
      | zero =>
        exfalso
        simp at h1 h2 hi
        exact hn.2.2 x h2 x (List.mem_flatten.mpr ⟨_, List.getElem_mem hi, h1⟩) rfl
      | succ j =>
        simp at h1 h2 hi hj
        exact congrArg (· + 1) (ih hn.2.1 hi hj h1 h2)
theorem findIdx_at {ss : List (List Nm)} (hn : ss.flatten.Nodup) {j : Nat} (hj : j < ss.length) {x : Nm} (hx : x ∈ ss[j]) : (ss.findIdx? fun r => decide (x ∈ r)) = some j := by
  cases hq : ss.findIdx? fun r => decide (x ∈ r) with
  | none =>
    rw [List.findIdx?_eq_none_iff] at hq
    have := hq _ (List.getElem_mem hj)
    simp [hx] at this
  | some i =>
    obtain ⟨hi, h1⟩ := findIdx_of hq
    rw [nodup_row hn hi hj (of_decide_eq_true h1) hx]
theorem last_mem {α : Type} {l : List α} {x : α} (h : l.getLast? = some x) : x ∈ l := List.mem_of_getLast? h
/-- the entries tell what is done -/
theorem open_step (w : WF h n ss0 es s) {e : Deed × Sts} (he : e ∈ openL h n es s) : validD n e.1 ∧ stepD h es s e.1 = some e.2 := by
  have hw := w.len
  unfold openL at he
  rcases List.mem_append.mp he with he | he
  · obtain ⟨j, hj, he⟩ := List.mem_flatMap.mp he
    have hjn := List.mem_range.mp hj
    rcases List.mem_append.mp he with he | he
    · unfold outE at he
      split at he
      · rename_i x hx
        split at he
        · rename_i hl
          rw [List.mem_singleton.mp he]
          refine ⟨trivial, ?_⟩
          have hjl : j < s.2.length := by omega
          have hf := findIdx_at w.nd hjl (x := x) (by rw [← row_lt hjl]; exact last_mem hl)
          simp [stepD, hx, hf, hl]
        · simp at he
      · simp at he
    · unfold inE at he
      split at he
      · rename_i x hx
        split at he
        · rename_i hl
          rw [List.mem_singleton.mp he]
          exact ⟨hjn, by simp [stepD, hx, hl]⟩
        · simp at he
      · simp at he
  · obtain ⟨i, hi, he⟩ := List.mem_flatMap.mp he
    obtain ⟨j, hj, he⟩ := List.mem_flatMap.mp he
    unfold shE at he
    split at he
    · rename_i ss hq
      rw [List.mem_singleton.mp he]
      exact ⟨⟨List.mem_range.mp hi, List.mem_range.mp hj⟩, by simp [stepD, hq]⟩
    · simp at he
theorem step_open (w : WF h n ss0 es s) {D : Deed} (hD : validD n D) (hs : stepD h es s D = some s') : (D, s') ∈ openL h n es s := by
  have hw := w.len
  unfold openL
  cases D with
  | shift i j =>
    refine List.mem_append_right _ (List.mem_flatMap.mpr ⟨i, List.mem_range.mpr hD.1, List.mem_flatMap.mpr ⟨j, List.mem_range.mpr hD.2, ?_⟩⟩)
    unfold stepD at hs
    dsimp only at hs
    unfold shE
    cases hq : shiftP h s.2 i j with
    | none => rw [hq] at hs; cases hs
    | some ss => rw [hq] at hs; cases hs; simp
  | inn j =>
    refine List.mem_append_left _ (List.mem_flatMap.mpr ⟨j, List.mem_range.mpr hD, List.mem_append_right _ ?_⟩)
    unfold stepD at hs
    dsimp only at hs
    unfold inE
    split at hs
    · rename_i x hx
      split at hs
      · rename_i hl
        cases hs
        simp [hl]
      · cases hs
    · cases hs
  | out =>
    unfold stepD at hs
    dsimp only at hs
    split at hs
    · rename_i x hx
      split at hs
      · rename_i i hi
        split at hs
        · rename_i hl
          cases hs
          obtain ⟨hil, _⟩ := findIdx_of hi
          refine List.mem_append_left _ (List.mem_flatMap.mpr ⟨i, List.mem_range.mpr (by omega), List.mem_append_left _ ?_⟩)
          unfold outE
          simp [hx, hl]
        · cases hs
      · cases hs
    · cases hs
/-- looked up in them -/
theorem open_find (w : WF h n ss0 es s) {D : Deed} (hD : validD n D) : ((openL h n es s).find? fun e => decide (e.1 = D)).map (·.2) = stepD h es s D := by
  cases hq : (openL h n es s).find? fun e => decide (e.1 = D) with
  | none =>
    cases hs : stepD h es s D with
    | none => rfl
    | some s' =>
      have := List.find?_eq_none.mp hq _ (step_open w hD hs)
      simp at this
  | some e =>
    have h1 := List.mem_of_find?_eq_some hq
    have h2 := List.find?_some hq
    have h3 : e.1 = D := of_decide_eq_true h2
    rw [← h3, (open_step w h1).2]
    rfl
/-! values read as deeds -/
def asDeed (n : Nat) : PV → Option Deed
  | .tup [.str w] => if w = ("out" : Str) then some .out else none
  | .tup [.str w, .int j] => if w = ("in" : Str) ∧ 0 ≤ j ∧ j < n then some (.inn j.toNat) else none
  | .tup [.str w, .int i, .int j] => if w = ("shift" : Str) ∧ (0 ≤ i ∧ i < n) ∧ (0 ≤ j ∧ j < n) then some (.shift i.toNat j.toNat) else none
  | _ => none
theorem asDeed_valid {n : Nat} {p : PV} {D : Deed} (h : asDeed n p = some D) : validD n D ∧ p = deedV D := by
  unfold asDeed at h
  split at h
  · split at h
    · cases h; rename_i e; rw [e]; exact ⟨trivial, rfl⟩
    · cases h
  · split at h
    · cases h; rename_i e; rw [e.1]
      refine ⟨by show Int.toNat _ < n; omega, ?_⟩
      simp only [deedV]
      rw [Int.toNat_of_nonneg e.2.1]
    · cases h
  · split at h
    · cases h; rename_i e; rw [e.1]
      refine ⟨⟨by omega, by omega⟩, ?_⟩
      simp only [deedV]
      rw [Int.toNat_of_nonneg e.2.1.1, Int.toNat_of_nonneg e.2.2.1]
    · cases h
  · cases h
theorem asDeed_deedV {n : Nat} {D : Deed} (h : validD n D) : asDeed n (deedV D) = some D := by
  cases D with
  | shift i j =>
    obtain ⟨a, b⟩ := h
    simp [asDeed, deedV, a, b]
  | inn j =>
    have a : j < n := h
    simp [asDeed, deedV, a]
  | out => simp [asDeed, deedV]
theorem deedV_inj {D E : Deed} (h : deedV D = deedV E) : D = E := by
  cases D <;> cases E <;> simp [deedV] at h <;> simp
  · omega
  · omega
/-- any value done at a state -/
def doneP (h n : Nat) (es : List (Bool × Nm)) (s : Sts) (p : PV) : Option Sts := (asDeed n p).bind (stepD h es s)
def ostV : Option Sts → PV
  | some s => stV s
  | none => .non
end Lp
end
section
set_option Elab.async false
set_option linter.all false
set_option maxRecDepth 100000
namespace Lp
open PySem PySem.Spec L2
/-! == of plain data without bools -/
def dat : Nat → PV → Prop
  | _, .non => True
  | _, .int _ => True
  | _, .str x => sok x
  | k + 1, .tup ps => ∀ p ∈ ps, dat k p
  | k + 1, .lst ps => ∀ p ∈ ps, dat k p
  | _, _ => False
theorem toDs_of {ps : List PV} {k : Nat} (h : ∀ p ∈ ps, ∃ d, p.toD = some d ∧ d.canLay0 = true ∧ d.depth ≤ k) : ∃ ds, toDs ps = some ds ∧ PyData.canLayAll0 ds = true ∧ PyData.depthAll ds ≤ k ∧ ds.length = ps.length ∧ ∀ (i : Nat) (h1 : i < ps.length) (h2 : i < ds.length), ps[i].toD = some ds[i] := by
  induction ps with
  | nil => exact ⟨[], rfl, rfl, Nat.zero_le _, rfl, fun i h1 => by simp at h1⟩
  | cons p ps ih =>
    obtain ⟨d, e1, e2, e3⟩ := h p List.mem_cons_self
    obtain ⟨ds, f1, f2, f3, f4, f5⟩ := ih fun q hq => h q (List.mem_cons_of_mem _ hq)
    refine ⟨d :: ds, by rw [toDs, e1, f1], by rw [PyData.canLayAll0, e2, f2]; rfl, ?_, by simp [f4], fun i h1 h2 => ?_⟩
    · show max d.depth (PyData.depthAll ds) ≤ k
      omega
    · cases i with
      | zero => exact e1
      | succ i => exact f5 i (by simpa using h1) (by simpa using h2)
theorem dat_toD : ∀ {k : Nat} {p : PV}, dat k p → ∃ d, p.toD = some d ∧ d.canLay0 = true ∧ d.depth ≤ k := by
  intro k
  induction k with
  | zero =>
    intro p h
    cases p <;> first | exact h.elim | skip
    · exact ⟨_, rfl, rfl, Nat.le_refl _⟩
    · exact ⟨_, rfl, rfl, Nat.le_refl _⟩
    · exact ⟨_, rfl, h, Nat.le_refl _⟩
  | succ k ih =>
    intro p h
    cases p <;> first | exact h.elim | skip
    · exact ⟨_, rfl, rfl, Nat.zero_le _⟩
    · exact ⟨_, rfl, rfl, Nat.zero_le _⟩
    · exact ⟨_, rfl, h, Nat.zero_le _⟩
    · obtain ⟨ds, f1, f2, f3, _⟩ := toDs_of fun p hp => ih (h p hp)
      exact ⟨.tuple ds, by rw [PV.toD, f1]; rfl, f2, by show PyData.depthAll ds + 1 ≤ k + 1; omega⟩
    · obtain ⟨ds, f1, f2, f3, _⟩ := toDs_of fun p hp => ih (h p hp)
      exact ⟨.list ds, by rw [PV.toD, f1]; rfl, f2, by show PyData.depthAll ds + 1 ≤ k + 1; omega⟩
theorem eqvAll_of : ∀ {ps qs : List PV} {ds es : List PyData}, toDs ps = some ds → toDs qs = some es → (∀ p ∈ ps, ∀ q ∈ qs, ∀ d e, p.toD = some d → q.toD = some e → (PyData.eqv d e = true ↔ p = q)) → (PyData.eqvAll ds es = true ↔ ps = qs)
  | [], [], ds, es, h1, h2, _ => by cases h1; cases h2; simp [PyData.eqvAll]
  | [], q :: qs, ds, es, h1, h2, _ => by
    cases h1
    obtain ⟨d, ds', _, _, rfl⟩ := toDs_cons h2
    simp [PyData.eqvAll]
  | p :: ps, [], ds, es, h1, h2, _ => by
    cases h2
    obtain ⟨d, ds', _, _, rfl⟩ := toDs_cons h1
    simp [PyData.eqvAll]
  | p :: ps, q :: qs, ds, es, h1, h2, h => by
    obtain ⟨d, ds', a1, a2, rfl⟩ := toDs_cons h1
    obtain ⟨e, es', b1, b2, rfl⟩ := toDs_cons h2
    have ih := eqvAll_of a2 b2 fun p' hp q' hq => h p' (List.mem_cons_of_mem _ hp) q' (List.mem_cons_of_mem _ hq)
    rw [PyData.eqvAll, Bool.and_eq_true, ih, h p List.mem_cons_self q List.mem_cons_self d e a1 b1]
    simp
theorem eqv_iff : ∀ {k : Nat} {p q : PV} {d e : PyData}, dat k p → dat k q → p.toD = some d → q.toD = some e → (PyData.eqv d e = true ↔ p = q) := by
  intro k
  induction k with
  | zero =>
    intro p q d e hp hq h1 h2
    cases p <;> first | exact hp.elim | skip
    all_goals cases q <;> first | exact hq.elim | skip
    all_goals (cases h1; cases h2; simp [PyData.eqv])
  | succ k ih =>
    intro p q d e hp hq h1 h2
    have tl : ∀ {ps : List PV}, dat (k + 1) (.tup ps) → ∃ ds, toDs ps = some ds := fun {ps} h => by
      obtain ⟨ds, f1, _⟩ := toDs_of (k := k) fun p hp => dat_toD (h p hp)
      exact ⟨ds, f1⟩
    have ll : ∀ {ps : List PV}, dat (k + 1) (.lst ps) → ∃ ds, toDs ps = some ds := fun {ps} h => by
      obtain ⟨ds, f1, _⟩ := toDs_of (k := k) fun p hp => dat_toD (h p hp)
      exact ⟨ds, f1⟩
    have flatC : ∀ p q : PV, dat (k + 1) p → dat (k + 1) q → p.toD = some d → q.toD = some e → (∀ ps, p ≠ .tup ps) → (∀ ps, p ≠ .lst ps) → (PyData.eqv d e = true ↔ p = q) := by
      intro p q hp hq h1 h2 n1 n2
      have hT : ∀ {ps : List PV} {d : PyData}, (PV.tup ps).toD = some d → ∃ ds, d = .tuple ds := fun {ps d} h => by
        rw [PV.toD] at h
        cases hq : toDs ps with
        | none => rw [hq] at h; cases h
        | some ds => rw [hq] at h; cases h; exact ⟨ds, rfl⟩
      have hL : ∀ {ps : List PV} {d : PyData}, (PV.lst ps).toD = some d → ∃ ds, d = .list ds := fun {ps d} h => by
        rw [PV.toD] at h
        cases hq : toDs ps with
        | none => rw [hq] at h; cases h
        | some ds => rw [hq] at h; cases h; exact ⟨ds, rfl⟩
      cases p with
      | non => cases q with
        | tup qs => obtain ⟨es, rfl⟩ := hT h2; cases h1; simp [PyData.eqv]
        | lst qs => obtain ⟨es, rfl⟩ := hL h2; cases h1; simp [PyData.eqv]
        | non => cases h1; cases h2; simp [PyData.eqv]
        | int i => cases h1; cases h2; simp [PyData.eqv]
        | str i => cases h1; cases h2; simp [PyData.eqv]
        | _ => exact hq.elim
      | int i => cases q with
        | tup qs => obtain ⟨es, rfl⟩ := hT h2; cases h1; simp [PyData.eqv]
        | lst qs => obtain ⟨es, rfl⟩ := hL h2; cases h1; simp [PyData.eqv]
        | non => cases h1; cases h2; simp [PyData.eqv]
        | int i => cases h1; cases h2; simp [PyData.eqv]
        | str i => cases h1; cases h2; simp [PyData.eqv]
        | _ => exact hq.elim
      | str i => cases q with
        | tup qs => obtain ⟨es, rfl⟩ := hT h2; cases h1; simp [PyData.eqv]
        | lst qs => obtain ⟨es, rfl⟩ := hL h2; cases h1; simp [PyData.eqv]
        | non => cases h1; cases h2; simp [PyData.eqv]
        | int i => cases h1; cases h2; simp [PyData.eqv]
        | str i => cases h1; cases h2; simp [PyData.eqv]
        | _ => exact hq.elim
      | tup ps => exact absurd rfl (n1 ps)
      | lst ps => exact absurd rfl (n2 ps)
      | _ => exact hp.elim
    cases p with
    | tup ps =>
      obtain ⟨ds, f1⟩ := tl hp
      rw [PV.toD, f1] at h1
      cases h1
      cases q with
      | tup qs =>
        obtain ⟨es, f2⟩ := tl hq
        rw [PV.toD, f2] at h2
        cases h2
        rw [PyData.eqv, eqvAll_of f1 f2 fun p' hp' q' hq' d e h1 h2 => ih (hp p' hp') (hq q' hq') h1 h2]
        simp
      | lst qs =>
        obtain ⟨es, f2⟩ := ll hq
        rw [PV.toD, f2] at h2
        cases h2
        simp [PyData.eqv]
      | non => cases h2; simp [PyData.eqv]
      | int i => cases h2; simp [PyData.eqv]
      | str i => cases h2; simp [PyData.eqv]
      | _ => exact hq.elim
    | lst ps =>
      obtain ⟨ds, f1⟩ := ll hp
      rw [PV.toD, f1] at h1
      cases h1
      cases q with
      | lst qs =>
        obtain ⟨es, f2⟩ := ll hq
        rw [PV.toD, f2] at h2
        cases h2
        rw [PyData.eqv, eqvAll_of f1 f2 fun p' hp' q' hq' d e h1 h2 => ih (hp p' hp') (hq q' hq') h1 h2]
        simp
      | tup qs =>
        obtain ⟨es, f2⟩ := tl hq
        rw [PV.toD, f2] at h2
        cases h2
        simp [PyData.eqv]
      | non => cases h2; simp [PyData.eqv]
      | int i => cases h2; simp [PyData.eqv]
      | str i => cases h2; simp [PyData.eqv]
      | _ => exact hq.elim
    | _ => exact flatC _ q hp hq h1 h2 (by intro ps h; cases h) (by intro ps h; cases h)
open Classical in
theorem pEq_dat {k : Nat} {p q : PV} (hk : k ≤ 60) (hp : dat k p) (hq : dat k q) : pEq p q = some (.bl (decide (p = q))) := by
  obtain ⟨d, d1, d2, d3⟩ := dat_toD hp
  obtain ⟨e, e1, e2, e3⟩ := dat_toD hq
  have hs : (SeqAt.shaped d && SeqAt.shaped e) = true := by
    unfold SeqAt.shaped
    rw [d2, e2, decide_eq_true (by omega), decide_eq_true (by omega)]
    rfl
  unfold pEq eqB
  rw [d1, e1]
  dsimp only
  rw [if_pos hs]
  have := eqv_iff hp hq d1 e1
  by_cases h : p = q
  · rw [this.mpr h, decide_eq_true h]; rfl
  · have : PyData.eqv d e = false := by
      cases hc : PyData.eqv d e with
      | false => rfl
      | true => exact absurd (this.mp hc) h
    rw [this, decide_eq_false h]; rfl
open Classical in
theorem pNe_dat {k : Nat} {p q : PV} (hk : k ≤ 60) (hp : dat k p) (hq : dat k q) : pNe p q = some (.bl (!decide (p = q))) := by
  have h := pEq_dat hk hp hq
  unfold pEq at h
  unfold pNe
  cases hb : eqB p q with
  | none => rw [hb] at h; cases h
  | some b =>
    rw [hb] at h
    simp only [Option.map_some, Option.some.injEq, PV.bl.injEq] at h
    rw [← h]; rfl
open Classical in
theorem pEq_yes {k : Nat} {p q : PV} (hk : k ≤ 60) (hp : dat k p) (hq : dat k q) (h : p = q) : pEq p q = some (.bl true) := by
  rw [pEq_dat hk hp hq, decide_eq_true h]
open Classical in
theorem pEq_no {k : Nat} {p q : PV} (hk : k ≤ 60) (hp : dat k p) (hq : dat k q) (h : p ≠ q) : pEq p q = some (.bl false) := by
  rw [pEq_dat hk hp hq, decide_eq_false h]
open Classical in
theorem pNe_yes {k : Nat} {p q : PV} (hk : k ≤ 60) (hp : dat k p) (hq : dat k q) (h : p ≠ q) : pNe p q = some (.bl true) := by
  rw [pNe_dat hk hp hq, decide_eq_false h]; rfl
open Classical in
theorem pNe_no {k : Nat} {p q : PV} (hk : k ≤ 60) (hp : dat k p) (hq : dat k q) (h : p = q) : pNe p q = some (.bl false) := by
  rw [pNe_dat hk hp hq, decide_eq_true h]; rfl
theorem dat_nm (k : Nat) (x : Nm) : dat k (nm x) := by cases k <;> exact sok_tx x
theorem dat_stk (k : Nat) (l : List Nm) : dat (k + 1) (stk l) := fun p hp => by
  obtain ⟨x, _, rfl⟩ := List.mem_map.mp hp
  exact dat_nm k x
open Classical in
/-- in, among data -/
theorem pInD_dat {k : Nat} {n : Bool} {p : PV} {ys : List PV} (hk : k ≤ 50) (hp : dat k p) (hy : ∀ y ∈ ys, dat k y) : pInD n p (.lst ys) = some (.bl (n ^^ decide (p ∈ ys))) := by
  obtain ⟨d, d1, d2, d3⟩ := dat_toD hp
  obtain ⟨ds, f1, f2, f3, f4, f5⟩ := toDs_of (k := k) fun y h => dat_toD (hy y h)
  have hs : (SeqAt.shaped d && SeqAt.shaped (.list ds)) = true := by
    have h2 : (PyData.list ds).canLay0 = true := f2
    have h3 : (PyData.list ds).depth ≤ 64 := by show PyData.depthAll ds + 1 ≤ 64; omega
    unfold SeqAt.shaped
    rw [d2, h2, decide_eq_true (by omega), decide_eq_true h3]
    rfl
  unfold pInD
  rw [d1]
  dsimp only
  rw [f1]
  dsimp only
  rw [if_pos hs]
  have : (ds.any fun z => PyData.eqv z d) = decide (p ∈ ys) := by
    by_cases h : p ∈ ys
    · rw [decide_eq_true h, List.any_eq_true]
      obtain ⟨i, hi, e⟩ := List.mem_iff_getElem.mp h
      refine ⟨ds[i]'(by omega), List.getElem_mem _, ?_⟩
      exact (eqv_iff (hy _ (List.getElem_mem hi)) hp (f5 i hi (by omega)) d1).mpr e
    · rw [decide_eq_false h]
      refine List.any_eq_false.mpr fun z hz hc => ?_
      obtain ⟨i, hi, rfl⟩ := List.mem_iff_getElem.mp hz
      have hi2 : i < ys.length := by omega
      have := (eqv_iff (hy _ (List.getElem_mem hi2)) hp (f5 i hi2 hi) d1).mp hc
      exact h (this ▸ List.getElem_mem hi2)
  rw [this]
open Classical in
/-- in a tuple -/
theorem pInD_datT {k : Nat} {n : Bool} {p : PV} {ys : List PV} (hk : k ≤ 50) (hp : dat k p) (hy : ∀ y ∈ ys, dat k y) : pInD n p (.tup ys) = some (.bl (n ^^ decide (p ∈ ys))) := by
  obtain ⟨d, d1, d2, d3⟩ := dat_toD hp
  obtain ⟨ds, f1, f2, f3, f4, f5⟩ := toDs_of (k := k) fun y h => dat_toD (hy y h)
  have hs : (SeqAt.shaped d && SeqAt.shaped (.list ds)) = true := by
    have h2 : (PyData.list ds).canLay0 = true := f2
    have h3 : (PyData.list ds).depth ≤ 64 := by show PyData.depthAll ds + 1 ≤ 64; omega
    unfold SeqAt.shaped
    rw [d2, h2, decide_eq_true (by omega), decide_eq_true h3]
    rfl
  unfold pInD
  rw [d1]
  dsimp only
  rw [f1]
  dsimp only
  rw [if_pos hs]
  have : (ds.any fun z => PyData.eqv z d) = decide (p ∈ ys) := by
    by_cases h : p ∈ ys
    · rw [decide_eq_true h, List.any_eq_true]
      obtain ⟨i, hi, e⟩ := List.mem_iff_getElem.mp h
      refine ⟨ds[i]'(by omega), List.getElem_mem _, ?_⟩
      exact (eqv_iff (hy _ (List.getElem_mem hi)) hp (f5 i hi (by omega)) d1).mpr e
    · rw [decide_eq_false h]
      refine List.any_eq_false.mpr fun z hz hc => ?_
      obtain ⟨i, hi, rfl⟩ := List.mem_iff_getElem.mp hz
      have hi2 : i < ys.length := by omega
      have := (eqv_iff (hy _ (List.getElem_mem hi2)) hp (f5 i hi2 hi) d1).mp hc
      exact h (this ▸ List.getElem_mem hi2)
  rw [this]
theorem step_nx {g : PV → LE → Res LE} {body : LE → Fl} {τ X Y : LE} {p : PV} {I B : LE → Prop} {R : PV → Prop} {E} (h2 : body X = .nx Y) (h1 : g p τ = .ok X) (h3 : I Y) : ∃ τ1, g p τ = .ok τ1 ∧ (body τ1).sat { nx := I, ct := I, bk := B, rt := R, ex := E } :=
  ⟨X, h1, by rw [h2]; exact h3⟩
theorem forR_sat {α : Type} {D : Pst} {g : PV → LE → Res LE} {body : LE → Fl} {τ : LE} (xs : List α) (enc : α → PV) (I : Nat → LE → Prop) (h0 : I 0 τ)
    (hs : ∀ k (hk : k < xs.length) τ, I k τ → ∃ τ1, g (enc xs[k]) τ = .ok τ1 ∧ (body τ1).sat { nx := I (k + 1), ct := I (k + 1), bk := D.nx, rt := D.rt, ex := D.ex })
    (he : ∀ τ, I xs.length τ → D.nx τ) : (forL g body (xs.map enc) τ).sat D :=
  for_sat (it := fun _ => .ok (xs.map enc)) xs enc I rfl h0 hs he
theorem valP_set_same (d : List (Key × PV)) (k : Key) (v : PV) : valP (setP d k v) k = some v := by
  unfold setP
  by_cases h : hasP d k = true
  · rw [if_pos h]
    unfold valP
    induction d with
    | nil => simp [hasP] at h
    | cons kv d ih =>
      by_cases e : kv.1 = k
      · simp [e]
      · simp only [hasP, List.any_cons, e, decide_false, Bool.false_or] at h
        rw [List.map_cons, if_neg e, List.find?_cons_of_neg (by simpa using e)]
        exact ih h
  · rw [if_neg h]
    unfold valP
    have hn : d.find? (fun kv => decide (kv.1 = k)) = none := by
      rw [List.find?_eq_none]
      intro kv hkv
      simp only [hasP, List.any_eq_true, not_exists, not_and] at h
      exact h kv hkv
    rw [List.find?_append, hn]
    simp
theorem valP_set_ne (d : List (Key × PV)) {k j : Key} (v : PV) (h : j ≠ k) : valP (setP d k v) j = valP d j := by
  unfold setP
  split
  · rename_i hh
    clear hh
    unfold valP
    induction d with
    | nil => rfl
    | cons kv d ih =>
      rw [List.map_cons, List.find?_cons, List.find?_cons]
      by_cases e : kv.1 = k
      · have : ¬ kv.1 = j := fun e2 => h (e2.symm.trans e)
        rw [if_pos e]
        simp only [this, decide_false]
        exact ih
      · rw [if_neg e]
        by_cases e2 : kv.1 = j
        · simp [e2]
        · simp only [e2, decide_false]
          exact ih
  · unfold valP
    rw [List.find?_append]
    cases d.find? (fun kv => decide (kv.1 = j)) with
    | some x => rfl
    | none =>
      have : ¬ k = j := fun e => h e.symm
      simp [this]
end Lp
end
section
set_option Elab.async false
set_option linter.all false
set_option maxRecDepth 100000
namespace K10
open PySem PySem.Spec L2 Lp
variable {h n : Nat} {ss0 : List (List Nm)} {es : List (Bool × Nm)} {s : Sts}
@[simp] theorem at_yard (h ss es) : kAtt (fun c => c == 6) (Str.ofString "yard") (dayV h ss es) = .ok (yardV h ss) := by simp [dayV, List.lookup]
@[simp] theorem at_events (h ss es) : kAtt (fun c => c == 6) (Str.ofString "events") (dayV h ss es) = .ok (evsV es) := by simp [dayV, List.lookup]
@[simp] theorem at_height (h ss) : kAtt (fun c => c == 5) (Str.ofString "height") (yardV h ss) = .ok (.int (h : Nat)) := by simp [yardV, List.lookup]
@[simp] theorem at_stacks (h ss) : kAtt (fun c => c == 5) (Str.ofString "stacks") (yardV h ss) = .ok (stksV ss) := by simp [yardV, List.lookup]
theorem set_cut {α : Type} (l : List α) (i : Nat) (x : α) (h : i < l.length) : l.set i x = l.take i ++ x :: l.drop (i + 1) := by
  rw [List.set_eq_take_append_cons_drop, if_pos h]
theorem add_tup (xs ys : List PV) (h : xs.length + ys.length ≤ 100000) : pAddA (.tup xs) (.tup ys) = some (.tup (xs ++ ys)) := by
  have : xs.length + ys.length ≤ sizeLine := by rw [sizeLine_eq]; omega
  simp only [pAddA, orP, pAdd, if_pos this]
theorem row_at {ss : List (List Nm)} {i : Nat} (h : i < ss.length) : atI (ss.map stk) ((i : Nat) : Int) = some (stk (row ss i)) := by
  rw [atN, row_lt h]; simp [h]
theorem put_cut (ss : List (List Nm)) (i : Nat) (r : List Nm) (h : i < ss.length) (hl : ss.length ≤ 1000) : ∃ A B : List PV, cut (ss.map stk) none (some ((i : Nat) : Int)) = A ∧ cut (ss.map stk) (some (((i : Nat) : Int) + 1)) none = B ∧ A.length ≤ 1000 ∧ B.length ≤ 1000 ∧ A ++ [stk r] ++ B = (ss.set i r).map stk := by
  refine ⟨(ss.take i).map stk, (ss.drop (i + 1)).map stk, ?_, ?_, by simp; omega, by simp; omega, ?_⟩
  · rw [cut_lo _ (by omega), Int.toNat_natCast, List.map_take]
  · rw [cut_hi _ (by omega), show (((i : Nat) : Int) + 1).toNat = i + 1 by omega, List.map_drop]
  · rw [set_cut ss i r h]; simp
theorem last_at (r : List Nm) : pIx (stk r) (.int (-1)) = (r.getLast?).map nm := by
  show atI (r.map nm) (-1) = _
  rw [atLast, List.getLast?_map]
theorem ev_at {es : List (Bool × Nm)} {e : Nat} {b : Bool} {x : Nm} (he : es[e]? = some (b, x)) : pIx (evsV es) (.int (e : Nat)) = some (.tup [.str (if b = true then ("in" : Str) else ("out" : Str)), nm x]) := by
  show atI (es.map evV) _ = _
  rw [atN, List.getElem?_map, he]
  rfl
theorem evs_len (es : List (Bool × Nm)) : pLen [evsV es] = some (.int (es.length : Nat)) := by simp [evsV]
theorem idx_head (x : Nm) : ∀ (ss : List (List Nm)) (k : Nat), (((ss.zipIdx k).filter fun p => decide (x ∈ p.1)).map fun p => PV.int ((p.2 : Nat) : Int))[0]? = (ss.findIdx? fun r => decide (x ∈ r)).map fun i => PV.int ((i + k : Nat) : Int)
  | [], _ => rfl
  | r :: ss, k => by
    rw [List.zipIdx_cons, List.findIdx?_cons]
    by_cases hx : x ∈ r
    · simp [hx]
    · rw [List.filter_cons_of_neg (by simpa using hx), idx_head x ss (k + 1)]
      simp [hx, Option.map_map, Function.comp_def]
      congr 1
      funext i
      congr 1
      omega
theorem wf_some (w : WF h n ss0 es s) {x : Nm} (he : es[s.1]? = some (false, x)) (hrun : ∃ h', runE ss0.flatten es = some h') : ∃ i, (s.2.findIdx? fun r => decide (x ∈ r)) = some i ∧ i < s.2.length ∧ x ∈ row s.2 i := by
  obtain ⟨hk, hk1, hk2⟩ := w.box
  obtain ⟨h', hr⟩ := hrun
  obtain ⟨hlt, hx⟩ := List.getElem?_eq_some_iff.mp he
  obtain ⟨h2, e2, _⟩ := runE_step hr hlt hk1
  rw [hx] at e2
  have hm : x ∈ hk := by
    by_cases hm : x ∈ hk
    · exact hm
    · simp [stepE, hm] at e2
  obtain ⟨r, hr1, hr2⟩ := List.mem_flatten.mp (hk2.symm.subset hm)
  obtain ⟨i, hi, e⟩ := List.mem_iff_getElem.mp hr1
  refine ⟨i, findIdx_at w.nd hi (by rw [e]; exact hr2), hi, by rw [row_lt hi, e]; exact hr2⟩
theorem add_lst (xs ys : List PV) (h : xs.length + ys.length ≤ 100000) : pAddA (.lst xs) (.lst ys) = some (.lst (xs ++ ys)) := by
  have : xs.length + ys.length ≤ sizeLine := by rw [sizeLine_eq]; omega
  show (if _ then _ else _) = _
  rw [if_pos this]
end K10
end
section
set_option Elab.async false
set_option linter.all false
set_option maxRecDepth 100000
namespace K10
open PySem PySem.Spec L2 Lp
variable {h n : Nat} {ss0 : List (List Nm)} {es : List (Bool × Nm)} {s : Sts}
def pv1 : PV → Prop
  | .non => True
  | .bl _ => True
  | .int _ => True
  | .str x => sok x
  | .tup _ => True
  | .lst _ => True
  | _ => False
def pvd : PV → Prop
  | .tup ps => ps.length ≤ 1000 ∧ ∀ p ∈ ps, pv1 p
  | p => pv1 p
theorem isN_stV (s : Sts) : (stV s).isN = false := rfl
def seqOf : PV → Option (List PV)
  | .tup ps => some ps
  | .lst ps => some ps
  | _ => none
theorem wf_first {h : Nat} {ss : List (List Nm)} {es} (D : DayOk h ss es) : WF h ss.length ss es (0, ss) := ⟨by simp, rfl, D.row, D.nd, ss.flatten, rfl, List.Perm.refl _⟩
end K10
end
section
set_option Elab.async false
set_option linter.all false
set_option maxRecDepth 100000
set_option maxHeartbeats 1000000
namespace K10
open PySem PySem.Spec L2 Lp
theorem state_turn (x0 x1 x2 x3 x4 x5 x6 x10 x11 : Option PV) (l o : List Nm) (N : Int) (hN : 0 ≤ N ∧ N < 10000000) (hl : 0 < l.length) (hl2 : l.length ≤ 500) (ho : o.length ≤ 500) :
    ∃ (l' o' : List Nm) (N' : Int), lb__law_state_0 [x0, x1, x2, x3, x4, x5, x6, some (.lst (l.map nm)), some (.int N), some (.lst (o.map nm)), x10, x11] = .nx [x0, x1, x2, x3, x4, x5, x6, some (.lst (l'.map nm)), some (.int N'), some (.lst (o'.map nm)), x10, x11] ∧ l'.length + 1 = l.length ∧ o'.length = o.length + 1 ∧ (o' ++ l').Perm (o ++ l) ∧ (0 ≤ N' ∧ N' < 10000000) := by
  obtain ⟨k, hk, hkl⟩ := mod_nat (m := N) (n := l.length) hl
  have md := pMod_int (i := N) (j := (l.length : Nat)) (by omega)
  rw [hk] at md
  have hp := gPopAt_ok (l := l.map nm) (k := k) (by simpa using hkl) (by simp; omega)
  have hg : (l.map nm)[k]'(by simpa using hkl) = nm l[k] := by simp
  rw [hg, nm_eraseIdx] at hp
  have ha := gApp_s (ps := o.map nm) (q := nm l[k]) (by simp; omega)
  have hel : (l.eraseIdx k).length + 1 = l.length := by rw [List.length_eraseIdx_of_lt hkl]; omega
  have hj : (1 : Int) + ((l.eraseIdx k).length : Nat) = (l.length : Nat) := by omega
  have dv : pDivW (.int N) (.int ((l.length : Nat) : Int)) = some (.int (N / ((l.length : Nat) : Int))) := by
    show (if _ then _ else _) = _
    refine if_pos (CDivW_iff.mp ?_)
    rw [Bool.and_eq_true]
    refine ⟨decide_eq_true (by omega), ?_⟩
    rw [Nat.ble_eq]
    have : (Int.natAbs ((l.length : Nat) : Int)).log2 < 10 := by
      rw [Int.natAbs_natCast]
      exact (Nat.log2_lt (by omega)).mpr (by omega)
    omega
  refine ⟨l.eraseIdx k, o ++ [l[k]], N / ((l.length : Nat) : Int), ?_, hel, by simp, ?_, Int.ediv_nonneg hN.1 (by omega), ?_⟩
  · simp [lb__law_state_0, eMutM, kMutM, md, hp, ha, hj, dv]
  · rw [List.append_assoc]
    exact List.Perm.append_left o (perm_eraseIdx l k hkl)
  · exact Int.lt_of_le_of_lt (Int.ediv_le_self _ hN.1) hN.2
theorem law_state_ok {h : Nat} {ss : List (List Nm)} {es : List (Bool × Nm)} (D : DayOk h ss es) (ns : List Int) (k : Nat) (hfl : ss.flatten.length ≤ 10) (hel : es.length ≤ 12) :
    ∃ s : Sts, m__law_state (.scr ns) (.int (k : Nat)) (.int (h : Nat)) (stksV ss) (evsV es) = .ok (stV s) ∧ WF h ss.length ss es s := by
  have h5 := D.h5
  have c5 := D.c5
  have c1 := D.c1
  obtain ⟨ds, ed, dl, db⟩ := draws_ok ns k ([13, 3628800, 4] ++ List.replicate 12 5) (by decide) (by decide)
  obtain ⟨d0, d1, d2, dr, rfl⟩ : ∃ a b c r, ds = a :: b :: c :: r := by
    match ds, dl with
    | a :: b :: c :: r, _ => exact ⟨a, b, c, r, rfl⟩
  have b1 := db 1 (by simp) (by simp)
  simp at b1
  have hdr : dr.length = 12 := by simpa using dl
  obtain ⟨e, he, hle⟩ := mod_nat (m := d0) (n := es.length + 1) (by omega)
  have md : pMod (.int d0) (.int (1 + (es.length : Nat))) = some (.int ((e : Nat) : Int)) := by
    rw [pMod_int (by omega), show (1 + (es.length : Int)) = ((es.length + 1 : Nat) : Int) by omega, he]
  obtain ⟨h', hr⟩ := D.run
  obtain ⟨hk, hk1⟩ := runE_split hr e
  have hp := present_ok D.nd hr (by omega) (by omega) e hk1
  have hkl := runE_len hk1
  rw [List.length_take] at hkl
  have hln := evs_len es
  have hls : pLen [stksV ss] = some (.int (ss.length : Nat)) := by simp [stksV]
  have rep : pMulA (.lst [PV.int 5]) (.int 12) = some (.lst (List.replicate 12 (PV.int 5))) := by
    rw [pMulA_lst (xs := [PV.int 5]) (k := 12) ⟨by decide, by decide, by simp⟩]; rfl
  have c0 : pAddA (.lst [PV.int 13, .int 3628800, .int 4]) (.lst (List.replicate 12 (PV.int 5))) = some (.lst (([13, 3628800, 4] ++ List.replicate 12 (5 : Int)).map .int)) := rfl
  generalize ([13, 3628800, 4] ++ List.replicate 12 (5 : Int)).map PV.int = B at c0 ed
  generalize List.replicate 12 (PV.int 5) = R at rep c0
  have ed : m__law_draws (.scr ns) (.int (k : Nat)) (.lst B) = .ok (.lst (.int d0 :: .int d1 :: .int d2 :: dr.map .int)) := ed
  have sl : pSlA (.lst (.int d0 :: .int d1 :: .int d2 :: dr.map .int)) (some 3) none = some (.lst (dr.map .int)) := by
    rw [pSlA_lst, cut_hi _ (by decide)]; rfl
  have i1 : atI (.int d0 :: .int d1 :: .int d2 :: dr.map PV.int) 0 = some (.int d0) := atN _ 0
  have i2 : atI (.int d0 :: .int d1 :: .int d2 :: dr.map PV.int) 1 = some (.int d1) := atN _ 1
  have i3 : atI (.int d0 :: .int d1 :: .int d2 :: dr.map PV.int) 2 = some (.int d2) := atN _ 2
  generalize (PV.int d0 :: .int d1 :: .int d2 :: dr.map PV.int) = DD at ed sl i1 i2 i3
  have hrr := pR1_le hk.length (by omega)
  have w0 := wf_first D
  have nk := runE_nd D.nd hk1
  have main : ∀ P : PV → Prop, (∀ s : Sts, WF h ss.length ss es s → P (stV s)) →
      (b__law_state [some (.scr ns), some (.int (k : Nat)), some (.int (h : Nat)), some (stksV ss), some (evsV es), none, none, none, none, none, none, none]).sat { rt := P } := by
    intro P hP
    have hP0 : P (.tup [.int 0, stksV ss]) := hP (0, ss) w0
    simp [b__law_state, rep, c0, ed, i1, i2, md, hln, hp]
    rw [sFor_of (ps := (List.range hk.length).map fun i => .int (i : Nat)) (by simp [hrr])]
    refine sat_next (forR_sat (List.range hk.length) (fun i => .int (i : Nat)) (fun t τ => ∃ (l o : List Nm) (N : Int) (x10 : Option PV), τ = [some (.scr ns), some (.int (k : Nat)), some (.int (h : Nat)), some (stksV ss), some (evsV es), some (.lst DD), some (.int ((e : Nat) : Int)), some (.lst (l.map nm)), some (.int N), some (.lst (o.map nm)), x10, none] ∧ l.length + t = hk.length ∧ o.length = t ∧ (o ++ l).Perm hk ∧ (0 ≤ N ∧ N < 10000000)) ⟨hk, [], d1, none, rfl, by simp, rfl, List.Perm.refl _, by omega, by omega⟩ ?_ ?_)
    · rintro t ht τ ⟨l, o, N, x10, rfl, h1, h2, h3, h4⟩
      simp only [List.length_range] at ht
      rw [List.getElem_range]
      obtain ⟨l', o', N', e1, g1, g2, g3, g4⟩ := state_turn (some (.scr ns)) (some (.int (k : Nat))) (some (.int (h : Nat))) (some (stksV ss)) (some (evsV es)) (some (.lst DD)) (some (.int ((e : Nat) : Int))) (some (.int (t : Nat))) none l o N h4 (by omega) (by omega) (by omega)
      exact step_nx e1 rfl ⟨l', o', N', _, rfl, by omega, by omega, g3.trans h3, g4⟩
    · rintro τ ⟨l, o, N, x10, rfl, h1, h2, h3, h4⟩
      rw [List.length_range] at h1 h2
      have hl0 : l = [] := List.length_eq_zero_iff.mp (by omega)
      subst hl0
      rw [List.append_nil] at h3
      have mz := pMulA_lst (xs := [PV.int 0]) (k := ((o.length : Nat) : Int)) ⟨by omega, by omega, by simp⟩
      have cp : pAddA (.lst (dr.map PV.int)) (.lst (List.replicate ((o.length : Nat) : Int).toNat [PV.int 0]).flatten) = some (.lst ((dr ++ List.replicate o.length 0).map .int)) := by
        have e0 : (List.replicate ((o.length : Nat) : Int).toNat [PV.int 0]).flatten = (List.replicate o.length (0 : Int)).map .int := by simp
        rw [e0]
        have : (dr.map PV.int).length + ((List.replicate o.length (0 : Int)).map PV.int).length ≤ sizeLine := by rw [sizeLine_eq]; simp; omega
        unfold pAddA orP
        show (match (none : Option PV) with | some z => some z | none => pCat (.lst _) (.lst _)) = _
        rw [List.map_append]
        exact if_pos this
      generalize (List.replicate ((o.length : Nat) : Int).toNat [PV.int 0]).flatten = Z at mz cp
      have hst := stackedX_ok o (dr ++ List.replicate o.length 0) ss.length h (by omega) (by omega) (by omega) (by omega) (by simp)
      rcases hst with hst | ⟨s2, hst, g1, g2, g3⟩
      · simp [sl, mz, cp, hls, hst, i3, -List.map_append]
        exact hP0
      · have hw : WF h ss.length ss es (e, s2) := ⟨by omega, g1, g2, (g3.trans h3).nodup_iff.mpr nk, hk, hk1, g3.trans h3⟩
        have hP2 : P (.tup [.int ((e : Nat) : Int), stksV s2]) := hP (e, s2) hw
        simp [sl, mz, cp, hls, hst, i3, isN_stks, -List.map_append]
        split
        · exact hP0
        · exact hP2
  obtain ⟨v, hv, s, rfl, hw⟩ := fin_sat (rm := .sh) (main (fun v => ∃ s, v = stV s ∧ WF h ss.length ss es s) fun s hw => ⟨s, rfl, hw⟩)
  exact ⟨s, hv, hw⟩
end K10
end
section
set_option Elab.async false
set_option linter.all false
set_option maxRecDepth 100000
set_option maxHeartbeats 1000000
namespace K10
open PySem PySem.Spec L2 Lp
/-! the boxes that are there, as the program reckons -/
def srtV (l : List Nm) : PV := .tup ((srt (l.map tx)).map .str)
theorem list_th (l : List Nm) : pListD [thD l] = some (.lst ((l.map tx).map .str)) := by
  simp [thD, pListD, keyPV, Function.comp_def]
theorem sort_names (l : List Nm) (h : l.length < 64) : pSort [.lst ((l.map tx).map .str)] = some (.lst ((srt (l.map tx)).map .str)) := by
  unfold pSort
  simp only [strsOf_map]
  rw [if_pos (by simpa using h)]
theorem boxes_at_ok {h : Nat} {ss : List (List Nm)} {es : List (Bool × Nm)} (D : DayOk h ss es) (k : Nat) (hke : k ≤ es.length) {hk : List Nm} (hk1 : runE ss.flatten (es.take k) = some hk) :
    m_boxes_at (dayV h ss es) (.int (k : Nat)) = .ok (srtV hk) := by
  have hlen := D.len
  have hall := D.all
  have hb := boxes_of_ok h ss (by omega)
  have hn0 := is_number_nat k
  have hln := evs_len es
  have sl : pSlA (evsV es) none (some ((k : Nat) : Int)) = some (.tup ((es.take k).map evV)) := by
    show pSlA (.tup _) _ _ = _
    rw [pSlA_tup, cut_lo _ (by omega), Int.toNat_natCast, List.map_take]
  have l1 : lc_boxes_at_0 [some (dayV h ss es), some (.int (k : Nat)), none, none, none] = .ok (thD ss.flatten) := by
    have := dcomp_map (own := [4]) (it := iSeq (eFn (ar1 m_boxes_of) (aCons (eAtt (fun c => c == 6) ("yard" : Str) (eVar 0)) aNil))) (tgt := gNm 4) (cond := tYesM) (ek := eVar 4) (ev := eC (.bl true)) (τ := [some (dayV h ss es), some (.int (k : Nat)), none, none, none]) ss.flatten nm nm (fun x => Sum.inr (tx x)) (fun _ => .bl true) (fun x => rfl) (by simp [hb, -List.map_flatten]) (fun x _ => by simp [dItem, wipeL])
    rw [foldl_setP _ _ _ _ (by
      unfold List.Nodup
      rw [List.pairwise_map]
      exact D.nd.imp fun h e => h (tx_inj (Sum.inr.inj e))) (by simp)] at this
    exact this
  have hkl := runE_len hk1
  rw [List.length_take] at hkl
  have hlk : (es.take k).length ≤ 12 := by rw [List.length_take]; omega
  have hnot : ¬ ((es.length : Int) < (k : Int)) := by omega
  generalize es.take k = fs at sl hk1 hlk
  have main : ∀ P : PV → Prop, P (srtV hk) → (b_boxes_at [some (dayV h ss es), some (.int (k : Nat)), none, none, none]).sat { rt := P } := by
    intro P hP
    simp [b_boxes_at, hn0, hln, hnot, l1]
    refine sat_next (for_sat fs evV (fun j τ => ∃ hj x3 x4, τ = [some (dayV h ss es), some (.int (k : Nat)), some (thD hj), x3, x4] ∧ runE ss.flatten (fs.take j) = some hj ∧ hj.Nodup ∧ hj.length ≤ 1000 + j) (by simp [sl]) ⟨ss.flatten, none, none, rfl, rfl, D.nd, by omega⟩ ?_ ?_)
    · rintro j hj τ ⟨hh, x3, x4, rfl, hr, hn, hhl⟩
      obtain ⟨h2, e2, r2⟩ := runE_step hk1 hj hr
      have n2 := stepE_nd hn e2
      have l2 := stepE_len e2
      obtain ⟨⟨b, x⟩, hbx⟩ : ∃ e, fs[j] = e := ⟨_, rfl⟩
      rw [hbx] at e2 ⊢
      have hlx : (hh.map fun x => ((Sum.inr (tx x) : Key), PV.bl true)).length < 1000000 := by rw [List.length_map]; omega
      have hp := hasP_th hh x
      have q1 := pEq_str (sok_ofS "in") (sok_ofS "in")
      have q2 := pEq_str (sok_ofS "out") (sok_ofS "in")
      cases b
      · have hx : x ∈ hh := by
          by_cases h : x ∈ hh
          · exact h
          · simp [stepE, h] at e2
        simp [stepE, hx] at e2
        refine ⟨_, by simp [evV]; rfl, ?_⟩
        have hd := drop_th hh x hn
        simp [lb_boxes_at_1, thD, nm, hp, hx, q2, hd]
        exact ⟨h2, by rw [e2], r2, n2, by omega⟩
      · have hx : x ∉ hh := by
          intro h
          simp [stepE, h] at e2
        simp [stepE, hx] at e2
        refine ⟨_, by simp [evV]; rfl, ?_⟩
        have hd := set_th hx
        simp at hlx
        simp [lb_boxes_at_1, thD, nm, hp, hx, q1, hd, hlx]
        exact ⟨h2, by rw [← e2]; simp, r2, n2, by omega⟩
    · rintro τ ⟨hh, x3, x4, rfl, hr, hn, hhl⟩
      rw [List.take_length, hk1] at hr
      cases hr
      have t1 := list_th hk
      have t2 := sort_names hk (by omega)
      simp only [List.map_map] at t1 t2
      simp [t1, t2]
      exact hP
  exact fin_eq (main _ rfl)
theorem boxes_at_bad {h : Nat} {ss : List (List Nm)} {es : List (Bool × Nm)} (p : PV) (hp : pv1 p) (hbad : ∀ n : Nat, n ≤ es.length → p ≠ .int (n : Nat)) :
    m_boxes_at (dayV h ss es) p = .exc 3 [(("value" : Str), p)] := by
  have hln := evs_len es
  cases p <;> first | exact hp.elim | skip
  case int i =>
    by_cases hi : 0 ≤ i
    · have h2 : (es.length : Int) < i := by
        rcases Int.lt_or_le (es.length : Int) i with h | h
        · exact h
        · exact absurd (by congr 1; omega) (hbad i.toNat (by omega))
      simp [m_boxes_at, b_boxes_at, m_is_number, b_is_number, m_is_integer, b_is_integer, hln, hi, h2]
    · simp [m_boxes_at, b_boxes_at, m_is_number, b_is_number, m_is_integer, b_is_integer, hln, hi]
  all_goals simp [m_boxes_at, b_boxes_at, m_is_number, b_is_number, m_is_integer, b_is_integer, hln]
end K10
end
section
set_option Elab.async false
set_option linter.all false
set_option maxRecDepth 100000
set_option maxHeartbeats 1000000
namespace K10
open PySem PySem.Spec L2 Lp
/-! any handed value as stacks -/
def rowV (r : Bool × List PV) : PV := if r.1 = true then .tup r.2 else .lst r.2
def vnm (x : Nm) : Prop := 1 ≤ x.length ∧ x.length ≤ 8
/-- a name, or what is none -/
def itC (p : PV) : Prop := (∃ x, vnm x ∧ p = nm x) ∨ p = .str ("" : Str) ∨ p = .non ∨ ∃ xs, p = .tup xs
def isNm : PV → Bool
  | .str x => decide (x.length ≠ 0)
  | _ => false
theorem is_name_it {p : PV} (h : itC p) : m_is_name p = .ok (.bl (isNm p)) := by
  rcases h with ⟨x, hx, rfl⟩ | rfl | rfl | ⟨xs, rfl⟩
  · have e := is_name_ok x hx.1 hx.2
    have : isNm (nm x) = true := by
      have := hx.1
      simp [isNm, nm, len_tx]; intro h; simp [h] at this
    rw [this]
    exact e
  · have : pLen [.str (Str.ofString "")] = some (.int 0) := by
      have h0 : (Str.ofString "").length = 0 := by decide +kernel
      have e : pLen [.str (Str.ofString "")] = if (Str.ofString "").length ≤ sizeLine then some (.int ((Str.ofString "").length : Nat)) else none := rfl
      rw [e, h0]
      exact if_pos (Nat.zero_le _)
    have h2 : isNm (.str (Str.ofString "")) = false := by decide +kernel
    rw [h2]
    simp [m_is_name, b_is_name, this]
  · simp [m_is_name, b_is_name, isNm]
  · simp [m_is_name, b_is_name, isNm]
theorem seq_row (r : Bool × List PV) : m_is_sequence (rowV r) = .ok (.bl true) := by
  unfold rowV
  split
  · exact is_seq_tup _
  · exact is_seq_lst _
theorem tup_row (r : Bool × List PV) : pTuple [rowV r] = some (.tup r.2) := by
  unfold rowV
  split <;> rfl
theorem seq_no {p : PV} (h : p = .non ∨ (∃ i, p = .int i) ∨ ∃ x, p = .str x) : m_is_sequence p = .ok (.bl false) := by
  rcases h with rfl | ⟨i, rfl⟩ | ⟨x, rfl⟩ <;> simp [m_is_sequence, b_is_sequence]
theorem as_stacks_no (h : Nat) {p : PV} (hp : p = .non ∨ (∃ i, p = .int i) ∨ ∃ x, p = .str x) : m_as_stacks (.int (h : Nat)) p = .ok .non := by
  simp [m_as_stacks, b_as_stacks, seq_no hp]
theorem as_stacks_nil (h : Nat) : m_as_stacks (.int (h : Nat)) (.tup []) = .ok .non := by
  simp [m_as_stacks, b_as_stacks, is_seq_tup]
end K10
end
section
set_option Elab.async false
set_option linter.all false
set_option maxRecDepth 100000
set_option maxHeartbeats 1000000
namespace K10
open PySem PySem.Spec L2 Lp
/-! rows that are sequences, with an item that is no name -/
theorem rows_run (h : Nat) (p : PV) (R : List (Bool × List PV)) (hp : p = .tup (R.map rowV) ∨ p = .lst (R.map rowV)) (hit : ∀ q ∈ (R.map (·.2)).flatten, itC q) (hl : ((R.map (·.2)).flatten).length ≤ 1000) :
    lc_as_stacks_0 [some (.int (h : Nat)), some p, none, none, none, none] = .ok (.lst (R.map fun _ => .bl true)) ∧
    lc_as_stacks_1 [some (.int (h : Nat)), some p, none, none, none, none] = .ok (.lst (R.map fun r => .tup r.2)) ∧
    lc_as_stacks_2 [some (.int (h : Nat)), some p, some (.tup (R.map fun r => .tup r.2)), none, none, none] = .ok (.lst (R.map (·.2)).flatten) ∧
    ∀ T, lc_as_stacks_3 [some (.int (h : Nat)), some p, some T, some (.lst (R.map (·.2)).flatten), none, none] = .ok (.lst ((R.map (·.2)).flatten.map fun q => .bl (isNm q))) := by
  have hi : itemsOf p = some (R.map rowV) := by rcases hp with rfl | rfl <;> rfl
  refine ⟨?_, ?_, ?_, fun T => ?_⟩
  · exact comp_map R rowV _ (by simp [hi]) fun r _ => by simp [cItem, wipeL, seq_row]
  · exact comp_map R rowV _ (by simp [hi]) fun r _ => by simp [cItem, wipeL, tup_row]
  · have e : R.flatMap (fun r => r.2) = (R.map (·.2)).flatten := List.flatMap_def ..
    rw [← e]
    refine comp2_map R (fun r => .tup r.2) (fun r => r.2) (by simp) (fun r _ => ?_) (by rw [e]; omega)
    simp [kC2, wipeL]
    have := (compL_map (fun q : PV => q) (fun q => some q) r.2 (tgt := gNm 5) (cond := tYesM) (elt := eVar 5) (τ := [some (.int (h : Nat)), some p, some (.tup (R.map fun r => .tup r.2)), none, some (.tup r.2), none]) fun q _ => by simp [cItem])
    rw [List.map_id'] at this
    rw [this]
    simp
  · generalize (R.map (·.2)).flatten = N at hit
    exact Lp.comp_map N (fun q : PV => q) (fun q => .bl (isNm q)) (by simp) fun q hq => by simp [cItem, wipeL, is_name_it (hit q hq)]
end K10
end
section
set_option Elab.async false
set_option linter.all false
set_option maxRecDepth 100000
set_option maxHeartbeats 1000000
namespace K10
open PySem PySem.Spec L2 Lp
theorem as_stacks_item (h : Nat) (p : PV) (R : List (Bool × List PV)) (hp : p = .tup (R.map rowV) ∨ p = .lst (R.map rowV)) (hit : ∀ q ∈ (R.map (·.2)).flatten, itC q) (hl : ((R.map (·.2)).flatten).length ≤ 1000) (hb : ((R.map (·.2)).flatten).all isNm = false) :
    m_as_stacks (.int (h : Nat)) p = .ok .non := by
  obtain ⟨l0, l1, l2, l3⟩ := rows_run h p R hp hit hl
  have hs : m_is_sequence p = .ok (.bl true) := by
    rcases hp with rfl | rfl
    · exact is_seq_tup _
    · exact is_seq_lst _
  have hlen : pLen [p] = some (.int (R.length : Nat)) := by rcases hp with rfl | rfl <;> simp
  have a1 := pAll_map (fun _ : Bool × List PV => true) R
  generalize (R.map (·.2)).flatten = N at hb l2 l3
  have a2 := pAll_map isNm N
  rw [hb] at a2
  by_cases h0 : R = []
  · subst h0
    simp [m_as_stacks, b_as_stacks, hs, hlen]
  · simp [m_as_stacks, b_as_stacks, hs, hlen, h0, l0, l1, l2, l3, a1, a2, -List.map_const]
end K10
end
section
set_option Elab.async false
set_option linter.all false
set_option maxRecDepth 100000
set_option maxHeartbeats 1000000
namespace K10
open PySem PySem.Spec L2 Lp
theorem setP_len (d : List (Key × PV)) (k : Key) (v : PV) : (setP d k v).length = if hasP d k = true then d.length else d.length + 1 := by
  unfold setP
  split <;> simp
theorem hasP_set (d : List (Key × PV)) (k j : Key) (v : PV) (h : hasP d j = true) : hasP (setP d k v) j = true := by
  unfold setP
  split
  · unfold hasP at *
    rw [List.any_map]
    rw [← h]
    congr 1
    funext x
    simp only [Function.comp]
    split <;> rfl
  · unfold hasP at *
    rw [List.any_append, h]; rfl
theorem hasP_self (d : List (Key × PV)) (k : Key) (v : PV) : hasP (setP d k v) k = true := by
  unfold setP
  split
  · rename_i h
    unfold hasP at *
    rw [List.any_map]
    rw [← h]
    congr 1
    funext x
    simp only [Function.comp]
    split <;> rfl
  · unfold hasP
    rw [List.any_append]; simp
theorem fold_le {α : Type} (key : α → Key) (v : PV) : ∀ (xs : List α) (acc : List (Key × PV)), (xs.foldl (fun d x => setP d (key x) v) acc).length ≤ acc.length + xs.length
  | [], acc => by simp
  | x :: xs, acc => by
    rw [List.foldl_cons]
    have := fold_le key v xs (setP acc (key x) v)
    have h := setP_len acc (key x) v
    simp only [List.length_cons]
    split at h <;> omega
theorem fold_has {α : Type} (key : α → Key) (v : PV) : ∀ (xs : List α) (acc : List (Key × PV)), (∃ x ∈ xs, hasP acc (key x) = true) → (xs.foldl (fun d x => setP d (key x) v) acc).length < acc.length + xs.length
  | [], acc, h => by obtain ⟨x, hx, _⟩ := h; simp at hx
  | x :: xs, acc, h => by
    rw [List.foldl_cons]
    have hl := setP_len acc (key x) v
    simp only [List.length_cons]
    by_cases hx : hasP acc (key x) = true
    · rw [if_pos hx] at hl
      have := fold_le key v xs (setP acc (key x) v)
      omega
    · rw [if_neg hx] at hl
      obtain ⟨y, hy, hh⟩ := h
      rcases List.mem_cons.mp hy with rfl | hy
      · exact absurd hh hx
      · have := fold_has key v xs (setP acc (key x) v) ⟨y, hy, hasP_set _ _ _ _ hh⟩
        omega
theorem fold_short {α : Type} (key : α → Key) (v : PV) : ∀ (xs : List α) (acc : List (Key × PV)), ¬ (xs.map key).Nodup → (xs.foldl (fun d x => setP d (key x) v) acc).length < acc.length + xs.length
  | [], acc, h => absurd List.nodup_nil h
  | x :: xs, acc, h => by
    rw [List.foldl_cons]
    have hl := setP_len acc (key x) v
    have hl2 : (setP acc (key x) v).length ≤ acc.length + 1 := by split at hl <;> omega
    simp only [List.length_cons]
    rw [List.map_cons, List.nodup_cons] at h
    by_cases hm : key x ∈ xs.map key
    · obtain ⟨y, hy, e⟩ := List.mem_map.mp hm
      have := fold_has key v xs (setP acc (key x) v) ⟨y, hy, by rw [e]; exact hasP_self _ _ _⟩
      omega
    · have := fold_short key v xs (setP acc (key x) v) fun z => h ⟨hm, z⟩
      omega
theorem unlike_no (l : List Nm) (hn : ¬ l.Nodup) : m_are_unlike (.lst (l.map nm)) = .ok (.bl false) := by
  have hk : ¬ (l.map fun x => (Sum.inr (tx x) : Key)).Nodup := fun z => hn (by
    unfold List.Nodup at z
    rw [List.pairwise_map] at z
    exact z.imp fun h e => h (by rw [e]))
  have hd := dcomp_map (own := [1]) (it := iSeq (eVar 0)) (tgt := gNm 1) (cond := tYesM) (ek := eVar 1) (ev := eC (.bl true)) (τ := [some (.lst (l.map nm)), none]) l nm nm (fun x => Sum.inr (tx x)) (fun _ => .bl true) (fun x => rfl) (by simp) (fun x _ => by simp [dItem, wipeL])
  have hs := fold_short (fun x : Nm => (Sum.inr (tx x) : Key)) (.bl true) l [] hk
  generalize l.foldl (fun d x => setP d (Sum.inr (tx x)) (.bl true)) [] = d at hd hs
  have hd : lc_are_unlike_0 [some (.lst (l.map nm)), none] = .ok (.dK d) := hd
  have hne : ¬ ((d.length : Int) = (l.length : Int)) := by simp at hs; omega
  simp [m_are_unlike, b_are_unlike, hd, hne]
end K10
end
section
set_option Elab.async false
set_option linter.all false
set_option maxRecDepth 100000
set_option maxHeartbeats 1000000
namespace K10
open PySem PySem.Spec L2 Lp
theorem flat_nm (ss : List (List Nm)) : (ss.map fun s => s.map nm).flatten = ss.flatten.map nm := by rw [List.map_flatten]
open Classical in
/-- names alone -/
theorem as_stacks_names (h : Nat) (p : PV) (R : List (Bool × List PV)) (ss : List (List Nm)) (hp : p = .tup (R.map rowV) ∨ p = .lst (R.map rowV)) (hR : R.map (·.2) = ss.map fun s => s.map nm) (hn : ∀ x ∈ ss.flatten, vnm x) (hl : ss.flatten.length ≤ 1000) (hne : ss ≠ []) :
    m_as_stacks (.int (h : Nat)) p = .ok (if ss.flatten.Nodup ∧ ∀ s ∈ ss, s.length ≤ h then stksV ss else .non) := by
  have hN : (R.map (·.2)).flatten = ss.flatten.map nm := by rw [hR, flat_nm]
  obtain ⟨l0, l1, l2, l3⟩ := rows_run h p R hp (fun q hq => by
    rw [hN] at hq
    obtain ⟨x, hx, rfl⟩ := List.mem_map.mp hq
    exact .inl ⟨x, hn x hx, rfl⟩) (by rw [hN, List.length_map]; exact hl)
  have hT : (R.map fun r => PV.tup r.2) = ss.map stk := by
    have : (R.map fun r => PV.tup r.2) = (R.map (·.2)).map .tup := by rw [List.map_map]; rfl
    rw [this, hR, List.map_map]; rfl
  rw [hT] at l1 l2
  rw [hN] at l2 l3
  have hs : m_is_sequence p = .ok (.bl true) := by
    rcases hp with rfl | rfl
    · exact is_seq_tup _
    · exact is_seq_lst _
  have hRl : R.length = ss.length := by
    have := congrArg List.length hR
    simpa using this
  have hlen : pLen [p] = some (.int (ss.length : Nat)) := by rw [← hRl]; rcases hp with rfl | rfl <;> simp
  have a1 := pAll_map (fun _ : Bool × List PV => true) R
  have a2 := pAll_map isNm (ss.flatten.map nm)
  have hall : (ss.flatten.map nm).all isNm = true := by
    rw [List.all_eq_true]
    intro q hq
    obtain ⟨x, hx, rfl⟩ := List.mem_map.mp hq
    have := (hn x hx).1
    simp [isNm, nm, len_tx]; intro z; simp [z] at this
  rw [hall] at a2
  have l4 : lc_as_stacks_4 [some (.int (h : Nat)), some p, some (stksV ss), some (.lst (ss.flatten.map nm)), none, none] = .ok (.lst (ss.map fun s => .bl (decide (s.length ≤ h)))) :=
    comp_map ss stk _ (by simp [stksV]) fun s hs => by simp [cItem, wipeL, stk]
  have a4 := pAll_map (fun s : List Nm => decide (s.length ≤ h)) ss
  rw [tup_stk] at l2
  by_cases nd : ss.flatten.Nodup
  · have hu := unlike_ok ss.flatten nd
    by_cases hr : ∀ s ∈ ss, s.length ≤ h
    · have e4 : (ss.all fun s => decide (s.length ≤ h)) = true := by rw [List.all_eq_true]; exact fun s hs => decide_eq_true (hr s hs)
      rw [e4] at a4
      rw [if_pos ⟨nd, hr⟩]
      simp [m_as_stacks, b_as_stacks, hs, hlen, hne, l0, l1, l2, l3, l4, a1, a2, a4, hu, tup_stk, -List.map_const, -List.map_flatten, -List.all_map, -List.map_map]
    · have e4 : (ss.all fun s => decide (s.length ≤ h)) = false := by
        rw [Bool.eq_false_iff]
        intro z
        rw [List.all_eq_true] at z
        exact hr fun s hs => of_decide_eq_true (z s hs)
      rw [e4] at a4
      rw [if_neg fun z => hr z.2]
      simp [m_as_stacks, b_as_stacks, hs, hlen, hne, l0, l1, l2, l3, l4, a1, a2, a4, hu, tup_stk, -List.map_const, -List.map_flatten, -List.all_map, -List.map_map]
  · have hu := unlike_no ss.flatten nd
    rw [if_neg fun z => nd z.1]
    simp [m_as_stacks, b_as_stacks, hs, hlen, hne, l0, l1, l2, l3, a1, a2, hu, tup_stk, -List.map_const, -List.map_flatten, -List.all_map, -List.map_map]
end K10
end
section
set_option Elab.async false
set_option linter.all false
set_option maxRecDepth 100000
set_option maxHeartbeats 1000000
namespace K10
open PySem PySem.Spec L2 Lp
/-! need_state -/
theorem dat_srt (l : List Nm) : dat 1 (srtV l) := fun p hp => by
  obtain ⟨y, hy, rfl⟩ := List.mem_map.mp hp
  obtain ⟨x, _, rfl⟩ := List.mem_map.mp ((srt_perm _).subset hy)
  exact sok_tx x
theorem strs_inj {a b : List Str} (h : a.map PV.str = b.map PV.str) : a = b := by
  have := congrArg strsOf h
  rw [strsOf_map, strsOf_map] at this
  exact Option.some.inj this
theorem count_map_inj {α β : Type} [DecidableEq α] [DecidableEq β] (f : α → β) (hf : ∀ x y, f x = f y → x = y) (x : α) : ∀ l : List α, (l.map f).count (f x) = l.count x
  | [] => rfl
  | y :: l => by
    rw [List.map_cons, List.count_cons, List.count_cons, count_map_inj f hf x l]
    by_cases h : y = x
    · subst h; simp
    · have : ¬ f y = f x := fun z => h (hf _ _ z)
      simp [h, this]
theorem perm_of_map {α β : Type} [DecidableEq α] [DecidableEq β] (f : α → β) (hf : ∀ x y, f x = f y → x = y) {a b : List α} (h : (a.map f).Perm (b.map f)) : a.Perm b := by
  rw [List.perm_iff_count] at h ⊢
  intro x
  have := h (f x)
  rw [count_map_inj f hf, count_map_inj f hf] at this
  exact this
theorem srtV_eq (a b : List Nm) : srtV a = srtV b ↔ a.Perm b := by
  unfold srtV
  constructor
  · intro e
    have e1 : (srt (a.map tx)).map PV.str = (srt (b.map tx)).map PV.str := by injection e
    have e3 := srt_eq.mp (strs_inj e1)
    exact perm_of_map tx (fun x y h => tx_inj h) e3
  · intro h
    rw [srt_eq.mpr (h.map tx)]
theorem told_names (d e p n : Option PV) (ss : List (List Nm)) (hl : ss.flatten.length ≤ 1000) : lc_need_state_0 [d, e, p, n, some (stksV ss), none, none] = .ok (.lst (ss.flatten.map nm)) := by
  have e1 : ss.flatMap (fun s => s.map nm) = ss.flatten.map nm := by rw [List.map_flatten, List.flatMap_def]
  rw [← e1]
  refine comp2_map ss stk (fun s => s.map nm) (by simp [stksV]) (fun s _ => ?_) (by rw [e1, List.length_map]; omega)
  simp [kC2, wipeL, stk]
  exact (compL_map nm (fun x => some (nm x)) s fun x _ => by simp [cItem]).trans (by rw [List.filterMap_eq_map'])
theorem need_ok {h : Nat} {ss : List (List Nm)} {es : List (Bool × Nm)} (D : DayOk h ss es) (p : PV) (k : Nat) (hke : k ≤ es.length) {hk : List Nm} (hk1 : runE ss.flatten (es.take k) = some hk) (s2 : List (List Nm)) (ha : m_as_stacks (.int (h : Nat)) p = .ok (stksV s2)) (hl : s2.length = ss.length) (hl2 : s2.flatten.length ≤ 63) (hp : s2.flatten.Perm hk) :
    m_need_state (dayV h ss es) (.int (k : Nat)) p = .ok (stV (k, s2)) := by
  have hb := boxes_at_ok D k hke hk1
  have l0 := told_names (some (dayV h ss es)) (some (.int (k : Nat))) (some p) (some (srtV hk)) s2 (by omega)
  have t2 := sort_names s2.flatten (by omega)
  have hn := pNe_no (by decide : 1 ≤ 60) (dat_srt s2.flatten) (dat_srt hk) ((srtV_eq _ _).mpr hp)
  have e1 : pLen [stksV s2] = some (.int (ss.length : Nat)) := by simp [stksV, hl]
  have e2 : pLen [stksV ss] = some (.int (ss.length : Nat)) := by simp [stksV]
  rw [List.map_map] at t2
  have e3 : (s2.flatten.map nm) = s2.flatten.map (PV.str ∘ tx) := rfl
  rw [e3] at l0
  simp [m_need_state, b_need_state, hb, ha, isN_stks, e1, e2, l0, t2, stV, -List.map_flatten]
  rw [show PV.tup ((srt (s2.flatten.map tx)).map .str) = srtV s2.flatten from rfl, hn]
  simp
end K10
end
section
set_option Elab.async false
set_option linter.all false
set_option maxRecDepth 100000
set_option maxHeartbeats 1000000
namespace K10
open PySem PySem.Spec L2 Lp
/-! need_state refuses -/
variable {h : Nat} {ss : List (List Nm)} {es : List (Bool × Nm)}
theorem need_num (p q : PV) (hp : pv1 p) (hbad : ∀ n : Nat, n ≤ es.length → p ≠ .int (n : Nat)) :
    m_need_state (dayV h ss es) p q = .exc 3 [(("value" : Str), p)] := by
  have hb := boxes_at_bad (h := h) (ss := ss) p hp hbad
  simp [m_need_state, b_need_state, hb]
/-- what is no state -/
def noSt (h n : Nat) (hk : List Nm) (q : PV) : Prop := m_as_stacks (.int (h : Nat)) q = .ok .non ∨ ∃ s2, m_as_stacks (.int (h : Nat)) q = .ok (stksV s2) ∧ s2.flatten.length ≤ 63 ∧ (s2.length ≠ n ∨ ¬ s2.flatten.Perm hk)
theorem need_no (D : DayOk h ss es) (q : PV) (k : Nat) (hke : k ≤ es.length) {hk : List Nm} (hk1 : runE ss.flatten (es.take k) = some hk) (hq : noSt h ss.length hk q) :
    m_need_state (dayV h ss es) (.int (k : Nat)) q = .exc 1 [(("value" : Str), q)] := by
  have hb := boxes_at_ok D k hke hk1
  rcases hq with ha | ⟨s2, ha, hl2, hq⟩
  · simp [m_need_state, b_need_state, hb, ha]
  · have e1 : pLen [stksV s2] = some (.int (s2.length : Nat)) := by simp [stksV]
    have e2 : pLen [stksV ss] = some (.int (ss.length : Nat)) := by simp [stksV]
    by_cases hl : s2.length = ss.length
    · have hp : ¬ s2.flatten.Perm hk := hq.resolve_left fun z => z hl
      have l0 := told_names (some (dayV h ss es)) (some (.int (k : Nat))) (some q) (some (srtV hk)) s2 (by omega)
      have t2 := sort_names s2.flatten (by omega)
      have hn := pNe_yes (by decide : 1 ≤ 60) (dat_srt s2.flatten) (dat_srt hk) fun z => hp ((srtV_eq _ _).mp z)
      rw [List.map_map] at t2
      have e3 : (s2.flatten.map nm) = s2.flatten.map (PV.str ∘ tx) := rfl
      rw [e3] at l0
      simp [m_need_state, b_need_state, hb, ha, isN_stks, e1, e2, hl, l0, t2, -List.map_flatten]
      rw [show PV.tup ((srt (s2.flatten.map tx)).map .str) = srtV s2.flatten from rfl, hn]
      simp
    · have hl' : ¬ ((s2.length : Int) = (ss.length : Int)) := by omega
      simp [m_need_state, b_need_state, hb, ha, isN_stks, e1, e2, hl, hl']
end K10
end
section
set_option Elab.async false
set_option linter.all false
set_option maxRecDepth 100000
namespace K10
open PySem PySem.Spec L2 Lp
variable {h n : Nat} {ss0 : List (List Nm)} {es : List (Bool × Nm)} {s : Sts}
/-! the law's comparing -/
def plE : Nat → PV → Prop
  | _, .non => True
  | _, .bl _ => True
  | _, .int _ => True
  | _, .str x => sok x
  | k + 1, .tup ps => ps.length ≤ 1000 ∧ ∀ p ∈ ps, plE k p
  | _, _ => False
def anE : Nat → PV → Prop
  | _, .non => True
  | _, .bl _ => True
  | _, .int _ => True
  | _, .str x => sok x
  | _, .lst _ => True
  | k + 1, .tup ps => ps.length ≤ 1000 ∧ ∀ p ∈ ps, anE k p
  | 0, .tup _ => True
  | _, _ => False
def flatE : PV → Prop
  | .non => True
  | .bl _ => True
  | .int _ => True
  | .str x => sok x
  | _ => False
def anyE : PV → Prop
  | .str x => sok x
  | .ty _ => False
  | .ins _ _ => False
  | .exn _ _ _ _ => False
  | .scr _ => False
  | .dK _ => False
  | .rng _ => False
  | .itm _ => False
  | _ => True
theorem equal_flat (k : Nat) (a e : PV) (ha : anyE a) (he : flatE e) : ∃ b : Bool, m__law_equal (k + 1) a e = .ok (.bl b) ∧ (b = true ↔ a = e) := by
  cases e <;> first | exact he.elim | skip
  · cases a <;> first | exact ha.elim | exact ⟨_, by simp [m__law_equal, b__law_equal]; rfl, by simp⟩
  · cases a <;> first | exact ha.elim | exact ⟨_, by simp [m__law_equal, b__law_equal]; rfl, by simp⟩
  · cases a <;> first | exact ha.elim | exact ⟨_, by simp [m__law_equal, b__law_equal]; rfl, by simp⟩
  · rename_i y
    cases a <;> first | exact ha.elim | skip
    · exact ⟨false, by simp [m__law_equal, b__law_equal], by simp⟩
    · exact ⟨false, by simp [m__law_equal, b__law_equal], by simp⟩
    · exact ⟨false, by simp [m__law_equal, b__law_equal], by simp⟩
    · rename_i x
      have := pEq_str ha he
      exact ⟨decide (x = y), by simp [m__law_equal, b__law_equal, this], by simp⟩
    · exact ⟨false, by simp [m__law_equal, b__law_equal], by simp⟩
    · exact ⟨false, by simp [m__law_equal, b__law_equal], by simp⟩
theorem equal_tupN (k : Nat) (a : PV) (ws : List PV) (ha : anyE a) (hno : ∀ qs, a ≠ .tup qs) : m__law_equal (k + 1) a (.tup ws) = .ok (.bl false) := by
  cases a <;> first | exact ha.elim | exact absurd rfl (hno _) | simp [m__law_equal, b__law_equal]
theorem equal_tup (k : Nat) (qs ws : List PV) (hl : ws.length ≤ 1000) (hm : ∀ (i : Nat) (h1 : i < qs.length) (h2 : i < ws.length), ∃ b : Bool, m__law_equal k qs[i] ws[i] = .ok (.bl b) ∧ (b = true ↔ qs[i] = ws[i])) :
    ∃ b : Bool, m__law_equal (k + 1) (.tup qs) (.tup ws) = .ok (.bl b) ∧ (b = true ↔ PV.tup qs = .tup ws) := by
  by_cases hlen : qs.length = ws.length
  · have hr := pR1_le ws.length (by omega)
    have main : ∀ P : PV → Prop, (qs = ws → P (.bl true)) → (qs ≠ ws → P (.bl false)) → (b__law_equal (m__law_equal k) [some (.tup qs), some (.tup ws), none]).sat { rt := P } := by
      intro P h1 h2
      simp [b__law_equal, hlen]
      refine sat_next (for_sat (List.range ws.length) (fun i => .int (i : Nat)) (fun i τ => (∃ x2, τ = [some (.tup qs), some (.tup ws), x2]) ∧ qs.take i = ws.take i) (by simp [hr]) ⟨⟨none, rfl⟩, by simp⟩ ?_ ?_)
      · rintro i hi τ ⟨⟨x2, rfl⟩, ht⟩
        simp only [List.length_range] at hi
        refine ⟨_, rfl, ?_⟩
        simp only [List.getElem_range]
        obtain ⟨b, hb, hbi⟩ := hm i (by omega) hi
        have a1 : atI qs ((i : Nat) : Int) = some qs[i] := by rw [atN, List.getElem?_eq_getElem]
        have a2 : atI ws ((i : Nat) : Int) = some ws[i] := by rw [atN, List.getElem?_eq_getElem]
        cases b
        · simp [lb__law_equal_0, a1, a2, hb]
          refine h2 fun e => ?_
          have : qs[i] = ws[i] := by simp [e]
          exact absurd (hbi.mpr this) (by simp)
        · simp [lb__law_equal_0, a1, a2, hb]
          rw [List.take_succ_eq_append_getElem (by omega), List.take_succ_eq_append_getElem hi, ht, hbi.mp rfl]
      · rintro τ ⟨⟨x2, rfl⟩, ht⟩
        simp
        refine h1 ?_
        rw [List.length_range, List.take_of_length_le (by omega), List.take_of_length_le (by omega)] at ht
        exact ht
    obtain ⟨v, hv, hP⟩ := fin_sat (rm := .sh) (main (fun v => ∃ b : Bool, v = .bl b ∧ (b = true ↔ PV.tup qs = .tup ws)) (fun e => ⟨true, rfl, by simp [e]⟩) (fun e => ⟨false, rfl, by simp [e]⟩))
    obtain ⟨b, rfl, hb⟩ := hP
    exact ⟨b, hv, hb⟩
  · refine ⟨false, ?_, ?_⟩
    · have : ¬ ((qs.length : Int) = (ws.length : Int)) := by omega
      simp [m__law_equal, b__law_equal, this]
    · simp
      intro e; exact hlen (by rw [e])
theorem anE_any : ∀ {k : Nat} {a : PV}, anE k a → anyE a := by
  intro k a h
  cases a <;> cases k <;> first | exact h | exact h.elim | trivial
theorem equal_ok : ∀ (k : Nat) (a e : PV), anE k a → plE k e → ∃ b : Bool, m__law_equal (k + 1) a e = .ok (.bl b) ∧ (b = true ↔ a = e)
  | k, a, .non, ha, he => equal_flat k a _ (anE_any ha) trivial
  | k, a, .bl _, ha, he => equal_flat k a _ (anE_any ha) trivial
  | k, a, .int _, ha, he => equal_flat k a _ (anE_any ha) trivial
  | k, a, .str _, ha, he => equal_flat k a _ (anE_any ha) (by cases k <;> exact he)
  | 0, a, .tup ws, ha, he => he.elim
  | k + 1, a, .tup ws, ha, he => by
    by_cases hq : ∃ qs, a = .tup qs
    · obtain ⟨qs, rfl⟩ := hq
      exact equal_tup (k + 1) qs ws he.1 fun i h1 h2 => equal_ok k qs[i] ws[i] (ha.2 _ (List.getElem_mem h1)) (he.2 _ (List.getElem_mem h2))
    · refine ⟨false, equal_tupN (k + 1) a ws (anE_any ha) fun qs e => hq ⟨qs, e⟩, ?_⟩
      simp
      intro e; exact hq ⟨ws, e⟩
  | 0, a, .ty _, _, he => he.elim
  | 0, a, .lst _, _, he => he.elim
  | 0, a, .dK _, _, he => he.elim
  | 0, a, .ins _ _, _, he => he.elim
  | 0, a, .scr _, _, he => he.elim
  | 0, a, .exn _ _ _ _, _, he => he.elim
  | 0, a, .rng _, _, he => he.elim
  | 0, a, .itm _, _, he => he.elim
  | k + 1, a, .ty _, _, he => he.elim
  | k + 1, a, .lst _, _, he => he.elim
  | k + 1, a, .dK _, _, he => he.elim
  | k + 1, a, .ins _ _, _, he => he.elim
  | k + 1, a, .scr _, _, he => he.elim
  | k + 1, a, .exn _ _ _ _, _, he => he.elim
  | k + 1, a, .rng _, _, he => he.elim
  | k + 1, a, .itm _, _, he => he.elim
theorem pl_an : ∀ {k : Nat} {e : PV}, plE k e → anE k e
  | k, .non, _ => by cases k <;> trivial
  | k, .bl _, _ => by cases k <;> trivial
  | k, .int _, _ => by cases k <;> trivial
  | k, .str _, h => by cases k <;> exact h
  | k + 1, .tup ps, h => ⟨h.1, fun p hp => pl_an (h.2 p hp)⟩
  | 0, .tup _, h => h.elim
  | 0, .ty _, h => h.elim
  | 0, .lst _, h => h.elim
  | 0, .dK _, h => h.elim
  | 0, .ins _ _, h => h.elim
  | 0, .scr _, h => h.elim
  | 0, .exn _ _ _ _, h => h.elim
  | 0, .rng _, h => h.elim
  | 0, .itm _, h => h.elim
  | _ + 1, .ty _, h => h.elim
  | _ + 1, .lst _, h => h.elim
  | _ + 1, .dK _, h => h.elim
  | _ + 1, .ins _ _, h => h.elim
  | _ + 1, .scr _, h => h.elim
  | _ + 1, .exn _ _ _ _, h => h.elim
  | _ + 1, .rng _, h => h.elim
  | _ + 1, .itm _, h => h.elim
theorem equal_same {k : Nat} {e : PV} (h : plE k e) : m__law_equal (k + 1) e e = .ok (.bl true) := by
  obtain ⟨b, hb, hi⟩ := equal_ok k e e (pl_an h) h
  rw [hb, hi.mpr rfl]
end K10
end
section
set_option Elab.async false
set_option linter.all false
set_option maxRecDepth 100000
namespace K10
open PySem PySem.Spec L2 Lp
variable {h n : Nat} {ss0 : List (List Nm)} {es : List (Bool × Nm)} {s : Sts}
theorem plE_mono : ∀ {k : Nat} {p : PV}, plE k p → plE (k + 1) p
  | k, .non, _ => trivial
  | k, .bl _, _ => trivial
  | k, .int _, _ => trivial
  | 0, .str _, h => h
  | k + 1, .str _, h => h
  | k + 1, .tup ps, h => ⟨h.1, fun p hp => plE_mono (h.2 p hp)⟩
  | 0, .tup _, h => h.elim
  | 0, .ty _, h => h.elim
  | 0, .lst _, h => h.elim
  | 0, .dK _, h => h.elim
  | 0, .ins _ _, h => h.elim
  | 0, .scr _, h => h.elim
  | 0, .exn _ _ _ _, h => h.elim
  | 0, .rng _, h => h.elim
  | 0, .itm _, h => h.elim
  | _ + 1, .ty _, h => h.elim
  | _ + 1, .lst _, h => h.elim
  | _ + 1, .dK _, h => h.elim
  | _ + 1, .ins _ _, h => h.elim
  | _ + 1, .scr _, h => h.elim
  | _ + 1, .exn _ _ _ _, h => h.elim
  | _ + 1, .rng _, h => h.elim
  | _ + 1, .itm _, h => h.elim
theorem plE_le {k m : Nat} {p : PV} (hp : plE k p) (h : k ≤ m) : plE m p := by
  obtain ⟨d, rfl⟩ := Nat.exists_eq_add_of_le h
  induction d with
  | zero => exact hp
  | succ d ih => exact plE_mono (ih (by omega))
theorem pl_nm (k : Nat) (x : Nm) : plE k (nm x) := by cases k <;> exact sok_tx x
theorem pl_str (k : Nat) (x : String) : plE k (.str (Str.ofString x)) := by cases k <;> exact sok_ofS x
theorem pl_int (k : Nat) (i : Int) : plE k (.int i) := by cases k <;> trivial
theorem pl_bl (k : Nat) (i : Bool) : plE k (.bl i) := by cases k <;> trivial
theorem pl_tup {k : Nat} {ps : List PV} (hl : ps.length ≤ 1000) (h : ∀ p ∈ ps, plE k p) : plE (k + 1) (.tup ps) := ⟨hl, h⟩
theorem pl_stk (k : Nat) (l : List Nm) (h : l.length ≤ 1000) : plE (k + 1) (stk l) := pl_tup (by simpa using h) fun p hp => by
  obtain ⟨x, _, rfl⟩ := List.mem_map.mp hp
  exact pl_nm k x
theorem pl_stks (k : Nat) (ss : List (List Nm)) (h : ss.length ≤ 1000) (hr : ∀ r ∈ ss, r.length ≤ 1000) : plE (k + 2) (stksV ss) := pl_tup (by simpa using h) fun p hp => by
  obtain ⟨x, hx, rfl⟩ := List.mem_map.mp hp
  exact pl_stk k x (hr x hx)
theorem pl_stV (k : Nat) (s : Sts) (h : s.2.length ≤ 1000) (hr : ∀ r ∈ s.2, r.length ≤ 1000) : plE (k + 3) (stV s) := pl_tup (by simp) fun p hp => by
  simp only [List.mem_cons, List.not_mem_nil, or_false] at hp
  rcases hp with rfl | rfl
  · exact pl_int _ _
  · exact pl_stks k s.2 h hr
def good (p : PV) : Prop := pvd p ∧ plE 5 p
theorem good_tup {ps : List PV} (hl : ps.length ≤ 900) (h : ∀ p ∈ ps, flatE p) : good (.tup ps) := by
  refine ⟨⟨by omega, fun p hp => ?_⟩, pl_tup (by omega) fun p hp => ?_⟩
  · have := h p hp
    cases p <;> first | exact this.elim | trivial | exact this
  · have := h p hp
    cases p <;> first | exact this.elim | trivial | exact this
theorem good_flat {p : PV} (h : flatE p) : good p := by cases p <;> first | exact h.elim | exact ⟨trivial, trivial⟩ | exact ⟨h, h⟩
theorem good_deed (D : Deed) : good (deedV D) := by
  cases D with
  | shift i j => exact good_tup (by simp) (by simp [flatE, sok_ofS])
  | inn j => exact good_tup (by simp) (by simp [flatE, sok_ofS])
  | out => exact good_tup (by simp) (by simp [flatE, sok_ofS])
end K10
end
section
set_option Elab.async false
set_option linter.all false
set_option maxRecDepth 100000
set_option maxHeartbeats 1000000
namespace K10
open PySem PySem.Spec L2 Lp
/-! values that are no states -/
theorem map_true (ss : List (List Nm)) : (ss.map fun s => ((true, s.map nm) : Bool × List PV)).map rowV = ss.map stk := by
  rw [List.map_map]; rfl
theorem map_false (ss : List (List Nm)) : (ss.map fun s => ((false, s.map nm) : Bool × List PV)).map rowV = ss.map fun s => .lst (s.map nm) := by
  rw [List.map_map]; rfl
open Classical in
theorem as_names (h : Nat) (ss : List (List Nm)) (hn : ∀ x ∈ ss.flatten, vnm x) (hl : ss.flatten.length ≤ 1000) (hne : ss ≠ []) :
    m_as_stacks (.int (h : Nat)) (stksV ss) = .ok (if ss.flatten.Nodup ∧ ∀ s ∈ ss, s.length ≤ h then stksV ss else .non) :=
  as_stacks_names h _ (ss.map fun s => (true, s.map nm)) ss (.inl (by rw [map_true]; rfl)) (by rw [List.map_map]; rfl) hn hl hne
open Classical in
theorem as_namesL (h : Nat) (ss : List (List Nm)) (hn : ∀ x ∈ ss.flatten, vnm x) (hl : ss.flatten.length ≤ 1000) (hne : ss ≠ []) :
    m_as_stacks (.int (h : Nat)) (.lst (ss.map fun s => .lst (s.map nm))) = .ok (if ss.flatten.Nodup ∧ ∀ s ∈ ss, s.length ≤ h then stksV ss else .non) :=
  as_stacks_names h _ (ss.map fun s => (false, s.map nm)) ss (.inr (by rw [map_false])) (by rw [List.map_map]; rfl) hn hl hne
theorem no_names (h n : Nat) (hk : List Nm) (ss : List (List Nm)) (hn : ∀ x ∈ ss.flatten, vnm x) (hl : ss.flatten.length ≤ 63) (hb : ss.length ≠ n ∨ ¬ ss.flatten.Perm hk ∨ ¬ ss.flatten.Nodup ∨ ¬ ∀ s ∈ ss, s.length ≤ h) : noSt h n hk (stksV ss) := by
  by_cases hne : ss = []
  · subst hne
    exact .inl (as_stacks_nil h)
  · have := as_names h ss hn (by omega) hne
    by_cases hc : ss.flatten.Nodup ∧ ∀ s ∈ ss, s.length ≤ h
    · rw [if_pos hc] at this
      refine .inr ⟨ss, this, hl, ?_⟩
      rcases hb with hb | hb | hb | hb
      · exact .inl hb
      · exact .inr hb
      · exact absurd hc.1 hb
      · exact absurd hc.2 hb
    · rw [if_neg hc] at this
      exact .inl this
theorem no_namesL (h n : Nat) (hk : List Nm) (ss : List (List Nm)) (hn : ∀ x ∈ ss.flatten, vnm x) (hl : ss.flatten.length ≤ 63) (hne : ss ≠ []) (hb : ss.length ≠ n) : noSt h n hk (.lst (ss.map fun s => .lst (s.map nm))) := by
  have := as_namesL h ss hn (by omega) hne
  by_cases hc : ss.flatten.Nodup ∧ ∀ s ∈ ss, s.length ≤ h
  · rw [if_pos hc] at this
    exact .inr ⟨ss, this, hl, .inl hb⟩
  · rw [if_neg hc] at this
    exact .inl this
/-- an item that is none -/
theorem no_item (h n : Nat) (hk : List Nm) (rs : List (List PV)) (hit : ∀ q ∈ rs.flatten, itC q) (hl : rs.flatten.length ≤ 1000) (hb : ∃ q ∈ rs.flatten, isNm q = false) : noSt h n hk (.tup (rs.map .tup)) := by
  refine .inl (as_stacks_item h _ (rs.map fun r => (true, r)) (.inl ?_) ?_ ?_ ?_)
  · rw [List.map_map]; rfl
  · rw [List.map_map, show ((fun x : Bool × List PV => x.2) ∘ fun r => (true, r)) = _root_.id from rfl, List.map_id]; exact hit
  · rw [List.map_map, show ((fun x : Bool × List PV => x.2) ∘ fun r => (true, r)) = _root_.id from rfl, List.map_id]; exact hl
  · rw [List.map_map, show ((fun x : Bool × List PV => x.2) ∘ fun r => (true, r)) = _root_.id from rfl, List.map_id]
    obtain ⟨q, hq, e⟩ := hb
    rw [Bool.eq_false_iff]
    intro z
    rw [List.all_eq_true] at z
    rw [z q hq] at e
    cases e
/-- a row that is no sequence -/
def seqB : PV → Bool
  | .tup _ => true
  | .lst _ => true
  | _ => false
def seqR : PV → Prop
  | .tup _ => True
  | .lst _ => True
  | .non => True
  | .str _ => True
  | .int _ => True
  | _ => False
theorem seq_it {p : PV} (hp : seqR p) : m_is_sequence p = .ok (.bl (seqB p)) := by
  cases p <;> first | exact hp.elim | simp [m_is_sequence, b_is_sequence, seqB]
theorem no_row (h n : Nat) (hk : List Nm) (ps : List PV) (hs : ∀ p ∈ ps, seqR p) (hb : ∃ p ∈ ps, seqB p = false) : noSt h n hk (.tup ps) := by
  have hs0 : m_is_sequence (.tup ps) = .ok (.bl true) := is_seq_tup _
  have l0 : lc_as_stacks_0 [some (.int (h : Nat)), some (.tup ps), none, none, none, none] = .ok (.lst (ps.map fun p => .bl (seqB p))) :=
    comp_map ps (fun p => p) _ (by simp) fun p hp => by simp [cItem, wipeL, seq_it (hs p hp)]
  have a0 := pAll_map seqB ps
  have e : ps.all seqB = false := by
    obtain ⟨q, hq, e⟩ := hb
    rw [Bool.eq_false_iff]
    intro z
    rw [List.all_eq_true] at z
    rw [z q hq] at e
    cases e
  rw [e] at a0
  have hne : ps ≠ [] := by
    rintro rfl
    obtain ⟨q, hq, _⟩ := hb
    simp at hq
  refine .inl ?_
  simp [m_as_stacks, b_as_stacks, hs0, l0, a0, hne]
def badS (h n : Nat) (hk : List Nm) (q : PV) : Prop := noSt h n hk q ∧ plE 5 q
/-! texts joined -/
theorem join_tx : ∀ l : List Nm, Txt.join ("" : Str) (l.map tx) = tx l.flatten := by
  have key : ∀ l : List Nm, Str.join ("" : Str) (l.map tx) = tx l.flatten := by
    intro l
    induction l with
    | nil => rfl
    | cons x l ih =>
      cases l with
      | nil => simp [Str.join]
      | cons y r =>
        have he : ∀ a : Str, a ++ ("" : Str) = a := fun a => by
          show Str.mk _ = _
          simp [show (("" : Str)).cps = #[] from by decide +kernel]
        show tx x ++ ("" : Str) ++ Str.join ("" : Str) ((y :: r).map tx) = _
        rw [ih, he, tx_app]
        rfl
  intro l
  exact (TL.join_eq _ _).trans (key l)
end K10
end
section
set_option Elab.async false
set_option linter.all false
set_option maxRecDepth 100000
set_option maxHeartbeats 1000000
namespace K10
open PySem PySem.Spec L2 Lp
theorem eq_val (w : String) (v : PV) (hv : plE 8 v) : m__law_equal 12 (.tup [.str (Str.ofString w), v]) (.tup [.str (Str.ofString w), v]) = .ok (.bl true) := equal_same (pl_tup (k := 10) (by simp) fun p hp => by
  simp only [List.mem_cons, List.not_mem_nil, or_false] at hp
  rcases hp with rfl | rfl
  · exact pl_str _ _
  · exact plE_le hv (by decide))
def LSV (S : List (List Nm)) : PV := .lst (S.map fun r => .lst (r.map nm))
theorem dat_LSV (S : List (List Nm)) : dat 2 (LSV S) := fun p hp => by
  obtain ⟨r, _, rfl⟩ := List.mem_map.mp hp
  intro q hq
  obtain ⟨x, _, rfl⟩ := List.mem_map.mp hq
  exact dat_nm 0 x
theorem dat_stks (S : List (List Nm)) : dat 2 (stksV S) := fun p hp => by
  obtain ⟨r, _, rfl⟩ := List.mem_map.mp hp
  exact dat_stk 0 r
section
variable {h : Nat} {ss : List (List Nm)} {es : List (Bool × Nm)} {s : Sts}
theorem need_st (D : DayOk h ss es) (w : WF h ss.length ss es s) (hvn : ∀ x ∈ s.2.flatten, vnm x) (h10 : s.2.flatten.length ≤ 10) {p : PV} (hp : p = stksV s.2 ∨ p = LSV s.2) : m_need_state (dayV h ss es) (.int (s.1 : Nat)) p = .ok (stV s) := by
  obtain ⟨hk, h1, h2⟩ := w.box
  have hne : s.2 ≠ [] := fun e => by have := w.len; rw [e] at this; have := D.c1; simp at *; omega
  refine need_ok D p s.1 w.le h1 s.2 ?_ w.len (by omega) h2
  rcases hp with rfl | rfl
  · rw [as_names h s.2 hvn (by omega) hne, if_pos ⟨w.nd, w.row⟩]
  · unfold LSV
    rw [as_namesL h s.2 hvn (by omega) hne, if_pos ⟨w.nd, w.row⟩]
end
end K10
end
section
set_option Elab.async false
set_option linter.all false
set_option maxRecDepth 100000
namespace Lp
open PySem PySem.Spec L2
theorem strs_nm (r : List Nm) : strsOf (r.map nm) = some (r.map tx) := by
  rw [← strsOf_map, List.map_map]; rfl
open Classical in
theorem first_idx {α : Type} [BEq α] [LawfulBEq α] (x : α) : ∀ (r : List α) (k : Nat), r[k]? = some x → (∀ m, m < k → r[m]? ≠ some x) → r.idxOf x = k
  | [], k, h, _ => by simp at h
  | y :: r, k, h, hm => by
    by_cases e : y = x
    · subst e
      cases k with
      | zero => simp
      | succ k => exact absurd rfl (hm 0 (by omega))
    · cases k with
      | zero => simp at h; exact absurd h e
      | succ k =>
        rw [List.idxOf_cons, show (y == x) = false by simpa using e, cond_false, first_idx x r k (by simpa using h) fun m hmk => by
          have := hm (m + 1) (by omega)
          simpa using this]
theorem find_tx (x : Nm) : ∀ r : List Nm, x ∈ r → ((r.map tx).findIdx? fun y => decide (y = tx x)) = some (r.idxOf x)
  | y :: r, hx => by
    rw [List.map_cons, List.findIdx?_cons]
    by_cases e : y = x
    · subst e; simp
    · have : ¬ tx y = tx x := fun z => e (tx_inj z)
      have hx' : x ∈ r := (List.mem_cons.mp hx).resolve_left fun z => e z.symm
      rw [find_tx x r hx', List.idxOf_cons, show (y == x) = false by simpa using e, cond_false]
      simp [this]
theorem index_nm {x : Nm} {r : List Nm} (hx : x ∈ r) : pIndex (stk r) (nm x) = some (.int (r.idxOf x : Nat)) := by
  show (match strsOf (r.map nm) with
    | some ys => (ys.findIdx? fun y => decide (y = tx x)).map fun j => PV.int (j : Nat)
    | none => none) = _
  rw [strs_nm]
  dsimp only
  rw [find_tx x r hx]
  rfl
theorem idx_nm {x : Nm} {r : List Nm} (hx : x ∈ r) : kIdx (.ok (nm x)) (stk r) = .ok (.int (r.idxOf x : Nat)) := by
  show (Res.ok (nm x) >>= fun z => up (pIndex (stk r) z)) = _
  rw [Res.ok_bind, index_nm hx]
  rfl
theorem pR2_nat {e n : Nat} (h : e ≤ n) (hn : n ≤ 1000000) : pR2 [.int (e : Nat), .int (n : Nat)] = some ((List.range (n - e)).map fun i => .int ((e + i : Nat) : Int)) := by
  unfold pR2
  dsimp only
  have c : -(2 ^ 62) ≤ ((n : Nat) : Int) ∧ ((n : Nat) : Int) < 2 ^ 62 ∧ -(2 ^ 62) ≤ ((e : Nat) : Int) ∧ ((e : Nat) : Int) < 2 ^ 62 ∧ (((n : Nat) : Int) - (e : Nat)).toNat ≤ 1000000 := by
    refine ⟨?_, ?_, ?_, ?_, ?_⟩ <;> omega
  rw [if_pos c]
  unfold rngP
  have e1 : (((n : Nat) : Int) - (e : Nat)).toNat = n - e := by omega
  rw [e1]
  congr 1
/-! who goes when, who blocks -/
def going (es : List (Bool × Nm)) (e : Nat) (x : Nm) : Nat := e + (es.drop e).findIdx fun ev => decide (ev = (false, x))
theorem going_le {es : List (Bool × Nm)} {e : Nat} (h : e ≤ es.length) (x : Nm) : going es e x ≤ es.length := by
  unfold going
  have := List.findIdx_le_length (p := fun ev : Bool × Nm => decide (ev = (false, x))) (xs := es.drop e)
  rw [List.length_drop] at this
  omega
/-- the dict of goings -/
def GoD (es : List (Bool × Nm)) (e : Nat) (D : List (Key × PV)) : Prop := ∀ x, valP D (.inr (tx x)) = if going es e x < es.length then some (.int (going es e x : Nat)) else none
theorem find_go {es : List (Bool × Nm)} {e : Nat} (h : e ≤ es.length) (x : Nm) : ((es.drop e).findIdx? fun ev => decide (ev = (false, x))).map (fun i => PV.int ((e + i : Nat) : Int)) = if going es e x < es.length then some (.int (going es e x : Nat)) else none := by
  unfold going
  cases hq : (es.drop e).findIdx? fun ev => decide (ev = (false, x)) with
  | none =>
    have := List.findIdx?_eq_none_iff_findIdx_eq.mp hq
    rw [this, List.length_drop, if_neg (by omega)]
    rfl
  | some i =>
    obtain ⟨h1, h2⟩ := List.findIdx?_eq_some_iff_findIdx_eq.mp hq
    rw [List.length_drop] at h1
    rw [h2, if_pos (by omega)]
    rfl
def gb (es : List (Bool × Nm)) (e : Nat) (x y : Nm) : Bool := decide (going es e x < going es e y)
def blkIn (es : List (Bool × Nm)) (e : Nat) (r : List Nm) : List Nm := (List.range r.length).flatMap fun k => (r[k]?.toList).filter fun y => (r.take k).any fun b => gb es e b y
def blkAt (es : List (Bool × Nm)) (e : Nat) (S : List (List Nm)) : List Nm := S.flatMap (blkIn es e)
def blkBy (es : List (Bool × Nm)) (e : Nat) (r : List Nm) (k : Nat) (x : Nm) : List Nm := (r.drop (k + 1)).filter fun y => gb es e x y
theorem blkIn_len (es : List (Bool × Nm)) (e : Nat) (r : List Nm) : (blkIn es e r).length ≤ r.length := by
  unfold blkIn
  have : ∀ n, ((List.range n).flatMap fun k => (r[k]?.toList).filter fun y => (r.take k).any fun b => gb es e b y).length ≤ n := by
    intro n
    induction n with
    | zero => simp
    | succ n ih =>
      rw [List.range_succ, List.flatMap_append, List.length_append]
      have h1 : ((r[n]?.toList).filter fun y => (r.take n).any fun b => gb es e b y).length ≤ 1 := Nat.le_trans (List.length_filter_le _ _) (by cases r[n]? <;> simp)
      simp only [List.flatMap_cons, List.flatMap_nil, List.append_nil]
      omega
  exact this r.length
theorem blkAt_len (es : List (Bool × Nm)) (e : Nat) : ∀ S : List (List Nm), (blkAt es e S).length ≤ S.flatten.length
  | [] => by simp [blkAt]
  | r :: S => by
    have h1 := blkIn_len es e r
    have h2 := blkAt_len es e S
    unfold blkAt at *
    rw [List.flatMap_cons, List.length_append, List.flatten_cons, List.length_append]
    omega
def blkN (es : List (Bool × Nm)) (e : Nat) (r : List Nm) (n : Nat) : List Nm := (List.range n).flatMap fun k => (r[k]?.toList).filter fun y => (r.take k).any fun b => gb es e b y
theorem blkN_all (es : List (Bool × Nm)) (e : Nat) (r : List Nm) : blkN es e r r.length = blkIn es e r := rfl
theorem blkN_succ (es : List (Bool × Nm)) (e : Nat) (r : List Nm) {n : Nat} (hn : n < r.length) : blkN es e r (n + 1) = blkN es e r n ++ if ((r.take n).any fun b => gb es e b r[n]) = true then [r[n]] else [] := by
  unfold blkN
  rw [List.range_succ, List.flatMap_append]
  simp only [List.flatMap_cons, List.flatMap_nil, List.append_nil, List.getElem?_eq_getElem hn, Option.toList_some, List.filter_cons, List.filter_nil]
theorem blkN_len (es : List (Bool × Nm)) (e : Nat) (r : List Nm) : ∀ n, n ≤ r.length → (blkN es e r n).length ≤ n
  | 0, _ => by simp [blkN]
  | n + 1, h => by
    have ih := blkN_len es e r n (by omega)
    rw [blkN_succ es e r (by omega), List.length_append]
    split <;> simp <;> omega
theorem zip_at {α : Type} (l : List α) (k : Nat) (h : k < (l.zipIdx 0).length) : (l.zipIdx 0)[k] = (l[k]'(by simpa using h), k) := by simp
theorem enum_nm (r : List Nm) : enumP (r.map nm) = (r.zipIdx 0).map fun p => .itm [.int ((p.2 : Nat) : Int), nm p.1] := by simp [enumP, List.zipIdx_map]
theorem evV_inj {a b : Bool × Nm} : evV a = evV b ↔ a = b := by
  constructor
  · intro h
    obtain ⟨a1, a2⟩ := a
    obtain ⟨b1, b2⟩ := b
    simp only [evV, PV.tup.injEq, List.cons.injEq, PV.str.injEq, and_true] at h
    have h2 := nm_inj h.2
    subst h2
    cases a1 <;> cases b1 <;> simp at h <;> rfl
  · rintro rfl; rfl
theorem dat_ev (k : Nat) (a : Bool × Nm) : dat (k + 1) (evV a) := fun p hp => by
  simp only [List.mem_cons, List.not_mem_nil, or_false] at hp
  rcases hp with rfl | rfl
  · split
    · cases k <;> exact sok_ofS "in"
    · cases k <;> exact sok_ofS "out"
  · exact dat_nm k _
theorem pEq_ev (a b : Bool × Nm) : pEq (evV a) (evV b) = some (.bl (decide (a = b))) := by
  by_cases h : a = b
  · rw [pEq_yes (k := 1) (by decide) (dat_ev 0 a) (dat_ev 0 b) (evV_inj.mpr h), decide_eq_true h]
  · rw [pEq_no (k := 1) (by decide) (dat_ev 0 a) (dat_ev 0 b) fun z => h (evV_inj.mp z), decide_eq_false h]
theorem going_hit {es : List (Bool × Nm)} {e k : Nat} {x : Nm} (hk : es[k]? = some (false, x)) (he : e ≤ k) (hm : ∀ m, e ≤ m → m < k → es[m]? ≠ some (false, x)) : going es e x = k := by
  obtain ⟨h1, h2⟩ := List.getElem?_eq_some_iff.mp hk
  unfold going
  have hl : k - e < (es.drop e).length := by rw [List.length_drop]; omega
  have : (es.drop e).findIdx (fun ev => decide (ev = (false, x))) = k - e := by
    rw [List.findIdx_eq hl]
    refine ⟨?_, fun j hj => ?_⟩
    · rw [List.getElem_drop]
      simp only [decide_eq_true_eq]
      rw [← h2]
      congr 1
      omega
    · rw [List.getElem_drop]
      simp only [decide_eq_false_iff_not]
      intro z
      exact hm (e + j) (by omega) (by omega) (by rw [List.getElem?_eq_getElem (by omega), z])
  rw [this]; omega
theorem going_none {es : List (Bool × Nm)} {e : Nat} {x : Nm} (he : e ≤ es.length) (hm : ∀ m, e ≤ m → m < es.length → es[m]? ≠ some (false, x)) : going es e x = es.length := by
  unfold going
  have : (es.drop e).findIdx (fun ev => decide (ev = (false, x))) = (es.drop e).length := by
    rw [List.findIdx_eq_length]
    intro ev hev
    obtain ⟨j, hj, rfl⟩ := List.mem_iff_getElem.mp hev
    rw [List.length_drop] at hj
    simp only [decide_eq_false_iff_not]
    intro z
    rw [List.getElem_drop] at z
    exact hm (e + j) (by omega) (by omega) (by rw [List.getElem?_eq_getElem (by omega), z])
  rw [this, List.length_drop]; omega
end Lp
end
section
set_option Elab.async false
set_option linter.all false
set_option maxRecDepth 100000
set_option maxHeartbeats 1000000
namespace K10
open PySem PySem.Spec L2 Lp
variable {h n : Nat} {ss ss0 : List (List Nm)} {es : List (Bool × Nm)} {s : Sts}
/-! goings -/
def partD (es : List (Bool × Nm)) (e j : Nat) (D : List (Key × PV)) : Prop := D.length ≤ j ∧ ∀ x, valP D (.inr (tx x)) = (((es.drop e).take j).findIdx? fun ev => decide (ev = (false, x))).map fun i => .int ((e + i : Nat) : Int)
theorem goings_ok (e : Nat) (he : e ≤ es.length) (hel : es.length ≤ 1000) : ∃ D, m_goings (dayV h ss es) (.int (e : Nat)) = .ok (.dK D) ∧ GoD es e D := by
  have hl := evs_len es
  have hr := pR2_nat (e := e) (n := es.length) he (by omega)
  have main : ∀ P : PV → Prop, (∀ D, GoD es e D → P (.dK D)) → ∀ B, B = b_goings [some (dayV h ss es), some (.int (e : Nat)), none, none, none, none] → B.sat { rt := P } := by
    intro P hP B hB
    rw [hB]
    simp only [b_goings]
    simp
    rw [sFor_of (ps := (List.range (es.length - e)).map fun i => .int ((e + i : Nat) : Int)) (by simp [hl, hr])]
    refine sat_next (forR_sat (List.range (es.length - e)) (fun i => .int ((e + i : Nat) : Int)) (fun j τ => ∃ D x3 x4 x5, τ = [some (dayV h ss es), some (.int (e : Nat)), some (.dK D), x3, x4, x5] ∧ partD es e j D) ⟨[], none, none, none, rfl, by simp, fun x => by simp [valP]⟩ ?_ ?_)
    · rintro j hj τ ⟨D, x3, x4, x5, rfl, hD, hv⟩
      simp only [List.length_range] at hj
      rw [List.getElem_range]
      refine ⟨_, rfl, ?_⟩
      have hlt : e + j < es.length := by omega
      obtain ⟨⟨b, y⟩, hby⟩ : ∃ ev, es[e + j] = ev := ⟨_, rfl⟩
      have ha := ev_at (es := es) (e := e + j) (b := b) (x := y) (by rw [List.getElem?_eq_getElem hlt, hby])
      have htk : (es.drop e).take (j + 1) = (es.drop e).take j ++ [(b, y)] := by
        have hj2 : j < (es.drop e).length := by rw [List.length_drop]; omega
        have h3 : (es.drop e)[j] = (b, y) := by rw [List.getElem_drop]; exact hby
        rw [List.take_succ_eq_append_getElem hj2, h3]
      have hll : ((es.drop e).take j).length = j := by rw [List.length_take, List.length_drop]; omega
      have q1 := pEq_str (sok_ofS "in") (sok_ofS "out")
      have q2 := pEq_str (sok_ofS "out") (sok_ofS "out")
      cases b
      · simp at ha
        have hvy := hv y
        by_cases hh : hasP D (.inr (tx y)) = true
        · simp [lb_goings_0, ha, q2, nm, hh]
          refine ⟨by omega, fun x => ?_⟩
          rw [htk, List.findIdx?_append, hv x]
          cases hq : ((es.drop e).take j).findIdx? fun ev => decide (ev = (false, x)) with
          | some i => simp
          | none =>
            have hne : y ≠ x := by
              rintro rfl
              rw [hasP_val, hv y, hq] at hh
              cases hh
            simp [hne]
        · have hh' : hasP D (.inr (tx y)) = false := by simpa using hh
          have hlen : D.length < 1000000 := by omega
          simp [lb_goings_0, ha, q2, nm, hh', hlen]
          refine ⟨?_, fun x => ?_⟩
          · unfold setP
            rw [hh']
            simp; omega
          · rw [htk, List.findIdx?_append]
            by_cases hxy : y = x
            · subst hxy
              rw [valP_set_same]
              have hnone : ((es.drop e).take j).findIdx? (fun ev => decide (ev = (false, y))) = none := by
                cases hq : ((es.drop e).take j).findIdx? fun ev => decide (ev = (false, y)) with
                | none => rfl
                | some i => rw [hasP_val, hv y, hq] at hh'; cases hh'
              rw [hnone]
              simp [hll]
            · have hk : (Sum.inr (tx x) : Key) ≠ .inr (tx y) := fun z => hxy (tx_inj (Sum.inr.inj z)).symm
              rw [valP_set_ne _ _ hk, hv x]
              simp [hxy]
      · simp at ha
        simp [lb_goings_0, ha, q1]
        refine ⟨by omega, fun x => ?_⟩
        rw [htk, List.findIdx?_append, hv x]
        simp
    · rintro τ ⟨D, x3, x4, x5, rfl, hD, hv⟩
      simp only [List.length_range] at hv hD
      simp
      refine hP D fun x => ?_
      rw [hv x, List.take_of_length_le (by simp), find_go he]
  obtain ⟨B, hB⟩ : ∃ B, B = b_goings [some (dayV h ss es), some (.int (e : Nat)), none, none, none, none] := ⟨_, rfl⟩
  obtain ⟨v, hv, D, hD, g⟩ := fin_sat (rm := .sh) (main (fun v => ∃ D, v = .dK D ∧ GoD es e D) (fun D g => ⟨D, rfl, g⟩) B hB)
  subst hD
  refine ⟨D, ?_, g⟩
  rw [hB] at hv
  exact hv
theorem goes_ok {e : Nat} {D : List (Key × PV)} (g : GoD es e D) (he : e ≤ es.length) (x y : Nm) : m_goes_before (.dK D) (nm x) (nm y) = .ok (.bl (gb es e x y)) := by
  have hx := g x
  have hy := g y
  have hhx := hasP_val D (.inr (tx x))
  have hhy := hasP_val D (.inr (tx y))
  rw [hx] at hhx
  rw [hy] at hhy
  have l1 := going_le he x
  have l2 := going_le he y
  unfold gb
  by_cases c1 : going es e x < es.length
  · rw [if_pos c1] at hx hhx
    by_cases c2 : going es e y < es.length
    · rw [if_pos c2] at hy hhy
      simp [m_goes_before, b_goes_before, nm, hx, hy, hhx, hhy]
    · rw [if_neg c2] at hy hhy
      have : going es e x < going es e y := by omega
      simp [m_goes_before, b_goes_before, nm, hx, hy, hhx, hhy, this]
  · rw [if_neg c1] at hx hhx
    have : ¬ going es e x < going es e y := by omega
    simp [m_goes_before, b_goes_before, nm, hx, hy, hhx, hhy, this]
end K10
end
section
set_option Elab.async false
set_option linter.all false
set_option maxRecDepth 100000
set_option maxHeartbeats 1000000
namespace K10
open PySem PySem.Spec L2 Lp
variable {h n : Nat} {ss ss0 : List (List Nm)} {es : List (Bool × Nm)} {s : Sts}
/-! who blocks, as the program reckons -/
theorem pEnum_stk (r : List Nm) (hl : r.length ≤ 1000) : pEnum [stk r] = some ((r.zipIdx 0).map fun p => .itm [.int ((p.2 : Nat) : Int), nm p.1]) := by
  rw [← enum_nm]
  show (if _ then _ else _) = _
  rw [if_pos (by simp; omega)]
theorem blocking_in_ok {e : Nat} {D : List (Key × PV)} (g : GoD es e D) (he : e ≤ es.length) (r : List Nm) (hl : r.length ≤ 1000) : m_blocking_in (.dK D) (stk r) = .ok (.lst ((blkIn es e r).map nm)) := by
  have main : ∀ P : PV → Prop, P (.lst ((blkIn es e r).map nm)) → ∀ B, B = b_blocking_in [some (.dK D), some (stk r), none, none, none, none] → B.sat { rt := P } := by
    intro P hP B hB
    rw [hB]
    simp only [b_blocking_in]
    simp
    rw [sFor_of (ps := (r.zipIdx 0).map fun p => .itm [.int ((p.2 : Nat) : Int), nm p.1]) (by simp [pEnum_stk r hl])]
    refine sat_next (forR_sat (r.zipIdx 0) (fun p => .itm [.int ((p.2 : Nat) : Int), nm p.1]) (fun k τ => ∃ x3 x4, τ = [some (.dK D), some (stk r), some (.lst ((blkN es e r k).map nm)), x3, x4, none]) ⟨none, none, by simp [blkN]⟩ ?_ ?_)
    · rintro k hk τ ⟨x3, x4, rfl⟩
      have hk' : k < r.length := by simpa using hk
      rw [zip_at]
      refine ⟨_, rfl, ?_⟩
      have sl : pSlA (stk r) none (some ((k : Nat) : Int)) = some (.tup ((r.take k).map nm)) := by
        show pSlA (.tup _) _ _ = _
        rw [pSlA_tup, cut_lo _ (by omega), Int.toNat_natCast, List.map_take]
      have l0 : ∀ x2, lc_blocking_in_0 [some (.dK D), some (stk r), x2, some (.int (k : Nat)), some (nm r[k]), none] = .ok (.lst ((r.take k).map fun b => .bl (gb es e b r[k]))) := by
        intro x2
        exact Lp.comp_map (r.take k) nm _ (by simp [sl]) fun b _ => by simp [cItem, wipeL, goes_ok g he]
      have a0 := pAny_map (fun b => gb es e b r[k]) (r.take k)
      generalize ((r.take k).map fun b => PV.bl (gb es e b r[k])) = L at l0 a0
      have hb := blkN_len es e r k (by omega)
      have ga := gApp_s (ps := (blkN es e r k).map nm) (q := nm r[k]) (by simp; omega)
      rw [blkN_succ es e r hk']
      simp only [gsC_s, gNm_s, Res.ok_bind, gTp_i]
      generalize hc : ((r.take k).any fun b => gb es e b r[k]) = c at a0 ⊢
      cases c
      · simp [lb_blocking_in_1, l0, a0]
      · simp [lb_blocking_in_1, l0, a0, ga]
    · rintro τ ⟨x3, x4, rfl⟩
      have hz : (r.zipIdx 0).length = r.length := by simp
      rw [hz, blkN_all]
      simp
      exact hP
  exact fin_eq (main (fun q => q = .lst ((blkIn es e r).map nm)) rfl _ rfl)
theorem blocking_at_ok (w : WF h n ss es s) (hh : h ≤ 100) (hel : es.length ≤ 1000) (hfl : s.2.flatten.length ≤ 1000) : m_blocking_at (dayV h ss es) (stV s) = .ok (.lst ((blkAt es s.1 s.2).map nm)) := by
  obtain ⟨D, eD, g⟩ := goings_ok (h := h) (ss := ss) s.1 w.le hel
  have p0 : pIx (stV s) (.int 0) = some (.int (s.1 : Nat)) := by simp [stV]
  have p1 : pIx (stV s) (.int 1) = some (stksV s.2) := by simp [stV]
  have l0 : lc_blocking_at_0 [some (dayV h ss es), some (stV s), some (.dK D), none, none] = .ok (.lst ((blkAt es s.1 s.2).map nm)) := by
    have e1 : s.2.flatMap (fun r => (blkIn es s.1 r).map nm) = (blkAt es s.1 s.2).map nm := by rw [blkAt, List.map_flatMap]
    rw [← e1]
    refine comp2_map s.2 stk (fun r => (blkIn es s.1 r).map nm) (by simp [p1, stksV]) (fun r hr => ?_) (by rw [e1, List.length_map]; have := blkAt_len es s.1 s.2; omega)
    have hb := blocking_in_ok g w.le r (by have := w.row r hr; omega)
    simp [kC2, wipeL, hb]
    exact (compL_map nm (fun x => some (nm x)) (blkIn es s.1 r) fun x _ => by simp [cItem]).trans (by rw [List.filterMap_eq_map'])
  simp [m_blocking_at, b_blocking_at, p0, eD, l0]
theorem blocking_ok {e p : PV} (w : WF h n ss es s) (hh : h ≤ 100) (hel : es.length ≤ 1000) (hfl : s.2.flatten.length ≤ 1000) (hne : m_need_state (dayV h ss es) e p = .ok (stV s)) : m_blocking (dayV h ss es) e p = .ok (stk (blkAt es s.1 s.2)) := by
  have hb := blocking_at_ok w hh hel hfl
  simp [m_blocking, b_blocking, hne, hb, stk]
theorem blocking_no {dy e p : PV} {c fs} (hne : m_need_state dy e p = .exc c fs) : m_blocking dy e p = .exc c fs := by
  simp [m_blocking, b_blocking, hne]
theorem low_ok {e p : PV} (w : WF h n ss es s) (hh : h ≤ 100) (hel : es.length ≤ 1000) (hfl : s.2.flatten.length ≤ 1000) (hne : m_need_state (dayV h ss es) e p = .ok (stV s)) : m_low_bound (dayV h ss es) e p = .ok (.int ((blkAt es s.1 s.2).length : Nat)) := by
  have hb := blocking_ok w hh hel hfl hne
  have hl : pLen [stk (blkAt es s.1 s.2)] = some (.int ((blkAt es s.1 s.2).length : Nat)) := by simp [stk]
  simp [m_low_bound, b_low_bound, hb, hl]
theorem low_no {dy e p : PV} {c fs} (hne : m_need_state dy e p = .exc c fs) : m_low_bound dy e p = .exc c fs := by
  simp [m_low_bound, b_low_bound, blocking_no hne]
/-! above a box -/
theorem blocked_rows {dy e p q : PV} (hne : m_need_state dy e p = .ok (stV s)) (c : List Nm → Bool) (hin : ∀ r ∈ s.2, pInA false q (stk r) = some (.bl (c r))) : lc_blocked_by_0 [some dy, some e, some p, some q, none, none, none, none, none] = .ok (.lst ((s.2.filter c).map stk)) := by
  have p1 : pIx (stV s) (.int 1) = some (stksV s.2) := by simp [stV]
  refine comp_filter s.2 stk stk c (by simp [hne, p1, stksV]) fun r hr => ?_
  simp [cItem, wipeL, hin r hr]
  split <;> rfl
theorem blocked_no {dy e p q : PV} {c fs} (hne : m_need_state dy e p = .exc c fs) : m_blocked_by dy e p q = .exc c fs := by
  have l0 : lc_blocked_by_0 [some dy, some e, some p, some q, none, none, none, none, none] = .exc c fs := by simp [lc_blocked_by_0, eComp, hne]
  simp [m_blocked_by, b_blocked_by, l0]
theorem blocked_unknown {dy e p q : PV} (hne : m_need_state dy e p = .ok (stV s)) (hin : ∀ r ∈ s.2, pInA false q (stk r) = some (.bl false)) : m_blocked_by dy e p q = .exc 4 [(("name" : Str), q)] := by
  have l0 := blocked_rows hne (fun _ => false) hin
  have : (s.2.filter fun _ => false) = [] := List.filter_eq_nil_iff.mpr (by simp)
  rw [this] at l0
  simp [m_blocked_by, b_blocked_by, l0]
theorem filter_row (w : WF h n ss es s) {i : Nat} (hi : i < s.2.length) {x : Nm} (hx : x ∈ s.2[i]) : ∃ R, s.2.filter (fun r => decide (x ∈ r)) = s.2[i] :: R := by
  cases hq : s.2.filter fun r => decide (x ∈ r) with
  | nil =>
    have := List.filter_eq_nil_iff.mp hq _ (List.getElem_mem hi)
    simp [hx] at this
  | cons a R =>
    have ha : a ∈ s.2.filter fun r => decide (x ∈ r) := by rw [hq]; exact List.mem_cons_self
    obtain ⟨h1, h2⟩ := List.mem_filter.mp ha
    obtain ⟨j, hj, e⟩ := List.mem_iff_getElem.mp h1
    have : j = i := nodup_row w.nd hj hi (x := x) (by rw [e]; simpa using h2) hx
    subst this
    exact ⟨R, by rw [e]⟩
theorem blocked_ok {p : PV} (w : WF h n ss es s) (hh : h ≤ 100) (hel : es.length ≤ 1000) (hne : m_need_state (dayV h ss es) (.int (s.1 : Nat)) p = .ok (stV s)) {i : Nat} (hi : i < s.2.length) {k : Nat} (hk : k < s.2[i].length) :
    m_blocked_by (dayV h ss es) (.int (s.1 : Nat)) p (nm s.2[i][k]) = .ok (stk (blkBy es s.1 s.2[i] k s.2[i][k])) := by
  obtain ⟨D, eD, g⟩ := goings_ok (h := h) (ss := ss) s.1 w.le hel
  have hmem : s.2[i] ∈ s.2 := List.getElem_mem hi
  have hrow := w.row _ hmem
  have hndr : s.2[i].Nodup := by
    obtain ⟨a, b, e⟩ := List.append_of_mem hmem
    have := w.nd
    rw [e, List.flatten_append, List.flatten_cons] at this
    exact (List.nodup_append.mp (List.nodup_append.mp this).2.1).1
  have hx : s.2[i][k] ∈ s.2[i] := List.getElem_mem hk
  have hid : s.2[i].idxOf s.2[i][k] = k := first_idx _ _ _ (List.getElem?_eq_getElem hk) fun m hm e => by
    obtain ⟨h1, h2⟩ := List.getElem?_eq_some_iff.mp e
    exact (List.pairwise_iff_getElem.mp hndr) m k h1 hk hm h2
  have l0 := blocked_rows hne (fun r => decide (s.2[i][k] ∈ r)) (q := nm s.2[i][k]) fun r _ => by rw [pInA_stk]; simp
  obtain ⟨R, hR⟩ := filter_row w hi hx
  rw [hR] at l0
  have hin := idx_nm hx
  rw [hid] at hin
  generalize s.2[i][k] = x at *
  generalize s.2[i] = r at *
  have sl : pSlA (stk r) (some (((k : Nat) : Int) + 1)) none = some (.tup ((r.drop (k + 1)).map nm)) := by
    show pSlA (.tup _) _ _ = _
    rw [pSlA_tup, cut_hi _ (by omega), show (((k : Nat) : Int) + 1).toNat = k + 1 by omega, List.map_drop]
  have l1 : ∀ x7, lc_blocked_by_1 [some (dayV h ss es), some (.int (s.1 : Nat)), some p, some (nm x), some (.lst ((r :: R).map stk)), some (.dK D), some (.tup ((r.drop (k + 1)).map nm)), x7, none] = .ok (.lst ((blkBy es s.1 r k x).map nm)) := by
    intro x7
    refine comp_filter (r.drop (k + 1)) nm nm (fun y => gb es s.1 x y) (by simp) fun y _ => ?_
    simp [cItem, wipeL, goes_ok g w.le]
    split <;> rfl
  have hl : pLen [.lst ((r :: R).map stk)] = some (.int ((R.length : Nat) + 1)) := by simp
  have hl0 : ¬ (((R.length : Nat) : Int) + 1 = 0) := by omega
  have i0 : atI ((r :: R).map stk) 0 = some (stk r) := by rw [List.map_cons, atI_c0]
  generalize (r :: R).map stk = RR at l0 l1 hl i0
  generalize (r.drop (k + 1)).map nm = AB at sl l1
  have hst : PV.tup ((blkBy es s.1 r k x).map nm) = stk (blkBy es s.1 r k x) := rfl
  simp [m_blocked_by, b_blocked_by, l0, hl, hl0, eD, i0, eIdx, hin, sl, l1, hst, -pLen_lst]
end K10
end
section
set_option Elab.async false
set_option linter.all false
set_option maxRecDepth 100000
set_option maxHeartbeats 2000000
namespace K10
open PySem PySem.Spec L2 Lp
/-! the law's values that are no states -/
theorem bad_names (h n : Nat) (hk : List Nm) (ss : List (List Nm)) (hn : ∀ x ∈ ss.flatten, vnm x) (hl : ss.flatten.length ≤ 63) (hs : ss.length ≤ 900) (hb : ss.length ≠ n ∨ ¬ ss.flatten.Perm hk ∨ ¬ ss.flatten.Nodup ∨ ¬ ∀ s ∈ ss, s.length ≤ h) : badS h n hk (stksV ss) :=
  ⟨no_names h n hk ss hn hl hb, pl_stks 3 ss (by omega) fun r hr => by
    have : r.length ≤ ss.flatten.length := by
      obtain ⟨a, b, rfl⟩ := List.append_of_mem hr
      simp; omega
    omega⟩
theorem bad_item (h n : Nat) (hk : List Nm) (rs : List (List PV)) (hit : ∀ q ∈ rs.flatten, itC q ∧ plE 3 q) (hl : rs.flatten.length ≤ 900) (hs : rs.length ≤ 900) (hb : ∃ q ∈ rs.flatten, isNm q = false) : badS h n hk (.tup (rs.map .tup)) :=
  ⟨no_item h n hk rs (fun q hq => (hit q hq).1) (by omega) hb, pl_tup (by simp; omega) fun p hp => by
    obtain ⟨r, hr, rfl⟩ := List.mem_map.mp hp
    refine pl_tup ?_ fun q hq => (hit q (List.mem_flatten.mpr ⟨r, hr, hq⟩)).2
    have : r.length ≤ rs.flatten.length := by
      obtain ⟨a, b, rfl⟩ := List.append_of_mem hr
      simp; omega
    omega⟩
theorem bad_row (h n : Nat) (hk : List Nm) (ps : List PV) (hs : ∀ p ∈ ps, seqR p ∧ plE 4 p) (hl : ps.length ≤ 900) (hb : ∃ p ∈ ps, seqB p = false) : badS h n hk (.tup ps) :=
  ⟨no_row h n hk ps (fun p hp => (hs p hp).1) hb, pl_tup (by omega) fun p hp => (hs p hp).2⟩
theorem put_fn (A B : List PV) (h : A.length + B.length ≤ 9000) : ∃ F G : PV → PV, (∀ q, pAddA (.tup A) (.tup [q]) = some (F q)) ∧ (∀ q, pAddA (F q) (.tup B) = some (G q)) ∧ ∀ q, G q = .tup (A ++ q :: B) :=
  ⟨fun q => .tup (A ++ [q]), fun q => .tup (A ++ q :: B), fun q => add_tup A [q] (by simp; omega), fun q => by
    rw [add_tup (A ++ [q]) B (by simp; omega)]; simp, fun q => rfl⟩
theorem join_nm (r : List Nm) (hr : r.length ≤ 100) (hv : ∀ x ∈ r, vnm x) : pJoin (Str.ofString "") (stk r) = some (.str (tx r.flatten)) := by
  show joinOk _ (r.map nm) = _
  unfold joinOk
  rw [strs_nm]
  have h0 : (Str.ofString "").length = 0 := by decide +kernel
  have hs : ∀ r : List Nm, (∀ x ∈ r, vnm x) → ((r.map tx).map fun s => s.length).sum ≤ 8 * r.length := by
    intro r
    induction r with
    | nil => intro _; simp
    | cons x r ih =>
      intro h
      have h1 := ih fun y hy => h y (List.mem_cons_of_mem _ hy)
      have h2 := (h x List.mem_cons_self).2
      have h3 := len_tx x
      simp only [List.map_cons, List.sum_cons, List.length_cons]
      omega
  have := hs r hv
  dsimp only
  rw [if_pos (by rw [h0]; omega), join_tx]
theorem nodup_len {α : Type} [DecidableEq α] : ∀ {l m : List α}, l.Nodup → (∀ x ∈ l, x ∈ m) → l.length ≤ m.length
  | [], _, _, _ => Nat.zero_le _
  | x :: l, m, hn, h => by
    rw [List.nodup_cons] at hn
    have hx := h x List.mem_cons_self
    have ih := nodup_len (l := l) (m := m.erase x) hn.2 fun y hy => by
      refine (List.mem_erase_of_ne ?_).mpr (h y (List.mem_cons_of_mem _ hy))
      rintro rfl
      exact hn.1 hy
    rw [List.length_erase_of_mem hx] at ih
    have := List.length_pos_of_mem hx
    simp only [List.length_cons]
    omega
theorem pl_str' (k : Nat) {x : Str} (h : sok x) : plE k (.str x) := by cases k <;> exact h
theorem it_nm {x : Nm} (h : vnm x) : itC (nm x) ∧ plE 3 (nm x) := ⟨.inl ⟨x, h, rfl⟩, pl_nm 3 x⟩
theorem split_at {α : Type} (l : List α) {k : Nat} (h : k < l.length) : ∃ u y v, l = u ++ y :: v ∧ u.length = k := ⟨l.take k, l[k], l.drop (k + 1), by rw [← List.drop_eq_getElem_cons h, List.take_append_drop], by simp; omega⟩
theorem split_le {α : Type} (l : List α) {k : Nat} (h : k ≤ l.length) : ∃ u v, l = u ++ v ∧ u.length = k := ⟨l.take k, l.drop k, by rw [List.take_append_drop], by simp; omega⟩
theorem rowsG (A : List (List Nm)) (r : List Nm) (B : List (List Nm)) : PV.tup (A.map stk ++ stk r :: B.map stk) = stksV (A ++ r :: B) := by simp [stksV]
theorem bad_states_ok {h n : Nat} {hk : List Nm} (ns : List Int) (k : Nat) (S : List (List Nm)) (ls : List Nm) (hl12 : ls.length = 12) (hlnd : ls.Nodup) (hlv : ∀ x ∈ ls, vnm x) (hn : S.length = n) (hn1 : 1 ≤ n) (hn5 : n ≤ 5) (hh : h ≤ 5) (hrow : ∀ s ∈ S, s.length ≤ h) (hnd : S.flatten.Nodup) (hsub : ∀ x ∈ S.flatten, x ∈ ls) (h10 : S.flatten.length ≤ 10) (hp : S.flatten.Perm hk) :
    ∃ L, m__law_bad_states (.scr ns) (.int (k : Nat)) (.int (h : Nat)) (stksV S) (.lst (ls.map nm)) = .ok (.lst L) ∧ ∀ q ∈ L, badS h n hk q := by
  obtain ⟨ds, ed, dl, db⟩ := draws_ok ns k [5, 6, 12] (by decide) (by decide)
  obtain ⟨d0, d1, d2, rfl⟩ : ∃ a b c, ds = [a, b, c] := by
    match ds, dl with
    | [a, b, c], _ => exact ⟨a, b, c, rfl⟩
  have ed : m__law_draws (.scr ns) (.int (k : Nat)) (.lst [.int 5, .int 6, .int 12]) = .ok (.lst [.int d0, .int d1, .int d2]) := ed
  obtain ⟨at0, hat, hat2⟩ := mod_nat (m := d0) (n := S.length) (by omega)
  have md0 := pMod_int (i := d0) (j := (S.length : Nat)) (by omega)
  rw [hat] at md0
  obtain ⟨A, r, B, hS, hA⟩ := split_at S hat2
  have hlen : pLen [stksV S] = some (.int (S.length : Nat)) := by simp [stksV]
  have ixr : pIx (stksV S) (.int (at0 : Nat)) = some (stk r) := by
    show atI (S.map stk) _ = _
    rw [atN, hS, List.map_append, List.getElem?_append_right (by simp; omega)]
    simp [hA]
  have hBl : B.length ≤ 5 := by have := congrArg List.length hS; simp at this; omega
  have hAl : A.length ≤ 5 := by omega
  have sA : pSlA (stksV S) none (some ((at0 : Nat) : Int)) = some (.tup (A.map stk)) := by
    show pSlA (.tup (S.map stk)) _ _ = _
    rw [pSlA_tup, cut_lo _ (by omega), Int.toNat_natCast, hS, List.map_append, List.take_append_of_le_length (by simp; omega), List.take_of_length_le (by simp; omega)]
  have sB : pSlA (stksV S) (some (((at0 : Nat) : Int) + 1)) none = some (.tup (B.map stk)) := by
    show pSlA (.tup (S.map stk)) _ _ = _
    rw [pSlA_tup, cut_hi _ (by omega), show (((at0 : Nat) : Int) + 1).toNat = at0 + 1 by omega, hS]
    have : List.drop (at0 + 1) (List.map stk (A ++ r :: B)) = B.map stk := by
      rw [List.map_append, List.map_cons, List.drop_append, List.drop_of_length_le (by simp; omega)]
      simp [hA]
    rw [this]
  have hrS : r ∈ S := by rw [hS]; simp
  have hrl := hrow r hrS
  have hrf : ∀ x ∈ r, x ∈ S.flatten := fun x hx => List.mem_flatten.mpr ⟨r, hrS, hx⟩
  have hv : ∀ x ∈ S.flatten, vnm x := fun x hx => hlv x (hsub x hx)
  have hAv : ∀ x ∈ A.flatten, vnm x := fun x hx => hv x (by rw [hS]; simp only [List.flatten_append, List.mem_append]; exact .inl hx)
  have hBv : ∀ x ∈ B.flatten, vnm x := fun x hx => hv x (by rw [hS]; simp only [List.flatten_append, List.flatten_cons, List.mem_append]; exact .inr (.inr hx))
  have hrv : ∀ x ∈ r, vnm x := fun x hx => hv x (hrf x hx)
  have hfl : S.flatten.length = A.flatten.length + (r.length + B.flatten.length) := by rw [hS]; simp
  have hpl := hp.length_eq
  obtain ⟨F, G, p1, p2, hG⟩ := put_fn (A.map stk) (B.map stk) (by simp; omega)
  -- the first place
  obtain ⟨pl, hpl1, hpl2⟩ := mod_nat (m := d1) (n := r.length + 1) (by omega)
  have md1 : pMod (.int d1) (.int (1 + (r.length : Nat))) = some (.int ((pl : Nat) : Int)) := by
    rw [pMod_int (by omega), show (1 + (r.length : Int)) = ((r.length + 1 : Nat) : Int) by omega, hpl1]
  have lr : pLen [stk r] = some (.int (r.length : Nat)) := by simp [stk]
  obtain ⟨u, v, huv, hul⟩ := split_le r (k := pl) (by omega)
  have su : ∀ {u v : List Nm} {pl : Nat}, r = u ++ v → u.length = pl → pSlA (stk r) none (some ((pl : Nat) : Int)) = some (.tup (u.map nm)) := fun {u v pl} huv hul => by
    show pSlA (.tup (r.map nm)) _ _ = _
    rw [pSlA_tup, cut_lo _ (by omega), Int.toNat_natCast, huv, List.map_append, List.take_append_of_le_length (by simp; omega), List.take_of_length_le (by simp; omega)]
  have sv : ∀ {u v : List Nm} {pl : Nat}, r = u ++ v → u.length = pl → pSlA (stk r) (some ((pl : Nat) : Int)) none = some (.tup (v.map nm)) := fun {u v pl} huv hul => by
    show pSlA (.tup (r.map nm)) _ _ = _
    rw [pSlA_tup, cut_hi _ (by omega), Int.toNat_natCast, huv, List.map_append, List.drop_append, List.drop_of_length_le (by simp; omega)]
    simp [hul]
  have su0 := su huv hul
  have sv0 := sv huv hul
  have huvl : r.length = u.length + v.length := by rw [huv]; simp
  obtain ⟨F1, G1, p3, p4, hG1⟩ := put_fn (u.map nm) (v.map nm) (by simp; omega)
  have hbx := boxes2 S (by omega)
  -- who is away
  have l0 : lc__law_bad_states_0 [some (.scr ns), some (.int (k : Nat)), some (.int (h : Nat)), some (stksV S), some (.lst (ls.map nm)), some (.lst [.int d0, .int d1, .int d2]), some (.int (at0 : Nat)), some (stk r), some (.int (pl : Nat)), some (.lst (S.flatten.map nm)), none, none, none, none] = .ok (.lst ((ls.filter fun x => !decide (x ∈ S.flatten)).map nm)) := by
    refine comp_filter ls nm nm _ (by simp) fun x _ => ?_
    simp [cItem, wipeL, pInA_nm, -List.map_flatten, -List.mem_flatten]
    split <;> simp_all
  obtain ⟨a, aw, haw⟩ : ∃ a aw, (ls.filter fun x => !decide (x ∈ S.flatten)) = a :: aw := by
    cases hq : ls.filter fun x => !decide (x ∈ S.flatten) with
    | cons a aw => exact ⟨a, aw, rfl⟩
    | nil =>
      exfalso
      have hall : ∀ x ∈ ls, x ∈ S.flatten := fun x hx => by
        have := List.filter_eq_nil_iff.mp hq x hx
        simpa using this
      have := nodup_len hlnd hall
      omega
  have ha := List.mem_filter.mp (haw ▸ List.mem_cons_self : a ∈ ls.filter fun x => !decide (x ∈ S.flatten))
  have hav := hlv a ha.1
  have hano : a ∉ S.flatten := by simpa using ha.2
  rw [haw] at l0
  have ia : atI ((a :: aw).map nm) 0 = some (nm a) := by rw [List.map_cons, atI_c0]
  generalize (a :: aw).map nm = AW at l0 ia
  obtain ⟨q4, hq4, bq4⟩ : ∃ q, pAddA (stksV S) (.tup [.tup []]) = some q ∧ badS h n hk q := by
    refine ⟨_, add_tup (S.map stk) [.tup []] (by simp; omega), ?_⟩
    have : PV.tup (S.map stk ++ [.tup []]) = stksV (S ++ [[]]) := by simp [stksV, stk]
    rw [this]
    exact bad_names h n hk _ (by simpa using hv) (by simp at h10 ⊢; omega) (by simp; omega) (.inl (by simp; omega))
  obtain ⟨q5, hq5, bq5⟩ : ∃ q, pSlA (stksV S) none (some (-1)) = some q ∧ badS h n hk q := by
    refine ⟨stksV S.dropLast, ?_, ?_⟩
    · show pSlA (.tup (S.map stk)) _ _ = _
      rw [pSlA_tup, cut_m1, ← List.map_dropLast]; rfl
    · have hsl : S.dropLast.flatten.Sublist S.flatten := by
        have e := congrArg List.flatten (drop_last S)
        rw [List.flatten_append] at e
        rw [← e]
        exact List.sublist_append_left _ _
      refine bad_names h n hk _ (fun x hx => hv x (hsl.subset hx)) (by have := hsl.length_le; omega) (by simp; omega) (.inl (by simp; omega))
  obtain ⟨q8, hq8, bq8⟩ : ∃ q, pAddA (.tup [.tup []]) (stksV S) = some q ∧ badS h n hk q := by
    refine ⟨_, add_tup [.tup []] (S.map stk) (by simp; omega), ?_⟩
    have : PV.tup ([.tup []] ++ S.map stk) = stksV ([] :: S) := by simp [stksV, stk]
    rw [this]
    exact bad_names h n hk _ (by simpa using hv) (by simp at h10 ⊢; omega) (by simp; omega) (.inl (by simp; omega))
  have stkP : ∀ s ∈ S, seqR (stk s) ∧ plE 4 (stk s) := fun s hs => ⟨trivial, pl_stk 3 s (by have := hrow s hs; omega)⟩
  have hAS : ∀ s ∈ A, s ∈ S := fun s hs => by rw [hS]; exact List.mem_append_left _ hs
  have hBS : ∀ s ∈ B, s ∈ S := fun s hs => by rw [hS]; exact List.mem_append_right _ (List.mem_cons_of_mem _ hs)
  have bRow : ∀ q, seqR q → plE 4 q → seqB q = false → badS h n hk (G q) := fun q h1 h2 h3 => by
    rw [hG]
    refine bad_row h n hk _ (fun p hp => ?_) (by simp; omega) ⟨q, by simp, h3⟩
    rcases List.mem_append.mp hp with hp | hp
    · obtain ⟨s, hs, rfl⟩ := List.mem_map.mp hp
      exact stkP s (hAS s hs)
    · rcases List.mem_cons.mp hp with rfl | hp
      · exact ⟨h1, h2⟩
      · obtain ⟨s, hs, rfl⟩ := List.mem_map.mp hp
        exact stkP s (hBS s hs)
  have b6 := bRow .non trivial trivial rfl
  have b7 : badS h n hk (.tup [stksV S]) := by
    have : PV.tup [stksV S] = .tup ([S.map stk].map .tup) := rfl
    rw [this]
    refine bad_item h n hk _ (fun q hq => ?_) (by simp; omega) (by simp) ?_
    · simp only [List.flatten_cons, List.flatten_nil, List.append_nil] at hq
      obtain ⟨s, hs, rfl⟩ := List.mem_map.mp hq
      exact ⟨.inr (.inr (.inr ⟨_, rfl⟩)), pl_stk 2 s (by have := hrow s hs; omega)⟩
    · exact ⟨stk r, by simpa using List.mem_map.mpr ⟨r, hrS, rfl⟩, rfl⟩
  -- a row with another text in it
  have bItem : ∀ (u v : List Nm) (q : PV), (∀ x ∈ u, vnm x) → (∀ x ∈ v, vnm x) → u.length ≤ 5 → v.length ≤ 5 → itC q → plE 3 q → isNm q = false → badS h n hk (G (.tup (u.map nm ++ q :: v.map nm))) := fun u v q hu hv' l1 l2 c1 c2 c3 => by
    rw [hG]
    have : PV.tup (A.map stk ++ PV.tup (u.map nm ++ q :: v.map nm) :: B.map stk) = .tup ((A.map (·.map nm) ++ (u.map nm ++ q :: v.map nm) :: B.map (·.map nm)).map .tup) := by
      have hs : stk = fun s => PV.tup (s.map nm) := rfl
      rw [hs]
      simp [Function.comp_def]
    rw [this]
    refine bad_item h n hk _ (fun p hp => ?_) ?_ (by simp; omega) ⟨q, by simp, c3⟩
    · simp only [List.flatten_append, List.flatten_cons, List.mem_append, List.mem_cons] at hp
      have fm : ∀ (C : List (List Nm)), p ∈ (C.map (·.map nm)).flatten → (∀ x ∈ C.flatten, vnm x) → itC p ∧ plE 3 p := fun C hC hvC => by
        rw [← List.map_flatten] at hC
        obtain ⟨x, hx, rfl⟩ := List.mem_map.mp hC
        exact it_nm (hvC x hx)
      rcases hp with hp | (hp | rfl | hp) | hp
      · exact fm A hp hAv
      · obtain ⟨x, hx, rfl⟩ := List.mem_map.mp hp
        exact it_nm (hu x hx)
      · exact ⟨c1, c2⟩
      · obtain ⟨x, hx, rfl⟩ := List.mem_map.mp hp
        exact it_nm (hv' x hx)
      · exact fm B hp hBv
    · rw [List.flatten_append, List.flatten_cons, ← List.map_flatten, ← List.map_flatten]
      simp only [List.length_append, List.length_map, List.length_cons]
      omega
  -- a row of names
  have bName : ∀ (w : List Nm), (∀ x ∈ w, vnm x) → w.length ≤ 6 → (w.length ≠ r.length ∨ a ∈ w) → badS h n hk (G (stk w)) := fun w hw wl wc => by
    rw [hG, rowsG]
    have hf : (A ++ w :: B).flatten.length = A.flatten.length + (w.length + B.flatten.length) := by simp
    refine bad_names h n hk _ (fun x hx => ?_) (by omega) (by simp; omega) (.inr (.inl fun hp2 => ?_))
    · simp only [List.flatten_append, List.flatten_cons, List.mem_append] at hx
      rcases hx with hx | hx | hx
      · exact hAv x hx
      · exact hw x hx
      · exact hBv x hx
    · have := hp2.length_eq
      rcases wc with wc | wc
      · omega
      · exact hano (hp.symm.subset (hp2.subset (by simp only [List.flatten_append, List.flatten_cons, List.mem_append]; exact .inr (.inl wc))))
  have strE : itC (.str (Str.ofString "")) ∧ plE 3 (.str (Str.ofString "")) ∧ isNm (.str (Str.ofString "")) = false := ⟨.inr (.inl rfl), sok_ofS "", by decide +kernel⟩
  have memv : ∀ {u v : List Nm} {x : Nm}, r = u ++ v → vnm x → (∀ y ∈ u, vnm y) ∧ (∀ y ∈ v, vnm y) ∧ ∀ y ∈ u ++ x :: v, vnm y := fun {u v x} e hx => by
    have h1 : ∀ y ∈ u, vnm y := fun y hy => hrv y (by rw [e]; exact List.mem_append_left _ hy)
    have h2 : ∀ y ∈ v, vnm y := fun y hy => hrv y (by rw [e]; exact List.mem_append_right _ hy)
    refine ⟨h1, h2, fun y hy => ?_⟩
    rcases List.mem_append.mp hy with hy | hy
    · exact h1 y hy
    · rcases List.mem_cons.mp hy with rfl | hy
      · exact hx
      · exact h2 y hy
  have stkP2 : ∀ (u v : List Nm) (x : Nm), PV.tup (u.map nm ++ nm x :: v.map nm) = stk (u ++ x :: v) := fun u v x => by simp [stk]
  obtain ⟨hu1, hv1, huav⟩ := memv huv hav
  have b9 : badS h n hk (G (G1 (nm a))) := by
    rw [hG1, stkP2]
    exact bName _ huav (by simp; omega) (.inl (by simp; omega))
  have b10 : badS h n hk (G (G1 (.str (Str.ofString "")))) := by
    rw [hG1]
    exact bItem u v _ hu1 hv1 (by omega) (by omega) strE.1 strE.2.1 strE.2.2
  have jr := join_nm r (by omega) hrv
  have bj : badS h n hk (G (.str (tx r.flatten))) := bRow _ trivial (pl_str' 4 (sok_tx _)) rfl
  have lj : ∀ x8 x10 x11 x12, lc__law_bad_states_1 [some (.scr ns), some (.int (k : Nat)), some (.int (h : Nat)), some (stksV S), some (.lst (ls.map nm)), some (.lst [.int d0, .int d1, .int d2]), some (.int (at0 : Nat)), some (stk r), x8, some (.lst (S.flatten.map nm)), x10, x11, x12, none] = .ok (.lst (S.map fun s => .str (tx s.flatten))) := fun x8 x10 x11 x12 => by
    refine comp_map S stk _ (by simp [stksV]) fun s hs => ?_
    have := join_nm s (by have := hrow s hs; omega) (fun x hx => hv x (List.mem_flatten.mpr ⟨s, hs, hx⟩))
    simp [cItem, wipeL, this]
  have bjs : badS h n hk (.tup (S.map fun s => .str (tx s.flatten))) := by
    refine bad_row h n hk _ (fun p hp => ?_) (by simp; omega) ⟨.str (tx r.flatten), List.mem_map.mpr ⟨r, hrS, rfl⟩, rfl⟩
    obtain ⟨s, hs, rfl⟩ := List.mem_map.mp hp
    exact ⟨trivial, pl_str' 4 (sok_tx _)⟩
  generalize (S.map fun s => PV.str (tx s.flatten)) = JS at lj bjs
  generalize PV.str (tx r.flatten) = jv at jr bj
  have sl1 : pSlA (stksV S) (some 1) none = some (.tup ((S.drop 1).map stk)) := by
    show pSlA (.tup (S.map stk)) _ _ = _
    rw [pSlA_tup, cut_hi _ (by omega), ← List.map_drop]; rfl
  have le : ∀ x8 x10 x11 x12, lc__law_bad_states_2 [some (.scr ns), some (.int (k : Nat)), some (.int (h : Nat)), some (stksV S), some (.lst (ls.map nm)), some (.lst [.int d0, .int d1, .int d2]), some (.int (at0 : Nat)), some (stk r), x8, some (.lst (S.flatten.map nm)), x10, x11, x12, none] = .ok (.lst ((S.drop 1).map fun _ => .tup [])) := fun x8 x10 x11 x12 =>
    comp_map (S.drop 1) stk _ (by simp [sl1]) fun s hs => by simp [cItem, wipeL]
  obtain ⟨q18, hq18, bq18⟩ : ∃ q, pAddA (.tup [.tup (S.flatten.map nm)]) (.tup ((S.drop 1).map fun _ => .tup [])) = some q ∧ (h < S.flatten.length → badS h n hk q) := by
    refine ⟨_, add_tup [.tup (S.flatten.map nm)] ((S.drop 1).map fun _ => .tup []) (by simp; omega), fun hlt => ?_⟩
    have : PV.tup ([.tup (S.flatten.map nm)] ++ (S.drop 1).map fun _ => .tup []) = stksV (S.flatten :: (S.drop 1).map fun _ => []) := by
      simp [stksV, stk, -List.map_flatten, Function.comp_def]
    rw [this]
    have hf : (S.flatten :: (S.drop 1).map fun _ => ([] : List Nm)).flatten = S.flatten := by
      have : ∀ m : List (List Nm), (m.map fun _ => ([] : List Nm)).flatten = [] := fun m => by induction m <;> simp_all
      rw [List.flatten_cons, this, List.append_nil]
    refine bad_names h n hk _ (by rw [hf]; exact hv) (by rw [hf]; omega) (by simp; omega) (.inr (.inr (.inr fun z => ?_)))
    have := z S.flatten List.mem_cons_self
    omega
  generalize ((S.drop 1).map fun _ => PV.tup []) = ES at le hq18
  have hbl : pLen [.lst (S.flatten.map nm)] = some (.int (S.flatten.length : Nat)) := by rw [pLen_lst, List.length_map]
  have tb : pTuple [.lst (S.flatten.map nm)] = some (.tup (S.flatten.map nm)) := rfl
  have ixb : 0 < S.flatten.length → ∃ (b : Nat) (x : Nm), pMod (.int d2) (.int (S.flatten.length : Nat)) = some (.int (b : Nat)) ∧ atI (S.flatten.map nm) ((b : Nat) : Int) = some (nm x) ∧ vnm x := fun h0 => by
    obtain ⟨b, hb1, hb2⟩ := mod_nat (m := d2) (n := S.flatten.length) h0
    have md := pMod_int (i := d2) (j := (S.flatten.length : Nat)) (by omega)
    rw [hb1] at md
    exact ⟨b, _, md, nm_at hb2, hv _ (List.getElem_mem hb2)⟩
  have abE : badS h n hk (.str (Str.ofString "ab")) := ⟨.inl (as_stacks_no h (.inr (.inr ⟨_, rfl⟩))), sok_ofS "ab"⟩
  have nonE : badS h n hk .non := ⟨.inl (as_stacks_no h (.inl rfl)), trivial⟩
  have intE : badS h n hk (.int 3) := ⟨.inl (as_stacks_no h (.inr (.inl ⟨_, rfl⟩))), trivial⟩
  have nilE : badS h n hk (.tup []) := ⟨.inl (as_stacks_nil h), pl_tup (by simp) (by simp)⟩
  have main : ∀ P : PV → Prop, (∀ L, (∀ q ∈ L, badS h n hk q) → P (.lst L)) → (b__law_bad_states [some (.scr ns), some (.int (k : Nat)), some (.int (h : Nat)), some (stksV S), some (.lst (ls.map nm)), none, none, none, none, none, none, none, none, none]).sat { rt := P } := by
    intro P hP
    generalize hBX : S.flatten.map nm = BX at hbx l0 lj le hq18 hbl tb ixb
    generalize hBL : S.flatten.length = bl at *
    have gA := fun (ps : List PV) (q : PV) (hps : ps.length < 1000000) => gApp_s (ps := ps) (q := q) hps
    by_cases hr0 : r.length = 0
    · have md1' : pMod (.int d1) (.int 1) = some (.int ((pl : Nat) : Int)) := by simpa [hr0] using md1
      by_cases hc : 0 < bl
      · obtain ⟨b, x, mb, xb, hxv⟩ := ixb hc
        have b15 : badS h n hk (G (G1 (nm x))) := by
          rw [hG1, stkP2]
          exact bName _ (memv huv hxv).2.2 (by simp; omega) (.inl (by simp; omega))
        by_cases hc2 : h < bl
        · have hq18' := bq18 hc2
          simp [b__law_bad_states, ed, md0, hlen, ixr, lr, md1', hbx, l0, hq4, hq5, hq8, sA, sB, p1, p2, su0, sv0, p3, p4, ia, hr0, hbl, hc, mb, xb, jr, lj, le, hc2, tb, hq18, gApp_s]
          refine hP _ ?_
          simp only [List.mem_cons, List.not_mem_nil, or_false, forall_eq_or_imp, forall_eq]
          exact ⟨nonE, intE, abE, nilE, bq4, bq5, b6, b7, bq8, b9, b10, b15, bj, bjs, hq18'⟩
        · simp [b__law_bad_states, ed, md0, hlen, ixr, lr, md1', hbx, l0, hq4, hq5, hq8, sA, sB, p1, p2, su0, sv0, p3, p4, ia, hr0, hbl, hc, mb, xb, jr, lj, le, hc2, tb, gApp_s]
          refine hP _ ?_
          simp only [List.mem_cons, List.not_mem_nil, or_false, forall_eq_or_imp, forall_eq]
          exact ⟨nonE, intE, abE, nilE, bq4, bq5, b6, b7, bq8, b9, b10, b15, bj, bjs⟩
      · have hc2 : ¬ h < bl := by omega
        simp [b__law_bad_states, ed, md0, hlen, ixr, lr, md1', hbx, l0, hq4, hq5, hq8, sA, sB, p1, p2, su0, sv0, p3, p4, ia, hr0, hbl, hc, jr, lj, le, hc2, tb, gApp_s]
        refine hP _ ?_
        simp only [List.mem_cons, List.not_mem_nil, or_false, forall_eq_or_imp, forall_eq]
        exact ⟨nonE, intE, abE, nilE, bq4, bq5, b6, b7, bq8, b9, b10, bj, bjs⟩
    · have hr1 : 0 < r.length := by omega
      obtain ⟨pm, hpm, hpm2⟩ := mod_nat (m := d1) (n := r.length) hr1
      have md2 := pMod_int (i := d1) (j := (r.length : Nat)) (by omega)
      rw [hpm] at md2
      obtain ⟨u1, y, v1, huv2, hul2⟩ := split_at r hpm2
      have hr2l : r.length = u1.length + (v1.length + 1) := by rw [huv2]; simp
      have su1 := su huv2 hul2
      have sv1 := sv huv2 hul2
      have sv2 : pSlA (stk r) (some (((pm : Nat) : Int) + 1)) none = some (.tup (v1.map nm)) := by
        have := sv (u := u1 ++ [y]) (v := v1) (pl := pm + 1) (by rw [huv2]; simp) (by simp; omega)
        exact this
      obtain ⟨F2, G2, p5, p6, hG2⟩ := put_fn (u1.map nm) (v1.map nm) (by simp; omega)
      obtain ⟨F3, G3, p7, p8, hG3⟩ := put_fn (u1.map nm) ((y :: v1).map nm) (by simp; omega)
      have hF23 : F3 = F2 := by
        funext q
        have h1 := p5 q
        have h2 := p7 q
        rw [h1] at h2
        exact (Option.some.inj h2).symm
      rw [hF23] at p8
      have huv1v : ∀ x ∈ u1 ++ v1, vnm x := fun x hx => hrv x (by
        rw [huv2]
        rcases List.mem_append.mp hx with hx | hx
        · exact List.mem_append_left _ hx
        · exact List.mem_append_right _ (List.mem_cons_of_mem _ hx))
      obtain ⟨q12, hq12, bq12⟩ : ∃ q, pAddA (.tup (u1.map nm)) (.tup (v1.map nm)) = some q ∧ badS h n hk (G q) := by
        refine ⟨_, add_tup _ _ (by simp; omega), ?_⟩
        rw [← List.map_append]
        exact bName (u1 ++ v1) huv1v (by simp; omega) (.inl (by simp; omega))
      have hu1v : ∀ x ∈ u1, vnm x := fun x hx => huv1v x (List.mem_append_left _ hx)
      have hv1v : ∀ x ∈ v1, vnm x := fun x hx => huv1v x (List.mem_append_right _ hx)
      have b13 : badS h n hk (G (G2 (nm a))) := by
        rw [hG2, stkP2]
        refine bName _ (fun x hx => ?_) (by simp; omega) (.inr (by simp))
        rcases List.mem_append.mp hx with hx | hx
        · exact hu1v x hx
        · rcases List.mem_cons.mp hx with rfl | hx
          · exact hav
          · exact hv1v x hx
      have b14 : badS h n hk (G (G2 .non)) := by
        rw [hG2]
        exact bItem u1 v1 _ hu1v hv1v (by omega) (by omega) (.inr (.inr (.inl rfl))) trivial rfl
      have hc : 0 < bl := by omega
      obtain ⟨b, x, mb, xb, hxv⟩ := ixb hc
      have b15 : badS h n hk (G (G3 (nm x))) := by
        rw [hG3, stkP2]
        exact bName _ (memv huv2 hxv).2.2 (by simp; omega) (.inl (by simp; omega))
      generalize (u.map nm) = us at *
      generalize (v.map nm) = vs at *
      generalize (u1.map nm) = u1s at *
      generalize (v1.map nm) = v1s at *
      generalize ((y :: v1).map nm) = yvs at *
      by_cases hc2 : h < bl
      · have hq18' := bq18 hc2
        simp [b__law_bad_states, ed, md0, hlen, ixr, lr, md1, hbx, l0, hq4, hq5, hq8, sA, sB, p1, p2, su0, sv0, p3, p4, ia, hr0, hr1, md2, su1, sv1, sv2, p5, p6, p8, hq12, hbl, hc, mb, xb, jr, lj, le, hc2, tb, hq18, gApp_s]
        refine hP _ ?_
        simp only [List.mem_cons, List.not_mem_nil, or_false, forall_eq_or_imp, forall_eq]
        exact ⟨nonE, intE, abE, nilE, bq4, bq5, b6, b7, bq8, b9, b10, bq12, b13, b14, b15, bj, bjs, hq18'⟩
      · simp [b__law_bad_states, ed, md0, hlen, ixr, lr, md1, hbx, l0, hq4, hq5, hq8, sA, sB, p1, p2, su0, sv0, p3, p4, ia, hr0, hr1, md2, su1, sv1, sv2, p5, p6, p8, hq12, hbl, hc, mb, xb, jr, lj, le, hc2, tb, gApp_s]
        refine hP _ ?_
        simp only [List.mem_cons, List.not_mem_nil, or_false, forall_eq_or_imp, forall_eq]
        exact ⟨nonE, intE, abE, nilE, bq4, bq5, b6, b7, bq8, b9, b10, bq12, b13, b14, b15, bj, bjs⟩
  obtain ⟨v, hv, L, rfl, hb⟩ := fin_sat (rm := .sh) (main (fun v => ∃ L, v = .lst L ∧ ∀ q ∈ L, badS h n hk q) fun L hb => ⟨L, rfl, hb⟩)
  exact ⟨L, hv, hb⟩
end K10
end
section
set_option Elab.async false
set_option linter.all false
set_option maxRecDepth 100000
set_option maxHeartbeats 1000000
namespace K10
open PySem PySem.Spec L2 Lp
variable {h n : Nat} {ss ss0 : List (List Nm)} {es : List (Bool × Nm)} {s : Sts}
/-! who blocks, as the law reckons -/
theorem law_going_ok (e : Nat) (he : e ≤ es.length) (hel : es.length ≤ 1000) (x : Nm) : m__law_going (evsV es) (.int (e : Nat)) (nm x) = .ok (.int (going es e x : Nat)) := by
  have hl := evs_len es
  have hr := pR2_nat (e := e) (n := es.length) he (by omega)
  have main : ∀ P : PV → Prop, P (.int (going es e x : Nat)) → ∀ B, B = b__law_going [some (evsV es), some (.int (e : Nat)), some (nm x), none] → B.sat { rt := P } := by
    intro P hP B hB
    rw [hB]
    simp only [b__law_going]
    simp only [sSeq_s]
    rw [sFor_of (ps := (List.range (es.length - e)).map fun i => .int ((e + i : Nat) : Int)) (by simp [hl, hr])]
    refine sat_next (forR_sat (List.range (es.length - e)) (fun i => .int ((e + i : Nat) : Int)) (fun j τ => (∃ x3, τ = [some (evsV es), some (.int (e : Nat)), some (nm x), x3]) ∧ ∀ m, e ≤ m → m < e + j → es[m]? ≠ some (false, x)) ⟨⟨none, rfl⟩, fun m h1 h2 => by omega⟩ ?_ ?_)
    · rintro j hj τ ⟨⟨x3, rfl⟩, hm⟩
      simp only [List.length_range] at hj
      rw [List.getElem_range]
      refine ⟨_, rfl, ?_⟩
      have hlt : e + j < es.length := by omega
      have hg : es[e + j]? = some es[e + j] := List.getElem?_eq_getElem hlt
      have hi : pIx (evsV es) (.int ((e + j : Nat) : Int)) = some (evV es[e + j]) := by
        show atI (es.map evV) _ = _
        rw [atN, List.getElem?_map, hg]; rfl
      have hq := pEq_ev es[e + j] (false, x)
      have hq : pEq (evV es[e + j]) (.tup [.str (Str.ofString "out"), nm x]) = some (.bl (decide (es[e + j] = (false, x)))) := by
        have h2 : evV (false, x) = .tup [.str (Str.ofString "out"), nm x] := rfl
        rw [h2] at hq
        exact hq
      have hset : [some (evsV es), some (.int (e : Nat)), some (nm x), x3].set 3 (some (.int ((e + j : Nat) : Int))) = [some (evsV es), some (.int (e : Nat)), some (nm x), some (.int ((e + j : Nat) : Int))] := rfl
      rw [hset]
      generalize hkk : ((e + j : Nat) : Int) = kk at hi
      by_cases c : es[e + j] = (false, x)
      · rw [decide_eq_true c] at hq
        have hgo := going_hit (by rw [hg, c]) (by omega) hm
        simp [lb__law_going_0, hi, hq]
        rw [← hkk, ← hgo]
        exact hP
      · rw [decide_eq_false c] at hq
        simp [lb__law_going_0, hi, hq]
        intro m h1 h2
        rcases Nat.lt_or_ge m (e + j) with h3 | h3
        · exact hm m h1 h3
        · obtain rfl : m = e + j := by omega
          rw [hg]; simpa using c
    · rintro τ ⟨⟨x3, rfl⟩, hm⟩
      simp only [List.length_range] at hm
      have hgo := going_none he fun m h1 h2 => hm m h1 (by omega)
      rw [hgo] at hP
      simp [hl]
      exact hP
  obtain ⟨B, hB⟩ : ∃ B, B = b__law_going [some (evsV es), some (.int (e : Nat)), some (nm x), none] := ⟨_, rfl⟩
  have hf := fin_eq (rm := .sh) (main (fun q => q = .int (going es e x : Nat)) rfl B hB)
  rw [hB] at hf
  exact hf
/-- the boxes below that go before -/
theorem below_any (es : List (Bool × Nm)) (e : Nat) (r : List Nm) (k : Nat) (y : Nm) : (0 < ((r.take k).filter fun b => gb es e b y).length) ↔ ((r.take k).any fun b => gb es e b y) = true := by
  rw [List.length_pos_iff, List.any_eq_true]
  constructor
  · intro hne
    obtain ⟨b, hb⟩ := List.exists_mem_of_ne_nil _ hne
    obtain ⟨h1, h2⟩ := List.mem_filter.mp hb
    exact ⟨b, h1, h2⟩
  · rintro ⟨b, h1, h2⟩ hz
    have hb : b ∈ (r.take k).filter fun b => gb es e b y := List.mem_filter.mpr ⟨h1, h2⟩
    rw [hz] at hb
    simp at hb
theorem law_blocking_row (e : Nat) (he : e ≤ es.length) (hel : es.length ≤ 1000) (x2 : Option PV) (F : List Nm) (hF : F.length ≤ 10000) (r : List Nm) (hr : r.length ≤ 1000) (x5 x6 : Option PV) {D : Pst}
    (hD : ∀ y5 y6, D.nx [some (evsV es), some (.int (e : Nat)), x2, some (.lst ((F ++ blkIn es e r).map nm)), some (stk r), y5, y6, none]) :
    (lb__law_blocking_2 [some (evsV es), some (.int (e : Nat)), x2, some (.lst (F.map nm)), some (stk r), x5, x6, none]).sat D := by
  have hl : pLen [stk r] = some (.int (r.length : Nat)) := by simp [stk]
  have hrr := pR1_le r.length (by omega)
  unfold lb__law_blocking_2
  rw [sFor_of (ps := (List.range r.length).map fun i => .int (i : Nat)) (by simp [hl, hrr])]
  refine forR_sat (List.range r.length) (fun i => .int (i : Nat)) (fun k τ => ∃ y5 y6, τ = [some (evsV es), some (.int (e : Nat)), x2, some (.lst ((F ++ blkN es e r k).map nm)), some (stk r), y5, y6, none]) ⟨x5, x6, by simp [blkN]⟩ ?_ ?_
  · rintro k hk τ ⟨y5, y6, rfl⟩
    simp only [List.length_range] at hk
    rw [List.getElem_range]
    refine ⟨_, rfl, ?_⟩
    have hik : pIx (stk r) (.int (k : Nat)) = some (nm r[k]) := nm_at hk
    have sl : pSlA (stk r) none (some ((k : Nat) : Int)) = some (.tup ((r.take k).map nm)) := by
      show pSlA (.tup _) _ _ = _
      rw [pSlA_tup, cut_lo _ (by omega), Int.toNat_natCast, List.map_take]
    have l0 : ∀ x3 x6, lc__law_blocking_0 [some (evsV es), some (.int (e : Nat)), x2, x3, some (stk r), some (.int (k : Nat)), x6, none] = .ok (.lst (((r.take k).filter fun b => gb es e b r[k]).map nm)) := by
      intro x3 x6
      refine comp_filter (r.take k) nm nm _ (by simp [sl]) fun b _ => ?_
      have g1 := law_going_ok e he hel b
      have g2 := law_going_ok e he hel r[k]
      simp [cItem, wipeL, hik, g1, g2, gb]
      split <;> rfl
    have hbl : pLen [.lst (((r.take k).filter fun b => gb es e b r[k]).map nm)] = some (.int (((r.take k).filter fun b => gb es e b r[k]).length : Nat)) := by rw [pLen_lst, List.length_map]
    have hba := below_any es e r k r[k]
    have hb := blkN_len es e r k (by omega)
    have ga := gApp_s (ps := (F ++ blkN es e r k).map nm) (q := nm r[k]) (by simp; omega)
    rw [blkN_succ es e r hk]
    generalize ((r.take k).filter fun b => gb es e b r[k]).map nm = BL at l0 hbl
    generalize ((r.take k).filter fun b => gb es e b r[k]).length = bl at hbl hba
    generalize hFF : F ++ blkN es e r k = FF at ga
    generalize hc : ((r.take k).any fun b => gb es e b r[k]) = c at hba ⊢
    have hset : [some (evsV es), some (.int (e : Nat)), x2, some (.lst (FF.map nm)), some (stk r), y5, y6, none].set 5 (some (.int (k : Nat))) = [some (evsV es), some (.int (e : Nat)), x2, some (.lst (FF.map nm)), some (stk r), some (.int (k : Nat)), y6, none] := rfl
    rw [hset]
    cases c
    · have hb0 : ¬ (0 < bl) := fun z => by have := hba.mp z; cases this
      simp [lb__law_blocking_1, l0, hbl, hb0, hFF]
    · have hb0 : 0 < bl := hba.mpr rfl
      simp [lb__law_blocking_1, l0, hbl, hb0, hik, ga]
      rw [← hFF]; simp
  · rintro τ ⟨y5, y6, rfl⟩
    rw [List.length_range, blkN_all]
    exact hD y5 y6
theorem law_blocking_ok (e : Nat) (he : e ≤ es.length) (hel : es.length ≤ 1000) (S : List (List Nm)) (hrow : ∀ r ∈ S, r.length ≤ 1000) (hfl : S.flatten.length ≤ 1000) : m__law_blocking (evsV es) (.int (e : Nat)) (stksV S) = .ok (stk (blkAt es e S)) := by
  have main : ∀ P : PV → Prop, P (stk (blkAt es e S)) → ∀ B, B = b__law_blocking [some (evsV es), some (.int (e : Nat)), some (stksV S), none, none, none, none, none] → B.sat { rt := P } := by
    intro P hP B hB
    rw [hB]
    simp only [b__law_blocking]
    simp
    rw [sFor_of (ps := S.map stk) (by simp [stksV])]
    refine sat_next (forR_sat S stk (fun k τ => ∃ x4 x5 x6, τ = [some (evsV es), some (.int (e : Nat)), some (stksV S), some (.lst ((blkAt es e (S.take k)).map nm)), x4, x5, x6, none]) ⟨none, none, none, by simp [blkAt]⟩ ?_ ?_)
    · rintro k hk τ ⟨x4, x5, x6, rfl⟩
      refine ⟨_, rfl, ?_⟩
      have hle : (blkAt es e (S.take k)).length ≤ 10000 := by
        have h1 := blkAt_len es e (S.take k)
        have h2 : (S.take k).flatten.length ≤ S.flatten.length := by
          conv => rhs; rw [← List.take_append_drop k S, List.flatten_append, List.length_append]
          omega
        omega
      refine law_blocking_row e he hel (some (stksV S)) _ hle S[k] (hrow _ (List.getElem_mem hk)) x5 x6 fun y5 y6 => ⟨some (stk S[k]), y5, y6, ?_⟩
      have e1 : blkAt es e (S.take (k + 1)) = blkAt es e (S.take k) ++ blkIn es e S[k] := by
        rw [List.take_succ_eq_append_getElem hk, blkAt, List.flatMap_append]
        simp only [blkAt, List.flatMap_cons, List.flatMap_nil, List.append_nil]
      rw [e1]
    · rintro τ ⟨x4, x5, x6, rfl⟩
      rw [List.take_length]
      simp
      exact hP
  exact fin_eq (main (fun q => q = stk (blkAt es e S)) rfl _ rfl)
theorem law_above_ok (e : Nat) (he : e ≤ es.length) (hel : es.length ≤ 1000) (r : List Nm) {k : Nat} (hk : k < r.length) : m__law_blocks_above (evsV es) (.int (e : Nat)) (stk r) (.int (k : Nat)) = .ok (.lst ((blkBy es e r k r[k]).map nm)) := by
  have hik : pIx (stk r) (.int (k : Nat)) = some (nm r[k]) := nm_at hk
  have sl : pSlA (stk r) (some (((k : Nat) : Int) + 1)) none = some (.tup ((r.drop (k + 1)).map nm)) := by
    show pSlA (.tup _) _ _ = _
    rw [pSlA_tup, cut_hi _ (by omega), show (((k : Nat) : Int) + 1).toNat = k + 1 by omega, List.map_drop]
  have g2 := law_going_ok e he hel r[k]
  have l0 : lc__law_blocks_above_0 [some (evsV es), some (.int (e : Nat)), some (stk r), some (.int (k : Nat)), some (.int (going es e r[k] : Nat)), none] = .ok (.lst ((blkBy es e r k r[k]).map nm)) := by
    refine comp_filter (r.drop (k + 1)) nm nm (fun y => gb es e r[k] y) (by simp [sl]) fun y _ => ?_
    have g1 := law_going_ok e he hel y
    simp [cItem, wipeL, g1, gb]
    split <;> rfl
  simp [m__law_blocks_above, b__law_blocks_above, hik, g2, l0]
/-! what the law is told -/
theorem told0_ok {dy e q d v : PV} (hd : m_blocking dy e q = .ok v) : m__law_told (.int 0) dy e q d = .ok (.tup [.str ("value" : Str), v]) := by
  simp [m__law_told, b__law_told, sTryN, hd]
theorem told1_ok {dy e q d v : PV} (hd : m_low_bound dy e q = .ok v) : m__law_told (.int 1) dy e q d = .ok (.tup [.str ("value" : Str), v]) := by
  simp [m__law_told, b__law_told, sTryN, hd]
theorem told2_ok {dy e q d v : PV} (hd : m_blocked_by dy e q d = .ok v) : m__law_told (.int 2) dy e q d = .ok (.tup [.str ("value" : Str), v]) := by
  simp [m__law_told, b__law_told, sTryN, hd]
theorem told_num {dy e q d v : PV} (hd : m_need_state dy e q = .exc 3 [(("value" : Str), v)]) : ∀ w ∈ [PV.int 0, .int 1, .int 2], m__law_told w dy e q d = .ok (.tup [.str ("number" : Str), v]) := by
  intro w hw
  simp only [List.mem_cons, List.not_mem_nil, or_false] at hw
  rcases hw with rfl | rfl | rfl
  · simp [m__law_told, b__law_told, sTryN, blocking_no hd, pickH, ms__law_told_5, List.lookup]
  · simp [m__law_told, b__law_told, sTryN, low_no hd, pickH, ms__law_told_5, List.lookup]
  · simp [m__law_told, b__law_told, sTryN, blocked_no hd, pickH, ms__law_told_5, List.lookup]
theorem told_yard {dy e q d v : PV} (hd : m_need_state dy e q = .exc 1 [(("value" : Str), v)]) : ∀ w ∈ [PV.int 0, .int 1, .int 2], m__law_told w dy e q d = .ok (.tup [.str ("yard" : Str), v]) := by
  intro w hw
  simp only [List.mem_cons, List.not_mem_nil, or_false] at hw
  rcases hw with rfl | rfl | rfl
  · simp [m__law_told, b__law_told, sTryN, blocking_no hd, pickH, ms__law_told_6, List.lookup]
  · simp [m__law_told, b__law_told, sTryN, low_no hd, pickH, ms__law_told_6, List.lookup]
  · simp [m__law_told, b__law_told, sTryN, blocked_no hd, pickH, ms__law_told_6, List.lookup]
theorem told_unk {dy e q d v : PV} (hd : m_blocked_by dy e q d = .exc 4 [(("name" : Str), v)]) : m__law_told (.int 2) dy e q d = .ok (.tup [.str ("unknown" : Str), v]) := by
  simp [m__law_told, b__law_told, sTryN, hd, pickH, ms__law_told_7, List.lookup]
end K10
end
section
set_option Elab.async false
set_option linter.all false
set_option maxRecDepth 100000
set_option maxHeartbeats 1000000
namespace K10
open PySem PySem.Spec L2 Lp
variable {h n : Nat} {ss ss0 : List (List Nm)} {es : List (Bool × Nm)} {s : Sts}
theorem blkBy_len (es : List (Bool × Nm)) (e : Nat) (r : List Nm) (k : Nat) (x : Nm) : (blkBy es e r k x).length ≤ r.length := by
  unfold blkBy
  refine Nat.le_trans (List.length_filter_le _ _) ?_
  rw [List.length_drop]; omega
theorem right_ok {dy p : PV} (w : WF h n ss es s) (hn : n ≤ 5) (hh : h ≤ 5) (hel : es.length ≤ 1000) (hfl : s.2.flatten.length ≤ 100)
    (t0 : m__law_told (.int 0) dy (.int (s.1 : Nat)) p (.str ("" : Str)) = .ok (.tup [.str ("value" : Str), stk (blkAt es s.1 s.2)]))
    (t1 : m__law_told (.int 1) dy (.int (s.1 : Nat)) p (.str ("" : Str)) = .ok (.tup [.str ("value" : Str), .int ((blkAt es s.1 s.2).length : Nat)]))
    (t2 : ∀ i (hi : i < s.2.length) k (hk : k < s.2[i].length), m__law_told (.int 2) dy (.int (s.1 : Nat)) p (nm s.2[i][k]) = .ok (.tup [.str ("value" : Str), stk (blkBy es s.1 s.2[i] k s.2[i][k])])) :
    m__law_is_right dy (evsV es) (.int (s.1 : Nat)) (stksV s.2) p = .ok (.bl true) := by
  have hb := law_blocking_ok s.1 w.le hel s.2 (fun r hr => by have := w.row r hr; omega) (by omega)
  have hbl := blkAt_len es s.1 s.2
  have q0 := eq_val "value" _ (pl_stk 7 (blkAt es s.1 s.2) (by omega))
  have q1 := eq_val "value" _ (pl_int 8 ((blkAt es s.1 s.2).length : Nat))
  have hl : pLen [stk (blkAt es s.1 s.2)] = some (.int ((blkAt es s.1 s.2).length : Nat)) := by simp [stk]
  have main : ∀ P : PV → Prop, P (.bl true) → ∀ B, B = b__law_is_right [some dy, some (evsV es), some (.int (s.1 : Nat)), some (stksV s.2), some p, none, none, none, none] → B.sat { rt := P } := by
    intro P hP B hB
    rw [hB]
    simp only [b__law_is_right]
    generalize hBA : stk (blkAt es s.1 s.2) = BA at hb t0 q0 hl
    simp [hb, t0, t1, q0, q1, hl]
    rw [sFor_of (ps := s.2.map stk) (by simp [stksV])]
    refine sat_next (forR_sat s.2 stk (fun k τ => ∃ x6 x7 x8, τ = [some dy, some (evsV es), some (.int (s.1 : Nat)), some (stksV s.2), some p, some BA, x6, x7, x8]) ⟨none, none, none, rfl⟩ ?_ ?_)
    · rintro i hi τ ⟨x6, x7, x8, rfl⟩
      refine ⟨_, rfl, ?_⟩
      have hr := w.row _ (List.getElem_mem hi)
      have hlr : pLen [stk s.2[i]] = some (.int (s.2[i].length : Nat)) := by simp [stk]
      have hrr := pR1_le s.2[i].length (by omega)
      have t2i := t2 i hi
      unfold lb__law_is_right_1
      generalize s.2[i] = r at hr hlr hrr t2i
      rw [sFor_of (ps := (List.range r.length).map fun i => .int (i : Nat)) (by simp [hlr, hrr])]
      refine forR_sat (List.range r.length) (fun i => .int (i : Nat)) (fun k τ => ∃ x7 x8, τ = [some dy, some (evsV es), some (.int (s.1 : Nat)), some (stksV s.2), some p, some BA, some (stk r), x7, x8]) ⟨x7, x8, rfl⟩ ?_ ?_
      · rintro k hk τ ⟨x7, x8, rfl⟩
        simp only [List.length_range] at hk
        rw [List.getElem_range]
        refine ⟨_, rfl, ?_⟩
        have hab := law_above_ok s.1 w.le hel r hk
        have hik : pIx (stk r) (.int (k : Nat)) = some (nm r[k]) := nm_at hk
        have t2k := t2i k hk
        have q2 := eq_val "value" _ (pl_stk 7 (blkBy es s.1 r k r[k]) (by have := blkBy_len es s.1 r k r[k]; omega))
        have hst : PV.tup ((blkBy es s.1 r k r[k]).map nm) = stk (blkBy es s.1 r k r[k]) := rfl
        simp [lb__law_is_right_0, hab, hst, hik, t2k, q2]
      · rintro τ ⟨x7, x8, rfl⟩
        exact ⟨_, _, _, rfl⟩
    · rintro τ ⟨x6, x7, x8, rfl⟩
      simp
      exact hP
  exact fin_eq (main (fun q => q = .bl true) rfl _ rfl)
/-- at a state, handed in one way -/
theorem right_st (D : DayOk h ss es) (w : WF h ss.length ss es s) (hvn : ∀ x ∈ s.2.flatten, vnm x) (h10 : s.2.flatten.length ≤ 10) {p : PV} (hp : p = stksV s.2 ∨ p = LSV s.2) : m__law_is_right (dayV h ss es) (evsV es) (.int (s.1 : Nat)) (stksV s.2) p = .ok (.bl true) := by
  have hne := need_st D w hvn h10 hp
  have hn5 := D.c5
  have hh5 := D.h5
  have hel := D.len
  exact right_ok w hn5 hh5 (by omega) (by omega) (told0_ok (blocking_ok w (by omega) (by omega) (by omega) hne)) (told1_ok (low_ok w (by omega) (by omega) (by omega) hne)) fun i hi k hk => told2_ok (blocked_ok w (by omega) (by omega) hne hi hk)
/-! names that do not stand there -/
def noBox (S : List (List Nm)) (q : PV) : Prop := ∀ r ∈ S, pInA false q (stk r) = some (.bl false)
theorem noBox_nm {S : List (List Nm)} {x : Nm} (hx : x ∉ S.flatten) : noBox S (nm x) := fun r hr => by
  have : x ∉ r := fun z => hx (List.mem_flatten.mpr ⟨r, hr, z⟩)
  rw [pInA_stk, decide_eq_false this]; rfl
theorem noBox_flat {S : List (List Nm)} {q : PV} (hf : q.flat = true) (hs : ∀ x, q = .str x → ∀ y ∈ S.flatten, tx y ≠ x) : noBox S q := fun r hr => by
  have hin : inP q (r.map nm) = false := by
    unfold inP
    rw [List.any_map]
    refine List.any_eq_false.mpr fun y hy => ?_
    cases q with
    | str x =>
      have := hs x rfl y (List.mem_flatten.mpr ⟨r, hr, hy⟩)
      simp only [Function.comp_apply]
      show ¬ (tx y == x) = true
      simpa using this
    | _ => simp [nm, eqP]
  have hfl : (q.flat && (r.map nm).all PV.flat) = true := by
    rw [hf]
    simp [List.all_map, nm, PV.flat, Function.comp_def]
  unfold pInA orP
  have : pIn false q (stk r) = some (.bl false) := by
    have e : pIn false q (stk r) = if (q.flat && (r.map nm).all PV.flat) = true then some (.bl (false ^^ inP q (r.map nm))) else none := by
      cases q <;> rfl
    rw [e, if_pos hfl, hin]; rfl
  rw [this]
open Classical in
theorem noBox_tup {S : List (List Nm)} (x : String) : noBox S (.tup [.str (Str.ofString x)]) := fun r hr => by
  have h1 := pInD_datT (k := 1) (n := false) (p := .tup [.str (Str.ofString x)]) (ys := r.map nm) (by decide) (fun p hp => by rw [List.mem_singleton.mp hp]; exact sok_ofS x) fun y hy => by
    obtain ⟨z, _, rfl⟩ := List.mem_map.mp hy
    exact dat_nm 1 z
  have h2 : PV.tup [.str (Str.ofString x)] ∉ r.map nm := fun z => by
    obtain ⟨y, _, e⟩ := List.mem_map.mp z
    cases e
  rw [decide_eq_false h2] at h1
  unfold pInA orP
  have : pIn false (.tup [.str (Str.ofString x)]) (stk r) = none := rfl
  rw [this]
  exact h1
theorem tx_low {y : Nm} {c : Nat} (hc : c ∈ (tx y).cps.toList) : 97 ≤ c := by
  simp only [tx, List.mem_map] at hc
  obtain ⟨i, _, rfl⟩ := hc
  omega
theorem tx_ne_A (y : Nm) : tx y ≠ ("A" : Str) := fun e => by
  have h1 : 65 ∈ (("A" : Str)).cps.toList := by decide +kernel
  rw [← e] at h1
  have := tx_low h1
  omega
theorem tx_ne_nil {y : Nm} (hy : vnm y) : tx y ≠ ("" : Str) := fun e => by
  have h1 := congrArg Str.length e
  rw [len_tx] at h1
  have h2 : (("" : Str)).length = 0 := by decide +kernel
  have := hy.1
  omega
/-! the law's loops, one turn each -/
section
variable (x0 x1 x2 x3 x4 x5 x6 x7 x8 x9 x10 x11 x12 x13 x14 x15 x16 x17 : Option PV)
theorem st1 (ev dy e : PV) (S : List (List Nm)) (h1 : m__law_is_right dy ev e (stksV S) (stksV S) = .ok (.bl true)) (h2 : m__law_is_right dy ev e (stksV S) (LSV S) = .ok (.bl true)) :
    lb_law_1 [x0, x1, x2, x3, x4, some ev, some dy, x7, x8, some (.tup [e, stksV S]), x10, x11, x12, x13, x14, x15, x16, none] = .nx [x0, x1, x2, x3, x4, some ev, some dy, x7, x8, some (.tup [e, stksV S]), x10, x11, x12, x13, x14, x15, x16, none] := by
  have l0 : lc_law_0 [x0, x1, x2, x3, x4, some ev, some dy, x7, x8, some (.tup [e, stksV S]), x10, x11, x12, x13, x14, x15, x16, none] = .ok (LSV S) :=
    comp_map S stk _ (by simp [stksV]) fun E _ => by simp [cItem, wipeL, stk]
  generalize stksV S = SS at *
  generalize LSV S = LS at *
  simp [lb_law_1, h1, l0, h2]
theorem st2 (dy w b : PV) (ht : m__law_told w dy b .non (.str ("" : Str)) = .ok (.tup [.str ("number" : Str), b])) (hq : m__law_equal 12 (.tup [.str ("number" : Str), b]) (.tup [.str ("number" : Str), b]) = .ok (.bl true)) :
    lb_law_2 [x0, x1, x2, x3, x4, x5, some dy, x7, x8, x9, x10, some w, x12, x13, x14, x15, some b, x17] = .nx [x0, x1, x2, x3, x4, x5, some dy, x7, x8, x9, x10, some w, x12, x13, x14, x15, some b, x17] := by
  simp [lb_law_2, ht, hq]
theorem st3 (dy w e p b : PV) (ht : m__law_told w dy e b (.str ("" : Str)) = .ok (.tup [.str ("yard" : Str), b])) (hq : m__law_equal 12 (.tup [.str ("yard" : Str), b]) (.tup [.str ("yard" : Str), b]) = .ok (.bl true)) :
    lb_law_3 [x0, x1, x2, x3, x4, x5, some dy, some (.tup [e, p]), x8, x9, x10, some w, x12, x13, x14, x15, some b, x17] = .nx [x0, x1, x2, x3, x4, x5, some dy, some (.tup [e, p]), x8, x9, x10, some w, x12, x13, x14, x15, some b, x17] := by
  simp [lb_law_3, ht, hq]
theorem st7 (dy e p b : PV) (ht : m__law_told (.int 2) dy e p b = .ok (.tup [.str ("unknown" : Str), b])) (hq : m__law_equal 12 (.tup [.str ("unknown" : Str), b]) (.tup [.str ("unknown" : Str), b]) = .ok (.bl true)) :
    lb_law_7 [x0, x1, x2, x3, x4, x5, some dy, some (.tup [e, p]), x8, x9, x10, x11, x12, x13, x14, some b, x16, x17] = .nx [x0, x1, x2, x3, x4, x5, some dy, some (.tup [e, p]), x8, x9, x10, x11, x12, x13, x14, some b, x16, x17] := by
  simp [lb_law_7, ht, hq]
theorem st4 (scr hv pool dy e p w : PV) (d0 d1 d2 : Int) (m : Nat) (NB BS : List PV) (hNB : NB = [.int ((m : Int) + 1), .int (-1), .int ((m : Int) + 1 + d2), .bl true, .non, .str ("0" : Str)])
    (ebs : m__law_bad_states scr (.int 6) hv p pool = .ok (.lst BS))
    (hnb : ∀ b ∈ NB, m__law_told w dy b .non (.str ("" : Str)) = .ok (.tup [.str ("number" : Str), b]) ∧ m__law_equal 12 (.tup [.str ("number" : Str), b]) (.tup [.str ("number" : Str), b]) = .ok (.bl true))
    (hbs : ∀ b ∈ BS, m__law_told w dy e b (.str ("" : Str)) = .ok (.tup [.str ("yard" : Str), b]) ∧ m__law_equal 12 (.tup [.str ("yard" : Str), b]) (.tup [.str ("yard" : Str), b]) = .ok (.bl true)) {D : Pst}
    (hD : ∀ y16, D.nx [some scr, some (.lst [.int d0, .int d1, .int d2]), some hv, some pool, x4, x5, some dy, some (.tup [e, p]), x8, x9, some (.int (m : Nat)), some w, x12, x13, x14, x15, y16, x17]) :
    (lb_law_4 [some scr, some (.lst [.int d0, .int d1, .int d2]), some hv, some pool, x4, x5, some dy, some (.tup [e, p]), x8, x9, some (.int (m : Nat)), some w, x12, x13, x14, x15, x16, x17]).sat D := by
  unfold lb_law_4
  simp only [sSeq_s]
  rw [sFor_of (ps := NB.map fun d => d) (by simp [hNB])]
  refine sat_next (forR_sat NB (fun b => b) (fun k τ => ∃ y16, τ = [some scr, some (.lst [.int d0, .int d1, .int d2]), some hv, some pool, x4, x5, some dy, some (.tup [e, p]), x8, x9, some (.int (m : Nat)), some w, x12, x13, x14, x15, y16, x17]) ⟨_, rfl⟩ ?_ ?_)
  · rintro k hk τ ⟨y16, rfl⟩
    obtain ⟨a1, a2⟩ := hnb _ (List.getElem_mem hk)
    exact step_nx (st2 _ _ _ _ _ _ _ _ _ _ _ _ _ _ _ dy w _ a1 a2) rfl ⟨_, rfl⟩
  · rintro τ ⟨y16, rfl⟩
    dsimp only
    rw [sFor_of (ps := BS.map fun d => d) (by simp [ebs])]
    refine forR_sat BS (fun b => b) (fun k τ => ∃ y16, τ = [some scr, some (.lst [.int d0, .int d1, .int d2]), some hv, some pool, x4, x5, some dy, some (.tup [e, p]), x8, x9, some (.int (m : Nat)), some w, x12, x13, x14, x15, y16, x17]) ⟨_, rfl⟩ ?_ ?_
    · rintro k hk τ ⟨y16, rfl⟩
      obtain ⟨a1, a2⟩ := hbs _ (List.getElem_mem hk)
      exact step_nx (st3 _ _ _ _ _ _ _ _ _ _ _ _ _ _ dy w e p _ a1 a2) rfl ⟨_, rfl⟩
    · rintro τ ⟨y16, rfl⟩
      exact hD y16
end
end K10
end
section
set_option Elab.async false
set_option linter.all false
set_option maxRecDepth 100000
set_option maxHeartbeats 2000000
namespace K10
open PySem PySem.Spec L2 Lp
/-- the law's run, of what its parts tell -/
theorem law_run {scr hv sv ev yd dy LL : PV} {ls : List Nm} {d0 d1 d2 : Int} {s t : Sts} {ss : List (List Nm)} {NB BS UN : List PV} {AW : List Nm} {m lowN : Nat} (hsv : sv = stksV ss)
    (ed : m__law_draws scr (.int 0) (.lst [.int 5, .int 5, .int 90]) = .ok (.lst [.int d0, .int d1, .int d2]))
    (eh : hv = .int (1 + d0))
    (ep : m__law_pool scr (.int 1) (.int 12) = .ok (.lst (ls.map nm)))
    (ey : m__law_yard scr (.int 2) (.lst (ls.map nm)) (.int (1 + d1)) hv (.int 10) = .ok sv)
    (ee : m__law_events scr (.int 3) (.lst (ls.map nm)) sv (.int 12) = .ok ev)
    (eyy : m_Yard hv sv = .ok yd) (edd : m_Day yd ev = .ok dy)
    (es4 : m__law_state scr (.int 4) hv sv ev = .ok (stV s)) (es5 : m__law_state scr (.int 5) hv sv ev = .ok (stV t))
    (hR : ∀ u, (u = s ∨ u = t ∨ u = (0, ss)) → m__law_is_right dy ev (.int (u.1 : Nat)) (stksV u.2) (stksV u.2) = .ok (.bl true) ∧ m__law_is_right dy ev (.int (u.1 : Nat)) (stksV u.2) (LSV u.2) = .ok (.bl true))
    (hle : pLen [ev] = some (.int (m : Nat)))
    (hNB : NB = [.int ((m : Int) + 1), .int (-1), .int ((m : Int) + 1 + d2), .bl true, .non, .str ("0" : Str)])
    (ebs : m__law_bad_states scr (.int 6) hv (stksV s.2) (.lst (ls.map nm)) = .ok (.lst BS))
    (hnb : ∀ w ∈ [PV.int 0, .int 1, .int 2], ∀ b ∈ NB, m__law_told w dy b .non (.str ("" : Str)) = .ok (.tup [.str ("number" : Str), b]) ∧ m__law_equal 12 (.tup [.str ("number" : Str), b]) (.tup [.str ("number" : Str), b]) = .ok (.bl true))
    (hbs : ∀ w ∈ [PV.int 0, .int 1, .int 2], ∀ b ∈ BS, m__law_told w dy (.int (s.1 : Nat)) b (.str ("" : Str)) = .ok (.tup [.str ("yard" : Str), b]) ∧ m__law_equal 12 (.tup [.str ("yard" : Str), b]) (.tup [.str ("yard" : Str), b]) = .ok (.bl true))
    (cl : pAddA (LSV s.2) (.lst [.lst []]) = some LL)
    (tL : m__law_told (.int 0) dy (.int (s.1 : Nat)) LL (.str ("" : Str)) = .ok (.tup [.str ("yard" : Str), LL]))
    (neL : pNe LL LL = some (.bl false))
    (hbx : m__law_boxes (stksV s.2) = .ok (.lst (s.2.flatten.map nm)))
    (hAW : AW = ls.filter fun x => !decide (x ∈ s.2.flatten))
    (hUN : UN = AW.map nm ++ [.str ("" : Str), .str ("A" : Str), .non, .int 3, .bl true, .tup [.str ("a" : Str)]]) (hUl : AW.length ≤ 100)
    (hun : ∀ b ∈ UN, m__law_told (.int 2) dy (.int (s.1 : Nat)) (stksV s.2) b = .ok (.tup [.str ("unknown" : Str), b]) ∧ m__law_equal 12 (.tup [.str ("unknown" : Str), b]) (.tup [.str ("unknown" : Str), b]) = .ok (.bl true))
    (hlow : m_low_bound dy (.int 0) sv = .ok (.int (lowN : Nat))) {bl : PV} (hbl : m__law_blocking ev (.int 0) sv = .ok bl) (hbll : pLen [bl] = some (.int (lowN : Nat))) (heq : m__law_equal 12 (.int (lowN : Nat)) (.int (lowN : Nat)) = .ok (.bl true)) : m_law scr = .ok (.bl true) := by
  have r3 : pR1 [.int 3] = some ([PV.int 0, .int 1, .int 2]) := rfl
  have l5 : ∀ x0 x1 x2 x3 x4 x5 x6 x8 x9 x10 x11 x12 x13 x14 x15 x16, lc_law_5 [x0, x1, x2, x3, x4, x5, x6, some (stV s), x8, x9, x10, x11, x12, x13, x14, x15, x16, none] = .ok (LSV s.2) := by
    intros
    exact comp_map s.2 stk _ (by simp [stV, stksV]) fun E _ => by simp [cItem, wipeL, stk]
  have l6 : ∀ x0 x1 x2 x4 x5 x6 x7 x8 x9 x10 x11 x12 x13 x16 x17, lc_law_6 [x0, x1, x2, some (.lst (ls.map nm)), x4, x5, x6, x7, x8, x9, x10, x11, x12, x13, some (.lst (s.2.flatten.map nm)), none, x16, x17] = .ok (.lst (AW.map nm)) := by
    intros
    rw [hAW]
    refine comp_filter ls nm nm _ (by simp) fun x _ => ?_
    simp [cItem, wipeL, pInA_nm, -List.map_flatten, -List.mem_flatten]
    split <;> simp_all
  have cU : pAddA (.lst (AW.map nm)) (.lst [.str ("" : Str), .str ("A" : Str), .non, .int 3, .bl true, .tup [.str ("a" : Str)]]) = some (.lst UN) := by
    rw [hUN, add_lst _ _ (by simp; omega)]
  have s0 : pIx (stV s) (.int 0) = some (.int (s.1 : Nat)) := by simp [stV]
  have s1 : pIx (stV s) (.int 1) = some (stksV s.2) := by simp [stV]
  have a4 : stV (0, ss) = .tup [.int 0, sv] := by rw [hsv]; rfl
  have neW := fun w : String => pNe_str (sok_ofS w) (sok_ofS w)
  simp only [decide_true, Bool.not_true] at neW
  have hSL : ∀ u ∈ [s, t, s, (0, ss)], u = s ∨ u = t ∨ u = (0, ss) := by
    intro u hu
    simp only [List.mem_cons, List.not_mem_nil, or_false] at hu
    rcases hu with h | h | h | h <;> simp [h]
  have hSLe : [stV s, stV t, stV s, PV.tup [.int 0, sv]] = [s, t, s, (0, ss)].map stV := by simp [a4]
  have hSL4 : [s, t, s, (0, ss)].length ≤ 1000 := by simp
  generalize [s, t, s, (0, ss)] = SL at hSL hSLe hSL4
  let τ0 (x9 x10 x11 x12 x13 x14 x15 x16 : Option PV) : LE := [some scr, some (.lst [.int d0, .int d1, .int d2]), some hv, some (.lst (ls.map nm)), some sv, some ev, some dy, some (stV s), some (stV t), x9, x10, x11, x12, x13, x14, x15, x16, none]
  have hstV : stV s = .tup [.int (s.1 : Nat), stksV s.2] := rfl
  generalize hBXg : s.2.flatten.map nm = BX at hbx l6
  generalize hAWg : AW.map nm = AWm at l6 cU
  refine fin_eq ?_
  simp only [b_law]
  simp [ed, ← eh, ep, ey, ee, eyy, edd, es4, es5]
  rw [sFor_of (ps := SL.map stV) (by simp [hSLe, hSL4])]
  refine sat_next (forR_sat SL stV (fun k τ => ∃ x9, τ = τ0 x9 none none none none none none none) ⟨none, rfl⟩ ?_ ?_)
  · rintro k hk τ ⟨x9, rfl⟩
    obtain ⟨a1, a2⟩ := hR _ (hSL _ (List.getElem_mem hk))
    exact step_nx (st1 _ _ _ _ _ _ _ _ _ _ _ _ _ _ ev dy _ _ a1 a2) rfl ⟨_, rfl⟩
  · rintro τ ⟨x9, rfl⟩
    simp only [τ0]
    simp [hle]
    rw [sFor_of (ps := [PV.int 0, .int 1, .int 2].map fun d => d) (by simp [r3])]
    refine sat_next (forR_sat [PV.int 0, .int 1, .int 2] (fun b => b) (fun k τ => ∃ x11 x16, τ = τ0 x9 (some (.int (m : Nat))) x11 none none none none x16) ⟨none, none, rfl⟩ ?_ ?_)
    · rintro k hk τ ⟨x11, x16, rfl⟩
      have a1 := hnb _ (List.getElem_mem hk)
      have a2 := hbs _ (List.getElem_mem hk)
      generalize [PV.int 0, .int 1, .int 2][k] = w at a1 a2
      refine ⟨_, rfl, ?_⟩
      exact st4 _ _ _ _ _ _ _ _ _ _ scr hv _ dy _ _ w d0 d1 d2 m NB BS hNB ebs a1 a2 fun y16 => ⟨some w, y16, rfl⟩
    · rintro τ ⟨x11, x16, rfl⟩
      simp only [τ0]
      simp [l5, cl, s0, s1, tL, neW, neL, hbx]
      rw [sFor_of (ps := UN.map fun d => d) (by simp [l6, cU])]
      refine sat_next (forR_sat UN (fun b => b) (fun k τ => ∃ x15, τ = τ0 x9 (some (.int (m : Nat))) x11 (some LL) (some (.tup [.str ("yard" : Str), LL])) (some (.lst BX)) x15 x16) ⟨none, rfl⟩ ?_ ?_)
      · rintro k hk τ ⟨x15, rfl⟩
        obtain ⟨a1, a2⟩ := hun _ (List.getElem_mem hk)
        exact step_nx (st7 _ _ _ _ _ _ _ _ _ _ _ _ _ _ _ dy _ _ _ a1 a2) rfl ⟨_, rfl⟩
      · rintro τ ⟨x15, rfl⟩
        simp only [τ0]
        simp [hlow, hbl, hbll, heq, gp]
end K10
end
section
set_option Elab.async false
set_option linter.all false
set_option maxRecDepth 100000
set_option maxHeartbeats 2000000
namespace K10
open PySem PySem.Spec L2 Lp
theorem law_ok (ns : List Int) : m_law (.scr ns) = .ok (.bl true) := by
  obtain ⟨ds, ed, dl, db⟩ := draws_ok ns 0 [5, 5, 90] (by decide) (by decide)
  obtain ⟨d0, d1, d2, rfl⟩ : ∃ a b c, ds = [a, b, c] := by
    match ds, dl with
    | [a, b, c], _ => exact ⟨a, b, c, rfl⟩
  have b0 := db 0 (by simp) (by simp)
  have b1 := db 1 (by simp) (by simp)
  have b2 := db 2 (by simp) (by simp)
  simp only [List.getElem_cons_zero, List.getElem_cons_succ] at b0 b1 b2
  obtain ⟨h, hh, hh1, hh5⟩ : ∃ L : Nat, 1 + d0 = (L : Nat) ∧ 1 ≤ L ∧ L ≤ 5 := ⟨(1 + d0).toNat, by omega, by omega, by omega⟩
  obtain ⟨cn, hc, hc1, hc5⟩ : ∃ L : Nat, 1 + d1 = (L : Nat) ∧ 1 ≤ L ∧ L ≤ 5 := ⟨(1 + d1).toNat, by omega, by omega, by omega⟩
  obtain ⟨ls, ep, hll, hlnd, hls⟩ := pool_ok ns 1
  obtain ⟨ss, ey, y1, y2, y3, y4, y5⟩ := yard_drawn ns 2 ls hll hlnd cn h 10 (by omega) (by omega) (by omega) (by omega)
  obtain ⟨es, h', ee, I, hel⟩ := events_drawn ns 3 ls hll hlnd ss 12 (by omega) y3 y4 y5
  have D : DayOk h ss es := day_of hh1 hh5 (by omega) (by omega) y2 y3 hls y4 y5 I hel
  obtain ⟨s, es4, w⟩ := law_state_ok D ns 4 y5 hel
  obtain ⟨t, es5, wt⟩ := law_state_ok D ns 5 y5 hel
  have w0 := wf_first D
  have hn5 : ss.length ≤ 5 := by omega
  have hn1 : 1 ≤ ss.length := by omega
  have few : ∀ {s : Sts}, WF h ss.length ss es s → ∃ hk, runE ss.flatten (es.take s.1) = some hk ∧ s.2.flatten.Perm hk ∧ s.2.flatten.length ≤ 10 ∧ (∀ x ∈ s.2.flatten, x ∈ ls) := fun {s} w => by
    obtain ⟨hk, h1, h2⟩ := w.box
    obtain ⟨h3, h4⟩ := I.all s.1 hk h1
    exact ⟨hk, h1, h2, by rw [h2.length_eq]; exact h3, fun x hx => h4 x (h2.subset hx)⟩
  have rt : ∀ {u : Sts}, WF h ss.length ss es u → m__law_is_right (dayV h ss es) (evsV es) (.int (u.1 : Nat)) (stksV u.2) (stksV u.2) = .ok (.bl true) ∧ m__law_is_right (dayV h ss es) (evsV es) (.int (u.1 : Nat)) (stksV u.2) (LSV u.2) = .ok (.bl true) := fun {u} w => by
    obtain ⟨hk, k1, k2, k3, k4⟩ := few w
    exact ⟨right_st D w (fun x hx => hls x (k4 x hx)) k3 (.inl rfl), right_st D w (fun x hx => hls x (k4 x hx)) k3 (.inr rfl)⟩
  obtain ⟨hk, k1, k2, k3, k4⟩ := few w
  have sv : ∀ x ∈ s.2.flatten, vnm x := fun x hx => hls x (k4 x hx)
  obtain ⟨BS, ebs, gbs⟩ := bad_states_ok (h := h) (n := ss.length) (hk := hk) ns 6 s.2 ls hll hlnd hls w.len hn1 hn5 hh5 w.row w.nd k4 k3 k2
  have hne := need_st D w sv k3 (.inl rfl)
  obtain ⟨_, _, _, z3, z4⟩ := few w0
  have hlow := low_ok (e := .int 0) w0 (by omega) (by omega) (by omega) (need_st D w0 (fun x hx => hls x (z4 x hx)) z3 (.inl rfl))
  have hbl := law_blocking_ok 0 (Nat.zero_le _) (by omega) ss (fun r hr => by have := y2 r hr; omega) (by omega) (es := es)
  have noL : noSt h ss.length hk (LSV (s.2 ++ [[]])) := no_namesL h _ hk _ (by simpa using sv) (by simp at k3 ⊢; omega) (by simp) (by simp [w.len])
  refine law_run (s := s) (t := t) (ss := ss) (hv := .int (h : Nat)) (m := es.length) (BS := BS) (LL := LSV (s.2 ++ [[]])) (ls := ls) rfl ed (by rw [hh]) ep (by rw [hc]; exact ey) ee (yard_ok D) (day_made D) es4 es5 (fun u hu => ?_) (evs_len es) rfl ebs ?_ ?_ ?_ ?_ (pNe_no (k := 2) (by decide) (dat_LSV _) (dat_LSV _) rfl) (boxes2 s.2 (by omega)) rfl rfl ?_ ?_ hlow hbl (by simp [stk]) (equal_same (k := 11) (pl_int _ _))
  · rcases hu with rfl | rfl | rfl
    · exact rt w
    · exact rt wt
    · exact rt w0
  · have key : ∀ w ∈ [PV.int 0, .int 1, .int 2], ∀ b, pv1 b → (∀ n : Nat, n ≤ es.length → b ≠ .int (n : Nat)) → plE 8 b → m__law_told w (dayV h ss es) b .non (.str ("" : Str)) = .ok (.tup [.str ("number" : Str), b]) ∧ m__law_equal 12 (.tup [.str ("number" : Str), b]) (.tup [.str ("number" : Str), b]) = .ok (.bl true) := fun w hw b h1 h2 h3 =>
      ⟨told_num (need_num b .non h1 h2) w hw, eq_val "number" b h3⟩
    intro w hw b hb
    simp only [List.mem_cons, List.not_mem_nil, or_false] at hb
    rcases hb with rfl | rfl | rfl | rfl | rfl | rfl
    · exact key w hw _ trivial (fun n hn e => by injection e with e; omega) trivial
    · exact key w hw _ trivial (fun n hn e => by injection e with e; omega) trivial
    · exact key w hw _ trivial (fun n hn e => by injection e with e; omega) trivial
    · exact key w hw _ trivial (fun n hn e => by cases e) trivial
    · exact key w hw _ trivial (fun n hn e => by cases e) trivial
    · exact key w hw _ (sok_ofS "0") (fun n hn e => by cases e) (sok_ofS "0")
  · intro u hu b hb
    exact ⟨told_yard (need_no D b s.1 w.le k1 (gbs b hb).1) u hu, eq_val "yard" b (plE_le (gbs b hb).2 (by decide))⟩
  · unfold LSV
    rw [add_lst _ _ (by simp [w.len]; omega), List.map_append]; rfl
  · exact told_yard (need_no D _ s.1 w.le k1 noL) _ (by simp)
  · exact Nat.le_trans (List.length_filter_le _ _) (by omega)
  · have key : ∀ b, noBox s.2 b → plE 8 b → m__law_told (.int 2) (dayV h ss es) (.int (s.1 : Nat)) (stksV s.2) b = .ok (.tup [.str ("unknown" : Str), b]) ∧ m__law_equal 12 (.tup [.str ("unknown" : Str), b]) (.tup [.str ("unknown" : Str), b]) = .ok (.bl true) := fun b h1 h2 =>
      ⟨told_unk (blocked_unknown hne h1), eq_val "unknown" b h2⟩
    intro b hb
    rcases List.mem_append.mp hb with hb | hb
    · obtain ⟨x, hx, rfl⟩ := List.mem_map.mp hb
      have := (List.mem_filter.mp hx).2
      exact key _ (noBox_nm (by simpa using this)) (pl_nm _ _)
    · simp only [List.mem_cons, List.not_mem_nil, or_false] at hb
      rcases hb with rfl | rfl | rfl | rfl | rfl | rfl
      · exact key _ (noBox_flat rfl fun x hx y hy => by cases hx; exact tx_ne_nil (sv y hy)) (pl_str _ _)
      · exact key _ (noBox_flat rfl fun x hx y hy => by cases hx; exact tx_ne_A y) (pl_str _ _)
      · exact key _ (noBox_flat rfl fun x hx => by cases hx) trivial
      · exact key _ (noBox_flat rfl fun x hx => by cases hx) trivial
      · exact key _ (noBox_flat rfl fun x hx => by cases hx) trivial
      · exact key _ (noBox_tup "a") (pl_tup (by simp) fun p hp => by rw [List.mem_singleton.mp hp]; exact pl_str _ _)
end K10
end
section
set_option Elab.async false
set_option linter.all false
set_option maxRecDepth 100000
namespace K10
open PySem PySem.Spec L2 Lp
theorem law_true (ns : List Int) (h : ns.length ≤ 63) : m_law (.scr ns) = .ok (.bl true) := law_ok ns
end K10
end
section
set_option Elab.async false
set_option linter.all false
set_option maxRecDepth 100000
set_option maxHeartbeats 4000000
namespace K10
open PySem PySem.Spec L2 Lp
def spLaw (K : PySem.W.Frag) : Sp := fun vs H Q _ => ∃ (a : Addr) (ns : List Int), vs = [V.ref a] ∧ ns.length ≤ 63 ∧ SqL K H a (ns.map V.int) ∧ ∀ H', Q (.bl true) H'
theorem all_mk {w : World} {K : PySem.W.Frag} {h : Heap} {mg : Str → Option Value} {fa : Addr} (X : K.In h) (Gn : h.Ns mainGlobals mg) (hfa : mg "law" = some (.ref fa))
    {C0 : Addr} {C1 : Addr} {C2 : Addr} {C3 : Addr} {C4 : Addr} {C5 : Addr} {C6 : Addr} {nm1 q1 : Str} {N1 fI1 cc1 cda1 : Addr} {bs1 : List Value} {sn1 : List Str} {sb1 : List Value} {ab1 : Bool} {col1 : Option Bool} {dd1 od1 an1 oe1 og1 : Option Addr} {k01 k11 k21 k31 k51 : Option Value} {oc1 kV1 dc1 pm1 ct1 ou1 ov1 : Value} {sl1 sm1 so1 : Array (Option Value)} {vs1 : Array Value} {fl1 : Str} {tf1 : Tok} {nm0 q0 : Str} {N0 : Addr} {bs0 : List Value} {sn0 : List Str} {sb0 : List Value} {ab0 : Bool} {col0 : Option Bool} {dd0 : Option Addr} {k00 k10 k20 k30 k50 : Option Value} {nm2 q2 : Str} {N2 fI2 cc2 cda2 : Addr} {bs2 : List Value} {sn2 : List Str} {sb2 : List Value} {ab2 : Bool} {col2 : Option Bool} {dd2 od2 an2 oe2 og2 : Option Addr} {k02 k12 k22 k32 k52 : Option Value} {oc2 kV2 dc2 pm2 ct2 ou2 ov2 : Value} {sl2 sm2 so2 : Array (Option Value)} {vs2 : Array Value} {fl2 : Str} {tf2 : Tok} {nm3 q3 : Str} {N3 fI3 cc3 cda3 : Addr} {bs3 : List Value} {sn3 : List Str} {sb3 : List Value} {ab3 : Bool} {col3 : Option Bool} {dd3 od3 an3 oe3 og3 : Option Addr} {k03 k13 k23 k33 k53 : Option Value} {oc3 kV3 dc3 pm3 ct3 ou3 ov3 : Value} {sl3 sm3 so3 : Array (Option Value)} {vs3 : Array Value} {fl3 : Str} {tf3 : Tok} {nm4 q4 : Str} {N4 fI4 cc4 cda4 : Addr} {bs4 : List Value} {sn4 : List Str} {sb4 : List Value} {ab4 : Bool} {col4 : Option Bool} {dd4 od4 an4 oe4 og4 : Option Addr} {k04 k14 k24 k34 k54 : Option Value} {oc4 kV4 dc4 pm4 ct4 ou4 ov4 : Value} {sl4 sm4 so4 : Array (Option Value)} {vs4 : Array Value} {fl4 : Str} {tf4 : Tok} {fI5 : Addr} {od5 an5 : Option Addr} {oc5 kV5 dc5 pm5 cd5 ct5 : Value} {sl5 : Array (Option Value)} {fI6 : Addr} {od6 an6 : Option Addr} {oc6 kV6 dc6 pm6 cd6 ct6 : Value} {sl6 : Array (Option Value)} {f__law_draws : Addr} {od__law_draws an__law_draws : Option Addr} {oc__law_draws kV__law_draws dc__law_draws pm__law_draws cd__law_draws ct__law_draws : Value} {sl__law_draws : Array (Option Value)} {f__law_pool : Addr} {od__law_pool an__law_pool : Option Addr} {oc__law_pool kV__law_pool dc__law_pool pm__law_pool cd__law_pool ct__law_pool : Value} {sl__law_pool : Array (Option Value)} {f__law_stacked : Addr} {od__law_stacked an__law_stacked : Option Addr} {oc__law_stacked kV__law_stacked dc__law_stacked pm__law_stacked cd__law_stacked ct__law_stacked : Value} {sl__law_stacked : Array (Option Value)} {f__law_yard : Addr} {od__law_yard an__law_yard : Option Addr} {oc__law_yard kV__law_yard dc__law_yard pm__law_yard cd__law_yard ct__law_yard : Value} {sl__law_yard : Array (Option Value)} {f__law_boxes : Addr} {od__law_boxes an__law_boxes : Option Addr} {oc__law_boxes kV__law_boxes dc__law_boxes pm__law_boxes cd__law_boxes ct__law_boxes : Value} {sl__law_boxes : Array (Option Value)} {f__law_events : Addr} {od__law_events an__law_events : Option Addr} {oc__law_events kV__law_events dc__law_events pm__law_events cd__law_events ct__law_events : Value} {sl__law_events : Array (Option Value)} {f_is_sequence : Addr} {od_is_sequence an_is_sequence : Option Addr} {oc_is_sequence kV_is_sequence dc_is_sequence pm_is_sequence cd_is_sequence ct_is_sequence : Value} {sl_is_sequence : Array (Option Value)} {f_boxes_of : Addr} {od_boxes_of an_boxes_of : Option Addr} {oc_boxes_of kV_boxes_of dc_boxes_of pm_boxes_of cd_boxes_of ct_boxes_of : Value} {sl_boxes_of : Array (Option Value)} {f_is_name : Addr} {od_is_name an_is_name : Option Addr} {oc_is_name kV_is_name dc_is_name pm_is_name cd_is_name ct_is_name : Value} {sl_is_name : Array (Option Value)} {f_is_event : Addr} {od_is_event an_is_event : Option Addr} {oc_is_event kV_is_event dc_is_event pm_is_event cd_is_event ct_is_event : Value} {sl_is_event : Array (Option Value)} {f_as_events : Addr} {od_as_events an_as_events : Option Addr} {oc_as_events kV_as_events dc_as_events pm_as_events cd_as_events ct_as_events : Value} {sl_as_events : Array (Option Value)} {f__law_present : Addr} {od__law_present an__law_present : Option Addr} {oc__law_present kV__law_present dc__law_present pm__law_present cd__law_present ct__law_present : Value} {sl__law_present : Array (Option Value)} {f__law_state : Addr} {od__law_state an__law_state : Option Addr} {oc__law_state kV__law_state dc__law_state pm__law_state cd__law_state ct__law_state : Value} {sl__law_state : Array (Option Value)} {f_goings : Addr} {od_goings an_goings : Option Addr} {oc_goings kV_goings dc_goings pm_goings cd_goings ct_goings : Value} {sl_goings : Array (Option Value)} {f_is_integer : Addr} {od_is_integer an_is_integer : Option Addr} {oc_is_integer kV_is_integer dc_is_integer pm_is_integer cd_is_integer ct_is_integer : Value} {sl_is_integer : Array (Option Value)} {f_is_number : Addr} {od_is_number an_is_number : Option Addr} {oc_is_number kV_is_number dc_is_number pm_is_number cd_is_number ct_is_number : Value} {sl_is_number : Array (Option Value)} {f_boxes_at : Addr} {od_boxes_at an_boxes_at : Option Addr} {oc_boxes_at kV_boxes_at dc_boxes_at pm_boxes_at cd_boxes_at ct_boxes_at : Value} {sl_boxes_at : Array (Option Value)} {f_are_unlike : Addr} {od_are_unlike an_are_unlike : Option Addr} {oc_are_unlike kV_are_unlike dc_are_unlike pm_are_unlike cd_are_unlike ct_are_unlike : Value} {sl_are_unlike : Array (Option Value)} {f_as_stacks : Addr} {od_as_stacks an_as_stacks : Option Addr} {oc_as_stacks kV_as_stacks dc_as_stacks pm_as_stacks cd_as_stacks ct_as_stacks : Value} {sl_as_stacks : Array (Option Value)} {f_need_state : Addr} {od_need_state an_need_state : Option Addr} {oc_need_state kV_need_state dc_need_state pm_need_state cd_need_state ct_need_state : Value} {sl_need_state : Array (Option Value)} {f_goes_before : Addr} {od_goes_before an_goes_before : Option Addr} {oc_goes_before kV_goes_before dc_goes_before pm_goes_before cd_goes_before ct_goes_before : Value} {sl_goes_before : Array (Option Value)} {f_blocked_by : Addr} {od_blocked_by an_blocked_by : Option Addr} {oc_blocked_by kV_blocked_by dc_blocked_by pm_blocked_by cd_blocked_by ct_blocked_by : Value} {sl_blocked_by : Array (Option Value)} {f_blocking_in : Addr} {od_blocking_in an_blocking_in : Option Addr} {oc_blocking_in kV_blocking_in dc_blocking_in pm_blocking_in cd_blocking_in ct_blocking_in : Value} {sl_blocking_in : Array (Option Value)} {f_blocking_at : Addr} {od_blocking_at an_blocking_at : Option Addr} {oc_blocking_at kV_blocking_at dc_blocking_at pm_blocking_at cd_blocking_at ct_blocking_at : Value} {sl_blocking_at : Array (Option Value)} {f_blocking : Addr} {od_blocking an_blocking : Option Addr} {oc_blocking kV_blocking dc_blocking pm_blocking cd_blocking ct_blocking : Value} {sl_blocking : Array (Option Value)} {f_low_bound : Addr} {od_low_bound an_low_bound : Option Addr} {oc_low_bound kV_low_bound dc_low_bound pm_low_bound cd_low_bound ct_low_bound : Value} {sl_low_bound : Array (Option Value)} {f__law_told : Addr} {od__law_told an__law_told : Option Addr} {oc__law_told kV__law_told dc__law_told pm__law_told cd__law_told ct__law_told : Value} {sl__law_told : Array (Option Value)} {f__law_equal : Addr} {od__law_equal an__law_equal : Option Addr} {oc__law_equal kV__law_equal dc__law_equal pm__law_equal cd__law_equal ct__law_equal : Value} {sl__law_equal : Array (Option Value)} {f__law_bad_states : Addr} {od__law_bad_states an__law_bad_states : Option Addr} {oc__law_bad_states kV__law_bad_states dc__law_bad_states pm__law_bad_states cd__law_bad_states ct__law_bad_states : Value} {sl__law_bad_states : Array (Option Value)} {f__law_going : Addr} {od__law_going an__law_going : Option Addr} {oc__law_going kV__law_going dc__law_going pm__law_going cd__law_going ct__law_going : Value} {sl__law_going : Array (Option Value)} {f__law_blocking : Addr} {od__law_blocking an__law_blocking : Option Addr} {oc__law_blocking kV__law_blocking dc__law_blocking pm__law_blocking cd__law_blocking ct__law_blocking : Value} {sl__law_blocking : Array (Option Value)} {f__law_blocks_above : Addr} {od__law_blocks_above an__law_blocks_above : Option Addr} {oc__law_blocks_above kV__law_blocks_above dc__law_blocks_above pm__law_blocks_above cd__law_blocks_above ct__law_blocks_above : Value} {sl__law_blocks_above : Array (Option Value)} {f__law_is_right : Addr} {od__law_is_right an__law_is_right : Option Addr} {oc__law_is_right kV__law_is_right dc__law_is_right pm__law_is_right cd__law_is_right ct__law_is_right : Value} {sl__law_is_right : Array (Option Value)} {f_law : Addr} {od_law an_law : Option Addr} {oc_law kV_law dc_law pm_law cd_law ct_law : Value} {sl_law : Array (Option Value)} {tg_MOST_LETTERS : Tok} {tg_LETTERS : Tok} {tg_OUT : Tok} {tg_IN : Tok}
    (aC0 : PySem.W.nsIn K mainGlobals ("YardError" : Str) = some (some (.ref C0)))
    (aC1 : PySem.W.nsIn K mainGlobals ("InvalidYard" : Str) = some (some (.ref C1)))
    (aC2 : PySem.W.nsIn K mainGlobals ("InvalidDay" : Str) = some (some (.ref C2)))
    (aC3 : PySem.W.nsIn K mainGlobals ("InvalidNumber" : Str) = some (some (.ref C3)))
    (aC4 : PySem.W.nsIn K mainGlobals ("UnknownBox" : Str) = some (some (.ref C4)))
    (aC5 : PySem.W.nsIn K mainGlobals ("Yard" : Str) = some (some (.ref C5)))
    (aC6 : PySem.W.nsIn K mainGlobals ("Day" : Str) = some (some (.ref C6)))
    (xL1 : K.lookup C1 = some (excClassObj nm1 q1 C1 N1 bs1 [.ref C0, .type "ValueError", .type "Exception", .type "BaseException", .type "object"] true sn1 sb1 ab1 col1 dd1 k01 k11 k21 k31 k51 "ValueError.__new__"))
    (sa1 : PySem.W.findIn K (.ref C1) "__setattr__" = some (some (.builtin "object.__setattr__")))
    (eC1 : PySem.W.subIn K (.ref C1) (.type "BaseException") = some true)
    (tC1 : PySem.W.typeIn K (.ref C1) = some (.type "type"))
    (kC1 : PySem.W.keepIn K (.ref C1) = true)
    (iC1 : PySem.W.findIn K (.ref C1) "__init__" = some (some (.ref fI1)))
    (tI1 : PySem.W.typeIn K (.ref fI1) = some (.type "function"))
    (lI1 : K.lookup fI1 = some ⟨oc1, od1, .func (PySem.W.fnX "__init__" ("InvalidYard.__init__" : Str) (defArgs (inClass (topS 11) 0)) (defBody (inClass (topS 11) 0)) (defScope (inClass (topS 11) 0)) [("__class__", cc1)] .none kV1 dc1 pm1 an1 (.ref cda1) ct1), sl1⟩)
    (cI1 : PySem.W.codeIn K (.ref cda1) ("InvalidYard.__init__" : Str) = true)
    (lc1 : K.lookup cc1 = some ⟨ou1, oe1, .cell (some (.ref C1)), sm1⟩)
    (ld1 : K.lookup cda1 = some ⟨ov1, og1, .fields vs1, so1⟩)
    (hv1 : vs1[2]? = some (.str fl1 tf1))
    (hf1 : ((PySem.Challenge.pw_leastshifts_k10_blocking_boxes.main.file : Str) == fl1) = true)
    (xL0 : K.lookup C0 = some (excClassObj nm0 q0 C0 N0 bs0 [.type "ValueError", .type "Exception", .type "BaseException", .type "object"] true sn0 sb0 ab0 col0 dd0 k00 k10 k20 k30 k50 "ValueError.__new__"))
    (fi0 : PySem.W.findIn K (.ref C0) "__init__" = some (some (.builtin "ValueError.__init__")))
    (iV1 : PySem.W.subIn K (.ref C1) (.type "ValueError") = some true)
    (no1_value : PySem.W.findIn K (.ref C1) ("value" : Str) = some none)
    (xL2 : K.lookup C2 = some (excClassObj nm2 q2 C2 N2 bs2 [.ref C0, .type "ValueError", .type "Exception", .type "BaseException", .type "object"] true sn2 sb2 ab2 col2 dd2 k02 k12 k22 k32 k52 "ValueError.__new__"))
    (sa2 : PySem.W.findIn K (.ref C2) "__setattr__" = some (some (.builtin "object.__setattr__")))
    (eC2 : PySem.W.subIn K (.ref C2) (.type "BaseException") = some true)
    (tC2 : PySem.W.typeIn K (.ref C2) = some (.type "type"))
    (kC2 : PySem.W.keepIn K (.ref C2) = true)
    (iC2 : PySem.W.findIn K (.ref C2) "__init__" = some (some (.ref fI2)))
    (tI2 : PySem.W.typeIn K (.ref fI2) = some (.type "function"))
    (lI2 : K.lookup fI2 = some ⟨oc2, od2, .func (PySem.W.fnX "__init__" ("InvalidDay.__init__" : Str) (defArgs (inClass (topS 12) 0)) (defBody (inClass (topS 12) 0)) (defScope (inClass (topS 12) 0)) [("__class__", cc2)] .none kV2 dc2 pm2 an2 (.ref cda2) ct2), sl2⟩)
    (cI2 : PySem.W.codeIn K (.ref cda2) ("InvalidDay.__init__" : Str) = true)
    (lc2 : K.lookup cc2 = some ⟨ou2, oe2, .cell (some (.ref C2)), sm2⟩)
    (ld2 : K.lookup cda2 = some ⟨ov2, og2, .fields vs2, so2⟩)
    (hv2 : vs2[2]? = some (.str fl2 tf2))
    (hf2 : ((PySem.Challenge.pw_leastshifts_k10_blocking_boxes.main.file : Str) == fl2) = true)
    (iV2 : PySem.W.subIn K (.ref C2) (.type "ValueError") = some true)
    (no2_value : PySem.W.findIn K (.ref C2) ("value" : Str) = some none)
    (xL3 : K.lookup C3 = some (excClassObj nm3 q3 C3 N3 bs3 [.ref C0, .type "ValueError", .type "Exception", .type "BaseException", .type "object"] true sn3 sb3 ab3 col3 dd3 k03 k13 k23 k33 k53 "ValueError.__new__"))
    (sa3 : PySem.W.findIn K (.ref C3) "__setattr__" = some (some (.builtin "object.__setattr__")))
    (eC3 : PySem.W.subIn K (.ref C3) (.type "BaseException") = some true)
    (tC3 : PySem.W.typeIn K (.ref C3) = some (.type "type"))
    (kC3 : PySem.W.keepIn K (.ref C3) = true)
    (iC3 : PySem.W.findIn K (.ref C3) "__init__" = some (some (.ref fI3)))
    (tI3 : PySem.W.typeIn K (.ref fI3) = some (.type "function"))
    (lI3 : K.lookup fI3 = some ⟨oc3, od3, .func (PySem.W.fnX "__init__" ("InvalidNumber.__init__" : Str) (defArgs (inClass (topS 13) 0)) (defBody (inClass (topS 13) 0)) (defScope (inClass (topS 13) 0)) [("__class__", cc3)] .none kV3 dc3 pm3 an3 (.ref cda3) ct3), sl3⟩)
    (cI3 : PySem.W.codeIn K (.ref cda3) ("InvalidNumber.__init__" : Str) = true)
    (lc3 : K.lookup cc3 = some ⟨ou3, oe3, .cell (some (.ref C3)), sm3⟩)
    (ld3 : K.lookup cda3 = some ⟨ov3, og3, .fields vs3, so3⟩)
    (hv3 : vs3[2]? = some (.str fl3 tf3))
    (hf3 : ((PySem.Challenge.pw_leastshifts_k10_blocking_boxes.main.file : Str) == fl3) = true)
    (iV3 : PySem.W.subIn K (.ref C3) (.type "ValueError") = some true)
    (no3_value : PySem.W.findIn K (.ref C3) ("value" : Str) = some none)
    (xL4 : K.lookup C4 = some (excClassObj nm4 q4 C4 N4 bs4 [.ref C0, .type "ValueError", .type "Exception", .type "BaseException", .type "object"] true sn4 sb4 ab4 col4 dd4 k04 k14 k24 k34 k54 "ValueError.__new__"))
    (sa4 : PySem.W.findIn K (.ref C4) "__setattr__" = some (some (.builtin "object.__setattr__")))
    (eC4 : PySem.W.subIn K (.ref C4) (.type "BaseException") = some true)
    (tC4 : PySem.W.typeIn K (.ref C4) = some (.type "type"))
    (kC4 : PySem.W.keepIn K (.ref C4) = true)
    (iC4 : PySem.W.findIn K (.ref C4) "__init__" = some (some (.ref fI4)))
    (tI4 : PySem.W.typeIn K (.ref fI4) = some (.type "function"))
    (lI4 : K.lookup fI4 = some ⟨oc4, od4, .func (PySem.W.fnX "__init__" ("UnknownBox.__init__" : Str) (defArgs (inClass (topS 14) 0)) (defBody (inClass (topS 14) 0)) (defScope (inClass (topS 14) 0)) [("__class__", cc4)] .none kV4 dc4 pm4 an4 (.ref cda4) ct4), sl4⟩)
    (cI4 : PySem.W.codeIn K (.ref cda4) ("UnknownBox.__init__" : Str) = true)
    (lc4 : K.lookup cc4 = some ⟨ou4, oe4, .cell (some (.ref C4)), sm4⟩)
    (ld4 : K.lookup cda4 = some ⟨ov4, og4, .fields vs4, so4⟩)
    (hv4 : vs4[2]? = some (.str fl4 tf4))
    (hf4 : ((PySem.Challenge.pw_leastshifts_k10_blocking_boxes.main.file : Str) == fl4) = true)
    (iV4 : PySem.W.subIn K (.ref C4) (.type "ValueError") = some true)
    (no4_name : PySem.W.findIn K (.ref C4) ("name" : Str) = some none)
    (zsuper : PySem.W.nsIn K mainGlobals "super" = some none)
    (zany : PySem.W.nsIn K cStatics "thirdparty.any" = some none)
    (pg5 : PySem.W.plainGet K C5 Str.empty = true)
    (hd5 : PySem.W.hasDictIn K C5 = true)
    (po5 : PySem.W.plainOver K C5 = true)
    (sa5 : PySem.W.findIn K (.ref C5) "__setattr__" = some (some (.builtin "object.__setattr__")))
    (mk5 : PySem.W.makesIn K C5 = true)
    (iC5 : PySem.W.findIn K (.ref C5) "__init__" = some (some (.ref fI5)))
    (fn5 : PySem.W.isFn K (.ref fI5) = true)
    (kC5 : PySem.W.keepIn K (.ref C5) = true)
    (lI5 : K.lookup fI5 = some ⟨oc5, od5, .func (PySem.W.fnOf "__init__" ("Yard.__init__" : Str) (defArgs (inClass (topS 19) 0)) (defBody (inClass (topS 19) 0)) (defScope (inClass (topS 19) 0)) .none kV5 dc5 pm5 an5 cd5 ct5), sl5⟩)
    (cI5 : PySem.W.codeIn K cd5 ("Yard.__init__" : Str) = true)
    (kI5 : PySem.W.keepIn K (.ref fI5) = true)
    (pg6 : PySem.W.plainGet K C6 Str.empty = true)
    (hd6 : PySem.W.hasDictIn K C6 = true)
    (po6 : PySem.W.plainOver K C6 = true)
    (sa6 : PySem.W.findIn K (.ref C6) "__setattr__" = some (some (.builtin "object.__setattr__")))
    (mk6 : PySem.W.makesIn K C6 = true)
    (iC6 : PySem.W.findIn K (.ref C6) "__init__" = some (some (.ref fI6)))
    (fn6 : PySem.W.isFn K (.ref fI6) = true)
    (kC6 : PySem.W.keepIn K (.ref C6) = true)
    (lI6 : K.lookup fI6 = some ⟨oc6, od6, .func (PySem.W.fnOf "__init__" ("Day.__init__" : Str) (defArgs (inClass (topS 27) 0)) (defBody (inClass (topS 27) 0)) (defScope (inClass (topS 27) 0)) .none kV6 dc6 pm6 an6 cd6 ct6), sl6⟩)
    (cI6 : PySem.W.codeIn K cd6 ("Day.__init__" : Str) = true)
    (kI6 : PySem.W.keepIn K (.ref fI6) = true)
    (a__law_draws : PySem.W.nsIn K mainGlobals ("_law_draws" : Str) = some (some (.ref f__law_draws)))
    (l__law_draws : K.lookup f__law_draws = some ⟨oc__law_draws, od__law_draws, .func (PySem.W.fnOf ("_law_draws" : Str) ("_law_draws" : Str) (defArgs (topS 41)) (defBody (topS 41)) (defScope (topS 41)) .none kV__law_draws dc__law_draws pm__law_draws an__law_draws cd__law_draws ct__law_draws), sl__law_draws⟩)
    (c__law_draws : PySem.W.codeIn K cd__law_draws ("_law_draws" : Str) = true)
    (k__law_draws : PySem.W.keepIn K (.ref f__law_draws) = true)
    (a__law_pool : PySem.W.nsIn K mainGlobals ("_law_pool" : Str) = some (some (.ref f__law_pool)))
    (l__law_pool : K.lookup f__law_pool = some ⟨oc__law_pool, od__law_pool, .func (PySem.W.fnOf ("_law_pool" : Str) ("_law_pool" : Str) (defArgs (topS 43)) (defBody (topS 43)) (defScope (topS 43)) .none kV__law_pool dc__law_pool pm__law_pool an__law_pool cd__law_pool ct__law_pool), sl__law_pool⟩)
    (c__law_pool : PySem.W.codeIn K cd__law_pool ("_law_pool" : Str) = true)
    (k__law_pool : PySem.W.keepIn K (.ref f__law_pool) = true)
    (a__law_stacked : PySem.W.nsIn K mainGlobals ("_law_stacked" : Str) = some (some (.ref f__law_stacked)))
    (l__law_stacked : K.lookup f__law_stacked = some ⟨oc__law_stacked, od__law_stacked, .func (PySem.W.fnOf ("_law_stacked" : Str) ("_law_stacked" : Str) (defArgs (topS 44)) (defBody (topS 44)) (defScope (topS 44)) .none kV__law_stacked dc__law_stacked pm__law_stacked an__law_stacked cd__law_stacked ct__law_stacked), sl__law_stacked⟩)
    (c__law_stacked : PySem.W.codeIn K cd__law_stacked ("_law_stacked" : Str) = true)
    (k__law_stacked : PySem.W.keepIn K (.ref f__law_stacked) = true)
    (a__law_yard : PySem.W.nsIn K mainGlobals ("_law_yard" : Str) = some (some (.ref f__law_yard)))
    (l__law_yard : K.lookup f__law_yard = some ⟨oc__law_yard, od__law_yard, .func (PySem.W.fnOf ("_law_yard" : Str) ("_law_yard" : Str) (defArgs (topS 45)) (defBody (topS 45)) (defScope (topS 45)) .none kV__law_yard dc__law_yard pm__law_yard an__law_yard cd__law_yard ct__law_yard), sl__law_yard⟩)
    (c__law_yard : PySem.W.codeIn K cd__law_yard ("_law_yard" : Str) = true)
    (k__law_yard : PySem.W.keepIn K (.ref f__law_yard) = true)
    (a__law_boxes : PySem.W.nsIn K mainGlobals ("_law_boxes" : Str) = some (some (.ref f__law_boxes)))
    (l__law_boxes : K.lookup f__law_boxes = some ⟨oc__law_boxes, od__law_boxes, .func (PySem.W.fnOf ("_law_boxes" : Str) ("_law_boxes" : Str) (defArgs (topS 46)) (defBody (topS 46)) (defScope (topS 46)) .none kV__law_boxes dc__law_boxes pm__law_boxes an__law_boxes cd__law_boxes ct__law_boxes), sl__law_boxes⟩)
    (c__law_boxes : PySem.W.codeIn K cd__law_boxes ("_law_boxes" : Str) = true)
    (k__law_boxes : PySem.W.keepIn K (.ref f__law_boxes) = true)
    (a__law_events : PySem.W.nsIn K mainGlobals ("_law_events" : Str) = some (some (.ref f__law_events)))
    (l__law_events : K.lookup f__law_events = some ⟨oc__law_events, od__law_events, .func (PySem.W.fnOf ("_law_events" : Str) ("_law_events" : Str) (defArgs (topS 47)) (defBody (topS 47)) (defScope (topS 47)) .none kV__law_events dc__law_events pm__law_events an__law_events cd__law_events ct__law_events), sl__law_events⟩)
    (c__law_events : PySem.W.codeIn K cd__law_events ("_law_events" : Str) = true)
    (k__law_events : PySem.W.keepIn K (.ref f__law_events) = true)
    (a_is_sequence : PySem.W.nsIn K mainGlobals ("is_sequence" : Str) = some (some (.ref f_is_sequence)))
    (l_is_sequence : K.lookup f_is_sequence = some ⟨oc_is_sequence, od_is_sequence, .func (PySem.W.fnOf ("is_sequence" : Str) ("is_sequence" : Str) (defArgs (topS 6)) (defBody (topS 6)) (defScope (topS 6)) .none kV_is_sequence dc_is_sequence pm_is_sequence an_is_sequence cd_is_sequence ct_is_sequence), sl_is_sequence⟩)
    (c_is_sequence : PySem.W.codeIn K cd_is_sequence ("is_sequence" : Str) = true)
    (k_is_sequence : PySem.W.keepIn K (.ref f_is_sequence) = true)
    (a_boxes_of : PySem.W.nsIn K mainGlobals ("boxes_of" : Str) = some (some (.ref f_boxes_of)))
    (l_boxes_of : K.lookup f_boxes_of = some ⟨oc_boxes_of, od_boxes_of, .func (PySem.W.fnOf ("boxes_of" : Str) ("boxes_of" : Str) (defArgs (topS 21)) (defBody (topS 21)) (defScope (topS 21)) .none kV_boxes_of dc_boxes_of pm_boxes_of an_boxes_of cd_boxes_of ct_boxes_of), sl_boxes_of⟩)
    (c_boxes_of : PySem.W.codeIn K cd_boxes_of ("boxes_of" : Str) = true)
    (k_boxes_of : PySem.W.keepIn K (.ref f_boxes_of) = true)
    (a_is_name : PySem.W.nsIn K mainGlobals ("is_name" : Str) = some (some (.ref f_is_name)))
    (l_is_name : K.lookup f_is_name = some ⟨oc_is_name, od_is_name, .func (PySem.W.fnOf ("is_name" : Str) ("is_name" : Str) (defArgs (topS 7)) (defBody (topS 7)) (defScope (topS 7)) .none kV_is_name dc_is_name pm_is_name an_is_name cd_is_name ct_is_name), sl_is_name⟩)
    (c_is_name : PySem.W.codeIn K cd_is_name ("is_name" : Str) = true)
    (k_is_name : PySem.W.keepIn K (.ref f_is_name) = true)
    (a_is_event : PySem.W.nsIn K mainGlobals ("is_event" : Str) = some (some (.ref f_is_event)))
    (l_is_event : K.lookup f_is_event = some ⟨oc_is_event, od_is_event, .func (PySem.W.fnOf ("is_event" : Str) ("is_event" : Str) (defArgs (topS 25)) (defBody (topS 25)) (defScope (topS 25)) .none kV_is_event dc_is_event pm_is_event an_is_event cd_is_event ct_is_event), sl_is_event⟩)
    (c_is_event : PySem.W.codeIn K cd_is_event ("is_event" : Str) = true)
    (k_is_event : PySem.W.keepIn K (.ref f_is_event) = true)
    (a_as_events : PySem.W.nsIn K mainGlobals ("as_events" : Str) = some (some (.ref f_as_events)))
    (l_as_events : K.lookup f_as_events = some ⟨oc_as_events, od_as_events, .func (PySem.W.fnOf ("as_events" : Str) ("as_events" : Str) (defArgs (topS 26)) (defBody (topS 26)) (defScope (topS 26)) .none kV_as_events dc_as_events pm_as_events an_as_events cd_as_events ct_as_events), sl_as_events⟩)
    (c_as_events : PySem.W.codeIn K cd_as_events ("as_events" : Str) = true)
    (k_as_events : PySem.W.keepIn K (.ref f_as_events) = true)
    (a__law_present : PySem.W.nsIn K mainGlobals ("_law_present" : Str) = some (some (.ref f__law_present)))
    (l__law_present : K.lookup f__law_present = some ⟨oc__law_present, od__law_present, .func (PySem.W.fnOf ("_law_present" : Str) ("_law_present" : Str) (defArgs (topS 48)) (defBody (topS 48)) (defScope (topS 48)) .none kV__law_present dc__law_present pm__law_present an__law_present cd__law_present ct__law_present), sl__law_present⟩)
    (c__law_present : PySem.W.codeIn K cd__law_present ("_law_present" : Str) = true)
    (k__law_present : PySem.W.keepIn K (.ref f__law_present) = true)
    (a__law_state : PySem.W.nsIn K mainGlobals ("_law_state" : Str) = some (some (.ref f__law_state)))
    (l__law_state : K.lookup f__law_state = some ⟨oc__law_state, od__law_state, .func (PySem.W.fnOf ("_law_state" : Str) ("_law_state" : Str) (defArgs (topS 49)) (defBody (topS 49)) (defScope (topS 49)) .none kV__law_state dc__law_state pm__law_state an__law_state cd__law_state ct__law_state), sl__law_state⟩)
    (c__law_state : PySem.W.codeIn K cd__law_state ("_law_state" : Str) = true)
    (k__law_state : PySem.W.keepIn K (.ref f__law_state) = true)
    (a_goings : PySem.W.nsIn K mainGlobals ("goings" : Str) = some (some (.ref f_goings)))
    (l_goings : K.lookup f_goings = some ⟨oc_goings, od_goings, .func (PySem.W.fnOf ("goings" : Str) ("goings" : Str) (defArgs (topS 30)) (defBody (topS 30)) (defScope (topS 30)) .none kV_goings dc_goings pm_goings an_goings cd_goings ct_goings), sl_goings⟩)
    (c_goings : PySem.W.codeIn K cd_goings ("goings" : Str) = true)
    (k_goings : PySem.W.keepIn K (.ref f_goings) = true)
    (a_is_integer : PySem.W.nsIn K mainGlobals ("is_integer" : Str) = some (some (.ref f_is_integer)))
    (l_is_integer : K.lookup f_is_integer = some ⟨oc_is_integer, od_is_integer, .func (PySem.W.fnOf ("is_integer" : Str) ("is_integer" : Str) (defArgs (topS 4)) (defBody (topS 4)) (defScope (topS 4)) .none kV_is_integer dc_is_integer pm_is_integer an_is_integer cd_is_integer ct_is_integer), sl_is_integer⟩)
    (c_is_integer : PySem.W.codeIn K cd_is_integer ("is_integer" : Str) = true)
    (k_is_integer : PySem.W.keepIn K (.ref f_is_integer) = true)
    (a_is_number : PySem.W.nsIn K mainGlobals ("is_number" : Str) = some (some (.ref f_is_number)))
    (l_is_number : K.lookup f_is_number = some ⟨oc_is_number, od_is_number, .func (PySem.W.fnOf ("is_number" : Str) ("is_number" : Str) (defArgs (topS 5)) (defBody (topS 5)) (defScope (topS 5)) .none kV_is_number dc_is_number pm_is_number an_is_number cd_is_number ct_is_number), sl_is_number⟩)
    (c_is_number : PySem.W.codeIn K cd_is_number ("is_number" : Str) = true)
    (k_is_number : PySem.W.keepIn K (.ref f_is_number) = true)
    (a_boxes_at : PySem.W.nsIn K mainGlobals ("boxes_at" : Str) = some (some (.ref f_boxes_at)))
    (l_boxes_at : K.lookup f_boxes_at = some ⟨oc_boxes_at, od_boxes_at, .func (PySem.W.fnOf ("boxes_at" : Str) ("boxes_at" : Str) (defArgs (topS 28)) (defBody (topS 28)) (defScope (topS 28)) .none kV_boxes_at dc_boxes_at pm_boxes_at an_boxes_at cd_boxes_at ct_boxes_at), sl_boxes_at⟩)
    (c_boxes_at : PySem.W.codeIn K cd_boxes_at ("boxes_at" : Str) = true)
    (k_boxes_at : PySem.W.keepIn K (.ref f_boxes_at) = true)
    (a_are_unlike : PySem.W.nsIn K mainGlobals ("are_unlike" : Str) = some (some (.ref f_are_unlike)))
    (l_are_unlike : K.lookup f_are_unlike = some ⟨oc_are_unlike, od_are_unlike, .func (PySem.W.fnOf ("are_unlike" : Str) ("are_unlike" : Str) (defArgs (topS 8)) (defBody (topS 8)) (defScope (topS 8)) .none kV_are_unlike dc_are_unlike pm_are_unlike an_are_unlike cd_are_unlike ct_are_unlike), sl_are_unlike⟩)
    (c_are_unlike : PySem.W.codeIn K cd_are_unlike ("are_unlike" : Str) = true)
    (k_are_unlike : PySem.W.keepIn K (.ref f_are_unlike) = true)
    (a_as_stacks : PySem.W.nsIn K mainGlobals ("as_stacks" : Str) = some (some (.ref f_as_stacks)))
    (l_as_stacks : K.lookup f_as_stacks = some ⟨oc_as_stacks, od_as_stacks, .func (PySem.W.fnOf ("as_stacks" : Str) ("as_stacks" : Str) (defArgs (topS 18)) (defBody (topS 18)) (defScope (topS 18)) .none kV_as_stacks dc_as_stacks pm_as_stacks an_as_stacks cd_as_stacks ct_as_stacks), sl_as_stacks⟩)
    (c_as_stacks : PySem.W.codeIn K cd_as_stacks ("as_stacks" : Str) = true)
    (k_as_stacks : PySem.W.keepIn K (.ref f_as_stacks) = true)
    (a_need_state : PySem.W.nsIn K mainGlobals ("need_state" : Str) = some (some (.ref f_need_state)))
    (l_need_state : K.lookup f_need_state = some ⟨oc_need_state, od_need_state, .func (PySem.W.fnOf ("need_state" : Str) ("need_state" : Str) (defArgs (topS 35)) (defBody (topS 35)) (defScope (topS 35)) .none kV_need_state dc_need_state pm_need_state an_need_state cd_need_state ct_need_state), sl_need_state⟩)
    (c_need_state : PySem.W.codeIn K cd_need_state ("need_state" : Str) = true)
    (k_need_state : PySem.W.keepIn K (.ref f_need_state) = true)
    (a_goes_before : PySem.W.nsIn K mainGlobals ("goes_before" : Str) = some (some (.ref f_goes_before)))
    (l_goes_before : K.lookup f_goes_before = some ⟨oc_goes_before, od_goes_before, .func (PySem.W.fnOf ("goes_before" : Str) ("goes_before" : Str) (defArgs (topS 31)) (defBody (topS 31)) (defScope (topS 31)) .none kV_goes_before dc_goes_before pm_goes_before an_goes_before cd_goes_before ct_goes_before), sl_goes_before⟩)
    (c_goes_before : PySem.W.codeIn K cd_goes_before ("goes_before" : Str) = true)
    (k_goes_before : PySem.W.keepIn K (.ref f_goes_before) = true)
    (a_blocked_by : PySem.W.nsIn K mainGlobals ("blocked_by" : Str) = some (some (.ref f_blocked_by)))
    (l_blocked_by : K.lookup f_blocked_by = some ⟨oc_blocked_by, od_blocked_by, .func (PySem.W.fnOf ("blocked_by" : Str) ("blocked_by" : Str) (defArgs (topS 38)) (defBody (topS 38)) (defScope (topS 38)) .none kV_blocked_by dc_blocked_by pm_blocked_by an_blocked_by cd_blocked_by ct_blocked_by), sl_blocked_by⟩)
    (c_blocked_by : PySem.W.codeIn K cd_blocked_by ("blocked_by" : Str) = true)
    (k_blocked_by : PySem.W.keepIn K (.ref f_blocked_by) = true)
    (a_blocking_in : PySem.W.nsIn K mainGlobals ("blocking_in" : Str) = some (some (.ref f_blocking_in)))
    (l_blocking_in : K.lookup f_blocking_in = some ⟨oc_blocking_in, od_blocking_in, .func (PySem.W.fnOf ("blocking_in" : Str) ("blocking_in" : Str) (defArgs (topS 32)) (defBody (topS 32)) (defScope (topS 32)) .none kV_blocking_in dc_blocking_in pm_blocking_in an_blocking_in cd_blocking_in ct_blocking_in), sl_blocking_in⟩)
    (c_blocking_in : PySem.W.codeIn K cd_blocking_in ("blocking_in" : Str) = true)
    (k_blocking_in : PySem.W.keepIn K (.ref f_blocking_in) = true)
    (a_blocking_at : PySem.W.nsIn K mainGlobals ("blocking_at" : Str) = some (some (.ref f_blocking_at)))
    (l_blocking_at : K.lookup f_blocking_at = some ⟨oc_blocking_at, od_blocking_at, .func (PySem.W.fnOf ("blocking_at" : Str) ("blocking_at" : Str) (defArgs (topS 33)) (defBody (topS 33)) (defScope (topS 33)) .none kV_blocking_at dc_blocking_at pm_blocking_at an_blocking_at cd_blocking_at ct_blocking_at), sl_blocking_at⟩)
    (c_blocking_at : PySem.W.codeIn K cd_blocking_at ("blocking_at" : Str) = true)
    (k_blocking_at : PySem.W.keepIn K (.ref f_blocking_at) = true)
    (a_blocking : PySem.W.nsIn K mainGlobals ("blocking" : Str) = some (some (.ref f_blocking)))
    (l_blocking : K.lookup f_blocking = some ⟨oc_blocking, od_blocking, .func (PySem.W.fnOf ("blocking" : Str) ("blocking" : Str) (defArgs (topS 37)) (defBody (topS 37)) (defScope (topS 37)) .none kV_blocking dc_blocking pm_blocking an_blocking cd_blocking ct_blocking), sl_blocking⟩)
    (c_blocking : PySem.W.codeIn K cd_blocking ("blocking" : Str) = true)
    (k_blocking : PySem.W.keepIn K (.ref f_blocking) = true)
    (a_low_bound : PySem.W.nsIn K mainGlobals ("low_bound" : Str) = some (some (.ref f_low_bound)))
    (l_low_bound : K.lookup f_low_bound = some ⟨oc_low_bound, od_low_bound, .func (PySem.W.fnOf ("low_bound" : Str) ("low_bound" : Str) (defArgs (topS 39)) (defBody (topS 39)) (defScope (topS 39)) .none kV_low_bound dc_low_bound pm_low_bound an_low_bound cd_low_bound ct_low_bound), sl_low_bound⟩)
    (c_low_bound : PySem.W.codeIn K cd_low_bound ("low_bound" : Str) = true)
    (k_low_bound : PySem.W.keepIn K (.ref f_low_bound) = true)
    (a__law_told : PySem.W.nsIn K mainGlobals ("_law_told" : Str) = some (some (.ref f__law_told)))
    (l__law_told : K.lookup f__law_told = some ⟨oc__law_told, od__law_told, .func (PySem.W.fnOf ("_law_told" : Str) ("_law_told" : Str) (defArgs (topS 54)) (defBody (topS 54)) (defScope (topS 54)) .none kV__law_told dc__law_told pm__law_told an__law_told cd__law_told ct__law_told), sl__law_told⟩)
    (c__law_told : PySem.W.codeIn K cd__law_told ("_law_told" : Str) = true)
    (k__law_told : PySem.W.keepIn K (.ref f__law_told) = true)
    (a__law_equal : PySem.W.nsIn K mainGlobals ("_law_equal" : Str) = some (some (.ref f__law_equal)))
    (l__law_equal : K.lookup f__law_equal = some ⟨oc__law_equal, od__law_equal, .func (PySem.W.fnOf ("_law_equal" : Str) ("_law_equal" : Str) (defArgs (topS 42)) (defBody (topS 42)) (defScope (topS 42)) .none kV__law_equal dc__law_equal pm__law_equal an__law_equal cd__law_equal ct__law_equal), sl__law_equal⟩)
    (c__law_equal : PySem.W.codeIn K cd__law_equal ("_law_equal" : Str) = true)
    (k__law_equal : PySem.W.keepIn K (.ref f__law_equal) = true)
    (a__law_bad_states : PySem.W.nsIn K mainGlobals ("_law_bad_states" : Str) = some (some (.ref f__law_bad_states)))
    (l__law_bad_states : K.lookup f__law_bad_states = some ⟨oc__law_bad_states, od__law_bad_states, .func (PySem.W.fnOf ("_law_bad_states" : Str) ("_law_bad_states" : Str) (defArgs (topS 50)) (defBody (topS 50)) (defScope (topS 50)) .none kV__law_bad_states dc__law_bad_states pm__law_bad_states an__law_bad_states cd__law_bad_states ct__law_bad_states), sl__law_bad_states⟩)
    (c__law_bad_states : PySem.W.codeIn K cd__law_bad_states ("_law_bad_states" : Str) = true)
    (k__law_bad_states : PySem.W.keepIn K (.ref f__law_bad_states) = true)
    (a__law_going : PySem.W.nsIn K mainGlobals ("_law_going" : Str) = some (some (.ref f__law_going)))
    (l__law_going : K.lookup f__law_going = some ⟨oc__law_going, od__law_going, .func (PySem.W.fnOf ("_law_going" : Str) ("_law_going" : Str) (defArgs (topS 51)) (defBody (topS 51)) (defScope (topS 51)) .none kV__law_going dc__law_going pm__law_going an__law_going cd__law_going ct__law_going), sl__law_going⟩)
    (c__law_going : PySem.W.codeIn K cd__law_going ("_law_going" : Str) = true)
    (k__law_going : PySem.W.keepIn K (.ref f__law_going) = true)
    (a__law_blocking : PySem.W.nsIn K mainGlobals ("_law_blocking" : Str) = some (some (.ref f__law_blocking)))
    (l__law_blocking : K.lookup f__law_blocking = some ⟨oc__law_blocking, od__law_blocking, .func (PySem.W.fnOf ("_law_blocking" : Str) ("_law_blocking" : Str) (defArgs (topS 53)) (defBody (topS 53)) (defScope (topS 53)) .none kV__law_blocking dc__law_blocking pm__law_blocking an__law_blocking cd__law_blocking ct__law_blocking), sl__law_blocking⟩)
    (c__law_blocking : PySem.W.codeIn K cd__law_blocking ("_law_blocking" : Str) = true)
    (k__law_blocking : PySem.W.keepIn K (.ref f__law_blocking) = true)
    (a__law_blocks_above : PySem.W.nsIn K mainGlobals ("_law_blocks_above" : Str) = some (some (.ref f__law_blocks_above)))
    (l__law_blocks_above : K.lookup f__law_blocks_above = some ⟨oc__law_blocks_above, od__law_blocks_above, .func (PySem.W.fnOf ("_law_blocks_above" : Str) ("_law_blocks_above" : Str) (defArgs (topS 52)) (defBody (topS 52)) (defScope (topS 52)) .none kV__law_blocks_above dc__law_blocks_above pm__law_blocks_above an__law_blocks_above cd__law_blocks_above ct__law_blocks_above), sl__law_blocks_above⟩)
    (c__law_blocks_above : PySem.W.codeIn K cd__law_blocks_above ("_law_blocks_above" : Str) = true)
    (k__law_blocks_above : PySem.W.keepIn K (.ref f__law_blocks_above) = true)
    (a__law_is_right : PySem.W.nsIn K mainGlobals ("_law_is_right" : Str) = some (some (.ref f__law_is_right)))
    (l__law_is_right : K.lookup f__law_is_right = some ⟨oc__law_is_right, od__law_is_right, .func (PySem.W.fnOf ("_law_is_right" : Str) ("_law_is_right" : Str) (defArgs (topS 55)) (defBody (topS 55)) (defScope (topS 55)) .none kV__law_is_right dc__law_is_right pm__law_is_right an__law_is_right cd__law_is_right ct__law_is_right), sl__law_is_right⟩)
    (c__law_is_right : PySem.W.codeIn K cd__law_is_right ("_law_is_right" : Str) = true)
    (k__law_is_right : PySem.W.keepIn K (.ref f__law_is_right) = true)
    (a_law : PySem.W.nsIn K mainGlobals ("law" : Str) = some (some (.ref f_law)))
    (l_law : K.lookup f_law = some ⟨oc_law, od_law, .func (PySem.W.fnOf ("law" : Str) ("law" : Str) (defArgs (topS 56)) (defBody (topS 56)) (defScope (topS 56)) .none kV_law dc_law pm_law an_law cd_law ct_law), sl_law⟩)
    (c_law : PySem.W.codeIn K cd_law ("law" : Str) = true)
    (k_law : PySem.W.keepIn K (.ref f_law) = true)
    (zn_len : PySem.W.nsIn K mainGlobals ("len" : Str) = some none)
    (zn_int : PySem.W.nsIn K mainGlobals ("int" : Str) = some none)
    (zn_max : PySem.W.nsIn K mainGlobals ("max" : Str) = some none)
    (zn_range : PySem.W.nsIn K mainGlobals ("range" : Str) = some none)
    (zn_tuple : PySem.W.nsIn K mainGlobals ("tuple" : Str) = some none)
    (zn_list : PySem.W.nsIn K mainGlobals ("list" : Str) = some none)
    (zn_isinstance : PySem.W.nsIn K mainGlobals ("isinstance" : Str) = some none)
    (no5_stacks : PySem.W.findIn K (.ref C5) ("stacks" : Str) = some none)
    (zn_str : PySem.W.nsIn K mainGlobals ("str" : Str) = some none)
    (zg_MOST_LETTERS : PySem.W.nsIn K mainGlobals ("MOST_LETTERS" : Str) = some (some (.int 8 tg_MOST_LETTERS)))
    (zg_LETTERS : PySem.W.nsIn K mainGlobals ("LETTERS" : Str) = some (some (.str ("abcdefghijklmnopqrstuvwxyz" : Str) tg_LETTERS)))
    (zn_all : PySem.W.nsIn K mainGlobals ("all" : Str) = some none)
    (zg_OUT : PySem.W.nsIn K mainGlobals ("OUT" : Str) = some (some (.str ("out" : Str) tg_OUT)))
    (zg_IN : PySem.W.nsIn K mainGlobals ("IN" : Str) = some (some (.str ("in" : Str) tg_IN)))
    (no6_yard : PySem.W.findIn K (.ref C6) ("yard" : Str) = some none)
    (no6_events : PySem.W.findIn K (.ref C6) ("events" : Str) = some none)
    (zn_bool : PySem.W.nsIn K mainGlobals ("bool" : Str) = some none)
    (zn_sorted : PySem.W.nsIn K mainGlobals ("sorted" : Str) = some none)
    (no5_height : PySem.W.findIn K (.ref C5) ("height" : Str) = some none)
    (zn_enumerate : PySem.W.nsIn K mainGlobals ("enumerate" : Str) = some none)
    (zn_any : PySem.W.nsIn K mainGlobals ("any" : Str) = some none)
    (sub1_3 : PySem.W.subIn K (.ref C1) (.ref C3) = some false)
    (xhD3 : PySem.W.hasDictIn K C3 = true)
    (sub2_3 : PySem.W.subIn K (.ref C2) (.ref C3) = some false)
    (sub3_3 : PySem.W.subIn K (.ref C3) (.ref C3) = some true)
    (sub4_3 : PySem.W.subIn K (.ref C4) (.ref C3) = some false)
    (xga3 : PySem.W.findIn K (.ref C3) "__getattribute__" = some (some (.builtin "BaseException.__getattribute__")))
    (xgg3 : PySem.W.findIn K (.ref C3) "__getattr__" = some none)
    (sub1_1 : PySem.W.subIn K (.ref C1) (.ref C1) = some true)
    (xhD1 : PySem.W.hasDictIn K C1 = true)
    (sub2_1 : PySem.W.subIn K (.ref C2) (.ref C1) = some false)
    (sub3_1 : PySem.W.subIn K (.ref C3) (.ref C1) = some false)
    (sub4_1 : PySem.W.subIn K (.ref C4) (.ref C1) = some false)
    (xga1 : PySem.W.findIn K (.ref C1) "__getattribute__" = some (some (.builtin "BaseException.__getattribute__")))
    (xgg1 : PySem.W.findIn K (.ref C1) "__getattr__" = some none)
    (sub1_4 : PySem.W.subIn K (.ref C1) (.ref C4) = some false)
    (xhD4 : PySem.W.hasDictIn K C4 = true)
    (sub2_4 : PySem.W.subIn K (.ref C2) (.ref C4) = some false)
    (sub3_4 : PySem.W.subIn K (.ref C3) (.ref C4) = some false)
    (sub4_4 : PySem.W.subIn K (.ref C4) (.ref C4) = some true)
    (xga4 : PySem.W.findIn K (.ref C4) "__getattribute__" = some (some (.builtin "BaseException.__getattribute__")))
    (xgg4 : PySem.W.findIn K (.ref C4) "__getattr__" = some none)
    : ∃ fd : FuncData, (∀ (s : Shared) (u : Value), BindsTo s fd ⟨[u], []⟩ [("_law_script", u)]) ∧ ∀ base : Heap, K.In base → base.Ns mainGlobals mg → FnOk PySem.Challenge.pw_leastshifts_k10_blocking_boxes w K mg base (L2.CX PySem.Challenge.pw_leastshifts_k10_blocking_boxes w) 15 fa fd ["_law_script"] (spLaw K) := by
  let G : Nat → Addr := fun n => match n with | 0 => C0 | 1 => C1 | 2 => C2 | 3 => C3 | 4 => C4 | 5 => C5 | 6 => C6 | _ => 0
  have Z : Zs G K mg := ⟨PySem.W.mg_none_of X Gn zn_len,
    PySem.W.mg_none_of X Gn zn_int,
    PySem.W.mg_none_of X Gn zn_max,
    PySem.W.mg_none_of X Gn zn_range,
    PySem.W.mg_none_of X Gn zn_tuple,
    PySem.W.mg_none_of X Gn zn_list,
    PySem.W.mg_none_of X Gn zn_isinstance,
    ⟨⟨pg5, hd5, po5, sa5⟩, no5_stacks⟩,
    PySem.W.mg_none_of X Gn zn_str,
    ⟨tg_MOST_LETTERS, PySem.W.mg_of X Gn zg_MOST_LETTERS⟩,
    ⟨tg_LETTERS, PySem.W.mg_of X Gn zg_LETTERS⟩,
    PySem.W.mg_none_of X Gn zn_all,
    ⟨tg_OUT, PySem.W.mg_of X Gn zg_OUT⟩,
    ⟨tg_IN, PySem.W.mg_of X Gn zg_IN⟩,
    ⟨⟨pg6, hd6, po6, sa6⟩, no6_yard⟩,
    ⟨⟨pg6, hd6, po6, sa6⟩, no6_events⟩,
    PySem.W.mg_none_of X Gn zn_bool,
    PySem.W.mg_none_of X Gn zn_sorted,
    ⟨⟨pg5, hd5, po5, sa5⟩, no5_height⟩,
    PySem.W.mg_none_of X Gn zn_enumerate,
    PySem.W.mg_none_of X Gn zn_any,
    PySem.W.mg_of X Gn aC3,
    PySem.W.exm_ref eC3 xhD3 tC3 sub1_3,
    PySem.W.exm_ref eC3 xhD3 tC3 sub2_3,
    PySem.W.exm_ref eC3 xhD3 tC3 sub3_3,
    PySem.W.exm_ref eC3 xhD3 tC3 sub4_3,
    ⟨xga3, xgg3, eC3, xhD3⟩,
    no3_value,
    PySem.W.mg_of X Gn aC1,
    PySem.W.exm_ref eC1 xhD1 tC1 sub1_1,
    PySem.W.exm_ref eC1 xhD1 tC1 sub2_1,
    PySem.W.exm_ref eC1 xhD1 tC1 sub3_1,
    PySem.W.exm_ref eC1 xhD1 tC1 sub4_1,
    ⟨xga1, xgg1, eC1, xhD1⟩,
    no1_value,
    PySem.W.mg_of X Gn aC4,
    PySem.W.exm_ref eC4 xhD4 tC4 sub1_4,
    PySem.W.exm_ref eC4 xhD4 tC4 sub2_4,
    PySem.W.exm_ref eC4 xhD4 tC4 sub3_4,
    PySem.W.exm_ref eC4 xhD4 tC4 sub4_4,
    ⟨xga4, xgg4, eC4, xhD4⟩,
    no4_name⟩
  have e := hfa.symm.trans (PySem.W.mg_of X Gn a_law)
  cases e
  refine ⟨PySem.W.fnOf "law" "law" (defArgs (topS 56)) (defBody (topS 56)) (defScope (topS 56)) .none kV_law dc_law pm_law an_law cd_law ct_law, fun s u => .of_eq rfl, fun base Xb Gb => ?_⟩
  have T1 : OexC K C1 := ⟨⟨_, _, _, _, _, _, _, _, _, _, _, _, _, _, _, xL1, by rfl⟩, sa1, eC1, tC1, kC1⟩
  have X_InvalidYard : ExcC PySem.Challenge.pw_leastshifts_k10_blocking_boxes w K mg base 1 ("InvalidYard" : Str) (G 1) (spX1 (G 1) ("value" : Str)) := by
    refine ⟨T1, ⟨fI1, _, _, iC1, tI1, Lx.fn_exc (N := [("self" : Str), ("value" : Str), ("__class__" : Str)]) (ps := [("self" : Str), ("value" : Str)]) T1 lI1 cI1 lc1 ld1 hv1 hf1 (by decide +kernel) (NdefX.nscope_by (by decide +kernel)) rfl rfl (by decide +kernel) (PySem.W.mg_none_of X Gn zsuper) zany (sup_of xL1 xL0 fi0) iV1 rfl (fun _ => rfl) (fun _ => rfl)
      (fun vs H Q E h => ?_) (fun A outer s H E => rest1 rfl rfl (by decide) (by decide) T1 no1_value), .all fun us hl => match us, hl with | [_, _], _ => rfl⟩, PySem.W.mg_of X Gn aC1⟩
    obtain ⟨a, y0, rfl, h, _⟩ := h
    exact ⟨rfl, a, _, rfl, h⟩
  have T2 : OexC K C2 := ⟨⟨_, _, _, _, _, _, _, _, _, _, _, _, _, _, _, xL2, by rfl⟩, sa2, eC2, tC2, kC2⟩
  have X_InvalidDay : ExcC PySem.Challenge.pw_leastshifts_k10_blocking_boxes w K mg base 1 ("InvalidDay" : Str) (G 2) (spX1 (G 2) ("value" : Str)) := by
    refine ⟨T2, ⟨fI2, _, _, iC2, tI2, Lx.fn_exc (N := [("self" : Str), ("value" : Str), ("__class__" : Str)]) (ps := [("self" : Str), ("value" : Str)]) T2 lI2 cI2 lc2 ld2 hv2 hf2 (by decide +kernel) (NdefX.nscope_by (by decide +kernel)) rfl rfl (by decide +kernel) (PySem.W.mg_none_of X Gn zsuper) zany (sup_of xL2 xL0 fi0) iV2 rfl (fun _ => rfl) (fun _ => rfl)
      (fun vs H Q E h => ?_) (fun A outer s H E => rest1 rfl rfl (by decide) (by decide) T2 no2_value), .all fun us hl => match us, hl with | [_, _], _ => rfl⟩, PySem.W.mg_of X Gn aC2⟩
    obtain ⟨a, y0, rfl, h, _⟩ := h
    exact ⟨rfl, a, _, rfl, h⟩
  have T3 : OexC K C3 := ⟨⟨_, _, _, _, _, _, _, _, _, _, _, _, _, _, _, xL3, by rfl⟩, sa3, eC3, tC3, kC3⟩
  have X_InvalidNumber : ExcC PySem.Challenge.pw_leastshifts_k10_blocking_boxes w K mg base 1 ("InvalidNumber" : Str) (G 3) (spX1 (G 3) ("value" : Str)) := by
    refine ⟨T3, ⟨fI3, _, _, iC3, tI3, Lx.fn_exc (N := [("self" : Str), ("value" : Str), ("__class__" : Str)]) (ps := [("self" : Str), ("value" : Str)]) T3 lI3 cI3 lc3 ld3 hv3 hf3 (by decide +kernel) (NdefX.nscope_by (by decide +kernel)) rfl rfl (by decide +kernel) (PySem.W.mg_none_of X Gn zsuper) zany (sup_of xL3 xL0 fi0) iV3 rfl (fun _ => rfl) (fun _ => rfl)
      (fun vs H Q E h => ?_) (fun A outer s H E => rest1 rfl rfl (by decide) (by decide) T3 no3_value), .all fun us hl => match us, hl with | [_, _], _ => rfl⟩, PySem.W.mg_of X Gn aC3⟩
    obtain ⟨a, y0, rfl, h, _⟩ := h
    exact ⟨rfl, a, _, rfl, h⟩
  have T4 : OexC K C4 := ⟨⟨_, _, _, _, _, _, _, _, _, _, _, _, _, _, _, xL4, by rfl⟩, sa4, eC4, tC4, kC4⟩
  have X_UnknownBox : ExcC PySem.Challenge.pw_leastshifts_k10_blocking_boxes w K mg base 1 ("UnknownBox" : Str) (G 4) (spX1 (G 4) ("name" : Str)) := by
    refine ⟨T4, ⟨fI4, _, _, iC4, tI4, Lx.fn_exc (N := [("self" : Str), ("name" : Str), ("__class__" : Str)]) (ps := [("self" : Str), ("name" : Str)]) T4 lI4 cI4 lc4 ld4 hv4 hf4 (by decide +kernel) (NdefX.nscope_by (by decide +kernel)) rfl rfl (by decide +kernel) (PySem.W.mg_none_of X Gn zsuper) zany (sup_of xL4 xL0 fi0) iV4 rfl (fun _ => rfl) (fun _ => rfl)
      (fun vs H Q E h => ?_) (fun A outer s H E => rest1 rfl rfl (by decide) (by decide) T4 no4_name), .all fun us hl => match us, hl with | [_, _], _ => rfl⟩, PySem.W.mg_of X Gn aC4⟩
    obtain ⟨a, y0, rfl, h, _⟩ := h
    exact ⟨rfl, a, _, rfl, h⟩
  have F__law_draws := fun_mk (st := (topS 41)) l__law_draws c__law_draws k__law_draws
  have B__law_draws := F__law_draws.binds (ps := [("_law_script" : Str), ("_law_k" : Str), ("_law_bounds" : Str)]) fun _ _ _ _ _ _ us hl => match us, hl with | [_, _, _], _ => rfl
  have W__law_draws : FnOk PySem.Challenge.pw_leastshifts_k10_blocking_boxes w K mg base (L2.CX PySem.Challenge.pw_leastshifts_k10_blocking_boxes w) 1 _ _ _ (spM G K .sh 3 (ar3 m__law_draws)) := d__law_draws Z F__law_draws 
  have D__law_draws : Dk PySem.Challenge.pw_leastshifts_k10_blocking_boxes w K mg base 1 ("_law_draws" : Str) (spM G K .sh 3 (ar3 m__law_draws)) := ⟨_, _, _, W__law_draws, PySem.W.mg_of X Gn a__law_draws, F__law_draws.kp, B__law_draws⟩
  have F__law_pool := fun_mk (st := (topS 43)) l__law_pool c__law_pool k__law_pool
  have B__law_pool := F__law_pool.binds (ps := [("_law_script" : Str), ("_law_k" : Str), ("_law_size" : Str)]) fun _ _ _ _ _ _ us hl => match us, hl with | [_, _, _], _ => rfl
  have W__law_pool : FnOk PySem.Challenge.pw_leastshifts_k10_blocking_boxes w K mg base (L2.CX PySem.Challenge.pw_leastshifts_k10_blocking_boxes w) 2 _ _ _ (spM G K .sh 3 (ar3 m__law_pool)) := d__law_pool Z F__law_pool D__law_draws
  have D__law_pool : Dk PySem.Challenge.pw_leastshifts_k10_blocking_boxes w K mg base 2 ("_law_pool" : Str) (spM G K .sh 3 (ar3 m__law_pool)) := ⟨_, _, _, W__law_pool, PySem.W.mg_of X Gn a__law_pool, F__law_pool.kp, B__law_pool⟩
  have F__law_stacked := fun_mk (st := (topS 44)) l__law_stacked c__law_stacked k__law_stacked
  have B__law_stacked := F__law_stacked.binds (ps := [("_law_order" : Str), ("_law_places" : Str), ("_law_count" : Str), ("_law_height" : Str)]) fun _ _ _ _ _ _ us hl => match us, hl with | [_, _, _, _], _ => rfl
  have W__law_stacked : FnOk PySem.Challenge.pw_leastshifts_k10_blocking_boxes w K mg base (L2.CX PySem.Challenge.pw_leastshifts_k10_blocking_boxes w) 1 _ _ _ (spM G K .sh 4 (ar4 m__law_stacked)) := d__law_stacked Z F__law_stacked 
  have D__law_stacked : Dk PySem.Challenge.pw_leastshifts_k10_blocking_boxes w K mg base 1 ("_law_stacked" : Str) (spM G K .sh 4 (ar4 m__law_stacked)) := ⟨_, _, _, W__law_stacked, PySem.W.mg_of X Gn a__law_stacked, F__law_stacked.kp, B__law_stacked⟩
  have F__law_yard := fun_mk (st := (topS 45)) l__law_yard c__law_yard k__law_yard
  have B__law_yard := F__law_yard.binds (ps := [("_law_script" : Str), ("_law_k" : Str), ("_law_pool_here" : Str), ("_law_count" : Str), ("_law_height" : Str), ("_law_most" : Str)]) fun _ _ _ _ _ _ us hl => match us, hl with | [_, _, _, _, _, _], _ => rfl
  have W__law_yard : FnOk PySem.Challenge.pw_leastshifts_k10_blocking_boxes w K mg base (L2.CX PySem.Challenge.pw_leastshifts_k10_blocking_boxes w) 2 _ _ _ (spM G K .sh 6 (ar6 m__law_yard)) := d__law_yard Z F__law_yard D__law_draws D__law_stacked
  have D__law_yard : Dk PySem.Challenge.pw_leastshifts_k10_blocking_boxes w K mg base 2 ("_law_yard" : Str) (spM G K .sh 6 (ar6 m__law_yard)) := ⟨_, _, _, W__law_yard, PySem.W.mg_of X Gn a__law_yard, F__law_yard.kp, B__law_yard⟩
  have F__law_boxes := fun_mk (st := (topS 46)) l__law_boxes c__law_boxes k__law_boxes
  have B__law_boxes := F__law_boxes.binds (ps := [("_law_stacks" : Str)]) fun _ _ _ _ _ _ us hl => match us, hl with | [_], _ => rfl
  have W__law_boxes : FnOk PySem.Challenge.pw_leastshifts_k10_blocking_boxes w K mg base (L2.CX PySem.Challenge.pw_leastshifts_k10_blocking_boxes w) 1 _ _ _ (spM G K .fr 1 (ar1 m__law_boxes)) := d__law_boxes Z F__law_boxes 
  have D__law_boxes : Dk PySem.Challenge.pw_leastshifts_k10_blocking_boxes w K mg base 1 ("_law_boxes" : Str) (spM G K .fr 1 (ar1 m__law_boxes)) := ⟨_, _, _, W__law_boxes, PySem.W.mg_of X Gn a__law_boxes, F__law_boxes.kp, B__law_boxes⟩
  have F__law_events := fun_mk (st := (topS 47)) l__law_events c__law_events k__law_events
  have B__law_events := F__law_events.binds (ps := [("_law_script" : Str), ("_law_k" : Str), ("_law_pool_here" : Str), ("_law_stacks" : Str), ("_law_most" : Str)]) fun _ _ _ _ _ _ us hl => match us, hl with | [_, _, _, _, _], _ => rfl
  have W__law_events : FnOk PySem.Challenge.pw_leastshifts_k10_blocking_boxes w K mg base (L2.CX PySem.Challenge.pw_leastshifts_k10_blocking_boxes w) 2 _ _ _ (spM G K .sh 5 (ar5 m__law_events)) := d__law_events Z F__law_events D__law_boxes D__law_draws
  have D__law_events : Dk PySem.Challenge.pw_leastshifts_k10_blocking_boxes w K mg base 2 ("_law_events" : Str) (spM G K .sh 5 (ar5 m__law_events)) := ⟨_, _, _, W__law_events, PySem.W.mg_of X Gn a__law_events, F__law_events.kp, B__law_events⟩
  have F_is_sequence := fun_mk (st := (topS 6)) l_is_sequence c_is_sequence k_is_sequence
  have B_is_sequence := F_is_sequence.binds (ps := [("value" : Str)]) fun _ _ _ _ _ _ us hl => match us, hl with | [_], _ => rfl
  have W_is_sequence : FnOk PySem.Challenge.pw_leastshifts_k10_blocking_boxes w K mg base (L2.CX PySem.Challenge.pw_leastshifts_k10_blocking_boxes w) 1 _ _ _ (spM G K .sh 1 (ar1 m_is_sequence)) := d_is_sequence Z F_is_sequence 
  have D_is_sequence : Dk PySem.Challenge.pw_leastshifts_k10_blocking_boxes w K mg base 1 ("is_sequence" : Str) (spM G K .sh 1 (ar1 m_is_sequence)) := ⟨_, _, _, W_is_sequence, PySem.W.mg_of X Gn a_is_sequence, F_is_sequence.kp, B_is_sequence⟩
  have F_boxes_of := fun_mk (st := (topS 21)) l_boxes_of c_boxes_of k_boxes_of
  have B_boxes_of := F_boxes_of.binds (ps := [("yard" : Str)]) fun _ _ _ _ _ _ us hl => match us, hl with | [_], _ => rfl
  have W_boxes_of : FnOk PySem.Challenge.pw_leastshifts_k10_blocking_boxes w K mg base (L2.CX PySem.Challenge.pw_leastshifts_k10_blocking_boxes w) 1 _ _ _ (spM G K .sh 1 (ar1 m_boxes_of)) := d_boxes_of Z F_boxes_of 
  have D_boxes_of : Dk PySem.Challenge.pw_leastshifts_k10_blocking_boxes w K mg base 1 ("boxes_of" : Str) (spM G K .sh 1 (ar1 m_boxes_of)) := ⟨_, _, _, W_boxes_of, PySem.W.mg_of X Gn a_boxes_of, F_boxes_of.kp, B_boxes_of⟩
  have F_is_name := fun_mk (st := (topS 7)) l_is_name c_is_name k_is_name
  have B_is_name := F_is_name.binds (ps := [("value" : Str)]) fun _ _ _ _ _ _ us hl => match us, hl with | [_], _ => rfl
  have W_is_name : FnOk PySem.Challenge.pw_leastshifts_k10_blocking_boxes w K mg base (L2.CX PySem.Challenge.pw_leastshifts_k10_blocking_boxes w) 1 _ _ _ (spM G K .sh 1 (ar1 m_is_name)) := d_is_name Z F_is_name 
  have D_is_name : Dk PySem.Challenge.pw_leastshifts_k10_blocking_boxes w K mg base 1 ("is_name" : Str) (spM G K .sh 1 (ar1 m_is_name)) := ⟨_, _, _, W_is_name, PySem.W.mg_of X Gn a_is_name, F_is_name.kp, B_is_name⟩
  have F_is_event := fun_mk (st := (topS 25)) l_is_event c_is_event k_is_event
  have B_is_event := F_is_event.binds (ps := [("value" : Str)]) fun _ _ _ _ _ _ us hl => match us, hl with | [_], _ => rfl
  have W_is_event : FnOk PySem.Challenge.pw_leastshifts_k10_blocking_boxes w K mg base (L2.CX PySem.Challenge.pw_leastshifts_k10_blocking_boxes w) 2 _ _ _ (spM G K .sh 1 (ar1 m_is_event)) := d_is_event Z F_is_event D_is_name
  have D_is_event : Dk PySem.Challenge.pw_leastshifts_k10_blocking_boxes w K mg base 2 ("is_event" : Str) (spM G K .sh 1 (ar1 m_is_event)) := ⟨_, _, _, W_is_event, PySem.W.mg_of X Gn a_is_event, F_is_event.kp, B_is_event⟩
  have F_as_events := fun_mk (st := (topS 26)) l_as_events c_as_events k_as_events
  have B_as_events := F_as_events.binds (ps := [("yard" : Str), ("value" : Str)]) fun _ _ _ _ _ _ us hl => match us, hl with | [_, _], _ => rfl
  have W_as_events : FnOk PySem.Challenge.pw_leastshifts_k10_blocking_boxes w K mg base (L2.CX PySem.Challenge.pw_leastshifts_k10_blocking_boxes w) 3 _ _ _ (spM G K .sh 2 (ar2 m_as_events)) := d_as_events Z F_as_events D_is_sequence D_is_event D_boxes_of
  have D_as_events : Dk PySem.Challenge.pw_leastshifts_k10_blocking_boxes w K mg base 3 ("as_events" : Str) (spM G K .sh 2 (ar2 m_as_events)) := ⟨_, _, _, W_as_events, PySem.W.mg_of X Gn a_as_events, F_as_events.kp, B_as_events⟩
  have F_Day := fun_mk (st := (inClass (topS 27) 0)) lI6 cI6 kI6
  have W_Day : FnOk PySem.Challenge.pw_leastshifts_k10_blocking_boxes w K mg base (L2.CX PySem.Challenge.pw_leastshifts_k10_blocking_boxes w) 4 _ _ _ (spI G K 6 2 (ar2 m_Day)) := d_Day Z F_Day D_as_events X_InvalidDay
  have M_Day : Mkr PySem.Challenge.pw_leastshifts_k10_blocking_boxes w K mg base 4 ("Day" : Str) (G 6) (spI G K 6 2 (ar2 m_Day)) := ⟨_, _, _, ⟨mk6, iC6, fn6, kC6⟩, W_Day, PySem.W.mg_of X Gn aC6, F_Day.binds (ps := [("self" : Str), ("yard" : Str), ("events" : Str)]) fun _ _ _ _ _ _ us hl => match us, hl with | [_, _, _], _ => rfl⟩
  have F__law_present := fun_mk (st := (topS 48)) l__law_present c__law_present k__law_present
  have B__law_present := F__law_present.binds (ps := [("_law_stacks" : Str), ("_law_events_here" : Str), ("_law_e" : Str)]) fun _ _ _ _ _ _ us hl => match us, hl with | [_, _, _], _ => rfl
  have W__law_present : FnOk PySem.Challenge.pw_leastshifts_k10_blocking_boxes w K mg base (L2.CX PySem.Challenge.pw_leastshifts_k10_blocking_boxes w) 2 _ _ _ (spM G K .fr 3 (ar3 m__law_present)) := d__law_present Z F__law_present D__law_boxes
  have D__law_present : Dk PySem.Challenge.pw_leastshifts_k10_blocking_boxes w K mg base 2 ("_law_present" : Str) (spM G K .fr 3 (ar3 m__law_present)) := ⟨_, _, _, W__law_present, PySem.W.mg_of X Gn a__law_present, F__law_present.kp, B__law_present⟩
  have F__law_state := fun_mk (st := (topS 49)) l__law_state c__law_state k__law_state
  have B__law_state := F__law_state.binds (ps := [("_law_script" : Str), ("_law_k" : Str), ("_law_height" : Str), ("_law_stacks" : Str), ("_law_events_here" : Str)]) fun _ _ _ _ _ _ us hl => match us, hl with | [_, _, _, _, _], _ => rfl
  have W__law_state : FnOk PySem.Challenge.pw_leastshifts_k10_blocking_boxes w K mg base (L2.CX PySem.Challenge.pw_leastshifts_k10_blocking_boxes w) 3 _ _ _ (spM G K .sh 5 (ar5 m__law_state)) := d__law_state Z F__law_state D__law_draws D__law_present D__law_stacked
  have D__law_state : Dk PySem.Challenge.pw_leastshifts_k10_blocking_boxes w K mg base 3 ("_law_state" : Str) (spM G K .sh 5 (ar5 m__law_state)) := ⟨_, _, _, W__law_state, PySem.W.mg_of X Gn a__law_state, F__law_state.kp, B__law_state⟩
  have F_goings := fun_mk (st := (topS 30)) l_goings c_goings k_goings
  have B_goings := F_goings.binds (ps := [("day" : Str), ("e" : Str)]) fun _ _ _ _ _ _ us hl => match us, hl with | [_, _], _ => rfl
  have W_goings : FnOk PySem.Challenge.pw_leastshifts_k10_blocking_boxes w K mg base (L2.CX PySem.Challenge.pw_leastshifts_k10_blocking_boxes w) 1 _ _ _ (spM G K .sh 2 (ar2 m_goings)) := d_goings Z F_goings 
  have D_goings : Dk PySem.Challenge.pw_leastshifts_k10_blocking_boxes w K mg base 1 ("goings" : Str) (spM G K .sh 2 (ar2 m_goings)) := ⟨_, _, _, W_goings, PySem.W.mg_of X Gn a_goings, F_goings.kp, B_goings⟩
  have F_is_integer := fun_mk (st := (topS 4)) l_is_integer c_is_integer k_is_integer
  have B_is_integer := F_is_integer.binds (ps := [("value" : Str)]) fun _ _ _ _ _ _ us hl => match us, hl with | [_], _ => rfl
  have W_is_integer : FnOk PySem.Challenge.pw_leastshifts_k10_blocking_boxes w K mg base (L2.CX PySem.Challenge.pw_leastshifts_k10_blocking_boxes w) 1 _ _ _ (spM G K .sh 1 (ar1 m_is_integer)) := d_is_integer Z F_is_integer 
  have D_is_integer : Dk PySem.Challenge.pw_leastshifts_k10_blocking_boxes w K mg base 1 ("is_integer" : Str) (spM G K .sh 1 (ar1 m_is_integer)) := ⟨_, _, _, W_is_integer, PySem.W.mg_of X Gn a_is_integer, F_is_integer.kp, B_is_integer⟩
  have F_is_number := fun_mk (st := (topS 5)) l_is_number c_is_number k_is_number
  have B_is_number := F_is_number.binds (ps := [("value" : Str)]) fun _ _ _ _ _ _ us hl => match us, hl with | [_], _ => rfl
  have W_is_number : FnOk PySem.Challenge.pw_leastshifts_k10_blocking_boxes w K mg base (L2.CX PySem.Challenge.pw_leastshifts_k10_blocking_boxes w) 2 _ _ _ (spM G K .sh 1 (ar1 m_is_number)) := d_is_number Z F_is_number D_is_integer
  have D_is_number : Dk PySem.Challenge.pw_leastshifts_k10_blocking_boxes w K mg base 2 ("is_number" : Str) (spM G K .sh 1 (ar1 m_is_number)) := ⟨_, _, _, W_is_number, PySem.W.mg_of X Gn a_is_number, F_is_number.kp, B_is_number⟩
  have F_boxes_at := fun_mk (st := (topS 28)) l_boxes_at c_boxes_at k_boxes_at
  have B_boxes_at := F_boxes_at.binds (ps := [("day" : Str), ("e" : Str)]) fun _ _ _ _ _ _ us hl => match us, hl with | [_, _], _ => rfl
  have W_boxes_at : FnOk PySem.Challenge.pw_leastshifts_k10_blocking_boxes w K mg base (L2.CX PySem.Challenge.pw_leastshifts_k10_blocking_boxes w) 3 _ _ _ (spM G K .sh 2 (ar2 m_boxes_at)) := d_boxes_at Z F_boxes_at D_is_number X_InvalidNumber D_boxes_of
  have D_boxes_at : Dk PySem.Challenge.pw_leastshifts_k10_blocking_boxes w K mg base 3 ("boxes_at" : Str) (spM G K .sh 2 (ar2 m_boxes_at)) := ⟨_, _, _, W_boxes_at, PySem.W.mg_of X Gn a_boxes_at, F_boxes_at.kp, B_boxes_at⟩
  have F_are_unlike := fun_mk (st := (topS 8)) l_are_unlike c_are_unlike k_are_unlike
  have B_are_unlike := F_are_unlike.binds (ps := [("names" : Str)]) fun _ _ _ _ _ _ us hl => match us, hl with | [_], _ => rfl
  have W_are_unlike : FnOk PySem.Challenge.pw_leastshifts_k10_blocking_boxes w K mg base (L2.CX PySem.Challenge.pw_leastshifts_k10_blocking_boxes w) 1 _ _ _ (spM G K .sh 1 (ar1 m_are_unlike)) := d_are_unlike Z F_are_unlike 
  have D_are_unlike : Dk PySem.Challenge.pw_leastshifts_k10_blocking_boxes w K mg base 1 ("are_unlike" : Str) (spM G K .sh 1 (ar1 m_are_unlike)) := ⟨_, _, _, W_are_unlike, PySem.W.mg_of X Gn a_are_unlike, F_are_unlike.kp, B_are_unlike⟩
  have F_as_stacks := fun_mk (st := (topS 18)) l_as_stacks c_as_stacks k_as_stacks
  have B_as_stacks := F_as_stacks.binds (ps := [("height" : Str), ("value" : Str)]) fun _ _ _ _ _ _ us hl => match us, hl with | [_, _], _ => rfl
  have W_as_stacks : FnOk PySem.Challenge.pw_leastshifts_k10_blocking_boxes w K mg base (L2.CX PySem.Challenge.pw_leastshifts_k10_blocking_boxes w) 2 _ _ _ (spM G K .sh 2 (ar2 m_as_stacks)) := d_as_stacks Z F_as_stacks D_is_sequence D_is_name D_are_unlike
  have D_as_stacks : Dk PySem.Challenge.pw_leastshifts_k10_blocking_boxes w K mg base 2 ("as_stacks" : Str) (spM G K .sh 2 (ar2 m_as_stacks)) := ⟨_, _, _, W_as_stacks, PySem.W.mg_of X Gn a_as_stacks, F_as_stacks.kp, B_as_stacks⟩
  have F_need_state := fun_mk (st := (topS 35)) l_need_state c_need_state k_need_state
  have B_need_state := F_need_state.binds (ps := [("day" : Str), ("e" : Str), ("stacks" : Str)]) fun _ _ _ _ _ _ us hl => match us, hl with | [_, _, _], _ => rfl
  have W_need_state : FnOk PySem.Challenge.pw_leastshifts_k10_blocking_boxes w K mg base (L2.CX PySem.Challenge.pw_leastshifts_k10_blocking_boxes w) 4 _ _ _ (spM G K .sh 3 (ar3 m_need_state)) := d_need_state Z F_need_state D_boxes_at D_as_stacks X_InvalidYard
  have D_need_state : Dk PySem.Challenge.pw_leastshifts_k10_blocking_boxes w K mg base 4 ("need_state" : Str) (spM G K .sh 3 (ar3 m_need_state)) := ⟨_, _, _, W_need_state, PySem.W.mg_of X Gn a_need_state, F_need_state.kp, B_need_state⟩
  have F_goes_before := fun_mk (st := (topS 31)) l_goes_before c_goes_before k_goes_before
  have B_goes_before := F_goes_before.binds (ps := [("times" : Str), ("name" : Str), ("other" : Str)]) fun _ _ _ _ _ _ us hl => match us, hl with | [_, _, _], _ => rfl
  have W_goes_before : FnOk PySem.Challenge.pw_leastshifts_k10_blocking_boxes w K mg base (L2.CX PySem.Challenge.pw_leastshifts_k10_blocking_boxes w) 1 _ _ _ (spM G K .sh 3 (ar3 m_goes_before)) := d_goes_before Z F_goes_before 
  have D_goes_before : Dk PySem.Challenge.pw_leastshifts_k10_blocking_boxes w K mg base 1 ("goes_before" : Str) (spM G K .sh 3 (ar3 m_goes_before)) := ⟨_, _, _, W_goes_before, PySem.W.mg_of X Gn a_goes_before, F_goes_before.kp, B_goes_before⟩
  have F_blocked_by := fun_mk (st := (topS 38)) l_blocked_by c_blocked_by k_blocked_by
  have B_blocked_by := F_blocked_by.binds (ps := [("day" : Str), ("e" : Str), ("stacks" : Str), ("name" : Str)]) fun _ _ _ _ _ _ us hl => match us, hl with | [_, _, _, _], _ => rfl
  have W_blocked_by : FnOk PySem.Challenge.pw_leastshifts_k10_blocking_boxes w K mg base (L2.CX PySem.Challenge.pw_leastshifts_k10_blocking_boxes w) 5 _ _ _ (spM G K .sh 4 (ar4 m_blocked_by)) := d_blocked_by Z F_blocked_by D_need_state X_UnknownBox D_goings D_goes_before
  have D_blocked_by : Dk PySem.Challenge.pw_leastshifts_k10_blocking_boxes w K mg base 5 ("blocked_by" : Str) (spM G K .sh 4 (ar4 m_blocked_by)) := ⟨_, _, _, W_blocked_by, PySem.W.mg_of X Gn a_blocked_by, F_blocked_by.kp, B_blocked_by⟩
  have F_blocking_in := fun_mk (st := (topS 32)) l_blocking_in c_blocking_in k_blocking_in
  have B_blocking_in := F_blocking_in.binds (ps := [("times" : Str), ("stack" : Str)]) fun _ _ _ _ _ _ us hl => match us, hl with | [_, _], _ => rfl
  have W_blocking_in : FnOk PySem.Challenge.pw_leastshifts_k10_blocking_boxes w K mg base (L2.CX PySem.Challenge.pw_leastshifts_k10_blocking_boxes w) 2 _ _ _ (spM G K .sh 2 (ar2 m_blocking_in)) := d_blocking_in Z F_blocking_in D_goes_before
  have D_blocking_in : Dk PySem.Challenge.pw_leastshifts_k10_blocking_boxes w K mg base 2 ("blocking_in" : Str) (spM G K .sh 2 (ar2 m_blocking_in)) := ⟨_, _, _, W_blocking_in, PySem.W.mg_of X Gn a_blocking_in, F_blocking_in.kp, B_blocking_in⟩
  have F_blocking_at := fun_mk (st := (topS 33)) l_blocking_at c_blocking_at k_blocking_at
  have B_blocking_at := F_blocking_at.binds (ps := [("day" : Str), ("state" : Str)]) fun _ _ _ _ _ _ us hl => match us, hl with | [_, _], _ => rfl
  have W_blocking_at : FnOk PySem.Challenge.pw_leastshifts_k10_blocking_boxes w K mg base (L2.CX PySem.Challenge.pw_leastshifts_k10_blocking_boxes w) 3 _ _ _ (spM G K .sh 2 (ar2 m_blocking_at)) := d_blocking_at Z F_blocking_at D_goings D_blocking_in
  have D_blocking_at : Dk PySem.Challenge.pw_leastshifts_k10_blocking_boxes w K mg base 3 ("blocking_at" : Str) (spM G K .sh 2 (ar2 m_blocking_at)) := ⟨_, _, _, W_blocking_at, PySem.W.mg_of X Gn a_blocking_at, F_blocking_at.kp, B_blocking_at⟩
  have F_blocking := fun_mk (st := (topS 37)) l_blocking c_blocking k_blocking
  have B_blocking := F_blocking.binds (ps := [("day" : Str), ("e" : Str), ("stacks" : Str)]) fun _ _ _ _ _ _ us hl => match us, hl with | [_, _, _], _ => rfl
  have W_blocking : FnOk PySem.Challenge.pw_leastshifts_k10_blocking_boxes w K mg base (L2.CX PySem.Challenge.pw_leastshifts_k10_blocking_boxes w) 5 _ _ _ (spM G K .sh 3 (ar3 m_blocking)) := d_blocking Z F_blocking D_blocking_at D_need_state
  have D_blocking : Dk PySem.Challenge.pw_leastshifts_k10_blocking_boxes w K mg base 5 ("blocking" : Str) (spM G K .sh 3 (ar3 m_blocking)) := ⟨_, _, _, W_blocking, PySem.W.mg_of X Gn a_blocking, F_blocking.kp, B_blocking⟩
  have F_low_bound := fun_mk (st := (topS 39)) l_low_bound c_low_bound k_low_bound
  have B_low_bound := F_low_bound.binds (ps := [("day" : Str), ("e" : Str), ("stacks" : Str)]) fun _ _ _ _ _ _ us hl => match us, hl with | [_, _, _], _ => rfl
  have W_low_bound : FnOk PySem.Challenge.pw_leastshifts_k10_blocking_boxes w K mg base (L2.CX PySem.Challenge.pw_leastshifts_k10_blocking_boxes w) 6 _ _ _ (spM G K .sh 3 (ar3 m_low_bound)) := d_low_bound Z F_low_bound D_blocking
  have D_low_bound : Dk PySem.Challenge.pw_leastshifts_k10_blocking_boxes w K mg base 6 ("low_bound" : Str) (spM G K .sh 3 (ar3 m_low_bound)) := ⟨_, _, _, W_low_bound, PySem.W.mg_of X Gn a_low_bound, F_low_bound.kp, B_low_bound⟩
  have DK_low_bound_day_e_stacks : DkK PySem.Challenge.pw_leastshifts_k10_blocking_boxes w K mg base 6 ("low_bound" : Str) (spM G K .sh 3 (ar3 m_low_bound)) [("day" : Str), ("e" : Str), ("stacks" : Str)] [0, 1, 2] := ⟨_, _, _, W_low_bound, PySem.W.mg_of X Gn a_low_bound, F_low_bound.kp, kbn0 F_low_bound [("day" : Str), ("e" : Str), ("stacks" : Str)] [0, 1, 2] fun _ _ _ _ _ _ ws hl => match ws, hl with | [_, _, _], _ => rfl⟩
  have F__law_told := fun_mk (st := (topS 54)) l__law_told c__law_told k__law_told
  have B__law_told := F__law_told.binds (ps := [("_law_which" : Str), ("_law_day" : Str), ("_law_e" : Str), ("_law_stacks" : Str), ("_law_name" : Str)]) fun _ _ _ _ _ _ us hl => match us, hl with | [_, _, _, _, _], _ => rfl
  have W__law_told : FnOk PySem.Challenge.pw_leastshifts_k10_blocking_boxes w K mg base (L2.CX PySem.Challenge.pw_leastshifts_k10_blocking_boxes w) 7 _ _ _ (spM G K .sh 5 (ar5 m__law_told)) := d__law_told Z F__law_told D_blocking D_low_bound D_blocked_by
  have D__law_told : Dk PySem.Challenge.pw_leastshifts_k10_blocking_boxes w K mg base 7 ("_law_told" : Str) (spM G K .sh 5 (ar5 m__law_told)) := ⟨_, _, _, W__law_told, PySem.W.mg_of X Gn a__law_told, F__law_told.kp, B__law_told⟩
  have F__law_equal := fun_mk (st := (topS 42)) l__law_equal c__law_equal k__law_equal
  have B__law_equal := F__law_equal.binds (ps := [("_law_actual" : Str), ("_law_expected" : Str)]) fun _ _ _ _ _ _ us hl => match us, hl with | [_, _], _ => rfl
  have W__law_equal : FnOk PySem.Challenge.pw_leastshifts_k10_blocking_boxes w K mg base (L2.CX PySem.Challenge.pw_leastshifts_k10_blocking_boxes w) 13 _ _ _ (spM G K .sh 2 (ar2 (m__law_equal 12))) := d__law_equal Z F__law_equal (PySem.W.mg_of X Gn a__law_equal) B__law_equal  12
  have D__law_equal : Dk PySem.Challenge.pw_leastshifts_k10_blocking_boxes w K mg base 13 ("_law_equal" : Str) (spM G K .sh 2 (ar2 (m__law_equal 12))) := ⟨_, _, _, W__law_equal, PySem.W.mg_of X Gn a__law_equal, F__law_equal.kp, B__law_equal⟩
  have F_Yard := fun_mk (st := (inClass (topS 19) 0)) lI5 cI5 kI5
  have W_Yard : FnOk PySem.Challenge.pw_leastshifts_k10_blocking_boxes w K mg base (L2.CX PySem.Challenge.pw_leastshifts_k10_blocking_boxes w) 3 _ _ _ (spI G K 5 2 (ar2 m_Yard)) := d_Yard Z F_Yard D_is_number X_InvalidNumber D_as_stacks X_InvalidYard
  have M_Yard : Mkr PySem.Challenge.pw_leastshifts_k10_blocking_boxes w K mg base 3 ("Yard" : Str) (G 5) (spI G K 5 2 (ar2 m_Yard)) := ⟨_, _, _, ⟨mk5, iC5, fn5, kC5⟩, W_Yard, PySem.W.mg_of X Gn aC5, F_Yard.binds (ps := [("self" : Str), ("height" : Str), ("stacks" : Str)]) fun _ _ _ _ _ _ us hl => match us, hl with | [_, _, _], _ => rfl⟩
  have F__law_bad_states := fun_mk (st := (topS 50)) l__law_bad_states c__law_bad_states k__law_bad_states
  have B__law_bad_states := F__law_bad_states.binds (ps := [("_law_script" : Str), ("_law_k" : Str), ("_law_height" : Str), ("_law_stacks" : Str), ("_law_pool_here" : Str)]) fun _ _ _ _ _ _ us hl => match us, hl with | [_, _, _, _, _], _ => rfl
  have W__law_bad_states : FnOk PySem.Challenge.pw_leastshifts_k10_blocking_boxes w K mg base (L2.CX PySem.Challenge.pw_leastshifts_k10_blocking_boxes w) 2 _ _ _ (spM G K .sh 5 (ar5 m__law_bad_states)) := d__law_bad_states Z F__law_bad_states D__law_draws D__law_boxes
  have D__law_bad_states : Dk PySem.Challenge.pw_leastshifts_k10_blocking_boxes w K mg base 2 ("_law_bad_states" : Str) (spM G K .sh 5 (ar5 m__law_bad_states)) := ⟨_, _, _, W__law_bad_states, PySem.W.mg_of X Gn a__law_bad_states, F__law_bad_states.kp, B__law_bad_states⟩
  have F__law_going := fun_mk (st := (topS 51)) l__law_going c__law_going k__law_going
  have B__law_going := F__law_going.binds (ps := [("_law_events_here" : Str), ("_law_e" : Str), ("_law_name" : Str)]) fun _ _ _ _ _ _ us hl => match us, hl with | [_, _, _], _ => rfl
  have W__law_going : FnOk PySem.Challenge.pw_leastshifts_k10_blocking_boxes w K mg base (L2.CX PySem.Challenge.pw_leastshifts_k10_blocking_boxes w) 1 _ _ _ (spM G K .sh 3 (ar3 m__law_going)) := d__law_going Z F__law_going 
  have D__law_going : Dk PySem.Challenge.pw_leastshifts_k10_blocking_boxes w K mg base 1 ("_law_going" : Str) (spM G K .sh 3 (ar3 m__law_going)) := ⟨_, _, _, W__law_going, PySem.W.mg_of X Gn a__law_going, F__law_going.kp, B__law_going⟩
  have F__law_blocking := fun_mk (st := (topS 53)) l__law_blocking c__law_blocking k__law_blocking
  have B__law_blocking := F__law_blocking.binds (ps := [("_law_events_here" : Str), ("_law_e" : Str), ("_law_stacks" : Str)]) fun _ _ _ _ _ _ us hl => match us, hl with | [_, _, _], _ => rfl
  have W__law_blocking : FnOk PySem.Challenge.pw_leastshifts_k10_blocking_boxes w K mg base (L2.CX PySem.Challenge.pw_leastshifts_k10_blocking_boxes w) 2 _ _ _ (spM G K .sh 3 (ar3 m__law_blocking)) := d__law_blocking Z F__law_blocking D__law_going
  have D__law_blocking : Dk PySem.Challenge.pw_leastshifts_k10_blocking_boxes w K mg base 2 ("_law_blocking" : Str) (spM G K .sh 3 (ar3 m__law_blocking)) := ⟨_, _, _, W__law_blocking, PySem.W.mg_of X Gn a__law_blocking, F__law_blocking.kp, B__law_blocking⟩
  have F__law_blocks_above := fun_mk (st := (topS 52)) l__law_blocks_above c__law_blocks_above k__law_blocks_above
  have B__law_blocks_above := F__law_blocks_above.binds (ps := [("_law_events_here" : Str), ("_law_e" : Str), ("_law_stack" : Str), ("_law_place" : Str)]) fun _ _ _ _ _ _ us hl => match us, hl with | [_, _, _, _], _ => rfl
  have W__law_blocks_above : FnOk PySem.Challenge.pw_leastshifts_k10_blocking_boxes w K mg base (L2.CX PySem.Challenge.pw_leastshifts_k10_blocking_boxes w) 2 _ _ _ (spM G K .sh 4 (ar4 m__law_blocks_above)) := d__law_blocks_above Z F__law_blocks_above D__law_going
  have D__law_blocks_above : Dk PySem.Challenge.pw_leastshifts_k10_blocking_boxes w K mg base 2 ("_law_blocks_above" : Str) (spM G K .sh 4 (ar4 m__law_blocks_above)) := ⟨_, _, _, W__law_blocks_above, PySem.W.mg_of X Gn a__law_blocks_above, F__law_blocks_above.kp, B__law_blocks_above⟩
  have F__law_is_right := fun_mk (st := (topS 55)) l__law_is_right c__law_is_right k__law_is_right
  have B__law_is_right := F__law_is_right.binds (ps := [("_law_day" : Str), ("_law_events_here" : Str), ("_law_e" : Str), ("_law_stacks" : Str), ("_law_handed" : Str)]) fun _ _ _ _ _ _ us hl => match us, hl with | [_, _, _, _, _], _ => rfl
  have W__law_is_right : FnOk PySem.Challenge.pw_leastshifts_k10_blocking_boxes w K mg base (L2.CX PySem.Challenge.pw_leastshifts_k10_blocking_boxes w) 14 _ _ _ (spM G K .sh 5 (ar5 m__law_is_right)) := d__law_is_right Z F__law_is_right D__law_blocking D__law_equal D__law_told D__law_blocks_above
  have D__law_is_right : Dk PySem.Challenge.pw_leastshifts_k10_blocking_boxes w K mg base 14 ("_law_is_right" : Str) (spM G K .sh 5 (ar5 m__law_is_right)) := ⟨_, _, _, W__law_is_right, PySem.W.mg_of X Gn a__law_is_right, F__law_is_right.kp, B__law_is_right⟩
  have F_law := fun_mk (st := (topS 56)) l_law c_law k_law
  have B_law := F_law.binds (ps := [("_law_script" : Str)]) fun _ _ _ _ _ _ us hl => match us, hl with | [_], _ => rfl
  have W_law : FnOk PySem.Challenge.pw_leastshifts_k10_blocking_boxes w K mg base (L2.CX PySem.Challenge.pw_leastshifts_k10_blocking_boxes w) 15 _ _ _ (spM G K .sh 1 (ar1 m_law)) := d_law Z F_law D__law_draws D__law_pool D__law_yard D__law_events M_Day M_Yard D__law_state D__law_is_right D__law_equal D__law_told D__law_bad_states D__law_boxes D__law_blocking DK_low_bound_day_e_stacks
  have D_law : Dk PySem.Challenge.pw_leastshifts_k10_blocking_boxes w K mg base 15 ("law" : Str) (spM G K .sh 1 (ar1 m_law)) := ⟨_, _, _, W_law, PySem.W.mg_of X Gn a_law, F_law.kp, B_law⟩
  refine W_law.imp fun vs H Q E h => ?_
  obtain ⟨a, ns, rfl, hl, hs, hq⟩ := h
  refine ⟨H, [.scr ns], Same.refl _, .cons (.scr hs) .nil, rfl, ?_⟩
  have e : ar1 m_law [.scr ns] = .ok (.bl true) := law_true ns hl
  rw [e]
  intro v F' H' _ r
  have e2 : v = .bl true := Rep.bl_inv r
  rw [e2]
  exact hq H'
end K10
end
section
open PySem PySem.W PyProof.Rows
set_option maxHeartbeats 0
open_top hd for PySem.Challenge.rw_leastshifts_k10_blocking_boxes
theorem walk_ofKX {l : PySem.W.OpenLaw} {n k : Nat} {q : Program} {loose : List Str} {XP : (Str → Option Value) → Heap → Prop} {YP : World → Heap → Prop} {d : DefRec} {K : Params → PySem.W.Frag} {sp : PySem.W.Frag → L2.Sp} {x : Str}
    (hn : l.most = some n) (hn2 : n ≤ sizeLine) (hdf : d.params.defaults = []) (hr : L2.Room k callerA) (hY : ∀ (w : World) (h : Heap), YP w h → (K w.params).In h)
    (F : ∀ (w : World) (mg : Str → Option Value) (fa : Addr) (h : Heap), (K w.params).In h → h.Ns mainGlobals mg → mg d.name = some (.ref fa) →
      ∃ fd : FuncData, (∀ (s : Shared) (u : Value), BindsTo s fd ⟨[u], []⟩ [(x, u)]) ∧ ∀ base : Heap, (K w.params).In base → base.Ns mainGlobals mg → L2.FnOk l.prog w (K w.params) mg base (L2.CX l.prog w) k fa fd [x] (sp (K w.params)))
    (hsp : ∀ (K : PySem.W.Frag) (H : L2.Hp) (a : Addr) (ns : List Int), ns.length ≤ n → L2.Only H → L2.SqL K H a (ns.map L2.V.int) → sp K [.ref a] H (fun v _ => v = .bl true) fun _ _ _ => False) :
    PySem.W.WalkO q loose XP YP l.row.toRowW d [] (fun f vs => PySem.call f vs) :=
  L2.walk_of (K := K) (CX := fun w => L2.CX l.prog w) (sp := fun w => sp (K w.params)) hn hn2 hdf hr hY F (fun w H a ns h1 h2 h3 => hsp (K w.params) H a ns h1 h2 h3) fun w H s e s' h => by
    obtain ⟨_, _, _, _, _, _, _, _, _, _, _, _, z⟩ := h
    exact z
set_option maxRecDepth 100000 in
set_option maxHeartbeats 0 in
theorem PySem.Challenge.cw_leastshifts_k10_blocking_boxes_holds : PySem.Challenge.rw_leastshifts_k10_blocking_boxes.Holds := by
  exact hd (by
    k_fill
    refine walk_ofKX (l := PySem.Challenge.rw_leastshifts_k10_blocking_boxes) (n := 63) (k := 15) (x := "_law_script") (sp := K10.spLaw) rfl (by decide) rfl ⟨rfl, by decide, by decide⟩ (fun w h Y => PySem.W.kIn_of Y) ?F (fun K H a ns h1 h2 h3 => ⟨a, ns, rfl, h1, h3, fun _ => rfl⟩)
    case F =>
      intro w mg fa h KX G hmg
      refine' K10.all_mk KX G hmg ?aC0 ?aC1 ?aC2 ?aC3 ?aC4 ?aC5 ?aC6 ?xL1 ?sa1 ?eC1 ?tC1 ?kC1 ?iC1 ?tI1 ?lI1 ?cI1 ?lc1 ?ld1 ?hv1 ?hf1 ?xL0 ?fi0 ?iV1 ?no1_value ?xL2 ?sa2 ?eC2 ?tC2 ?kC2 ?iC2 ?tI2 ?lI2 ?cI2 ?lc2 ?ld2 ?hv2 ?hf2 ?iV2 ?no2_value ?xL3 ?sa3 ?eC3 ?tC3 ?kC3 ?iC3 ?tI3 ?lI3 ?cI3 ?lc3 ?ld3 ?hv3 ?hf3 ?iV3 ?no3_value ?xL4 ?sa4 ?eC4 ?tC4 ?kC4 ?iC4 ?tI4 ?lI4 ?cI4 ?lc4 ?ld4 ?hv4 ?hf4 ?iV4 ?no4_name ?zsuper ?zany ?pg5 ?hd5 ?po5 ?sa5 ?mk5 ?iC5 ?fn5 ?kC5 ?lI5 ?cI5 ?kI5 ?pg6 ?hd6 ?po6 ?sa6 ?mk6 ?iC6 ?fn6 ?kC6 ?lI6 ?cI6 ?kI6 ?a__law_draws ?l__law_draws ?c__law_draws ?k__law_draws ?a__law_pool ?l__law_pool ?c__law_pool ?k__law_pool ?a__law_stacked ?l__law_stacked ?c__law_stacked ?k__law_stacked ?a__law_yard ?l__law_yard ?c__law_yard ?k__law_yard ?a__law_boxes ?l__law_boxes ?c__law_boxes ?k__law_boxes ?a__law_events ?l__law_events ?c__law_events ?k__law_events ?a_is_sequence ?l_is_sequence ?c_is_sequence ?k_is_sequence ?a_boxes_of ?l_boxes_of ?c_boxes_of ?k_boxes_of ?a_is_name ?l_is_name ?c_is_name ?k_is_name ?a_is_event ?l_is_event ?c_is_event ?k_is_event ?a_as_events ?l_as_events ?c_as_events ?k_as_events ?a__law_present ?l__law_present ?c__law_present ?k__law_present ?a__law_state ?l__law_state ?c__law_state ?k__law_state ?a_goings ?l_goings ?c_goings ?k_goings ?a_is_integer ?l_is_integer ?c_is_integer ?k_is_integer ?a_is_number ?l_is_number ?c_is_number ?k_is_number ?a_boxes_at ?l_boxes_at ?c_boxes_at ?k_boxes_at ?a_are_unlike ?l_are_unlike ?c_are_unlike ?k_are_unlike ?a_as_stacks ?l_as_stacks ?c_as_stacks ?k_as_stacks ?a_need_state ?l_need_state ?c_need_state ?k_need_state ?a_goes_before ?l_goes_before ?c_goes_before ?k_goes_before ?a_blocked_by ?l_blocked_by ?c_blocked_by ?k_blocked_by ?a_blocking_in ?l_blocking_in ?c_blocking_in ?k_blocking_in ?a_blocking_at ?l_blocking_at ?c_blocking_at ?k_blocking_at ?a_blocking ?l_blocking ?c_blocking ?k_blocking ?a_low_bound ?l_low_bound ?c_low_bound ?k_low_bound ?a__law_told ?l__law_told ?c__law_told ?k__law_told ?a__law_equal ?l__law_equal ?c__law_equal ?k__law_equal ?a__law_bad_states ?l__law_bad_states ?c__law_bad_states ?k__law_bad_states ?a__law_going ?l__law_going ?c__law_going ?k__law_going ?a__law_blocking ?l__law_blocking ?c__law_blocking ?k__law_blocking ?a__law_blocks_above ?l__law_blocks_above ?c__law_blocks_above ?k__law_blocks_above ?a__law_is_right ?l__law_is_right ?c__law_is_right ?k__law_is_right ?a_law ?l_law ?c_law ?k_law ?zn_len ?zn_int ?zn_max ?zn_range ?zn_tuple ?zn_list ?zn_isinstance ?no5_stacks ?zn_str ?zg_MOST_LETTERS ?zg_LETTERS ?zn_all ?zg_OUT ?zg_IN ?no6_yard ?no6_events ?zn_bool ?zn_sorted ?no5_height ?zn_enumerate ?zn_any ?sub1_3 ?xhD3 ?sub2_3 ?sub3_3 ?sub4_3 ?xga3 ?xgg3 ?sub1_1 ?xhD1 ?sub2_1 ?sub3_1 ?sub4_1 ?xga1 ?xgg1 ?sub1_4 ?xhD4 ?sub2_4 ?sub3_4 ?sub4_4 ?xga4 ?xgg4
      (case aC0 => k_is)
      (case aC1 => k_is)
      (case aC2 => k_is)
      (case aC3 => k_is)
      (case aC4 => k_is)
      (case aC5 => k_is)
      (case aC6 => k_is)
      (case xL1 => k_is)
      (case sa1 => k_is)
      (case eC1 => k_is)
      (case tC1 => k_is)
      (case kC1 => k_is)
      (case iC1 => k_is)
      (case tI1 => k_is)
      (case lI1 => k_is)
      (case cI1 => k_is)
      (case lc1 => k_is)
      (case ld1 => k_is)
      (case hv1 => rfl)
      (case hf1 => rfl)
      (case xL0 => k_is)
      (case fi0 => k_is)
      (case iV1 => k_is)
      (case no1_value => k_is)
      (case xL2 => k_is)
      (case sa2 => k_is)
      (case eC2 => k_is)
      (case tC2 => k_is)
      (case kC2 => k_is)
      (case iC2 => k_is)
      (case tI2 => k_is)
      (case lI2 => k_is)
      (case cI2 => k_is)
      (case lc2 => k_is)
      (case ld2 => k_is)
      (case hv2 => rfl)
      (case hf2 => rfl)
      (case iV2 => k_is)
      (case no2_value => k_is)
      (case xL3 => k_is)
      (case sa3 => k_is)
      (case eC3 => k_is)
      (case tC3 => k_is)
      (case kC3 => k_is)
      (case iC3 => k_is)
      (case tI3 => k_is)
      (case lI3 => k_is)
      (case cI3 => k_is)
      (case lc3 => k_is)
      (case ld3 => k_is)
      (case hv3 => rfl)
      (case hf3 => rfl)
      (case iV3 => k_is)
      (case no3_value => k_is)
      (case xL4 => k_is)
      (case sa4 => k_is)
      (case eC4 => k_is)
      (case tC4 => k_is)
      (case kC4 => k_is)
      (case iC4 => k_is)
      (case tI4 => k_is)
      (case lI4 => k_is)
      (case cI4 => k_is)
      (case lc4 => k_is)
      (case ld4 => k_is)
      (case hv4 => rfl)
      (case hf4 => rfl)
      (case iV4 => k_is)
      (case no4_name => k_is)
      (case zsuper => k_is)
      (case zany => k_is)
      (case pg5 => k_is)
      (case hd5 => k_is)
      (case po5 => k_is)
      (case sa5 => k_is)
      (case mk5 => k_is)
      (case iC5 => k_is)
      (case fn5 => k_is)
      (case kC5 => k_is)
      (case lI5 => k_is)
      (case cI5 => k_is)
      (case kI5 => k_is)
      (case pg6 => k_is)
      (case hd6 => k_is)
      (case po6 => k_is)
      (case sa6 => k_is)
      (case mk6 => k_is)
      (case iC6 => k_is)
      (case fn6 => k_is)
      (case kC6 => k_is)
      (case lI6 => k_is)
      (case cI6 => k_is)
      (case kI6 => k_is)
      (case a__law_draws => k_is)
      (case l__law_draws => k_is)
      (case c__law_draws => k_is)
      (case k__law_draws => k_is)
      (case a__law_pool => k_is)
      (case l__law_pool => k_is)
      (case c__law_pool => k_is)
      (case k__law_pool => k_is)
      (case a__law_stacked => k_is)
      (case l__law_stacked => k_is)
      (case c__law_stacked => k_is)
      (case k__law_stacked => k_is)
      (case a__law_yard => k_is)
      (case l__law_yard => k_is)
      (case c__law_yard => k_is)
      (case k__law_yard => k_is)
      (case a__law_boxes => k_is)
      (case l__law_boxes => k_is)
      (case c__law_boxes => k_is)
      (case k__law_boxes => k_is)
      (case a__law_events => k_is)
      (case l__law_events => k_is)
      (case c__law_events => k_is)
      (case k__law_events => k_is)
      (case a_is_sequence => k_is)
      (case l_is_sequence => k_is)
      (case c_is_sequence => k_is)
      (case k_is_sequence => k_is)
      (case a_boxes_of => k_is)
      (case l_boxes_of => k_is)
      (case c_boxes_of => k_is)
      (case k_boxes_of => k_is)
      (case a_is_name => k_is)
      (case l_is_name => k_is)
      (case c_is_name => k_is)
      (case k_is_name => k_is)
      (case a_is_event => k_is)
      (case l_is_event => k_is)
      (case c_is_event => k_is)
      (case k_is_event => k_is)
      (case a_as_events => k_is)
      (case l_as_events => k_is)
      (case c_as_events => k_is)
      (case k_as_events => k_is)
      (case a__law_present => k_is)
      (case l__law_present => k_is)
      (case c__law_present => k_is)
      (case k__law_present => k_is)
      (case a__law_state => k_is)
      (case l__law_state => k_is)
      (case c__law_state => k_is)
      (case k__law_state => k_is)
      (case a_goings => k_is)
      (case l_goings => k_is)
      (case c_goings => k_is)
      (case k_goings => k_is)
      (case a_is_integer => k_is)
      (case l_is_integer => k_is)
      (case c_is_integer => k_is)
      (case k_is_integer => k_is)
      (case a_is_number => k_is)
      (case l_is_number => k_is)
      (case c_is_number => k_is)
      (case k_is_number => k_is)
      (case a_boxes_at => k_is)
      (case l_boxes_at => k_is)
      (case c_boxes_at => k_is)
      (case k_boxes_at => k_is)
      (case a_are_unlike => k_is)
      (case l_are_unlike => k_is)
      (case c_are_unlike => k_is)
      (case k_are_unlike => k_is)
      (case a_as_stacks => k_is)
      (case l_as_stacks => k_is)
      (case c_as_stacks => k_is)
      (case k_as_stacks => k_is)
      (case a_need_state => k_is)
      (case l_need_state => k_is)
      (case c_need_state => k_is)
      (case k_need_state => k_is)
      (case a_goes_before => k_is)
      (case l_goes_before => k_is)
      (case c_goes_before => k_is)
      (case k_goes_before => k_is)
      (case a_blocked_by => k_is)
      (case l_blocked_by => k_is)
      (case c_blocked_by => k_is)
      (case k_blocked_by => k_is)
      (case a_blocking_in => k_is)
      (case l_blocking_in => k_is)
      (case c_blocking_in => k_is)
      (case k_blocking_in => k_is)
      (case a_blocking_at => k_is)
      (case l_blocking_at => k_is)
      (case c_blocking_at => k_is)
      (case k_blocking_at => k_is)
      (case a_blocking => k_is)
      (case l_blocking => k_is)
      (case c_blocking => k_is)
      (case k_blocking => k_is)
      (case a_low_bound => k_is)
      (case l_low_bound => k_is)
      (case c_low_bound => k_is)
      (case k_low_bound => k_is)
      (case a__law_told => k_is)
      (case l__law_told => k_is)
      (case c__law_told => k_is)
      (case k__law_told => k_is)
      (case a__law_equal => k_is)
      (case l__law_equal => k_is)
      (case c__law_equal => k_is)
      (case k__law_equal => k_is)
      (case a__law_bad_states => k_is)
      (case l__law_bad_states => k_is)
      (case c__law_bad_states => k_is)
      (case k__law_bad_states => k_is)
      (case a__law_going => k_is)
      (case l__law_going => k_is)
      (case c__law_going => k_is)
      (case k__law_going => k_is)
      (case a__law_blocking => k_is)
      (case l__law_blocking => k_is)
      (case c__law_blocking => k_is)
      (case k__law_blocking => k_is)
      (case a__law_blocks_above => k_is)
      (case l__law_blocks_above => k_is)
      (case c__law_blocks_above => k_is)
      (case k__law_blocks_above => k_is)
      (case a__law_is_right => k_is)
      (case l__law_is_right => k_is)
      (case c__law_is_right => k_is)
      (case k__law_is_right => k_is)
      (case a_law => k_is)
      (case l_law => k_is)
      (case c_law => k_is)
      (case k_law => k_is)
      (case zn_len => k_is)
      (case zn_int => k_is)
      (case zn_max => k_is)
      (case zn_range => k_is)
      (case zn_tuple => k_is)
      (case zn_list => k_is)
      (case zn_isinstance => k_is)
      (case no5_stacks => k_is)
      (case zn_str => k_is)
      (case zg_MOST_LETTERS => k_is)
      (case zg_LETTERS => k_is)
      (case zn_all => k_is)
      (case zg_OUT => k_is)
      (case zg_IN => k_is)
      (case no6_yard => k_is)
      (case no6_events => k_is)
      (case zn_bool => k_is)
      (case zn_sorted => k_is)
      (case no5_height => k_is)
      (case zn_enumerate => k_is)
      (case zn_any => k_is)
      (case sub1_3 => k_is)
      (case xhD3 => k_is)
      (case sub2_3 => k_is)
      (case sub3_3 => k_is)
      (case sub4_3 => k_is)
      (case xga3 => k_is)
      (case xgg3 => k_is)
      (case sub1_1 => k_is)
      (case xhD1 => k_is)
      (case sub2_1 => k_is)
      (case sub3_1 => k_is)
      (case sub4_1 => k_is)
      (case xga1 => k_is)
      (case xgg1 => k_is)
      (case sub1_4 => k_is)
      (case xhD4 => k_is)
      (case sub2_4 => k_is)
      (case sub3_4 => k_is)
      (case sub4_4 => k_is)
      (case xga4 => k_is)
      (case xgg4 => k_is))
end
