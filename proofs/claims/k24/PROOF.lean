import PyProof.Rows.All
import Wide.All
import OpenK.AllK
import Wide.FinOn
import HandS.ForMost
import HandS.ForExc
import HandS.ExcInit
import HandS.ExcField
import HandS.ExcIs
import HandS.IsInst
import HandS.Walk
import HandS.Conv
import HandS.Codes
import HandS.MakeKw
import HandS.Defaults
import HandS.CallSlots
import HandS.More
import HandS.Flow
import HandS.Style
import KE.KExcSuper
import HandS.TupAny
import HandS.DictComp
import HandS.Rev
import HandS.RevTup
import HandS.Zip
import KE.GoesMore
import KE.KeyNested
import KE.KDictKeyed
import KE.DataFind
import HandS.Nested
import HandS.MakeKwOnly
import HandS.TupLe
import HandS.TupMul
import PyProof.StrBlock2
import HandS.Deep
import HandS.Wide
import HandS.TryMany
import HandS.Text
import HandS.Strs
import PyProof.Rows.StrMeet
import KE.KDictDisplayH
import PyProof.Rows.TupTab
import KE.SortData
import PyProof.ListRange
import HandS.Ends
import PySem.Challenge.RW_leastshifts_k24_reached
set_option Elab.async false
set_option linter.all false
set_option maxRecDepth 100000
section
set_option Elab.async false
set_option linter.all false
set_option maxRecDepth 100000
namespace Lp
open PySem PySem.Spec PyProof.Rows L2

/-! ### plain values: tuples by value, lists by value -/
inductive PV where
  | non | bl (b : Bool) | int (i : Int) | str (x : Str) | ty (n : String)
  | tup (xs : List PV) | lst (xs : List PV) | dK (kvs : List (Key × PV)) | ins (c : Nat) (fs : List (Str × PV)) | scr (ns : List Int) | exn (a d : Addr) (c : Nat) (fs : List (Str × PV)) | rng (n : Nat) | itm (xs : List PV) | dN (kvs : List (PV × PV))

instance : Inhabited PV := ⟨.non⟩

/-- what the def hands on: a value, an own error with its fields, or nothing that is said -/
inductive Res (α : Type) where
  | ok (a : α) | exc (c : Nat) (fs : List (Str × PV)) | bad
def Res.bind {α β : Type} (x : Res α) (f : α → Res β) : Res β := match x with
  | .ok a => f a
  | .exc c fs => .exc c fs
  | .bad => .bad
instance : Monad Res where
  pure a := .ok a
  bind x f := x.bind f
@[simp] theorem Res.ok_bind {α β : Type} (a : α) (f : α → Res β) : (Res.ok a >>= f) = f a := (rfl)
@[simp] theorem Res.exc_bind {α β : Type} (c fs) (f : α → Res β) : ((Res.exc c fs : Res α) >>= f) = Res.exc c fs := (rfl)
@[simp] theorem Res.bad_bind {α β : Type} (f : α → Res β) : ((Res.bad : Res α) >>= f) = Res.bad := (rfl)
@[simp] theorem Res.pure_eq {α : Type} (a : α) : (pure a : Res α) = .ok a := (rfl)

/-! ### nested tuples as keys -/
mutual
def PV.nk : PV → Option NestedKey
  | .non => some .none
  | .int i => some (.num i)
  | .str x => some (.text x)
  | .tup xs => (nks xs).map .tup
  | .bl _ => none
  | .ty _ => none
  | .lst _ => none
  | .dK _ => none
  | .ins _ _ => none
  | .scr _ => none
  | .exn _ _ _ _ => none
  | .rng _ => none
  | .itm _ => none
  | .dN _ => none
def nks : List PV → Option (List NestedKey)
  | [] => some []
  | x :: xs => match x.nk, nks xs with
    | some a, some b => some (a :: b)
    | _, _ => none
end
def keyN : PV → Option NestedKey
  | .tup xs => match (PV.tup xs).nk with
    | some k => if k.depth ≤ 8 then some k else none
    | none => none
  | _ => none
/-- the object of a dict with such keys: what is true of it alone -/
def nphi (P : Program) (w : World) (a : Addr) (es : List (NestedKey × V × V)) : Heap → Prop := fun h => es.length ≤ sizeLine ∧ (a == sysModules) = false ∧ ∃ xs : List (NestedKey × Addr × Value),
  Paired (fun (p : NestedKey × V × V) (q : NestedKey × Addr × Value) => p.1 = q.1 ∧ p.2.1 = .ref q.2.1 ∧ RelV p.2.2 q.2.2) es xs ∧
  (∃ o en ep, h.get? a = some o ∧ o.ExactDict ∧ o.data = .dict en ep ∧ en.toList = xs.map (entryOfKey (nestedKind P w))) ∧ (xs.map (·.1)).Nodup
/-- where the classes stand, and what runs -/
structure GW where
  g : Nat → Addr
  P : Program
  w : World
instance : CoeFun GW (fun _ => Nat → Addr) := ⟨GW.g⟩
/-- a tuple whose object is known to have no dict -/
def KO (o : Obj) : Prop := o.cls = .type "tuple" ∧ o.dict = none ∧ o.slots = #[]
def KT (K : PySem.W.Frag) (H : Hp) (a : Addr) (xs : List V) : Prop := (∃ o, H a = some (.frz o (.tup xs)) ∧ KO o) ∨ ∃ o its n, K.lookup a = some o ∧ KO o ∧ o.data = .seq its n ∧ its.size ≤ sizeLine ∧ Vals xs its.toList
theorem KT.sqt {K : PySem.W.Frag} {H : Hp} {a : Addr} {xs : List V} (h : KT K H a xs) : SqT K H a xs := by
  rcases h with ⟨o, h, _⟩ | ⟨o, its, n, h1, h2, h3, h4, h5⟩
  · exact .inl (.inr ⟨o, h⟩)
  · exact .inr ⟨o, its, n, h1, h2.1, h3, h4, h5⟩
theorem Same.kt {K : PySem.W.Frag} {H H' : Hp} {a : Addr} {xs : List V} (e : Same H H') (h : KT K H a xs) : KT K H' a xs := by
  rcases h with ⟨o, h, k⟩ | h
  · exact .inl ⟨o, e _ _ h, k⟩
  · exact .inr h
section
variable (G : GW) (K : PySem.W.Frag)
mutual
/-- v stands for p over the heap H -/
inductive Rep (H : Hp) : V → PV → Prop
  | non : Rep H .non .non
  | bl (b : Bool) : Rep H (.bl b) (.bl b)
  | int (i : Int) : Rep H (.int i) (.int i)
  | str (x : Str) : Rep H (.str x) (.str x)
  | ty (n : String) : Rep H (.ty n) (.ty n)
  | exn {a d : Addr} {c : Nat} {fs : List (Str × V)} {ps : List (Str × PV)} : H d = some (.xd fs) → RepF H fs ps → Rep H (.ref a) (.exn a d c ps)
  | scr {a : Addr} {ns : List Int} : SqL K H a (ns.map V.int) → Rep H (.ref a) (.scr ns)
  | tup {a : Addr} {vs : List V} {ps : List PV} : KT K H a vs → Reps H vs ps → Rep H (.ref a) (.tup ps)
  | itm {a : Addr} {vs : List V} {ps : List PV} : SqT K H a vs → Reps H vs ps → Rep H (.ref a) (.itm ps)
  | lst {a : Addr} {vs : List V} {ps : List PV} : Rd H a (.lst vs) → Reps H vs ps → Rep H (.ref a) (.lst ps)
  | dK {a : Addr} {kvs : List (Key × V)} {ps : List (Key × PV)} : H a = some (.dK kvs) → RepK H kvs ps → Rep H (.ref a) (.dK ps)
  | ins {a dx : Addr} {c : Nat} {fs : List (Str × V)} {ps : List (Str × PV)} : H a = some (.ins (G c) dx fs) → RepF H fs ps → Rep H (.ref a) (.ins c ps)
  | rng {a : Addr} {n : Nat} : H a = some (.rng 0 (n : Int)) → Rep H (.ref a) (.rng n)
  | dN {a : Addr} {es : List (NestedKey × V × V)} {ps : List (PV × PV)} : H a = some (.ext (nphi G.P G.w a es)) → RepN H es ps → Rep H (.ref a) (.dN ps)
inductive Reps (H : Hp) : List V → List PV → Prop
  | nil : Reps H [] []
  | cons {v : V} {vs : List V} {p : PV} {ps : List PV} : Rep H v p → Reps H vs ps → Reps H (v :: vs) (p :: ps)
inductive RepK (H : Hp) : List (Key × V) → List (Key × PV) → Prop
  | nil : RepK H [] []
  | cons {k : Key} {v : V} {vs : List (Key × V)} {p : PV} {ps : List (Key × PV)} : Rep H v p → RepK H vs ps → RepK H ((k, v) :: vs) ((k, p) :: ps)
inductive RepN (H : Hp) : List (NestedKey × V × V) → List (PV × PV) → Prop
  | nil : RepN H [] []
  | cons {k : NestedKey} {kv v : V} {es : List (NestedKey × V × V)} {pk p : PV} {ps : List (PV × PV)} : keyN pk = some k → Rep H kv pk → Rep H v p → RepN H es ps → RepN H ((k, kv, v) :: es) ((pk, p) :: ps)
inductive RepF (H : Hp) : List (Str × V) → List (Str × PV) → Prop
  | nil : RepF H [] []
  | cons {k : Str} {v : V} {vs : List (Str × V)} {p : PV} {ps : List (Str × PV)} : Rep H v p → RepF H vs ps → RepF H ((k, v) :: vs) ((k, p) :: ps)
end
end

section
variable {G : GW} {K : PySem.W.Frag} {H H' : Hp}
theorem Same.rd {H H' : Hp} {a : Addr} {u : HO} (e : Same H H') (h : Rd H a u) : Rd H' a u := by
  rcases h with h | ⟨o, h⟩
  · exact .inl (e _ _ h)
  · exact .inr ⟨o, e _ _ h⟩
theorem Same.sqt {a : Addr} {xs : List V} (e : Same H H') (h : SqT K H a xs) : SqT K H' a xs := by
  rcases h with h | h
  · exact .inl (Same.rd e h)
  · exact .inr h
mutual
theorem Rep.mono (e : Same H H') : ∀ {v : V} {p : PV}, Rep G K H v p → Rep G K H' v p
  | _, _, .non => .non
  | _, _, .bl b => .bl b
  | _, _, .int i => .int i
  | _, _, .str x => .str x
  | _, _, .ty n => .ty n
  | _, _, .exn h r => .exn (e _ _ h) (RepF.mono e r)
  | _, _, .scr h => .scr (Same.seq e h)
  | _, _, .tup h r => .tup (Same.kt e h) (Reps.mono e r)
  | _, _, .itm h r => .itm (Same.sqt e h) (Reps.mono e r)
  | _, _, .lst h r => .lst (Same.rd e h) (Reps.mono e r)
  | _, _, .dK h r => .dK (e _ _ h) (RepK.mono e r)
  | _, _, .ins h r => .ins (e _ _ h) (RepF.mono e r)
  | _, _, .rng h => .rng (e _ _ h)
  | _, _, .dN h r => .dN (e _ _ h) (RepN.mono e r)
theorem Reps.mono (e : Same H H') : ∀ {vs : List V} {ps : List PV}, Reps G K H vs ps → Reps G K H' vs ps
  | _, _, .nil => .nil
  | _, _, .cons r rs => .cons (Rep.mono e r) (Reps.mono e rs)
theorem RepK.mono (e : Same H H') : ∀ {vs : List (Key × V)} {ps : List (Key × PV)}, RepK G K H vs ps → RepK G K H' vs ps
  | _, _, .nil => .nil
  | _, _, .cons r rs => .cons (Rep.mono e r) (RepK.mono e rs)
theorem RepN.mono (e : Same H H') : ∀ {es : List (NestedKey × V × V)} {ps : List (PV × PV)}, RepN G K H es ps → RepN G K H' es ps
  | _, _, .nil => .nil
  | _, _, .cons hk rk r rs => .cons hk (Rep.mono e rk) (Rep.mono e r) (RepN.mono e rs)
theorem RepF.mono (e : Same H H') : ∀ {vs : List (Str × V)} {ps : List (Str × PV)}, RepF G K H vs ps → RepF G K H' vs ps
  | _, _, .nil => .nil
  | _, _, .cons r rs => .cons (Rep.mono e r) (RepF.mono e rs)
end
theorem Reps.length : ∀ {vs : List V} {ps : List PV}, Reps G K H vs ps → vs.length = ps.length
  | _, _, .nil => rfl
  | _, _, .cons _ rs => congrArg (· + 1) (Reps.length rs)
theorem Reps.get : ∀ {vs : List V} {ps : List PV} {i : Nat} {p : PV}, Reps G K H vs ps → ps[i]? = some p → ∃ v, vs[i]? = some v ∧ Rep G K H v p
  | _, _, _, _, .nil, e => by simp at e
  | _, _, 0, _, .cons r _, e => by simp at e; subst e; exact ⟨_, rfl, r⟩
  | _, _, i + 1, _, .cons _ rs, e => by
    obtain ⟨v, e1, r⟩ := Reps.get (i := i) rs (by simpa using e)
    exact ⟨v, by simpa using e1, r⟩
theorem Reps.getV : ∀ {vs : List V} {ps : List PV} {i : Nat} {v : V}, Reps G K H vs ps → vs[i]? = some v → ∃ p, ps[i]? = some p ∧ Rep G K H v p
  | _, _, _, _, .nil, e => by simp at e
  | _, _, 0, _, .cons r _, e => by simp at e; subst e; exact ⟨_, rfl, r⟩
  | _, _, i + 1, _, .cons _ rs, e => by
    obtain ⟨v, e1, r⟩ := Reps.getV (i := i) rs (by simpa using e)
    exact ⟨v, by simpa using e1, r⟩
theorem Reps.append : ∀ {vs ws : List V} {ps qs : List PV}, Reps G K H vs ps → Reps G K H ws qs → Reps G K H (vs ++ ws) (ps ++ qs)
  | _, _, _, _, .nil, s => s
  | _, _, _, _, .cons r rs, s => .cons r (Reps.append rs s)
theorem Reps.take : ∀ {vs : List V} {ps : List PV} (n : Nat), Reps G K H vs ps → Reps G K H (vs.take n) (ps.take n)
  | _, _, 0, _ => .nil
  | _, _, _ + 1, .nil => .nil
  | _, _, n + 1, .cons r rs => .cons r (Reps.take n rs)
theorem Reps.drop : ∀ {vs : List V} {ps : List PV} (n : Nat), Reps G K H vs ps → Reps G K H (vs.drop n) (ps.drop n)
  | _, _, 0, r => r
  | _, _, _ + 1, .nil => .nil
  | _, _, n + 1, .cons _ rs => Reps.drop n rs
theorem Reps.set {v : V} {p : PV} (r : Rep G K H v p) : ∀ {vs : List V} {ps : List PV} (n : Nat), Reps G K H vs ps → Reps G K H (vs.set n v) (ps.set n p)
  | _, _, _, .nil => .nil
  | _, _, 0, .cons _ rs => .cons r rs
  | _, _, n + 1, .cons q rs => .cons q (Reps.set r n rs)
theorem Reps.eraseIdx : ∀ {vs : List V} {ps : List PV} (n : Nat), Reps G K H vs ps → Reps G K H (vs.eraseIdx n) (ps.eraseIdx n)
  | _, _, _, .nil => .nil
  | _, _, 0, .cons _ rs => rs
  | _, _, n + 1, .cons q rs => .cons q (Reps.eraseIdx n rs)
theorem Reps.reverse {vs : List V} {ps : List PV} (h : Reps G K H vs ps) : Reps G K H vs.reverse ps.reverse := by
  induction vs generalizing ps with
  | nil => cases h; exact .nil
  | cons v vs ih =>
    cases h with
    | cons r rs =>
      rw [List.reverse_cons, List.reverse_cons]
      exact Reps.append (ih rs) (.cons r .nil)
theorem Reps.snoc {vs : List V} {ps : List PV} {v : V} {p : PV} (h : Reps G K H vs ps) (r : Rep G K H v p) : Reps G K H (vs ++ [v]) (ps ++ [p]) := Reps.append h (.cons r .nil)
/-! the inversions -/
theorem Rep.non_inv {v : V} (r : Rep G K H v .non) : v = .non := by cases r; rfl
theorem Rep.bl_inv {v : V} {b : Bool} (r : Rep G K H v (.bl b)) : v = .bl b := by cases r; rfl
theorem Rep.int_inv {v : V} {i : Int} (r : Rep G K H v (.int i)) : v = .int i := by cases r; rfl
theorem Rep.str_inv {v : V} {x : Str} (r : Rep G K H v (.str x)) : v = .str x := by cases r; rfl
theorem Rep.exn_inv {v : V} {a d : Addr} {c : Nat} {ps : List (Str × PV)} (r : Rep G K H v (.exn a d c ps)) : v = .ref a ∧ ∃ fs, H d = some (.xd fs) ∧ RepF G K H fs ps := by cases r with | exn h r => exact ⟨rfl, _, h, r⟩
theorem Rep.ty_inv {v : V} {x : String} (r : Rep G K H v (.ty x)) : v = .ty x := by cases r; rfl
theorem Rep.tup_inv {v : V} {ps : List PV} (r : Rep G K H v (.tup ps)) : ∃ a vs, v = .ref a ∧ SqT K H a vs ∧ Reps G K H vs ps := by
  cases r with
  | tup h r => exact ⟨_, _, rfl, h.sqt, r⟩
theorem Rep.tup_invK {v : V} {ps : List PV} (r : Rep G K H v (.tup ps)) : ∃ a vs, v = .ref a ∧ KT K H a vs ∧ Reps G K H vs ps := by
  cases r with
  | tup h r => exact ⟨_, _, rfl, h, r⟩
theorem Rep.itm_inv {v : V} {ps : List PV} (r : Rep G K H v (.itm ps)) : ∃ a vs, v = .ref a ∧ SqT K H a vs ∧ Reps G K H vs ps := by
  cases r with
  | itm h r => exact ⟨_, _, rfl, h, r⟩
theorem Rep.dN_inv {v : V} {ps : List (PV × PV)} (r : Rep G K H v (.dN ps)) : ∃ a es, v = .ref a ∧ H a = some (.ext (nphi G.P G.w a es)) ∧ RepN G K H es ps := by
  cases r with
  | dN h r => exact ⟨_, _, rfl, h, r⟩
theorem Rep.rng_inv {v : V} {n : Nat} (r : Rep G K H v (.rng n)) : ∃ a, v = .ref a ∧ H a = some (.rng 0 (n : Int)) := by
  cases r with
  | rng h => exact ⟨_, rfl, h⟩
theorem Rep.lst_inv {v : V} {ps : List PV} (r : Rep G K H v (.lst ps)) : ∃ a vs, v = .ref a ∧ Rd H a (.lst vs) ∧ Reps G K H vs ps := by
  cases r with
  | lst h r => exact ⟨_, _, rfl, h, r⟩
theorem Rep.ins_inv {v : V} {c : Nat} {ps : List (Str × PV)} (r : Rep G K H v (.ins c ps)) : ∃ a dx fs, v = .ref a ∧ H a = some (.ins (G c) dx fs) ∧ RepF G K H fs ps := by
  cases r with
  | ins h r => exact ⟨_, _, _, rfl, h, r⟩
theorem Rep.dK_inv {v : V} {ps : List (Key × PV)} (r : Rep G K H v (.dK ps)) : ∃ a kvs, v = .ref a ∧ H a = some (.dK kvs) ∧ RepK G K H kvs ps := by
  cases r with
  | dK h r => exact ⟨_, _, rfl, h, r⟩
theorem RepF.lookup {f : Str} : ∀ {fs : List (Str × V)} {ps : List (Str × PV)} {p : PV}, RepF G K H fs ps → ps.lookup f = some p → ∃ v, fs.lookup f = some v ∧ Rep G K H v p
  | _, _, _, .nil, e => by simp at e
  | _, _, p, .cons (k := k) r rs, e => by
    by_cases h : f = k
    · subst h
      simp only [List.lookup_cons_self, Option.some.injEq] at e
      subst e
      exact ⟨_, List.lookup_cons_self, r⟩
    · have hb : (f == k) = false := by simpa using h
      rw [List.lookup_cons, hb] at e
      obtain ⟨v, e1, r1⟩ := RepF.lookup rs e
      exact ⟨v, by rw [List.lookup_cons, hb]; exact e1, r1⟩
theorem RepF.length : ∀ {vs : List (Str × V)} {ps : List (Str × PV)}, RepF G K H vs ps → vs.length = ps.length
  | _, _, .nil => rfl
  | _, _, .cons _ rs => congrArg (· + 1) (RepF.length rs)
theorem RepK.length : ∀ {vs : List (Key × V)} {ps : List (Key × PV)}, RepK G K H vs ps → vs.length = ps.length
  | _, _, .nil => rfl
  | _, _, .cons _ rs => congrArg (· + 1) (RepK.length rs)
def putP (f : Str) (v : PV) : List (Str × PV) → List (Str × PV)
  | [] => [(f, v)]
  | (g, x) :: r => if g = f then (g, v) :: r else (g, x) :: putP f v r
theorem RepF.put {f : Str} {v : V} {p : PV} (r : Rep G K H v p) : ∀ {fs : List (Str × V)} {ps : List (Str × PV)}, RepF G K H fs ps → RepF G K H (putF f v fs) (putP f p ps)
  | _, _, .nil => .cons r .nil
  | _, _, .cons (k := k) q rs => by
    unfold putF putP
    by_cases h : k = f
    · rw [if_pos h, if_pos h]; exact .cons r rs
    · rw [if_neg h, if_neg h]; exact .cons q (RepF.put r rs)
end

/-! ### values without lists, dicts, instances: they lean on tuples alone -/
mutual
def PV.plain : PV → Bool
  | .tup xs => plains xs
  | .lst _ => false
  | .dK _ => false
  | .ins _ _ => false
  | .scr _ => false
  | .exn _ _ _ _ => false
  | .rng _ => false
  | .itm _ => false
  | .dN _ => false
  | _ => true
def plains : List PV → Bool
  | [] => true
  | x :: xs => x.plain && plains xs
end
theorem plains_iff : ∀ {xs : List PV}, plains xs = true ↔ ∀ x ∈ xs, x.plain = true
  | [] => by simp [plains]
  | x :: xs => by simp [plains, plains_iff (xs := xs)]
section
variable {G : GW} {K : PySem.W.Frag} {H H' : Hp}
mutual
theorem Rep.plainMono (e : ∀ a xs, KT K H a xs → KT K H' a xs) : ∀ {v : V} {p : PV}, Rep G K H v p → p.plain = true → Rep G K H' v p
  | _, _, .non, _ => .non
  | _, _, .bl b, _ => .bl b
  | _, _, .int i, _ => .int i
  | _, _, .str x, _ => .str x
  | _, _, .ty n, _ => .ty n
  | _, _, .tup h r, q => .tup (e _ _ h) (Reps.plainMono e r (by simpa only [PV.plain] using q))
  | _, _, .scr _, q => absurd q (by simp [PV.plain])
  | _, _, .exn _ _, q => absurd q (by simp [PV.plain])
  | _, _, .lst _ _, q => absurd q (by simp [PV.plain])
  | _, _, .dK _ _, q => absurd q (by simp [PV.plain])
  | _, _, .ins _ _, q => absurd q (by simp [PV.plain])
  | _, _, .rng _, q => absurd q (by simp [PV.plain])
  | _, _, .itm _ _, q => absurd q (by simp [PV.plain])
  | _, _, .dN _ _, q => absurd q (by simp [PV.plain])
theorem Reps.plainMono (e : ∀ a xs, KT K H a xs → KT K H' a xs) : ∀ {vs : List V} {ps : List PV}, Reps G K H vs ps → plains ps = true → Reps G K H' vs ps
  | _, _, .nil, _ => .nil
  | _, _, .cons r rs, q => by
    rw [plains, Bool.and_eq_true] at q; have q' := q
    exact .cons (Rep.plainMono e r q'.1) (Reps.plainMono e rs q'.2)
end
end

/-! ### the heap grows -/
/-- F: what is shared and never changes; H: all that is tracked -/
structure Ext (F H F' H' : Hp) : Prop where
  f : Same F F'
  h : Same H H'
  sub : Same F' H'
  new : ∀ a, F a = none → F' a ≠ none → H a = none
theorem Ext.refl {F H : Hp} (s : Same F H) : Ext F H F H := ⟨Same.refl _, Same.refl _, s, fun a h1 h2 => absurd h1 h2⟩
theorem Ext.trans {F H F1 H1 F2 H2 : Hp} (a : Ext F H F1 H1) (b : Ext F1 H1 F2 H2) : Ext F H F2 H2 :=
  ⟨a.f.trans b.f, a.h.trans b.h, b.sub, fun x h1 h2 => by
    by_cases h : F1 x = none
    · exact Same.free a.h (b.new x h h2)
    · exact a.new x h1 h⟩
theorem same_new {H : Hp} {p : Addr} {o : HO} (h : H p = none) : Same H (upd H p o) := fun b x e => by rw [upd_ne (ne_of_none e h)]; exact e
theorem same_upd2 {F H : Hp} {p : Addr} {o : HO} (s : Same F H) (h : H p = none) : Same (upd F p o) (upd H p o) := fun b x e => by
  by_cases hb : b = p
  · subst hb; rw [upd_same] at e ⊢; exact e
  · rw [upd_ne hb] at e ⊢; exact s _ _ e
theorem same_updR {F H : Hp} {p : Addr} {o : HO} (s : Same F H) (h : F p = none) : Same F (upd H p o) := fun b x e => by
  rw [upd_ne (ne_of_none e h)]; exact s _ _ e
/-- a new object that is shared at once -/
theorem Ext.push {F H F' H' : Hp} {p : Addr} (o : HO) (e : Ext F H F' H') (h : H' p = none) : Ext F H (upd F' p o) (upd H' p o) :=
  e.trans ⟨same_new (Same.free e.sub h), same_new h, same_upd2 e.sub h, fun a h1 h2 => by
    by_cases hb : a = p
    · rw [hb]; exact h
    · rw [upd_ne hb] at h2; exact absurd h1 h2⟩
/-- a new object that is kept apart -/
theorem Ext.pushOwn {F H F' H' : Hp} {p : Addr} (o : HO) (e : Ext F H F' H') (h : H' p = none) : Ext F H F' (upd H' p o) :=
  e.trans ⟨Same.refl _, same_new h, same_updR e.sub (Same.free e.sub h), fun a h1 h2 => absurd h1 h2⟩
end Lp
end
section
set_option Elab.async false
set_option linter.all false
set_option maxRecDepth 100000
namespace Lp
open PySem PySem.Spec L2

abbrev LE := List (Option PV)
abbrev Kd := Nat → Bool

section
variable (G : GW) (K : PySem.W.Frag)
/-- an object that one slot alone holds -/
def OwnAt (F H : Hp) (a : Addr) : PV → Prop
  | .lst ps => ∃ vs, H a = some (.lst vs) ∧ Reps G K F vs ps
  | .dK ps => ∃ kvs, H a = some (.dK kvs) ∧ RepK G K F kvs ps
  | .ins c ps => ∃ dx fs, H a = some (.ins (G c) dx fs) ∧ RepF G K F fs ps
  | .dN ps => ∃ es, H a = some (.ext (nphi G.P G.w a es)) ∧ RepN G K F es ps
  | _ => False
/-- a value that is shared, or an object kept apart -/
def Top (F H : Hp) (v : V) (p : PV) : Prop := Rep G K F v p ∨ ∃ a, v = .ref a ∧ F a = none ∧ OwnAt G K F H a p
/-- new: apart from all that stood there before -/
def Frs (H0 F H : Hp) (v : V) (p : PV) : Prop := ∃ a, v = .ref a ∧ H0 a = none ∧ F a = none ∧ OwnAt G K F H a p
inductive Mode | sh | fr | top
def RM (m : Mode) (H0 F H : Hp) (v : V) (p : PV) : Prop := match m with
  | .sh => Rep G K F v p
  | .fr => Frs G K H0 F H v p
  | .top => Top G K F H v p
/-- the slots -/
structure Lc (κ : Kd) (F H : Hp) (σ : St) (τ : LE) : Prop where
  sub : Same F H
  len : σ.length = τ.length
  sh : ∀ i p, τ[i]? = some (some p) → κ i = false → ∃ v, σ[i]? = some (some v) ∧ Rep G K F v p
  ow : ∀ i p, τ[i]? = some (some p) → κ i = true → ∃ a, σ[i]? = some (some (.ref a)) ∧ F a = none ∧ OwnAt G K F H a p
  ap : ∀ i j p q a, κ i = true → κ j = true → τ[i]? = some (some p) → τ[j]? = some (some q) → σ[i]? = some (some (.ref a)) → σ[j]? = some (some (.ref a)) → i = j
end

section
variable {G : GW} {K : PySem.W.Frag} {F H F' H' F0 H0 : Hp} {σ : St} {τ : LE} {κ : Kd} {v : V} {p : PV} {a : Addr}
theorem OwnAt.some (h : OwnAt G K F H a p) : ∃ o, H a = some o := by
  cases p <;> first | exact h.elim | (obtain ⟨_, e, _⟩ := h; exact ⟨_, e⟩) | (obtain ⟨_, _, e, _⟩ := h; exact ⟨_, e⟩)
theorem OwnAt.mono (h : OwnAt G K F H a p) (f : Same F F') (e : H' a = H a) : OwnAt G K F' H' a p := by
  cases p <;> first | exact h.elim | skip
  · obtain ⟨vs, q, r⟩ := h; exact ⟨vs, e.trans q, Reps.mono f r⟩
  · obtain ⟨vs, q, r⟩ := h; exact ⟨vs, e.trans q, RepK.mono f r⟩
  · obtain ⟨dx, vs, q, r⟩ := h; exact ⟨dx, vs, e.trans q, RepF.mono f r⟩
  · obtain ⟨vs, q, r⟩ := h; exact ⟨vs, e.trans q, RepN.mono f r⟩
theorem Ext.apart (e : Ext F H F' H') {o : HO} (hF : F a = none) (hH : H a = some o) : F' a = none := by
  cases q : F' a with
  | none => rfl
  | some u => have := e.new a hF (by rw [q]; simp); rw [hH] at this; cases this
theorem OwnAt.ext (h : OwnAt G K F H a p) (e : Ext F H F' H') : OwnAt G K F' H' a p := by
  obtain ⟨o, ho⟩ := h.some
  exact h.mono e.f ((e.h _ _ ho).trans ho.symm)
theorem Top.ext (h : Top G K F H v p) (e : Ext F H F' H') : Top G K F' H' v p := by
  rcases h with h | ⟨a, rfl, hF, h⟩
  · exact .inl (h.mono e.f)
  · obtain ⟨o, ho⟩ := h.some
    exact .inr ⟨a, rfl, e.apart hF ho, h.ext e⟩
theorem Frs.ext (h : Frs G K H0 F H v p) (e : Ext F H F' H') : Frs G K H0 F' H' v p := by
  obtain ⟨a, rfl, h0, hF, h⟩ := h
  obtain ⟨o, ho⟩ := h.some
  exact ⟨a, rfl, h0, e.apart hF ho, h.ext e⟩
theorem Frs.before {H1 : Hp} (h : Frs G K H1 F H v p) (e : Same H0 H1) : Frs G K H0 F H v p := by
  obtain ⟨a, rfl, h0, hF, h⟩ := h
  exact ⟨a, rfl, Same.free e h0, hF, h⟩
theorem RM.ext {m : Mode} (h : RM G K m H0 F H v p) (e : Ext F H F' H') : RM G K m H0 F' H' v p := by
  cases m with
  | sh => exact Rep.mono e.f h
  | fr => exact Frs.ext h e
  | top => exact Top.ext h e
theorem RM.before {m : Mode} {H1 : Hp} (h : RM G K m H1 F H v p) (e : Same H0 H1) : RM G K m H0 F H v p := by
  cases m with
  | sh => exact h
  | fr => exact Frs.before h e
  | top => exact h
theorem RM.top {m : Mode} (h : RM G K m H0 F H v p) : Top G K F H v p := by
  cases m with
  | sh => exact .inl h
  | fr => obtain ⟨a, e, _, h1, h2⟩ := h; exact .inr ⟨a, e, h1, h2⟩
  | top => exact h
theorem Lc.ext (l : Lc G K κ F H σ τ) (e : Ext F H F' H') : Lc G K κ F' H' σ τ :=
  ⟨e.sub, l.len, fun i p h1 h2 => let ⟨v, e1, r⟩ := l.sh i p h1 h2; ⟨v, e1, r.mono e.f⟩,
    fun i p h1 h2 => let ⟨a, e1, hF, o⟩ := l.ow i p h1 h2; let ⟨_, ho⟩ := o.some; ⟨a, e1, e.apart hF ho, o.ext e⟩, l.ap⟩
/-- an object kept apart is shared from now on -/
theorem freeze (s : Same F H) (hF : F a = none) (h : OwnAt G K F H a p) : ∃ o, H a = some o ∧ Same (upd F a o) H ∧ Rep G K (upd F a o) (.ref a) p := by
  obtain ⟨o, ho⟩ := h.some
  have s2 : Same (upd F a o) H := fun b x e => by
    by_cases hb : b = a
    · subst hb; rw [upd_same] at e; cases e; exact ho
    · rw [upd_ne hb] at e; exact s _ _ e
  refine ⟨o, ho, s2, ?_⟩
  have m := h.mono (H' := upd F a o) (same_new (o := o) hF) (by rw [upd_same, ho])
  cases p <;> first | exact m.elim | skip
  · obtain ⟨vs, q, r⟩ := m; exact .lst (.inl q) r
  · obtain ⟨vs, q, r⟩ := m; exact .dK q r
  · obtain ⟨dx, vs, q, r⟩ := m; exact .ins q r
  · obtain ⟨vs, q, r⟩ := m; exact .dN q r
/-- .. a new one: the slots stay -/
theorem Ext.freeze (e : Ext F H F' H') (hH : H a = none) (hF : F' a = none) (h : OwnAt G K F' H' a p) : ∃ F2, Ext F H F2 H' ∧ Rep G K F2 (.ref a) p := by
  obtain ⟨o, ho, s, r⟩ := Lp.freeze e.sub hF h
  refine ⟨_, ⟨e.f.trans (same_new hF), e.h, s, fun b h1 h2 => ?_⟩, r⟩
  by_cases hb : b = a
  · rw [hb]; exact hH
  · rw [upd_ne hb] at h2; exact e.new b h1 h2
end

/-! ### readings -/
section
variable (G : GW) (K : PySem.W.Frag)
/-- an own error leaves -/
def ExcOk (E : XK) (F H : Hp) (c : Nat) (ps : List (Str × PV)) : Prop :=
  ∀ d fs F' H', Ext F H F' H' → F' d = some (.xd fs) → RepF G K F' fs ps → E (.ref (G c)) (some d) H'
def tE (m : Mode) (E : St → XK) (κ : Kd) (f : LE → Res PV) : TE := fun σ H Q => ∃ F τ, Lc G K κ F H σ τ ∧ match f τ with
  | .ok p => ∀ v F' H', Ext F H F' H' → RM G K m H F' H' v p → Q v H'
  | .exc c ps => ExcOk G K (E σ) F H c ps
  | .bad => False
def tT (E : St → XK) (κ : Kd) (f : LE → Res Bool) : TT := fun σ H Q => ∃ F τ, Lc G K κ F H σ τ ∧ match f τ with
  | .ok b => ∀ F' H', Ext F H F' H' → Q b H'
  | .exc c ps => ExcOk G K (E σ) F H c ps
  | .bad => False
inductive RMs (m : Mode) (H0 F H : Hp) : List V → List PV → Prop
  | nil : RMs m H0 F H [] []
  | cons {v : V} {vs : List V} {p : PV} {ps : List PV} : RM G K m H0 F H v p → RMs m H0 F H vs ps → RMs m H0 F H (v :: vs) (p :: ps)
def tA (m : Mode) (E : St → XK) (κ : Kd) (f : LE → Res (List PV)) : TA := fun σ H Q => ∃ F τ, Lc G K κ F H σ τ ∧ match f τ with
  | .ok ps => ∀ vs F' H', Ext F H F' H' → RMs G K m H F' H' vs ps → Q vs H'
  | .exc c ps => ExcOk G K (E σ) F H c ps
  | .bad => False
end
section
variable {G : GW} {K : PySem.W.Frag} {F H F' H' F0 H0 : Hp} {σ : St} {τ : LE} {κ : Kd} {v : V} {p : PV} {a : Addr} {m : Mode} {E : St → XK} {X : Cx} {e : Expr}
theorem ExcOk.ext {E : XK} {c : Nat} {ps : List (Str × PV)} (h : ExcOk G K E F H c ps) (e : Ext F H F' H') : ExcOk G K E F' H' c ps :=
  fun d fs F2 H2 e2 h1 h2 => h d fs F2 H2 (e.trans e2) h1 h2
theorem RMs.ext : ∀ {vs : List V} {ps : List PV}, RMs G K m H0 F H vs ps → Ext F H F' H' → RMs G K m H0 F' H' vs ps
  | _, _, .nil, _ => .nil
  | _, _, .cons r rs, e => .cons (r.ext e) (RMs.ext rs e)
theorem RMs.before {H1 : Hp} (s : Same H0 H1) : ∀ {vs : List V} {ps : List PV}, RMs G K m H1 F H vs ps → RMs G K m H0 F H vs ps
  | _, _, .nil => .nil
  | _, _, .cons r rs => .cons (r.before s) (RMs.before s rs)
theorem RMs.shared : ∀ {vs : List V} {ps : List PV}, RMs G K .sh H0 F H vs ps → Reps G K F vs ps
  | _, _, .nil => .nil
  | _, _, .cons r rs => .cons r (RMs.shared rs)
theorem RMs.ofReps : ∀ {vs : List V} {ps : List PV}, Reps G K F vs ps → RMs G K .sh H0 F H vs ps
  | _, _, .nil => .nil
  | _, _, .cons r rs => .cons r (RMs.ofReps rs)

theorem pe_weak {t t' : TE} (h : PE X e t) (w : ∀ σ H Q, t' σ H Q → t σ H Q) : PE X e t' := ⟨fun pins s σ H Q I q => h.run pins s σ H Q I (w σ H Q q)⟩
theorem pt_weak {t t' : TT} (h : PT X e t) (w : ∀ σ H Q, t' σ H Q → t σ H Q) : PT X e t' := ⟨fun pins s σ H Q I q => h.run pins s σ H Q I (w σ H Q q)⟩
theorem pw_weak {t t' : TT} (h : PW X e t) (w : ∀ σ H Q, t' σ H Q → t σ H Q) : PW X e t' := ⟨fun wh pins s σ H Q I q => h.run wh pins s σ H Q I (w σ H Q q)⟩
theorem pa_weak {es : List Expr} {t t' : TA} (h : PA X es t) (w : ∀ σ H Q, t' σ H Q → t σ H Q) : PA X es t' := ⟨fun pos pins s σ H Q I q => h.run pos pins s σ H Q I (w σ H Q q)⟩
theorem ps_weak {st : Stmt} {t t' : TS} (h : PS X st t) (w : ∀ D σ H, t' D σ H → t D σ H) : PS X st t' := ⟨fun pins s σ H D I q => h.run pins s σ H D I (w D σ H q)⟩
theorem pss_weak {st : List Stmt} {t t' : TS} (h : PSs X st t) (w : ∀ D σ H, t' D σ H → t D σ H) : PSs X st t' := ⟨fun pins s σ H D I q => h.run pins s σ H D I (w D σ H q)⟩

/-! ### between the modes -/
theorem v_up {f : LE → Res PV} (h : PE X e (tE G K m E κ f)) : PE X e (tE G K .top E κ f) := pe_weak h fun σ H Q ⟨F, τ, l, q⟩ => ⟨F, τ, l, by
  cases hf : f τ with
  | ok p => rw [hf] at q; exact fun v F' H' e r => q v F' H' e r.top
  | exc c ps => rw [hf] at q; exact q
  | bad => rw [hf] at q; exact q⟩
theorem v_freeze {f : LE → Res PV} (h : PE X e (tE G K .fr E κ f)) : PE X e (tE G K .sh E κ f) := pe_weak h fun σ H Q ⟨F, τ, l, q⟩ => ⟨F, τ, l, by
  cases hf : f τ with
  | ok p =>
    rw [hf] at q
    rintro v F' H' e ⟨a, rfl, h0, hF, o⟩
    obtain ⟨F2, e2, r⟩ := e.freeze h0 hF o
    exact q _ F2 H' e2 r
  | exc c ps => rw [hf] at q; exact q
  | bad => rw [hf] at q; exact q⟩

/-! ### names, constants -/
def eVar (i : Nat) : LE → Res PV := fun τ => match τ[i]? with
  | some (some p) => .ok p
  | _ => .bad
theorem v_var (i : Nat) {x : Str} {pos : Pos} (k : κ i = false := by rfl) (hN : X.N[i]? = some x := by rfl) (hv : Vis X.env.scope x := by first | exact Or.inl rfl | exact Or.inr (Or.inl rfl) | exact Or.inr (Or.inr rfl)) (hd : (x == ("__debug__" : Str)) = false := by decide)
    (hcd : (x == ("__classdict__" : Str)) = false := by decide) : PE X (.Name x pos) (tE G K .sh E κ (eVar i)) := pe_weak (pe_var hN hv hd hcd) fun σ H Q ⟨F, τ, l, q⟩ => by
  unfold eVar at q
  cases h : τ[i]? with
  | none => rw [h] at q; exact q.elim
  | some o =>
    cases o with
    | none => rw [h] at q; exact q.elim
    | some p =>
      rw [h] at q
      obtain ⟨v, e1, r⟩ := l.sh i p h k
      exact ⟨v, e1, q v F H (Ext.refl l.sub) r⟩
/-- a slot that is owned, read as it is -/
theorem v_own (i : Nat) {x : Str} {pos : Pos} (k : κ i = true := by rfl) (hN : X.N[i]? = some x := by rfl) (hv : Vis X.env.scope x := by first | exact Or.inl rfl | exact Or.inr (Or.inl rfl) | exact Or.inr (Or.inr rfl)) (hd : (x == ("__debug__" : Str)) = false := by decide)
    (hcd : (x == ("__classdict__" : Str)) = false := by decide) : PE X (.Name x pos) (tE G K .top E κ (eVar i)) := pe_weak (pe_var hN hv hd hcd) fun σ H Q ⟨F, τ, l, q⟩ => by
  unfold eVar at q
  cases h : τ[i]? with
  | none => rw [h] at q; exact q.elim
  | some o =>
    cases o with
    | none => rw [h] at q; exact q.elim
    | some p =>
      rw [h] at q
      obtain ⟨a, e1, hF, r⟩ := l.ow i p h k
      exact ⟨.ref a, e1, q _ F H (Ext.refl l.sub) (.inr ⟨a, rfl, hF, r⟩)⟩
def eC (p : PV) : LE → Res PV := fun _ => .ok p
theorem c_of {v : V} {p : PV} {t : TE} (h : PE X e (tC v)) (r : ∀ F, Rep G K F v p) : PE X e (tE G K .sh E κ (eC p)) := pe_weak h fun σ H Q ⟨F, τ, l, q⟩ => q v F H (Ext.refl l.sub) (r F)
theorem v_int {i j pos} : PE X (.Constant (.int i) j pos) (tE G K .sh E κ (eC (.int i))) := c_of (t := tC .non) pe_int fun _ => .int i
theorem v_str {x j pos} : PE X (.Constant (.str x) j pos) (tE G K .sh E κ (eC (.str x))) := c_of (t := tC .non) pe_str fun _ => .str x
theorem v_bl {b j pos} : PE X (.Constant (.bool b) j pos) (tE G K .sh E κ (eC (.bl b))) := c_of (t := tC .non) pe_bl fun _ => .bl b
theorem v_non {j pos} : PE X (.Constant .none j pos) (tE G K .sh E κ (eC .non)) := c_of (t := tC .non) pe_non fun _ => .non
/-- a constant of the module -/
theorem v_gint {x : Str} {i : Int} {t : Tok} {pos : Pos} (hm : X.mg x = some (.int i t)) (hg : Gl X x := by rfl) (hd : (x == ("__debug__" : Str)) = false := by decide) : PE X (.Name x pos) (tE G K .sh E κ (eC (.int i))) :=
  c_of (t := tC .non) (pe_glob (v := .int i) hg hm ⟨_, rfl⟩ hd) fun _ => .int i
theorem v_gstr {x z : Str} {t : Tok} {pos : Pos} (hm : X.mg x = some (.str z t)) (hg : Gl X x := by rfl) (hd : (x == ("__debug__" : Str)) = false := by decide) : PE X (.Name x pos) (tE G K .sh E κ (eC (.str z))) :=
  c_of (t := tC .non) (pe_glob (v := .str z) hg hm ⟨_, rfl⟩ hd) fun _ => .str z
/-- a built-in type as a value -/
theorem v_gty {x : Str} {n : String} {pos : Pos} (hm : X.mg x = none) (hv : bootBuiltins x = some (.type n)) (hg : Gl X x := by rfl) (hn : x ≠ "__name__" := by decide) (hd : (x == ("__debug__" : Str)) = false := by decide) : PE X (.Name x pos) (tE G K .sh E κ (eC (.ty n))) :=
  c_of (t := tC .non) (pe_bltn (v := .ty n) hg hm hv rfl hn hd) fun _ => .ty n

/-! ### argument lists -/
def aNil : LE → Res (List PV) := fun _ => .ok []
def aCons (f : LE → Res PV) (g : LE → Res (List PV)) : LE → Res (List PV) := fun τ => f τ >>= fun p => g τ >>= fun ps => .ok (p :: ps)
theorem a_nil : PA X [] (tA G K m E κ aNil) := pa_weak pa_nil fun σ H Q ⟨F, τ, l, q⟩ => q [] F H (Ext.refl l.sub) .nil
theorem a_cons {es : List Expr} {f : LE → Res PV} {g : LE → Res (List PV)} (h : PE X e (tE G K m E κ f)) (hr : PA X es (tA G K m E κ g)) (hs : starEach (e :: es) X.env = (false, eval e X.env) :: starEach es X.env := by rfl) : PA X (e :: es) (tA G K m E κ (aCons f g)) :=
  pa_weak (pa_cons h hr hs) fun σ H Q ⟨F, τ, l, q⟩ => by
    refine ⟨F, τ, l, ?_⟩
    unfold aCons at q
    cases hf : f τ with
    | exc c ps => rw [hf] at q; exact q
    | bad => rw [hf] at q; exact q
    | ok p =>
      rw [hf] at q
      intro v F1 H1 e1 r1
      refine ⟨F1, τ, l.ext e1, ?_⟩
      cases hg : g τ with
      | exc c ps => rw [Res.ok_bind, hg] at q; exact ExcOk.ext q e1
      | bad => rw [Res.ok_bind, hg] at q; exact q
      | ok ps =>
        rw [Res.ok_bind, hg] at q
        exact fun vs F2 H2 e2 r2 => q (v :: vs) F2 H2 (e1.trans e2) (.cons (r1.ext e2) (r2.before e1.h))
end
end Lp
end
section
set_option Elab.async false
set_option linter.all false
set_option maxRecDepth 100000
namespace Lp
open PySem PySem.Spec L2
/-! ### operations on plain values -/
def up {α : Type} : Option α → Res α
  | some a => .ok a
  | none => .bad
@[simp] theorem up_some {α : Type} (a : α) : up (some a) = .ok a := (rfl)
@[simp] theorem up_none {α : Type} : up (none : Option α) = .bad := (rfl)
def e1 (g : PV → Option PV) (f : LE → Res PV) : LE → Res PV := fun τ => f τ >>= fun p => up (g p)
def e2 (g : PV → PV → Option PV) (f f' : LE → Res PV) : LE → Res PV := fun τ => f τ >>= fun p => f' τ >>= fun q => up (g p q)
section
variable (G : GW) (K : PySem.W.Frag)
def OpV (r : R2) (m : Mode) (g : PV → PV → Option PV) : Prop := ∀ (F H : Hp) (x y : V) (p q z : PV) (Q : VK), Same F H → Top G K F H x p → Top G K F H y q → g p q = some z →
  (∀ v F' H', Ext F H F' H' → RM G K m H F' H' v z → Q v H') → r x y H Q
def UnV (r : V → Hp → VK → Prop) (m : Mode) (g : PV → Option PV) : Prop := ∀ (F H : Hp) (x : V) (p z : PV) (Q : VK), Same F H → Top G K F H x p → g p = some z →
  (∀ v F' H', Ext F H F' H' → RM G K m H F' H' v z → Q v H') → r x H Q
end
section
variable {G : GW} {K : PySem.W.Frag} {κ : Kd} {E : St → XK} {X : Cx} {a b c : Expr} {m : Mode} {f f' f'' : LE → Res PV} {pos : Pos}

/-- two readings in a row, then a step on the values -/
theorem w_op {r : R2} {g : PV → PV → Option PV} (hg : OpV G K r m g) {σ : St} {H : Hp} {Q : VK} (h : tE G K m E κ (e2 g f f') σ H Q) : tOp r (tE G K .top E κ f) (tE G K .top E κ f') σ H Q := by
  obtain ⟨F, τ, l, q⟩ := h
  refine ⟨F, τ, l, ?_⟩
  unfold e2 at q
  cases hf : f τ with
  | exc c ps => rw [hf] at q; exact q
  | bad => rw [hf] at q; exact q
  | ok p =>
    rw [hf] at q
    intro v F1 H1 e1 r1
    refine ⟨F1, τ, l.ext e1, ?_⟩
    cases hf' : f' τ with
    | exc c ps => rw [Res.ok_bind, hf'] at q; exact ExcOk.ext q e1
    | bad => rw [Res.ok_bind, hf'] at q; exact q
    | ok p' =>
      rw [Res.ok_bind, hf', Res.ok_bind] at q
      intro v' F2 H2 e2 r2
      cases hz : g p p' with
      | none => rw [hz] at q; exact q.elim
      | some z =>
        rw [hz] at q
        exact hg F2 H2 v v' p p' z Q e2.sub (Top.ext r1 e2) r2 hz fun w F3 H3 e3 r3 => q w F3 H3 ((e1.trans e2).trans e3) (r3.before (e1.h.trans e2.h))
theorem w_un {r : V → Hp → VK → Prop} {g : PV → Option PV} (hg : UnV G K r m g) {σ : St} {H : Hp} {Q : VK} (h : tE G K m E κ (e1 g f) σ H Q) : (tE G K .top E κ f) σ H fun x H1 => r x H1 Q := by
  obtain ⟨F, τ, l, q⟩ := h
  refine ⟨F, τ, l, ?_⟩
  unfold e1 at q
  cases hf : f τ with
  | exc c ps => rw [hf] at q; exact q
  | bad => rw [hf] at q; exact q
  | ok p =>
    rw [hf, Res.ok_bind] at q
    intro v F1 H1 e1 r1
    cases hz : g p with
    | none => rw [hz] at q; exact q.elim
    | some z =>
      rw [hz] at q
      exact hg F1 H1 v p z Q e1.sub r1 hz fun w F3 H3 e3 r3 => q w F3 H3 (e1.trans e3) (r3.before e1.h)
theorem v_op {op : Operator} {r : R2} {g : PV → PV → Option PV} (ho : OpR X (binaryOp op) r) (hg : OpV G K r m g) (ha : PE X a (tE G K .top E κ f)) (hb : PE X b (tE G K .top E κ f')) : PE X (.BinOp a op b pos) (tE G K m E κ (e2 g f f')) :=
  pe_weak (pe_op ho ha hb) fun _ _ _ h => w_op hg h
theorem v_un {op : UnaryOp} {r : V → Hp → VK → Prop} {g : PV → Option PV} (ho : UnR X (unaryOp op) r) (hg : UnV G K r m g) (ha : PE X a (tE G K .top E κ f)) : PE X (.UnaryOp op a pos) (tE G K m E κ (e1 g f)) :=
  pe_weak (pe_un ho ha) fun _ _ _ h => w_un hg h
theorem v_cmp {op : CmpOp} {r : R2} {g : PV → PV → Option PV} (ho : OpR X (compareOp op) r) (hg : OpV G K r m g) (ha : PE X a (tE G K .top E κ f)) (hb : PE X b (tE G K .top E κ f')) (hm : behindInMarks op b = false := by first | exact nomark _ | rfl | with_unfolding_all rfl) :
    PE X (.Compare a [op] [b] pos) (tE G K m E κ (e2 g f f')) :=
  pe_weak (pe_cmpR ho ha hb hm) fun _ _ _ h => w_op hg h
/-- a reading as a test -/
def tst (f : LE → Res PV) : LE → Res Bool := fun τ => f τ >>= fun p => match p with
  | .bl b => .ok b
  | _ => .bad
theorem w_tst {t : TE} (h : ∀ σ H Q, tE G K .sh E κ f σ H Q → t σ H Q) {σ : St} {H : Hp} {Q : Bool → Hp → Prop} (q : tT G K E κ (tst f) σ H Q) : t σ H fun x H' => ∃ k, x = .bl k ∧ Q k H' := by
  obtain ⟨F, τ, l, q⟩ := q
  refine h σ H _ ⟨F, τ, l, ?_⟩
  unfold tst at q
  cases hf : f τ with
  | exc c ps => rw [hf] at q; exact q
  | bad => rw [hf] at q; exact q
  | ok p =>
    rw [hf, Res.ok_bind] at q
    intro v F1 H1 e1 r1
    cases p with
    | bl b => exact ⟨b, Rep.bl_inv r1, q F1 H1 e1⟩
    | _ => exact q.elim
theorem t_cmp {op : CmpOp} {r : R2} {g : PV → PV → Option PV} (ho : OpR X (compareOp op) r) (hg : OpV G K r .sh g) (ha : PE X a (tE G K .top E κ f)) (hb : PE X b (tE G K .top E κ f')) (hm : behindInMarks op b = false := by first | exact nomark _ | rfl | with_unfolding_all rfl) :
    PT X (.Compare a [op] [b] pos) (tT G K E κ (tst (e2 g f f'))) :=
  pt_weak (pt_cmpR ho ha hb hm) fun _ _ _ q => w_tst (fun _ _ _ h => w_op hg h) q
/-! chains -/
def eChain (g g' : PV → PV → Option PV) (f f' f'' : LE → Res PV) : LE → Res PV := fun τ => f τ >>= fun p => f' τ >>= fun p' => match g p p' with
  | some (.bl true) => f'' τ >>= fun p'' => up (g' p' p'')
  | some (.bl false) => .ok (.bl false)
  | _ => .bad
theorem w_chain {r r' : R2} {g g' : PV → PV → Option PV} (hg : OpV G K r .sh g) (hg' : OpV G K r' m g') (hm : ∀ b H0 F H, RM G K m H0 F H (.bl b) (.bl b)) {σ : St} {H : Hp} {Q : VK} (h : tE G K m E κ (eChain g g' f f' f'') σ H Q) :
    tChain r r' (tE G K .top E κ f) (tE G K .top E κ f') (tE G K .top E κ f'') σ H Q := by
  obtain ⟨F, τ, l, q⟩ := h
  refine ⟨F, τ, l, ?_⟩
  unfold eChain at q
  cases hf : f τ with
  | exc c ps => rw [hf] at q; exact q
  | bad => rw [hf] at q; exact q
  | ok p =>
    rw [hf] at q
    intro v F1 H1 e1 r1
    refine ⟨F1, τ, l.ext e1, ?_⟩
    cases hf' : f' τ with
    | exc c ps => rw [Res.ok_bind, hf'] at q; exact ExcOk.ext q e1
    | bad => rw [Res.ok_bind, hf'] at q; exact q
    | ok p' =>
      rw [Res.ok_bind, hf', Res.ok_bind] at q
      intro v' F2 H2 e2 r2
      have e12 := e1.trans e2
      cases hz : g p p' with
      | none => rw [hz] at q; exact q.elim
      | some z =>
        rw [hz] at q
        refine hg F2 H2 v v' p p' z _ e2.sub (Top.ext r1 e2) r2 hz fun w F3 H3 e3 r3 => ?_
        cases z with
        | bl k =>
          refine ⟨k, Rep.bl_inv r3, ?_⟩
          cases k with
          | false => rw [if_neg (by decide)]; exact q _ F3 H3 (e12.trans e3) (hm false _ _ _)
          | true =>
            rw [if_pos rfl]
            refine ⟨F3, τ, (l.ext e12).ext e3, ?_⟩
            cases hf'' : f'' τ with
            | exc c ps => simp only [hf''] at q; exact ExcOk.ext q (e12.trans e3)
            | bad => simp only [hf''] at q; exact q
            | ok p'' =>
              simp only [hf'', Res.ok_bind] at q
              intro v'' F4 H4 e4 r4
              cases hz' : g' p' p'' with
              | none => rw [hz'] at q; exact q.elim
              | some z' =>
                rw [hz'] at q
                exact hg' F4 H4 v' v'' p' p'' z' Q e4.sub (Top.ext (Top.ext r2 e3) e4) r4 hz' fun u F5 H5 e5 r5 => q u F5 H5 ((e12.trans e3).trans (e4.trans e5)) (r5.before ((e12.h.trans e3.h).trans e4.h))
        | _ => exact q.elim
theorem v_chain {op op' : CmpOp} {r r' : R2} {g g' : PV → PV → Option PV} (ho : OpR X (compareOp op) r) (ho' : OpR X (compareOp op') r') (hg : OpV G K r .sh g) (hg' : OpV G K r' .sh g') (ha : PE X a (tE G K .top E κ f)) (hb : PE X b (tE G K .top E κ f')) (hc : PE X c (tE G K .top E κ f''))
    (hm : lastMarks [op, op'] [b, c] = false := by with_unfolding_all rfl) : PE X (.Compare a [op, op'] [b, c] pos) (tE G K .sh E κ (eChain g g' f f' f'')) :=
  pe_weak (pe_chain ho ho' ha hb hc hm) fun _ _ _ h => w_chain hg hg' (fun b _ _ _ => .bl b) h
theorem t_chain {op op' : CmpOp} {r r' : R2} {g g' : PV → PV → Option PV} (ho : OpR X (compareOp op) r) (ho' : OpR X (compareOp op') r') (hg : OpV G K r .sh g) (hg' : OpV G K r' .sh g') (ha : PE X a (tE G K .top E κ f)) (hb : PE X b (tE G K .top E κ f')) (hc : PE X c (tE G K .top E κ f''))
    (hm : lastMarks [op, op'] [b, c] = false := by with_unfolding_all rfl) : PT X (.Compare a [op, op'] [b, c] pos) (tT G K E κ (tst (eChain g g' f f' f''))) :=
  pt_weak (pt_chain ho ho' ha hb hc hm) fun _ _ _ q => w_tst (fun _ _ _ h => w_chain hg hg' (fun b _ _ _ => .bl b) h) q

/-! and, or, not, if -/
def tAndM (f g : LE → Res Bool) : LE → Res Bool := fun τ => f τ >>= fun b => if b = true then g τ else .ok false
def tOrM (f g : LE → Res Bool) : LE → Res Bool := fun τ => f τ >>= fun b => if b = true then .ok true else g τ
def tNotM (f : LE → Res Bool) : LE → Res Bool := fun τ => f τ >>= fun b => .ok (!b)
variable {t t' : LE → Res Bool} {rest : List Expr}
theorem w_if {A B C : Prop} {b : Bool} (h1 : b = true → A → B) (h2 : b = false → A → C) (h : A) : if b = true then B else C := by
  cases b with
  | true => rw [if_pos rfl]; exact h1 rfl h
  | false => rw [if_neg (by decide)]; exact h2 rfl h
theorem tw_and1 (ha : PT X a (tT G K E κ t)) : PW X (.BoolOp .And [a] pos) (tT G K E κ t) := pw_and1 ha
theorem tw_or1 (ha : PT X a (tT G K E κ t)) : PW X (.BoolOp .Or [a] pos) (tT G K E κ t) := pw_or1 ha
theorem tw_and (ha : PT X a (tT G K E κ t)) (hb : PW X (.BoolOp .And (b :: rest) pos) (tT G K E κ t')) : PW X (.BoolOp .And (a :: b :: rest) pos) (tT G K E κ (tAndM t t')) :=
  pw_weak (pw_and ha hb) fun σ H Q ⟨F, τ, l, q⟩ => by
    refine ⟨F, τ, l, ?_⟩
    unfold tAndM at q
    cases hf : t τ with
    | exc c ps => rw [hf] at q; exact q
    | bad => rw [hf] at q; exact q
    | ok k =>
      rw [hf, Res.ok_bind] at q
      intro F1 H1 e1
      refine w_if (A := True) (fun hk _ => ?_) (fun hk _ => ?_) trivial
      · subst hk
        rw [if_pos rfl] at q
        refine ⟨F1, τ, l.ext e1, ?_⟩
        cases hg : t' τ with
        | exc c ps => rw [hg] at q; exact ExcOk.ext q e1
        | bad => rw [hg] at q; exact q
        | ok k' => rw [hg] at q; exact fun F2 H2 e2 => q F2 H2 (e1.trans e2)
      · subst hk
        rw [if_neg (by decide)] at q
        exact q F1 H1 e1
theorem tw_or (ha : PT X a (tT G K E κ t)) (hb : PW X (.BoolOp .Or (b :: rest) pos) (tT G K E κ t')) : PW X (.BoolOp .Or (a :: b :: rest) pos) (tT G K E κ (tOrM t t')) :=
  pw_weak (pw_or ha hb) fun σ H Q ⟨F, τ, l, q⟩ => by
    refine ⟨F, τ, l, ?_⟩
    unfold tOrM at q
    cases hf : t τ with
    | exc c ps => rw [hf] at q; exact q
    | bad => rw [hf] at q; exact q
    | ok k =>
      rw [hf, Res.ok_bind] at q
      intro F1 H1 e1
      refine w_if (A := True) (fun hk _ => ?_) (fun hk _ => ?_) trivial
      · subst hk
        rw [if_pos rfl] at q
        exact q F1 H1 e1
      · subst hk
        rw [if_neg (by decide)] at q
        refine ⟨F1, τ, l.ext e1, ?_⟩
        cases hg : t' τ with
        | exc c ps => rw [hg] at q; exact ExcOk.ext q e1
        | bad => rw [hg] at q; exact q
        | ok k' => rw [hg] at q; exact fun F2 H2 e2 => q F2 H2 (e1.trans e2)
theorem t_w (h : PW X a (tT G K E κ t)) : PT X a (tT G K E κ t) := h.pt
theorem t_not (ha : PT X a (tT G K E κ t)) : PT X (.UnaryOp .Not a pos) (tT G K E κ (tNotM t)) :=
  pt_weak (pt_not ha) fun σ H Q ⟨F, τ, l, q⟩ => by
    refine ⟨F, τ, l, ?_⟩
    unfold tNotM at q
    cases hf : t τ with
    | exc c ps => rw [hf] at q; exact q
    | bad => rw [hf] at q; exact q
    | ok k => rw [hf, Res.ok_bind] at q; exact fun F1 H1 e1 => q F1 H1 e1
def eIf (t : LE → Res Bool) (f f' : LE → Res PV) : LE → Res PV := fun τ => t τ >>= fun b => if b = true then f τ else f' τ
theorem v_if (hc : PT X c (tT G K E κ t)) (ha : PE X a (tE G K m E κ f)) (hb : PE X b (tE G K m E κ f')) : PE X (.IfExp c a b pos) (tE G K m E κ (eIf t f f')) :=
  pe_weak (pe_ifExp hc ha hb) fun σ H Q ⟨F, τ, l, q⟩ => by
    refine ⟨F, τ, l, ?_⟩
    unfold eIf at q
    cases hf : t τ with
    | exc c ps => rw [hf] at q; exact q
    | bad => rw [hf] at q; exact q
    | ok k =>
      rw [hf, Res.ok_bind] at q
      intro F1 H1 e1
      refine w_if (A := True) (fun hk _ => ?_) (fun hk _ => ?_) trivial
      · subst hk
        rw [if_pos rfl] at q
        refine ⟨F1, τ, l.ext e1, ?_⟩
        cases hg : f τ with
        | exc c ps => rw [hg] at q; exact ExcOk.ext q e1
        | bad => rw [hg] at q; exact q
        | ok k' => rw [hg] at q; exact fun v F2 H2 e2 r2 => q v F2 H2 (e1.trans e2) (r2.before e1.h)
      · subst hk
        rw [if_neg (by decide)] at q
        refine ⟨F1, τ, l.ext e1, ?_⟩
        cases hg : f' τ with
        | exc c ps => rw [hg] at q; exact ExcOk.ext q e1
        | bad => rw [hg] at q; exact q
        | ok k' => rw [hg] at q; exact fun v F2 H2 e2 r2 => q v F2 H2 (e1.trans e2) (r2.before e1.h)
/-! and, or, not as values (bools) -/
def eAnd (f f' : LE → Res PV) : LE → Res PV := fun τ => f τ >>= fun p => match p with
  | .bl true => f' τ
  | .bl false => .ok (.bl false)
  | _ => .bad
def eOr (f f' : LE → Res PV) : LE → Res PV := fun τ => f τ >>= fun p => match p with
  | .bl true => .ok (.bl true)
  | .bl false => f' τ
  | _ => .bad
def eNot (f : LE → Res PV) : LE → Res PV := fun τ => f τ >>= fun p => match p with
  | .bl k => .ok (.bl (!k))
  | _ => .bad
theorem v_one {op} (h : PE X a (tE G K m E κ f)) : PE X (.BoolOp op [a] pos) (tE G K m E κ f) := pe_one h
theorem v_and (ha : PE X a (tE G K .sh E κ f)) (hb : PE X (.BoolOp .And (b :: rest) pos) (tE G K .sh E κ f')) : PE X (.BoolOp .And (a :: b :: rest) pos) (tE G K .sh E κ (eAnd f f')) :=
  pe_weak (pe_and ha hb) fun σ H Q ⟨F, τ, l, q⟩ => by
    refine ⟨F, τ, l, ?_⟩
    unfold eAnd at q
    cases hf : f τ with
    | exc c ps => rw [hf] at q; exact q
    | bad => rw [hf] at q; exact q
    | ok p =>
      rw [hf, Res.ok_bind] at q
      intro v F1 H1 e1 r1
      cases p with
      | bl k =>
        refine ⟨k, Rep.bl_inv r1, ?_⟩
        cases k with
        | true =>
          rw [if_pos rfl]
          refine ⟨F1, τ, l.ext e1, ?_⟩
          simp only at q
          cases hg : f' τ with
          | exc c ps => rw [hg] at q; exact ExcOk.ext q e1
          | bad => rw [hg] at q; exact q
          | ok k' => rw [hg] at q; exact fun v F2 H2 e2 r2 => q v F2 H2 (e1.trans e2) r2
        | false => rw [if_neg (by decide)]; exact q _ F1 H1 e1 (.bl false)
      | _ => exact q.elim
theorem v_or (ha : PE X a (tE G K .sh E κ f)) (hb : PE X (.BoolOp .Or (b :: rest) pos) (tE G K .sh E κ f')) : PE X (.BoolOp .Or (a :: b :: rest) pos) (tE G K .sh E κ (eOr f f')) :=
  pe_weak (pe_or ha hb) fun σ H Q ⟨F, τ, l, q⟩ => by
    refine ⟨F, τ, l, ?_⟩
    unfold eOr at q
    cases hf : f τ with
    | exc c ps => rw [hf] at q; exact q
    | bad => rw [hf] at q; exact q
    | ok p =>
      rw [hf, Res.ok_bind] at q
      intro v F1 H1 e1 r1
      cases p with
      | bl k =>
        refine ⟨k, Rep.bl_inv r1, ?_⟩
        cases k with
        | true => rw [if_pos rfl]; exact q _ F1 H1 e1 (.bl true)
        | false =>
          rw [if_neg (by decide)]
          refine ⟨F1, τ, l.ext e1, ?_⟩
          simp only at q
          cases hg : f' τ with
          | exc c ps => rw [hg] at q; exact ExcOk.ext q e1
          | bad => rw [hg] at q; exact q
          | ok k' => rw [hg] at q; exact fun v F2 H2 e2 r2 => q v F2 H2 (e1.trans e2) r2
      | _ => exact q.elim
theorem v_not (ha : PE X a (tE G K .sh E κ f)) : PE X (.UnaryOp .Not a pos) (tE G K .sh E κ (eNot f)) :=
  pe_weak (pe_not ha) fun σ H Q ⟨F, τ, l, q⟩ => by
    refine ⟨F, τ, l, ?_⟩
    unfold eNot at q
    cases hf : f τ with
    | exc c ps => rw [hf] at q; exact q
    | bad => rw [hf] at q; exact q
    | ok p =>
      rw [hf, Res.ok_bind] at q
      intro v F1 H1 e1 r1
      cases p with
      | bl k => exact ⟨k, Rep.bl_inv r1, q _ F1 H1 e1 (.bl _)⟩
      | _ => exact q.elim
end
end Lp
end
section
set_option Elab.async false
set_option linter.all false
set_option maxRecDepth 100000
/-! tuples that are made: their objects are known -/
namespace Lk
open PySem PySem.Spec PyProof.Rows L2 Lp
variable {X : Cx} {es : List Expr} {t : TA} {pos : Pos}
/-- the object that is laid -/
abbrev tupO (us : Array Value) : Obj := { cls := .type "tuple", data := .seq us }
theorem tupO_ok (us : Array Value) : KO (tupO us) := ⟨rfl, rfl, rfl⟩
theorem laidK {pins : List (Addr × Obj)} {σ : L2.St} {H : Hp} {s : Shared} (I : L2.Inv X pins σ H s) {xs : List V} {us : List Value} (hz : xs.length ≤ sizeLine) (r : Vals xs us) :
    L2.Inv X pins σ (upd H s.heap.objs.size (.frz (tupO us.toArray) (.tup xs))) { s with heap := s.heap.push (tupO us.toArray) } := by
  refine I.laid (t' := s.toks) (o := .frz (tupO us.toArray) (.tup xs)) (fun _ _ q => Heap.get?_push_of_some _ q) (Nat.le_refl _) ⟨?_, ?_⟩
  · exact Heap.get?_push_size _ rfl
  · exact ⟨hz, us, r, IsTup.new _ _⟩
def tTupK (t : TA) : TE := fun σ H Q => t σ H fun xs H1 => xs.length ≤ sizeLine ∧ ∀ p o, H1 p = none → KO o → Q (.ref p) (upd H1 p (.frz o (.tup xs)))
theorem pe_tupK {x1} (h : PA X es t) : PE X (.Tuple es x1 pos) (tTupK t) :=
  ⟨fun pins s σ H Q I hq => wpAny_Tuple_spliced (thn (h.run pos pins s σ H _ I hq) fun us s1 ⟨xs, H1, I1, r, z, q⟩ =>
    ⟨r.length ▸ z, .ref s1.heap.objs.size, _, laidK I1 z r, rfl, q _ _ (I1.hok.fresh (Nat.le_refl _)) (tupO_ok _)⟩)⟩
/-- t + u -/
def rCatK (K : PySem.W.Frag) : R2 := fun x y H Q => ∃ a b xs ys, x = .ref a ∧ y = .ref b ∧ SqT K H a xs ∧ SqT K H b ys ∧ xs.length + ys.length ≤ sizeLine ∧
  (xs = [] → Q (.ref b) H) ∧ (xs ≠ [] → ys = [] → Q (.ref a) H) ∧ (xs ≠ [] → ys ≠ [] → ∀ p o, H p = none → KO o → Q (.ref p) (upd H p (.frz o (.tup (xs ++ ys)))))
theorem op_catK : OpR X (binaryOp .Add) (rCatK X.K) := by
  intro pins s σ H x y v u Q I rx ry h
  obtain ⟨a, b, xs, ys, rfl, rfl, ha, hb, hz, q0, q1, q2⟩ := h
  cases rx; cases ry
  obtain ⟨its, rv, pt, _⟩ := I.tuple ha
  obtain ⟨its2, rv2, pt2, _⟩ := I.tuple hb
  by_cases hx : xs = []
  · subst hx
    cases rv
    exact cat_tup0 pt pt2 ⟨.ref b, H, I, rfl, q0 rfl⟩
  · refine HT.cat_tup pt pt2 (fun z => hx (rv.nil_iff.mp z)) (fun z => ⟨.ref a, H, I, rfl, q1 hx (rv2.nil_iff.mp z)⟩) (fun z => ?_) ?_
    · have hl : (xs ++ ys).length ≤ sizeLine := List.length_append ▸ hz
      exact ⟨.ref s.heap.objs.size, _, laidK I hl (rv.append rv2), rfl, q2 hx (fun w => z (rv2.nil_iff.mpr w)) _ _ (I.hok.fresh (Nat.le_refl _)) (tupO_ok _)⟩
    · have h1 := rv.length
      have h2 := rv2.length
      omega
/-- t[lo:hi] -/
def rSlK (K : PySem.W.Frag) : V → Option Int → Option Int → Hp → VK → Prop := fun x lo hi H Q => ∃ a xs, x = .ref a ∧ SqT K H a xs ∧
  (HT.sIx xs.length 0 lo = 0 ∧ HT.sIx xs.length xs.length hi = xs.length → Q (.ref a) H) ∧
  (¬ (HT.sIx xs.length 0 lo = 0 ∧ HT.sIx xs.length xs.length hi = xs.length) → ∀ p o, H p = none → KO o → Q (.ref p) (upd H p (.frz o (.tup (cutV xs lo hi)))))
theorem sl_tupK : SlR X (rSlK X.K) := by
  intro pins s σ H x v vl vu lo hi sl Q I rx hs pl pu h
  obtain ⟨a, xs, rfl, hx, q1, q2⟩ := h
  cases rx
  obtain ⟨its, rv, ht, hz⟩ := I.tuple hx
  have hn : its.toArray.size = xs.length := (List.size_toArray ..).trans rv.length.symm
  refine ⟨"tuple", _, slot_tuple_getitem.lookup, ht.typeIs, ?_⟩
  by_cases hw : HT.sIx xs.length 0 lo = 0 ∧ HT.sIx xs.length xs.length hi = xs.length
  · exact getItem_tuple_whole ht hs pl pu (hn.symm ▸ hw) ⟨.ref a, H, I, rfl, q1 hw⟩
  · refine HT.getItem_tuple_cut ht hs pl pu (hn.symm ▸ hw) ?_ (hn.symm ▸ hz)
    rw [hn]
    exact ⟨.ref s.heap.objs.size, _, laidK I (Nat.le_trans (cutV_length xs lo hi) hz) ((rv.drop _).take _), rfl, q2 hw _ _ (I.hok.fresh (Nat.le_refl _)) (tupO_ok _)⟩
/-- tuple(x) -/
theorem call_tupK : CallR X (.type "tuple") (fun xs H Q => ∃ p ys, xs = [.ref p] ∧ ((SqL X.K H p ys ∧ ∀ l o, H l = none → KO o → Q (.ref l) (upd H l (.frz o (.tup ys)))) ∨ (SqT X.K H p ys ∧ Q (.ref p) H))) := by
  intro pins s σ H xs us Q I r h
  obtain ⟨p, ys, rfl, h⟩ := h
  obtain ⟨u, rfl, ru⟩ := vals1 r
  cases ru
  rcases h with ⟨hq, q⟩ | ⟨hq, q⟩
  · obtain ⟨its, rv, pl, hz⟩ := I.list hq
    refine call_tuple_list pl.isList (fun h' kp => ?_) ?_
    · have I1 : L2.Inv X pins σ H { s with heap := h' } := I.kept (t' := s.toks) kp
      exact ⟨.ref h'.objs.size, _, laidK I1 hz rv, rfl, q _ _ (I1.hok.fresh (Nat.le_refl _)) (tupO_ok _)⟩
    · have := rv.length
      simp only [List.size_toArray]
      omega
  · obtain ⟨its, _, pl, _⟩ := I.tuple hq
    exact call_tuple_same pl ⟨.ref p, H, I, rfl, q⟩
end Lk
end
section
set_option Elab.async false
set_option linter.all false
set_option maxRecDepth 100000
namespace Lp
open PySem PySem.Spec L2
section
variable {G : GW} {K : PySem.W.Frag} {F H F' H' F0 H0 : Hp} {X : Cx} {v x y : V} {p : PV}
/-! what a value is at the top -/
theorem Top.int_inv {i : Int} (r : Top G K F H v (.int i)) : v = .int i := by
  rcases r with r | ⟨_, _, _, h⟩
  · exact Rep.int_inv r
  · exact h.elim
theorem Top.str_inv {i : Str} (r : Top G K F H v (.str i)) : v = .str i := by
  rcases r with r | ⟨_, _, _, h⟩
  · exact Rep.str_inv r
  · exact h.elim
theorem Top.bl_inv {i : Bool} (r : Top G K F H v (.bl i)) : v = .bl i := by
  rcases r with r | ⟨_, _, _, h⟩
  · exact Rep.bl_inv r
  · exact h.elim
theorem Top.non_inv (r : Top G K F H v .non) : v = .non := by
  rcases r with r | ⟨_, _, _, h⟩
  · exact Rep.non_inv r
  · exact h.elim
theorem Top.ty_inv {n : String} (r : Top G K F H v (.ty n)) : v = .ty n := by
  rcases r with r | ⟨_, _, _, h⟩
  · exact Rep.ty_inv r
  · exact h.elim
theorem Top.tup_inv (s : Same F H) {ps : List PV} (r : Top G K F H v (.tup ps)) : ∃ a vs, v = .ref a ∧ SqT K H a vs ∧ Reps G K F vs ps := by
  rcases r with r | ⟨_, _, _, h⟩
  · obtain ⟨a, vs, e, h, r⟩ := Rep.tup_inv r
    exact ⟨a, vs, e, Same.sqt s h, r⟩
  · exact h.elim
theorem Top.lst_inv (s : Same F H) {ps : List PV} (r : Top G K F H v (.lst ps)) : ∃ a vs, v = .ref a ∧ Rd H a (.lst vs) ∧ Reps G K F vs ps := by
  rcases r with r | ⟨a, e, _, vs, h, r⟩
  · obtain ⟨a, vs, e, h, r⟩ := Rep.lst_inv r
    exact ⟨a, vs, e, Same.rd s h, r⟩
  · exact ⟨a, vs, e, .inl h, r⟩
theorem Top.dK_inv (s : Same F H) {ps : List (Key × PV)} (r : Top G K F H v (.dK ps)) : ∃ a kvs, v = .ref a ∧ H a = some (.dK kvs) ∧ RepK G K F kvs ps := by
  rcases r with r | ⟨a, e, _, vs, h, r⟩
  · obtain ⟨a, vs, e, h, r⟩ := Rep.dK_inv r
    exact ⟨a, vs, e, s _ _ h, r⟩
  · exact ⟨a, vs, e, h, r⟩
theorem Top.ins_inv (s : Same F H) {c : Nat} {ps : List (Str × PV)} (r : Top G K F H v (.ins c ps)) : ∃ a dx fs, v = .ref a ∧ H a = some (.ins (G c) dx fs) ∧ RepF G K F fs ps := by
  rcases r with r | ⟨a, e, _, dx, fs, h, r⟩
  · obtain ⟨a, dx, fs, e, h, r⟩ := Rep.ins_inv r
    exact ⟨a, dx, fs, e, s _ _ h, r⟩
  · exact ⟨a, dx, fs, e, h, r⟩
theorem Top.scr_inv (s : Same F H) {ns : List Int} (r : Top G K F H v (.scr ns)) : ∃ a, v = .ref a ∧ SqL K H a (ns.map V.int) := by
  rcases r with r | ⟨_, _, _, h⟩
  · cases r with
    | scr h => exact ⟨_, rfl, Same.seq s h⟩
  · exact h.elim
theorem seqL {a : Addr} {vs : List V} (h : Rd H a (.lst vs)) : SqL K H a vs := .inl h

/-! ### arithmetic -/
def pAdd : PV → PV → Option PV
  | .int i, .int j => some (.int (i + j))
  | .str x, .str y => if x.length + y.length ≤ sizeLine then some (.str (x ++ y)) else none
  | .tup xs, .tup ys => if xs.length + ys.length ≤ sizeLine then some (.tup (xs ++ ys)) else none
  | _, _ => none
def rAddV (K : PySem.W.Frag) : R2 := fun x y H Q => (rI0 fun i j => .int (i + j)) x y H Q ∨ (fun x y H Q => ∃ i j, x = .str i ∧ y = .str j ∧ i.length + j.length ≤ sizeLine ∧ Q (.str (i ++ j)) H) x y H Q ∨ Lk.rCatK K x y H Q
theorem op_addV : OpR X (binaryOp .Add) (rAddV X.K) := op_add.or (op_add_str.or Lk.op_catK)
theorem g_add : OpV G K (rAddV K) .sh pAdd := by
  intro F H x y p q z Q s rx ry hz k
  unfold pAdd at hz
  split at hz
  · obtain rfl := rx.int_inv
    obtain rfl := ry.int_inv
    cases hz
    exact .inl ⟨_, _, rfl, rfl, k _ F H (Ext.refl s) (.int _)⟩
  · obtain rfl := rx.str_inv
    obtain rfl := ry.str_inv
    split at hz
    · rename_i hl
      cases hz
      exact .inr (.inl ⟨_, _, rfl, rfl, hl, k _ F H (Ext.refl s) (.str _)⟩)
    · cases hz
  · obtain ⟨a, vs, rfl, ha, r1⟩ := rx.tup_inv s
    obtain ⟨b, ws, rfl, hb, r2⟩ := ry.tup_inv s
    split at hz
    · rename_i hl
      cases hz
      have l1 := r1.length
      have l2 := r2.length
      refine .inr (.inr ⟨a, b, vs, ws, rfl, rfl, ha, hb, by omega, fun e => ?_, fun _ e => ?_, fun _ _ p o np ko => ?_⟩)
      · subst e
        cases r1
        refine k _ F H (Ext.refl s) ?_
        rcases ry with ry | ⟨_, _, _, h⟩
        · exact ry
        · exact h.elim
      · subst e
        cases r2
        refine k _ F H (Ext.refl s) ?_
        rw [List.append_nil]
        rcases rx with rx | ⟨_, _, _, h⟩
        · exact rx
        · exact h.elim
      · refine k _ _ _ (Ext.push (.frz o (.tup (vs ++ ws))) (Ext.refl s) np) (.tup (.inl ⟨o, upd_same, ko⟩) ?_)
        exact Reps.mono (same_new (Same.free s np)) (Reps.append r1 r2)
    · cases hz
  · cases hz
/-- lists: a new one -/
def pCat : PV → PV → Option PV
  | .lst xs, .lst ys => if xs.length + ys.length ≤ sizeLine then some (.lst (xs ++ ys)) else none
  | _, _ => none
def rCatR : R2 := fun x y H Q => ∃ l b xs zs, x = .ref l ∧ y = .ref b ∧ Rd H l (.lst xs) ∧ Rd H b (.lst zs) ∧ xs.length + zs.length ≤ sizeLine ∧ ∀ p, H p = none → Q (.ref p) (upd H p (.lst (xs ++ zs)))
theorem Rd.lstM {pins : List (Addr × Obj)} {σ : St} {s : Shared} {l : Addr} {xs : List V} (I : Inv X pins σ H s) (hH : Rd H l (.lst xs)) : xs.length ≤ sizeLine ∧ ∃ (its : List Value) (n : Nat), Vals xs its ∧ xs.length = its.length ∧ s.heap.get? l = some { cls := .type "list", data := .seq its.toArray n } := by
  obtain ⟨z, its, n, r, e⟩ := hH.ok I.hok
  exact ⟨z, its, n, r, r.length, e⟩
theorem op_catR : OpR X (binaryOp .Add) rCatR := by
  intro pins s σ H x y v u Q I rx ry h
  obtain ⟨l, b, xs, zs, rfl, rfl, hH, hB, hz, q⟩ := h
  cases rx
  cases ry
  obtain ⟨z, its, n, r, hl, e⟩ := Rd.lstM I hH
  obtain ⟨z2, its2, n2, r2, hl2, e2⟩ := Rd.lstM I hB
  refine PySem.P.add_list e e2 ?_ (by rw [List.size_toArray, List.size_toArray]; omega)
  have ea : its.toArray ++ its2.toArray = (its ++ its2).toArray := by simp
  rw [ea]
  exact ⟨.ref _, _, I.lnew (t' := s.toks) (r.append r2) (by rw [List.length_append]; omega), rfl, q _ I.fresh⟩
theorem frs_new {ws : List V} {ps : List PV} {a : Addr} (s : Same F H) (np : H a = none) (r : Reps G K F ws ps) : Ext F H F (upd H a (.lst ws)) ∧ Frs G K H F (upd H a (.lst ws)) (.ref a) (.lst ps) :=
  ⟨Ext.pushOwn _ (Ext.refl s) np, a, rfl, np, Same.free s np, ws, upd_same, r⟩
theorem g_cat : OpV G K rCatR .fr pCat := by
  intro F H x y p q z Q s rx ry hz k
  unfold pCat at hz
  split at hz
  · obtain ⟨a, vs, rfl, ha, r1⟩ := rx.lst_inv s
    obtain ⟨b, ws, rfl, hb, r2⟩ := ry.lst_inv s
    split at hz
    · rename_i hl
      cases hz
      refine ⟨a, b, vs, ws, rfl, rfl, ha, hb, by rw [r1.length, r2.length]; exact hl, fun p np => ?_⟩
      obtain ⟨e, f⟩ := frs_new s np (Reps.append r1 r2)
      exact k _ _ _ e f
    · cases hz
  · cases hz
def pSub : PV → PV → Option PV
  | .int i, .int j => some (.int (i - j))
  | _, _ => none
theorem g_sub : OpV G K (rI0 fun i j => .int (i - j)) .sh pSub := by
  intro F H x y p q z Q s rx ry hz k
  unfold pSub at hz
  split at hz
  · obtain rfl := rx.int_inv
    obtain rfl := ry.int_inv
    cases hz
    exact ⟨_, _, rfl, rfl, k _ F H (Ext.refl s) (.int _)⟩
  · cases hz
theorem CMul_iff {i j : Int} : (Nat.ble (i.natAbs + 1) (2 ^ 64) || Nat.ble (j.natAbs + 1) (2 ^ 64)) = true ↔ CMul i j := by
  rw [Bool.or_eq_true, Nat.ble_eq, Nat.ble_eq]
  unfold CMul
  omega
instance (i j : Int) : Decidable (CMul i j) := decidable_of_iff _ CMul_iff
theorem CDiv_iff {i j : Int} : (decide (0 < j) && Nat.ble (j.natAbs + 1) 1073741824) = true ↔ CDiv i j := by
  rw [Bool.and_eq_true, Nat.ble_eq, decide_eq_true_iff]
  unfold CDiv
  omega
instance (i j : Int) : Decidable (CDiv i j) := decidable_of_iff _ (CDiv_iff (i := i))
instance (i j : Int) : Decidable (CPow i j) := by unfold CPow; infer_instance
def pI (C : Int → Int → Prop) [∀ i j, Decidable (C i j)] (g : Int → Int → Int) : PV → PV → Option PV
  | .int i, .int j => if C i j then some (.int (g i j)) else none
  | _, _ => none
theorem g_I {C : Int → Int → Prop} [∀ i j, Decidable (C i j)] {g : Int → Int → Int} : OpV G K (rI C fun i j => .int (g i j)) .sh (pI C g) := by
  intro F H x y p q z Q s rx ry hz k
  unfold pI at hz
  split at hz
  · obtain rfl := rx.int_inv
    obtain rfl := ry.int_inv
    split at hz
    · rename_i hc
      cases hz
      exact ⟨_, _, rfl, rfl, hc, k _ F H (Ext.refl s) (.int _)⟩
    · cases hz
  · cases hz
abbrev pMul := pI CMul fun i j => i * j
abbrev pDiv := pI CDiv fun i j => i / j
abbrev pMod := pI (fun _ j => 0 < j) fun i j => i % j
abbrev pPow := pI CPow fun i j => i ^ j.toNat
def pNeg : PV → Option PV
  | .int i => some (.int (-i))
  | _ => none
theorem g_neg : UnV G K (rU fun i => .int (-i)) .sh pNeg := by
  intro F H x p z Q s rx hz k
  unfold pNeg at hz
  split at hz
  · obtain rfl := rx.int_inv
    cases hz
    exact ⟨_, rfl, k _ F H (Ext.refl s) (.int _)⟩
  · cases hz
/-! ### comparisons of ints -/
def pB (g : Int → Int → Bool) : PV → PV → Option PV
  | .int i, .int j => some (.bl (g i j))
  | _, _ => none
theorem g_B {g : Int → Int → Bool} : OpV G K (rI0 fun i j => .bl (g i j)) .sh (pB g) := by
  intro F H x y p q z Q s rx ry hz k
  unfold pB at hz
  split at hz
  · obtain rfl := rx.int_inv
    obtain rfl := ry.int_inv
    cases hz
    exact ⟨_, _, rfl, rfl, k _ F H (Ext.refl s) (.bl _)⟩
  · cases hz
abbrev pLt := pB fun i j => decide (i < j)
abbrev pLe := pB fun i j => decide (i ≤ j)
abbrev pGt := pB fun i j => decide (j < i)
abbrev pGe := pB fun i j => decide (j ≤ i)
/-! ### == over data -/
mutual
def PV.toD : PV → Option PyData
  | .non => some .none
  | .bl b => some (.bool b)
  | .int i => some (.int i)
  | .str x => some (.str x)
  | .tup xs => (toDs xs).map .tuple
  | .lst xs => (toDs xs).map .list
  | .ty _ => none
  | .dK _ => none
  | .ins _ _ => none
  | .scr _ => none
  | .exn _ _ _ _ => none
  | .rng _ => none
  | .itm _ => none
  | .dN _ => none
def toDs : List PV → Option (List PyData)
  | [] => some []
  | x :: xs => match x.toD, toDs xs with
    | some d, some ds => some (d :: ds)
    | _, _ => none
end
theorem toDs_cons {q : PV} {qs : List PV} {ds : List PyData} (h : toDs (q :: qs) = some ds) : ∃ d ds', q.toD = some d ∧ toDs qs = some ds' ∧ ds = d :: ds' := by
  rw [toDs] at h
  cases h1 : q.toD with
  | none => rw [h1] at h; cases h
  | some d =>
    cases h2 : toDs qs with
    | none => rw [h1, h2] at h; cases h
    | some ds' => rw [h1, h2] at h; cases h; exact ⟨d, ds', rfl, rfl, rfl⟩
mutual
theorem Rep.dp : ∀ {v : V} {p : PV} {d : PyData}, Rep G K H v p → p.toD = some d → Dp K H v d
  | _, _, _, .non, h => by rw [PV.toD] at h; cases h; exact .non
  | _, _, _, .bl b, h => by rw [PV.toD] at h; cases h; exact .bl b
  | _, _, _, .int b, h => by rw [PV.toD] at h; cases h; exact .int b
  | _, _, _, .str b, h => by rw [PV.toD] at h; cases h; exact .str b
  | _, _, _, .ty b, h => by rw [PV.toD] at h; cases h
  | _, _, _, .scr _, h => by rw [PV.toD] at h; cases h
  | _, _, _, .exn _ _, h => by rw [PV.toD] at h; cases h
  | _, _, _, .dK _ _, h => by rw [PV.toD] at h; cases h
  | _, _, _, .ins _ _, h => by rw [PV.toD] at h; cases h
  | _, _, _, .itm _ _, h => by rw [PV.toD] at h; cases h
  | _, _, _, .dN _ _, h => by rw [PV.toD] at h; cases h
  | _, _, _, .tup (ps := ps) e r, h => by
    rw [PV.toD] at h
    cases hd : toDs ps with
    | none => rw [hd] at h; cases h
    | some ds => rw [hd] at h; cases h; exact .tup e.sqt (Reps.dp r hd)
  | _, _, _, .lst (ps := ps) e r, h => by
    rw [PV.toD] at h
    cases hd : toDs ps with
    | none => rw [hd] at h; cases h
    | some ds => rw [hd] at h; cases h; exact .lst (.inl e) (Reps.dp r hd)
theorem Reps.dp : ∀ {vs : List V} {ps : List PV} {ds : List PyData}, Reps G K H vs ps → toDs ps = some ds → DpAll K H vs ds
  | _, _, _, .nil, h => by rw [toDs] at h; cases h; exact .nil
  | _, _, _, .cons r rs, h => by
    obtain ⟨d, ds', h1, h2, rfl⟩ := toDs_cons h
    exact .cons (Rep.dp r h1) (Reps.dp rs h2)
end
theorem Top.dp {d : PyData} (s : Same F H) (r : Top G K F H v p) (h : p.toD = some d) : Dp K H v d := by
  rcases r with r | ⟨a, rfl, _, o⟩
  · exact Rep.dp (r.mono s) h
  · cases p <;> first | exact o.elim | skip
    · obtain ⟨vs, e, r⟩ := o
      rename_i ps
      rw [PV.toD] at h
      cases hd : toDs ps with
      | none => rw [hd] at h; cases h
      | some ds => rw [hd] at h; cases h; exact .lst (.inl (.inl e)) (Reps.dp (Reps.mono s r) hd)
    · rw [PV.toD] at h; cases h
    · rw [PV.toD] at h; cases h
    · rw [PV.toD] at h; cases h
def eqB (p q : PV) : Option Bool := match p.toD, q.toD with
  | some d, some e => if SeqAt.shaped d && SeqAt.shaped e then some (PyData.eqv d e) else none
  | _, _ => none
def pEq (p q : PV) : Option PV := (eqB p q).map .bl
def pNe (p q : PV) : Option PV := (eqB p q).map fun b => .bl (!b)
theorem eqB_some {p q : PV} {b : Bool} (h : eqB p q = some b) : ∃ d e, p.toD = some d ∧ q.toD = some e ∧ SeqAt.shaped d = true ∧ SeqAt.shaped e = true ∧ b = PyData.eqv d e := by
  unfold eqB at h
  split at h
  · rename_i d e h1 h2
    split at h
    · rename_i hs
      rw [Bool.and_eq_true] at hs
      cases h
      exact ⟨d, e, h1, h2, hs.1, hs.2, rfl⟩
    · cases h
  · cases h
theorem g_eq : OpV G K (rEqD K) .sh pEq := by
  intro F H x y p q z Q s rx ry hz k
  unfold pEq at hz
  cases hb : eqB p q with
  | none => rw [hb] at hz; cases hz
  | some b =>
    rw [hb] at hz
    cases hz
    obtain ⟨d, e, h1, h2, s1, s2, rfl⟩ := eqB_some hb
    exact ⟨d, e, rx.dp s h1, ry.dp s h2, s1, s2, k _ F H (Ext.refl s) (.bl _)⟩
theorem g_ne : OpV G K (rNeD K) .sh pNe := by
  intro F H x y p q z Q s rx ry hz k
  unfold pNe at hz
  cases hb : eqB p q with
  | none => rw [hb] at hz; cases hz
  | some b =>
    rw [hb] at hz
    cases hz
    obtain ⟨d, e, h1, h2, s1, s2, rfl⟩ := eqB_some hb
    exact ⟨d, e, rx.dp s h1, ry.dp s h2, s1, s2, k _ F H (Ext.refl s) (.bl _)⟩
/-! ### is None -/
def PV.isN : PV → Bool
  | .non => true
  | _ => false
def pIsN : PV → PV → Option PV
  | p, .non => some (.bl p.isN)
  | _, _ => none
def pNotN : PV → PV → Option PV
  | p, .non => some (.bl (!p.isN))
  | _, _ => none
theorem Top.isN (r : Top G K F H v p) : decide (v = .non) = p.isN := by
  rcases r with r | ⟨a, rfl, _, o⟩
  · cases r <;> simp [PV.isN]
  · cases p <;> first | exact o.elim | simp [PV.isN]
theorem g_isN : OpV G K (fun x y H Q => y = .non ∧ Q (.bl (decide (x = .non))) H) .sh pIsN := by
  intro F H x y p q z Q s rx ry hz k
  unfold pIsN at hz
  split at hz
  · cases hz
    refine ⟨ry.non_inv, ?_⟩
    rw [rx.isN]
    exact k _ F H (Ext.refl s) (.bl _)
  · cases hz
theorem g_notN : OpV G K (fun x y H Q => y = .non ∧ Q (.bl (!decide (x = .non))) H) .sh pNotN := by
  intro F H x y p q z Q s rx ry hz k
  unfold pNotN at hz
  split at hz
  · cases hz
    refine ⟨ry.non_inv, ?_⟩
    rw [rx.isN]
    exact k _ F H (Ext.refl s) (.bl _)
  · cases hz
/-! ### in -/
def PV.flat : PV → Bool
  | .non => true
  | .bl _ => true
  | .int _ => true
  | .str _ => true
  | _ => false
def eqP : PV → PV → Bool
  | .non, .non => true
  | .bl a, .bl b => a == b
  | .bl a, .int b => (if a then 1 else 0) == b
  | .int a, .bl b => a == (if b then 1 else 0)
  | .int a, .int b => a == b
  | .str a, .str b => a == b
  | _, _ => false
def inP (x : PV) (xs : List PV) : Bool := xs.any fun y => eqP y x
theorem Rep.flat (r : Rep G K H v p) (h : p.flat = true) : flatV v = true := by
  cases r <;> first | rfl | (simp [PV.flat] at h)
theorem Rep.eqP {w : V} {q : PV} (r : Rep G K H v p) (r2 : Rep G K H' w q) (h : p.flat = true) (h2 : q.flat = true) : eqV v w = Lp.eqP p q := by
  cases r <;> first | (simp [PV.flat] at h; done) | (cases r2 <;> first | (simp [PV.flat] at h2; done) | rfl)
theorem Reps.flat : ∀ {vs : List V} {ps : List PV}, Reps G K H vs ps → ps.all PV.flat = true → vs.all flatV = true
  | _, _, .nil, _ => rfl
  | _, _, .cons r rs, h => by
    rw [List.all_cons, Bool.and_eq_true] at h ⊢
    exact ⟨r.flat h.1, Reps.flat rs h.2⟩
theorem Reps.inP {q : PV} (r2 : Rep G K H' x q) (h2 : q.flat = true) : ∀ {vs : List V} {ps : List PV}, Reps G K H vs ps → ps.all PV.flat = true → inV x vs = Lp.inP q ps
  | _, _, .nil, _ => rfl
  | _, _, .cons r rs, h => by
    rw [List.all_cons, Bool.and_eq_true] at h
    have ih := Reps.inP r2 h2 rs h.2
    unfold inV Lp.inP at ih ⊢
    rw [List.any_cons, List.any_cons, ih, r.eqP r2 h.1 h2]
def itemsP : PV → Option (List PV)
  | .lst xs => some xs
  | .tup xs => some xs
  | _ => none
theorem Top.items (s : Same F H) {ps : List PV} (r : Top G K F H v p) (h : itemsP p = some ps) : ∃ a vs, v = .ref a ∧ (SqL K H a vs ∨ SqT K H a vs) ∧ Reps G K F vs ps := by
  unfold itemsP at h
  split at h
  · cases h
    obtain ⟨a, vs, e, h, r⟩ := r.lst_inv s
    exact ⟨a, vs, e, .inl (.inl h), r⟩
  · cases h
    obtain ⟨a, vs, e, h, r⟩ := r.tup_inv s
    exact ⟨a, vs, e, .inr h, r⟩
  · cases h
/-- one text within another -/
def subIn (i j : Str) : Bool := !(Builtin.Str.occurrences j i 0 j.length 1).isEmpty
def pIn (n : Bool) (p q : PV) : Option PV := match p, q with
  | .str i, .str j => some (.bl (n ^^ subIn i j))
  | p, q => match itemsP q with
    | some ps => if p.flat && ps.all PV.flat then some (.bl (n ^^ inP p ps)) else none
    | none => none
def rInS (n : Bool) : R2 := fun x y H Q => ∃ i j, x = .str i ∧ y = .str j ∧ Q (.bl (n ^^ subIn i j)) H
def rInV (K : PySem.W.Frag) (n : Bool) : R2 := fun x y H Q => rInS n x y H Q ∨ rIn K n x y H Q
theorem op_inV : OpR X (compareOp .In) (rInV X.K false) := OpR.or (fun pins s σ H x y v u Q I rx ry ⟨i, j, e1, e2, q⟩ => op_in_str pins s σ H x y v u Q I rx ry ⟨i, j, e1, e2, by simpa [subIn] using q⟩) op_in_seq
theorem op_notInV : OpR X (compareOp .NotIn) (rInV X.K true) := OpR.or (fun pins s σ H x y v u Q I rx ry ⟨i, j, e1, e2, q⟩ => L2.op_notIn_str pins s σ H x y v u Q I rx ry ⟨i, j, e1, e2, by simpa [subIn] using q⟩) op_notIn_seq
theorem g_in {n : Bool} : OpV G K (rInV K n) .sh (pIn n) := by
  intro F H x y p q z Q s rx ry hz k
  unfold pIn at hz
  split at hz
  · obtain rfl := rx.str_inv
    obtain rfl := ry.str_inv
    cases hz
    exact .inl ⟨_, _, rfl, rfl, k _ F H (Ext.refl s) (.bl _)⟩
  · split at hz
    · rename_i ps hi
      split at hz
      · rename_i hf
        rw [Bool.and_eq_true] at hf
        cases hz
        obtain ⟨a, vs, rfl, hS, r⟩ := ry.items s hi
        have rx' : Rep G K F x p := by
          rcases rx with rx | ⟨_, _, _, o⟩
          · exact rx
          · have h := hf.1
            cases p <;> first | exact o.elim | (simp [PV.flat] at h)
        refine .inr ⟨a, vs, rfl, hS, rx'.flat hf.1, r.flat hf.2, ?_⟩
        have e : (if n = true then !inV x vs else inV x vs) = (n ^^ inP p ps) := by
          rw [r.inP rx' hf.1 hf.2]
          cases n <;> simp
        rw [e]
        exact k _ F H (Ext.refl s) (.bl _)
      · cases hz
    · cases hz
end
end Lp
end
section
set_option Elab.async false
set_option linter.all false
set_option maxRecDepth 100000
/-! enumerate(tuple) -/
namespace PySem
open Sem (wp)
open AutoSeq1 (wpAny_loadPart')
theorem meets_enumerate_newT (l : Addr) (items : Array Value) (n : Nat) (dct : Option Addr) (sl : Array (Option Value)) :
    Meets (Builtin.«enumerate.__new__» ⟨[.type "enumerate", .ref l], []⟩) (fun _ R s => s.heap.get? l = some { cls := .type "tuple", dict := dct, data := .seq items n, slots := sl } ∧
      R (.ok (.ret (.ref (s.heap.push { cls := .type "tuple_iterator", data := .fields #[.ref l, .int 0 0] }).objs.size)))
        { s with heap := (s.heap.push { cls := .type "tuple_iterator", data := .fields #[.ref l, .int 0 0] }).push { cls := .type "enumerate", data := .fields #[.none, .bool false, .ref s.heap.objs.size, rawInt 0, .none, .none] } }) :=
  .of_wp fun prog w A R s h => by
    obtain ⟨hp, g, d, tk, os⟩ := s; obtain ⟨hl, h⟩ := h
    have hsub := sub_enumerate
    have hL : Heap.IsTuple (Shared.heap ⟨hp, g, d, tk, os⟩) l items := ⟨_, hl, rfl, n, rfl⟩
    wp_walk using wpAny_loadPart' hl
    refine wpAny_stack_any fun st => wpAny_pure ?_
    split
    · rename_i c _ _ _ _ _
      cases (c == Value.type "enumerate")
      · wp_walk using wpAny_loadPart' hl, wpAny_pyIter_tuple hL
        exact ⟨_, rfl, h⟩
      · wp_walk using wpAny_loadPart' hl, wpAny_pyIter_tuple hL
        exact ⟨_, rfl, h⟩
    · wp_walk using wpAny_loadPart' hl, wpAny_pyIter_tuple hL
      exact ⟨_, rfl, h⟩
theorem call_enumerate_tup {prog : Program} {w : World} {A : Around} {E : Value → Shared → Prop} {s : Shared} {l : Addr} {items : Array Value} {Q : Value → Shared → Prop} (hL : s.heap.IsTuple l items)
    (h : ∀ h', IsEnum h' (s.heap.objs.size + 1) s.heap.objs.size 0 .none → h'.IsTupleIter s.heap.objs.size l 0 → h'.objs.size = s.heap.objs.size + 2 →
      (∀ b o, s.heap.get? b = some o → h'.get? b = some o) → Q (.ref (s.heap.objs.size + 1)) { s with heap := h' }) :
    wpAny (model prog w) A (call (.type "enumerate") [.ref l]) Q E s := by
  obtain ⟨⟨c, dct, dt, sl⟩, hl, hc, n, hd⟩ := hL
  replace hc : c = .type "tuple" := hc
  replace hd : dt = .seq items n := hd
  subst hc hd
  refine callType_new F.called_enumerate (by decide) (F.typeCall_enumerate_1 _) (F.newCall_enumerate_1 _) (fun obj => F.args_object_init_2 obj _) F.entry_enumerate_new
    (meets_enumerate_newT l items n dct sl) ⟨hl, ?_⟩
  have hz : (s.heap.push { cls := .type "tuple_iterator", data := .fields #[.ref l, .int 0 0] }).objs.size = s.heap.objs.size + 1 := Heap.size_push ..
  show _ ∧ _
  rw [hz]
  have he : IsEnum ((s.heap.push { cls := .type "tuple_iterator", data := .fields #[.ref l, .int 0 0] }).push
      { cls := .type "enumerate", data := .fields #[.none, .bool false, .ref s.heap.objs.size, rawInt 0, .none, .none] }) (s.heap.objs.size + 1) s.heap.objs.size 0 .none := by
    have := Heap.get?_push_size (s.heap.push { cls := .type "tuple_iterator", data := .fields #[.ref l, .int 0 0] })
      (o := { cls := .type "enumerate", data := .fields #[.none, .bool false, .ref s.heap.objs.size, rawInt 0, .none, .none] }) rfl
    rw [hz] at this; exact this
  refine ⟨⟨_, he, rfl⟩, h _ he ⟨_, Heap.get?_push_of_some _ (Heap.get?_push_size _ rfl), rfl, rfl⟩ (by rw [Heap.size_push, hz]) fun b o x => Heap.get?_push_of_some _ (Heap.get?_push_of_some _ x)⟩
end PySem
namespace L2
open PySem PySem.Spec PyProof.Rows
/-- the tuple at a, each item in a new pair -/
def IteT (K : PySem.W.Frag) (a : Addr) : It :=
  ⟨fun i H => ∃ (xs : List V) (x : V), SqT K H a xs ∧ xs[i]? = some x, fun i H v H' => ∃ T x, v = .ref T ∧ H T = none ∧ H' = upd H T (.tup [.int (i : Nat), x]) ∧ ∀ xs, SqT K H a xs → xs[i]? = some x, fun i H => ∃ xs : List V, SqT K H a xs ∧ xs.length ≤ i⟩
theorem turn_enumT {P : Program} {w : World} {K : PySem.W.Frag} {elts : List Expr} {kk : Nat} {tpos : Pos} (a e it : Addr) (hai : a ≠ it) (hae : a ≠ e) :
    Turn P w K (.Tuple elts kk tpos) (IteT K a) [e, it] e (fun i h => (∃ old, IsEnum h e it ((i : Nat) : Int) old) ∧ h.IsTupleIter it a i ∧ e ≠ it) where
  mem := by simp
  obj := fun i h st b hb => by
    obtain ⟨⟨old, he⟩, ⟨o, ho, hc, hd⟩, _⟩ := st
    have e' : b = e ∨ b = it := by simpa using hb
    rcases e' with z | z
    · rw [z]; exact ⟨_, he, fun v q => nomatch q⟩
    · rw [z]; exact ⟨o, ho, fun v q => by rw [hd] at q; cases q⟩
  keep := fun i h h' st k => let ⟨⟨old, he⟩, hi, hne⟩ := st; ⟨⟨old, k e (by simp) _ he⟩, hi.at fun o q => k it (by simp) o q, hne⟩
  item := by
    intro X hP hw hK hc i pins s σ H E I hf st hg
    subst hP hw hK
    obtain ⟨⟨old, he⟩, hit, hne⟩ := st
    obtain ⟨xs, x, hq, hx⟩ := hg
    obtain ⟨its, rv, p, hz⟩ := I.tuple hq
    obtain ⟨u, hu, ru⟩ := rv.get hx
    have hel : e < s.heap.objs.size := Heap.lt_size he
    have hil : it < s.heap.objs.size := by obtain ⟨_, q, _⟩ := hit; exact Heap.lt_size q
    have hlt : i < its.toArray.size := by
      have := (List.getElem?_eq_some_iff.mp hu).1
      simpa using this
    have D : Draws X.prog X.w X.A.in1 it [it, a] its.toArray.size (fun i v => its.toArray[i]? = some v) (fun i h => h.IsTupleIter it a i ∧ h.IsTuple a its.toArray) := Draws.tuple (A := X.A.in1) (show X.A.in1.handled = none from I.ok.hd hc) it a hai its.toArray
    refine wpAny_pyNext_enum_itemD D he ⟨hit, p⟩ hlt hne (by simp [hne, Ne.symm hae]) fun x' h' tk hx' ho st' hT hsz hk => ?_
    obtain ⟨hit', _⟩ := st'
    have ex : x' = u := by
      have h1 : its.toArray[i]? = some x' := hx'
      have h2 : its.toArray[i]? = some u := by simpa using hu
      exact Option.some.inj (h1.symm.trans h2)
    subst ex
    refine ⟨_, rfl, wpAny_letOwnedTupleGo_enum (s := { s with heap := h', toks := tk + 1 }) ho fun h'' he' sb => ?_⟩
    have hT2 : h''.get? s.heap.objs.size = some { cls := .type "tuple", data := .seq #[.int i tk, x'] } := (sb.2 _ (Nat.ne_of_gt hel)).trans hT
    have new : ObjOk X.prog X.w (upd H s.heap.objs.size (.tup [.int (i : Nat), x])) h'' s.heap.objs.size (.tup [.int (i : Nat), x]) :=
      ⟨by show 2 ≤ sizeLine; decide, [.int i tk, x'], .cons ⟨_, rfl⟩ (.cons ru .nil), ⟨_, hT2, rfl, _, rfl⟩⟩
    have I1 : Inv X pins σ (upd H s.heap.objs.size (.tup [.int (i : Nat), x])) { s with heap := h'', toks := tk + 1 } :=
      I.turnedNew (ch := [e, it]) (fun b ob hb q => (sb.2 b (fun z => hb (by simp [z]))).trans (hk b ob (fun z => hb (by simp [z])) (fun z => hb (by simp [z])) q)) hf (Nat.le_refl _) new
    refine ⟨.ref s.heap.objs.size, _, I1, rfl, ⟨_, x, rfl, I.hok.fresh (Nat.le_refl _), rfl, fun ys hy => by rw [I.tuple_inj hy hq]; exact hx⟩, ⟨⟨x', ?_⟩, hit'.at fun o q => (sb.2 it (Ne.symm hne)).trans q, hne⟩, fun b hb => ?_⟩
    · have e1 : ((i + 1 : Nat) : Int) = (i : Int) + 1 := by omega
      rw [e1]; exact he'
    · have hb' : b < s.heap.objs.size := by
        have e' : b = e ∨ b = it := by simpa using hb
        rcases e' with z | z
        · rw [z]; exact hel
        · rw [z]; exact hil
      rw [upd_ne (Nat.ne_of_lt hb')]
      exact (hf b hb).1
  done := by
    intro X hP hw hK hc i pins s σ H E I hf st hg
    subst hP hw hK
    obtain ⟨⟨old, he⟩, hit, hne⟩ := st
    obtain ⟨xs, hq, hx⟩ := hg
    obtain ⟨its, rv, p, hz⟩ := I.tuple hq
    obtain ⟨f0, f1, f2, f3, f4, f5⟩ := hf it (by simp)
    have hl := rv.length
    have hT : s.TypeIs (.ref e) "enumerate" := ⟨_, he, rfl⟩
    unfold pyNext
    refine wpAny_bind (wpAny_attempt (wpAny_callSpecial?_slot (name := Str.ofString "__next__") hT F.slot_enumerate_next
      (wpAny_call_entry F.slot_enumerate_next hT F.entry_enumerate_next ?_ (F.args_enumerate_next_1 _))))
    show wpAny _ _ (field (.ref e) 2 >>= _) _ _ _
    refine wpAny_bind (wpAny_field he rfl (x := .ref it) rfl ?_)
    refine wpAny_bind (wpAny_nextOf_tuple_end (I.ok.hd hc) hit p (by simp; omega) fun h' e he' hx' => ?_)
    obtain ⟨o, ho, hc'⟩ := hx'
    refine wpAny_bind (wpAny_isInstance (T := "StopIteration") (b := true) ⟨o, ho, hc'⟩ isSubtype_stop ?_)
    exact wpAny_pure ⟨rfl, I.turned (t' := s.toks) (fun b o hb q => he' b o hb q) f0 f1 f3 f4 f5⟩
  self := fun A i s Q E st h => let ⟨⟨_, he⟩, _⟩ := st; wpAny_pyIter_enum he h
def iEnumT (K : PySem.W.Frag) (ta : TA) : TI := fun σ H R => ta σ H fun vs H1 => ∃ a xs, vs = [.ref a] ∧ ((SqL K H1 a xs ∧ R (Ite K a) H1) ∨ (SqT K H1 a xs ∧ R (IteT K a) H1))
theorem pi_enumT {X : Cx} {e : Expr} {ta : TA} {p pos tpos : Pos} {elts : List Expr} {kk : Nat} (hg : Gl X "enumerate") (hm : X.mg "enumerate" = none) (ha : PA X [e] ta) (hs : starEach [e] X.env = [(false, eval e X.env)] := by rfl) :
    PI X (.Tuple elts kk tpos) (.Call (.Name "enumerate" p) [e] [] pos) (iEnumT X.K ta) := by
  refine ⟨fun pins s σ H R I h => ?_⟩
  refine Call_ (ld_blt I hg hm boot_enumerate (PyProof.Rows.callWith_type1 (thn (ha.run pos pins s σ H _ I h) fun us s1 ⟨vs, H1, I1, r1, q1⟩ => ?_) hs rfl))
  obtain ⟨a, xs, ex, q⟩ := q1
  subst ex
  cases r1 with
  | cons r rr =>
    cases rr
    cases r
    have fin : ∀ b ∈ [s1.heap.objs.size + 1, s1.heap.objs.size], FpOk X pins H1 b := fun b hb => by
      have e' : b = s1.heap.objs.size + 1 ∨ b = s1.heap.objs.size := by simpa using hb
      have hle : s1.heap.objs.size ≤ b := by
        rcases e' with z | z
        · rw [z]; exact Nat.le_add_right _ _
        · rw [z]; exact Nat.le_refl _
      exact I1.fpOk hle (I1.hok.fresh hle)
    rcases q with ⟨hq, q⟩ | ⟨hq, q⟩
    · obtain ⟨its, rv, p', hz⟩ := I1.list hq
      refine call_enumerate_list p'.isList fun h' he hit hsz hk => wpAny_pyIter_enum he ?_
      have I2 : Inv X pins σ H1 { s1 with heap := h' } := I1.kept (t' := s1.toks) hk
      exact ⟨s1.heap.objs.size + 1, [s1.heap.objs.size + 1, s1.heap.objs.size], _, _, H1, rfl, I2, turn_enum a (s1.heap.objs.size + 1) s1.heap.objs.size, ⟨⟨.none, he⟩, hit, Nat.succ_ne_self _⟩, fin, q⟩
    · obtain ⟨its, rv, p', hz⟩ := I1.tuple hq
      have hlt : a < s1.heap.objs.size := by obtain ⟨o, ho, _⟩ := p'; exact Heap.lt_size ho
      refine call_enumerate_tup p' fun h' he hit hsz hk => wpAny_pyIter_enum he ?_
      have I2 : Inv X pins σ H1 { s1 with heap := h' } := I1.kept (t' := s1.toks) hk
      exact ⟨s1.heap.objs.size + 1, [s1.heap.objs.size + 1, s1.heap.objs.size], _, _, H1, rfl, I2, turn_enumT a (s1.heap.objs.size + 1) s1.heap.objs.size (Nat.ne_of_lt hlt) (Nat.ne_of_lt (Nat.lt_succ_of_lt hlt)), ⟨⟨.none, he⟩, hit, Nat.succ_ne_self _⟩, fin, q⟩
end L2
end
section
set_option Elab.async false
set_option linter.all false
set_option maxRecDepth 100000
namespace L2
open PySem PySem.Spec PyProof.Rows
/-- a list, a tuple, a text walked -/
def iAny (K : PySem.W.Frag) (te : TE) : TI := fun σ H R => te σ H fun x H1 =>
  (∃ a xs, x = .ref a ∧ SqL K H1 a xs ∧ (xs.length ≤ sizeLine → R (Itl K a) H1)) ∨ (∃ a xs, x = .ref a ∧ SqT K H1 a xs ∧ (xs.length ≤ sizeLine → R (Itt K a) H1)) ∨ (∃ z, x = .str z ∧ R (Its z) H1)
theorem pi_any {X : Cx} {tg l : Expr} {tl : TE} (hl : PE X l tl) : PI X tg l (iAny X.K tl) := by
  refine ⟨fun pins s σ H R I h => ?_⟩
  refine thn (hl.run pins s σ H _ I h) fun v s1 ⟨x, H1, I1, r1, q1⟩ => ?_
  have fin : ∀ b ∈ [s1.heap.objs.size], FpOk X pins H1 b := fun b hb => by
    have e : b = s1.heap.objs.size := by simpa using hb
    subst e
    exact I1.fpOk (Nat.le_refl _) (I1.hok.fresh (Nat.le_refl _))
  rcases q1 with ⟨a, xs, e, hq, q⟩ | ⟨a, xs, e, hq, q⟩ | ⟨z, e, q⟩
  · subst e
    cases r1
    obtain ⟨its, rv, p, hz⟩ := I1.list hq
    refine wpAny_pyIter_list p.isList ?_
    exact ⟨s1.heap.objs.size, [s1.heap.objs.size], _, _, H1, rfl, I1.kept (t' := s1.toks) fun b o e => Heap.get?_push_of_some _ e, turn_list a _, ⟨_, Heap.get?_push_size _ rfl, rfl, rfl⟩, fin, q hz⟩
  · subst e
    cases r1
    obtain ⟨its, rv, p, hz⟩ := I1.tuple hq
    refine wpAny_pyIter_tuple (show s1.heap.IsTuple a its.toArray from p) ?_
    exact ⟨s1.heap.objs.size, [s1.heap.objs.size], _, _, H1, rfl, I1.kept (t' := s1.toks) fun b o e => Heap.get?_push_of_some _ e, turn_tuple a _, ⟨_, Heap.get?_push_size _ rfl, rfl, rfl⟩, fin, q hz⟩
  · subst e
    obtain ⟨t, rfl⟩ := r1
    cases ha : z.cps.all (· < 128)
    · exact wpAny_pyIter_wide ha (pi_one (tk := s1.toks) I1 _ (turn_str _ z t "str_iterator" (.inr rfl)) ⟨_, Heap.get?_push_size _ rfl, rfl, rfl⟩ q)
    · exact wpAny_pyIter_ascii ha (pi_one (tk := s1.toks) I1 _ (turn_str _ z t "str_ascii_iterator" (.inl rfl)) ⟨_, Heap.get?_push_size _ rfl, rfl, rfl⟩ q)
end L2
namespace Lp
open PySem PySem.Spec L2

/-! ### calls of built-ins -/
def eCall (g : List PV → Option PV) (f : LE → Res (List PV)) : LE → Res PV := fun τ => f τ >>= fun ps => up (g ps)
section
variable (G : GW) (K : PySem.W.Frag)
inductive Tops (F H : Hp) : List V → List PV → Prop
  | nil : Tops F H [] []
  | cons {v : V} {vs : List V} {p : PV} {ps : List PV} : Top G K F H v p → Tops F H vs ps → Tops F H (v :: vs) (p :: ps)
def CalV (r : List V → Hp → VK → Prop) (m : Mode) (g : List PV → Option PV) : Prop := ∀ (F H : Hp) (xs : List V) (ps : List PV) (z : PV) (Q : VK), Same F H → Tops G K F H xs ps → g ps = some z →
  (∀ v F' H', Ext F H F' H' → RM G K m H F' H' v z → Q v H') → r xs H Q
end
section
variable {G : GW} {K : PySem.W.Frag} {F H F' H' F0 H0 : Hp} {X : Cx} {v x y : V} {p : PV} {κ : Kd} {E : St → XK} {m md : Mode} {e a b : Expr} {es : List Expr} {pos : Pos}
theorem RMs.tops : ∀ {vs : List V} {ps : List PV}, RMs G K md H0 F H vs ps → Tops G K F H vs ps
  | _, _, .nil => .nil
  | _, _, .cons r rs => .cons r.top (RMs.tops rs)
theorem Tops.one {q : PV} {xs : List V} (h : Tops G K F H xs [q]) : ∃ v, xs = [v] ∧ Top G K F H v q := by
  cases h with
  | cons r rs => cases rs; exact ⟨_, rfl, r⟩
theorem Tops.two {q q' : PV} {xs : List V} (h : Tops G K F H xs [q, q']) : ∃ v w, xs = [v, w] ∧ Top G K F H v q ∧ Top G K F H w q' := by
  cases h with
  | cons r rs =>
    cases rs with
    | cons r' rs => cases rs; exact ⟨_, _, rfl, r, r'⟩
theorem w_call {r : List V → Hp → VK → Prop} {g : List PV → Option PV} {f : LE → Res (List PV)} (hg : CalV G K r m g) {σ : St} {H : Hp} {Q : VK} (h : tE G K m E κ (eCall g f) σ H Q) : tA G K md E κ f σ H fun vs H1 => r vs H1 Q := by
  obtain ⟨F, τ, l, q⟩ := h
  refine ⟨F, τ, l, ?_⟩
  unfold eCall at q
  cases hf : f τ with
  | exc c ps => rw [hf] at q; exact q
  | bad => rw [hf] at q; exact q
  | ok ps =>
    rw [hf, Res.ok_bind] at q
    intro vs F1 H1 e1 r1
    cases hz : g ps with
    | none => rw [hz] at q; exact q.elim
    | some z =>
      rw [hz] at q
      exact hg F1 H1 vs ps z Q e1.sub r1.tops hz fun w F3 H3 e3 r3 => q w F3 H3 (e1.trans e3) (r3.before e1.h)
variable {g : List PV → Option PV} {f : LE → Res (List PV)} {r : List V → Hp → VK → Prop} {id T : String} {x' : Str} {p' : Pos}
theorem v_callB (hc : CallR X (.builtin id) r) (hg' : CalV G K r m g) (hm : X.mg x' = none) (hv : bootBuiltins x' = some (.builtin id)) (ha : PA X (e :: es) (tA G K md E κ f)) (hg : Gl X x' := by rfl) (hn : x' ≠ "__name__" := by decide) (hdb : (x' == ("__debug__" : Str)) = false := by decide)
    (he : starEach (e :: es) X.env = (false, eval e X.env) :: starEach es X.env := by rfl) (hpl : (backTo pos (starEach es X.env)).any (·.1) = false := by rfl) : PE X (.Call (.Name x' p') (e :: es) [] pos) (tE G K m E κ (eCall g f)) :=
  pe_weak (pe_callB hc hg hm hv ha hn hdb he hpl) fun _ _ _ h => w_call hg' h
theorem v_callTy (hc : CallR X (.type T) r) (hg' : CalV G K r m g) (hm : X.mg x' = none) (hv : bootBuiltins x' = some (.type T)) (ha : PA X (e :: es) (tA G K md E κ f)) (hg : Gl X x' := by rfl) (hn : x' ≠ "__name__" := by decide) (hdb : (x' == ("__debug__" : Str)) = false := by decide)
    (he : starEach (e :: es) X.env = (false, eval e X.env) :: starEach es X.env := by rfl) (hpl : (backTo pos (starEach es X.env)).any (·.1) = false := by rfl) : PE X (.Call (.Name x' p') (e :: es) [] pos) (tE G K m E κ (eCall g f)) :=
  pe_weak (pe_callTy hc hg hm hv ha hn hdb he hpl) fun _ _ _ h => w_call hg' h
/-! len -/
def pLen : List PV → Option PV
  | [.lst xs] => some (.int xs.length)
  | [.tup xs] => some (.int xs.length)
  | [.scr xs] => some (.int xs.length)
  | [.str z] => if z.length ≤ sizeLine then some (.int z.length) else none
  | [.dK kvs] => some (.int kvs.length)
  | _ => none
def rLenV (K : PySem.W.Frag) : List V → Hp → VK → Prop := fun xs H Q => (∃ x n, xs = [x] ∧ LenV K x H n ∧ Q (.int n) H) ∨ ∃ a kvs, xs = [.ref a] ∧ H a = some (.dK kvs) ∧ Q (.int kvs.length) H
theorem call_lenV : CallR X (.builtin "len") (rLenV X.K) := call_len.or fun pins s σ H xs us Q I r ⟨a, kvs, e, h, q⟩ => call_lenD pins s σ H xs us Q I r ⟨a, kvs, e, h, q⟩
theorem g_len : CalV G K (rLenV K) .sh pLen := by
  intro F H xs ps z Q s r hz k
  have kk : ∀ n : Nat, z = .int n → Q (.int n) H := fun n e => by subst e; exact k _ F H (Ext.refl s) (.int _)
  unfold pLen at hz
  split at hz
  · obtain ⟨v, rfl, rv⟩ := r.one
    obtain ⟨a, vs, rfl, h, rr⟩ := rv.lst_inv s
    exact .inl ⟨_, vs.length, rfl, .inl ⟨vs, .inl h, rfl⟩, kk _ (by rw [rr.length]; cases hz; rfl)⟩
  · obtain ⟨v, rfl, rv⟩ := r.one
    obtain ⟨a, vs, rfl, h, rr⟩ := rv.tup_inv s
    exact .inl ⟨_, vs.length, rfl, .inr ⟨vs, h, rfl⟩, kk _ (by rw [rr.length]; cases hz; rfl)⟩
  · obtain ⟨v, rfl, rv⟩ := r.one
    obtain ⟨a, rfl, h⟩ := rv.scr_inv s
    exact .inl ⟨_, _, rfl, .inl ⟨_, h, rfl⟩, kk _ (by rw [List.length_map]; cases hz; rfl)⟩
  · obtain ⟨v, rfl, rv⟩ := r.one
    obtain rfl := rv.str_inv
    split at hz
    · rename_i hl
      exact .inl ⟨_, _, rfl, ⟨hl, rfl⟩, kk _ (by cases hz; rfl)⟩
    · cases hz
  · obtain ⟨v, rfl, rv⟩ := r.one
    obtain ⟨a, vs, rfl, h, rr⟩ := rv.dK_inv s
    exact .inr ⟨_, vs, rfl, h, kk _ (by rw [rr.length]; cases hz; rfl)⟩
  · cases hz
/-! int, abs, min, max of ints, str of an int -/
def pInt : List PV → Option PV
  | [.int i] => some (.int i)
  | [.bl k] => some (.int (if k then 1 else 0))
  | _ => none
theorem g_int : CalV G K (fun xs H Q => (∃ i, xs = [.int i] ∧ Q (.int i) H) ∨ ∃ k, xs = [.bl k] ∧ Q (.int (if k then 1 else 0)) H) .sh pInt := by
  intro F H xs ps z Q s r hz k
  unfold pInt at hz
  split at hz
  · obtain ⟨v, rfl, rv⟩ := r.one
    obtain rfl := rv.int_inv
    cases hz
    exact .inl ⟨_, rfl, k _ F H (Ext.refl s) (.int _)⟩
  · obtain ⟨v, rfl, rv⟩ := r.one
    obtain rfl := rv.bl_inv
    cases hz
    exact .inr ⟨_, rfl, k _ F H (Ext.refl s) (.int _)⟩
  · cases hz
def pAbs : List PV → Option PV
  | [.int i] => some (.int (if i < 0 then -i else i))
  | _ => none
theorem g_abs : CalV G K (fun xs H Q => ∃ i, xs = [.int i] ∧ Q (.int (if i < 0 then -i else i)) H) .sh pAbs := by
  intro F H xs ps z Q s r hz k
  unfold pAbs at hz
  split at hz
  · obtain ⟨v, rfl, rv⟩ := r.one
    obtain rfl := rv.int_inv
    cases hz
    exact ⟨_, rfl, k _ F H (Ext.refl s) (.int _)⟩
  · cases hz
def pI2 (g : Int → Int → Int) : List PV → Option PV
  | [.int i, .int j] => some (.int (g i j))
  | _ => none
theorem g_I2 {g : Int → Int → Int} : CalV G K (fun xs H Q => ∃ i j, xs = [.int i, .int j] ∧ Q (.int (g i j)) H) .sh (pI2 g) := by
  intro F H xs ps z Q s r hz k
  unfold pI2 at hz
  split at hz
  · obtain ⟨v, w, rfl, rv, rw⟩ := r.two
    obtain rfl := rv.int_inv
    obtain rfl := rw.int_inv
    cases hz
    exact ⟨_, _, rfl, k _ F H (Ext.refl s) (.int _)⟩
  · cases hz
abbrev pMax := pI2 fun i j => if j > i then j else i
abbrev pMin := pI2 fun i j => if j < i then j else i
def pStrI : List PV → Option PV
  | [.int i] => if i.natAbs.log2 < 1920 then some (.str (toString i)) else none
  | _ => none
theorem g_strI : CalV G K (fun xs H Q => ∃ i, xs = [.int i] ∧ i.natAbs.log2 < 1920 ∧ Q (.str (toString i)) H) .sh pStrI := by
  intro F H xs ps z Q s r hz k
  unfold pStrI at hz
  split at hz
  · obtain ⟨v, rfl, rv⟩ := r.one
    obtain rfl := rv.int_inv
    split at hz
    · rename_i h
      cases hz
      exact ⟨_, rfl, h, k _ F H (Ext.refl s) (.str _)⟩
    · cases hz
  · cases hz
/-! list(x), tuple(x) -/
def pList : List PV → Option PV
  | [.lst xs] => some (.lst xs)
  | [.tup xs] => some (.lst xs)
  | _ => none
theorem g_list : CalV G K (fun xs H Q => ∃ p ys, xs = [.ref p] ∧ (SqL K H p ys ∨ SqT K H p ys) ∧ ∀ l, H l = none → Q (.ref l) (upd H l (.lst ys))) .fr pList := by
  intro F H xs ps z Q s r hz k
  unfold pList at hz
  split at hz
  · obtain ⟨v, rfl, rv⟩ := r.one
    obtain ⟨a, vs, rfl, h, rr⟩ := rv.lst_inv s
    cases hz
    exact ⟨a, vs, rfl, .inl (.inl h), fun l nl => let ⟨e, f⟩ := frs_new s nl rr; k _ _ _ e f⟩
  · obtain ⟨v, rfl, rv⟩ := r.one
    obtain ⟨a, vs, rfl, h, rr⟩ := rv.tup_inv s
    cases hz
    exact ⟨a, vs, rfl, .inr h, fun l nl => let ⟨e, f⟩ := frs_new s nl rr; k _ _ _ e f⟩
  · cases hz
def pTuple : List PV → Option PV
  | [.lst xs] => some (.tup xs)
  | [.tup xs] => some (.tup xs)
  | _ => none
theorem rep_tup {ws : List V} {qs : List PV} {l : Addr} {o : Obj} (s : Same F H) (nl : H l = none) (ko : KO o) (rr : Reps G K F ws qs) : Ext F H (upd F l (.frz o (.tup ws))) (upd H l (.frz o (.tup ws))) ∧ Rep G K (upd F l (.frz o (.tup ws))) (.ref l) (.tup qs) :=
  ⟨Ext.push _ (Ext.refl s) nl, .tup (.inl ⟨o, upd_same, ko⟩) (Reps.mono (same_new (Same.free s nl)) rr)⟩
theorem g_tuple : CalV G K (fun xs H Q => ∃ p ys, xs = [.ref p] ∧ ((SqL K H p ys ∧ ∀ l o, H l = none → KO o → Q (.ref l) (upd H l (.frz o (.tup ys)))) ∨ (SqT K H p ys ∧ Q (.ref p) H))) .sh pTuple := by
  intro F H xs ps z Q s r hz k
  unfold pTuple at hz
  split at hz
  · obtain ⟨v, rfl, rv⟩ := r.one
    obtain ⟨a, vs, rfl, h, rr⟩ := rv.lst_inv s
    cases hz
    exact ⟨a, vs, rfl, .inl ⟨.inl h, fun l o nl ko => let ⟨e, f⟩ := rep_tup s nl ko rr; k _ _ _ e f⟩⟩
  · obtain ⟨v, rfl, rv⟩ := r.one
    rcases rv with rv | ⟨_, _, _, o⟩
    · obtain ⟨a, vs, rfl, h, rr⟩ := rv.tup_inv
      cases hz
      exact ⟨a, vs, rfl, .inr ⟨Same.sqt s h, k _ F H (Ext.refl s) rv⟩⟩
    · exact o.elim
  · cases hz
/-! all, any, sum -/
def blsOf : List PV → Option (List Bool)
  | [] => some []
  | .bl b :: xs => (blsOf xs).map (b :: ·)
  | _ => none
theorem Reps.bls : ∀ {vs : List V} {ps : List PV} {bs : List Bool}, Reps G K F vs ps → blsOf ps = some bs → vs = bs.map V.bl
  | _, _, _, .nil, h => by simp [blsOf] at h; subst h; rfl
  | _, _, _, .cons (p := p) (ps := ps) r rs, h => by
    cases p <;> simp only [blsOf] at h <;> try cases h
    cases hb : blsOf ps with
    | none => rw [hb] at h; cases h
    | some bs' =>
      rw [hb] at h
      cases h
      rw [Rep.bl_inv r, Reps.bls rs hb]
      rfl
def pAll : List PV → Option PV
  | [.lst xs] => (blsOf xs).map fun bs => .bl (bs.all _root_.id)
  | _ => none
def pAny : List PV → Option PV
  | [.lst xs] => (blsOf xs).map fun bs => .bl (bs.any _root_.id)
  | _ => none
theorem g_all : CalV G K (rAll K) .sh pAll := by
  intro F H xs ps z Q s r hz k
  unfold pAll at hz
  split at hz
  · obtain ⟨v, rfl, rv⟩ := r.one
    obtain ⟨a, vs, rfl, h, rr⟩ := rv.lst_inv s
    rename_i qs
    cases hb : blsOf qs with
    | none => rw [hb] at hz; cases hz
    | some bs =>
      rw [hb] at hz
      cases hz
      have e := rr.bls hb
      subst e
      exact ⟨a, bs, rfl, .inl h, k _ F H (Ext.refl s) (.bl _)⟩
  · cases hz
theorem g_any : CalV G K (rAny K) .sh pAny := by
  intro F H xs ps z Q s r hz k
  unfold pAny at hz
  split at hz
  · obtain ⟨v, rfl, rv⟩ := r.one
    obtain ⟨a, vs, rfl, h, rr⟩ := rv.lst_inv s
    rename_i qs
    cases hb : blsOf qs with
    | none => rw [hb] at hz; cases hz
    | some bs =>
      rw [hb] at hz
      cases hz
      have e := rr.bls hb
      subst e
      exact ⟨a, bs, rfl, .inl h, k _ F H (Ext.refl s) (.bl _)⟩
  · cases hz
def intsOf : List PV → Option (List Int)
  | [] => some []
  | .int b :: xs => (intsOf xs).map (b :: ·)
  | _ => none
theorem Reps.ints : ∀ {vs : List V} {ps : List PV} {bs : List Int}, Reps G K F vs ps → intsOf ps = some bs → vs = bs.map V.int
  | _, _, _, .nil, h => by simp [intsOf] at h; subst h; rfl
  | _, _, _, .cons (p := p) (ps := ps) r rs, h => by
    cases p <;> simp only [intsOf] at h <;> try cases h
    cases hb : intsOf ps with
    | none => rw [hb] at h; cases h
    | some bs' =>
      rw [hb] at h
      cases h
      rw [Rep.int_inv r, Reps.ints rs hb]
      rfl
def pSum : List PV → Option PV
  | [.lst xs] => (intsOf xs).map fun bs => .int bs.sum
  | _ => none
theorem g_sum : CalV G K (rSum K) .sh pSum := by
  intro F H xs ps z Q s r hz k
  unfold pSum at hz
  split at hz
  · obtain ⟨v, rfl, rv⟩ := r.one
    obtain ⟨a, vs, rfl, h, rr⟩ := rv.lst_inv s
    rename_i qs
    cases hb : intsOf qs with
    | none => rw [hb] at hz; cases hz
    | some bs =>
      rw [hb] at hz
      cases hz
      have e := rr.ints hb
      subst e
      exact ⟨a, bs, rfl, .inl h, k _ F H (Ext.refl s) (.int _)⟩
  · cases hz

/-! ### displays -/
def eTup (f : LE → Res (List PV)) : LE → Res PV := fun τ => f τ >>= fun ps => if ps.length ≤ 1000 then .ok (.tup ps) else .bad
def eLst (f : LE → Res (List PV)) : LE → Res PV := fun τ => f τ >>= fun ps => if ps.length ≤ 1000 then .ok (.lst ps) else .bad
theorem v_tup {x1} (h : PA X es (tA G K .sh E κ f)) : PE X (.Tuple es x1 pos) (tE G K .sh E κ (eTup f)) := pe_weak (Lk.pe_tupK h) fun σ H Q ⟨F, τ, l, q⟩ => by
  refine ⟨F, τ, l, ?_⟩
  unfold eTup at q
  cases hf : f τ with
  | exc c ps => rw [hf] at q; exact q
  | bad => rw [hf] at q; exact q
  | ok ps =>
    rw [hf, Res.ok_bind] at q
    intro vs F1 H1 e1 r1
    have r1' := r1.shared
    by_cases hl : ps.length ≤ 1000
    · rw [if_pos hl] at q
      refine ⟨by rw [r1'.length, sizeLine_eq]; omega, fun p o np ko => ?_⟩
      obtain ⟨e, rr⟩ := rep_tup e1.sub np ko r1'
      exact q _ _ _ (e1.trans e) rr
    · rw [if_neg hl] at q; exact q.elim
theorem v_lst (h : PA X es (tA G K .sh E κ f)) : PE X (.List es pos) (tE G K .fr E κ (eLst f)) := pe_weak (pe_lst h) fun σ H Q ⟨F, τ, l, q⟩ => by
  refine ⟨F, τ, l, ?_⟩
  unfold eLst at q
  cases hf : f τ with
  | exc c ps => rw [hf] at q; exact q
  | bad => rw [hf] at q; exact q
  | ok ps =>
    rw [hf, Res.ok_bind] at q
    intro vs F1 H1 e1 r1
    have r1' := r1.shared
    by_cases hl : ps.length ≤ 1000
    · rw [if_pos hl] at q
      refine ⟨by rw [r1'.length, sizeLine_eq]; omega, fun p np => ?_⟩
      obtain ⟨e, rr⟩ := frs_new e1.sub np r1'
      exact q _ _ _ (e1.trans e) (rr.before e1.h)
    · rw [if_neg hl] at q; exact q.elim

/-! ### places and slices -/
theorem Reps.atI {vs : List V} {ps : List PV} {i : Int} (r : Reps G K F vs ps) {p : PV} (h : L2.atI ps i = some p) : ∃ v, L2.atI vs i = some v ∧ Rep G K F v p := by
  unfold L2.atI at h ⊢
  rw [r.length]
  cases hj : ixN ps.length i with
  | none => rw [hj] at h; cases h
  | some j =>
    rw [hj] at h
    obtain ⟨v, e, rr⟩ := r.get (show ps[j]? = some p from h)
    exact ⟨v, e, rr⟩
def pIx : PV → PV → Option PV
  | .lst xs, .int i => atI xs i
  | .tup xs, .int i => atI xs i
  | .scr xs, .int i => (atI xs i).map .int
  | .str z, .int i => if z.length ≤ sizeLine then (atI z.cps.toList i).map fun c => .str ⟨#[c]⟩ else none
  | _, _ => none
theorem atI_map {α β : Type} (g : α → β) (xs : List α) (i : Int) : atI (xs.map g) i = (atI xs i).map g := by
  unfold atI
  rw [List.length_map]
  cases ixN xs.length i with
  | none => rfl
  | some j => simp
theorem g_ix : OpV G K (rIx K) .sh pIx := by
  intro F H x y p q z Q s rx ry hz k
  unfold pIx at hz
  split at hz
  · obtain ⟨a, vs, rfl, h, rr⟩ := rx.lst_inv s
    obtain rfl := ry.int_inv
    obtain ⟨v, e, r⟩ := rr.atI hz
    exact .inl ⟨a, vs, _, v, rfl, rfl, .inl h, e, k _ F H (Ext.refl s) r⟩
  · obtain ⟨a, vs, rfl, h, rr⟩ := rx.tup_inv s
    obtain rfl := ry.int_inv
    obtain ⟨v, e, r⟩ := rr.atI hz
    exact .inr (.inl ⟨a, vs, _, v, rfl, rfl, h, e, k _ F H (Ext.refl s) r⟩)
  · obtain ⟨a, rfl, h⟩ := rx.scr_inv s
    obtain rfl := ry.int_inv
    rename_i ns i
    cases hj : atI ns i with
    | none => rw [hj] at hz; cases hz
    | some n =>
      rw [hj] at hz
      cases hz
      exact .inl ⟨a, _, _, .int n, rfl, rfl, h, by rw [atI_map, hj]; rfl, k _ F H (Ext.refl s) (.int _)⟩
  · obtain rfl := rx.str_inv
    obtain rfl := ry.int_inv
    split at hz
    · rename_i zz i hl
      cases hj : atI zz.cps.toList i with
      | none => rw [hj] at hz; cases hz
      | some n =>
        rw [hj] at hz
        cases hz
        exact .inr (.inr ⟨_, _, n, rfl, rfl, hl, hj, k _ F H (Ext.refl s) (.str _)⟩)
    · cases hz
  · cases hz
variable {h1 h2 : LE → Res PV}
theorem v_ix (ha : PE X a (tE G X.K .top E κ h1)) (hb : PE X b (tE G X.K .top E κ h2)) (hs : PlainIx b := by intro _ _; rfl) : PE X (.Subscript a b pos) (tE G X.K .sh E κ (e2 pIx h1 h2)) :=
  pe_weak (pe_ix ix_seq ha hb hs) fun _ _ _ h => w_op g_ix h
/-- the bound of a slice -/
def tO (E : St → XK) (κ : Kd) (G : GW) (K : PySem.W.Frag) (f : LE → Res (Option Int)) : TO := fun σ H Q => ∃ F τ, Lc G K κ F H σ τ ∧ match f τ with
  | .ok o => ∀ F' H', Ext F H F' H' → Q o H'
  | .exc c ps => ExcOk G K (E σ) F H c ps
  | .bad => False
def oNone : LE → Res (Option Int) := fun _ => .ok none
def oSome (f : LE → Res PV) : LE → Res (Option Int) := fun τ => f τ >>= fun p => match p with
  | .int i => .ok (some i)
  | _ => .bad
theorem po_weak {e : Option Expr} {t t' : TO} (h : PO X e t) (w : ∀ σ H Q, t' σ H Q → t σ H Q) : PO X e t' := ⟨fun pins s σ H Q I q => h.run pins s σ H Q I (w σ H Q q)⟩
theorem o_none : PO X none (tO E κ G K oNone) := po_weak po_none fun σ H Q ⟨F, τ, l, q⟩ => q F H (Ext.refl l.sub)
theorem o_some (h : PE X e (tE G K .sh E κ h1)) : PO X (some e) (tO E κ G K (oSome h1)) := po_weak (po_some h) fun σ H Q ⟨F, τ, l, q⟩ => by
  refine ⟨F, τ, l, ?_⟩
  unfold oSome at q
  cases hf : h1 τ with
  | exc c ps => rw [hf] at q; exact q
  | bad => rw [hf] at q; exact q
  | ok p =>
    rw [hf, Res.ok_bind] at q
    intro v F1 H1 e1 r1
    cases p with
    | int i => exact ⟨i, Rep.int_inv r1, q F1 H1 e1⟩
    | _ => exact q.elim
def cut {α : Type} (xs : List α) (lo hi : Option Int) : List α := (xs.drop (HT.sIx xs.length 0 lo)).take (HT.sIx xs.length xs.length hi - HT.sIx xs.length 0 lo)
def pSl (p : PV) (lo hi : Option Int) : Option PV := match p with
  | .tup xs => some (.tup (cut xs lo hi))
  | .str z => if z.length ≤ sizeLine then some (.str (cutS z lo hi)) else none
  | _ => none
def pSlL (p : PV) (lo hi : Option Int) : Option PV := match p with
  | .lst xs => some (.lst (cut xs lo hi))
  | _ => none
def SlV (r : V → Option Int → Option Int → Hp → VK → Prop) (m : Mode) (G : GW) (K : PySem.W.Frag) (g : PV → Option Int → Option Int → Option PV) : Prop := ∀ (F H : Hp) (x : V) (p z : PV) (lo hi : Option Int) (Q : VK), Same F H → Top G K F H x p → g p lo hi = some z →
  (∀ v F' H', Ext F H F' H' → RM G K m H F' H' v z → Q v H') → r x lo hi H Q
theorem Reps.cut {vs : List V} {ps : List PV} (r : Reps G K F vs ps) (lo hi : Option Int) : Reps G K F (cutV vs lo hi) (Lp.cut ps lo hi) := by
  unfold cutV Lp.cut
  rw [r.length]
  exact Reps.take _ (Reps.drop _ r)
def rSlV (K : PySem.W.Frag) : V → Option Int → Option Int → Hp → VK → Prop := fun x lo hi H Q => Lk.rSlK K x lo hi H Q ∨ rSlS x lo hi H Q
theorem sl_V : SlR X (rSlV X.K) := SlR.or Lk.sl_tupK sl_str
theorem g_sl : SlV (rSlV K) .sh G K pSl := by
  intro F H x p z lo hi Q s rx hz k
  unfold pSl at hz
  split at hz
  · rcases rx with rx | ⟨_, _, _, o⟩
    · obtain ⟨a, vs, rfl, h, rr⟩ := rx.tup_invK
      cases hz
      refine .inl ⟨a, vs, rfl, Same.sqt s h.sqt, fun hw => k _ F H (Ext.refl s) ?_, fun _ p o np ko => ?_⟩
      · have e : cutV vs lo hi = vs := by
          unfold cutV
          rw [hw.1, hw.2, List.drop_zero, Nat.sub_zero, List.take_length]
        have r2 := rr.cut lo hi
        rw [e] at r2
        exact .tup h r2
      · obtain ⟨e, r⟩ := rep_tup s np ko (rr.cut lo hi)
        exact k _ _ _ e r
    · exact o.elim
  · obtain rfl := rx.str_inv
    split at hz
    · rename_i hl
      cases hz
      exact .inr ⟨_, rfl, hl, k _ F H (Ext.refl s) (.str _)⟩
    · cases hz
  · cases hz
theorem g_slL : SlV (rSlL K) .fr G K pSlL := by
  intro F H x p z lo hi Q s rx hz k
  unfold pSlL at hz
  split at hz
  · obtain ⟨a, vs, rfl, h, rr⟩ := rx.lst_inv s
    cases hz
    exact ⟨a, vs, rfl, .inl h, fun l nl => let ⟨e, f⟩ := frs_new s nl (rr.cut lo hi); k _ _ _ e f⟩
  · cases hz
def eSl (g : PV → Option Int → Option Int → Option PV) (f : LE → Res PV) (lo hi : LE → Res (Option Int)) : LE → Res PV := fun τ => f τ >>= fun p => lo τ >>= fun l => hi τ >>= fun h => up (g p l h)
theorem v_slice {r : V → Option Int → Option Int → Hp → VK → Prop} {g : PV → Option Int → Option Int → Option PV} {lo hi : Option Expr} {fl fh : LE → Res (Option Int)} {p2 : Pos} (hr : SlR X r) (hg : SlV r m G K g) (he : PE X e (tE G K .top E κ h1)) (hl : PO X lo (tO E κ G K fl)) (hh : PO X hi (tO E κ G K fh)) :
    PE X (.Subscript e (.Slice lo hi none p2) pos) (tE G K m E κ (eSl g h1 fl fh)) := pe_weak (pe_slice hr he hl hh) fun σ H Q ⟨F, τ, l, q⟩ => by
  refine ⟨F, τ, l, ?_⟩
  unfold eSl at q
  cases hf : h1 τ with
  | exc c ps => rw [hf] at q; exact q
  | bad => rw [hf] at q; exact q
  | ok p =>
    rw [hf] at q
    intro v F1 H1 e1 r1
    refine ⟨F1, τ, l.ext e1, ?_⟩
    cases hfl : fl τ with
    | exc c ps => rw [Res.ok_bind, hfl] at q; exact ExcOk.ext q e1
    | bad => rw [Res.ok_bind, hfl] at q; exact q
    | ok lo =>
      rw [Res.ok_bind, hfl] at q
      intro F2 H2 e2
      refine ⟨F2, τ, (l.ext e1).ext e2, ?_⟩
      cases hfh : fh τ with
      | exc c ps => rw [Res.ok_bind, hfh] at q; exact ExcOk.ext q (e1.trans e2)
      | bad => rw [Res.ok_bind, hfh] at q; exact q
      | ok hi =>
        rw [Res.ok_bind, hfh, Res.ok_bind] at q
        intro F3 H3 e3
        have ee := (e1.trans e2).trans e3
        cases hz : g p lo hi with
        | none => rw [hz] at q; exact q.elim
        | some z =>
          rw [hz] at q
          exact hg F3 H3 v p z lo hi Q e3.sub (Top.ext r1 (e2.trans e3)) hz fun w F4 H4 e4 r4 => q w F4 H4 (ee.trans e4) (r4.before ee.h)
end
end Lp
end
section
set_option Elab.async false
set_option linter.all false
set_option maxRecDepth 100000
namespace Lp
open PySem PySem.Spec L2

section
variable (G : GW) (K : PySem.W.Frag)
/-- what J yields, one by one: B is what the container leans on, F0 what the items lean on -/
structure Itp (J : It) (B F0 : Hp) (ps : List PV) : Prop where
  len : ps.length ≤ sizeLine
  go : ∀ i H, Same B H → i < ps.length → J.go i H
  stop : ∀ H, Same B H → J.stop ps.length H
  yld : ∀ i x H H' F p, Same B H → Same F0 F → Same F H → J.yld i H x H' → ps[i]? = some p → ∃ F2, Ext F H F2 H' ∧ Rep G K F2 x p
def tI (sh : Bool) (E : St → XK) (κ : Kd) (f : LE → Res (List PV)) : TI := fun σ H R => ∃ F τ, Lc G K κ F H σ τ ∧ match f τ with
  | .ok ps => ∀ J F' H', Ext F H F' H' → Itp G K J (if sh = true then F' else H') F' ps → R J H'
  | .exc c ps => ExcOk G K (E σ) F H c ps
  | .bad => False
/-- a target: the slots at ws may change -/
def tG (ws : List Nat) (E : St → XK) (κ : Kd) (g : PV → LE → Res LE) : TG := fun v σ H Q => ∃ F τ p, Lc G K κ F H σ τ ∧ Rep G K F v p ∧ match g p τ with
  | .ok τ' => ∀ σ', Lc G K κ F H σ' τ' → (∀ j, j ∉ ws → σ'[j]? = σ[j]?) → Q σ' H
  | .exc c ps => ExcOk G K (E σ) F H c ps
  | .bad => False
def tGs (ws : List Nat) (E : St → XK) (κ : Kd) (g : List PV → LE → Res LE) : TGs := fun vs σ H Q => ∃ F τ ps, Lc G K κ F H σ τ ∧ Reps G K F vs ps ∧ match g ps τ with
  | .ok τ' => ∀ σ', Lc G K κ F H σ' τ' → (∀ j, j ∉ ws → σ'[j]? = σ[j]?) → Q σ' H
  | .exc c ps => ExcOk G K (E σ) F H c ps
  | .bad => False
end
section
variable {G : GW} {K : PySem.W.Frag} {F H F' H' F0 H0 B : Hp} {X : Cx} {v x y : V} {p : PV} {κ : Kd} {E : St → XK} {m md : Mode} {e a b tg : Expr} {es : List Expr} {pos : Pos} {σ : St} {τ : LE}

/-! ### targets -/
theorem Lc.set {i : Nat} (l : Lc G K κ F H σ τ) (k : κ i = false) (hi : i < τ.length) (r : Rep G K F v p) : Lc G K κ F H (σ.set i (some v)) (τ.set i (some p)) := by
  refine ⟨l.sub, by rw [List.length_set, List.length_set]; exact l.len, fun j q h1 h2 => ?_, fun j q h1 h2 => ?_, fun j1 j2 q1 q2 a h1 h2 h3 h4 h5 h6 => ?_⟩
  · by_cases hj : i = j
    · subst hj
      rw [List.getElem?_set_self hi] at h1
      cases h1
      exact ⟨v, List.getElem?_set_self (by rw [l.len]; exact hi), r⟩
    · rw [List.getElem?_set_ne hj] at h1
      rw [List.getElem?_set_ne hj]
      exact l.sh j q h1 h2
  · have hj : i ≠ j := fun e => by subst e; rw [k] at h2; cases h2
    rw [List.getElem?_set_ne hj] at h1
    rw [List.getElem?_set_ne hj]
    exact l.ow j q h1 h2
  · have n1 : i ≠ j1 := fun e => by subst e; rw [k] at h1; cases h1
    have n2 : i ≠ j2 := fun e => by subst e; rw [k] at h2; cases h2
    rw [List.getElem?_set_ne n1] at h3 h5
    rw [List.getElem?_set_ne n2] at h4 h6
    exact l.ap j1 j2 q1 q2 a h1 h2 h3 h4 h5 h6
def gNm (i : Nat) : PV → LE → Res LE := fun p τ => if i < τ.length then .ok (τ.set i (some p)) else .bad
theorem gv_name (i : Nat) {x : Str} (k : κ i = false := by rfl) (hN : X.N.Nodup) (hi : X.N[i]? = some x := by rfl) (hx : Loc X.env.scope x := by first | exact .inl rfl | exact .inr rfl) (hf : X.fn x = true ∨ X.env.scope.names.lookup x = some .local := by first | exact .inl rfl | exact .inr rfl | assumption) :
    PG X (.Name x pos) (tG G K [i] E κ (gNm i)) := ⟨fun pins s σ H v u Q I r h => by
  refine (pg_name hN hi hx hf).run pins s σ H v u Q I r ?_
  obtain ⟨F, τ, p, l, rp, q⟩ := h
  unfold gNm at q
  by_cases hl : i < τ.length
  · rw [if_pos hl] at q
    exact q _ (l.set k hl rp) fun j hj => List.getElem?_set_ne fun e => hj (by simp [e])
  · rw [if_neg hl] at q; exact q.elim⟩
def gsN : List PV → LE → Res LE := fun ps τ => match ps with
  | [] => .ok τ
  | _ => .bad
def gsC (g : PV → LE → Res LE) (gs : List PV → LE → Res LE) : List PV → LE → Res LE := fun ps τ => match ps with
  | [] => .bad
  | p :: ps => g p τ >>= fun τ' => gs ps τ'
theorem gvs_nil : PGs X [] (tGs G K [] E κ gsN) := ⟨fun pins s σ H vs us Q I r h => by
  refine pgs_nil.run pins s σ H vs us Q I r ?_
  obtain ⟨F, τ, ps, l, rp, q⟩ := h
  cases rp with
  | nil => exact ⟨rfl, q σ l fun _ _ => rfl⟩
  | cons _ _ => exact q.elim⟩
theorem gvs_cons {ws1 ws2 : List Nat} {g : PV → LE → Res LE} {gs : List PV → LE → Res LE} (h1 : PG X e (tG G K ws1 E κ g)) (h2 : PGs X es (tGs G K ws2 E κ gs)) (hE : ∀ σ σ', E σ' = E σ)
    (hs : (assignEach (e :: es) X.env).map (·.2) = assign e X.env :: (assignEach es X.env).map (·.2) := by rfl) : PGs X (e :: es) (tGs G K (ws1 ++ ws2) E κ (gsC g gs)) := ⟨fun pins s σ H vs us Q I r h => by
  refine (pgs_cons h1 h2 hs).run pins s σ H vs us Q I r ?_
  obtain ⟨F, τ, ps, l, rp, q⟩ := h
  cases rp with
  | nil => exact q.elim
  | cons r0 rs =>
    rename_i v0 vr p0 pr
    refine ⟨v0, vr, rfl, F, τ, p0, l, r0, ?_⟩
    unfold gsC at q
    cases hg : g p0 τ with
    | exc c ps => simp only [hg] at q; exact q
    | bad => simp only [hg] at q; exact q
    | ok τ' =>
      simp only [hg, Res.ok_bind] at q
      intro σ' l' k'
      refine ⟨F, τ', pr, l', rs, ?_⟩
      cases hg2 : gs pr τ' with
      | exc c ps => rw [hg2] at q; rw [hE σ σ']; exact q
      | bad => rw [hg2] at q; exact q
      | ok τ'' =>
        rw [hg2] at q
        exact fun σ'' l'' k'' => q σ'' l'' fun j hj => by
          rw [List.mem_append, not_or] at hj
          rw [k'' j hj.2, k' j hj.1]⟩
def gTp (gs : List PV → LE → Res LE) (n : Nat) : PV → LE → Res LE := fun p τ => match p with
  | .tup ps => if ps.length = n then gs ps τ else .bad
  | .itm ps => if ps.length = n then gs ps τ else .bad
  | _ => .bad
theorem gv_tup {ws : List Nat} {k n : Nat} {gs : List PV → LE → Res LE} (hc : X.calm = true) (h : PGs X es (tGs G X.K ws E κ gs)) (hn : (assignEach es X.env).length = n := by rfl) (hst : (assignEach es X.env).findIdx? (·.1) = none := by rfl) :
    PG X (.Tuple es k pos) (tG G X.K ws E κ (gTp gs n)) := ⟨fun pins s σ H v u Q I r h' => by
  refine (pg_tup hc h hn hst).run pins s σ H v u Q I r ?_
  obtain ⟨F, τ, p, l, rp, q⟩ := h'
  cases p with
  | tup ps =>
    unfold gTp at q
    obtain ⟨a, vs, rfl, hS, rr⟩ := rp.tup_inv
    by_cases hl : ps.length = n
    · simp only [if_pos hl] at q
      exact ⟨a, vs, rfl, Same.sqt l.sub hS, by rw [rr.length]; exact hl, F, τ, ps, l, rr, q⟩
    · simp only [if_neg hl] at q
  | itm ps =>
    unfold gTp at q
    obtain ⟨a, vs, rfl, hS, rr⟩ := rp.itm_inv
    by_cases hl : ps.length = n
    · simp only [if_pos hl] at q
      exact ⟨a, vs, rfl, Same.sqt l.sub hS, by rw [rr.length]; exact hl, F, τ, ps, l, rr, q⟩
    · simp only [if_neg hl] at q
  | _ => exact q.elim⟩

/-! ### what is walked -/
theorem Itp.list {a : Addr} {vs : List V} {ps : List PV} (hB : SqL K B a vs) (r : Reps G K F0 vs ps) (hl : vs.length ≤ sizeLine) : Itp G K (Itl K a) B F0 ps where
  len := by rw [← r.length]; exact hl
  go i H s hi := by
    obtain ⟨v, e, _⟩ := r.get (List.getElem?_eq_getElem hi)
    exact ⟨vs, v, Same.seq s hB, e⟩
  stop H s := ⟨vs, Same.seq s hB, by rw [r.length]; exact Nat.le_refl _⟩
  yld i x H H' F p s s0 sF hy hp := by
    obtain ⟨rfl, hx⟩ := hy
    obtain ⟨v, e, rv⟩ := r.get hp
    have := (hx vs (Same.seq s hB)).symm.trans e
    cases this
    exact ⟨F, Ext.refl sF, rv.mono s0⟩
theorem Itp.tup {a : Addr} {vs : List V} {ps : List PV} (hB : SqT K B a vs) (r : Reps G K F0 vs ps) (hl : vs.length ≤ sizeLine) : Itp G K (Itt K a) B F0 ps where
  len := by rw [← r.length]; exact hl
  go i H s hi := by
    obtain ⟨v, e, _⟩ := r.get (List.getElem?_eq_getElem hi)
    exact ⟨vs, v, Same.sqt s hB, e⟩
  stop H s := ⟨vs, Same.sqt s hB, by rw [r.length]; exact Nat.le_refl _⟩
  yld i x H H' F p s s0 sF hy hp := by
    obtain ⟨rfl, hx⟩ := hy
    obtain ⟨v, e, rv⟩ := r.get hp
    have := (hx vs (Same.sqt s hB)).symm.trans e
    cases this
    exact ⟨F, Ext.refl sF, rv.mono s0⟩
def signsP (z : Str) : List PV := z.cps.toList.map fun c => .str ⟨#[c]⟩
theorem Itp.str {z : Str} (hl : z.length ≤ sizeLine) : Itp G K (Its z) B F0 (signsP z) where
  len := by unfold signsP; rw [List.length_map, Array.length_toList]; exact hl
  go i H s hi := by unfold signsP at hi; rw [List.length_map, Array.length_toList] at hi; exact hi
  stop H s := by unfold signsP; rw [List.length_map, Array.length_toList]; exact Nat.le_refl _
  yld i x H H' F p s s0 sF hy hp := by
    obtain ⟨rfl, c, hc, rfl⟩ := hy
    unfold signsP at hp
    rw [List.getElem?_map, Array.getElem?_toList, hc] at hp
    cases hp
    exact ⟨F, Ext.refl sF, .str _⟩
theorem Itp.range {lo : Int} {n : Nat} (hl : n ≤ sizeLine) : Itp G K (Itr lo n) B F0 ((List.range n).map fun i => .int (lo + (i : Nat))) where
  len := by simpa using hl
  go i H s hi := by have h : i < n := by simpa using hi
                    exact h
  stop H s := by show n ≤ _; simp
  yld i x H H' F p s s0 sF hy hp := by
    obtain ⟨rfl, rfl⟩ := hy
    rw [List.getElem?_map] at hp
    by_cases hi : i < n
    · rw [List.getElem?_range hi] at hp
      cases hp
      exact ⟨F, Ext.refl sF, .int _⟩
    · rw [List.getElem?_eq_none (by simpa using hi)] at hp; cases hp
theorem Itp.rangeC {lo c : Int} {n : Nat} (hl : n ≤ sizeLine) : Itp G K (Itc lo c n) B F0 ((List.range n).map fun i => .int (lo + (i : Nat) * c)) where
  len := by simpa using hl
  go i H s hi := by have h : i < n := by simpa using hi
                    exact h
  stop H s := by show n ≤ _; simp
  yld i x H H' F p s s0 sF hy hp := by
    obtain ⟨rfl, rfl⟩ := hy
    rw [List.getElem?_map] at hp
    by_cases hi : i < n
    · rw [List.getElem?_range hi] at hp
      cases hp
      exact ⟨F, Ext.refl sF, .int _⟩
    · rw [List.getElem?_eq_none (by simpa using hi)] at hp; cases hp
def enumP (ps : List PV) : List PV := ps.zipIdx.map fun x => .itm [.int (x.2 : Nat), x.1]
theorem enumP_get {ps : List PV} {i : Nat} {p : PV} (h : (enumP ps)[i]? = some p) : ∃ q, ps[i]? = some q ∧ p = .itm [.int (i : Nat), q] := by
  unfold enumP at h
  rw [List.getElem?_map, List.getElem?_zipIdx] at h
  cases e : ps[i]? with
  | none => rw [e] at h; cases h
  | some q => rw [e] at h; simp at h; exact ⟨q, rfl, h.symm⟩
theorem rep_pair {T : Addr} {x y : V} {p q : PV} (sF : Same F H) (nT : H T = none) (rx : Rep G K F x p) (ry : Rep G K F y q) : ∃ F2, Ext F H F2 (upd H T (.tup [x, y])) ∧ Rep G K F2 (.ref T) (.itm [p, q]) :=
  ⟨_, Ext.push _ (Ext.refl sF) nT, .itm (.inl (.inl upd_same)) (Reps.mono (same_new (Same.free sF nT)) (.cons rx (.cons ry .nil)))⟩
theorem Itp.enum {a : Addr} {vs : List V} {ps : List PV} (hB : SqL K B a vs) (r : Reps G K F0 vs ps) (hl : vs.length ≤ sizeLine) : Itp G K (Ite K a) B F0 (enumP ps) where
  len := by unfold enumP; simp; rw [← r.length]; exact hl
  go i H s hi := by
    have hi' : i < ps.length := by unfold enumP at hi; simpa using hi
    obtain ⟨v, e, _⟩ := r.get (List.getElem?_eq_getElem hi')
    exact ⟨vs, v, Same.seq s hB, e⟩
  stop H s := ⟨vs, Same.seq s hB, by unfold enumP; simp; rw [r.length]; exact Nat.le_refl _⟩
  yld i x H H' F p s s0 sF hy hp := by
    obtain ⟨T, x', rfl, nT, rfl, hx⟩ := hy
    obtain ⟨q, hq, rfl⟩ := enumP_get hp
    obtain ⟨v, e, rv⟩ := r.get hq
    have := (hx vs (Same.seq s hB)).symm.trans e
    cases this
    exact rep_pair sF nT (.int _) (rv.mono s0)
theorem Itp.enumT {a : Addr} {vs : List V} {ps : List PV} (hB : SqT K B a vs) (r : Reps G K F0 vs ps) (hl : vs.length ≤ sizeLine) : Itp G K (IteT K a) B F0 (enumP ps) where
  len := by unfold enumP; simp; rw [← r.length]; exact hl
  go i H s hi := by
    have hi' : i < ps.length := by unfold enumP at hi; simpa using hi
    obtain ⟨v, e, _⟩ := r.get (List.getElem?_eq_getElem hi')
    exact ⟨vs, v, Same.sqt s hB, e⟩
  stop H s := ⟨vs, Same.sqt s hB, by unfold enumP; simp; rw [r.length]; exact Nat.le_refl _⟩
  yld i x H H' F p s s0 sF hy hp := by
    obtain ⟨T, x', rfl, nT, rfl, hx⟩ := hy
    obtain ⟨q, hq, rfl⟩ := enumP_get hp
    obtain ⟨v, e, rv⟩ := r.get hq
    have := (hx vs (Same.sqt s hB)).symm.trans e
    cases this
    exact rep_pair sF nT (.int _) (rv.mono s0)
def zipP (ps qs : List PV) : List PV := (ps.zip qs).map fun x => .itm [x.1, x.2]
theorem zipP_get {ps qs : List PV} {i : Nat} {p : PV} (h : (zipP ps qs)[i]? = some p) : ∃ a b, ps[i]? = some a ∧ qs[i]? = some b ∧ p = .itm [a, b] := by
  unfold zipP at h
  rw [List.getElem?_map] at h
  cases e : (ps.zip qs)[i]? with
  | none => rw [e] at h; cases h
  | some q =>
    rw [e] at h
    simp at h
    rw [List.getElem?_zip_eq_some] at e
    exact ⟨q.1, q.2, e.1, e.2, h.symm⟩
theorem zipP_len (ps qs : List PV) : (zipP ps qs).length = min ps.length qs.length := by unfold zipP; simp
theorem Itp.zip {a b : Addr} {vs ws : List V} {ps qs : List PV} (hB : SqL K B a vs) (hB2 : SqL K B b ws) (r : Reps G K F0 vs ps) (r2 : Reps G K F0 ws qs) (hl : ps.length ≤ sizeLine) : Itp G K (Itz K a b) B F0 (zipP ps qs) where
  len := by rw [zipP_len]; omega
  go i H s hi := by
    rw [zipP_len] at hi
    obtain ⟨v, e, _⟩ := r.get (List.getElem?_eq_getElem (show i < ps.length by omega))
    obtain ⟨v2, e2, _⟩ := r2.get (List.getElem?_eq_getElem (show i < qs.length by omega))
    exact ⟨vs, ws, v, v2, Same.seq s hB, Same.seq s hB2, e, e2⟩
  stop H s := ⟨vs, ws, Same.seq s hB, Same.seq s hB2, by rw [zipP_len, r.length, r2.length]; omega⟩
  yld i x H H' F p s s0 sF hy hp := by
    obtain ⟨T, x', y', rfl, nT, rfl, hx, hy⟩ := hy
    obtain ⟨c, d, hc, hd, rfl⟩ := zipP_get hp
    obtain ⟨v, e, rv⟩ := r.get hc
    obtain ⟨v2, e2, rv2⟩ := r2.get hd
    have := (hx vs (Same.seq s hB)).symm.trans e
    cases this
    have := (hy ws (Same.seq s hB2)).symm.trans e2
    cases this
    exact rep_pair sF nT (rv.mono s0) (rv2.mono s0)
theorem Itp.zipT {a b : Addr} {vs ws : List V} {ps qs : List PV} (hB : SqT K B a vs) (hB2 : SqT K B b ws) (r : Reps G K F0 vs ps) (r2 : Reps G K F0 ws qs) (hl : ps.length ≤ sizeLine) : Itp G K (RZ.ItzT K a b) B F0 (zipP ps qs) where
  len := by rw [zipP_len]; omega
  go i H s hi := by
    rw [zipP_len] at hi
    obtain ⟨v, e, _⟩ := r.get (List.getElem?_eq_getElem (show i < ps.length by omega))
    obtain ⟨v2, e2, _⟩ := r2.get (List.getElem?_eq_getElem (show i < qs.length by omega))
    exact ⟨vs, ws, v, v2, Same.sqt s hB, Same.sqt s hB2, e, e2⟩
  stop H s := ⟨vs, ws, Same.sqt s hB, Same.sqt s hB2, by rw [zipP_len, r.length, r2.length]; omega⟩
  yld i x H H' F p s s0 sF hy hp := by
    obtain ⟨T, x', y', rfl, nT, rfl, hx, hy⟩ := hy
    obtain ⟨c, d, hc, hd, rfl⟩ := zipP_get hp
    obtain ⟨v, e, rv⟩ := r.get hc
    obtain ⟨v2, e2, rv2⟩ := r2.get hd
    have := (hx vs (Same.sqt s hB)).symm.trans e
    cases this
    have := (hy ws (Same.sqt s hB2)).symm.trans e2
    cases this
    exact rep_pair sF nT (rv.mono s0) (rv2.mono s0)
theorem Itp.sub {J : It} {B' : Hp} {ps : List PV} (h : Itp G K J B F0 ps) (s : Same B B') : Itp G K J B' F0 ps :=
  ⟨h.len, fun i H s' => h.go i H (s.trans s'), fun H s' => h.stop H (s.trans s'), fun i x H H' F p s' => h.yld i x H H' F p (s.trans s')⟩

theorem pi_weak {t t' : TI} (h : PI X tg e t) (w : ∀ σ H R, t' σ H R → t σ H R) : PI X tg e t' := ⟨fun pins s σ H Q I q => h.run pins s σ H Q I (w σ H Q q)⟩
def itemsOf : PV → Option (List PV)
  | .lst xs => some xs
  | .tup xs => some xs
  | .str z => if z.length ≤ sizeLine then some (signsP z) else none
  | _ => none
def iSeq (f : LE → Res PV) : LE → Res (List PV) := fun τ => f τ >>= fun p => up (itemsOf p)
theorem i_seq {f : LE → Res PV} (h : PE X e (tE G X.K .sh E κ f)) : PI X tg e (tI G X.K true E κ (iSeq f)) := pi_weak (pi_any h) fun σ H R ⟨F, τ, l, q⟩ => by
  refine ⟨F, τ, l, ?_⟩
  unfold iSeq at q
  cases hf : f τ with
  | exc c ps => rw [hf] at q; exact q
  | bad => rw [hf] at q; exact q
  | ok p =>
    rw [hf, Res.ok_bind] at q
    intro v F1 H1 e1 r1
    cases p with
    | lst xs =>
      obtain ⟨a, vs, rfl, hS, rr⟩ := Rep.lst_inv r1
      exact .inl ⟨a, vs, rfl, .inl (Same.rd e1.sub hS), fun hl => q _ F1 H1 e1 (Itp.list (.inl hS) rr hl)⟩
    | tup xs =>
      obtain ⟨a, vs, rfl, hS, rr⟩ := Rep.tup_inv r1
      exact .inr (.inl ⟨a, vs, rfl, Same.sqt e1.sub hS, fun hl => q _ F1 H1 e1 (Itp.tup hS rr hl)⟩)
    | str z =>
      obtain rfl := Rep.str_inv r1
      unfold itemsOf at q
      by_cases hl : z.length ≤ sizeLine
      · simp only [if_pos hl, up_some] at q
        exact .inr (.inr ⟨z, rfl, q _ F1 H1 e1 (Itp.str hl)⟩)
      · simp only [if_neg hl, up_none] at q
    | _ => exact q.elim
/-- a list that a slot owns: for a comprehension -/
theorem i_own {f : LE → Res PV} (h : PE X e (tE G X.K .top E κ f)) : PI X tg e (tI G X.K false E κ (iSeq f)) := pi_weak (pi_any h) fun σ H R ⟨F, τ, l, q⟩ => by
  refine ⟨F, τ, l, ?_⟩
  unfold iSeq at q
  cases hf : f τ with
  | exc c ps => rw [hf] at q; exact q
  | bad => rw [hf] at q; exact q
  | ok p =>
    rw [hf, Res.ok_bind] at q
    intro v F1 H1 e1 r1
    cases p with
    | lst xs =>
      obtain ⟨a, vs, rfl, hS, rr⟩ := Top.lst_inv e1.sub r1
      exact .inl ⟨a, vs, rfl, .inl hS, fun hl => q _ F1 H1 e1 (Itp.list (.inl hS) rr hl)⟩
    | tup xs =>
      obtain ⟨a, vs, rfl, hS, rr⟩ := Top.tup_inv e1.sub r1
      exact .inr (.inl ⟨a, vs, rfl, hS, fun hl => q _ F1 H1 e1 (Itp.tup hS rr hl)⟩)
    | str z =>
      obtain rfl := Top.str_inv r1
      unfold itemsOf at q
      by_cases hl : z.length ≤ sizeLine
      · simp only [if_pos hl, up_some] at q
        exact .inr (.inr ⟨z, rfl, q _ F1 H1 e1 (Itp.str hl)⟩)
      · simp only [if_neg hl, up_none] at q
    | _ => exact q.elim
theorem i_loose {f : LE → Res (List PV)} (h : PI X tg e (tI G K true E κ f)) : PI X tg e (tI G K false E κ f) := pi_weak h fun σ H R ⟨F, τ, l, q⟩ => by
  refine ⟨F, τ, l, ?_⟩
  cases hf : f τ with
  | exc c ps => rw [hf] at q; exact q
  | bad => rw [hf] at q; exact q
  | ok ps => rw [hf] at q; exact fun J F' H' e1 i1 => q J F' H' e1 (by simpa using Itp.sub (by simpa using i1) e1.sub)
def iFn (g : List PV → Option (List PV)) (f : LE → Res (List PV)) : LE → Res (List PV) := fun τ => f τ >>= fun ps => up (g ps)
/-- a walk over what is reckoned from arguments -/
def IfV (r : List V → Hp → (It → Hp → Prop) → Prop) (G : GW) (K : PySem.W.Frag) (g : List PV → Option (List PV)) : Prop := ∀ (F H : Hp) (xs : List V) (ps zs : List PV) (R : It → Hp → Prop), Same F H → Reps G K F xs ps → g ps = some zs →
  (∀ J, Itp G K J F F zs → R J H) → r xs H R
theorem w_ifn {r : List V → Hp → (It → Hp → Prop) → Prop} {g : List PV → Option (List PV)} {f : LE → Res (List PV)} (hg : IfV r G K g) {R : It → Hp → Prop} (h : tI G K true E κ (iFn g f) σ H R) : tA G K .sh E κ f σ H fun vs H1 => r vs H1 R := by
  obtain ⟨F, τ, l, q⟩ := h
  refine ⟨F, τ, l, ?_⟩
  unfold iFn at q
  cases hf : f τ with
  | exc c ps => rw [hf] at q; exact q
  | bad => rw [hf] at q; exact q
  | ok ps =>
    rw [hf, Res.ok_bind] at q
    intro vs F1 H1 e1 r1
    cases hz : g ps with
    | none => rw [hz] at q; exact q.elim
    | some zs =>
      rw [hz] at q
      exact hg F1 H1 vs ps zs R e1.sub r1.shared hz fun J i1 => q J F1 H1 e1 (by simpa using i1)
theorem Reps.one {q : PV} {xs : List V} (h : Reps G K F xs [q]) : ∃ v, xs = [v] ∧ Rep G K F v q := by
  cases h with
  | cons r rs => cases rs; exact ⟨_, rfl, r⟩
theorem Reps.two {q q' : PV} {xs : List V} (h : Reps G K F xs [q, q']) : ∃ v w, xs = [v, w] ∧ Rep G K F v q ∧ Rep G K F w q' := by
  cases h with
  | cons r rs =>
    cases rs with
    | cons r' rs => cases rs; exact ⟨_, _, rfl, r, r'⟩
theorem Reps.three {q q' q'' : PV} {xs : List V} (h : Reps G K F xs [q, q', q'']) : ∃ v w u, xs = [v, w, u] ∧ Rep G K F v q ∧ Rep G K F w q' ∧ Rep G K F u q'' := by
  cases h with
  | cons r rs =>
    cases rs with
    | cons r' rs =>
      cases rs with
      | cons r'' rs => cases rs; exact ⟨_, _, _, rfl, r, r', r''⟩
/-- lo, lo + c, ..: n of them -/
def rngP (lo : Int) (n : Nat) : List PV := (List.range n).map fun i => .int (lo + (i : Nat))
def rngC (lo c : Int) (n : Nat) : List PV := (List.range n).map fun i => .int (lo + (i : Nat) * c)
def pR1 : List PV → Option (List PV)
  | [.int j] => if -(2 ^ 62) ≤ j ∧ j ≤ 1000000 then some (rngP 0 j.toNat) else none
  | _ => none
def pR2 : List PV → Option (List PV)
  | [.int i, .int j] => if -(2 ^ 62) ≤ j ∧ j < 2 ^ 62 ∧ -(2 ^ 62) ≤ i ∧ i < 2 ^ 62 ∧ (j - i).toNat ≤ 1000000 then some (rngP i (j - i).toNat) else none
  | _ => none
instance {i j c : Int} {n : Nat} : Decidable (RgC i j c n) := by unfold RgC; infer_instance
def pR3 : List PV → Option (List PV)
  | [.int i, .int j, .int c] => if RgC i j c (Builtin.Range.rangeSize i j c).toNat ∧ (Builtin.Range.rangeSize i j c).toNat ≤ 1000000 then some (rngC i c (Builtin.Range.rangeSize i j c).toNat) else none
  | _ => none
theorem g_R1 : IfV (fun vs H1 R => ∃ j : Int, vs = [.int j] ∧ -(2 ^ 62) ≤ j ∧ j < 2 ^ 62 ∧ R (Itr 0 j.toNat) H1) G K pR1 := by
  intro F H xs ps zs R s r hz k
  unfold pR1 at hz
  split at hz
  · rename_i j
    split at hz
    · rename_i hj
      cases hz
      obtain ⟨v, rfl, rv⟩ := r.one
      obtain rfl := rv.int_inv
      exact ⟨j, rfl, hj.1, by omega, k _ (Itp.range (by rw [sizeLine_eq]; omega))⟩
    · cases hz
  · cases hz
theorem g_R2 : IfV (fun vs H1 R => ∃ i j : Int, vs = [.int i, .int j] ∧ (-(2 ^ 62) ≤ i ∧ i < 2 ^ 62 ∧ -(2 ^ 62) ≤ j ∧ j < 2 ^ 62) ∧ R (Itr i (j - i).toNat) H1) G K pR2 := by
  intro F H xs ps zs R s r hz k
  unfold pR2 at hz
  split at hz
  · rename_i i j
    split at hz
    · rename_i hj
      cases hz
      obtain ⟨v, w, rfl, rv, rw⟩ := r.two
      obtain rfl := rv.int_inv
      obtain rfl := rw.int_inv
      exact ⟨i, j, rfl, ⟨hj.2.2.1, hj.2.2.2.1, hj.1, hj.2.1⟩, k _ (Itp.range (by rw [sizeLine_eq]; omega))⟩
    · cases hz
  · cases hz
theorem g_R3 : IfV (fun vs H1 R => ∃ (i j c : Int) (n : Nat), vs = [.int i, .int j, .int c] ∧ RgC i j c n ∧ R (Itc i c n) H1) G K pR3 := by
  intro F H xs ps zs R s r hz k
  unfold pR3 at hz
  split at hz
  · rename_i i j c
    split at hz
    · rename_i hj
      cases hz
      obtain ⟨v, w, u, rfl, rv, rw, ru⟩ := r.three
      obtain rfl := rv.int_inv
      obtain rfl := rw.int_inv
      obtain rfl := ru.int_inv
      exact ⟨i, j, c, _, rfl, hj.1, k _ (Itp.rangeC (by rw [sizeLine_eq]; omega))⟩
    · cases hz
  · cases hz
variable {f : LE → Res (List PV)} {p' : Pos}
theorem i_range1 (hm : X.mg "range" = none) (ha : PA X [a] (tA G K .sh E κ f)) (hg : Gl X "range" := by rfl) (hs : starEach [a] X.env = [(false, eval a X.env)] := by rfl) :
    PI X tg (.Call (.Name "range" p') [a] [] pos) (tI G K true E κ (iFn pR1 f)) := pi_weak (pi_range1 hg hm ha hs) fun _ _ _ h => w_ifn g_R1 h
theorem i_range2 (hm : X.mg "range" = none) (ha : PA X [a, b] (tA G K .sh E κ f)) (hg : Gl X "range" := by rfl) (hs : starEach [a, b] X.env = [(false, eval a X.env), (false, eval b X.env)] := by rfl) (hs2 : starEach [b] X.env = [(false, eval b X.env)] := by rfl) :
    PI X tg (.Call (.Name "range" p') [a, b] [] pos) (tI G K true E κ (iFn pR2 f)) := pi_weak (pi_range2 hg hm ha hs hs2) fun _ _ _ h => w_ifn g_R2 h
theorem i_range3 {c : Expr} (hm : X.mg "range" = none) (ha : PA X [a, b, c] (tA G K .sh E κ f)) (hg : Gl X "range" := by rfl)
    (hs : starEach [a, b, c] X.env = (false, eval a X.env) :: starEach [b, c] X.env := by rfl) (hpl : (backTo pos (starEach [b, c] X.env)).any (·.1) = false := by rfl) :
    PI X tg (.Call (.Name "range" p') [a, b, c] [] pos) (tI G K true E κ (iFn pR3 f)) := pi_weak (pi_range3 hg hm ha hs hpl) fun _ _ _ h => w_ifn g_R3 h
end
section
variable {G : GW} {X : Cx} {κ : Kd} {E : St → XK} {a b : Expr} {pos p' tpos : Pos} {f : LE → Res (List PV)} {elts : List Expr} {kk : Nat}
/-! enumerate, zip: the bound is asked -/
def pEnum : List PV → Option (List PV)
  | [.lst xs] => if xs.length ≤ 1000000 then some (enumP xs) else none
  | [.tup xs] => if xs.length ≤ 1000000 then some (enumP xs) else none
  | _ => none
theorem g_enum {K : PySem.W.Frag} : IfV (fun vs H1 R => ∃ a xs, vs = [.ref a] ∧ ((SqL K H1 a xs ∧ R (Ite K a) H1) ∨ (SqT K H1 a xs ∧ R (IteT K a) H1))) G K pEnum := by
  intro F H xs ps zs R s r hz k
  unfold pEnum at hz
  split at hz
  · split at hz
    · rename_i hl
      cases hz
      obtain ⟨v, rfl, rv⟩ := r.one
      obtain ⟨a, vs, rfl, hS, rr⟩ := rv.lst_inv
      exact ⟨a, vs, rfl, .inl ⟨.inl (Same.rd s hS), k _ (Itp.enum (.inl hS) rr (by rw [rr.length, sizeLine_eq]; omega))⟩⟩
    · cases hz
  · split at hz
    · rename_i hl
      cases hz
      obtain ⟨v, rfl, rv⟩ := r.one
      obtain ⟨a, vs, rfl, hS, rr⟩ := rv.tup_inv
      exact ⟨a, vs, rfl, .inr ⟨Same.sqt s hS, k _ (Itp.enumT hS rr (by rw [rr.length, sizeLine_eq]; omega))⟩⟩
    · cases hz
  · cases hz
def pZip : List PV → Option (List PV)
  | [.lst xs, .lst ys] => if xs.length ≤ 1000000 then some (zipP xs ys) else none
  | [.tup xs, .tup ys] => if xs.length ≤ 1000000 then some (zipP xs ys) else none
  | _ => none
theorem g_zip {K : PySem.W.Frag} : IfV (fun vs H1 R => ∃ a b xs ys, vs = [.ref a, .ref b] ∧ ((SqL K H1 a xs ∧ SqL K H1 b ys ∧ R (Itz K a b) H1) ∨ (SqT K H1 a xs ∧ SqT K H1 b ys ∧ R (RZ.ItzT K a b) H1))) G K pZip := by
  intro F H xs ps zs R s r hz k
  unfold pZip at hz
  split at hz
  · split at hz
    · rename_i hl
      cases hz
      obtain ⟨v, w, rfl, rv, rw'⟩ := r.two
      obtain ⟨a, vs, rfl, hS, rr⟩ := rv.lst_inv
      obtain ⟨b, ws, rfl, hS2, rr2⟩ := rw'.lst_inv
      exact ⟨a, b, vs, ws, rfl, .inl ⟨.inl (Same.rd s hS), .inl (Same.rd s hS2), k _ (Itp.zip (.inl hS) (.inl hS2) rr rr2 (by rw [sizeLine_eq]; omega))⟩⟩
    · cases hz
  · split at hz
    · rename_i hl
      cases hz
      obtain ⟨v, w, rfl, rv, rw'⟩ := r.two
      obtain ⟨a, vs, rfl, hS, rr⟩ := rv.tup_inv
      obtain ⟨b, ws, rfl, hS2, rr2⟩ := rw'.tup_inv
      exact ⟨a, b, vs, ws, rfl, .inr ⟨Same.sqt s hS, Same.sqt s hS2, k _ (Itp.zipT hS hS2 rr rr2 (by rw [sizeLine_eq]; omega))⟩⟩
    · cases hz
  · cases hz
theorem i_zip (hm : X.mg "zip" = none) (ha : PA X [a, b] (tA G X.K .sh E κ f)) (hg : Gl X "zip" := by rfl) (hs : starEach [a, b] X.env = (false, eval a X.env) :: starEach [b] X.env := by rfl) (hpl : (backTo pos (starEach [b] X.env)).any (·.1) = false := by rfl) :
    PI X (.Tuple elts kk tpos) (.Call (.Name "zip" p') [a, b] [] pos) (tI G X.K true E κ (iFn pZip f)) := pi_weak (RZ.pi_zipA hg hm ha hs hpl) fun _ _ _ h => w_ifn g_zip h
theorem i_enum (hm : X.mg "enumerate" = none) (ha : PA X [a] (tA G X.K .sh E κ f)) (hg : Gl X "enumerate" := by rfl) (hs : starEach [a] X.env = [(false, eval a X.env)] := by rfl) :
    PI X (.Tuple elts kk tpos) (.Call (.Name "enumerate" p') [a] [] pos) (tI G X.K true E κ (iFn pEnum f)) := pi_weak (pi_enumT hg hm ha hs) fun _ _ _ h => w_ifn g_enum h
end
end Lp
end
section
set_option Elab.async false
set_option linter.all false
set_option maxRecDepth 100000
namespace Lp
open PySem PySem.Spec L2

/-- an error may not leave from here -/
def Res.nx {α : Type} : Res α → Res α
  | .ok a => .ok a
  | .exc _ _ => .bad
  | .bad => .bad
@[simp] theorem Res.nx_ok {α : Type} (a : α) : (Res.ok a).nx = .ok a := (rfl)
@[simp] theorem Res.nx_exc {α : Type} (c fs) : (Res.exc c fs : Res α).nx = .bad := (rfl)
@[simp] theorem Res.nx_bad {α : Type} : (Res.bad : Res α).nx = .bad := (rfl)
theorem Res.nx_inv {α : Type} {x : Res α} {a : α} (h : x.nx = .ok a) : x = .ok a := by
  cases x with
  | ok b => exact h
  | exc c fs => cases h
  | bad => cases h
theorem Res.bind_ok {α β : Type} {x : Res α} {f : α → Res β} {b : β} (h : (x >>= f) = .ok b) : ∃ a, x = .ok a ∧ f a = .ok b := by
  cases x with
  | ok a => exact ⟨a, rfl, h⟩
  | exc c fs => cases h
  | bad => cases h
def tYesM : LE → Res Bool := fun _ => .ok true
def compL (tgt : PV → LE → Res LE) (cond : LE → Res Bool) (elt : LE → Res PV) (τ : LE) : List PV → Res (List PV)
  | [] => .ok []
  | p :: ps => (tgt p τ).nx >>= fun τ1 => (cond τ1).nx >>= fun b =>
    if b = true then (elt τ1).nx >>= fun q => compL tgt cond elt τ ps >>= fun r => .ok (q :: r) else compL tgt cond elt τ ps
def wipeL (τ : LE) : List Nat → LE
  | [] => τ
  | v :: vs => (wipeL τ vs).set v none
def eComp (own : List Nat) (it : LE → Res (List PV)) (tgt : PV → LE → Res LE) (cond : LE → Res Bool) (elt : LE → Res PV) : LE → Res PV := fun τ => it τ >>= fun ps => (compL tgt cond elt (wipeL τ own) ps).nx >>= fun rs => .ok (.lst rs)
def compL2 (tgt : PV → LE → Res LE) (cond : LE → Res Bool) (it1 : LE → Res (List PV)) (own1 : List Nat) (tgt1 : PV → LE → Res LE) (cond1 : LE → Res Bool) (elt : LE → Res PV) (τ : LE) : List PV → Res (List PV)
  | [] => .ok []
  | p :: ps => (tgt p τ).nx >>= fun τ1 => (cond τ1).nx >>= fun b =>
    if b = true then (it1 τ1).nx >>= fun qs => compL tgt1 cond1 elt (wipeL τ1 own1) qs >>= fun r1 => compL2 tgt cond it1 own1 tgt1 cond1 elt τ ps >>= fun r => .ok (r1 ++ r) else compL2 tgt cond it1 own1 tgt1 cond1 elt τ ps
def eComp2 (own : List Nat) (it : LE → Res (List PV)) (tgt : PV → LE → Res LE) (cond : LE → Res Bool) (it1 : LE → Res (List PV)) (own1 : List Nat) (tgt1 : PV → LE → Res LE) (cond1 : LE → Res Bool) (elt : LE → Res PV) : LE → Res PV :=
  fun τ => it τ >>= fun ps => (compL2 tgt cond it1 own1 tgt1 cond1 elt (wipeL τ own) ps).nx >>= fun rs => if rs.length ≤ 1000000 then .ok (.lst rs) else .bad

section
variable {G : GW} {K : PySem.W.Frag} {F H F' H' F0 H0 B : Hp} {X : Cx} {v x y : V} {p : PV} {κ : Kd} {E : St → XK} {m md : Mode} {e a b tg iter elt : Expr} {es : List Expr} {pos : Pos} {σ : St} {τ : LE}
theorem wipeL_length : ∀ vs : List Nat, (wipeL τ vs).length = τ.length
  | [] => rfl
  | v :: vs => by unfold wipeL; rw [List.length_set]; exact wipeL_length vs
theorem wipeL_some {i : Nat} {p : PV} : ∀ {vs : List Nat}, (wipeL τ vs)[i]? = some (some p) → τ[i]? = some (some p) ∧ i ∉ vs
  | [], h => ⟨h, by simp⟩
  | v :: vs, h => by
    unfold wipeL at h
    by_cases hv : v = i
    · subst hv
      rw [List.getElem?_set] at h
      simp only [if_true] at h
      split at h <;> cases h
    · rw [List.getElem?_set_ne hv] at h
      obtain ⟨h1, h2⟩ := wipeL_some h
      exact ⟨h1, by simp [Ne.symm hv, h2]⟩
theorem Lc.wipe (l : Lc G K κ F H σ τ) (vs : List Nat) : Lc G K κ F H (wipe σ vs) (wipeL τ vs) := by
  refine ⟨l.sub, by rw [wipe_length, wipeL_length]; exact l.len, fun j q h1 h2 => ?_, fun j q h1 h2 => ?_, fun j1 j2 q1 q2 a h1 h2 h3 h4 h5 h6 => ?_⟩
  · obtain ⟨h3, h4⟩ := wipeL_some h1
    rw [wipe_out h4]
    exact l.sh j q h3 h2
  · obtain ⟨h3, h4⟩ := wipeL_some h1
    rw [wipe_out h4]
    exact l.ow j q h3 h2
  · obtain ⟨k3, m3⟩ := wipeL_some h3
    obtain ⟨k4, m4⟩ := wipeL_some h4
    rw [wipe_out m3] at h5
    rw [wipe_out m4] at h6
    exact l.ap j1 j2 q1 q2 a h1 h2 k3 k4 h5 h6
theorem wipe_mem {i : Nat} : ∀ {vs : List Nat}, i ∈ vs → (wipe σ vs)[i]? = if i < σ.length then some none else none
  | v :: vs, h => by
    unfold wipe
    by_cases hv : v = i
    · subst hv
      rw [List.getElem?_set]
      simp only [if_true, wipe_length]
    · rw [List.getElem?_set_ne hv]
      exact wipe_mem ((List.mem_cons.mp h).resolve_left fun z => hv z.symm)
theorem wipe_same {σ' : St} {vs ws : List Nat} (hw : ∀ j ∈ ws, j ∈ vs) (hl : σ'.length = σ.length) (h : ∀ j, j ∉ ws → σ'[j]? = σ[j]?) : wipe σ' vs = wipe σ vs := by
  refine List.ext_getElem? fun j => ?_
  by_cases hj : j ∈ vs
  · rw [wipe_mem hj, wipe_mem hj, hl]
  · rw [wipe_out hj, wipe_out hj]
    exact h j fun z => hj (hw j z)
theorem wipe_wipe {vs : List Nat} : wipe (wipe σ vs) vs = wipe σ vs := by
  refine List.ext_getElem? fun j => ?_
  by_cases hj : j ∈ vs
  · rw [wipe_mem hj, wipe_mem hj, wipe_length]
  · rw [wipe_out hj, wipe_out hj]
theorem Lc.len2 {τ' : LE} {σ' : St} (l : Lc G K κ F H σ τ) (l' : Lc G K κ F' H' σ' τ') (e : τ'.length = τ.length) : σ'.length = σ.length := by rw [l.len, l'.len, e]
abbrev EN : St → XK := fun _ => E0
/-- what a target leaves as it is -/
structure GOk (κ : Kd) (ws : List Nat) (g : PV → LE → Res LE) : Prop where
  len : ∀ p τ τ', g p τ = .ok τ' → τ'.length = τ.length
  keep : ∀ p τ τ', g p τ = .ok τ' → ∀ j, j ∉ ws → τ'[j]? = τ[j]?
  un : ∀ j ∈ ws, κ j = false
structure GOks (κ : Kd) (ws : List Nat) (g : List PV → LE → Res LE) : Prop where
  len : ∀ p τ τ', g p τ = .ok τ' → τ'.length = τ.length
  keep : ∀ p τ τ', g p τ = .ok τ' → ∀ j, j ∉ ws → τ'[j]? = τ[j]?
  un : ∀ j ∈ ws, κ j = false

theorem compL_len {tgt : PV → LE → Res LE} {cond : LE → Res Bool} {elt : LE → Res PV} : ∀ {ps rs : List PV}, compL tgt cond elt τ ps = .ok rs → rs.length ≤ ps.length
  | [], rs, h => by rw [compL] at h; cases h; exact Nat.le_refl _
  | p :: ps, rs, h => by
    rw [compL] at h
    obtain ⟨τ1, _, h⟩ := Res.bind_ok h
    obtain ⟨b, _, h⟩ := Res.bind_ok h
    cases b with
    | true =>
      rw [if_pos rfl] at h
      obtain ⟨q, _, h⟩ := Res.bind_ok h
      obtain ⟨r, h1, h⟩ := Res.bind_ok h
      cases h
      have := compL_len h1
      simp; exact this
    | false =>
      rw [if_neg (by decide)] at h
      have := compL_len h
      simp; omega
/-! ### the turns of a list comprehension -/
/-- the list that grows stands at D -/
structure Grow (F1 H1 : Hp) (D : Addr) (done : List PV) (F H : Hp) : Prop where
  ext : Ext F1 H1 F H
  nd : F D = none
  at_ : ∃ vs, H D = some (.lst vs) ∧ Reps G K F vs done
theorem Grow.ext2 {F1 H1 F2 H2 : Hp} {D : Addr} {done : List PV} (g : Grow (G := G) (K := K) F1 H1 D done F H) (e : Ext F H F2 H2) : Grow (G := G) (K := K) F1 H1 D done F2 H2 := by
  obtain ⟨vs, h, r⟩ := g.at_
  exact ⟨g.ext.trans e, e.apart g.nd h, vs, e.h _ _ h, Reps.mono e.f r⟩
theorem Grow.push {F1 H1 : Hp} {D : Addr} {done : List PV} {vs : List V} (g : Grow (G := G) (K := K) F1 H1 D done F H) (hD : H1 D = none) (h : H D = some (.lst vs)) (rv : Rep G K F v p) :
    Grow (G := G) (K := K) F1 H1 D (done ++ [p]) F (upd H D (.lst (vs ++ [v]))) := by
  obtain ⟨vs', h', r⟩ := g.at_
  rw [h] at h'
  cases h'
  exact ⟨⟨g.ext.f, same_updR g.ext.h hD, same_updR g.ext.sub g.nd, g.ext.new⟩, g.nd, _, upd_same, Reps.snoc r rv⟩

/-- one turn's end: the item is evaluated and appended -/
theorem elt_turn {te : LE → Res PV} {F1 H1 : Hp} {D : Addr} {done : List PV} {q : PV} {Nx : Hp → Prop} (g : Grow (G := G) (K := K) F1 H1 D done F H) (hD : H1 D = none) (hl : done.length < sizeLine) (l : Lc G K κ F H σ τ) (hq : te τ = .ok q)
    (k : ∀ F' H', Grow (G := G) (K := K) F1 H1 D (done ++ [q]) F' H' → Nx H') : tE G K .sh EN κ te σ H fun y H4 => ∃ acc, H4 D = some (.lst acc) ∧ acc.length < sizeLine ∧ Nx (upd H4 D (.lst (acc ++ [y]))) := by
  refine ⟨F, τ, l, ?_⟩
  rw [hq]
  intro v F2 H2 e2 r2
  have g2 := g.ext2 e2
  obtain ⟨vs, h, r⟩ := g2.at_
  exact ⟨vs, h, by rw [r.length]; exact hl, k _ _ (g2.push hD h r2)⟩

/-- behind i turns -/
def LcN (G : GW) (K : PySem.W.Frag) (F1 H1 : Hp) (D : Addr) (f : List PV → Res (List PV)) (rs ps : List PV) (pre : List PV) (i : Nat) (H : Hp) : Prop :=
  ∃ F done rest, Grow (G := G) (K := K) F1 H1 D (pre ++ done) F H ∧ f (ps.drop i) = .ok rest ∧ rs = done ++ rest
theorem w_lc {own ws : List Nat} {wi : LE → Res (List PV)} {tgt : PV → LE → Res LE} {cond : LE → Res Bool} {te : LE → Res PV} {Q : VK} (hw : ∀ j ∈ ws, j ∈ own) (hl : GOk κ ws tgt)
    (h : tE G K .fr E κ (eComp own wi tgt cond te) σ H Q) : tLc (tI G K false E κ wi) (tG G K ws EN κ tgt) (tT G K EN κ cond) (tE G K .sh EN κ te) own σ H Q := by
  obtain ⟨F, τ, l, q⟩ := h
  refine ⟨F, τ, l, ?_⟩
  unfold eComp at q
  cases hwi : wi τ with
  | exc c ps => rw [hwi] at q; exact q
  | bad => rw [hwi] at q; exact q
  | ok ps =>
    rw [hwi, Res.ok_bind] at q
    intro J F1 H1 e1 i1 D hD
    simp only [Bool.false_eq_true, if_false] at i1
    cases hc : (compL tgt cond te (wipeL τ own) ps).nx with
    | exc c fs => cases hx : compL tgt cond te (wipeL τ own) ps <;> rw [hx] at hc <;> cases hc
    | bad => rw [hc] at q; exact q.elim
    | ok rs =>
      rw [hc, Res.ok_bind] at q
      have hc := Res.nx_inv hc
      have hlen : ∀ (d r : List PV), rs = d ++ r → d.length ≤ ps.length := fun d r e => by
        have h1 := compL_len hc
        have h2 := congrArg List.length e
        rw [List.length_append] at h2
        omega
      refine ⟨fun i m H => m = ps.length - i ∧ i ≤ ps.length ∧ LcN G K F1 H1 D (compL tgt cond te (wipeL τ own)) rs ps [] i H,
        ⟨ps.length, by simp, Nat.zero_le _, F1, [], rs, ?_, by simpa using hc, by simp⟩, ?_⟩
      · exact ⟨⟨Same.refl _, same_new hD, same_updR e1.sub (Same.free e1.sub hD), fun a h1 h2 => absurd h1 h2⟩, Same.free e1.sub hD, [], upd_same, .nil⟩
      · rintro i m H2 ⟨rfl, hi, F2, done, rest, g, hcr, hrs⟩
        by_cases hlt : i < ps.length
        · refine .inr ⟨i1.go i H2 g.ext.h hlt, LcN G K F1 H1 D (compL tgt cond te (wipeL τ own)) rs ps [] (i + 1), fun H' n => ⟨ps.length - (i + 1), by omega, rfl, hlt, n⟩, fun x H3 hy => ?_⟩
          have hp : ps[i]? = some ps[i] := List.getElem?_eq_getElem hlt
          obtain ⟨F3, e3, r3⟩ := i1.yld i x H2 H3 F2 _ g.ext.h g.ext.f g.ext.sub hy hp
          have g3 := g.ext2 e3
          have l3 : Lc G K κ F3 H3 (wipe σ own) (wipeL τ own) := ((l.ext e1).ext g3.ext).wipe own
          rw [List.drop_eq_getElem_cons hlt, compL] at hcr
          obtain ⟨τ1, ht, hcr⟩ := Res.bind_ok hcr
          obtain ⟨bb, hb, hcr⟩ := Res.bind_ok hcr
          have ht := Res.nx_inv ht
          have hb := Res.nx_inv hb
          refine ⟨F3, wipeL τ own, ps[i], l3, r3, ?_⟩
          rw [ht]
          intro σ' l4 k4
          refine ⟨?_, ?_⟩
          · have e := wipe_same (σ := wipe σ own) hw (Lc.len2 l3 l4 (hl.len _ _ _ ht)) k4
            rw [e, wipe_wipe]
          · refine ⟨F3, τ1, l4, ?_⟩
            rw [hb]
            intro F4 H4 e4
            have g4 := g3.ext2 e4
            cases bb with
            | true =>
              rw [if_pos rfl] at hcr ⊢
              obtain ⟨q0, hq0, hcr⟩ := Res.bind_ok hcr
              obtain ⟨r', hr', hcr⟩ := Res.bind_ok hcr
              cases hcr
              have hd := hlen (done ++ [q0]) r' (by rw [hrs]; simp)
              rw [List.length_append, List.length_singleton] at hd
              exact elt_turn g4 hD (by have := i1.len; simp; omega) (l4.ext e4) (Res.nx_inv hq0) fun F' H' g' => ⟨F', done ++ [q0], r', by simpa using g', hr', by rw [hrs]; simp⟩
            | false =>
              rw [if_neg (by decide)] at hcr ⊢
              exact ⟨F4, done, rest, g4, hcr, hrs⟩
        · have e : i = ps.length := by omega
          subst e
          rw [List.drop_length, compL] at hcr
          cases hcr
          refine .inl ⟨i1.stop H2 g.ext.h, ?_⟩
          rw [List.append_nil] at hrs
          subst hrs
          exact q _ F2 H2 (e1.trans g.ext) ⟨D, rfl, Same.free e1.h hD, g.nd, g.at_⟩

theorem ts_nil : PTs X [] (tT G K E κ tYesM) := ⟨fun pins s σ H Q I ⟨F, τ, l, q⟩ => pts_nil.run pins s σ H Q I (q F H (Ext.refl l.sub))⟩
theorem ts_one {c : Expr} {t : LE → Res Bool} (h : PT X c (tT G K E κ t)) : PTs X [c] (tT G K E κ t) := pts_one h
theorem gok_name {i : Nat} (k : κ i = false := by rfl) : GOk κ [i] (gNm i) where
  len p τ τ' h := by
    unfold gNm at h
    split at h
    · cases h; rw [List.length_set]
    · cases h
  keep p τ τ' h j hj := by
    unfold gNm at h
    split at h
    · cases h; exact List.getElem?_set_ne fun e => hj (by simp [e])
    · cases h
  un j hj := by rw [List.mem_singleton] at hj; rw [hj]; exact k
theorem goks_nil : GOks κ [] gsN where
  len ps τ τ' h := by
    unfold gsN at h
    split at h
    · cases h; rfl
    · cases h
  keep ps τ τ' h j _ := by
    unfold gsN at h
    split at h
    · cases h; rfl
    · cases h
  un j hj := by cases hj
theorem goks_cons {ws1 ws2 : List Nat} {g : PV → LE → Res LE} {gs : List PV → LE → Res LE} (h1 : GOk κ ws1 g) (h2 : GOks κ ws2 gs) : GOks κ (ws1 ++ ws2) (gsC g gs) where
  len ps τ τ' h := by
    unfold gsC at h
    split at h
    · cases h
    · obtain ⟨τ1, a, b⟩ := Res.bind_ok h
      rw [h2.len _ _ _ b, h1.len _ _ _ a]
  keep ps τ τ' h j hj := by
    rw [List.mem_append, not_or] at hj
    unfold gsC at h
    split at h
    · cases h
    · obtain ⟨τ1, a, b⟩ := Res.bind_ok h
      rw [h2.keep _ _ _ b j hj.2, h1.keep _ _ _ a j hj.1]
  un j hj := by
    rcases List.mem_append.mp hj with h | h
    · exact h1.un j h
    · exact h2.un j h
theorem gok_tup {ws : List Nat} {gs : List PV → LE → Res LE} {n : Nat} (h1 : GOks κ ws gs) : GOk κ ws (gTp gs n) where
  len p τ τ' h := by
    unfold gTp at h
    split at h
    · split at h
      · exact h1.len _ _ _ h
      · cases h
    · split at h
      · exact h1.len _ _ _ h
      · cases h
    · cases h
  keep p τ τ' h j hj := by
    unfold gTp at h
    split at h
    · split at h
      · exact h1.keep _ _ _ h j hj
      · cases h
    · split at h
      · exact h1.keep _ _ _ h j hj
      · cases h
    · cases h
  un := h1.un

/-- [elt for tg in iter if ..] -/
theorem v_lc {ifs : List Expr} {scope : Scope} {own : List (Str × Nat)} {ws : List Nat} {wi : LE → Res (List PV)} {tgt : PV → LE → Res LE} {cond : LE → Res Bool} {te : LE → Res PV} (hc : X.calm = true) (hN : X.N.Nodup)
    (hi : PI X tg iter (tI G X.K false E κ wi)) (ok : BlkOk X.N X.env.scope scope own)
    (hg : ∀ (s : Shared) (H : Hp) (C : Addr) (cl : List (Str × Addr)) (fp : List Addr), PG (X.blk s H scope (compEnvC scope cl C X.env) fp) tg (tG G X.K ws EN κ tgt))
    (ht : ∀ (s : Shared) (H : Hp) (C : Addr) (cl : List (Str × Addr)) (fp : List Addr), PTs (X.blk s H scope (compEnvC scope cl C X.env) fp) ifs (tT G X.K EN κ cond))
    (he : ∀ (s : Shared) (H : Hp) (C : Addr) (cl : List (Str × Addr)) (fp : List Addr), PE (X.blk s H scope (compEnvC scope cl C X.env) fp) elt (tE G X.K .sh EN κ te))
    (hw : ∀ j ∈ ws, j ∈ own.map (·.2)) (hl : GOk κ ws tgt) (hs : ∀ x, foldedSetIterable iter X.env x = pure x := by intro _; rfl) :
    PE X (.ListComp elt [⟨tg, iter, ifs, 0⟩] scope pos) (tE G X.K .fr E κ (eComp (own.map (·.2)) wi tgt cond te)) :=
  pe_weak (pe_lc hc hN hi ok hg ht he hs) fun _ _ _ h => w_lc hw hl h

/-! ### two clauses -/
theorem del_upd {H : Hp} {D : Addr} {o : HO} : del (upd H D o) D = del H D := by
  funext b
  unfold del upd
  by_cases h : b = D <;> simp [h]
theorem del_none {H : Hp} {D : Addr} (h : H D = none) : del H D = H := by
  funext b
  unfold del
  by_cases hb : b = D
  · subst hb; rw [if_pos rfl, h]
  · rw [if_neg hb]
theorem Ext.del {D : Addr} (e : Ext F H F' H') (h1 : F D = none) (h2 : F' D = none) : Ext F (del H D) F' (del H' D) := by
  have s : ∀ {A B : Hp}, Same A B → A D = none → Same A (L2.del B D) := fun {A B} s hA b o hb => by
    have : b ≠ D := fun z => by subst z; rw [hA] at hb; cases hb
    unfold L2.del
    rw [if_neg this]
    exact s b o hb
  refine ⟨e.f, fun b o hb => ?_, s e.sub h2, fun a q1 q2 => ?_⟩
  · unfold L2.del at hb ⊢
    by_cases z : b = D
    · rw [if_pos z] at hb; cases hb
    · rw [if_neg z] at hb ⊢; exact e.h b o hb
  · unfold L2.del
    by_cases z : a = D
    · rw [if_pos z]
    · rw [if_neg z]; exact e.new a q1 q2
theorem Lc.undel {D : Addr} (l : Lc G K κ F (del H D) σ τ) (s : Same F H) : Lc G K κ F H σ τ :=
  ⟨s, l.len, l.sh, fun i p h1 h2 => by
    obtain ⟨a, e1, hF, o⟩ := l.ow i p h1 h2
    obtain ⟨ob, ho⟩ := o.some
    have hne : a ≠ D := fun z => by rw [z, del_same] at ho; cases ho
    exact ⟨a, e1, hF, o.mono (Same.refl _) (del_ne hne).symm⟩, l.ap⟩
/-- the slots behind a target, D left out -/
theorem Lc.redel {D : Addr} {ws : List Nat} {σ' : St} {τ' : LE} (l : Lc G K κ F (del H D) σ τ) (l' : Lc G K κ F H σ' τ') (hun : ∀ j ∈ ws, κ j = false) (hk : ∀ j, j ∉ ws → τ'[j]? = τ[j]?) (hs : ∀ j, j ∉ ws → σ'[j]? = σ[j]?) (nd : F D = none) : Lc G K κ F (del H D) σ' τ' :=
  ⟨l.sub, l'.len, l'.sh, fun i p h1 h2 => by
    have hi : i ∉ ws := fun z => by rw [hun i z] at h2; cases h2
    obtain ⟨a, e1, hF, o⟩ := l.ow i p (by rw [← hk i hi]; exact h1) h2
    exact ⟨a, by rw [hs i hi]; exact e1, hF, o⟩, l'.ap⟩

theorem compL_inner {own1 ws1 : List Nat} {tgt1 : PV → LE → Res LE} {cond1 : LE → Res Bool} {te : LE → Res PV} {wi1 : LE → Res (List PV)} {F1 H1 : Hp} {D : Addr} {done qs r1 : List PV} {Nx : Hp → Prop} (hw : ∀ j ∈ ws1, j ∈ own1) (hl : GOk κ ws1 tgt1)
    (hD : H1 D = none) (g : Grow (G := G) (K := K) F1 H1 D done F H) (l : Lc G K κ F (del H D) σ τ) (hwi : wi1 τ = .ok qs) (hc : compL tgt1 cond1 te (wipeL τ own1) qs = .ok r1) (hz : done.length + r1.length ≤ 1000000)
    (k : ∀ F' H', Grow (G := G) (K := K) F1 H1 D (done ++ r1) F' H' → Nx H') :
    tI G K true EN κ wi1 σ H fun J1 H4 => ∃ W1 : Nat → Nat → Hp → Prop, (∃ m, W1 0 m H4) ∧ ∀ j k H, W1 j k H →
      (J1.stop j H ∧ Nx H) ∨ (J1.go j H ∧ ∃ Nx1 : Hp → Prop, (∀ H', Nx1 H' → ∃ k', k' < k ∧ W1 (j + 1) k' H') ∧ ∀ x H', J1.yld j H x H' → tG G K ws1 EN κ tgt1 x (wipe σ own1) H' fun σ3 H5 => wipe σ3 own1 = wipe σ own1 ∧ tT G K EN κ cond1 σ3 H5 fun b H6 =>
        if b = true then tE G K .sh EN κ te σ3 H6 fun y H7 => ∃ acc, H7 D = some (.lst acc) ∧ acc.length < sizeLine ∧ Nx1 (upd H7 D (.lst (acc ++ [y]))) else Nx1 H6) := by
  refine ⟨F, τ, l.undel g.ext.sub, ?_⟩
  rw [hwi]
  intro J Fa Ha ea i1
  rw [if_pos rfl] at i1
  have ga := g.ext2 ea
  have la := l.ext (ea.del g.nd ga.nd)
  refine ⟨fun i m H => m = qs.length - i ∧ i ≤ qs.length ∧ ∃ F2 dn rest, Grow (G := G) (K := K) F1 H1 D (done ++ dn) F2 H ∧ Same Fa F2 ∧ Lc G K κ F2 (del H D) σ τ ∧ compL tgt1 cond1 te (wipeL τ own1) (qs.drop i) = .ok rest ∧ r1 = dn ++ rest,
    ⟨qs.length, by simp, Nat.zero_le _, Fa, [], r1, by simpa using ga, Same.refl _, la, by simpa using hc, by simp⟩, ?_⟩
  rintro i m H2 ⟨rfl, hi, F2, dn, rest, g2, s2, l2, hcr, hrs⟩
  have sB : Same Fa H2 := s2.trans g2.ext.sub
  by_cases hlt : i < qs.length
  · refine .inr ⟨i1.go i H2 sB hlt, fun H => ∃ F2 dn rest, Grow (G := G) (K := K) F1 H1 D (done ++ dn) F2 H ∧ Same Fa F2 ∧ Lc G K κ F2 (del H D) σ τ ∧ compL tgt1 cond1 te (wipeL τ own1) (qs.drop (i + 1)) = .ok rest ∧ r1 = dn ++ rest, fun H' n => ⟨qs.length - (i + 1), by omega, rfl, hlt, n⟩, fun x H3 hy => ?_⟩
    have hp : qs[i]? = some qs[i] := List.getElem?_eq_getElem hlt
    obtain ⟨F3, e3, r3⟩ := i1.yld i x H2 H3 F2 _ sB s2 g2.ext.sub hy hp
    have g3 := g2.ext2 e3
    have l3 := l2.ext (e3.del g2.nd g3.nd)
    have l3w : Lc G K κ F3 H3 (wipe σ own1) (wipeL τ own1) := (l3.undel g3.ext.sub).wipe own1
    rw [List.drop_eq_getElem_cons hlt, compL] at hcr
    obtain ⟨τ1, ht, hcr⟩ := Res.bind_ok hcr
    obtain ⟨bb, hb, hcr⟩ := Res.bind_ok hcr
    have ht := Res.nx_inv ht
    have hb := Res.nx_inv hb
    refine ⟨F3, wipeL τ own1, qs[i], l3w, r3, ?_⟩
    rw [ht]
    intro σ' l4 k4
    refine ⟨?_, ?_⟩
    · have e := wipe_same (σ := wipe σ own1) hw (Lc.len2 l3w l4 (hl.len _ _ _ ht)) k4
      rw [e, wipe_wipe]
    · refine ⟨F3, τ1, l4, ?_⟩
      rw [hb]
      intro F4 H4 e4
      have g4 := g3.ext2 e4
      have l4d := l3.ext (e4.del g3.nd g4.nd)
      cases bb with
      | true =>
        rw [if_pos rfl] at hcr ⊢
        obtain ⟨q0, hq0, hcr⟩ := Res.bind_ok hcr
        obtain ⟨r', hr', hcr⟩ := Res.bind_ok hcr
        cases hcr
        have hdn : done.length + dn.length < 1000000 := by
          have := congrArg List.length hrs
          rw [List.length_append, List.length_cons] at this
          omega
        refine ⟨F4, τ1, l4.ext e4, ?_⟩
        rw [Res.nx_inv hq0]
        intro v F5 H5 e5 r5
        have g5 := g4.ext2 e5
        obtain ⟨vs, h, r⟩ := g5.at_
        refine ⟨vs, h, by rw [r.length, List.length_append, sizeLine_eq]; omega, F5, dn ++ [q0], r', by rw [← List.append_assoc]; exact g5.push hD h r5, ((s2.trans e3.f).trans e4.f).trans e5.f, ?_, hr', by rw [hrs]; simp⟩
        rw [del_upd]
        exact l4d.ext (e5.del g4.nd g5.nd)
      | false =>
        rw [if_neg (by decide)] at hcr ⊢
        exact ⟨F4, dn, rest, g4, (s2.trans e3.f).trans e4.f, l4d, hcr, hrs⟩
  · have e : i = qs.length := by omega
    subst e
    rw [List.drop_length, compL] at hcr
    cases hcr
    rw [List.append_nil] at hrs
    subst hrs
    exact .inl ⟨i1.stop H2 sB, k F2 H2 g2⟩

theorem w_lc2 {own own1 ws ws1 : List Nat} {wi wi1 : LE → Res (List PV)} {tgt tgt1 : PV → LE → Res LE} {cond cond1 : LE → Res Bool} {te : LE → Res PV} {Q : VK} (hw : ∀ j ∈ ws, j ∈ own) (hl : GOk κ ws tgt) (hw1 : ∀ j ∈ ws1, j ∈ own1) (hl1 : GOk κ ws1 tgt1)
    (h : tE G K .fr E κ (eComp2 own wi tgt cond wi1 own1 tgt1 cond1 te) σ H Q) : tLc2 (tI G K false E κ wi) (tG G K ws EN κ tgt) (tT G K EN κ cond) (tI G K true EN κ wi1) (tG G K ws1 EN κ tgt1) (tT G K EN κ cond1) (tE G K .sh EN κ te) own own1 σ H Q := by
  obtain ⟨F, τ, l, q⟩ := h
  refine ⟨F, τ, l, ?_⟩
  unfold eComp2 at q
  cases hwi : wi τ with
  | exc c ps => rw [hwi] at q; exact q
  | bad => rw [hwi] at q; exact q
  | ok ps =>
    rw [hwi, Res.ok_bind] at q
    intro J F1 H1 e1 i1 D hD
    simp only [Bool.false_eq_true, if_false] at i1
    cases hc : (compL2 tgt cond wi1 own1 tgt1 cond1 te (wipeL τ own) ps).nx with
    | exc c fs => cases hx : compL2 tgt cond wi1 own1 tgt1 cond1 te (wipeL τ own) ps <;> rw [hx] at hc <;> cases hc
    | bad => rw [hc] at q; exact q.elim
    | ok rs =>
      rw [hc, Res.ok_bind] at q
      have hc := Res.nx_inv hc
      by_cases hz : rs.length ≤ 1000000
      case neg => rw [if_neg hz] at q; exact q.elim
      rw [if_pos hz] at q
      refine ⟨fun i m H => m = ps.length - i ∧ i ≤ ps.length ∧ LcN G K F1 H1 D (compL2 tgt cond wi1 own1 tgt1 cond1 te (wipeL τ own)) rs ps [] i H ,
        ⟨ps.length, by simp, Nat.zero_le _, F1, [], rs, ?_, by simpa using hc, by simp⟩, ?_⟩
      · exact ⟨⟨Same.refl _, same_new hD, same_updR e1.sub (Same.free e1.sub hD), fun a h1 h2 => absurd h1 h2⟩, Same.free e1.sub hD, [], upd_same, .nil⟩
      · rintro i m H2 ⟨rfl, hi, F2, done, rest, g, hcr, hrs⟩
        by_cases hlt : i < ps.length
        · refine .inr ⟨i1.go i H2 g.ext.h hlt, LcN G K F1 H1 D (compL2 tgt cond wi1 own1 tgt1 cond1 te (wipeL τ own)) rs ps [] (i + 1), fun H' n => ⟨ps.length - (i + 1), by omega, rfl, hlt, n⟩, fun x H3 hy => ?_⟩
          have hp : ps[i]? = some ps[i] := List.getElem?_eq_getElem hlt
          obtain ⟨F3, e3, r3⟩ := i1.yld i x H2 H3 F2 _ g.ext.h g.ext.f g.ext.sub hy hp
          have g3 := g.ext2 e3
          have b1 : F1 D = none := Same.free e1.sub hD
          have ed : Ext F1 H1 F3 (del H3 D) := by
            have := g3.ext.del b1 g3.nd
            rw [del_none hD] at this
            exact this
          have l3 : Lc G K κ F3 H3 (wipe σ own) (wipeL τ own) := ((l.ext e1).ext g3.ext).wipe own
          have l3d : Lc G K κ F3 (del H3 D) (wipe σ own) (wipeL τ own) := ((l.ext e1).ext ed).wipe own
          rw [List.drop_eq_getElem_cons hlt, compL2] at hcr
          obtain ⟨τ1, ht, hcr⟩ := Res.bind_ok hcr
          obtain ⟨bb, hb, hcr⟩ := Res.bind_ok hcr
          have ht := Res.nx_inv ht
          have hb := Res.nx_inv hb
          refine ⟨F3, wipeL τ own, ps[i], l3, r3, ?_⟩
          rw [ht]
          intro σ' l4 k4
          refine ⟨?_, ?_⟩
          · have e := wipe_same (σ := wipe σ own) hw (Lc.len2 l3 l4 (hl.len _ _ _ ht)) k4
            rw [e, wipe_wipe]
          · refine ⟨F3, τ1, l4, ?_⟩
            rw [hb]
            intro F4 H4 e4
            have g4 := g3.ext2 e4
            have l4d : Lc G K κ F4 (del H4 D) σ' τ1 := (l3d.redel l4 hl.un (hl.keep _ _ _ ht) k4 g3.nd).ext (e4.del g3.nd g4.nd)
            cases bb with
            | true =>
              rw [if_pos rfl] at hcr ⊢
              obtain ⟨qs, hq0, hcr⟩ := Res.bind_ok hcr
              obtain ⟨r1, hr1, hcr⟩ := Res.bind_ok hcr
              obtain ⟨r', hr', hcr⟩ := Res.bind_ok hcr
              cases hcr
              have hlen := congrArg List.length hrs
              rw [List.length_append, List.length_append] at hlen
              exact compL_inner hw1 hl1 hD g4 l4d (Res.nx_inv hq0) hr1 (by simp; omega) fun F' H' g' => ⟨F', done ++ r1, r', by simpa using g', hr', by rw [hrs]; simp⟩
            | false =>
              rw [if_neg (by decide)] at hcr ⊢
              exact ⟨F4, done, rest, g4, hcr, hrs⟩
        · have e : i = ps.length := by omega
          subst e
          rw [List.drop_length, compL2] at hcr
          cases hcr
          refine .inl ⟨i1.stop H2 g.ext.h, ?_⟩
          rw [List.append_nil] at hrs
          subst hrs
          exact q _ F2 H2 (e1.trans g.ext) ⟨D, rfl, Same.free e1.h hD, g.nd, g.at_⟩
/-- [elt for tg in iter if .. for tg1 in iter1 if ..] -/
theorem v_lc2 {tg1 iter1 : Expr} {ifs ifs1 : List Expr} {scope : Scope} {own : List (Str × Nat)} {own1 ws ws1 : List Nat} {wi wi1 : LE → Res (List PV)} {tgt tgt1 : PV → LE → Res LE} {cond cond1 : LE → Res Bool} {te : LE → Res PV} (hc : X.calm = true) (hN : X.N.Nodup)
    (hi : PI X tg iter (tI G X.K false E κ wi)) (ok : BlkOk X.N X.env.scope scope own) (hv : ∀ i ∈ own1, i ∈ own.map (·.2))
    (hg : ∀ (s : Shared) (H : Hp) (C : Addr) (cl : List (Str × Addr)) (fp : List Addr), PG (X.blk s H scope (compEnvC scope cl C X.env) fp) tg (tG G X.K ws EN κ tgt))
    (ht : ∀ (s : Shared) (H : Hp) (C : Addr) (cl : List (Str × Addr)) (fp : List Addr), PTs (X.blk s H scope (compEnvC scope cl C X.env) fp) ifs (tT G X.K EN κ cond))
    (hi1 : ∀ (s : Shared) (H : Hp) (C : Addr) (cl : List (Str × Addr)) (fp : List Addr), PI (X.blk s H scope (compEnvC scope cl C X.env) fp) tg1 iter1 (tI G X.K true EN κ wi1))
    (hg1 : ∀ (s : Shared) (H : Hp) (C : Addr) (cl : List (Str × Addr)) (fp : List Addr), PG (X.blk s H scope (compEnvC scope cl C X.env) fp) tg1 (tG G X.K ws1 EN κ tgt1))
    (ht1 : ∀ (s : Shared) (H : Hp) (C : Addr) (cl : List (Str × Addr)) (fp : List Addr), PTs (X.blk s H scope (compEnvC scope cl C X.env) fp) ifs1 (tT G X.K EN κ cond1))
    (he : ∀ (s : Shared) (H : Hp) (C : Addr) (cl : List (Str × Addr)) (fp : List Addr), PE (X.blk s H scope (compEnvC scope cl C X.env) fp) elt (tE G X.K .sh EN κ te))
    (hw : ∀ j ∈ ws, j ∈ own.map (·.2)) (hl : GOk κ ws tgt) (hw1 : ∀ j ∈ ws1, j ∈ own1) (hl1 : GOk κ ws1 tgt1) (hs : ∀ x, foldedSetIterable iter X.env x = pure x := by intro _; rfl) (hs1 : ∀ env x, foldedSetIterable iter1 env x = pure x := by intro _ _; rfl) :
    PE X (.ListComp elt [⟨tg, iter, ifs, 0⟩, ⟨tg1, iter1, ifs1, 0⟩] scope pos) (tE G X.K .fr E κ (eComp2 (own.map (·.2)) wi tgt cond wi1 own1 tgt1 cond1 te)) :=
  pe_weak (pe_lc2 hc hN hi ok hv hg ht hi1 hg1 ht1 he hs hs1) fun _ _ _ h => w_lc2 hw hl hw1 hl1 h
end
end Lp
end
section
set_option Elab.async false
set_option linter.all false
set_option maxRecDepth 100000
namespace Lp
open PySem PySem.Spec L2

def keyP : PV → Option Key
  | .int i => some (.inl i)
  | .str x => some (.inr x)
  | _ => none
def valP (kvs : List (Key × PV)) (k : Key) : Option PV := (kvs.find? fun kv => decide (kv.1 = k)).map (·.2)
def hasP (kvs : List (Key × PV)) (k : Key) : Bool := kvs.any fun kv => decide (kv.1 = k)
def setP (kvs : List (Key × PV)) (k : Key) (v : PV) : List (Key × PV) := if hasP kvs k then kvs.map fun kv => if kv.1 = k then (kv.1, v) else kv else kvs ++ [(k, v)]
def dropP (kvs : List (Key × PV)) (k : Key) : List (Key × PV) := kvs.filter fun kv => decide (kv.1 ≠ k)
section
variable {G : GW} {K : PySem.W.Frag} {F H F' H' F0 H0 B : Hp} {X : Cx} {v x y : V} {p : PV} {κ : Kd} {E : St → XK} {m md : Mode} {e a b tg iter elt : Expr} {es : List Expr} {pos : Pos} {σ : St} {τ : LE}
theorem keyP_rep {k : Key} (r : Rep G K F v p) (h : keyP p = some k) : v = kV k := by
  unfold keyP at h
  split at h
  · cases h; exact r.int_inv
  · cases h; exact r.str_inv
  · cases h
theorem kV_rep : ∀ k : Key, Rep G K F (kV k) (match k with | .inl i => .int i | .inr x => .str x)
  | .inl i => .int i
  | .inr x => .str x
theorem RepK.val {k : Key} : ∀ {kvs : List (Key × V)} {ps : List (Key × PV)}, RepK G K F kvs ps → (valV kvs k = none ∧ valP ps k = none) ∨ ∃ v p, valV kvs k = some v ∧ valP ps k = some p ∧ Rep G K F v p
  | _, _, .nil => .inl ⟨rfl, rfl⟩
  | _, _, .cons (k := j) r rs => by
    by_cases h : j = k
    · subst h
      refine .inr ⟨_, _, ?_, ?_, r⟩
      · exact valV_pos rfl
      · unfold valP; simp
    · rcases RepK.val rs with ⟨h1, h2⟩ | ⟨v, p, h1, h2, h3⟩
      · refine .inl ⟨(valV_neg h).trans h1, ?_⟩
        unfold valP at h2 ⊢
        simp only [List.find?_cons, h, decide_false]
        exact h2
      · refine .inr ⟨v, p, (valV_neg h).trans h1, ?_, h3⟩
        unfold valP at h2 ⊢
        simp only [List.find?_cons, h, decide_false]
        exact h2
theorem hasP_val (kvs : List (Key × PV)) (k : Key) : hasP kvs k = (valP kvs k).isSome := by
  unfold hasP valP
  induction kvs with
  | nil => rfl
  | cons kv r ih =>
    rw [List.any_cons, List.find?_cons]
    by_cases h : kv.1 = k
    · simp [h]
    · simp only [h, decide_false, Bool.false_or]; exact ih
theorem RepK.any {k : Key} : ∀ {kvs : List (Key × V)} {ps : List (Key × PV)}, RepK G K F kvs ps → (kvs.any fun kv => decide (kv.1 = k)) = hasP ps k
  | _, _, .nil => rfl
  | _, _, .cons r rs => by
    unfold hasP
    rw [List.any_cons, List.any_cons, RepK.any rs]
    rfl
theorem RepK.append : ∀ {a b : List (Key × V)} {c d : List (Key × PV)}, RepK G K F a c → RepK G K F b d → RepK G K F (a ++ b) (c ++ d)
  | _, _, _, _, .nil, s => s
  | _, _, _, _, .cons r rs, s => .cons r (RepK.append rs s)
theorem RepK.mapSet {k : Key} (r : Rep G K F v p) : ∀ {kvs : List (Key × V)} {ps : List (Key × PV)}, RepK G K F kvs ps → RepK G K F (kvs.map fun kv => if kv.1 = k then (kv.1, v) else kv) (ps.map fun kv => if kv.1 = k then (kv.1, p) else kv)
  | _, _, .nil => .nil
  | _, _, .cons (k := j) q rs => by
    rw [List.map_cons, List.map_cons]
    by_cases h : j = k
    · simp only [h, if_true]; exact .cons r (RepK.mapSet r rs)
    · simp only [h, if_false]; exact .cons q (RepK.mapSet r rs)
theorem RepK.set {k : Key} {kvs : List (Key × V)} {ps : List (Key × PV)} (h : RepK G K F kvs ps) (r : Rep G K F v p) : RepK G K F (putK kvs k v) (setP ps k p) := by
  unfold putK setP
  rw [h.any]
  by_cases hh : hasP ps k = true
  · rw [if_pos hh, if_pos hh]; exact RepK.mapSet r h
  · rw [if_neg hh, if_neg hh]; exact RepK.append h (.cons r .nil)
theorem RepK.drop {k : Key} : ∀ {kvs : List (Key × V)} {ps : List (Key × PV)}, RepK G K F kvs ps → RepK G K F (dropK kvs k) (dropP ps k)
  | _, _, .nil => .nil
  | _, _, .cons (k := j) r rs => by
    unfold dropK dropP
    by_cases h : j = k
    · simp only [List.filter_cons, h, ne_eq, not_true, decide_false, Bool.false_eq_true, if_false]
      exact RepK.drop rs
    · simp only [List.filter_cons, h, ne_eq, not_false_eq_true, decide_true, if_true]
      exact .cons r (RepK.drop rs)

/-! ### d[k], k in d -/
def pDGet : PV → PV → Option PV
  | .dK kvs, q => (keyP q).bind (valP kvs)
  | _, _ => none
def pDIn (n : Bool) : PV → PV → Option PV
  | q, .dK kvs => (keyP q).map fun k => .bl (n ^^ hasP kvs k)
  | _, _ => none
variable {f f' : LE → Res PV}
theorem v_dget (hu : X.A.units + 1 < cLine) (ha : PE X a (tE G K .top E κ f)) (hb : PE X b (tE G K .sh E κ f')) (hs : NoSl b := by exact fun _ _ => rfl) : PE X (.Subscript a b pos) (tE G K .sh E κ (e2 pDGet f f')) :=
  pe_weak (pe_dget hu ha hb hs) fun σ H Q ⟨F, τ, l, q⟩ => by
    refine ⟨F, τ, l, ?_⟩
    unfold e2 at q
    cases hf : f τ with
    | exc c ps => rw [hf] at q; exact q
    | bad => rw [hf] at q; exact q
    | ok p =>
      rw [hf] at q
      intro v F1 H1 e1 r1
      refine ⟨F1, τ, l.ext e1, ?_⟩
      cases hf' : f' τ with
      | exc c ps => rw [Res.ok_bind, hf'] at q; exact ExcOk.ext q e1
      | bad => rw [Res.ok_bind, hf'] at q; exact q
      | ok p' =>
        rw [Res.ok_bind, hf', Res.ok_bind] at q
        intro v' F2 H2 e2 r2
        cases p with
        | dK kvs =>
          unfold pDGet at q
          cases hk : keyP p' with
          | none => simp only [hk, Option.bind_none, up_none] at q
          | some k =>
            simp only [hk, Option.bind_some] at q
            obtain ⟨d, kv, rfl, hd, rr⟩ := (Top.ext r1 e2).dK_inv e2.sub
            obtain rfl := keyP_rep r2 hk
            rcases rr.val (k := k) with ⟨h1, h2⟩ | ⟨w, p0, h1, h2, h3⟩
            · rw [h2] at q; exact q.elim
            · rw [h2] at q
              exact ⟨d, w, rfl, by rw [← h1]; exact DGet.k hd, q w F2 H2 (e1.trans e2) h3⟩
        | _ => exact q.elim
theorem w_din {n : Bool} {t : TE} {σ : St} {H : Hp} {Q : VK} (h : tE G K .sh E κ (e2 (pDIn n) f f') σ H Q) :
    tE G K .sh E κ f σ H fun y H1 => tE G K .top E κ f' σ H1 fun x H2 => ∃ a o, x = .ref a ∧ DGet H2 a y o ∧ Q (.bl (n ^^ o.isSome)) H2 := by
  obtain ⟨F, τ, l, q⟩ := h
  refine ⟨F, τ, l, ?_⟩
  unfold e2 at q
  cases hf : f τ with
  | exc c ps => rw [hf] at q; exact q
  | bad => rw [hf] at q; exact q
  | ok p =>
    rw [hf] at q
    intro v F1 H1 e1 r1
    refine ⟨F1, τ, l.ext e1, ?_⟩
    cases hf' : f' τ with
    | exc c ps => rw [Res.ok_bind, hf'] at q; exact ExcOk.ext q e1
    | bad => rw [Res.ok_bind, hf'] at q; exact q
    | ok p' =>
      rw [Res.ok_bind, hf', Res.ok_bind] at q
      intro v' F2 H2 e2 r2
      cases p' with
      | dK kvs =>
        unfold pDIn at q
        cases hk : keyP p with
        | none => simp only [hk, Option.map_none, up_none] at q
        | some k =>
          simp only [hk, Option.map_some, up_some] at q
          obtain ⟨d, kv, rfl, hd, rr⟩ := r2.dK_inv e2.sub
          obtain rfl := keyP_rep r1 hk
          refine ⟨d, _, rfl, DGet.k hd, ?_⟩
          have hh : (valV kv k).isSome = hasP kvs k := by
            rw [hasP_val]
            rcases rr.val (k := k) with ⟨h1, h2⟩ | ⟨w, p0, h1, h2, h3⟩
            · rw [h1, h2]; rfl
            · rw [h1, h2]; rfl
          rw [hh]
          exact q _ F2 H2 (e1.trans e2) (.bl _)
      | _ => unfold pDIn at q; exact q.elim
theorem v_din (hu : X.A.units + 1 < cLine) (ha : PE X a (tE G K .sh E κ f)) (hb : PE X b (tE G K .top E κ f')) (h1 : behindInMarks .In b = false := by first | rfl | with_unfolding_all rfl) : PE X (.Compare a [.In] [b] pos) (tE G K .sh E κ (e2 (pDIn false) f f')) :=
  pe_weak (pe_cmp (pc_din hu ha hb) h1) fun σ H Q h => by have q := w_din (t := tC .non) h; simp only [Bool.false_xor] at q; exact q
theorem v_dnin (hu : X.A.units + 1 < cLine) (ha : PE X a (tE G K .sh E κ f)) (hb : PE X b (tE G K .top E κ f')) (h1 : behindInMarks .NotIn b = false := by first | rfl | with_unfolding_all rfl) : PE X (.Compare a [.NotIn] [b] pos) (tE G K .sh E κ (e2 (pDIn true) f f')) :=
  pe_weak (pe_cmp (pc_dnotin hu ha hb) h1) fun σ H Q h => by have q := w_din (t := tC .non) h; simp only [Bool.true_xor] at q; exact q
theorem t_din (hu : X.A.units + 1 < cLine) (ha : PE X a (tE G K .sh E κ f)) (hb : PE X b (tE G K .top E κ f')) (h1 : behindInMarks .In b = false := by first | rfl | with_unfolding_all rfl) : PT X (.Compare a [.In] [b] pos) (tT G K E κ (tst (e2 (pDIn false) f f'))) :=
  pt_weak (pt_cmp (pc_din hu ha hb) h1) fun σ H Q q => w_tst (fun σ H Q h => by have q := w_din (t := tC .non) h; simp only [Bool.false_xor] at q; exact q) q
theorem t_dnin (hu : X.A.units + 1 < cLine) (ha : PE X a (tE G K .sh E κ f)) (hb : PE X b (tE G K .top E κ f')) (h1 : behindInMarks .NotIn b = false := by first | rfl | with_unfolding_all rfl) : PT X (.Compare a [.NotIn] [b] pos) (tT G K E κ (tst (e2 (pDIn true) f f'))) :=
  pt_weak (pt_cmp (pc_dnotin hu ha hb) h1) fun σ H Q q => w_tst (fun σ H Q h => by have q := w_din (t := tC .non) h; simp only [Bool.true_xor] at q; exact q) q
/-- {} -/
theorem v_dnew : PE X (.Dict [] [] pos) (tE G K .fr E κ (eC (.dK []))) := pe_weak pe_dnewK fun σ H Q ⟨F, τ, l, q⟩ p np =>
  q (.ref p) F _ (Ext.pushOwn _ (Ext.refl l.sub) np) ⟨p, rfl, np, Same.free l.sub np, [], upd_same, .nil⟩

/-! ### {k: v for ..} -/
def dcL (tgt : PV → LE → Res LE) (cond : LE → Res Bool) (ek ev : LE → Res PV) (τ : LE) : List (Key × PV) → List PV → Res (List (Key × PV))
  | acc, [] => .ok acc
  | acc, p :: ps => (tgt p τ).nx >>= fun τ1 => (cond τ1).nx >>= fun b =>
    if b = true then (ek τ1).nx >>= fun q => (ev τ1).nx >>= fun r => match keyP q with
      | some k => dcL tgt cond ek ev τ (setP acc k r) ps
      | none => .bad
    else dcL tgt cond ek ev τ acc ps
def eDComp (own : List Nat) (it : LE → Res (List PV)) (tgt : PV → LE → Res LE) (cond : LE → Res Bool) (ek ev : LE → Res PV) : LE → Res PV := fun τ => it τ >>= fun ps => (dcL tgt cond ek ev (wipeL τ own) [] ps).nx >>= fun rs => .ok (.dK rs)
theorem setP_len (kvs : List (Key × PV)) (k : Key) (v : PV) : (setP kvs k v).length ≤ kvs.length + 1 := by
  unfold setP
  split <;> simp
structure GrowD (G : GW) (K : PySem.W.Frag) (F1 H1 : Hp) (D : Addr) (done : List (Key × PV)) (F H : Hp) : Prop where
  ext : Ext F1 H1 F H
  nd : F D = none
  at_ : ∃ vs, H D = some (.dK vs) ∧ RepK G K F vs done
theorem GrowD.ext2 {F1 H1 F2 H2 : Hp} {D : Addr} {done : List (Key × PV)} (g : GrowD G K F1 H1 D done F H) (e : Ext F H F2 H2) : GrowD G K F1 H1 D done F2 H2 := by
  obtain ⟨vs, h, r⟩ := g.at_
  exact ⟨g.ext.trans e, e.apart g.nd h, vs, e.h _ _ h, RepK.mono e.f r⟩
theorem w_dc {own ws : List Nat} {wi : LE → Res (List PV)} {tgt : PV → LE → Res LE} {cond : LE → Res Bool} {ek ev : LE → Res PV} {Q : VK} (hw : ∀ j ∈ ws, j ∈ own) (hl : GOk κ ws tgt)
    (h : tE G K .fr E κ (eDComp own wi tgt cond ek ev) σ H Q) : tDc (tI G K false E κ wi) (tG G K ws EN κ tgt) (tT G K EN κ cond) (tE G K .sh EN κ ek) (tE G K .sh EN κ ev) own σ H Q := by
  obtain ⟨F, τ, l, q⟩ := h
  refine ⟨F, τ, l, ?_⟩
  unfold eDComp at q
  cases hwi : wi τ with
  | exc c ps => rw [hwi] at q; exact q
  | bad => rw [hwi] at q; exact q
  | ok ps =>
    rw [hwi, Res.ok_bind] at q
    intro J F1 H1 e1 i1 D hD
    simp only [Bool.false_eq_true, if_false] at i1
    cases hc : (dcL tgt cond ek ev (wipeL τ own) [] ps).nx with
    | exc c fs => cases hx : dcL tgt cond ek ev (wipeL τ own) [] ps <;> rw [hx] at hc <;> cases hc
    | bad => rw [hc] at q; exact q.elim
    | ok rs =>
      rw [hc, Res.ok_bind] at q
      have hc := Res.nx_inv hc
      refine ⟨fun i m H => m = ps.length - i ∧ i ≤ ps.length ∧ ∃ F acc, GrowD G K F1 H1 D acc F H ∧ acc.length ≤ i ∧ dcL tgt cond ek ev (wipeL τ own) acc (ps.drop i) = .ok rs,
        ⟨ps.length, by simp, Nat.zero_le _, F1, [], ?_, Nat.le_refl _, by simpa using hc⟩, ?_⟩
      · exact ⟨⟨Same.refl _, same_new hD, same_updR e1.sub (Same.free e1.sub hD), fun a h1 h2 => absurd h1 h2⟩, Same.free e1.sub hD, [], upd_same, .nil⟩
      · rintro i m H2 ⟨rfl, hi, F2, acc, g, hal, hcr⟩
        by_cases hlt : i < ps.length
        · refine .inr ⟨i1.go i H2 g.ext.h hlt, fun H => ∃ F acc, GrowD G K F1 H1 D acc F H ∧ acc.length ≤ i + 1 ∧ dcL tgt cond ek ev (wipeL τ own) acc (ps.drop (i + 1)) = .ok rs, fun H' n => ⟨ps.length - (i + 1), by omega, rfl, hlt, n⟩, fun x H3 hy => ?_⟩
          have hp : ps[i]? = some ps[i] := List.getElem?_eq_getElem hlt
          obtain ⟨F3, e3, r3⟩ := i1.yld i x H2 H3 F2 _ g.ext.h g.ext.f g.ext.sub hy hp
          have g3 := g.ext2 e3
          have l3 : Lc G K κ F3 H3 (wipe σ own) (wipeL τ own) := ((l.ext e1).ext g3.ext).wipe own
          rw [List.drop_eq_getElem_cons hlt, dcL] at hcr
          obtain ⟨τ1, ht, hcr⟩ := Res.bind_ok hcr
          obtain ⟨bb, hb, hcr⟩ := Res.bind_ok hcr
          have ht := Res.nx_inv ht
          have hb := Res.nx_inv hb
          refine ⟨F3, wipeL τ own, ps[i], l3, r3, ?_⟩
          rw [ht]
          intro σ' l4 k4
          refine ⟨?_, ?_⟩
          · have e := wipe_same (σ := wipe σ own) hw (Lc.len2 l3 l4 (hl.len _ _ _ ht)) k4
            rw [e, wipe_wipe]
          · refine ⟨F3, τ1, l4, ?_⟩
            rw [hb]
            intro F4 H4 e4
            have g4 := g3.ext2 e4
            cases bb with
            | true =>
              rw [if_pos rfl] at hcr ⊢
              obtain ⟨q0, hq0, hcr⟩ := Res.bind_ok hcr
              obtain ⟨r0, hr0, hcr⟩ := Res.bind_ok hcr
              cases hk : keyP q0 with
              | none => rw [hk] at hcr; cases hcr
              | some k =>
                rw [hk] at hcr
                refine ⟨F4, τ1, l4.ext e4, ?_⟩
                rw [Res.nx_inv hq0]
                intro v5 F5 H5 e5 r5
                refine ⟨F5, τ1, (l4.ext e4).ext e5, ?_⟩
                rw [Res.nx_inv hr0]
                intro v6 F6 H6 e6 r6
                have g6 := (g4.ext2 e5).ext2 e6
                obtain ⟨vs, h, r⟩ := g6.at_
                have hvl : vs.length < sizeLine := by rw [r.length]; have := i1.len; omega
                refine ⟨vs, k, keyP_rep r5 hk, h, hvl, F6, setP acc k r0, ?_, ?_, hcr⟩
                · exact ⟨⟨g6.ext.f, same_updR g6.ext.h hD, same_updR g6.ext.sub g6.nd, g6.ext.new⟩, g6.nd, _, upd_same, RepK.set r r6⟩
                · have := setP_len acc k r0; omega
            | false =>
              rw [if_neg (by decide)] at hcr ⊢
              exact ⟨F4, acc, g4, by omega, hcr⟩
        · have e : i = ps.length := by omega
          subst e
          rw [List.drop_length, dcL] at hcr
          cases hcr
          exact .inl ⟨i1.stop H2 g.ext.h, q _ F2 H2 (e1.trans g.ext) ⟨D, rfl, Same.free e1.h hD, g.nd, g.at_⟩⟩
theorem v_dc {kx vx : Expr} {ifs : List Expr} {scope : Scope} {own : List (Str × Nat)} {ws : List Nat} {wi : LE → Res (List PV)} {tgt : PV → LE → Res LE} {cond : LE → Res Bool} {ek ev : LE → Res PV} (hc : X.calm = true) (hN : X.N.Nodup)
    (hi : PI X tg iter (tI G X.K false E κ wi)) (ok : BlkOk X.N X.env.scope scope own)
    (hg : ∀ (s : Shared) (H : Hp) (C : Addr) (cl : List (Str × Addr)) (fp : List Addr), PG (X.blk s H scope (compEnvC scope cl C X.env) fp) tg (tG G X.K ws EN κ tgt))
    (ht : ∀ (s : Shared) (H : Hp) (C : Addr) (cl : List (Str × Addr)) (fp : List Addr), PTs (X.blk s H scope (compEnvC scope cl C X.env) fp) ifs (tT G X.K EN κ cond))
    (hk : ∀ (s : Shared) (H : Hp) (C : Addr) (cl : List (Str × Addr)) (fp : List Addr), PE (X.blk s H scope (compEnvC scope cl C X.env) fp) kx (tE G X.K .sh EN κ ek))
    (he : ∀ (s : Shared) (H : Hp) (C : Addr) (cl : List (Str × Addr)) (fp : List Addr), PE (X.blk s H scope (compEnvC scope cl C X.env) fp) vx (tE G X.K .sh EN κ ev))
    (hw : ∀ j ∈ ws, j ∈ own.map (·.2)) (hl : GOk κ ws tgt) (hs : ∀ x, foldedSetIterable iter X.env x = pure x := by intro _; rfl) :
    PE X (.DictComp kx vx [⟨tg, iter, ifs, 0⟩] scope pos) (tE G X.K .fr E κ (eDComp (own.map (·.2)) wi tgt cond ek ev)) :=
  pe_weak (pe_dc hc hN hi ok hg ht hk he hs) fun _ _ _ h => w_dc hw hl h
end
end Lp
end
section
set_option Elab.async false
set_option linter.all false
set_option maxRecDepth 100000
namespace L2
open PySem PySem.Spec PyProof.Rows
/-- xs.remove(y) over flat values -/
def rRemV : V → List V → Hp → VK → Prop := fun x xs H Q => ∃ (l : Addr) (ys : List V) (y : V) (j : Nat) (z : V), x = V.ref l ∧ xs = [y] ∧ H l = some (.lst ys) ∧ flatV y = true ∧ ys.all flatV = true ∧ ys[j]? = some z ∧ eqV z y = true ∧
  (∀ (m : Nat) (z' : V), m < j → ys[m]? = some z' → eqV z' y = false) ∧ Q .non (upd H l (.lst (ys.eraseIdx j)))
theorem mt_removeV {X : Cx} : MtM X "list.remove" rRemV := by
  intro pins s σ H x xs v us Q I rx rxs h
  obtain ⟨a, ys, y, j, z, rfl, rfl, hs, fy, fys, hz, hzj, hno, q⟩ := h
  cases rx
  cases rxs with
  | cons ry rt =>
    rename_i uy ut
    cases rt
    obtain ⟨hz', its, n, rv, hvl, ho⟩ := I.lstM hs
    obtain ⟨u, hu, ru⟩ := rv.get hz
    obtain ⟨hjl, hje⟩ := List.getElem?_eq_some_iff.mp hu
    have hj : j < its.toArray.size := by simpa using hjl
    have hsl := sizeLine_eq
    refine call_meets PySem.F.slot_list_remove ⟨_, ho, rfl⟩ PySem.F.entry_list_remove (PySem.F.args_list_remove_2 _ _)
      (SeqAt.list_removeAt a its.toArray n none #[] uy (eqU y) j hj ?_ ?_ (by rw [List.size_toArray]; omega)) ⟨ho, fun u' hu' => mem_eqAt ry fy rv fys u' (by simpa using hu'), ?_⟩
    · have e1 : its.toArray[j] = u := by simpa using hje
      rw [e1, eqU_of ru (flat_at fys hz)]
      exact hzj
    · intro m hm hmj
      have hml : m < its.length := by simpa using hm
      have hmy : m < ys.length := by omega
      have hy' : ys[m]? = some ys[m] := List.getElem?_eq_getElem hmy
      obtain ⟨u2, hu2, ru2⟩ := rv.get hy'
      obtain ⟨_, hme⟩ := List.getElem?_eq_some_iff.mp hu2
      have e1 : its.toArray[m] = u2 := by simpa using hme
      rw [e1, eqU_of ru2 (flat_at fys hy')]
      exact hno m _ hmj hy'
    · have rr := rv.eraseIdx j
      refine ⟨.non, _, I.lset (its' := its.eraseIdx j) (t' := s.toks) hs ho ?_ rr ?_, rfl, q⟩
      · show its.toArray.eraseIdxIfInBounds j = (its.eraseIdx j).toArray
        rw [List.eraseIdxIfInBounds_toArray]
      · have z2 := len_erase ys j
        omega
end L2
namespace Lp
open PySem PySem.Spec L2

/-- how a statement ends -/
inductive Fl where
  | nx (τ : LE) | bk (τ : LE) | ct (τ : LE) | rt (p : PV) | ex (c : Nat) (fs : List (Str × PV)) (τ : LE) | bad
def rs {α : Type} (r : Res α) (τ : LE) (k : α → Fl) : Fl := match r with
  | .ok a => k a
  | .exc c fs => .ex c fs τ
  | .bad => .bad
@[simp] theorem rs_ok {α : Type} (a : α) (τ : LE) (k : α → Fl) : rs (.ok a) τ k = k a := (rfl)
@[simp] theorem rs_exc {α : Type} (c fs) (τ : LE) (k : α → Fl) : rs (.exc c fs) τ k = .ex c fs τ := (rfl)
@[simp] theorem rs_bad {α : Type} (τ : LE) (k : α → Fl) : rs .bad τ k = .bad := (rfl)

section
variable (G : GW) (K : PySem.W.Frag)
/-- the state within a def: F0, H0 its entry -/
structure Ls (κ : Kd) (zs : Option Addr) (F0 H0 F H : Hp) (σ : St) (τ : LE) : Prop where
  lc : Lc G K κ F H σ τ
  ext : Ext F0 H0 F H
  new : ∀ i p a, κ i = true → τ[i]? = some (some p) → σ[i]? = some (some (.ref a)) → H0 a = none
  me : ∀ a, zs = some a → κ 0 = true ∧ σ[0]? = some (some (.ref a))
def tStm (E : St → XK) (κ : Kd) (rm : Mode) (m : LE → Fl) : TS := fun D σ H => ∃ F0 H0 F τ zs, Ls G K κ zs F0 H0 F H σ τ ∧ match m τ with
  | .nx τ' => ∀ σ' F' H', Ls G K κ zs F0 H0 F' H' σ' τ' → D.nx σ' H'
  | .bk τ' => ∀ σ' F' H', Ls G K κ zs F0 H0 F' H' σ' τ' → D.bk σ' H'
  | .ct τ' => ∀ σ' F' H', Ls G K κ zs F0 H0 F' H' σ' τ' → D.ct σ' H'
  | .rt p => ∀ v F' H', Ext F0 H0 F' H' → RM G K rm H0 F' H' v p → D.rt v H'
  | .ex c ps τ' => ∀ σ' F' H' d fs, Ls G K κ zs F0 H0 F' H' σ' τ' → F' d = some (.xd fs) → RepF G K F' fs ps → E σ' (.ref (G c)) (some d) H'
  | .bad => False
end
section
variable {G : GW} {K : PySem.W.Frag} {F H F' H' F0 H0 B : Hp} {X : Cx} {v x y : V} {p : PV} {κ : Kd} {E : St → XK} {m md rm : Mode} {e a b tg iter elt : Expr} {es : List Expr} {pos : Pos} {zs : Option Addr} {σ : St} {τ : LE}
theorem Ls.of_ext (l : Ls G K κ zs F0 H0 F H σ τ) (e : Ext F H F' H') : Ls G K κ zs F0 H0 F' H' σ τ := ⟨l.lc.ext e, l.ext.trans e, l.new, l.me⟩
theorem Ls.exc {c : Nat} {ps : List (Str × PV)} (l : Ls G K κ zs F0 H0 F H σ τ) (q : ∀ σ' F' H' d fs, Ls G K κ zs F0 H0 F' H' σ' τ → F' d = some (.xd fs) → RepF G K F' fs ps → E σ' (.ref (G c)) (some d) H') : ExcOk G K (E σ) F H c ps :=
  fun d fs F' H' e h1 h2 => q σ F' H' d fs (l.of_ext e) h1 h2
/-! ### blocks -/
def sSeq (m1 m2 : LE → Fl) : LE → Fl := fun τ => match m1 τ with
  | .nx τ' => m2 τ'
  | r => r
def sNil : LE → Fl := fun τ => .nx τ
variable {st : Stmt} {sts : List Stmt} {m1 m2 : LE → Fl}
theorem ss_nil : PSs X [] (tStm G K E κ rm sNil) := pss_weak pss_nil fun D σ H ⟨F0, H0, F, τ, zs, l, q⟩ => q σ F H l
theorem ss_cons (h1 : PS X st (tStm G K E κ rm m1)) (h2 : PSs X sts (tStm G K E κ rm m2)) : PSs X (st :: sts) (tStm G K E κ rm (sSeq m1 m2)) := pss_weak (pss_cons h1 h2) fun D σ H ⟨F0, H0, F, τ, zs, l, q⟩ => by
  refine ⟨F0, H0, F, τ, zs, l, ?_⟩
  unfold sSeq at q
  cases h : m1 τ with
  | nx τ' => simp only [h] at q; exact fun σ' F' H' l' => ⟨F0, H0, F', τ', zs, l', q⟩
  | bk τ' => simp only [h] at q; exact q
  | ct τ' => simp only [h] at q; exact q
  | rt p => simp only [h] at q; exact q
  | ex c ps τ' => simp only [h] at q; exact q
  | bad => simp only [h] at q
theorem ss_one (h1 : PS X st (tStm G K E κ rm m1)) : PSs X [st] (tStm G K E κ rm m1) := pss_one h1
theorem s_pass : PS X (.Pass pos) (tStm G K E κ rm sNil) := ps_weak ps_pass fun D σ H ⟨F0, H0, F, τ, zs, l, q⟩ => q σ F H l
theorem s_break : PS X (.Break pos) (tStm G K E κ rm .bk) := ps_weak ps_break fun D σ H ⟨F0, H0, F, τ, zs, l, q⟩ => q σ F H l
theorem s_continue : PS X (.Continue pos) (tStm G K E κ rm .ct) := ps_weak ps_continue fun D σ H ⟨F0, H0, F, τ, zs, l, q⟩ => q σ F H l
/-! ### if -/
def sIf (t : LE → Res Bool) (m1 m2 : LE → Fl) : LE → Fl := fun τ => rs (t τ) τ fun b => if b = true then m1 τ else m2 τ
theorem s_if {c : Expr} {s1 s2 : List Stmt} {t : LE → Res Bool} (hc : PT X c (tT G K E κ t)) (h1 : PSs X s1 (tStm G K E κ rm m1)) (h2 : PSs X s2 (tStm G K E κ rm m2)) : PS X (.If c s1 s2 pos) (tStm G K E κ rm (sIf t m1 m2)) :=
  ps_weak (ps_if hc h1 h2) fun D σ H ⟨F0, H0, F, τ, zs, l, q⟩ => by
    refine ⟨F, τ, l.lc, ?_⟩
    unfold sIf at q
    cases h : t τ with
    | exc c ps => rw [h] at q; exact l.exc q
    | bad => rw [h] at q; exact q
    | ok b =>
      rw [h, rs_ok] at q
      intro F1 H1 e1
      cases b with
      | true => rw [if_pos rfl] at q ⊢; exact ⟨F0, H0, F1, τ, zs, l.of_ext e1, q⟩
      | false => rw [if_neg (by decide)] at q ⊢; exact ⟨F0, H0, F1, τ, zs, l.of_ext e1, q⟩
/-! ### return, an expression alone -/
def sRet (f : LE → Res PV) : LE → Fl := fun τ => rs (f τ) τ .rt
def sRetN : LE → Fl := fun _ => .rt .non
def sExpr (f : LE → Res PV) : LE → Fl := fun τ => rs (f τ) τ fun _ => .nx τ
variable {f f' : LE → Res PV}
theorem s_ret (h : PE X e (tE G K rm E κ f)) : PS X (.Return (some e) pos) (tStm G K E κ rm (sRet f)) := ps_weak (ps_ret h) fun D σ H ⟨F0, H0, F, τ, zs, l, q⟩ => by
  refine ⟨F, τ, l.lc, ?_⟩
  unfold sRet at q
  cases h : f τ with
  | exc c ps => rw [h] at q; exact l.exc q
  | bad => rw [h] at q; exact q
  | ok p => rw [h, rs_ok] at q; exact fun v F1 H1 e1 r1 => q v F1 H1 (l.ext.trans e1) (r1.before l.ext.h)
theorem s_retN : PS X (.Return none pos) (tStm G K E κ .sh sRetN) := ps_weak ps_retN fun D σ H ⟨F0, H0, F, τ, zs, l, q⟩ => q _ F H l.ext .non
/-- return of an owned slot: as a new object -/
theorem s_retO (i : Nat) {x : Str} {p' : Pos} (k : κ i = true := by rfl) (hN : X.N[i]? = some x := by rfl) (hv : Vis X.env.scope x := by first | exact Or.inl rfl | exact Or.inr (Or.inl rfl) | exact Or.inr (Or.inr rfl)) (hd : (x == ("__debug__" : Str)) = false := by decide)
    (hcd : (x == ("__classdict__" : Str)) = false := by decide) : PS X (.Return (some (.Name x p')) pos) (tStm G K E κ .fr (sRet (eVar i))) := ps_weak (ps_ret (pe_var hN hv hd hcd)) fun D σ H ⟨F0, H0, F, τ, zs, l, q⟩ => by
  unfold sRet eVar at q
  cases h : τ[i]? with
  | none => rw [h] at q; exact q.elim
  | some o =>
    cases o with
    | none => rw [h] at q; exact q.elim
    | some p =>
      rw [h] at q
      obtain ⟨a, e1, hF, r⟩ := l.lc.ow i p h k
      exact ⟨.ref a, e1, q _ F H l.ext ⟨a, rfl, l.new i p a k h e1, hF, r⟩⟩
/-- .. shared -/
theorem s_retF (i : Nat) {x : Str} {p' : Pos} (k : κ i = true := by rfl) (hN : X.N[i]? = some x := by rfl) (hv : Vis X.env.scope x := by first | exact Or.inl rfl | exact Or.inr (Or.inl rfl) | exact Or.inr (Or.inr rfl)) (hd : (x == ("__debug__" : Str)) = false := by decide)
    (hcd : (x == ("__classdict__" : Str)) = false := by decide) : PS X (.Return (some (.Name x p')) pos) (tStm G K E κ .sh (sRet (eVar i))) := ps_weak (ps_ret (pe_var hN hv hd hcd)) fun D σ H ⟨F0, H0, F, τ, zs, l, q⟩ => by
  unfold sRet eVar at q
  cases h : τ[i]? with
  | none => rw [h] at q; exact q.elim
  | some o =>
    cases o with
    | none => rw [h] at q; exact q.elim
    | some p =>
      rw [h] at q
      obtain ⟨a, e1, hF, r⟩ := l.lc.ow i p h k
      obtain ⟨F2, e2, r2⟩ := l.ext.freeze (l.new i p a k h e1) hF r
      exact ⟨.ref a, e1, q _ F2 H e2 r2⟩
theorem s_expr (h : PE X e (tE G K m E κ f)) (hs : swapsWith e none pos.line X.env = pure false := by rfl) : PS X (.Expr e pos) (tStm G K E κ rm (sExpr f)) := ps_weak (ps_expr h hs) fun D σ H ⟨F0, H0, F, τ, zs, l, q⟩ => by
  refine ⟨F, τ, l.lc, ?_⟩
  unfold sExpr at q
  cases h : f τ with
  | exc c ps => rw [h] at q; exact l.exc q
  | bad => rw [h] at q; exact q
  | ok p => rw [h, rs_ok] at q; exact fun v F1 H1 e1 _ => q σ F1 H1 (l.of_ext e1)
/-! ### name = value, target = value -/
def sSet (i : Nat) (f : LE → Res PV) : LE → Fl := fun τ => rs (f τ) τ fun p => if i < τ.length then .nx (τ.set i (some p)) else .bad
theorem Ls.set {i : Nat} (l : Ls G K κ zs F0 H0 F H σ τ) (k : κ i = false) (hi : i < τ.length) (r : Rep G K F v p) : Ls G K κ zs F0 H0 F H (σ.set i (some v)) (τ.set i (some p)) :=
  ⟨l.lc.set k hi r, l.ext, fun j q a h1 h2 h3 => by
    have hj : i ≠ j := fun e => by subst e; rw [k] at h1; cases h1
    rw [List.getElem?_set_ne hj] at h2 h3
    exact l.new j q a h1 h2 h3, fun a e => ⟨(l.me a e).1, by
    rw [List.getElem?_set_ne fun z => by rw [z] at k; rw [(l.me a e).1] at k; cases k]
    exact (l.me a e).2⟩⟩
theorem s_set (i : Nat) {x : Str} {pos' : Pos} (h : PE X e (tE G K .sh E κ f)) (hN : X.N.Nodup) (k : κ i = false := by rfl) (hi : X.N[i]? = some x := by rfl) (hx : Loc X.env.scope x := by first | exact .inl rfl | exact .inr rfl) (hs : swapsWith e (some (.Name x pos')) pos.line X.env = pure false := by rfl)
    (hf : X.fn x = true ∨ X.env.scope.names.lookup x = some .local := by first | exact .inl rfl | exact .inr rfl | assumption) : PS X (.Assign [.Name x pos'] e pos) (tStm G K E κ rm (sSet i f)) := ps_weak (ps_set hN hi hx h hs hf) fun D σ H ⟨F0, H0, F, τ, zs, l, q⟩ => by
  refine ⟨F, τ, l.lc, ?_⟩
  unfold sSet at q
  cases h : f τ with
  | exc c ps => rw [h] at q; exact l.exc q
  | bad => rw [h] at q; exact q
  | ok p =>
    rw [h, rs_ok] at q
    intro v F1 H1 e1 r1
    by_cases hl : i < τ.length
    · rw [if_pos hl] at q
      exact q _ F1 H1 ((l.of_ext e1).set k hl r1)
    · rw [if_neg hl] at q; exact q.elim
/-- a new object into an owned slot -/
theorem Ls.setO {i : Nat} (l : Ls G K κ zs F0 H0 F H σ τ) (e : Ext F H F' H') (k : κ i = true) (hi0 : i ≠ 0) (hi : i < τ.length) (r : Frs G K H F' H' v p) : Ls G K κ zs F0 H0 F' H' (σ.set i (some v)) (τ.set i (some p)) := by
  obtain ⟨a, rfl, h0, hF, o⟩ := r
  have l1 := l.of_ext e
  have old : ∀ j q b, κ j = true → τ[j]? = some (some q) → σ[j]? = some (some (.ref b)) → b ≠ a := fun j q b h1 h2 h3 z => by
    obtain ⟨b', e1, _, o'⟩ := l.lc.ow j q h2 h1
    rw [h3] at e1
    cases e1
    obtain ⟨ob, ho⟩ := o'.some
    rw [z, h0] at ho
    cases ho
  refine ⟨⟨l1.lc.sub, by rw [List.length_set, List.length_set]; exact l.lc.len, fun j q h1 h2 => ?_, fun j q h1 h2 => ?_, fun j1 j2 q1 q2 b h1 h2 h3 h4 h5 h6 => ?_⟩, l1.ext, fun j q b h1 h2 h3 => ?_, fun a e => ⟨(l.me a e).1, by rw [List.getElem?_set_ne hi0]; exact (l.me a e).2⟩⟩
  · have hj : i ≠ j := fun e => by subst e; rw [k] at h2; cases h2
    rw [List.getElem?_set_ne hj] at h1 ⊢
    exact l1.lc.sh j q h1 h2
  · by_cases hj : i = j
    · subst hj
      rw [List.getElem?_set_self hi] at h1
      cases h1
      exact ⟨a, List.getElem?_set_self (by rw [l.lc.len]; exact hi), hF, o⟩
    · rw [List.getElem?_set_ne hj] at h1 ⊢
      exact l1.lc.ow j q h1 h2
  · by_cases n1 : i = j1
    · subst n1
      by_cases n2 : i = j2
      · exact n2
      · rw [List.getElem?_set_ne n2] at h4 h6
        rw [List.getElem?_set_self (by rw [l.lc.len]; exact hi)] at h5
        cases h5
        exact absurd rfl (old j2 q2 a h2 h4 h6)
    · rw [List.getElem?_set_ne n1] at h3 h5
      by_cases n2 : i = j2
      · subst n2
        rw [List.getElem?_set_self (by rw [l.lc.len]; exact hi)] at h6
        cases h6
        exact absurd rfl (old j1 q1 a h1 h3 h5)
      · rw [List.getElem?_set_ne n2] at h4 h6
        exact l.lc.ap j1 j2 q1 q2 b h1 h2 h3 h4 h5 h6
  · by_cases hj : i = j
    · subst hj
      rw [List.getElem?_set_self (by rw [l.lc.len]; exact hi)] at h3
      cases h3
      exact Same.free l.ext.h h0
    · rw [List.getElem?_set_ne hj] at h2 h3
      exact l.new j q b h1 h2 h3
theorem s_setO (i : Nat) {x : Str} {pos' : Pos} (h : PE X e (tE G K .fr E κ f)) (hN : X.N.Nodup) (k : κ i = true := by rfl) (hi0 : i ≠ 0 := by decide) (hi : X.N[i]? = some x := by rfl) (hx : Loc X.env.scope x := by first | exact .inl rfl | exact .inr rfl) (hs : swapsWith e (some (.Name x pos')) pos.line X.env = pure false := by rfl)
    (hf : X.fn x = true ∨ X.env.scope.names.lookup x = some .local := by first | exact .inl rfl | exact .inr rfl | assumption) : PS X (.Assign [.Name x pos'] e pos) (tStm G K E κ rm (sSet i f)) := ps_weak (ps_set hN hi hx h hs hf) fun D σ H ⟨F0, H0, F, τ, zs, l, q⟩ => by
  refine ⟨F, τ, l.lc, ?_⟩
  unfold sSet at q
  cases h : f τ with
  | exc c ps => rw [h] at q; exact l.exc q
  | bad => rw [h] at q; exact q
  | ok p =>
    rw [h, rs_ok] at q
    intro v F1 H1 e1 r1
    by_cases hl : i < τ.length
    · rw [if_pos hl] at q
      exact q _ F1 H1 (l.setO e1 k hi0 hl r1)
    · rw [if_neg hl] at q; exact q.elim
def sAsg (f : LE → Res PV) (g : PV → LE → Res LE) : LE → Fl := fun τ => rs (f τ) τ fun p => rs (g p τ).nx τ .nx
theorem s_asg {ws : List Nat} {g : PV → LE → Res LE} (h : PE X e (tE G K .sh E κ f)) (hg : PG X tg (tG G K ws E κ g)) (ok : GOk κ ws g) (hs : swapsWithSole [tg] e pos.line X.env = pure false := by rfl) (hw : swappedStores [tg] e X.env = pure none := by rfl)
    (h1 : (assignEach [tg] X.env).map (·.2) = [assign tg X.env] := by rfl) : PS X (.Assign [tg] e pos) (tStm G K E κ rm (sAsg f g)) := ps_weak (ps_asg h hg hs hw h1) fun D σ H ⟨F0, H0, F, τ, zs, l, q⟩ => by
  refine ⟨F, τ, l.lc, ?_⟩
  unfold sAsg at q
  cases h : f τ with
  | exc c ps => rw [h] at q; exact l.exc q
  | bad => rw [h] at q; exact q
  | ok p =>
    rw [h, rs_ok] at q
    intro v F1 H1 e1 r1
    refine ⟨F1, τ, p, l.lc.ext e1, r1, ?_⟩
    cases hg : g p τ with
    | exc c ps => rw [hg] at q; exact q.elim
    | bad => rw [hg] at q; exact q.elim
    | ok τ' =>
      rw [hg, Res.nx_ok, rs_ok] at q
      exact fun σ' l' k' => q σ' F1 H1 ⟨l', l.ext.trans e1, fun i p a h1 h2 h3 => by
        have hi : i ∉ ws := fun z => by rw [ok.un i z] at h1; cases h1
        rw [ok.keep _ _ _ hg i hi] at h2
        rw [k' i hi] at h3
        exact l.new i p a h1 h2 h3, fun a e => ⟨(l.me a e).1, by rw [k' 0 fun z => by have := ok.un 0 z; rw [(l.me a e).1] at this; cases this]; exact (l.me a e).2⟩⟩
/-! ### x op= e of ints -/
def sAug (i : Nat) (g : Int → Int → Int) (f : LE → Res PV) : LE → Fl := fun τ => match τ[i]? with
  | some (some (.int a)) => rs (f τ) τ fun q => match q with
    | .int b => .nx (τ.set i (some (.int (g a b))))
    | _ => .bad
  | _ => .bad
theorem s_aug (i : Nat) {x : Str} {op : Operator} {g : Int → Int → Int} {pos' : Pos} (h : PE X e (tE G K .sh E κ f)) (ho : PIp X op (ipI g)) (hN : X.N.Nodup) (k : κ i = false := by rfl) (hi : X.N[i]? = some x := by rfl) (hx : Loc X.env.scope x := by first | exact .inl rfl | exact .inr rfl)
    (hf : X.fn x = true ∨ X.env.scope.names.lookup x = some .local := by first | exact .inl rfl | exact .inr rfl | assumption) : PS X (.AugAssign (.Name x pos') op e pos) (tStm G K E κ rm (sAug i g f)) := ps_weak (ps_aug hN hi hx h ho hf) fun D σ H ⟨F0, H0, F, τ, zs, l, q⟩ => by
  have hτ : (∃ a, τ[i]? = some (some (.int a))) ∨ sAug i g f τ = .bad := by
    unfold sAug
    split
    · rename_i a ha; exact .inl ⟨a, ha⟩
    · exact .inr rfl
  rcases hτ with ⟨a, ht⟩ | hb
  case inr => rw [hb] at q; exact q.elim
  obtain ⟨w, e1, r0⟩ := l.lc.sh i _ ht k
  refine ⟨w, e1, F, τ, l.lc, ?_⟩
  unfold sAug at q
  simp only [ht] at q
  cases h : f τ with
  | bad => rw [h] at q; exact q.elim
  | exc c ps => rw [h, rs_exc] at q; exact l.exc q
  | ok p =>
    rw [h, rs_ok] at q
    intro v F1 H1 e1 r1
    cases p with
    | int b => exact ⟨a, b, Rep.int_inv r0, Rep.int_inv r1, q _ F1 H1 ((l.of_ext e1).set k (List.getElem?_eq_some_iff.mp ht).1 (.int _))⟩
    | _ => exact q.elim

/-! ### loops -/
open Classical in
/-- what stands now, but the objects of the slots, is the entry of what follows -/
theorem Ls.rebase (l : Ls G K κ zs F0 H0 F H σ τ) : ∃ H1, Ext F0 H0 F H1 ∧ Ls G K κ zs F H1 F H σ τ := by
  let own : Addr → Prop := fun a => ∃ i p, κ i = true ∧ τ[i]? = some (some p) ∧ σ[i]? = some (some (.ref a))
  let H1 : Hp := fun a => if own a then none else H a
  have sub : Same H1 H := fun a o h => by
    by_cases hw : own a
    · simp only [H1, if_pos hw] at h; cases h
    · simpa only [H1, if_neg hw] using h
  have none_of : ∀ a, own a → H1 a = none := fun a hw => by simp only [H1, if_pos hw]
  have keep : ∀ a o, ¬ own a → H a = some o → H1 a = some o := fun a o hw h => by simp only [H1, if_neg hw]; exact h
  refine ⟨H1, ⟨l.ext.f, fun a o h => ?_, fun a o h => ?_, l.ext.new⟩, l.lc, ⟨Same.refl _, sub, l.lc.sub, fun a h1 h2 => absurd h1 h2⟩, fun i p a h1 h2 h3 => none_of a ⟨i, p, h1, h2, h3⟩, l.me⟩
  · refine keep a o (fun ⟨i, p, h1, h2, h3⟩ => ?_) (l.ext.h a o h)
    rw [l.new i p a h1 h2 h3] at h; cases h
  · refine keep a o (fun ⟨i, p, h1, h2, h3⟩ => ?_) (l.lc.sub a o h)
    obtain ⟨b, e1, hF, _⟩ := l.lc.ow i p h2 h1
    rw [h3] at e1
    cases e1
    rw [hF] at h; cases h
theorem Ls.back {H1 : Hp} {σ' : St} {τ' : LE} (e : Ext F0 H0 F H1) (l : Ls G K κ zs F H1 F' H' σ' τ') : Ls G K κ zs F0 H0 F' H' σ' τ' :=
  ⟨l.lc, e.trans l.ext, fun i p a h1 h2 h3 => Same.free e.h (l.new i p a h1 h2 h3), l.me⟩
def forL (g : PV → LE → Res LE) (body : LE → Fl) : List PV → LE → Fl
  | [], τ => .nx τ
  | p :: ps, τ => rs (g p τ).nx τ fun τ1 => match body τ1 with
    | .nx τ2 => forL g body ps τ2
    | .ct τ2 => forL g body ps τ2
    | .bk τ2 => .nx τ2
    | r => r
def sFor (it : LE → Res (List PV)) (g : PV → LE → Res LE) (body : LE → Fl) : LE → Fl := fun τ => rs (it τ) τ fun ps => forL g body ps τ
theorem s_for {ws : List Nat} {wi : LE → Res (List PV)} {g : PV → LE → Res LE} {body : LE → Fl} {sb : List Stmt} (hp : PassesOwn (model X.prog X.w) X.A X.env X.xe) (hc : X.calm = true) (hi : PI X tg iter (tI G K true E κ wi)) (hg : PG X tg (tG G K ws E κ g)) (ok : GOk κ ws g)
    (hb : PSs X sb (tStm G K E κ rm body)) (hs : ∀ x, foldedSetIterable iter X.env x = pure x := by intro _; rfl) : PS X (.For tg iter sb [] pos) (tStm G K E κ rm (sFor wi g body)) := ps_weak (ps_for hp hc hi hg hb hs) fun D σ H ⟨F0, H0, F, τ, zs, l, q⟩ => by
  refine ⟨F, τ, l.lc, ?_⟩
  unfold sFor at q
  cases h : wi τ with
  | bad => rw [h] at q; exact q.elim
  | exc c ps => rw [h, rs_exc] at q; exact l.exc q
  | ok ps =>
    rw [h, rs_ok] at q
    intro J F1 H1 e1 i1
    rw [if_pos rfl] at i1
    have l1 := l.of_ext e1
    refine ⟨fun i m σ H => m = ps.length - i ∧ i ≤ ps.length ∧ ∃ F τ', Ls G K κ zs F0 H0 F H σ τ' ∧ Same F1 F ∧ forL g body (ps.drop i) τ' = forL g body ps τ,
      ⟨ps.length, by simp, Nat.zero_le _, F1, τ, l1, Same.refl _, rfl⟩, ?_⟩
    rintro i m σ2 H2 ⟨rfl, hi, F2, τ2, l2, s2, hq⟩
    have sB : Same F1 H2 := s2.trans l2.ext.sub
    by_cases hlt : i < ps.length
    · refine .inr ⟨i1.go i H2 sB hlt, fun σ H => ∃ F τ', Ls G K κ zs F0 H0 F H σ τ' ∧ Same F1 F ∧ forL g body (ps.drop (i + 1)) τ' = forL g body ps τ, fun σ' H' n => ⟨ps.length - (i + 1), by omega, rfl, hlt, n⟩, fun x H3 hy => ?_⟩
      have hp : ps[i]? = some ps[i] := List.getElem?_eq_getElem hlt
      obtain ⟨F3, e3, r3⟩ := i1.yld i x H2 H3 F2 _ sB s2 l2.ext.sub hy hp
      have l3 := l2.of_ext e3
      refine ⟨F3, τ2, ps[i], l3.lc, r3, ?_⟩
      rw [List.drop_eq_getElem_cons hlt, forL] at hq
      cases hg' : g ps[i] τ2 with
      | exc c fs => rw [hg', Res.nx_exc, rs_bad] at hq; rw [← hq] at q; exact q.elim
      | bad => rw [hg', Res.nx_bad, rs_bad] at hq; rw [← hq] at q; exact q.elim
      | ok τ3 =>
        rw [hg', Res.nx_ok, rs_ok] at hq
        intro σ' l' k'
        have l4 : Ls G K κ zs F0 H0 F3 H3 σ' τ3 := ⟨l', l3.ext, fun i p a h1 h2 h3 => by
          have hi : i ∉ ws := fun z => by rw [ok.un i z] at h1; cases h1
          rw [ok.keep _ _ _ hg' i hi] at h2
          rw [k' i hi] at h3
          exact l3.new i p a h1 h2 h3, fun a e => ⟨(l3.me a e).1, by rw [k' 0 fun z => by have := ok.un 0 z; rw [(l3.me a e).1] at this; cases this]; exact (l3.me a e).2⟩⟩
        obtain ⟨H5, e5, l5⟩ := l4.rebase
        refine ⟨F3, H5, F3, τ3, zs, l5, ?_⟩
        have nxt : ∀ τ4, forL g body (ps.drop (i + 1)) τ4 = forL g body ps τ → ∀ σ' F' H', Ls G K κ zs F3 H5 F' H' σ' τ4 → ∃ F τ', Ls G K κ zs F0 H0 F H' σ' τ' ∧ Same F1 F ∧ forL g body (ps.drop (i + 1)) τ' = forL g body ps τ :=
          fun τ4 h4 σ' F' H' l' => ⟨F', τ4, l'.back e5, (s2.trans e3.f).trans l'.ext.f, h4⟩
        cases hbd : body τ3 with
        | nx τ4 => rw [hbd] at hq; exact nxt τ4 hq
        | ct τ4 => rw [hbd] at hq; exact nxt τ4 hq
        | bk τ4 =>
          simp only [hbd] at hq
          rw [← hq] at q
          exact fun σ' F' H' l' => q σ' F' H' (l'.back e5)
        | rt p =>
          simp only [hbd] at hq
          rw [← hq] at q
          exact fun v F' H' e' r' => q v F' H' (e5.trans e') (r'.before e5.h)
        | ex c fs τ4 =>
          simp only [hbd] at hq
          rw [← hq] at q
          exact fun σ' F' H' d fs l' => q σ' F' H' d fs (l'.back e5)
        | bad =>
          simp only [hbd] at hq
          rw [← hq] at q
          exact q.elim
    · have e : i = ps.length := by omega
      subst e
      rw [List.drop_length, forL] at hq
      rw [← hq] at q
      exact .inl ⟨i1.stop H2 sB, q σ2 F2 H2 l2⟩
/-! while: n turns at most -/
def whileL (t : LE → Res Bool) (body : LE → Fl) : Nat → LE → Fl
  | 0, _ => .bad
  | n + 1, τ => rs (t τ) τ fun b => if b = true then match body τ with
      | .nx τ2 => whileL t body n τ2
      | .ct τ2 => whileL t body n τ2
      | .bk τ2 => .nx τ2
      | r => r
    else .nx τ
theorem s_while {c : Expr} {sb : List Stmt} {t : LE → Res Bool} {body : LE → Fl} (n : Nat) (hp : PassesOwn (model X.prog X.w) X.A X.env X.xe) (hc : PT X c (tT G K E κ t)) (hb : PSs X sb (tStm G K E κ rm body)) : PS X (.While c sb [] pos) (tStm G K E κ rm (whileL t body n)) :=
  ps_weak (ps_while hp hc hb) fun D σ H ⟨F0, H0, F, τ, zs, l, q⟩ => by
    refine ⟨fun m σ H => ∃ F τ', Ls G K κ zs F0 H0 F H σ τ' ∧ whileL t body m τ' = whileL t body n τ, ⟨n, F, τ, l, rfl⟩, ?_⟩
    rintro m σ2 H2 ⟨F2, τ2, l2, hq⟩
    cases m with
    | zero => rw [whileL] at hq; rw [← hq] at q; exact q.elim
    | succ m =>
      rw [whileL] at hq
      refine ⟨F2, τ2, l2.lc, ?_⟩
      cases ht : t τ2 with
      | bad => rw [ht] at hq; rw [rs_bad] at hq; rw [← hq] at q; exact q.elim
      | exc c ps => rw [ht] at hq; rw [rs_exc] at hq; rw [← hq] at q; exact l2.exc q
      | ok b =>
        rw [ht] at hq; rw [rs_ok] at hq
        intro F3 H3 e3
        have l3 := l2.of_ext e3
        cases b with
        | false =>
          rw [if_neg (by decide)] at hq ⊢
          rw [← hq] at q
          exact q σ2 F3 H3 l3
        | true =>
          rw [if_pos rfl] at hq ⊢
          refine ⟨fun σ H => ∃ F τ', Ls G K κ zs F0 H0 F H σ τ' ∧ whileL t body m τ' = whileL t body n τ, fun σ' H' w => ⟨m, Nat.lt_succ_self _, w⟩, F0, H0, F3, τ2, zs, l3, ?_⟩
          cases hbd : body τ2 with
          | nx τ4 => simp only [hbd] at hq; exact fun σ' F' H' l' => ⟨F', τ4, l', hq⟩
          | ct τ4 => simp only [hbd] at hq; exact fun σ' F' H' l' => ⟨F', τ4, l', hq⟩
          | bk τ4 => simp only [hbd] at hq; rw [← hq] at q; exact q
          | rt p => simp only [hbd] at hq; rw [← hq] at q; exact q
          | ex c fs τ4 => simp only [hbd] at hq; rw [← hq] at q; exact q
          | bad => simp only [hbd] at hq; rw [← hq] at q; exact q.elim

/-! ### what changes an owned slot -/
/-- the object of slot i is written -/
theorem Ls.write {i : Nat} {a : Addr} {o : HO} {p' : PV} (l : Ls G K κ zs F0 H0 F H σ τ) (k : κ i = true) (hτ : τ[i]? = some (some p)) (hσ : σ[i]? = some (some (.ref a))) (h : OwnAt G K F (upd H a o) a p') : Ls G K κ zs F0 H0 F (upd H a o) σ (τ.set i (some p')) := by
  obtain ⟨b, e1, hF, o0⟩ := l.lc.ow i p hτ k
  rw [hσ] at e1
  cases e1
  have h0 := l.new i p a k hτ hσ
  have hi : i < τ.length := (List.getElem?_eq_some_iff.mp hτ).1
  refine ⟨⟨same_updR l.lc.sub hF, by rw [List.length_set]; exact l.lc.len, fun j q h1 h2 => ?_, fun j q h1 h2 => ?_, fun j1 j2 q1 q2 b h1 h2 h3 h4 h5 h6 => ?_⟩, ⟨l.ext.f, same_updR l.ext.h h0, same_updR l.ext.sub hF, l.ext.new⟩, fun j q b h1 h2 h3 => ?_, l.me⟩
  · have hj : i ≠ j := fun e => by subst e; rw [k] at h2; cases h2
    rw [List.getElem?_set_ne hj] at h1
    exact l.lc.sh j q h1 h2
  · by_cases hj : i = j
    · subst hj
      rw [List.getElem?_set_self hi] at h1
      cases h1
      exact ⟨a, hσ, hF, h⟩
    · rw [List.getElem?_set_ne hj] at h1
      obtain ⟨b, e1, hb, ob⟩ := l.lc.ow j q h1 h2
      have hne : b ≠ a := fun z => by
        subst z
        exact hj (l.lc.ap i j p q b k h2 hτ h1 hσ e1)
      exact ⟨b, e1, hb, ob.mono (Same.refl _) (upd_ne hne)⟩
  · have t1 : ∃ q, τ[j1]? = some (some q) := by
      by_cases n1 : i = j1
      · subst n1; exact ⟨p, hτ⟩
      · rw [List.getElem?_set_ne n1] at h3; exact ⟨_, h3⟩
    have t2 : ∃ q, τ[j2]? = some (some q) := by
      by_cases n1 : i = j2
      · subst n1; exact ⟨p, hτ⟩
      · rw [List.getElem?_set_ne n1] at h4; exact ⟨_, h4⟩
    obtain ⟨q1', t1⟩ := t1
    obtain ⟨q2', t2⟩ := t2
    exact l.lc.ap j1 j2 q1' q2' b h1 h2 t1 t2 h5 h6
  · have t1 : ∃ q, τ[j]? = some (some q) := by
      by_cases n1 : i = j
      · subst n1; exact ⟨p, hτ⟩
      · rw [List.getElem?_set_ne n1] at h2; exact ⟨_, h2⟩
    obtain ⟨q', t1⟩ := t1
    exact l.new j q' b h1 t1 h3
/-- an expression that changes slots' objects -/
def tM (E : St → XK) (κ : Kd) (f : LE → Res (PV × LE)) : TE := fun σ H Q => ∃ F0 H0 F τ zs, Ls G K κ zs F0 H0 F H σ τ ∧ match f τ with
  | .ok r => ∀ v F' H', Ls G K κ zs F0 H0 F' H' σ r.2 → Rep G K F' v r.1 → Q v H'
  | .exc c ps => ExcOk G K (E σ) F H c ps
  | .bad => False
/-- a method of a list that a slot holds -/
def MutV (r : V → List V → Hp → VK → Prop) (G : GW) (K : PySem.W.Frag) (g : List PV → List PV → Option (List PV × PV)) : Prop :=
  ∀ (F H : Hp) (a : Addr) (vs : List V) (ps : List PV) (args : List V) (qs ps' : List PV) (z : PV) (Q : VK), Same F H → H a = some (.lst vs) → Reps G K F vs ps → Reps G K F args qs → g ps qs = some (ps', z) →
    (∀ v vs', Reps G K F vs' ps' → Rep G K F v z → Q v (upd H a (.lst vs'))) → r (.ref a) args H Q
def eMut (i : Nat) (g : List PV → List PV → Option (List PV × PV)) (f : LE → Res (List PV)) : LE → Res (PV × LE) := fun τ => match τ[i]? with
  | some (some (.lst ps)) => f τ >>= fun qs => match g ps qs with
    | some (ps', z) => .ok (z, τ.set i (some (.lst ps')))
    | none => .bad
  | _ => .bad
theorem w_mut {i : Nat} {r : V → List V → Hp → VK → Prop} {g : List PV → List PV → Option (List PV × PV)} {f : LE → Res (List PV)} (k : κ i = true) (hg : MutV r G K g) {σ : St} {H : Hp} {Q : VK}
    (h : tM (G := G) (K := K) E κ (eMut i g f) σ H Q) : tBM K "list" r (tVar i) (tA G K .sh E κ f) σ H Q := by
  obtain ⟨F0, H0, F, τ, zs, l, q⟩ := h
  have hτ : (∃ ps, τ[i]? = some (some (.lst ps))) ∨ eMut i g f τ = .bad := by
    unfold eMut
    split
    · rename_i ps hp; exact .inl ⟨ps, hp⟩
    · exact .inr rfl
  rcases hτ with ⟨ps, ht⟩ | hb
  case inr => rw [hb] at q; exact q.elim
  obtain ⟨a, e1, hF, vs, hH, rr⟩ := l.lc.ow i _ ht k
  refine ⟨.ref a, e1, .inl ⟨rfl, vs, .inl (.inl hH)⟩, F, τ, l.lc, ?_⟩
  unfold eMut at q
  simp only [ht] at q
  cases hf : f τ with
  | bad => rw [hf] at q; exact q.elim
  | exc c ps => rw [hf] at q; exact q
  | ok qs =>
    rw [hf, Res.ok_bind] at q
    intro args F1 H1 e1' r1
    have l1 := l.of_ext e1'
    cases hz : g ps qs with
    | none => rw [hz] at q; exact q.elim
    | some pz =>
      obtain ⟨ps', z⟩ := pz
      rw [hz] at q
      refine hg F1 H1 a vs ps args qs ps' z Q e1'.sub (e1'.h _ _ hH) (Reps.mono e1'.f rr) r1.shared hz fun v vs' r2 r3 => ?_
      exact q v F1 _ (l1.write k ht e1 ⟨vs', upd_same, r2⟩) r3
theorem w_mut0 {i : Nat} {r : V → List V → Hp → VK → Prop} {g : List PV → List PV → Option (List PV × PV)} (k : κ i = true) (hg : MutV r G K g) {σ : St} {H : Hp} {Q : VK}
    (h : tM (G := G) (K := K) E κ (eMut i g aNil) σ H Q) : tBM0 K "list" r (tVar i) σ H Q := by
  obtain ⟨a, e1, ty, q⟩ := w_mut k hg h
  refine ⟨a, e1, ty, ?_⟩
  obtain ⟨F, τ, l, q⟩ := q
  exact q [] F H (Ext.refl l.sub) .nil
def gApp (ps qs : List PV) : Option (List PV × PV) := match qs with
  | [q] => if ps.length < 1000000 then some (ps ++ [q], .non) else none
  | _ => none
theorem g_app : MutV rAppend G K gApp := by
  intro F H a vs ps args qs ps' z Q s hH r1 r2 hz k
  unfold gApp at hz
  split at hz
  · obtain ⟨v, rfl, rv⟩ := r2.one
    split at hz
    · rename_i hl
      cases hz
      exact ⟨a, vs, v, rfl, rfl, hH, by rw [r1.length, sizeLine_eq]; omega, k _ _ (Reps.snoc r1 rv) .non⟩
    · cases hz
  · cases hz
def gPop (ps qs : List PV) : Option (List PV × PV) := match qs with
  | [] => ps[ps.length - 1]?.map fun z => (ps.dropLast, z)
  | _ => none
theorem Reps.dropLast : ∀ {vs : List V} {ps : List PV}, Reps G K F vs ps → Reps G K F vs.dropLast ps.dropLast
  | _, _, .nil => .nil
  | _, _, .cons _ .nil => .nil
  | _, _, .cons r (.cons r' rs) => .cons r (Reps.dropLast (.cons r' rs))
theorem g_pop : MutV rPop G K gPop := by
  intro F H a vs ps args qs ps' z Q s hH r1 r2 hz k
  unfold gPop at hz
  split at hz
  · cases r2
    cases hp : ps[ps.length - 1]? with
    | none => rw [hp] at hz; cases hz
    | some y =>
      rw [hp] at hz
      cases hz
      obtain ⟨v, e, rv⟩ := r1.get hp
      exact ⟨a, vs, v, rfl, rfl, hH, by rw [r1.length]; exact e, k _ _ r1.dropLast rv⟩
  · cases hz
def gPopAt (ps qs : List PV) : Option (List PV × PV) := match qs with
  | [.int i] => if -(2 ^ 63) ≤ i ∧ i < 2 ^ 63 then (ixN ps.length i).bind fun j => ps[j]?.map fun z => (ps.eraseIdx j, z) else none
  | _ => none
theorem g_popAt : MutV rPopAt G K gPopAt := by
  intro F H a vs ps args qs ps' z Q s hH r1 r2 hz k
  unfold gPopAt at hz
  split at hz
  · rename_i i
    obtain ⟨v, rfl, rv⟩ := r2.one
    obtain rfl := rv.int_inv
    split at hz
    · rename_i hb
      cases hj : ixN ps.length i with
      | none => rw [hj] at hz; cases hz
      | some j =>
        rw [hj] at hz
        cases hp : ps[j]? with
        | none => simp only [Option.bind_some, hp] at hz; cases hz
        | some y =>
          simp only [Option.bind_some, hp, Option.map_some] at hz
          cases hz
          obtain ⟨w, e, rw'⟩ := r1.get hp
          exact ⟨a, vs, i, j, w, rfl, rfl, hH, hb.1, hb.2, by rw [r1.length]; exact (ixN_seq hj).1, e, k _ _ (r1.eraseIdx j) rw'⟩
    · cases hz
  · cases hz
/-- the first place of a value -/
def firstP (q : PV) (ps : List PV) : Option Nat := ps.findIdx? fun y => eqP y q
def gRem (ps qs : List PV) : Option (List PV × PV) := match qs with
  | [q] => if q.flat && ps.all PV.flat then (firstP q ps).map fun j => (ps.eraseIdx j, .non) else none
  | _ => none
theorem g_rem : MutV rRemV G K gRem := by
  intro F H a vs ps args qs ps' z Q s hH r1 r2 hz k
  unfold gRem at hz
  split at hz
  · rename_i q
    obtain ⟨v, rfl, rv⟩ := r2.one
    split at hz
    · rename_i hf
      rw [Bool.and_eq_true] at hf
      cases hj : firstP q ps with
      | none => rw [hj] at hz; cases hz
      | some j =>
        rw [hj] at hz
        cases hz
        unfold firstP at hj
        rw [List.findIdx?_eq_some_iff_getElem] at hj
        obtain ⟨hjl, h1, h2⟩ := hj
        obtain ⟨w, e, rw'⟩ := r1.get (List.getElem?_eq_getElem hjl)
        have fl : ∀ (m : Nat) (hm : m < ps.length), ps[m].flat = true := fun m hm => List.all_eq_true.mp hf.2 _ (List.getElem_mem hm)
        refine ⟨a, vs, v, j, w, rfl, rfl, hH, rv.flat hf.1, r1.flat hf.2, e, by rw [rw'.eqP rv (fl j hjl) hf.1]; exact h1, fun m z' hm hz' => ?_, k _ _ (r1.eraseIdx j) .non⟩
        obtain ⟨p', e', rp'⟩ := r1.getV hz'
        have hml : m < ps.length := (List.getElem?_eq_some_iff.mp e').1
        have ep : ps[m] = p' := (List.getElem?_eq_some_iff.mp e').2
        have hfl := fl m hml
        rw [ep] at hfl
        rw [rp'.eqP rv hfl hf.1, ← ep]
        have := h2 m hm
        simpa using this
    · cases hz
  · cases hz
def gRev (ps qs : List PV) : Option (List PV × PV) := match qs with
  | [] => some (ps.reverse, .non)
  | _ => none
theorem g_rev : MutV rReverse G K gRev := by
  intro F H a vs ps args qs ps' z Q s hH r1 r2 hz k
  unfold gRev at hz
  split at hz
  · cases r2
    cases hz
    exact ⟨a, vs, rfl, rfl, hH, k _ _ r1.reverse .non⟩
  · cases hz
def gExt (ps qs : List PV) : Option (List PV × PV) := match qs with
  | [.lst zs] => if ps.length + zs.length ≤ 1000000 then some (ps ++ zs, .non) else none
  | [.tup zs] => if ps.length + zs.length ≤ 1000000 then some (ps ++ zs, .non) else none
  | _ => none
theorem KT.obj {pins : List (Addr × Obj)} {s : Shared} {b : Addr} {zs : List V} {σ : St} {H : Hp} (I : Inv X pins σ H s) (h : KT X.K H b zs) : ∃ its n, Vals zs its ∧ s.heap.get? b = some { cls := .type "tuple", dict := none, data := .seq its.toArray n, slots := #[] } ∧ zs.length ≤ sizeLine := by
  rcases h with ⟨o, h, k1, k2, k3⟩ | ⟨o, its, n, h, ⟨k1, k2, k3⟩, hd, hz, r⟩
  · obtain ⟨e, z, its, r, o', e', c, n, d⟩ := I.hok b _ h
    rw [e] at e'
    cases e'
    cases o
    cases k1; cases k2; cases k3; cases d
    exact ⟨its, n, r, e, z⟩
  · have e := I.kIn b o h
    cases o
    cases k1; cases k2; cases k3; cases hd
    refine ⟨its.toList, n, r, by simpa using e, ?_⟩
    have q := r.length
    simp only [Array.length_toList] at q
    omega
def rExtR (K : PySem.W.Frag) : V → List V → Hp → VK → Prop := fun x vs H Q => ∃ l b xs zs, x = .ref l ∧ vs = [.ref b] ∧ H l = some (.lst xs) ∧ (Rd H b (.lst zs) ∨ KT K H b zs) ∧ xs.length + zs.length ≤ sizeLine ∧ Q .non (upd H l (.lst (xs ++ zs)))
theorem mt_extR : MtM X "list.extend" (rExtR X.K) := by
  intro pins s σ H x vs v us Q I rx rv h
  obtain ⟨l, b, xs, zs, rfl, rfl, hH, hB, hz, q⟩ := h
  cases rx
  obtain ⟨u, rfl, ru⟩ := rv.one
  cases ru
  obtain ⟨z, its, n, r, hl, e⟩ := I.lstM hH
  rcases hB with hB | hB
  · obtain ⟨z2, its2, n2, r2, hl2, e2⟩ := Rd.lstM I hB
    have hsz : its.toArray.size + its2.toArray.size ≤ sizeLine := by rw [List.size_toArray, List.size_toArray]; omega
    have hlong : ¬ (!its.toArray.isEmpty && Builtin.List.listTooLong (its.toArray.size + its2.toArray.size)) = true := by
      rw [notLongL hsz, Bool.and_false]
      exact Bool.false_ne_true
    refine PySem.call_meets F.slot_list_extend ⟨_, e, rfl⟩ F.entry_list_extend (F.args_list_extend_2 _ _)
      (AutoSeq1.list_extend_list_list_0 l its.toArray n b its2.toArray n2 hlong (by rw [List.size_toArray]; omega) (by omega)) ⟨e, e2, ?_⟩
    refine ⟨.non, _, I.lset (its' := its ++ its2) hH e (by simp) (r.append r2) ?_, rfl, q⟩
    rw [List.length_append]
    omega
  · obtain ⟨its2, n2, r2, e2, z2⟩ := KT.obj I hB
    have hl2 := r2.length
    have hsz : its.toArray.size + its2.toArray.size ≤ sizeLine := by rw [List.size_toArray, List.size_toArray]; omega
    have hlong : ¬ (!its.toArray.isEmpty && Builtin.List.listTooLong (its.toArray.size + its2.toArray.size)) = true := by
      rw [notLongL hsz, Bool.and_false]
      exact Bool.false_ne_true
    refine PySem.call_meets F.slot_list_extend ⟨_, e, rfl⟩ F.entry_list_extend (F.args_list_extend_2 _ _)
      (AutoSeq1.list_extend_list_tuple_0 l its.toArray n b its2.toArray n2 hlong (by rw [List.size_toArray]; omega) (by omega)) ⟨e, e2, ?_⟩
    refine ⟨.non, _, I.lset (its' := its ++ its2) hH e (by simp) (r.append r2) ?_, rfl, q⟩
    rw [List.length_append]
    omega
theorem g_ext : MutV (rExtR K) G K gExt := by
  intro F H a vs ps args qs ps' z Q s hH r1 r2 hz k
  unfold gExt at hz
  split at hz
  · obtain ⟨v, rfl, rv⟩ := r2.one
    obtain ⟨b, ws, rfl, hB, rw'⟩ := rv.lst_inv
    split at hz
    · rename_i hl
      cases hz
      exact ⟨a, b, vs, ws, rfl, rfl, hH, .inl (Same.rd s hB), by rw [r1.length, rw'.length, sizeLine_eq]; omega, k _ _ (Reps.append r1 rw') .non⟩
    · cases hz
  · obtain ⟨v, rfl, rv⟩ := r2.one
    obtain ⟨b, ws, rfl, hB, rw'⟩ := rv.tup_invK
    split at hz
    · rename_i hl
      cases hz
      exact ⟨a, b, vs, ws, rfl, rfl, hH, .inr (Same.kt s hB), by rw [r1.length, rw'.length, sizeLine_eq]; omega, k _ _ (Reps.append r1 rw') .non⟩
    · cases hz
  · cases hz
/-- xs.m(..) as a statement; name = xs.m(..) -/
def sExprM (f : LE → Res (PV × LE)) : LE → Fl := fun τ => rs (f τ) τ fun r => .nx r.2
def sSetM (j : Nat) (f : LE → Res (PV × LE)) : LE → Fl := fun τ => rs (f τ) τ fun r => if j < r.2.length then .nx (r.2.set j (some r.1)) else .bad
theorem s_exprM {f : LE → Res (PV × LE)} (h : PE X e (tM (G := G) (K := K) E κ f)) (hs : swapsWith e none pos.line X.env = pure false := by rfl) : PS X (.Expr e pos) (tStm G K E κ rm (sExprM f)) := ps_weak (ps_expr h hs) fun D σ H ⟨F0, H0, F, τ, zs, l, q⟩ => by
  refine ⟨F0, H0, F, τ, zs, l, ?_⟩
  unfold sExprM at q
  cases h : f τ with
  | bad => rw [h] at q; exact q.elim
  | exc c ps => rw [h, rs_exc] at q; exact l.exc q
  | ok r => rw [h, rs_ok] at q; exact fun v F' H' l' _ => q σ F' H' l'
theorem s_setM (j : Nat) {x : Str} {pos' : Pos} {f : LE → Res (PV × LE)} (h : PE X e (tM (G := G) (K := K) E κ f)) (hN : X.N.Nodup) (k : κ j = false := by rfl) (hi : X.N[j]? = some x := by rfl) (hx : Loc X.env.scope x := by first | exact .inl rfl | exact .inr rfl) (hs : swapsWith e (some (.Name x pos')) pos.line X.env = pure false := by rfl)
    (hf : X.fn x = true ∨ X.env.scope.names.lookup x = some .local := by first | exact .inl rfl | exact .inr rfl | assumption) : PS X (.Assign [.Name x pos'] e pos) (tStm G K E κ rm (sSetM j f)) := ps_weak (ps_set hN hi hx h hs hf) fun D σ H ⟨F0, H0, F, τ, zs, l, q⟩ => by
  refine ⟨F0, H0, F, τ, zs, l, ?_⟩
  unfold sSetM at q
  cases h : f τ with
  | bad => rw [h] at q; exact q.elim
  | exc c ps => rw [h, rs_exc] at q; exact l.exc q
  | ok r =>
    rw [h, rs_ok] at q
    intro v F' H' l' rr
    by_cases hl : j < r.2.length
    · rw [if_pos hl] at q
      exact q _ F' H' (l'.set k hl rr)
    · rw [if_neg hl] at q; exact q.elim
variable {o : Expr} {name : Str} {apos cpos : Pos} {id : String} {r : V → List V → Hp → VK → Prop} {g : List PV → List PV → Option (List PV × PV)} {x' : Str}
theorem m_list (i : Nat) (slot : PySem.Slot "list" name id) (hty : typeOf (.builtin id) = pure (.type "method_descriptor")) (hm : MtR X id r) (hg : MutV r G X.K g) {fa : LE → Res (List PV)} (ha : PA X (e :: es) (tA G X.K .sh E κ fa)) (k : κ i = true := by rfl) (hN : X.N[i]? = some x' := by rfl)
    (hv : Vis X.env.scope x' := by first | exact Or.inl rfl | exact Or.inr (Or.inl rfl) | exact Or.inr (Or.inr rfl)) (hd : (x' == ("__debug__" : Str)) = false := by decide) (hcd : (x' == ("__classdict__" : Str)) = false := by decide)
    (hbase : attributeBase (.Name x' pos) name X.env (eval (.Name x' pos) X.env) = eval (.Name x' pos) X.env := by rfl)
    (hfew : ((backTo cpos (starEach (e :: es) X.env)).all (fun x => !x.1) && (backToKw cpos (keywordEach [] X.env)).all (fun x => x.1.isSome)
      && decide ((e :: es).length + ([] : List Keyword).length + (if ([] : List Keyword).isEmpty then 0 else 1) < 30)) = true := by rfl)
    (hline : (apos.endLine == cpos.line) = true := by rfl) (hs : starEach (e :: es) X.env = (false, eval e X.env) :: starEach es X.env := by rfl) (hplain : (backTo cpos (starEach es X.env)).any (·.1) = false := by rfl) :
    PE X (.Call (.Attribute (.Name x' pos) name apos) (e :: es) [] cpos) (tM (G := G) (K := X.K) E κ (eMut i g fa)) :=
  pe_weak (pe_bm F.plainAttrs_list slot hty hm (pe_var hN hv hd hcd) ha hbase hfew hline hs hplain) fun _ _ _ h => w_mut k hg h
theorem m_list0 (i : Nat) (slot : PySem.Slot "list" name id) (hty : typeOf (.builtin id) = pure (.type "method_descriptor")) (hm : MtR X id r) (hg : MutV r G X.K g) (k : κ i = true := by rfl) (hN : X.N[i]? = some x' := by rfl)
    (hv : Vis X.env.scope x' := by first | exact Or.inl rfl | exact Or.inr (Or.inl rfl) | exact Or.inr (Or.inr rfl)) (hd : (x' == ("__debug__" : Str)) = false := by decide) (hcd : (x' == ("__classdict__" : Str)) = false := by decide)
    (hbase : attributeBase (.Name x' pos) name X.env (eval (.Name x' pos) X.env) = eval (.Name x' pos) X.env := by rfl) (hline : (apos.endLine == cpos.line) = true := by rfl) :
    PE X (.Call (.Attribute (.Name x' pos) name apos) [] [] cpos) (tM (G := G) (K := X.K) E κ (eMut i g aNil)) :=
  pe_weak (pe_bm0 F.plainAttrs_list slot hty hm (pe_var hN hv hd hcd) hbase hline) fun _ _ _ h => w_mut0 k hg h
end
end Lp
end
section
set_option Elab.async false
set_option linter.all false
set_option maxRecDepth 100000
namespace Lx
open PySem PySem.Spec PyProof.Rows L2

section
variable {X : Cx} {pins : List (Addr × Obj)} {σ : L2.St} {H : Hp} {s : Shared} {x C cda f u : Addr} {fd : FuncData} {ar : Arg} {oc oc2 : Value} {od od2 : Option Addr} {osl osl2 : Array (Option Value)} {vs : Array Value} {file : Str} {tf : Tok} {kc : Nat}
  {body : List Stmt} {m : Str} {j : Nat} {p0 p1 p2 p3 p4 pos : Pos} {Q : Value → Shared → Prop} {E : Value → Shared → Prop}

/-- the bound ValueError.__init__ called -/
theorem call_mw {A : Around} {us : List Value} (T : OexC X.K C) (I : Inv X pins σ H s) (e : H x = some (exo x C none)) (hu : s.heap.get? u = some (PySem.W.kxs_mw "ValueError.__init__" x)) (hl : us.length ≤ sizeLine) (h : ∀ s', Inv X pins σ H s' → Q .none s') :
    wpAny (model X.prog X.w) A (call (.ref u) us) Q E s := by
  obtain ⟨nm, q, N, bs, bm, sn, sub, ab, col, dd, k0, k1, k2, k3, k5, hC, hbm⟩ := T.cls
  obtain ⟨t1, ho⟩ := exo_at I.hok e
  have hC' := I.kIn _ _ hC
  obtain ⟨hp, g, d, t, os⟩ := s
  refine wpAny_call (codeAny_of_tree ?_)
  show wpAny _ A.in1 (callAny (.ref u) ⟨us, []⟩) _ _ _
  simp only [callAny]
  refine wpAny_bind (wpAny_load hu ?_)
  simp only [PySem.W.kxs_mw, show (Value.type "method-wrapper" == Value.type "method" || Value.type "method-wrapper" == Value.type "builtin_function_or_method" || Value.type "method-wrapper" == Value.type "method-wrapper") = true by decide, if_true]
  refine PySem.W.KFB.if_so (by decide) ?_
  refine wpAny_bind (PySem.W.check_bound_init F.excBase_ValueError.toExcCallFacts hC' ho rfl ?_)
  refine wpAny_bind (wpAny_pure (wpAny_pure ?_))
  refine ⟨Code.quiet_builtin _ (by decide +kernel), codeAny_builtin F.excBase_ValueError.initEntry ?_⟩
  refine PySem.W.exc_init_tree (cls := .ref C) (t0 := t1) (dv := none) (c2 := .none) (c3 := .none) (b4 := .bool false) ho hl (fun h' k hx _ => ?_)
  have J := I.write (t' := t) (x := x) (e := x) (o := exo x C none) (by rw [e]; exact True.intro) (.inl rfl) k ⟨_, hx⟩ (exo_ok hx)
  have eu : upd H x (exo x C none) = H := by
    funext b
    by_cases hb : b = x
    · rw [hb, upd_same, e]
    · rw [upd_ne hb]
  rw [eu] at J
  exact h _ J
/-- super().__init__('..') -/
theorem sup_stmt (T : OexC X.K C) (I : Inv X pins σ H s) (e : H x = some (exo x C none))
    (hfu : X.env.func = some f) (hf : X.K.lookup f = some ⟨oc, od, .func fd, osl⟩) (hp : (fd.params.posonlyargs ++ fd.params.args).head? = some ar)
    (hco : X.env.code = .ref cda) (hcode : X.K.lookup cda = some ⟨oc2, od2, .fields vs, osl2⟩) (hvs : vs[2]? = some (.str file tf)) (hfile : ((X.prog.main.file : Str) == file) = true) (htop : (X.prog.main.scope.names.lookup ("super" : Str)).isSome = false)
    (hN0 : X.N[0]? = some ar.arg) (h0 : σ[0]? = some (some (.ref x))) (k0 : X.env.scope.names.lookup ar.arg = some .local)
    (hNc : X.N[kc]? = some ("__class__" : Str)) (hc : σ[kc]? = some (some (.ref C))) (hkc : X.env.scope.names.lookup ("__class__" : Str) = some .free)
    (hks : X.env.scope.names.lookup ("super" : Str) = some .globalImplicit) (hsg : X.mg "super" = none)
    (ho : PySem.W.nsIn X.K cStatics "thirdparty.any" = some none) (hm : PySem.W.ks_superIn X.K C C "__init__" = some (some (.builtin "ValueError.__init__"))) (hB : PySem.W.subIn X.K (.ref C) (.type "ValueError") = some true)
    (hin : interactive X.env = false) (hs : swapsWith (.Call (.Attribute (.Call (.Name "super" p0) [] [] p1) "__init__" p2) [.Constant (.str m) j p3] [] p4) none pos.line X.env = pure false)
    {pl : Sem Bool} (hev : eval (.Call (.Attribute (.Call (.Name "super" p0) [] [] p1) "__init__" p2) [.Constant (.str m) j p3] [] p4) X.env = (do
      let ov ← attributeBase (.Call (.Name "super" p0) [] [] p1) "__init__" X.env (eval (.Call (.Name "super" p0) [] [] p1) X.env)
      standAt p2.atName
      let (f, first) ← holding [ov] (getMethod ov "__init__" pl)
      callWith p4 f first (backTo p4 (starEach [.Constant (.str m) j p3] X.env)) []))
    (he : starEach [.Constant (.str m) j p3] X.env = (false, eval (.Constant (.str m) j p3) X.env) :: starEach [] X.env := by rfl) (hpl : (backTo p4 (starEach [] X.env)).any (·.1) = false := by rfl) :
    PySem.wpAt (model X.prog X.w) X.A (.func body X.env) (exec (.Expr (.Call (.Attribute (.Call (.Name "super" p0) [] [] p1) "__init__" p2) [.Constant (.str m) j p3] [] p4) pos) X.env) (fun fl s' => fl = .next ∧ Inv X pins σ H s') X.xe s := by
  obtain ⟨nm, q, N, bs, bm, sn, sub, ab, col, dd, k0', k1, k2, k3, k5, hC, hbm⟩ := T.cls
  have hcl : PySem.W.clsIn X.K C = some { name := nm, bases := bs, mro := .ref C :: bm, ns := N, qualname := q, hasDict := true, slotNames := sn, subclasses := sub, abstract := ab, collection := col, hasDel := false } := by unfold PySem.W.clsIn; rw [hC] <;> rfl
  obtain ⟨t1, hox⟩ := exo_at I.hok e
  have KI := I.kIn
  obtain ⟨mL, hns, look⟩ := id I.loc
  have vx : mL ar.arg = some (.ref x) := by
    obtain ⟨u, ru, l⟩ := look 0 ar.arg (.ref x) hN0 h0 (.inl k0)
    obtain rfl : u = Value.ref x := ru
    rcases l with ⟨_, l⟩ | ⟨l, _⟩
    · exact l
    · rcases l with l | l <;> exact absurd ((show X.env.scope.names.lookup ar.arg = _ from l).symm.trans k0) (by decide)
  obtain ⟨cc, hcc, hcv⟩ : ∃ c, X.env.cells.lookup ("__class__" : Str) = some c ∧ s.heap.IsCell c (some (.ref C)) := by
    obtain ⟨u, ru, l⟩ := look kc "__class__" (.ref C) hNc hc (.inr (.inr hkc))
    obtain rfl : u = Value.ref C := ru
    rcases l with ⟨l, _⟩ | ⟨_, l⟩
    · exact absurd ((show X.env.scope.names.lookup ("__class__" : Str) = _ from l).symm.trans hkc) (by decide)
    · exact l
  have hmro : PySem.W.mroIn X.K C (.ref C) = some true := by
    unfold PySem.W.mroIn
    rw [hcl, Option.bind_some]
    simp
  obtain ⟨hp0, g, d, t, os⟩ := s
  refine PySem.ks_wpAt_Expr_any (PySem.ks_wpAt_MethodCall ?_ hev) hin hs
  refine PySem.ks_wpAt_super_base hks hkc (by decide) hfu (KI _ _ hf) rfl hp hco (KI _ _ hcode) rfl hvs hfile htop ?_
  obtain ⟨mb, hb1, hb2⟩ := I.mod.blt
  refine PySem.W.ks_loadName_global I.ok.kind hks (Calls.loadGlobal_builtin (by rw [I.ok.glob]; exact I.mod.glob.keeps I.bk) hsg (by rw [I.ok.blt]; exact hb1.keeps I.bk) ((hb2 "super" (by decide)).trans (show bootBuiltins "super" = some (.type "super") by kernel_rfl)) ⟨rfl, ?_⟩)
  refine wpAny_loadName_free I.ok.kind hkc hcc hcv ?_
  refine wpAny_loadName_local I.ok.kind k0 hns vx ?_
  refine PySem.ks_wpAny_isType_cls (KI _ _ hC) rfl ⟨rfl, ?_⟩
  refine PySem.ks_wpAny_call_super (KI _ _ hC) rfl hox rfl (fun c z => by cases z) (PySem.W.looks_mroIn KI hmro) (fun h1 eso k1' => ?_)
  have I1 : Inv X pins σ H ⟨h1, g, d, t, os⟩ := I.kept (t' := t) k1'
  have hox1 := k1' _ _ hox
  have hI : PySem.W.Looks (model X.prog X.w) h1 (isInstance (.ref x) (.type "ValueError")) true :=
    (show PySem.W.InstAt h1 x _ C none from ⟨hox1, rfl, rfl, trivial⟩).type.andThen (PySem.W.looks_subIn I1.kIn hB)
  have hm' : PySem.W.alongIn X.K "__init__" (((Value.ref C :: bm).dropWhile (· != .ref C)).drop 1) = some (some (.builtin "ValueError.__init__")) := by
    unfold PySem.W.ks_superIn at hm
    rw [hcl] at hm
    exact hm
  have hxC : x ≠ C := fun z => by
    rw [z] at hox
    have := KI _ _ hC
    rw [hox] at this
    cases this
  refine PySem.W.kxs_getMethod PySem.W.kxs_ValueError eso (PySem.W.looks_opaque I1.kIn ho) (l₀ := .ref C :: bm) ?_ rfl I1.kIn hm' hI hxC (by decide) ?_
  · exact fun A Q E s k q => wpAny_bind ((PySem.W.looks_clsIn I1.kIn hcl) A _ E s k (wpAny_pure q))
  have k2' : ∀ b o, h1.get? b = some o → (h1.push (PySem.W.kxs_mw "ValueError.__init__" x)).get? b = some o := fun b o z => Heap.get?_push_of_some _ z
  have I2 : Inv X pins σ H ⟨h1.push (PySem.W.kxs_mw "ValueError.__init__" x), g, d, t + 1, os⟩ := I1.kept (t' := t + 1) k2'
  have hu : (h1.push (PySem.W.kxs_mw "ValueError.__init__" x)).get? h1.objs.size = some (PySem.W.kxs_mw "ValueError.__init__" x) := Heap.get?_push_at rfl rfl
  have ha : PA X [.Constant (.str m) j p3] (tCons (tC (.str m)) tNil) := pa_cons pe_str pa_nil
  rw [he]
  refine PySem.W.kxs_callWith (i := "ValueError.__init__") (u := h1.objs.size) (x := x) (by show (false || (backTo p4 (starEach [] X.env)).any (·.1)) = false; rw [hpl]; rfl) ?_
  show wpAny _ _ (evalArgs _ true ((false, eval (.Constant (.str m) j p3) X.env) :: backTo p4 (starEach [] X.env)) []) _ _ _
  refine Calls.evalArgs_plain (Calls.spliced_cons (Calls.Constant_str (Calls.spliced_nil ⟨hu, ?_⟩)))
  exact call_mw T (I2.tok _) e hu (by show 1 ≤ sizeLine; rw [sizeLine_eq]; omega) fun s' J => ⟨rfl, J⟩
end
end Lx
end
section
set_option Elab.async false
set_option linter.all false
set_option maxRecDepth 100000
namespace Lx
open PySem PySem.Spec PyProof.Rows L2

section
variable {P : Program} {w : World} {K : PySem.W.Frag} {mg : Str → Option Value} {base : Heap} {CX : CXT} {k : Nat} {f C cc cda : Addr} {name qual : Str} {params : Arguments} {body rest : List Stmt} {scope : Scope} {dV kV doc pm ct oc oc1 oc2 : Value} {an od od1 od2 : Option Addr}
  {osl osl1 osl2 : Array (Option Value)} {N ps : List Str} {sp : Sp} {ar : Arg} {vs : Array Value} {file : Str} {tf : Tok} {m : Str} {j : Nat} {p0 p1 p2 p3 p4 pos : Pos}
abbrev nf (name qual : Str) (params : Arguments) (body : List Stmt) (scope : Scope) (cc cda : Addr) : NdefX.NF := ⟨name, qual, params, body, scope, [("__class__", cc)], cda⟩
theorem fn_exc (T : OexC K C) (lk : K.lookup f = some ⟨oc, od, .func (PySem.W.fnX name qual params body scope [("__class__", cc)] dV kV doc pm an (.ref cda) ct), osl⟩) (hcd : PySem.W.codeIn K (.ref cda) qual = true)
    (lc : K.lookup cc = some ⟨oc1, od1, .cell (some (.ref C)), osl1⟩) (lcd : K.lookup cda = some ⟨oc2, od2, .fields vs, osl2⟩) (hvs : vs[2]? = some (.str file tf)) (hfile : ((P.main.file : Str) == file) = true)
    (htop : (P.main.scope.names.lookup ("super" : Str)).isSome = false) (S : NdefX.NScope N ps ["__class__"] scope) (hp : (params.posonlyargs ++ params.args).head? = some ar) (har : ps.head? = some ar.arg)
    (hks : scope.names.lookup ("super" : Str) = some .globalImplicit) (hsg : mg "super" = none) (ho : PySem.W.nsIn K cStatics "thirdparty.any" = some none) (hm : PySem.W.ks_superIn K C C "__init__" = some (some (.builtin "ValueError.__init__")))
    (hB : PySem.W.subIn K (.ref C) (.type "ValueError") = some true)
    (hb : body = .Expr (.Call (.Attribute (.Call (.Name "super" p0) [] [] p1) "__init__" p2) [.Constant (.str m) j p3] [] p4) pos :: rest)
    {pl : Env → Sem Bool} (hev : ∀ env : Env, eval (.Call (.Attribute (.Call (.Name "super" p0) [] [] p1) "__init__" p2) [.Constant (.str m) j p3] [] p4) env = (do
      let ov ← attributeBase (.Call (.Name "super" p0) [] [] p1) "__init__" env (eval (.Call (.Name "super" p0) [] [] p1) env)
      standAt p2.atName
      let (f, first) ← holding [ov] (getMethod ov "__init__" (pl env))
      callWith p4 f first (backTo p4 (starEach [.Constant (.str m) j p3] env)) []))
    (hsw : ∀ env : Env, swapsWith (.Call (.Attribute (.Call (.Name "super" p0) [] [] p1) "__init__" p2) [.Constant (.str m) j p3] [] p4) none pos.line env = pure false)
    (hsp : ∀ vs H Q E, sp vs H Q E → vs.length = ps.length ∧ ∃ a vs', vs = .ref a :: vs' ∧ H a = some (exo a C none))
    (hrest : ∀ (A : Around) (outer : List Env) (s : Shared) (H : Hp) (E : XK), ∃ t, PSs (NdefX.ncx CX P w K mg base N (nf name qual params body scope cc cda) f A outer s H E) rest t ∧
      ∀ vs Q, sp vs H Q E → t { nx := fun _ H' => Q .non H', rt := Q } (NdefX.startF N vs [some (.ref C)]) H) :
    FnOk P w K mg base CX (k + 1) f (PySem.W.fnX name qual params body scope [("__class__", cc)] dV kV doc pm an (.ref cda) ct) ps sp := by
  refine ⟨fun vs H Q E h => (hsp vs H Q E h).1, fun A outer s H args us vs0 Q E hr e0 hbd r hs => ?_⟩
  obtain ⟨hl, a, vs', rfl, ea⟩ := hsp _ _ _ _ hs
  have KX : K.In s.heap := e0.mod.kin.keeps fun b o e => (e0.bs b o e).1
  have lim : s.heap.NoLimit := e0.mod.nolimit.keeps fun b o e => (e0.bs b o e).1
  refine ks_codeAny_call_defAt hr.depth (KX _ _ lk) rfl lim (PySem.W.codeRec_of KX hcd) rfl hbd S.nocell (fun ⟨n, _⟩ hy => S.par n (List.of_mem_zip hy).1) (fun h₁ hns kp => ?_) S.co S.gen S.kind
  have hcb := e0.mod.kin _ _ lc
  have CA : NdefX.CellsAt [(("__class__" : Str), cc)] ["__class__"] [some (.ref C)] s.heap H := by
    have l1 : ∀ {y : Str} {c : Addr}, [(("__class__" : Str), cc)].lookup y = some c → y = "__class__" ∧ c = cc := fun {y c} z => by
      by_cases hy : y = ("__class__" : Str)
      · subst hy
        rw [List.lookup_cons_self] at z
        exact ⟨rfl, (Option.some.inj z).symm⟩
      · have hb : (y == ("__class__" : Str)) = false := by simpa using hy
        rw [List.lookup_cons, hb] at z
        cases z
    refine ⟨rfl, fun y c z => ?_, fun x y c z1 z2 => (l1 z1).1.trans (l1 z2).1.symm, fun i y hi => ?_⟩
    · obtain ⟨_, rfl⟩ := l1 z
      exact ⟨(e0.bs _ _ hcb).2, _, _, (e0.bs _ _ hcb).1, rfl⟩
    · cases i with
      | succ i => cases hi
      | zero =>
        cases hi
        exact ⟨cc, List.lookup_cons_self, fun v hv => by
          cases hv
          exact ⟨.ref C, rfl, _, (e0.bs _ _ hcb).1, rfl⟩⟩
  have I := NdefX.inv_startN (CX := CX) (E := E) (f := f) (F := nf name qual params body scope cc cda) (tk := s.toks + (ps.zip us).length) S hr.hd e0 hl r CA hns kp
  obtain ⟨t, ht, hq⟩ := hrest A outer s H E
  have hpl : ps.length + 1 ≤ N.length := by
    have q := congrArg List.length S.pre
    rw [List.length_take, List.length_append] at q
    simp only [List.length_cons, List.length_nil] at q
    omega
  have hps : ps = ar.arg :: ps.tail := by
    cases ps with
    | nil => cases har
    | cons p q => cases har; rfl
  have hN0 : N[0]? = some ar.arg := by
    have := congrArg (fun l => l[0]?) S.pre
    simp only [List.length_cons, List.length_nil] at this
    rw [List.getElem?_take_of_lt (by omega), hps] at this
    exact this
  have hNc : N[ps.length]? = some ("__class__" : Str) := by
    have := congrArg (fun l => l[ps.length]?) S.pre
    simp only [List.length_cons, List.length_nil] at this
    rw [List.getElem?_take_of_lt (by omega), List.getElem?_append_right (Nat.le_refl _), Nat.sub_self] at this
    exact this
  have hS0 : (NdefX.startF N (V.ref a :: vs') [some (.ref C)])[0]? = some (some (V.ref a)) := rfl
  have hSc : (NdefX.startF N (V.ref a :: vs') [some (.ref C)])[ps.length]? = some (some (V.ref C)) := by
    unfold NdefX.startF
    rw [List.getElem?_append_right (by rw [List.length_map, hl]; exact Nat.le_refl _), List.length_map, hl, Nat.sub_self]
    rfl
  rw [hb]
  refine PySem.ks_wpAt_execs_cons (PySem.ks_wpAt_mono (sup_stmt (X := NdefX.ncx CX P w K mg base N (nf name qual params body scope cc cda) f A outer s H E) T I ea rfl lk hp rfl lcd hvs hfile htop hN0 hS0 (S.par _ (by rw [hps]; exact List.mem_cons_self)) hNc hSc (S.frk _ List.mem_cons_self) hks hsg ho hm hB (by show interactive (NdefX.envF (nf name qual params body scope cc cda) f s.heap.objs.size) = false; unfold interactive; simp [S.kind]) (hsw _) (hev _)) (fun fl s' h => ?_) fun _ _ h => h)
  obtain ⟨rfl, J⟩ := h
  refine wpAt_of_wpAny (wpAny_mono (ht.run [] s' _ H _ J (hq _ _ hs)) (fun fl s2 hs => ?_) fun e s' hs => hs)
  have fin : ∀ {σ' : L2.St} {H' : Hp} {v : V} {u : Value}, Inv (NdefX.ncx CX P w K mg base N (nf name qual params body scope cc cda) f A outer s H E) [] σ' H' s2 → L2.RelV v u → Q v H' → CE outer P w H s Q u s2 :=
    fun {σ' H' v u} J rv q => ⟨v, H', J.os, J.bare, J.base, J.hok, rv, q⟩
  cases fl with
  | ret u =>
    obtain ⟨v, σ', H', J, rv, q⟩ := hs
    exact fin J rv q
  | next =>
    obtain ⟨σ', H', J, q⟩ := hs
    exact fin (v := V.non) (u := Value.none) J rfl q
  | brk =>
    obtain ⟨_, _, _, q⟩ := hs
    exact False.elim q
  | cont =>
    obtain ⟨_, _, _, q⟩ := hs
    exact False.elim q
end
end Lx
end
section
set_option Elab.async false
set_option linter.all false
set_option maxRecDepth 100000
namespace Lp
open PySem PySem.Spec L2

/-- an own exception's __init__ with one field -/
def spX1 (C : Addr) (fld : Str) : Sp := fun vs H Q _ => ∃ a y, vs = [.ref a, y] ∧ H a = some (exo a C none) ∧ ∀ d, H d = none → d ≠ a → Q .non (upd (upd H d (exd d [(fld, y)])) a (exo a C (some d)))
/-- .. with two fields -/
def spX2 (C : Addr) (f1 f2 : Str) : Sp := fun vs H Q _ => ∃ a y z, vs = [.ref a, y, z] ∧ H a = some (exo a C none) ∧ ∀ d, H d = none → d ≠ a → Q .non (upd (upd (upd H d (exd d [(f1, y)])) a (exo a C (some d))) d (exd d [(f2, z), (f1, y)]))
section
variable {P : Program} {w : World} {K : PySem.W.Frag} {mg : Str → Option Value} {base : Heap} {CX : CXT} {A : Around} {outer : List Env} {s : Shared} {H : Hp} {E : XK} {C f : Addr} {F : NdefX.NF} {fld f1 f2 v v1 v2 : Str} {q1 q2 q3 q4 r1 r2 r3 r4 : Pos}
abbrev tX1 (K : PySem.W.Frag) (fld : Str) : TS := tOst K fld (tVar 0) (tVar 1)
theorem rest1 (h0 : F.scope.names.lookup ("self" : Str) = some .local) (h1 : F.scope.names.lookup v = some .local) (hd : (v == ("__debug__" : Str)) = false) (hcd : (v == ("__classdict__" : Str)) = false) (T : OexC K C) (hf : PySem.W.findIn K (.ref C) fld = some none) :
    ∃ t, PSs (NdefX.ncx CX P w K mg base ["self", v, "__class__"] F f A outer s H E) [.Assign [.Attribute (.Name "self" q1) fld q2] (.Name v q3) q4] t ∧
      ∀ vs Q, spX1 C fld vs H Q E → t { nx := fun _ H' => Q .non H', rt := Q } (NdefX.startF ["self", v, "__class__"] vs [some (.ref C)]) H := by
  refine ⟨_, pss_one (ps_ost (pe_var (i := 0) rfl (.inl h0) (by decide) (by decide)) (pe_var (i := 1) rfl (.inl h1) hd hcd)), fun vs Q q => ?_⟩
  obtain ⟨a, y, rfl, ea, q⟩ := q
  exact ⟨y, rfl, .ref a, rfl, a, C, rfl, T, hf, .inl ⟨ea, fun dx n ne => q dx n ne⟩⟩
theorem rest2 (h0 : F.scope.names.lookup ("self" : Str) = some .local) (h1 : F.scope.names.lookup v1 = some .local) (hd1 : (v1 == ("__debug__" : Str)) = false) (hcd1 : (v1 == ("__classdict__" : Str)) = false)
    (h2 : F.scope.names.lookup v2 = some .local) (hd2 : (v2 == ("__debug__" : Str)) = false) (hcd2 : (v2 == ("__classdict__" : Str)) = false) (T : OexC K C) (hf1 : PySem.W.findIn K (.ref C) f1 = some none) (hf2 : PySem.W.findIn K (.ref C) f2 = some none) :
    ∃ t, PSs (NdefX.ncx CX P w K mg base ["self", v1, v2, "__class__"] F f A outer s H E) [.Assign [.Attribute (.Name "self" q1) f1 q2] (.Name v1 q3) q4, .Assign [.Attribute (.Name "self" r1) f2 r2] (.Name v2 r3) r4] t ∧
      ∀ vs Q, spX2 C f1 f2 vs H Q E → t { nx := fun _ H' => Q .non H', rt := Q } (NdefX.startF ["self", v1, v2, "__class__"] vs [some (.ref C)]) H := by
  refine ⟨_, pss_cons (ps_ost (pe_var (i := 0) rfl (.inl h0) (by decide) (by decide)) (pe_var (i := 1) rfl (.inl h1) hd1 hcd1)) (pss_one (ps_ost (pe_var (i := 0) rfl (.inl h0) (by decide) (by decide)) (pe_var (i := 2) rfl (.inl h2) hd2 hcd2))), fun vs Q q => ?_⟩
  obtain ⟨a, y, z, rfl, ea, q⟩ := q
  refine ⟨y, rfl, .ref a, rfl, a, C, rfl, T, hf1, .inl ⟨ea, fun dx n ne => ?_⟩⟩
  exact ⟨z, rfl, .ref a, rfl, a, C, rfl, T, hf2, .inr ⟨dx, _, upd_same, by rw [upd_ne ne, upd_same], by simp, q dx n ne⟩⟩
end

/-- x: an own exception's class at C, made as sp says -/
structure ExcC (P : Program) (w : World) (K : PySem.W.Frag) (mg : Str → Option Value) (base : Heap) (k : Nat) (x : Str) (C : Addr) (sp : Sp) : Prop where
  oex : OexC K C
  ex : ∃ fI fd ps, PySem.W.findIn K (.ref C) "__init__" = some (some (.ref fI)) ∧ PySem.W.typeIn K (.ref fI) = some (.type "function") ∧ FnOk P w K mg base (L2.CX P w) k fI fd ps sp ∧ Binds K fd ps []
  glob : mg x = some (.ref C)

section
variable {G : GW} {X : Cx} {κ : Kd} {W : WX} {rm : Mode} {e ea eb : Expr} {x fld f1 f2 : Str} {k c : Nat} {p p1 pos : Pos} {f fa fb : LE → Res PV}
theorem delX_upd {H1 : Hp} {a d : Addr} {o1 o2 o3 : HO} (ha : H1 a = none) : upd (del (upd (upd (upd H1 a o1) d o2) a o3) a) d (.xd fs) = upd H1 d (.xd fs) := by
  funext b
  by_cases hd : b = d
  · rw [hd, upd_same, upd_same]
  · rw [upd_ne hd, upd_ne hd]
    by_cases hb : b = a
    · rw [hb, del_same, ha]
    · rw [del_ne hb, upd_ne hb, upd_ne hd, upd_ne hb]
theorem delX_upd2 {H1 : Hp} {a d : Addr} {o1 o2 o3 o4 : HO} (ha : H1 a = none) : upd (del (upd (upd (upd (upd H1 a o1) d o2) a o3) d o4) a) d (.xd fs) = upd H1 d (.xd fs) := by
  funext b
  by_cases hd : b = d
  · rw [hd, upd_same, upd_same]
  · rw [upd_ne hd, upd_ne hd]
    by_cases hb : b = a
    · rw [hb, del_same, ha]
    · rw [del_ne hb, upd_ne hd, upd_ne hb, upd_ne hd, upd_ne hb]
def sRaise (c : Nat) (fld : Str) (f : LE → Res PV) : LE → Fl := fun τ => rs (f τ) τ fun p => .ex c [(fld, p)] τ
theorem s_raise (hc : X.calm = true) (tk : Takes X W) (XC : ExcC X.prog X.w X.K X.mg X.base k x (G c) (spX1 (G c) fld)) (hr : Room (k + 1) X.A) (h : PE X e (tE G X.K .sh (WE W) κ f)) (hg : Gl X x := by rfl)
    (hdb : (x == ("__debug__" : Str)) = false := by decide) (he : starEach (e :: []) X.env = (false, eval e X.env) :: starEach [] X.env := by rfl) (hpl : (backTo p1 (starEach [] X.env)).any (·.1) = false := by rfl) :
    PS X (.Raise (some (.Call (.Name x p) [e] [] p1)) none pos) (tStm G X.K (WE W) κ rm (sRaise c fld f)) := by
  obtain ⟨oex, ⟨fI, fd, ps, iC, tI, F1, hb⟩, gl⟩ := XC
  refine ps_weak (ps_raise hc tk (pmk_oex oex iC tI F1 hr hb .nil passL hg gl (a_cons h a_nil he) hdb he hpl)) fun D σ H ⟨F0, H0, F, τ, zs, l, q⟩ => ?_
  refine ⟨F, τ, l.lc, ?_⟩
  unfold sRaise at q
  unfold aCons
  cases hf : f τ with
  | bad => rw [hf] at q; exact q.elim
  | exc c ps => rw [hf, rs_exc] at q; exact l.exc q
  | ok p =>
    rw [hf, rs_ok] at q
    intro vs F1 H1 e1 r1
    cases r1 with
    | cons r1 rn =>
      rename_i v vs
      cases rn
      refine ⟨by simp, fun a ha => ⟨a, v, rfl, upd_same, fun d hd hne => ⟨rfl, d, [(fld, v)], upd_same, by rw [upd_ne hne, upd_same], by rw [upd_ne hne] at hd; exact hd, ?_⟩⟩⟩
      rw [delX_upd ha]
      rw [upd_ne hne] at hd
      have e2 := e1.push (.xd [(fld, v)]) hd
      exact q σ _ _ d [(fld, v)] (l.of_ext e2) upd_same (.cons (Rep.mono (same_new (Same.free e1.sub hd)) r1) .nil)
def sRaise2 (c : Nat) (f1 f2 : Str) (fa fb : LE → Res PV) : LE → Fl := fun τ => rs (fa τ) τ fun p => rs (fb τ) τ fun q => .ex c [(f2, q), (f1, p)] τ
theorem s_raise2 (hc : X.calm = true) (tk : Takes X W) (XC : ExcC X.prog X.w X.K X.mg X.base k x (G c) (spX2 (G c) f1 f2)) (hr : Room (k + 1) X.A) (ha : PE X ea (tE G X.K .sh (WE W) κ fa)) (hb' : PE X eb (tE G X.K .sh (WE W) κ fb)) (hg : Gl X x := by rfl)
    (hdb : (x == ("__debug__" : Str)) = false := by decide) (he : starEach [ea, eb] X.env = (false, eval ea X.env) :: starEach [eb] X.env := by rfl) (he2 : starEach [eb] X.env = (false, eval eb X.env) :: starEach [] X.env := by rfl) (hpl : (backTo p1 (starEach [eb] X.env)).any (·.1) = false := by rfl) :
    PS X (.Raise (some (.Call (.Name x p) [ea, eb] [] p1)) none pos) (tStm G X.K (WE W) κ rm (sRaise2 c f1 f2 fa fb)) := by
  obtain ⟨oex, ⟨fI, fd, ps, iC, tI, F1, hb⟩, gl⟩ := XC
  refine ps_weak (ps_raise hc tk (pmk_oex oex iC tI F1 hr hb .nil passL hg gl (a_cons ha (a_cons hb' a_nil he2) he) hdb he hpl)) fun D σ H ⟨F0, H0, F, τ, zs, l, q⟩ => ?_
  refine ⟨F, τ, l.lc, ?_⟩
  unfold sRaise2 at q
  unfold aCons
  cases hf : fa τ with
  | bad => rw [hf] at q; exact q.elim
  | exc c ps => rw [hf, rs_exc] at q; exact l.exc q
  | ok p =>
    rw [hf, rs_ok] at q
    cases hg : fb τ with
    | bad => rw [hg] at q; exact q.elim
    | exc c ps =>
      rw [hg, rs_exc] at q
      simp only [Res.ok_bind, Res.exc_bind]
      exact l.exc q
    | ok p2 =>
      rw [hg, rs_ok] at q
      intro vs F1 H1 e1 r1
      cases r1 with
      | cons r1 rn =>
        rename_i v vs
        cases rn with
        | cons r2 rn =>
          rename_i v2 vs
          cases rn
          refine ⟨by simp, fun a ha => ⟨a, v, v2, rfl, upd_same, fun d hd hne => ⟨rfl, d, [(f2, v2), (f1, v)], by rw [upd_ne (Ne.symm hne), upd_same], upd_same, by rw [upd_ne hne] at hd; exact hd, ?_⟩⟩⟩
          rw [delX_upd2 ha]
          rw [upd_ne hne] at hd
          have e2 := e1.push (.xd [(f2, v2), (f1, v)]) hd
          have s2 := same_new (o := .xd [(f2, v2), (f1, v)]) (Same.free e1.sub hd)
          exact q σ _ _ d _ (l.of_ext e2) upd_same (.cons (Rep.mono s2 r2) (.cons (Rep.mono s2 r1) .nil))
end
end Lp
end
section
set_option Elab.async false
set_option linter.all false
set_option maxRecDepth 100000
namespace Lp
open PySem PySem.Spec L2

/-! ### defs and their calls -/
section
variable (G : GW) (K : PySem.W.Frag)
/-- what a def promises: it answers as g -/
def spM (rm : Mode) (n : Nat) (g : List PV → Res PV) : Sp := fun vs H Q E => ∃ F ps, Same F H ∧ Reps G K F vs ps ∧ ps.length = n ∧ match g ps with
  | .ok p => ∀ v F' H', Ext F H F' H' → RM G K rm H F' H' v p → Q v H'
  | .exc c fs => ExcOk G K E F H c fs
  | .bad => False
end
def eFn (g : List PV → Res PV) (fa : LE → Res (List PV)) : LE → Res PV := fun τ => fa τ >>= g
/-- how a def's body ends, told to the caller -/
def fin (rm : Mode) (r : Fl) : Res PV := match r with
  | .rt p => .ok p
  | .nx _ => match rm with
    | .sh => .ok .non
    | _ => .bad
  | .ex c fs _ => .exc c fs
  | _ => .bad
structure Dk (P : Program) (w : World) (K : PySem.W.Frag) (mg : Str → Option Value) (base : Heap) (k : Nat) (x : Str) (sp : Sp) : Prop where
  ex : ∃ f fd ps, FnOk P w K mg base (L2.CX P w) k f fd ps sp ∧ mg x = some (.ref f) ∧ PySem.W.keepIn K (.ref f) = true ∧ Binds K fd ps []
def ar1 (m : PV → Res PV) : List PV → Res PV
  | [a] => m a
  | _ => .bad
def ar2 (m : PV → PV → Res PV) : List PV → Res PV
  | [a, b] => m a b
  | _ => .bad
def ar3 (m : PV → PV → PV → Res PV) : List PV → Res PV
  | [a, b, c] => m a b c
  | _ => .bad
def ar4 (m : PV → PV → PV → PV → Res PV) : List PV → Res PV
  | [a, b, c, d] => m a b c d
  | _ => .bad
def ar5 (m : PV → PV → PV → PV → PV → Res PV) : List PV → Res PV
  | [a, b, c, d, e] => m a b c d e
  | _ => .bad
def ar6 (m : PV → PV → PV → PV → PV → PV → Res PV) : List PV → Res PV
  | [a, b, c, d, e, f] => m a b c d e f
  | _ => .bad
theorem ar1_len {m} : ∀ ps, ar1 m ps ≠ .bad → ps.length = 1 := fun ps h => by unfold ar1 at h; split at h <;> first | rfl | exact absurd rfl h
theorem ar2_len {m} : ∀ ps, ar2 m ps ≠ .bad → ps.length = 2 := fun ps h => by unfold ar2 at h; split at h <;> first | rfl | exact absurd rfl h
theorem ar3_len {m} : ∀ ps, ar3 m ps ≠ .bad → ps.length = 3 := fun ps h => by unfold ar3 at h; split at h <;> first | rfl | exact absurd rfl h
theorem ar4_len {m} : ∀ ps, ar4 m ps ≠ .bad → ps.length = 4 := fun ps h => by unfold ar4 at h; split at h <;> first | rfl | exact absurd rfl h
theorem ar5_len {m} : ∀ ps, ar5 m ps ≠ .bad → ps.length = 5 := fun ps h => by unfold ar5 at h; split at h <;> first | rfl | exact absurd rfl h
theorem ar6_len {m} : ∀ ps, ar6 m ps ≠ .bad → ps.length = 6 := fun ps h => by unfold ar6 at h; split at h <;> first | rfl | exact absurd rfl h

section
variable {G : GW} {K : PySem.W.Frag} {F H F' H' F0 H0 : Hp} {X : Cx} {v : V} {p : PV} {κ : Kd} {E : St → XK} {W : WX} {m md rm : Mode} {e : Expr} {es : List Expr} {pos p' : Pos} {zs : Option Addr} {σ : St} {τ : LE} {x : Str} {k n : Nat} {g : List PV → Res PV} {fa : LE → Res (List PV)}
theorem spM_len {vs : List V} {Q : VK} {E : XK} (h : spM G K rm n g vs H Q E) : vs.length = n := by
  obtain ⟨F, ps, _, r, e, _⟩ := h
  rw [r.length, e]
theorem v_call (D : Dk X.prog X.w X.K X.mg X.base k x (spM G X.K rm n g)) (hr : Room k X.A) (tk : Takes X W) (ha : PA X (e :: es) (tA G X.K .sh (WE W) κ fa)) (hL : ∀ ps, g ps ≠ .bad → ps.length = n) (hg : Gl X x := by rfl)
    (hdb : (x == ("__debug__" : Str)) = false := by decide) (he : starEach (e :: es) X.env = (false, eval e X.env) :: starEach es X.env := by rfl) (hpl : (backTo pos (starEach es X.env)).any (·.1) = false := by rfl) :
    PE X (.Call (.Name x p') (e :: es) [] pos) (tE G X.K rm (WE W) κ (eFn g fa)) := by
  obtain ⟨f, fd, ps, Fk, hm, hk, hb⟩ := D.ex
  refine pe_weak (pe_callS Fk hr hg hm hk hb (fun σ => passAt tk σ) ha hdb he hpl) fun σ H Q ⟨F, τ, l, q⟩ => ?_
  refine ⟨F, τ, l, ?_⟩
  unfold eFn at q
  cases hf : fa τ with
  | bad => rw [hf] at q; exact q
  | exc c ps => rw [hf] at q; exact q
  | ok qs =>
    rw [hf, Res.ok_bind] at q
    intro vs F1 H1 e1 r1
    refine ⟨F1, qs, e1.sub, r1.shared, hL qs fun z => by rw [z] at q; exact q, ?_⟩
    cases hg : g qs with
    | bad => rw [hg] at q; exact q
    | exc c ps => rw [hg] at q; exact ExcOk.ext q e1
    | ok p => rw [hg] at q; exact fun v F2 H2 e2 r2 => q v F2 H2 (e1.trans e2) (r2.before e1.h)

theorem start_shared {N : List Str} {vs : List V} {qs : List PV} (s : Same F H) (r : Reps G K F vs qs) (hκ : ∀ i, i < qs.length → κ i = false) (hl : qs.length ≤ N.length) : Lc G K κ F H (start N vs) (qs.map some ++ List.replicate (N.length - qs.length) none) := by
  have hlen := r.length
  have key : ∀ i p, (qs.map some ++ List.replicate (N.length - qs.length) none)[i]? = some (some p) → qs[i]? = some p := fun i p h => by
    by_cases hi : i < qs.length
    · rw [List.getElem?_append_left (by rw [List.length_map]; exact hi), List.getElem?_map] at h
      cases e : qs[i]? with
      | none => rw [e] at h; cases h
      | some a => rw [e] at h; cases h; rfl
    · rw [List.getElem?_append_right (by rw [List.length_map]; omega), List.getElem?_replicate] at h
      split at h <;> cases h
  refine ⟨s, ?_, fun i p h1 h2 => ?_, fun i p h1 h2 => ?_, fun i j p q a h1 h2 h3 h4 _ _ => ?_⟩
  · unfold L2.start
    rw [List.length_append, List.length_append, List.length_map, List.length_map, List.length_replicate, List.length_replicate, hlen]
  · obtain ⟨v, e, rv⟩ := r.get (key i p h1)
    refine ⟨v, ?_, rv⟩
    unfold L2.start
    have hi : i < vs.length := (List.getElem?_eq_some_iff.mp e).1
    rw [List.getElem?_append_left (by rw [List.length_map]; exact hi), List.getElem?_map, e]
    rfl
  · have hi := (List.getElem?_eq_some_iff.mp (key i p h1)).1
    rw [hκ i hi] at h2; cases h2
  · have hi := (List.getElem?_eq_some_iff.mp (key i p h3)).1
    rw [hκ i hi] at h1; cases h1
/-- a def by its body -/
theorem d_of {P : Program} {w : World} {mg : Str → Option Value} {base : Heap} {qual : Str} {st : Stmt} {f : Addr} {fd : FuncData} {N ps : List Str} {k : Nat} {m : LE → Fl} (Fn : Fun K x qual st f fd) (S : FnScope N ps (defScope st)) (hκ : ∀ i, i < ps.length → κ i = false)
    (hg : ∀ qs, qs.length = ps.length → g qs = fin rm (m (qs.map some ++ List.replicate (N.length - qs.length) none)))
    (hbody : ∀ (cdv : Value) (A : Around) (outer : List Env) (s : Shared) (H : Hp) (E : XK), Room k (A.deeper (PyProof.Rows.envOfC qual (defScope st) s.heap.objs.size f cdv)) →
      PSs (cxOf (L2.CX P w) P w K mg base N qual (defScope st) f cdv A outer s H E) (defBody st) (tStm G K (WE fun cls d _ H => E cls d H) κ rm m)) :
    FnOk P w K mg base (L2.CX P w) (k + 1) f fd ps (spM G K rm ps.length g) := by
  have hpl : ps.length ≤ N.length := by have := congrArg List.length S.pre; rw [List.length_take] at this; omega
  refine Fn.okX S (fun vs H Q E h => spM_len h) fun cdv A outer s H vs Q E hr hsp => ?_
  obtain ⟨F, qs, sm, r, hl, q⟩ := hsp
  refine ⟨_, hbody cdv A outer s H E hr, F, H, F, _, none, ⟨start_shared sm r (by rw [hl]; exact hκ) (by omega), Ext.refl sm, fun i p a h1 h2 h3 => ?_, fun a z => nomatch z⟩, ?_⟩
  · exfalso
    by_cases hi : i < qs.length
    · rw [hκ i (by omega)] at h1; cases h1
    · rw [List.getElem?_append_right (by rw [List.length_map]; omega), List.getElem?_replicate] at h2
      split at h2 <;> cases h2
  · rw [hg qs hl] at q
    cases hm : m (qs.map some ++ List.replicate (N.length - qs.length) none) with
    | bk τ => rw [hm] at q; exact q.elim
    | ct τ => rw [hm] at q; exact q.elim
    | bad => rw [hm] at q; exact q.elim
    | rt p => rw [hm] at q; exact q
    | ex c fs τ => rw [hm] at q; exact fun σ' F' H' d fs l h1 h2 => q d fs F' H' l.ext h1 h2
    | nx τ =>
      rw [hm] at q
      cases rm with
      | sh => exact fun σ' F' H' l => q .non F' H' l.ext .non
      | fr => exact q.elim
      | top => exact q.elim
end
end Lp
end
section
set_option Elab.async false
set_option linter.all false
set_option maxRecDepth 100000
namespace Lp
open PySem PySem.Spec L2

/-! ### try .. except -/
def noEx : Fl → Fl
  | .ex _ _ _ => .bad
  | r => r
/-- the name of the clause goes -/
def tidy (i : Nat) : Fl → Fl
  | .nx τ => .nx (τ.set i none)
  | .bk τ => .bk (τ.set i none)
  | .ct τ => .ct (τ.set i none)
  | .ex _ _ _ => .bad
  | r => r
def sTryO (cov : Nat → Option Bool) (mb ms : LE → Fl) : LE → Fl := fun τ => match mb τ with
  | .ex c fs τ1 => match cov c with
    | some true => noEx (ms τ1)
    | some false => .ex c fs τ1
    | none => .bad
  | r => r
section
variable {G : GW} {F H F' H' F0 H0 : Hp} {X : Cx} {κ : Kd} {E : St → XK} {W : WX} {rm : Mode} {zs : Option Addr} {σ : St} {τ : LE} {x n f : Str} {body suite : List Stmt} {b₀ : Stmt} {np pos pos' : Pos} {cv : Value} {mb ms : LE → Fl} {cov : Nat → Option Bool} {i : Nat}
theorem s_tryO (cov : Nat → Option Bool) (hcov : ∀ c b, cov c = some b → PySem.W.exmOne X.K (.ref (G c)) cv = some b) (hc : Names X x cv) (tk : Takes X W)
    (hb : ∀ (W : WX) (pn : List (Addr × Obj)) (xe : Value → Shared → Prop), Takes (X.tr pn xe) W → PassesOwn (model X.prog X.w) X.A X.env xe → PSs (X.tr pn xe) body (tStm G X.K (WE W) κ rm mb))
    (hsu : ∀ (a : Addr) (oe : Obj) (pn : List (Addr × Obj)), PSs (X.suite a ((a, oe) :: pn)) (b₀ :: suite) (tStm G X.K (fun _ _ _ _ => False) κ rm ms))
    (hs : X.stack = X.env :: X.outer := by rfl) (hf : X.env.frame = some X.env.locals := by rfl) :
    PS X (.Try body [.ExceptHandler (some (.Name x np)) none (b₀ :: suite) pos'] [] [] pos) (tStm G X.K (WE W) κ rm (sTryO cov mb ms)) := by
  refine ps_weak (ps_try_only (tb := fun W => tStm G X.K (WE W) κ rm mb) (ts := fun _ _ _ => tStm G X.K (fun _ _ _ _ => False) κ rm ms) hs hf hc tk hb fun a oe cls d pn _ _ => hsu a oe pn) fun D σ H ⟨F0, H0, F, τ, zs, l, q⟩ => ?_
  refine ⟨F0, H0, F, τ, zs, l, ?_⟩
  unfold sTryO at q
  cases h : mb τ with
  | nx τ' => simp only [h] at q; exact q
  | bk τ' => simp only [h] at q; exact q
  | ct τ' => simp only [h] at q; exact q
  | rt p => simp only [h] at q; exact q
  | bad => simp only [h] at q
  | ex c fs τ1 =>
    simp only [h] at q
    intro σ' F' H' d fs' l' h1 h2
    cases hcv : cov c with
    | none => simp only [hcv] at q
    | some b =>
      refine ⟨b, hcov c b hcv, fun hbt => ?_, fun hbf => ?_⟩
      · subst hbt
        simp only [hcv] at q
        refine fun a _ => ⟨F0, H0, F', τ1, zs, l', ?_⟩
        cases hm : ms τ1 with
        | ex c fs τ2 => rw [hm] at q; exact q.elim
        | _ => rw [hm] at q; exact q
      · subst hbf
        simp only [hcv] at q
        exact q σ' F' H' d fs' l' h1 h2

/-- except x as n: slot i -/
def sTryA (cov : Nat → Option Bool) (i : Nat) (mb : LE → Fl) (ms : Addr → Addr → Nat → LE → Fl) : LE → Fl := fun τ => match mb τ with
  | .ex c fs τ1 => match cov c with
    | some true => if i < τ1.length then tidy i (ms 0 0 c (τ1.set i (some (.exn 0 0 c fs)))) else .bad
    | some false => .ex c fs τ1
    | none => .bad
  | r => r
theorem Ls.clear (l : Ls G X.K κ zs F0 H0 F H σ τ) (k : κ i = false) : Ls G X.K κ zs F0 H0 F H (σ.set i none) (τ.set i none) := by
  have nn : ∀ j (q : PV), (τ.set i none)[j]? = some (some q) → j ≠ i ∧ τ[j]? = some (some q) := fun j q h => by
    by_cases hj : i = j
    · subst hj
      rw [List.getElem?_set] at h
      simp only [if_true] at h
      split at h <;> cases h
    · rw [List.getElem?_set_ne hj] at h
      exact ⟨Ne.symm hj, h⟩
  refine ⟨⟨l.lc.sub, by rw [List.length_set, List.length_set]; exact l.lc.len, fun j q h1 h2 => ?_, fun j q h1 h2 => ?_, fun j1 j2 q1 q2 b h1 h2 h3 h4 h5 h6 => ?_⟩, l.ext, fun j q a h1 h2 h3 => ?_, fun a e => ⟨(l.me a e).1, by rw [List.getElem?_set_ne fun z => by rw [z] at k; rw [(l.me a e).1] at k; cases k]; exact (l.me a e).2⟩⟩
  · obtain ⟨hj, h⟩ := nn j q h1
    rw [List.getElem?_set_ne (Ne.symm hj)]
    exact l.lc.sh j q h h2
  · obtain ⟨hj, h⟩ := nn j q h1
    rw [List.getElem?_set_ne (Ne.symm hj)]
    exact l.lc.ow j q h h2
  · obtain ⟨hj1, h3⟩ := nn j1 q1 h3
    obtain ⟨hj2, h4⟩ := nn j2 q2 h4
    rw [List.getElem?_set_ne (Ne.symm hj1)] at h5
    rw [List.getElem?_set_ne (Ne.symm hj2)] at h6
    exact l.lc.ap j1 j2 q1 q2 b h1 h2 h3 h4 h5 h6
  · obtain ⟨hj, h⟩ := nn j q h2
    rw [List.getElem?_set_ne (Ne.symm hj)] at h3
    exact l.new j q a h1 h h3
theorem s_tryA (cov : Nat → Option Bool) (i : Nat) {ms : Addr → Addr → Nat → LE → Fl} (hcov : ∀ c b, cov c = some b → PySem.W.exmOne X.K (.ref (G c)) cv = some b) (hind : ∀ a d c fs (τ : LE), tidy i (ms a d c (τ.set i (some (.exn a d c fs)))) = tidy i (ms 0 0 c (τ.set i (some (.exn 0 0 c fs)))))
    (hc : Names X x cv) (tk : Takes X W)
    (hb : ∀ (W : WX) (pn : List (Addr × Obj)) (xe : Value → Shared → Prop), Takes (X.tr pn xe) W → PassesOwn (model X.prog X.w) X.A X.env xe → PSs (X.tr pn xe) body (tStm G X.K (WE W) κ rm mb))
    (hsu : ∀ (a d : Addr) (oe : Obj) (pn : List (Addr × Obj)) (c : Nat), cov c = some true → Zc (.ref (G c)) (some d) oe → (∃ vs, oe.data = .fields vs) → PSs (X.suite a ((a, oe) :: pn)) (b₀ :: suite) (tStm G X.K (fun _ _ _ _ => False) κ rm (ms a d c)))
    (hN : X.N.Nodup) (k : κ i = false := by rfl) (hi : X.N[i]? = some n := by rfl) (hln : X.env.kindOf n = some .local := by rfl)
    (hs : X.stack = X.env :: X.outer := by rfl) (hf : X.env.frame = some X.env.locals := by rfl) :
    PS X (.Try body [.ExceptHandler (some (.Name x np)) (some n) (b₀ :: suite) pos'] [] [] pos) (tStm G X.K (WE W) κ rm (sTryA cov i mb ms)) := by
  refine ps_weak (ps_try_as (tb := fun W => tStm G X.K (WE W) κ rm mb) (ts := fun a cls d D σ H => ∃ c dd, cls = .ref (G c) ∧ d = some dd ∧ cov c = some true ∧ tStm G X.K (fun _ _ _ _ => False) κ rm (ms a dd c) D σ H) hs hf hN hi hln hc tk hb
    fun a oe cls d pn hz hfl => ⟨fun pins s σ H D I ⟨c, dd, e1, e2, e3, h⟩ => ?_⟩) fun D σ H ⟨F0, H0, F, τ, zs, l, q⟩ => ?_
  · subst e1 e2
    exact (hsu a dd oe pn c e3 hz hfl).run pins s σ H D I h
  refine ⟨F0, H0, F, τ, zs, l, ?_⟩
  unfold sTryA at q
  cases h : mb τ with
  | nx τ' => simp only [h] at q; exact q
  | bk τ' => simp only [h] at q; exact q
  | ct τ' => simp only [h] at q; exact q
  | rt p => simp only [h] at q; exact q
  | bad => simp only [h] at q
  | ex c fs τ1 =>
    simp only [h] at q
    intro σ' F' H' d fs' l' h1 h2
    cases hcv : cov c with
    | none => simp only [hcv] at q
    | some b =>
      refine ⟨b, hcov c b hcv, fun hbt => ?_, fun hbf => ?_⟩
      · subst hbt
        simp only [hcv] at q
        by_cases hlt : i < τ1.length
        · rw [if_pos hlt] at q
          refine fun a ha => ⟨c, d, rfl, rfl, hcv, F0, H0, F', τ1.set i (some (.exn a d c fs)), zs, l'.set k hlt (.exn h1 h2), ?_⟩
          rw [← hind a d c fs τ1] at q
          cases hm : ms a d c (τ1.set i (some (.exn a d c fs))) with
          | ex c fs τ2 => rw [hm] at q; exact q.elim
          | bad => rw [hm] at q; exact q.elim
          | rt p => rw [hm] at q; exact q
          | nx τ2 => rw [hm] at q; exact fun σ2 F2 H2 l2 => q _ F2 H2 (l2.clear k)
          | bk τ2 => rw [hm] at q; exact fun σ2 F2 H2 l2 => q _ F2 H2 (l2.clear k)
          | ct τ2 => rw [hm] at q; exact fun σ2 F2 H2 l2 => q _ F2 H2 (l2.clear k)
        · rw [if_neg hlt] at q; exact q.elim
      · subst hbf
        simp only [hcv] at q
        exact q σ' F' H' d fs' l' h1 h2
end
end Lp
end
section
set_option Elab.async false
set_option linter.all false
set_option maxRecDepth 100000
namespace PySem.W
open PySem PySem.Spec PySem.Calls PyProof.Rows
section
variable {prog : Program} {w : World} {A : Around} {E : Value → Shared → Prop} {s : Shared} {K : Frag} {x D : Addr} {ox : Obj} {od : Option Obj}
theorem lp_findObj_data {C : Addr} {name : Str} {a g : Value} (hc : (clsIn K C).isSome = true) (ha : findIn K (.ref C) name = some (some a)) (hg : specialIn K a "__get__" = some (some g)) (ht : takesIn K a = some true) : findObj K C od name = some (.bind g a) := by
  obtain ⟨cd, hc⟩ := Option.isSome_iff_exists.mp hc
  unfold findObj
  rw [hc, Option.bind_some, ha, Option.bind_some]
  simp [hg, ht]
theorem lp_kin_classE {Q : Option Value → Shared → Prop} (hga : findIn K (.ref D) "__getattribute__" = some (some (.builtin "BaseException.__getattribute__"))) (hgt : findIn K (.ref D) "__getattr__" = some none) (hsub : subIn K (.ref D) (.type "BaseException") = some true)
    (hdct : hasDictIn K D = true) (ha : findIn K (.ref D) "__class__" = some (some (.builtin "object.__class__")))
    (hn : specialIn K (.builtin "object.__class__") "__get__" = some (some (.builtin "getset_descriptor.__get__"))) (htk : takesIn K (.builtin "object.__class__") = some true) (hm : mroIn K D (.type "object") = some true)
    (X : K.In s.heap) (I : InstAt s.heap x ox D od) (h : Q (some (.ref D)) { s with toks := s.toks + 1 }) : wpAny (model prog w) A (getAttr? (.ref x) "__class__") Q E s := by
  have hf : findObj K D od "__class__" = some (.bind (.builtin "getset_descriptor.__get__") (.builtin "object.__class__")) := lp_findObj_data (by obtain ⟨cd, hc, _⟩ := any_some hdct; rw [hc]; rfl) ha hn htk
  obtain ⟨hp, g, d, t, os⟩ := s
  have L0 := I.type (M := model prog w)
  have L1 := looks_findIn (M := model prog w) X hga
  have L2 := looks_findIn (M := model prog w) X hgt
  have L3 := looks_find (M := model prog w) X I hf
  have sub : Looks (model prog w) hp (isInstance (.ref x) (.type "BaseException")) true := L0.andThen (looks_subIn X hsub)
  have hx0 : (false && onTheHeap (Value.builtin "BaseException.__getattribute__")) = false := rfl
  have hx2 : (Value.builtin "BaseException.__getattribute__" == Value.builtin "object.__getattribute__") = false := by decide +kernel
  have hx1 : (onTheHeap (Value.ref D) && Value.builtin "BaseException.__getattribute__" == Value.builtin "object.__getattribute__") = false := by rw [hx2]; rfl
  unfold getAttr? getAttrBy? getAttrBy
  refine wpAny_bind (wpAny_mkText (wpAny_bind (wpAny_attempt (wpAny_holding (wpAny_bind (L0.at (wpAny_bind (L1.at ?_))))))))
  show wpAny _ _ (if (onTheHeap (Value.ref D) && Value.builtin "BaseException.__getattribute__" == Value.builtin "object.__getattribute__") = true then _ else _) _ _ _
  rw [hx1, if_neg Bool.false_ne_true]
  unfold getAttrByItsOwn hookBefore
  refine wpAny_bind ?_
  rw [if_pos (show onTheHeap (Value.ref D) = true from rfl)]
  refine L2.at ?_
  refine wpAny_bind (wpAny_attempt (wpAny_holding ?_))
  unfold callGetattribute
  rw [hx0, if_neg Bool.false_ne_true]
  unfold boundAndCalled
  rw [PySem.F.excAttr_ValueError.ga.bind (.ref x)]
  refine wpAny_bind (wpAny_pure ?_)
  show wpAny _ _ (call (.builtin "BaseException.__getattribute__") [.ref x, .str "__class__" t]) _ _ _
  refine wpAny_call (codeAny_call_builtin PySem.F.excAttr_ValueError.ga.plain PySem.F.entry_bexc_ga ?_)
  refine @check_slot (model prog w) _ _ ⟨hp, g, d, t + 1, os⟩ "BaseException.__getattribute__" "BaseException" "__getattribute__" (.ref x) [.str "__class__" t] [] _ (by decide +kernel) (by decide +kernel) sub (PySem.F.args_bexc_ga (.ref x) (.str "__class__" t)) ?_
  unfold Builtin.«object.__getattribute__»
  refine wpAny_bind (wpAny_of_eq (a := ((Value.ref x : Value), [Value.str "__class__" t])) (by first | rfl | (simp only [slotArgs]; rfl)) ?_)
  refine wpAny_bind (wpAny_pure (wpAny_bind (L0.at (wpAny_bind (L3.at ?_)))))
  show wpAny _ _ (holding [Value.builtin "object.__class__"] (call (.builtin "getset_descriptor.__get__") [.builtin "object.__class__", .ref x, .ref D]) >>= ret) _ _ _
  refine wpAny_bind (wpAny_holding (wpAny_call (class_get (s := ⟨hp, g, d, t + 1, os⟩) (ox := ox) (od := od) X I hm ?_)))
  refine wpAny_pure ?_
  show wpAny _ _ (handedOut (.ref D)) _ _ _
  rw [handedOut_of (v := .ref D) rfl]
  first
    | exact wpAny_pure (wpAny_pure h)
    | exact wpAny_pure h
    | exact wpAny_pure (wpAny_bind (wpAny_pure (wpAny_pure h)))
theorem lp_kitx_exc (hga : findIn K (.ref D) "__getattribute__" = some (some (.builtin "BaseException.__getattribute__"))) (hgt : findIn K (.ref D) "__getattr__" = some none) (hsub : subIn K (.ref D) (.type "BaseException") = some true) (hdct : hasDictIn K D = true) (ha : findIn K (.ref D) "__class__" = some (some (.builtin "object.__class__")))
    (hn : specialIn K (.builtin "object.__class__") "__get__" = some (some (.builtin "getset_descriptor.__get__"))) (htk : takesIn K (.builtin "object.__class__") = some true) (hm : mroIn K D (.type "object") = some true) :
    KitX K (.ref x) (.ref D) (fun h => InstAt h x ox D od) where
  ty := fun _ _ _ I => I.type
  it := fun _ _ X _ => by
    obtain ⟨cdD, hcD, _⟩ := any_some hdct
    unfold clsIn at hcD
    split at hcD
    · rename_i c' d' cd' sl' ho
      intro A' Q' E' s' k q
      unfold isType loadHead
      exact wpAny_bind (wpAny_loadPart (k _ _ (X _ _ ho)) (wpAny_pure q))
    · cases hcD
  ne := fun h tp dd its n sl X htp => by
    obtain ⟨cdD, hcD, _⟩ := any_some hdct
    refine Bool.eq_false_iff.mpr fun q => ?_
    have e : D = tp := Value.ref.inj (beq_iff_eq.mp q)
    subst e
    unfold clsIn at hcD
    split at hcD
    · rename_i c' d' cd' sl' ho
      have z := (X _ _ ho).symm.trans htp
      cases z
    · cases hcD
  ca := fun X I k => lp_kin_classE hga hgt hsub hdct ha hn htk hm X I k
end
end PySem.W
namespace L2
open PySem PySem.Spec PyProof.Rows
/-- isinstance(e, c), e the exception (with its dict at dd) that the suite holds -/
def rIsD (K : PySem.W.Frag) (D a dd : Addr) : List V → Hp → VK → Prop := fun xs H Q => ∃ (c : V) (cv : Value) (b : Bool) (fs : List (Str × V)), xs = [.ref a, c] ∧ H dd = some (.xd fs) ∧ (∀ u, RelV c u → u = cv) ∧ PySem.W.kitOne K (.ref D) cv = some b ∧ Q (.bl b) H
theorem call_isD {X : Cx} {a D dd : Addr} {oe : Obj} {pn : List (Addr × Obj)} (C : L2.ExcC X.K D) (hz : Zc (.ref D) (some dd) oe) (hf : ∃ vs, oe.data = .fields vs) : CallR (X.suite a ((a, oe) :: pn)) (.builtin "isinstance") (rIsD X.K D a dd) := by
  intro pins s σ H xs us Q I r h
  obtain ⟨c, cv, b, fs, rfl, hd, hcv, e, q⟩ := h
  cases r with
  | cons rx rr =>
    cases rr with
    | cons rt rr =>
      cases rr
      cases rx
      have ec := hcv _ rt
      subst ec
      obtain ⟨hget, _⟩ := I.pin (a, oe) (List.mem_append.mpr (.inl List.mem_cons_self))
      obtain ⟨vs, hv⟩ := hf
      have hx : ObjOk X.prog X.w H s.heap dd (.xd fs) := I.hok dd _ hd
      obtain ⟨mA, hns, hr⟩ := hx
      obtain ⟨od, ho, hl⟩ := lookIn_ns hns
      have J : PySem.W.InstAt s.heap a oe D (some od) := ⟨hget, hz.1, by unfold PySem.W.notCls; rw [hv] <;> rfl, by rw [hz.2]; exact ho⟩
      exact PySem.W.kia_one (PySem.W.lp_kitx_exc C.hg C.hk C.hs C.hd C.ha C.hn C.ht C.hm) I.kIn J e (fun z => nomatch z) fun tk => ⟨.bl b, H, I.kept (t' := tk) fun _ _ z => z, rfl, q⟩
end L2
end
section
set_option Elab.async false
set_option linter.all false
set_option maxRecDepth 100000
namespace Lp
open PySem PySem.Spec L2

section
variable {G : GW} {F H F' H' F0 H0 : Hp} {X : Cx} {v : V} {p : PV} {κ : Kd} {E : St → XK} {W : WX} {m md rm : Mode} {e e' o iv : Expr} {es : List Expr} {pos p' pos' tpos apos : Pos} {zs : Option Addr} {σ : St} {τ : LE} {x f fld : Str} {k n c : Nat} {fi fe : LE → Res PV}

def onLst (t : Option (Option PV)) (f : List PV → Fl) : Fl := match t with
  | some (some (.lst ps)) => f ps
  | _ => .bad
def onDK (t : Option (Option PV)) (f : List (Key × PV) → Fl) : Fl := match t with
  | some (some (.dK ps)) => f ps
  | _ => .bad
def onIns (t : Option (Option PV)) (f : Nat → List (Str × PV) → Fl) : Fl := match t with
  | some (some (.ins c ps)) => f c ps
  | _ => .bad
@[simp] theorem onLst_ok (ps : List PV) (f : List PV → Fl) : onLst (some (some (.lst ps))) f = f ps := (rfl)
@[simp] theorem onDK_ok (ps : List (Key × PV)) (f : List (Key × PV) → Fl) : onDK (some (some (.dK ps))) f = f ps := (rfl)
@[simp] theorem onIns_ok (c : Nat) (ps : List (Str × PV)) (f : Nat → List (Str × PV) → Fl) : onIns (some (some (.ins c ps))) f = f c ps := (rfl)
theorem onLst_or (t : Option (Option PV)) (f : List PV → Fl) : (∃ ps, t = some (some (.lst ps))) ∨ onLst t f = .bad := by
  unfold onLst
  split
  · exact .inl ⟨_, rfl⟩
  · exact .inr rfl
theorem onDK_or (t : Option (Option PV)) (f : List (Key × PV) → Fl) : (∃ ps, t = some (some (.dK ps))) ∨ onDK t f = .bad := by
  unfold onDK
  split
  · exact .inl ⟨_, rfl⟩
  · exact .inr rfl
theorem onIns_or (t : Option (Option PV)) (f : Nat → List (Str × PV) → Fl) : (∃ c ps, t = some (some (.ins c ps))) ∨ onIns t f = .bad := by
  unfold onIns
  split
  · exact .inl ⟨_, _, rfl⟩
  · exact .inr rfl
/-! ### xs[i] = e -/
def sSetI (i : Nat) (fi fe : LE → Res PV) : LE → Fl := fun τ => rs (fe τ) τ fun p => onLst τ[i]? fun ps => rs (fi τ) τ fun q => match q with
    | .int k => match ixN ps.length k with
      | some j => .nx (τ.set i (some (.lst (ps.set j p))))
      | none => .bad
    | _ => .bad
theorem s_setI (i : Nat) (hi : PE X iv (tE G X.K .sh E κ fi)) (he : PE X e (tE G X.K .sh E κ fe)) (k : κ i = true := by rfl) (hN : X.N[i]? = some x := by rfl) (hv : Vis X.env.scope x := by first | exact Or.inl rfl | exact Or.inr (Or.inl rfl) | exact Or.inr (Or.inr rfl)) (hd : (x == ("__debug__" : Str)) = false := by decide)
    (hcd : (x == ("__classdict__" : Str)) = false := by decide) (hs : swapsWithSole [.Subscript (.Name x p') iv pos'] e pos.line X.env = pure false := by rfl) (hw : swappedStores [.Subscript (.Name x p') iv pos'] e X.env = pure none := by rfl)
    (h1 : (assignEach [.Subscript (.Name x p') iv pos'] X.env).map (·.2) = [assign (.Subscript (.Name x p') iv pos') X.env] := by rfl)
    (ha : ∀ v, assign (.Subscript (.Name x p') iv pos') X.env v = (do
      let ov ← holding [v] (eval (.Name x p') X.env)
      let iv ← holding [v, ov] (eval iv X.env)
      standAt pos'
      holding [v, ov, iv] (setItem ov iv v)
      release [v, ov, iv] []) := by intro _; rfl) : PS X (.Assign [.Subscript (.Name x p') iv pos'] e pos) (tStm G X.K E κ rm (sSetI i fi fe)) :=
  ps_weak (ps_asg he (pg_sub (pe_var hN hv hd hcd) hi set_list ha) hs hw h1) fun D σ H ⟨F0, H0, F, τ, zs, l, q⟩ => by
    refine ⟨F, τ, l.lc, ?_⟩
    unfold sSetI at q
    cases h : fe τ with
    | bad => rw [h] at q; exact q.elim
    | exc c ps => rw [h, rs_exc] at q; exact l.exc q
    | ok pv =>
      rw [h, rs_ok] at q
      intro v F1 H1 e1 r1
      have l1 := l.of_ext e1
      rcases onLst_or τ[i]? _ with ⟨ps, ht⟩ | hb
      case inr => rw [hb] at q; exact q.elim
      obtain ⟨a, e2, hF, ow⟩ := l1.lc.ow i _ ht k
      simp only [ht, onLst_ok, onDK_ok, onIns_ok] at q
      refine ⟨.ref a, e2, F1, τ, l1.lc, ?_⟩
      cases h2 : fi τ with
      | bad => rw [h2] at q; exact q.elim
      | exc c ps => rw [h2, rs_exc] at q; exact l1.exc q
      | ok pi =>
        rw [h2, rs_ok] at q
        intro w F2 H2 e3 r3
        have l2 := l1.of_ext e3
        cases pi with
        | int kk =>
          simp only at q
          cases hj : ixN ps.length kk with
          | none => simp only [hj] at q
          | some j =>
            simp only [hj] at q
            obtain ⟨a', e2', hF', vs, hH, rr⟩ := l2.lc.ow i _ ht k
            rw [e2] at e2'
            cases e2'
            refine ⟨a, vs, kk, j, rfl, r3.int_inv, hH, by rw [rr.length]; exact hj, ?_⟩
            exact q σ F2 _ (l2.write k ht e2 ⟨_, upd_same, Reps.set (Rep.mono e3.f r1) j rr⟩)
        | _ => exact q.elim
/-! ### d[k] = e, del d[k] -/
def sPut (i : Nat) (fi fe : LE → Res PV) : LE → Fl := fun τ => rs (fe τ) τ fun p => onDK τ[i]? fun kvs => rs (fi τ) τ fun q => match keyP q with
    | some k => if kvs.length < 1000000 then .nx (τ.set i (some (.dK (setP kvs k p)))) else .bad
    | none => .bad
theorem s_put (i : Nat) (hu : X.A.units + 1 < cLine) (hi : PE X iv (tE G X.K .sh E κ fi)) (he : PE X e (tE G X.K .sh E κ fe)) (k : κ i = true := by rfl) (hN : X.N[i]? = some x := by rfl) (hv : Vis X.env.scope x := by first | exact Or.inl rfl | exact Or.inr (Or.inl rfl) | exact Or.inr (Or.inr rfl)) (hd : (x == ("__debug__" : Str)) = false := by decide)
    (hcd : (x == ("__classdict__" : Str)) = false := by decide) (hs : swapsWith e (some (.Subscript (.Name x p') iv pos')) pos.line X.env = pure false := by rfl) : PS X (.Assign [.Subscript (.Name x p') iv pos'] e pos) (tStm G X.K E κ rm (sPut i fi fe)) :=
  ps_weak (ps_dput hu (pe_var hN hv hd hcd) hi he hs) fun D σ H ⟨F0, H0, F, τ, zs, l, q⟩ => by
    refine ⟨F, τ, l.lc, ?_⟩
    unfold sPut at q
    cases h : fe τ with
    | bad => rw [h] at q; exact q.elim
    | exc c ps => rw [h, rs_exc] at q; exact l.exc q
    | ok pv =>
      rw [h, rs_ok] at q
      intro v F1 H1 e1 r1
      have l1 := l.of_ext e1
      rcases onDK_or τ[i]? _ with ⟨ps, ht⟩ | hb
      case inr => rw [hb] at q; exact q.elim
      obtain ⟨a, e2, hF, ow⟩ := l1.lc.ow i _ ht k
      simp only [ht, onLst_ok, onDK_ok, onIns_ok] at q
      refine ⟨.ref a, e2, F1, τ, l1.lc, ?_⟩
      cases h2 : fi τ with
      | bad => rw [h2] at q; exact q.elim
      | exc c ps => rw [h2, rs_exc] at q; exact l1.exc q
      | ok pi =>
        rw [h2, rs_ok] at q
        intro w F2 H2 e3 r3
        have l2 := l1.of_ext e3
        cases hk : keyP pi with
        | none => simp only [hk] at q
        | some kk =>
          simp only [hk] at q
          by_cases hl : ps.length < 1000000
          · rw [if_pos hl] at q
            obtain ⟨a', e2', hF', kvs, hH, rr⟩ := l2.lc.ow i _ ht k
            rw [e2] at e2'
            cases e2'
            have hw := keyP_rep r3 hk
            subst hw
            refine ⟨a, _, rfl, DPut.k hH (by rw [rr.length, sizeLine_eq]; omega), ?_⟩
            exact q σ F2 _ (l2.write k ht e2 ⟨_, upd_same, RepK.set rr (Rep.mono e3.f r1)⟩)
          · rw [if_neg hl] at q; exact q.elim
def sDel (i : Nat) (fi : LE → Res PV) : LE → Fl := fun τ => onDK τ[i]? fun kvs => rs (fi τ) τ fun q => match keyP q with
    | some k => if hasP kvs k then .nx (τ.set i (some (.dK (dropP kvs k)))) else .bad
    | none => .bad
theorem s_del (i : Nat) (hi : PE X iv (tE G X.K .sh E κ fi)) (k : κ i = true := by rfl) (hN : X.N[i]? = some x := by rfl) (hv : Vis X.env.scope x := by first | exact Or.inl rfl | exact Or.inr (Or.inl rfl) | exact Or.inr (Or.inr rfl)) (hd : (x == ("__debug__" : Str)) = false := by decide)
    (hcd : (x == ("__classdict__" : Str)) = false := by decide) : PS X (.Delete [.Subscript (.Name x p') iv pos'] pos) (tStm G X.K E κ rm (sDel i fi)) :=
  ps_weak (ps_ddel (pe_var hN hv hd hcd) hi) fun D σ H ⟨F0, H0, F, τ, zs, l, q⟩ => by
    unfold sDel at q
    rcases onDK_or τ[i]? _ with ⟨ps, ht⟩ | hb
    case inr => rw [hb] at q; exact q.elim
    obtain ⟨a, e2, hF, ow⟩ := l.lc.ow i _ ht k
    simp only [ht, onLst_ok, onDK_ok, onIns_ok] at q
    refine ⟨.ref a, e2, F, τ, l.lc, ?_⟩
    cases h2 : fi τ with
    | bad => rw [h2] at q; exact q.elim
    | exc c ps => rw [h2, rs_exc] at q; exact l.exc q
    | ok pi =>
      rw [h2, rs_ok] at q
      intro w F2 H2 e3 r3
      have l2 := l.of_ext e3
      cases hk : keyP pi with
      | none => simp only [hk] at q
      | some kk =>
        simp only [hk] at q
        by_cases hh : hasP ps kk = true
        · rw [if_pos hh] at q
          obtain ⟨a', e2', hF', kvs, hH, rr⟩ := l2.lc.ow i _ ht k
          rw [e2] at e2'
          cases e2'
          have hw := keyP_rep r3 hk
          subst hw
          have hs : (valV kvs kk).isSome = true := by
            rw [hasP_val] at hh
            rcases rr.val (k := kk) with ⟨_, z⟩ | ⟨v, p, z1, z2, _⟩
            · rw [z] at hh; cases hh
            · rw [z1]; rfl
          refine ⟨a, kvs, kk, rfl, hH, rfl, hs, ?_⟩
          exact q σ F2 _ (l2.write k ht e2 ⟨_, upd_same, RepK.drop rr⟩)
        · rw [if_neg hh] at q; exact q.elim
/-! ### self.f = e in __init__ (slot 0 is owned) -/
def sFld (i : Nat) (cl : Nat) (f : Str) (fe : LE → Res PV) : LE → Fl := fun τ => rs (fe τ) τ fun p => onIns τ[i]? fun c fs => if c = cl ∧ fs.length < 1000 then .nx (τ.set i (some (.ins c (putP f p fs)))) else .bad
theorem s_fld (i : Nat) (cl : Nat) (hC : Cls X.K (G cl)) (hno : NoAttr X.K (G cl) fld) (he : PE X e (tE G X.K .sh E κ fe)) (k : κ i = true := by rfl) (hN : X.N[i]? = some x := by rfl) (hv : Vis X.env.scope x := by first | exact Or.inl rfl | exact Or.inr (Or.inl rfl) | exact Or.inr (Or.inr rfl)) (hd : (x == ("__debug__" : Str)) = false := by decide)
    (hcd : (x == ("__classdict__" : Str)) = false := by decide) (hs : swapsWith e (some (.Attribute (.Name x p') fld pos')) pos.line X.env = pure false := by rfl) : PS X (.Assign [.Attribute (.Name x p') fld pos'] e pos) (tStm G X.K E κ rm (sFld i cl fld fe)) :=
  ps_weak (ps_fld (pe_var hN hv hd hcd) he hs) fun D σ H ⟨F0, H0, F, τ, zs, l, q⟩ => by
    refine ⟨F, τ, l.lc, ?_⟩
    unfold sFld at q
    cases h : fe τ with
    | bad => rw [h] at q; exact q.elim
    | exc c ps => rw [h, rs_exc] at q; exact l.exc q
    | ok pv =>
      rw [h, rs_ok] at q
      intro v F1 H1 e1 r1
      have l1 := l.of_ext e1
      rcases onIns_or τ[i]? _ with ⟨c, ps, ht⟩ | hb
      case inr => rw [hb] at q; exact q.elim
      obtain ⟨a, e2, hF, dx, fs, hH, rr⟩ := l1.lc.ow i _ ht k
      simp only [ht, onIns_ok] at q
      by_cases hl : c = cl ∧ ps.length < 1000
      · rw [if_pos hl] at q
        obtain ⟨rfl, hl⟩ := hl
        exact ⟨.ref a, e2, a, G c, dx, fs, rfl, hH, hC, hno, by rw [rr.length]; exact hl, q σ F1 _ (l1.write k ht e2 ⟨dx, _, upd_same, RepF.put r1 rr⟩)⟩
      · rw [if_neg hl] at q; exact q.elim
/-! ### e.f of an instance -/
def eAtt (ok : Nat → Bool) (f : Str) (fe : LE → Res PV) : LE → Res PV := fun τ => fe τ >>= fun p => match p with
  | .ins c fs => if ok c then (match fs.lookup f with
    | some q => .ok q
    | none => .bad) else .bad
  | _ => .bad
theorem v_att (ok : Nat → Bool) (hA : ∀ c, ok c = true → Cls X.K (G c) ∧ NoAttr X.K (G c) fld) (he : PE X e (tE G X.K m E κ fe)) (hb : attributeBase e fld X.env (eval e X.env) = eval e X.env := by rfl) : PE X (.Attribute e fld pos) (tE G X.K .sh E κ (eAtt ok fld fe)) :=
  pe_weak (pe_fld he hb) fun σ H Q ⟨F, τ, l, q⟩ => by
    refine ⟨F, τ, l, ?_⟩
    unfold eAtt at q
    cases h : fe τ with
    | bad => rw [h] at q; exact q
    | exc c ps => rw [h] at q; exact q
    | ok p =>
      rw [h, Res.ok_bind] at q
      intro v F1 H1 e1 r1
      cases p with
      | ins c fs =>
        simp only at q
        by_cases ho : ok c = true
        · rw [if_pos ho] at q
          cases hl : fs.lookup fld with
          | none => simp only [hl] at q
          | some z =>
            simp only [hl] at q
            have key : ∃ a dx vs, v = .ref a ∧ H1 a = some (.ins (G c) dx vs) ∧ RepF G X.K F1 vs fs := by
              rcases r1.top with r | ⟨a, rfl, _, o⟩
              · obtain ⟨a, dx, vs, rfl, hF, rr⟩ := r.ins_inv
                exact ⟨a, dx, vs, rfl, e1.sub _ _ hF, rr⟩
              · obtain ⟨dx, vs, hH, rr⟩ := o
                exact ⟨a, dx, vs, rfl, hH, rr⟩
            obtain ⟨a, dx, vs, rfl, hH, rr⟩ := key
            obtain ⟨w, hw, rw'⟩ := rr.lookup hl
            exact ⟨a, G c, dx, vs, w, rfl, hH, (hA c ho).1, (hA c ho).2, hw, q w F1 H1 e1 rw'⟩
        · rw [if_neg ho] at q; exact q.elim
      | _ => exact q.elim
end
end Lp
end
section
set_option Elab.async false
set_option linter.all false
set_option maxRecDepth 100000
namespace Lp
open PySem PySem.Spec L2

/-! ### isinstance -/
/-- is it one of the built-in type n? -/
def PV.isa (n : String) : PV → Option Bool
  | .non => some false
  | .bl _ => some (n == "bool" || n == "int")
  | .int _ => some (n == "int")
  | .str _ => some (n == "str")
  | .tup _ => some (n == "tuple")
  | .lst _ => some (n == "list")
  | .scr _ => some (n == "list")
  | .dK _ => some (n == "dict")
  | _ => none
def PV.tyN : PV → Option String
  | .non => some "NoneType"
  | .bl _ => some "bool"
  | .int _ => some "int"
  | .str _ => some "str"
  | .tup _ => some "tuple"
  | .lst _ => some "list"
  | .scr _ => some "list"
  | .dK _ => some "dict"
  | _ => none
def isaKnown (n : String) : Bool := n == "int" || n == "bool" || n == "str" || n == "tuple" || n == "list" || n == "dict"
theorem isa_kit {K : PySem.W.Frag} {p : PV} {n t : String} {b : Bool} (hn : isaKnown n = true) (h : p.isa n = some b) (ht : p.tyN = some t) : PySem.W.kitOne K (.type t) (.type n) = some b := by
  unfold isaKnown at hn
  simp only [Bool.or_eq_true, beq_iff_eq] at hn
  rcases hn with ((((rfl | rfl) | rfl) | rfl) | rfl) | rfl <;> cases p <;> first | (cases ht; done) | (cases ht; cases h; exact kit_ty (by decide +kernel))
section
variable {G : GW} {K : PySem.W.Frag} {F H F' H' F0 H0 : Hp} {X : Cx} {v : V} {p : PV} {κ : Kd} {E : St → XK} {W : WX} {m md rm : Mode} {e e' o iv : Expr} {es : List Expr} {pos p' p1 p2 p3 p4 pos' tpos apos : Pos} {σ : St} {τ : LE} {x f fld : Str} {k n c : Nat} {fi fe : LE → Res PV} {g : List PV → Res PV} {fa : LE → Res (List PV)}
theorem isa_ty {n : String} {b : Bool} (h : p.isa n = some b) : ∃ t, p.tyN = some t := by
  cases p <;> first | exact ⟨_, rfl⟩ | cases h
theorem tyx_of (s : Same F H) (r : Top G K F H v p) {t : String} (ht : p.tyN = some t) : TyX K H v (.type t) := by
  rcases r with r | ⟨a, rfl, _, o⟩
  · cases r with
    | non => cases ht; exact .base .non
    | bl b => cases ht; exact .base (.bl b)
    | int b => cases ht; exact .base (.int b)
    | str b => cases ht; exact .base (.str b)
    | ty n => cases ht
    | exn _ _ => cases ht
    | ins _ _ => cases ht
    | rng _ => cases ht
    | itm _ => cases ht
    | dN _ => cases ht
    | scr h =>
      cases ht
      rcases h with (h | ⟨o, h⟩) | ⟨o, its, n, h, hc, _⟩
      · exact .base (.lst (s _ _ h))
      · exact .base (.frz (s _ _ h))
      · exact .kList h hc
    | tup h _ =>
      cases ht
      rcases h.sqt with (h | ⟨o, h⟩) | ⟨o, its, n, h, hc, _⟩
      · exact .base (.tup (s _ _ h))
      · exact .fTuple (s _ _ h)
      · exact .kTuple h hc
    | lst h _ =>
      cases ht
      rcases h with h | ⟨o, h⟩
      · exact .base (.lst (s _ _ h))
      · exact .base (.frz (s _ _ h))
    | dK h _ => cases ht; exact .base (.dK (s _ _ h))
  · cases p with
    | lst ps => cases ht; obtain ⟨vs, h, _⟩ := o; exact .base (.lst h)
    | dK ps => cases ht; obtain ⟨vs, h, _⟩ := o; exact .base (.dK h)
    | ins c ps => cases ht
    | dN ps => cases ht
    | _ => exact o.elim
def pIsi : List PV → Option PV
  | [p, .ty n] => if isaKnown n then (p.isa n).map .bl else none
  | _ => none
theorem g_isi : CalV G K (rIsi K) .sh pIsi := by
  intro F H xs ps z Q s r hz k
  unfold pIsi at hz
  split at hz
  · rename_i p n
    obtain ⟨v, w, rfl, rv, rw'⟩ := r.two
    by_cases hn : isaKnown n = true
    · rw [if_pos hn] at hz
      cases hb : p.isa n with
      | none => rw [hb] at hz; cases hz
      | some b =>
        rw [hb] at hz
        cases hz
        obtain ⟨t, ht⟩ := isa_ty hb
        have hw : w = .ty n := by
          rcases rw' with q | ⟨a, _, _, o⟩
          · exact q.ty_inv
          · exact o.elim
        subst hw
        exact ⟨v, .ty n, .type t, .type n, b, rfl, .ty n, tyx_of s rv ht, isa_kit hn hb ht, k _ F H (Ext.refl s) (.bl _)⟩
    · rw [if_neg hn] at hz; cases hz
  · cases hz
/-- isinstance(e, (A, B)) -/
def eIsi2 (a b : String) (fe : LE → Res PV) : LE → Res PV := fun τ => fe τ >>= fun p => match p.isa a, p.isa b with
  | some x, some y => .ok (.bl (x || y))
  | _, _ => .bad
theorem v_isi2 (a b : String) {x1 : Nat} {sa sb : Str} (he : PE X e (tE G X.K m E κ fe)) (hm : X.mg "isinstance" = none) (ma : X.mg sa = none) (mb : X.mg sb = none) (va : bootBuiltins sa = some (.type a)) (vb : bootBuiltins sb = some (.type b))
    (hka : isaKnown a = true := by decide) (hkb : isaKnown b = true := by decide) (hv : bootBuiltins "isinstance" = some (.builtin "isinstance") := by kernel_rfl) (hg : Gl X "isinstance" := by rfl) (ga : Gl X sa := by rfl) (gb : Gl X sb := by rfl)
    (na : sa ≠ "__name__" := by decide) (nb : sb ≠ "__name__" := by decide) (da : (sa == ("__debug__" : Str)) = false := by decide) (db : (sb == ("__debug__" : Str)) = false := by decide)
    (h1 : starEach [e, .Tuple [.Name sa p1, .Name sb p2] x1 p3] X.env = (false, eval e X.env) :: starEach [.Tuple [.Name sa p1, .Name sb p2] x1 p3] X.env := by rfl)
    (h2 : starEach [.Tuple [.Name sa p1, .Name sb p2] x1 p3] X.env = (false, eval (.Tuple [.Name sa p1, .Name sb p2] x1 p3) X.env) :: starEach [] X.env := by rfl)
    (h3 : starEach [.Name sa p1, .Name sb p2] X.env = (false, eval (.Name sa p1) X.env) :: starEach [.Name sb p2] X.env := by rfl) (h4 : starEach [.Name sb p2] X.env = (false, eval (.Name sb p2) X.env) :: starEach [] X.env := by rfl)
    (hpl : (backTo pos (starEach [.Tuple [.Name sa p1, .Name sb p2] x1 p3] X.env)).any (·.1) = false := by rfl) :
    PE X (.Call (.Name "isinstance" p') [e, .Tuple [.Name sa p1, .Name sb p2] x1 p3] [] pos) (tE G X.K .sh E κ (eIsi2 a b fe)) :=
  pe_weak (pe_callB call_isiT hg hm hv (pa_cons he (pa_cons (pe_tup (pa_cons (pe_bltn (v := .ty a) ga ma va rfl na da) (pa_cons (pe_bltn (v := .ty b) gb mb vb rfl nb db) pa_nil h4) h3)) pa_nil h2) h1) (by decide) (by decide) h1 hpl) fun σ H Q ⟨F, τ, l, q⟩ => by
    refine ⟨F, τ, l, ?_⟩
    unfold eIsi2 at q
    cases hf : fe τ with
    | exc c ps => rw [hf] at q; exact q
    | bad => rw [hf] at q; exact q
    | ok p =>
      rw [hf, Res.ok_bind] at q
      intro v F1 H1 e1 r1
      refine ⟨by rw [sizeLine_eq]; show 2 ≤ 16777216; omega, fun tp htp => ?_⟩
      cases ha : p.isa a with
      | none => simp only [ha] at q
      | some ba =>
        cases hb : p.isa b with
        | none => simp only [ha, hb] at q
        | some bb =>
          simp only [ha, hb] at q
          obtain ⟨t, ht⟩ := isa_ty ha
          have e2 := e1.push (.tup [V.ty a, V.ty b]) htp
          have r2 := (r1.top).ext (⟨same_new (Same.free e1.sub htp), same_new htp, same_upd2 e1.sub htp, fun c h1 h2 => by
            by_cases hc : c = tp
            · rw [hc]; exact htp
            · rw [upd_ne hc] at h2; exact absurd h1 h2⟩ : Ext F1 H1 (upd F1 tp (.tup [V.ty a, V.ty b])) (upd H1 tp (.tup [V.ty a, V.ty b])))
          refine ⟨v, tp, _, .type t, [.type a, .type b], ba || bb, rfl, upd_same, .cons (.ty a) (.cons (.ty b) .nil), tyx_of e2.sub r2 ht, ?_, q _ _ _ e2 (.bl _)⟩
          refine kitAny_cons (isa_kit hka ha ht) (fun h => ?_) (fun h => by rw [h]; rfl)
          subst h
          refine kitAny_cons (isa_kit hkb hb ht) (fun h => ?_) (fun h => by rw [h]; rfl)
          subst h
          exact kitAny_nil

/-! ### in the suite of an except clause: slot i holds the error -/
def eAt (a d : Addr) (i : Nat) (k : List (Str × PV) → Res PV) : LE → Res PV := fun τ => match τ[i]? with
  | some (some (.exn a' d' _ fs)) => if a' = a ∧ d' = d then k fs else .bad
  | _ => .bad
def xGet (f : Str) (fs : List (Str × PV)) : Res PV := match fs.lookup f with
  | some p => .ok p
  | none => .bad
@[simp] theorem eAt_set (a d : Addr) (i c : Nat) (k : List (Str × PV) → Res PV) (fs : List (Str × PV)) (τ : LE) : eAt a d i k (τ.set i (some (.exn a d c fs))) = if i < τ.length then k fs else .bad := by
  unfold eAt
  by_cases h : i < τ.length
  · rw [List.getElem?_set_self h, if_pos h]
    simp
  · rw [if_neg h, List.getElem?_eq_none (by rw [List.length_set]; omega)]
theorem eAt_or (a d : Addr) (i : Nat) (k : List (Str × PV) → Res PV) (τ : LE) : (∃ c fs, τ[i]? = some (some (.exn a d c fs)) ∧ eAt a d i k τ = k fs) ∨ eAt a d i k τ = .bad := by
  unfold eAt
  split
  · rename_i a' d' c' fs ht
    by_cases hh : a' = a ∧ d' = d
    · rw [if_pos hh]
      obtain ⟨rfl, rfl⟩ := hh
      exact .inl ⟨c', fs, ht, rfl⟩
    · rw [if_neg hh]; exact .inr rfl
  · exact .inr rfl
theorem v_xf {a d : Addr} {oe : Obj} {pn : List (Addr × Obj)} (i : Nat) (T : XfC X.K (G c)) (hno : PySem.W.findIn X.K (.ref (G c)) fld = some none) (hz : Zc (.ref (G c)) (some d) oe) (hf : ∃ vs, oe.data = .fields vs)
    (k : κ i = false := by rfl) (hN : X.N[i]? = some x := by rfl) (hv : Vis X.env.scope x := by first | exact Or.inl rfl | exact Or.inr (Or.inl rfl) | exact Or.inr (Or.inr rfl)) (hd : (x == ("__debug__" : Str)) = false := by decide)
    (hcd : (x == ("__classdict__" : Str)) = false := by decide) (hb : attributeBase (.Name x p1) fld X.env (eval (.Name x p1) X.env) = eval (.Name x p1) X.env := by rfl) :
    PE (X.suite a ((a, oe) :: pn)) (.Attribute (.Name x p1) fld pos) (tE G X.K .sh E κ (eAt a d i (xGet fld))) :=
  pe_weak (pe_xf T hno hz hf (pe_var (X := X.suite a ((a, oe) :: pn)) hN hv hd hcd) hb) fun σ H Q ⟨F, τ, l, q⟩ => by
    rcases eAt_or a d i (xGet fld) τ with ⟨c', fs, ht, e⟩ | e
    case inr => rw [e] at q; exact q.elim
    rw [e] at q
    obtain ⟨v, e1, r⟩ := l.sh i _ ht k
    obtain ⟨rfl, vs, hF, rr⟩ := r.exn_inv
    unfold xGet at q
    cases hl : fs.lookup fld with
    | none => simp only [hl] at q
    | some z =>
      simp only [hl] at q
      obtain ⟨w, hw, rw'⟩ := rr.lookup hl
      exact ⟨_, e1, rfl, rfl, d, vs, w, rfl, l.sub _ _ hF, hw, q w F H (Ext.refl l.sub) rw'⟩
/-- isinstance(e, c) -/
theorem v_xis {a d : Addr} {oe : Obj} {pn : List (Addr × Obj)} {ce : Expr} {cv : Value} {cw : V} {b : Bool} (i : Nat) (C : L2.ExcC X.K (G c)) (hz : Zc (.ref (G c)) (some d) oe) (hf : ∃ vs, oe.data = .fields vs) (hce : PE (X.suite a ((a, oe) :: pn)) ce (tC cw)) (hcv : ∀ u, RelV cw u → u = cv)
    (hk : PySem.W.kitOne X.K (.ref (G c)) cv = some b) (hm : X.mg "isinstance" = none)
    (k : κ i = false := by rfl) (hN : X.N[i]? = some x := by rfl) (hv : Vis X.env.scope x := by first | exact Or.inl rfl | exact Or.inr (Or.inl rfl) | exact Or.inr (Or.inr rfl)) (hd : (x == ("__debug__" : Str)) = false := by decide)
    (hcd : (x == ("__classdict__" : Str)) = false := by decide) (hv' : bootBuiltins "isinstance" = some (.builtin "isinstance") := by kernel_rfl) (hg : Gl X "isinstance" := by rfl)
    (h1 : starEach [.Name x p1, ce] X.env = (false, eval (.Name x p1) X.env) :: starEach [ce] X.env := by rfl)
    (h2 : starEach [ce] X.env = (false, eval ce X.env) :: starEach [] X.env := by rfl) (hpl : (backTo pos (starEach [ce] X.env)).any (·.1) = false := by rfl) :
    PE (X.suite a ((a, oe) :: pn)) (.Call (.Name "isinstance" p') [.Name x p1, ce] [] pos) (tE G X.K .sh E κ (eAt a d i fun _ => .ok (.bl b))) :=
  pe_weak (pe_callB (X := X.suite a ((a, oe) :: pn)) (call_isD C hz hf) hg hm hv' (pa_cons (pe_var (X := X.suite a ((a, oe) :: pn)) hN hv hd hcd) (pa_cons hce pa_nil h2) h1) (by decide) (by decide) h1 hpl) fun σ H Q ⟨F, τ, l, q⟩ => by
    rcases eAt_or a d i (fun _ => .ok (.bl b)) τ with ⟨c', fs, ht, e⟩ | e
    case inr => rw [e] at q; exact q.elim
    rw [e] at q
    obtain ⟨v, e1, r⟩ := l.sh i _ ht k
    obtain ⟨rfl, vs, hF, rr⟩ := r.exn_inv
    exact ⟨_, e1, cw, cv, b, vs, rfl, l.sub _ _ hF, hcv, hk, q _ F H (Ext.refl l.sub) (.bl b)⟩
end
end Lp
end
section
set_option Elab.async false
set_option linter.all false
set_option maxRecDepth 100000
namespace L2
open PySem PySem.Spec PyProof.Rows
section
variable {X : Cx} {CX : CXT} {k : Nat} {f C : Addr} {fd : FuncData} {ps : List Str} {sp : Sp} {E : St → XK} {x : Str} {p pos : Pos} {e : Expr} {es : List Expr} {t : TA}
def tMakeS (C : Addr) (sp : Sp) (E : St → XK) (t : TA) : TE := fun σ H Q => t σ H fun vs H1 => ∀ x dx, H1 x = none → H1 dx = none → dx ≠ x → sp (.ref x :: vs) (upd (upd H1 dx (.own x)) x (.ins C dx [])) (fun v H2 => v = .non ∧ Q (.ref x) H2) (E σ)
theorem pe_makeS (M : Mk X.K C f) (F : FnOk X.prog X.w X.K X.mg X.base CX k f fd ps sp) (hr : Room (k + 1) X.A) (hg : Gl X x) (hm : X.mg x = some (.ref C)) (hb : Binds X.K fd ps []) (hx : ∀ σ, PassesAt CX X σ (E σ))
    (ha : PA X (e :: es) t) (hdb : (x == ("__debug__" : Str)) = false := by decide) (he : starEach (e :: es) X.env = (false, eval e X.env) :: starEach es X.env := by rfl) (hpl : (backTo pos (starEach es X.env)).any (·.1) = false := by rfl) :
    PE X (.Call (.Name x p) (e :: es) [] pos) (tMakeS C sp E t) := by
  refine ⟨fun pins s σ H Q I h => ?_⟩
  refine wpAny_Call_Name_kw (ld_glob I hg hm ?_ hdb)
  refine PySem.W.callWith_K (h₀ := X.base) I.ok.mod.kin M.kp (thn (ha.run pos pins s σ H _ I h) fun us s1 ⟨vs, H1, I1, r, q⟩ => ⟨I1.kIn, ?_⟩) he hpl
  show wpAny (model X.prog X.w) X.A (call (.ref C) us) (EP X pins σ Q) X.xe s1
  have hq := q (s1.heap.objs.size + 1) s1.heap.objs.size (I1.hok.fresh (Nat.le_succ _)) (I1.hok.fresh (Nat.le_refl _)) (Nat.ne_of_lt (Nat.lt_succ_self _))
  have I2 := Inv.made (C := C) I1
  have r2 : Vals (V.ref (s1.heap.objs.size + 1) :: vs) (Value.ref (s1.heap.objs.size + 1) :: us) := .cons rfl r
  have hl : (Value.ref (s1.heap.objs.size + 1) :: us ++ []).length = ps.length := by
    have e := r2.length
    rw [F.len _ _ _ _ hq] at e
    rw [List.append_nil]
    exact e.symm
  have b := hb _ (Value.ref (s1.heap.objs.size + 1) :: us) I2.kIn hl
  rw [List.append_nil] at b
  refine wpAny_call (make_map (f := f) I1.kIn M.makes M.init (beq_iff_eq.mp M.fn) (codeAny_mono (F.run _ X.stack _ _ ⟨Value.ref (s1.heap.objs.size + 1) :: us, []⟩ (Value.ref (s1.heap.objs.size + 1) :: us) _ _ (E σ) (hr.make C us [])
    (I2.env0.make C us []) b r2 hq) fun r s' hq' => ?_))
  cases r with
  | error e => exact hx σ pins _ _ e s' I2 hq'
  | ok fl =>
    cases fl with
    | ret u =>
      obtain ⟨v, H', I3, rv, ev, q3⟩ := I2.after hq'
      subst ev
      exact ⟨rv, ⟨V.ref (s1.heap.objs.size + 1), H', I3, rfl, q3⟩⟩
    | next => exact False.elim hq'
    | brk => exact False.elim hq'
    | cont => exact False.elim hq'
end
end L2
namespace Lp
open PySem PySem.Spec L2

section
variable (G : GW) (K : PySem.W.Frag)
/-- what __init__ of the class c promises -/
def spI (c : Nat) (n : Nat) (g : List PV → Res PV) : Sp := fun vs H Q E => ∃ F H1 x dx ws ps, vs = .ref x :: ws ∧ H = upd (upd H1 dx (.own x)) x (.ins (G c) dx []) ∧ H1 x = none ∧ H1 dx = none ∧ dx ≠ x ∧ Same F H1 ∧ Reps G K F ws ps ∧ ps.length = n ∧ match g ps with
  | .ok p => ∀ F' H', Ext F H1 F' H' → Frs G K H1 F' H' (.ref x) p → Q .non H'
  | .exc c fs => ExcOk G K E F H1 c fs
  | .bad => False
end
/-- how __init__ ends: the object of slot 0 -/
def finI (r : Fl) : Res PV := match r with
  | .nx τ => match τ[0]? with
    | some (some p) => .ok p
    | _ => .bad
  | .ex c fs _ => .exc c fs
  | _ => .bad
structure Mkr (P : Program) (w : World) (K : PySem.W.Frag) (mg : Str → Option Value) (base : Heap) (k : Nat) (x : Str) (C : Addr) (sp : Sp) : Prop where
  ex : ∃ f fd ps, Mk K C f ∧ FnOk P w K mg base (L2.CX P w) k f fd ps sp ∧ mg x = some (.ref C) ∧ Binds K fd ps []
section
variable {G : GW} {K : PySem.W.Frag} {F H F' H' F0 H0 : Hp} {X : Cx} {v : V} {p : PV} {κ : Kd} {E : St → XK} {W : WX} {m md rm : Mode} {e : Expr} {es : List Expr} {pos p' : Pos} {zs : Option Addr} {σ : St} {τ : LE} {x : Str} {k n c : Nat} {g : List PV → Res PV} {fa : LE → Res (List PV)}
theorem v_make (D : Mkr X.prog X.w X.K X.mg X.base k x (G c) (spI G X.K c n g)) (hr : Room (k + 1) X.A) (tk : Takes X W) (ha : PA X (e :: es) (tA G X.K .sh (WE W) κ fa)) (hL : ∀ ps, g ps ≠ .bad → ps.length = n) (hg : Gl X x := by rfl)
    (hdb : (x == ("__debug__" : Str)) = false := by decide) (he : starEach (e :: es) X.env = (false, eval e X.env) :: starEach es X.env := by rfl) (hpl : (backTo pos (starEach es X.env)).any (·.1) = false := by rfl) :
    PE X (.Call (.Name x p') (e :: es) [] pos) (tE G X.K .fr (WE W) κ (eFn g fa)) := by
  obtain ⟨f, fd, ps, M, Fk, hm, hb⟩ := D.ex
  refine pe_weak (pe_makeS M Fk hr hg hm hb (fun σ => passAt tk σ) ha hdb he hpl) fun σ H Q ⟨F, τ, l, q⟩ => ?_
  refine ⟨F, τ, l, ?_⟩
  unfold eFn at q
  cases hf : fa τ with
  | bad => rw [hf] at q; exact q
  | exc c ps => rw [hf] at q; exact q
  | ok qs =>
    rw [hf, Res.ok_bind] at q
    intro vs F1 H1 e1 r1 x dx hx hdx hne
    refine ⟨F1, H1, x, dx, vs, qs, rfl, rfl, hx, hdx, hne, e1.sub, r1.shared, hL qs fun z => by rw [z] at q; exact q, ?_⟩
    cases hg : g qs with
    | bad => rw [hg] at q; exact q
    | exc c ps => rw [hg] at q; exact ExcOk.ext q e1
    | ok p => rw [hg] at q; exact fun F2 H2 e2 r2 => ⟨rfl, q _ F2 H2 (e1.trans e2) (Frs.before r2 e1.h)⟩

theorem d_init {P : Program} {w : World} {mg : Str → Option Value} {base : Heap} {qual : Str} {st : Stmt} {f : Addr} {fd : FuncData} {N ps : List Str} {k : Nat} {m : LE → Fl} {c n : Nat} (Fn : Fun K x qual st f fd) (S : FnScope N ps (defScope st)) (hn : ps.length = n + 1) (hκ0 : κ 0 = true) (hκ : ∀ i, i < n → κ (i + 1) = false)
    (hg : ∀ qs, qs.length = n → g qs = finI (m (some (.ins c []) :: (qs.map some ++ List.replicate (N.length - (n + 1)) none))))
    (hbody : ∀ (cdv : Value) (A : Around) (outer : List Env) (s : Shared) (H : Hp) (E : XK), Room k (A.deeper (PyProof.Rows.envOfC qual (defScope st) s.heap.objs.size f cdv)) →
      PSs (cxOf (L2.CX P w) P w K mg base N qual (defScope st) f cdv A outer s H E) (defBody st) (tStm G K (WE fun cls d _ H => E cls d H) κ .sh m)) :
    FnOk P w K mg base (L2.CX P w) (k + 1) f fd ps (spI G K c n g) := by
  have hpl : ps.length ≤ N.length := by have := congrArg List.length S.pre; rw [List.length_take] at this; omega
  refine Fn.okX S (fun vs H Q E h => ?_) fun cdv A outer s H vs Q E hr hsp => ?_
  · obtain ⟨F, H1, x, dx, ws, qs, rfl, _, _, _, _, _, r, e, _⟩ := h
    rw [List.length_cons, r.length, e, hn]
  obtain ⟨F, H1, x, dx, ws, qs, rfl, rfl, hx, hdx, hne, sm, r, hl, q⟩ := hsp
  have hFx : F x = none := Same.free sm hx
  have hFdx : F dx = none := Same.free sm hdx
  have e1 : Ext F H1 F (upd (upd H1 dx (.own x)) x (.ins (G c) dx [])) := ((Ext.refl sm).pushOwn (.own x) hdx).pushOwn _ (by rw [upd_ne (Ne.symm hne)]; exact hx)
  have hlen := r.length
  have key : ∀ i p, (some (PV.ins c []) :: (qs.map some ++ List.replicate (N.length - (n + 1)) none))[i]? = some (some p) → (i = 0 ∧ p = .ins c []) ∨ ∃ j, i = j + 1 ∧ qs[j]? = some p := fun i p h => by
    cases i with
    | zero => rw [List.getElem?_cons_zero] at h; cases h; exact .inl ⟨rfl, rfl⟩
    | succ i =>
      rw [List.getElem?_cons_succ] at h
      refine .inr ⟨i, rfl, ?_⟩
      by_cases hi : i < qs.length
      · rw [List.getElem?_append_left (by rw [List.length_map]; exact hi), List.getElem?_map] at h
        cases e : qs[i]? with
        | none => rw [e] at h; cases h
        | some a => rw [e] at h; cases h; rfl
      · rw [List.getElem?_append_right (by rw [List.length_map]; omega), List.getElem?_replicate] at h
        split at h <;> cases h
  have kj : ∀ {j p}, qs[j]? = some p → κ (j + 1) = false := fun {j p} h => hκ j (by have := (List.getElem?_eq_some_iff.mp h).1; omega)
  have st0 : (L2.start N (V.ref x :: ws))[0]? = some (some (V.ref x)) := rfl
  have stj : ∀ {j v}, ws[j]? = some v → (L2.start N (V.ref x :: ws))[j + 1]? = some (some v) := fun {j v} h => by
    unfold L2.start
    have hj : j < ws.length := (List.getElem?_eq_some_iff.mp h).1
    rw [List.getElem?_append_left (by rw [List.length_map, List.length_cons]; omega), List.getElem?_map, List.getElem?_cons_succ, h]
    rfl
  have L : Ls G K κ (some x) F H1 F (upd (upd H1 dx (.own x)) x (.ins (G c) dx [])) (L2.start N (V.ref x :: ws)) (some (PV.ins c []) :: (qs.map some ++ List.replicate (N.length - (n + 1)) none)) := by
    refine ⟨⟨e1.sub, ?_, fun i p h1 h2 => ?_, fun i p h1 h2 => ?_, fun i j p q a h1 h2 h3 h4 h5 h6 => ?_⟩, e1, fun i p a h1 h2 h3 => ?_, fun a z => by cases z; exact ⟨hκ0, st0⟩⟩
    · unfold L2.start
      rw [List.length_append, List.length_map, List.length_cons, List.length_cons, List.length_append, List.length_map, List.length_replicate, List.length_replicate, hlen]
      omega
    · rcases key i p h1 with ⟨rfl, rfl⟩ | ⟨j, rfl, hj⟩
      · rw [hκ0] at h2; cases h2
      · obtain ⟨v, e, rv⟩ := r.get hj
        exact ⟨v, stj e, rv⟩
    · rcases key i p h1 with ⟨rfl, rfl⟩ | ⟨j, rfl, hj⟩
      · exact ⟨x, st0, hFx, dx, [], upd_same, .nil⟩
      · rw [kj hj] at h2; cases h2
    · rcases key i p h3 with ⟨rfl, rfl⟩ | ⟨i, rfl, hi⟩
      · rcases key j q h4 with ⟨rfl, rfl⟩ | ⟨j, rfl, hj⟩
        · rfl
        · rw [kj hj] at h2; cases h2
      · rw [kj hi] at h1; cases h1
    · rcases key i p h2 with ⟨rfl, rfl⟩ | ⟨i, rfl, hi⟩
      · rw [st0] at h3; cases h3; exact hx
      · rw [kj hi] at h1; cases h1
  refine ⟨_, hbody cdv A outer s _ E hr, F, H1, F, _, some x, L, ?_⟩
  rw [hg qs hl] at q
  cases hm : m (some (.ins c []) :: (qs.map some ++ List.replicate (N.length - (n + 1)) none)) with
  | bk τ => rw [hm] at q; exact q.elim
  | ct τ => rw [hm] at q; exact q.elim
  | bad => rw [hm] at q; exact q.elim
  | rt p => rw [hm] at q; exact q.elim
  | ex c fs τ => rw [hm] at q; exact fun σ' F' H' d fs l h1 h2 => q d fs F' H' l.ext h1 h2
  | nx τ =>
    rw [hm] at q
    intro σ' F' H' l
    unfold finI at q
    simp only at q
    cases ht : τ[0]? with
    | none => simp only [ht] at q
    | some t =>
      cases t with
      | none => simp only [ht] at q
      | some p =>
        simp only [ht] at q
        obtain ⟨_, hx'⟩ := l.me x rfl
        obtain ⟨a, e2, hF, o⟩ := l.lc.ow 0 p ht hκ0
        rw [hx'] at e2
        cases e2
        exact q F' H' l.ext ⟨x, rfl, hx, hF, o⟩
end
end Lp
end
section
set_option Elab.async false
set_option linter.all false
set_option maxRecDepth 100000
namespace Lp
open PySem PySem.Spec L2

/-- the keywords' values in the parameters' order -/
def gp {α : Type} (perm : List Nat) (xs : List α) : List α := perm.filterMap fun i => xs[i]?
theorem gp_vals {zs : List V} {ws : List Value} (r : Vals zs ws) : ∀ perm : List Nat, Vals (gp perm zs) (gp perm ws)
  | [] => .nil
  | i :: perm => by
    have ih := gp_vals r perm
    unfold gp at ih ⊢
    rw [List.filterMap_cons, List.filterMap_cons]
    cases h : zs[i]? with
    | none =>
      have h2 : ws[i]? = none := by
        rw [List.getElem?_eq_none_iff] at h ⊢
        rw [← r.length]; exact h
      rw [h2]
      exact ih
    | some v =>
      obtain ⟨u, hu, ru⟩ := r.get h
      rw [hu]
      exact .cons ru ih
section
variable {G : GW} {K : PySem.W.Frag} {F H F' H' F0 H0 : Hp}
theorem gp_reps {vs : List V} {qs : List PV} (r : Reps G K F vs qs) : ∀ perm : List Nat, Reps G K F (gp perm vs) (gp perm qs)
  | [] => .nil
  | i :: perm => by
    have ih := gp_reps r perm
    unfold gp at ih ⊢
    rw [List.filterMap_cons, List.filterMap_cons]
    cases h : qs[i]? with
    | none =>
      have h2 : vs[i]? = none := by
        rw [List.getElem?_eq_none_iff] at h ⊢
        rw [r.length]; exact h
      rw [h2]
      exact ih
    | some v =>
      obtain ⟨u, hu, ru⟩ := r.get h
      rw [hu]
      exact .cons ru ih
end
structure DkK (P : Program) (w : World) (K : PySem.W.Frag) (mg : Str → Option Value) (base : Heap) (k : Nat) (x : Str) (sp : Sp) (ks : List Str) (perm : List Nat) : Prop where
  ex : ∃ f fd ps, FnOk P w K mg base (L2.CX P w) k f fd ps sp ∧ mg x = some (.ref f) ∧ PySem.W.keepIn K (.ref f) = true ∧ KBn K fd ps 0 ks (fun _ ws => gp perm ws) (fun _ zs => gp perm zs)
structure MkrK (P : Program) (w : World) (K : PySem.W.Frag) (mg : Str → Option Value) (base : Heap) (k : Nat) (x : Str) (C : Addr) (sp : Sp) (ks : List Str) (perm : List Nat) : Prop where
  ex : ∃ f fd ps, Mk K C f ∧ FnOk P w K mg base (L2.CX P w) k f fd ps sp ∧ mg x = some (.ref C) ∧ KBn K fd ps 1 ks (fun us ws => us ++ gp perm ws) (fun vs zs => vs ++ gp perm zs)
theorem kbn0 {K : PySem.W.Frag} {x qual : Str} {st : Stmt} {f : Addr} {fd : FuncData} {ps : List Str} (F : Fun K x qual st f fd) (ks : List Str) (perm : List Nat)
    (h : ∀ (kV doc pm : Value) (an : Option Addr) (cdv ct : Value) (ws : List Value), ws.length = ks.length → bindArgs (PySem.W.fnOf x qual (defArgs st) (defBody st) (defScope st) .none kV doc pm an cdv ct) ⟨[], ks.zip ws⟩ = pure (ps.zip (gp perm ws))) :
    KBn K fd ps 0 ks (fun _ ws => gp perm ws) (fun _ zs => gp perm zs) := by
  obtain ⟨oc, od, kV, doc, pm, an, cdv, ct, osl, rfl, lk, hcd⟩ := F.ex
  refine ⟨fun s us ws X l1 l2 => ?_, fun _ r => gp_vals r perm⟩
  have : us = [] := List.length_eq_zero_iff.mp l1
  subst this
  exact BindsTo.of_eq (h kV doc pm an cdv ct ws l2)
theorem kbn1 {K : PySem.W.Frag} {x qual : Str} {st : Stmt} {f : Addr} {fd : FuncData} {ps : List Str} (F : Fun K x qual st f fd) (ks : List Str) (perm : List Nat)
    (h : ∀ (kV doc pm : Value) (an : Option Addr) (cdv ct : Value) (u : Value) (ws : List Value), ws.length = ks.length → bindArgs (PySem.W.fnOf x qual (defArgs st) (defBody st) (defScope st) .none kV doc pm an cdv ct) ⟨[u], ks.zip ws⟩ = pure (ps.zip (u :: gp perm ws))) :
    KBn K fd ps 1 ks (fun us ws => us ++ gp perm ws) (fun vs zs => vs ++ gp perm zs) := by
  obtain ⟨oc, od, kV, doc, pm, an, cdv, ct, osl, rfl, lk, hcd⟩ := F.ex
  refine ⟨fun s us ws X l1 l2 => ?_, fun r1 r => r1.append (gp_vals r perm)⟩
  obtain ⟨u, rfl⟩ := List.length_eq_one_iff.mp l1
  exact BindsTo.of_eq (h kV doc pm an cdv ct u ws l2)

section
variable {G : GW} {F H F' H' F0 H0 : Hp} {X : Cx} {v : V} {p : PV} {κ : Kd} {E : St → XK} {W : WX} {m md rm : Mode} {e : Expr} {kws : List Keyword} {pos p' kpos : Pos} {σ : St} {τ : LE} {x : Str} {k n c : Nat} {g : List PV → Res PV} {f : LE → Res PV} {fa : LE → Res (List PV)} {ks : List Str} {perm : List Nat} {nm : Option Str}
theorem pk_weak {t t' : TA} (h : PK X kws t) (w : ∀ σ H Q, t' σ H Q → t σ H Q) : PK X kws t' := ⟨fun pos pins s σ H Q I q => h.run pos pins s σ H Q I (w σ H Q q)⟩
theorem k_nil : PK X [] (tA G X.K m E κ aNil) := pk_weak pk_nil fun σ H Q ⟨F, τ, l, q⟩ => q [] F H (Ext.refl l.sub) .nil
theorem k_cons {g : LE → Res (List PV)} (h : PE X e (tE G X.K m E κ f)) (hr : PK X kws (tA G X.K m E κ g)) : PK X (⟨nm, e, kpos⟩ :: kws) (tA G X.K m E κ (aCons f g)) :=
  pk_weak (pk_cons h hr) fun σ H Q ⟨F, τ, l, q⟩ => by
    refine ⟨F, τ, l, ?_⟩
    unfold aCons at q
    cases hf : f τ with
    | exc c ps => rw [hf] at q; exact q
    | bad => rw [hf] at q; exact q
    | ok p =>
      rw [hf] at q
      intro v F1 H1 e1 r1
      refine ⟨F1, τ, l.ext e1, ?_⟩
      cases hg : g τ with
      | exc c ps => rw [Res.ok_bind, hg] at q; exact ExcOk.ext q e1
      | bad => rw [Res.ok_bind, hg] at q; exact q
      | ok ps =>
        rw [Res.ok_bind, hg] at q
        exact fun vs F2 H2 e2 r2 => q (v :: vs) F2 H2 (e1.trans e2) (.cons (r1.ext e2) (r2.before e1.h))
def eFnK (nk : Nat) (perm : List Nat) (g : List PV → Res PV) (fa : LE → Res (List PV)) : LE → Res PV := fun τ => fa τ >>= fun qs => if qs.length = nk then g (gp perm qs) else .bad
theorem v_callK (D : DkK X.prog X.w X.K X.mg X.base k x (spM G X.K rm n g) ks perm) (hr : Room k X.A) (tk : Takes X W) (hkw : PK X kws (tA G X.K .sh (WE W) κ fa)) (hL : ∀ ps, g ps ≠ .bad → ps.length = n) {nk : Nat} (hnk : ks.length = nk := by rfl) (hg : Gl X x := by rfl)
    (hall : (backToKw pos (keywordEach kws X.env)).all (·.1.isSome) = true := by rfl) (hks : (backToKw pos (keywordEach kws X.env)).filterMap (·.1) = ks := by rfl) (hdb : (x == ("__debug__" : Str)) = false := by decide)
    (hpl : ((backTo pos (starEach [] X.env)).any (·.1) || (backToKw pos (keywordEach kws X.env)).any (·.1.isNone)) = false := by rfl) :
    PE X (.Call (.Name x p') [] kws pos) (tE G X.K rm (WE W) κ (eFnK nk perm g fa)) := by
  subst hnk
  obtain ⟨f, fd, ps, Fk, hm, hk, hb⟩ := D.ex
  refine ⟨fun pins s σ H Q I ⟨F, τ, l, q⟩ => ?_⟩
  refine wpAny_Call_Name_kw (ld_glob I hg hm ?_ hdb)
  refine PySem.W.callWith_KW0 (h₀ := X.base) I.ok.mod.kin hk hall ?_ hpl
  refine thn (hkw.run pos pins s σ H (fun zs H2 => spM G X.K rm n g (gp perm zs) H2 Q (WE W σ) ∧ zs.length = ks.length) I ⟨F, τ, l, ?_⟩) fun ws s2 ⟨zs, H2, I2, rz, q2, hz⟩ => ⟨I2.kIn, ?_⟩
  · unfold eFnK at q
    cases hf : fa τ with
    | bad => rw [hf] at q; exact q
    | exc c ps => rw [hf] at q; exact q
    | ok qs =>
      rw [hf, Res.ok_bind] at q
      intro vs F1 H1 e1 r1
      by_cases hlen : qs.length = ks.length
      · rw [if_pos hlen] at q
        have rs := r1.shared
        refine ⟨⟨F1, gp perm qs, e1.sub, gp_reps rs perm, hL _ fun z => by rw [z] at q; exact q, ?_⟩, by rw [rs.length]; exact hlen⟩
        cases hg : g (gp perm qs) with
        | bad => rw [hg] at q; exact q
        | exc c ps => rw [hg] at q; exact ExcOk.ext q e1
        | ok p => rw [hg] at q; exact fun v F2 H2 e2 r2 => q v F2 H2 (e1.trans e2) (r2.before e1.h)
      · rw [if_neg hlen] at q; exact q.elim
  · rw [hks]
    have r2 := gp_vals rz perm
    refine wpAny_call (codeAny_mono (Fk.run X.A X.stack s2 H2 ⟨[], ks.zip ws⟩ (gp perm ws) (gp perm zs) Q (WE W σ) hr I2.env0 (hb.to s2 [] ws I2.kIn rfl (rz.length.symm.trans hz)) r2 q2) fun r s' hq => ?_)
    cases r with
    | error e => exact passAt tk σ pins H2 s2 e s' I2 hq
    | ok fl =>
      cases fl with
      | ret u => exact I2.after hq
      | next => exact False.elim hq
      | brk => exact False.elim hq
      | cont => exact False.elim hq
theorem v_makeK (D : MkrK X.prog X.w X.K X.mg X.base k x (G c) (spI G X.K c n g) ks perm) (hr : Room (k + 1) X.A) (tk : Takes X W) (hkw : PK X kws (tA G X.K .sh (WE W) κ fa)) (hL : ∀ ps, g ps ≠ .bad → ps.length = n) {nk : Nat} (hnk : ks.length = nk := by rfl) (hg : Gl X x := by rfl)
    (hall : (backToKw pos (keywordEach kws X.env)).all (·.1.isSome) = true := by rfl) (hks : (backToKw pos (keywordEach kws X.env)).filterMap (·.1) = ks := by rfl) (hdb : (x == ("__debug__" : Str)) = false := by decide)
    (hpl : ((backTo pos (starEach [] X.env)).any (·.1) || (backToKw pos (keywordEach kws X.env)).any (·.1.isNone)) = false := by rfl) :
    PE X (.Call (.Name x p') [] kws pos) (tE G X.K .fr (WE W) κ (eFnK nk perm g fa)) := by
  subst hnk
  obtain ⟨f, fd, ps, M, Fk, hm, hb⟩ := D.ex
  refine ⟨fun pins s σ H Q I ⟨F, τ, l, q⟩ => ?_⟩
  refine wpAny_Call_Name_kw (ld_glob I hg hm ?_ hdb)
  refine PySem.W.callWith_KW0 (h₀ := X.base) I.ok.mod.kin M.kp hall ?_ hpl
  refine thn (hkw.run pos pins s σ H (fun zs H2 => (∀ x dx, H2 x = none → H2 dx = none → dx ≠ x → spI G X.K c n g (.ref x :: gp perm zs) (upd (upd H2 dx (.own x)) x (.ins (G c) dx [])) (fun v H3 => v = .non ∧ Q (.ref x) H3) (WE W σ)) ∧ zs.length = ks.length) I ⟨F, τ, l, ?_⟩) fun ws s1 ⟨zs, H2, I2, rz, q2, hz⟩ => ⟨I2.kIn, ?_⟩
  · unfold eFnK at q
    cases hf : fa τ with
    | bad => rw [hf] at q; exact q
    | exc c ps => rw [hf] at q; exact q
    | ok qs =>
      rw [hf, Res.ok_bind] at q
      intro vs F1 H1 e1 r1
      by_cases hlen : qs.length = ks.length
      · rw [if_pos hlen] at q
        have rs := r1.shared
        refine ⟨fun x dx hx hdx hne => ⟨F1, H1, x, dx, gp perm vs, gp perm qs, rfl, rfl, hx, hdx, hne, e1.sub, gp_reps rs perm, hL _ fun z => by rw [z] at q; exact q, ?_⟩, by rw [rs.length]; exact hlen⟩
        cases hg : g (gp perm qs) with
        | bad => rw [hg] at q; exact q
        | exc c ps => rw [hg] at q; exact ExcOk.ext q e1
        | ok p => rw [hg] at q; exact fun F2 H2 e2 r2 => ⟨rfl, q _ F2 H2 (e1.trans e2) (Frs.before r2 e1.h)⟩
      · rw [if_neg hlen] at q; exact q.elim
  · rw [hks]
    show wpAny (model X.prog X.w) X.A (call (.ref (G c)) [] (ks.zip ws)) (EP X pins σ Q) X.xe s1
    have hq := q2 (s1.heap.objs.size + 1) s1.heap.objs.size (I2.hok.fresh (Nat.le_succ _)) (I2.hok.fresh (Nat.le_refl _)) (Nat.ne_of_lt (Nat.lt_succ_self _))
    have I3 := Inv.made (C := G c) I2
    have r2 : Vals (V.ref (s1.heap.objs.size + 1) :: gp perm zs) (Value.ref (s1.heap.objs.size + 1) :: gp perm ws) := .cons rfl (gp_vals rz perm)
    refine wpAny_call (make_map (f := f) I2.kIn M.makes M.init (beq_iff_eq.mp M.fn) (codeAny_mono (Fk.run _ X.stack _ _ ⟨Value.ref (s1.heap.objs.size + 1) :: [], ks.zip ws⟩ _ _ _ (WE W σ) (hr.make (G c) [] (ks.zip ws))
      (I3.env0.make (G c) [] (ks.zip ws)) (hb.to _ [Value.ref (s1.heap.objs.size + 1)] ws I3.kIn rfl (rz.length.symm.trans hz)) r2 hq) fun r s' hq' => ?_))
    cases r with
    | error e => exact passAt tk σ pins _ _ e s' I3 hq'
    | ok fl =>
      cases fl with
      | ret u =>
        obtain ⟨v, H', I4, rv, ev, q3⟩ := I3.after hq'
        subst ev
        exact ⟨rv, ⟨V.ref (s1.heap.objs.size + 1), H', I4, rfl, q3⟩⟩
      | next => exact False.elim hq'
      | brk => exact False.elim hq'
      | cont => exact False.elim hq'
end
end Lp
end
section
set_option Elab.async false
set_option linter.all false
set_option maxRecDepth 100000
namespace Lp
open PySem PySem.Spec L2

section
variable {G : GW} {K : PySem.W.Frag} {F H F' H' F0 H0 : Hp} {X : Cx} {v : V} {p : PV} {κ : Kd} {E : St → XK} {W : WX} {m md rm : Mode} {e e' a b : Expr} {es : List Expr} {pos p' : Pos} {σ : St} {τ : LE} {f fi fe : LE → Res PV}
/-! ### a value as a test -/
theorem t_val (h : PE X e (tE G K .sh E κ f)) (he : ∀ whole, isTrue e X.env whole = (do let v ← whole; standAt e.pos; holding [v] (truthy v)) := by intro _; rfl) : PT X e (tT G K E κ (tst f)) :=
  pt_weak (pt_val h he) fun _ _ _ q => w_tst (fun _ _ _ h => h) q
/-! ### either of two readings -/
theorem OpV.freeze {r : R2} {g : PV → PV → Option PV} (h : OpV G K r .fr g) : OpV G K r .sh g := fun F H x y p q z Q s rx ry hz k => h F H x y p q z Q s rx ry hz fun v F' H' e r => by
  obtain ⟨a, rfl, h0, hF, o⟩ := r
  obtain ⟨F2, e2, r2⟩ := e.freeze h0 hF o
  exact k _ F2 H' e2 r2
def orP (g g' : PV → PV → Option PV) : PV → PV → Option PV := fun p q => match g p q with
  | some z => some z
  | none => g' p q
theorem OpV.or {r r' : R2} {g g' : PV → PV → Option PV} (h : OpV G K r m g) (h' : OpV G K r' m g') : OpV G K (fun x y H Q => r x y H Q ∨ r' x y H Q) m (orP g g') := fun F H x y p q z Q s rx ry hz k => by
  unfold orP at hz
  cases hg : g p q with
  | some w =>
    rw [hg] at hz
    cases hz
    exact .inl (h F H x y p q _ Q s rx ry hg k)
  | none =>
    rw [hg] at hz
    exact .inr (h' F H x y p q z Q s rx ry hz k)
def pAddA : PV → PV → Option PV := orP pAdd pCat
theorem op_addA : OpR X (binaryOp .Add) (fun x y H Q => rAddV X.K x y H Q ∨ rCatR x y H Q) := op_addV.or op_catR
theorem g_addA : OpV G K (fun x y H Q => rAddV K x y H Q ∨ rCatR x y H Q) .sh pAddA := g_add.or g_cat.freeze
/-! ### slices of texts, tuples, lists -/
def pSlA (p : PV) (lo hi : Option Int) : Option PV := match pSl p lo hi with
  | some z => some z
  | none => pSlL p lo hi
theorem sl_A : SlR X (fun x lo hi H Q => rSlV X.K x lo hi H Q ∨ rSlL X.K x lo hi H Q) := sl_V.or sl_list
theorem g_slA : SlV (fun x lo hi H Q => rSlV K x lo hi H Q ∨ rSlL K x lo hi H Q) .sh G K pSlA := fun F H x p z lo hi Q s rx hz k => by
  unfold pSlA at hz
  cases hg : pSl p lo hi with
  | some w =>
    rw [hg] at hz
    cases hz
    exact .inl (g_sl F H x p _ lo hi Q s rx hg k)
  | none =>
    rw [hg] at hz
    refine .inr (g_slL F H x p z lo hi Q s rx hz fun v F' H' e r => ?_)
    obtain ⟨a, rfl, h0, hF, o⟩ := r
    obtain ⟨F2, e2, r2⟩ := e.freeze h0 hF o
    exact k _ F2 H' e2 r2
end
end Lp
end
section
set_option Elab.async false
set_option linter.all false
set_option maxRecDepth 100000
namespace L2
open PySem PySem.Spec PyProof.Rows
section
variable {X : Cx} {a b c d : Expr} {pos : Pos} {ta tb tc td : TE} {op1 op2 op3 : CmpOp} {g1 g2 g3 : Int → Int → Bool}
/-- a op1 b op2 c op3 d of ints -/
def tChain3 (g1 g2 g3 : Int → Int → Bool) (ta tb tc td : TE) : TE := fun σ H Q => ta σ H fun x H1 => tb σ H1 fun y H2 => ∃ i j, x = .int i ∧ y = .int j ∧
  (if g1 i j = true then tc σ H2 fun z H3 => ∃ k, z = .int k ∧ (if g2 j k = true then td σ H3 fun w H4 => ∃ l, w = .int l ∧ Q (.bl (g3 k l)) H4 else Q (.bl false) H3) else Q (.bl false) H2)
theorem pe_chain3 (h1 : OpR X (compareOp op1) (rI0 fun i j => .bl (g1 i j))) (h2 : OpR X (compareOp op2) (rI0 fun i j => .bl (g2 i j))) (h3 : OpR X (compareOp op3) (rI0 fun i j => .bl (g3 i j))) (ha : PE X a ta) (hb : PE X b tb) (hc : PE X c tc) (hd : PE X d td)
    (hm : lastMarks [op1, op2, op3] [b, c, d] = false := by with_unfolding_all rfl) : PE X (.Compare a [op1, op2, op3] [b, c, d] pos) (tChain3 g1 g2 g3 ta tb tc td) := by
  refine ⟨fun pins s σ H Q I h => ?_⟩
  refine Compare_chain (thn (ha.run pins s σ H _ I h) fun v s1 ⟨x, H1, I1, r1, q1⟩ => chain_link (thn (hb.run pins s1 σ H1 _ I1 q1) fun u s2 ⟨y, H2, I2, r2, i, j, ex, ey, q2⟩ =>
    thn (h1 pins s2 σ H2 x y v u (fun z H3 => z = .bl (g1 i j) ∧ H3 = H2) I2 r1 r2 ⟨i, j, ex, ey, rfl, rfl⟩) fun d' s3 ⟨z, H3, I3, r3, e, e'⟩ => ?_)) hm
  subst e e'
  cases r3
  refine wpAny_truthy_bool ?_
  cases hg : g1 i j with
  | false =>
    rw [hg, if_neg Bool.false_ne_true] at q2
    exact ite_ff ⟨.bl false, _, I3, rfl, q2⟩
  | true =>
    rw [hg, if_pos rfl] at q2
    refine ite_tt (chain_link (thn (hc.run pins s3 σ _ _ I3 q2) fun u3 s4 ⟨z, H4, I4, r4, k, ez, q4⟩ =>
      thn (h2 pins s4 σ H4 y z u u3 (fun w H5 => w = .bl (g2 j k) ∧ H5 = H4) I4 r2 r4 ⟨j, k, ey, ez, rfl, rfl⟩) fun d2 s5 ⟨w, H5, I5, r5, e, e'⟩ => ?_))
    subst e e'
    cases r5
    refine wpAny_truthy_bool ?_
    cases hg2 : g2 j k with
    | false =>
      rw [hg2, if_neg Bool.false_ne_true] at q4
      exact ite_ff ⟨.bl false, _, I5, rfl, q4⟩
    | true =>
      rw [hg2, if_pos rfl] at q4
      exact ite_tt (chain_last (thn (hd.run pins s5 σ _ _ I5 q4) fun u6 s6 ⟨w, H6, I6, r6, l, ew, q6⟩ => h3 pins s6 σ H6 z w u3 u6 Q I6 r4 r6 ⟨k, l, ez, ew, q6⟩))
end
end L2
namespace Lp
open PySem PySem.Spec L2

section
variable {G : GW} {K : PySem.W.Frag} {F H F' H' F0 H0 : Hp} {X : Cx} {v : V} {p : PV} {κ : Kd} {E : St → XK} {m md rm : Mode} {a b c d : Expr} {pos p' : Pos} {σ : St} {τ : LE} {f1 f2 f3 f4 : LE → Res PV} {op1 op2 op3 : CmpOp} {g1 g2 g3 : Int → Int → Bool}
def asI (f : LE → Res PV) : LE → Res Int := fun τ => f τ >>= fun p => match p with
  | .int i => .ok i
  | _ => .bad
def eChain3 (g1 g2 g3 : Int → Int → Bool) (f1 f2 f3 f4 : LE → Res PV) : LE → Res PV := fun τ => asI f1 τ >>= fun i => asI f2 τ >>= fun j => if g1 i j = true then asI f3 τ >>= fun k => (if g2 j k = true then asI f4 τ >>= fun l => .ok (.bl (g3 k l)) else .ok (.bl false)) else .ok (.bl false)
theorem w_asI {f : LE → Res PV} {k : Int → Res PV} {F : Hp} {σ : St} {H : Hp} {Q : VK} (l : Lc G K κ F H σ τ) (q : match asI f τ >>= k with
    | .ok p => ∀ v F' H', Ext F H F' H' → RM G K .sh H F' H' v p → Q v H'
    | .exc c ps => ExcOk G K (E σ) F H c ps
    | .bad => False) (R : VK) (h : ∀ i F1 H1, Ext F H F1 H1 → (match k i with
    | .ok p => ∀ v F' H', Ext F1 H1 F' H' → RM G K .sh H1 F' H' v p → Q v H'
    | .exc c ps => ExcOk G K (E σ) F1 H1 c ps
    | .bad => False) → R (.int i) H1) : tE G K .top E κ f σ H R := by
  refine ⟨F, τ, l, ?_⟩
  unfold asI at q
  cases hf : f τ with
  | exc c ps => rw [hf] at q; exact q
  | bad => rw [hf] at q; exact q
  | ok p =>
    rw [hf] at q
    intro v F1 H1 e1 r1
    cases p with
    | int i =>
      obtain rfl := Top.int_inv r1
      refine h i F1 H1 e1 ?_
      simp only [Res.ok_bind] at q
      cases hk : k i with
      | ok p => rw [hk] at q; exact fun v F2 H2 e2 r2 => q v F2 H2 (e1.trans e2) r2
      | exc c ps => rw [hk] at q; exact ExcOk.ext q e1
      | bad => rw [hk] at q; exact q
    | _ => exact q.elim
theorem v_chain3 (h1 : OpR X (compareOp op1) (rI0 fun i j => .bl (g1 i j))) (h2 : OpR X (compareOp op2) (rI0 fun i j => .bl (g2 i j))) (h3 : OpR X (compareOp op3) (rI0 fun i j => .bl (g3 i j)))
    (ha : PE X a (tE G K .top E κ f1)) (hb : PE X b (tE G K .top E κ f2)) (hc : PE X c (tE G K .top E κ f3)) (hd : PE X d (tE G K .top E κ f4))
    (hm : lastMarks [op1, op2, op3] [b, c, d] = false := by with_unfolding_all rfl) : PE X (.Compare a [op1, op2, op3] [b, c, d] pos) (tE G K .sh E κ (eChain3 g1 g2 g3 f1 f2 f3 f4)) :=
  pe_weak (pe_chain3 h1 h2 h3 ha hb hc hd hm) fun σ H Q ⟨F, τ, l, q⟩ => by
    unfold eChain3 at q
    refine w_asI l q _ fun i F1 H1 e1 q => ?_
    refine w_asI (l.ext e1) q _ fun j F2 H2 e2 q => ?_
    refine ⟨i, j, rfl, rfl, ?_⟩
    cases hg : g1 i j with
    | false =>
      rw [hg, if_neg Bool.false_ne_true] at q
      rw [if_neg Bool.false_ne_true]
      exact q _ F2 H2 (Ext.refl e2.sub) (.bl _)
    | true =>
      rw [hg, if_pos rfl] at q
      rw [if_pos rfl]
      refine w_asI ((l.ext e1).ext e2) q _ fun k F3 H3 e3 q => ?_
      refine ⟨k, rfl, ?_⟩
      cases hg2 : g2 j k with
      | false =>
        rw [hg2, if_neg Bool.false_ne_true] at q
        rw [if_neg Bool.false_ne_true]
        exact q _ F3 H3 (Ext.refl e3.sub) (.bl _)
      | true =>
        rw [hg2, if_pos rfl] at q
        rw [if_pos rfl]
        refine w_asI (((l.ext e1).ext e2).ext e3) q _ fun n F4 H4 e4 q => ?_
        exact ⟨n, rfl, q _ F4 H4 (Ext.refl e4.sub) (.bl _)⟩
end
end Lp
end
section
set_option Elab.async false
set_option linter.all false
set_option maxRecDepth 100000
namespace Lp
open PySem PySem.Spec L2
section
variable {G : GW} {K : PySem.W.Frag} {X : Cx} {κ : Kd} {E : St → XK} {pos : Pos} {x z : Str} {i : Int}
theorem v_gintE (hm : ∃ t, X.mg x = some (.int i t)) (hg : Gl X x := by rfl) (hd : (x == ("__debug__" : Str)) = false := by decide) : PE X (.Name x pos) (tE G K .sh E κ (eC (.int i))) := let ⟨_, h⟩ := hm; v_gint h hg hd
theorem v_gstrE (hm : ∃ t, X.mg x = some (.str z t)) (hg : Gl X x := by rfl) (hd : (x == ("__debug__" : Str)) = false := by decide) : PE X (.Name x pos) (tE G K .sh E κ (eC (.str z))) := let ⟨_, h⟩ := hm; v_gstr h hg hd
theorem tidy_rs (i : Nat) (r : Res PV) (τ τ' : LE) : tidy i (rs r τ Fl.rt) = tidy i (rs r τ' Fl.rt) := by cases r <;> rfl
end
end Lp
end
section
set_option Elab.async false
set_option linter.all false
set_option maxRecDepth 100000
namespace L2
open PySem PySem.Spec PyProof.Rows
section
variable {X : Cx}
theorem ps_setDc {i : Nat} {y : Str} {py : Pos} {kx vx tg iter : Expr} {ifs : List Expr} {scope : Scope} {own : List (Str × Nat)} {pos spos : Pos} {wi : TI} {g : TG} {tt : TT} {tk tv : TE} (hc : X.calm = true) (hN : X.N.Nodup) (hy : X.N[i]? = some y) (hyl : X.env.scope.names.lookup y = some .local)
    (hsw : swapsWith (.DictComp kx vx [⟨tg, iter, ifs, 0⟩] scope pos) (some (.Name y py)) spos.line X.env = pure true) (hi : PI X tg iter wi) (ok : BlkOk X.N X.env.scope scope own)
    (hg : ∀ (s : Shared) (H : Hp) (C : Addr) (cl : List (Str × Addr)) (fp : List Addr), PG (X.blk s H scope (compEnvC scope cl C X.env) fp) tg g) (ht : ∀ (s : Shared) (H : Hp) (C : Addr) (cl : List (Str × Addr)) (fp : List Addr), PTs (X.blk s H scope (compEnvC scope cl C X.env) fp) ifs tt)
    (hk : ∀ (s : Shared) (H : Hp) (C : Addr) (cl : List (Str × Addr)) (fp : List Addr), PE (X.blk s H scope (compEnvC scope cl C X.env) fp) kx tk)
    (he : ∀ (s : Shared) (H : Hp) (C : Addr) (cl : List (Str × Addr)) (fp : List Addr), PE (X.blk s H scope (compEnvC scope cl C X.env) fp) vx tv) (hs : ∀ x, foldedSetIterable iter X.env x = pure x := by intro _; rfl) :
    PS X (.Assign [.Name y py] (.DictComp kx vx [⟨tg, iter, ifs, 0⟩] scope pos) spos) (tAsg (tDc wi g tt tk tv (own.map (·.2))) (gName i)) := by
  refine ⟨fun pins s σ H D I h => ?_⟩
  rw [exec_Assign_Name_used _ _ _ _ hsw]
  refine wpAny_bind (wpAny_standAt (wpAny_bind ?_))
  show wpAny _ X.A (do let _ ← comprehension (.DictComp kx vx [⟨tg, iter, ifs, 0⟩] scope pos) scope X.env (firstIterPos [⟨tg, iter, ifs, 0⟩] pos) newDict false (eval iter X.env) (some (assign (.Name y py) X.env))) _ _ s
  have h : tDc wi g tt tk tv (own.map (·.2)) σ H (fun x H1 => gName i x σ H1 D.nx) := h
  refine wpAny_bind (thn (dc_core (Qf := fun _ s' => SP X pins D .next s') hc hN I hi ok hg ht hk he hs h fun L C s' m H' I' q hn f => ?_) fun _ s' hq => wpAny_pure (wpAny_pure hq))
  show wpAny _ _ (assign (.Name y py) X.env (.ref L)) _ _ _
  refine wpAny_assign_Name (store_ok2 (v := V.ref L) I' hN hy (.inl hyl) rfl (fun s2 I2 ⟨a, sb, ha⟩ => ?_) (.inr hyl))
  obtain ⟨f0, f1, f2, f3, f4, f5⟩ := f
  have haC : C ≠ a := by
    rcases ha with z | z
    · rw [z]; exact f1
    · exact fun e => f4 y a z e.symm
  refine ⟨m, hn.sameBut sb haC, fun h3 sb3 => ?_⟩
  exact ⟨_, H', I2.turned (t' := s2.toks) (fun b o hb e => (sb3.2 b hb).trans e) f0 f1 f3 f4 f5, q⟩
end
end L2
namespace Lp
open PySem PySem.Spec L2
section
variable {G : GW} {K : PySem.W.Frag} {F H F' H' F0 H0 : Hp} {X : Cx} {v : V} {p : PV} {κ : Kd} {E : St → XK} {m md rm : Mode} {tg iter elt : Expr} {pos p' : Pos} {zs : Option Addr} {σ : St} {τ : LE} {f : LE → Res PV} {te : TE} {i : Nat}
/-- a fresh object, into an owned slot or a shared one -/
theorem w_setO (k : κ i = true) (hi0 : i ≠ 0) (hw : ∀ σ H Q, tE G K .fr E κ f σ H Q → te σ H Q) {D : Ends} (q : tStm G K E κ rm (sSet i f) D σ H) : tAsg te (gName i) D σ H := by
  obtain ⟨F0, H0, F, τ, zs, l, q⟩ := q
  refine hw σ H _ ⟨F, τ, l.lc, ?_⟩
  unfold sSet at q
  cases h : f τ with
  | exc c ps => rw [h] at q; exact l.exc q
  | bad => rw [h] at q; exact q
  | ok p =>
    rw [h, rs_ok] at q
    intro v F1 H1 e1 r1
    by_cases hl : i < τ.length
    · rw [if_pos hl] at q
      exact q _ F1 H1 (l.setO e1 k hi0 hl r1)
    · rw [if_neg hl] at q; exact q.elim
theorem w_setF (k : κ i = false) (hw : ∀ σ H Q, tE G K .fr E κ f σ H Q → te σ H Q) {D : Ends} (q : tStm G K E κ rm (sSet i f) D σ H) : tAsg te (gName i) D σ H := by
  obtain ⟨F0, H0, F, τ, zs, l, q⟩ := q
  refine hw σ H _ ⟨F, τ, l.lc, ?_⟩
  unfold sSet at q
  cases h : f τ with
  | exc c ps => rw [h] at q; exact l.exc q
  | bad => rw [h] at q; exact q
  | ok p =>
    rw [h, rs_ok] at q
    intro v F1 H1 e1 r1
    obtain ⟨a, rfl, h0, hF, o⟩ := r1
    obtain ⟨F2, e2, r2⟩ := e1.freeze h0 hF o
    by_cases hl : i < τ.length
    · rw [if_pos hl] at q
      exact q _ F2 H1 ((l.of_ext e2).set k hl r2)
    · rw [if_neg hl] at q; exact q.elim
theorem w_setX (b : Bool) (k : κ i = b) (hi0 : b = true → i ≠ 0) (hw : ∀ σ H Q, tE G K .fr E κ f σ H Q → te σ H Q) {D : Ends} (q : tStm G K E κ rm (sSet i f) D σ H) : tAsg te (gName i) D σ H := by
  cases b with
  | true => exact w_setO k (hi0 rfl) hw q
  | false => exact w_setF k hw q
theorem s_setLc (i : Nat) (b : Bool) {y : Str} {py spos : Pos} {ifs : List Expr} {scope : Scope} {own : List (Str × Nat)} {ws : List Nat} {wi : LE → Res (List PV)} {tgt : PV → LE → Res LE} {cond : LE → Res Bool} {te : LE → Res PV} (hc : X.calm = true) (hN : X.N.Nodup)
    (hi : PI X tg iter (tI G X.K false E κ wi)) (ok : BlkOk X.N X.env.scope scope own)
    (hg : ∀ (s : Shared) (H : Hp) (C : Addr) (cl : List (Str × Addr)) (fp : List Addr), PG (X.blk s H scope (compEnvC scope cl C X.env) fp) tg (tG G X.K ws EN κ tgt))
    (ht : ∀ (s : Shared) (H : Hp) (C : Addr) (cl : List (Str × Addr)) (fp : List Addr), PTs (X.blk s H scope (compEnvC scope cl C X.env) fp) ifs (tT G X.K EN κ cond))
    (he : ∀ (s : Shared) (H : Hp) (C : Addr) (cl : List (Str × Addr)) (fp : List Addr), PE (X.blk s H scope (compEnvC scope cl C X.env) fp) elt (tE G X.K .sh EN κ te))
    (hw : ∀ j ∈ ws, j ∈ own.map (·.2)) (hl : GOk κ ws tgt) (k : κ i = b := by rfl) (hi0 : b = true → i ≠ 0 := by decide) (hy : X.N[i]? = some y := by rfl) (hyl : X.env.scope.names.lookup y = some .local := by rfl)
    (hsw : swapsWith (.ListComp elt [⟨tg, iter, ifs, 0⟩] scope pos) (some (.Name y py)) spos.line X.env = pure true := by rfl) (hs : ∀ x, foldedSetIterable iter X.env x = pure x := by intro _; rfl) :
    PS X (.Assign [.Name y py] (.ListComp elt [⟨tg, iter, ifs, 0⟩] scope pos) spos) (tStm G X.K E κ rm (sSet i (eComp (own.map (·.2)) wi tgt cond te))) :=
  ps_weak (ps_setLc hc hN hy hyl hsw hi ok hg ht he hs) fun D σ H q => w_setX b k hi0 (fun _ _ _ h => w_lc hw hl h) q
theorem s_setLc2 (i : Nat) (b : Bool) {y : Str} {py spos : Pos} {tg1 iter1 : Expr} {ifs ifs1 : List Expr} {scope : Scope} {own : List (Str × Nat)} {own1 ws ws1 : List Nat} {wi wi1 : LE → Res (List PV)} {tgt tgt1 : PV → LE → Res LE} {cond cond1 : LE → Res Bool} {te : LE → Res PV} (hc : X.calm = true) (hN : X.N.Nodup)
    (hi : PI X tg iter (tI G X.K false E κ wi)) (ok : BlkOk X.N X.env.scope scope own) (hv : ∀ i ∈ own1, i ∈ own.map (·.2))
    (hg : ∀ (s : Shared) (H : Hp) (C : Addr) (cl : List (Str × Addr)) (fp : List Addr), PG (X.blk s H scope (compEnvC scope cl C X.env) fp) tg (tG G X.K ws EN κ tgt))
    (ht : ∀ (s : Shared) (H : Hp) (C : Addr) (cl : List (Str × Addr)) (fp : List Addr), PTs (X.blk s H scope (compEnvC scope cl C X.env) fp) ifs (tT G X.K EN κ cond))
    (hi1 : ∀ (s : Shared) (H : Hp) (C : Addr) (cl : List (Str × Addr)) (fp : List Addr), PI (X.blk s H scope (compEnvC scope cl C X.env) fp) tg1 iter1 (tI G X.K true EN κ wi1))
    (hg1 : ∀ (s : Shared) (H : Hp) (C : Addr) (cl : List (Str × Addr)) (fp : List Addr), PG (X.blk s H scope (compEnvC scope cl C X.env) fp) tg1 (tG G X.K ws1 EN κ tgt1))
    (ht1 : ∀ (s : Shared) (H : Hp) (C : Addr) (cl : List (Str × Addr)) (fp : List Addr), PTs (X.blk s H scope (compEnvC scope cl C X.env) fp) ifs1 (tT G X.K EN κ cond1))
    (he : ∀ (s : Shared) (H : Hp) (C : Addr) (cl : List (Str × Addr)) (fp : List Addr), PE (X.blk s H scope (compEnvC scope cl C X.env) fp) elt (tE G X.K .sh EN κ te))
    (hw : ∀ j ∈ ws, j ∈ own.map (·.2)) (hl : GOk κ ws tgt) (hw1 : ∀ j ∈ ws1, j ∈ own1) (hl1 : GOk κ ws1 tgt1) (k : κ i = b := by rfl) (hi0 : b = true → i ≠ 0 := by decide) (hy : X.N[i]? = some y := by rfl) (hyl : X.env.scope.names.lookup y = some .local := by rfl)
    (hsw : swapsWith (.ListComp elt [⟨tg, iter, ifs, 0⟩, ⟨tg1, iter1, ifs1, 0⟩] scope pos) (some (.Name y py)) spos.line X.env = pure true := by rfl) (hs : ∀ x, foldedSetIterable iter X.env x = pure x := by intro _; rfl) (hs1 : ∀ env x, foldedSetIterable iter1 env x = pure x := by intro _ _; rfl) :
    PS X (.Assign [.Name y py] (.ListComp elt [⟨tg, iter, ifs, 0⟩, ⟨tg1, iter1, ifs1, 0⟩] scope pos) spos) (tStm G X.K E κ rm (sSet i (eComp2 (own.map (·.2)) wi tgt cond wi1 own1 tgt1 cond1 te))) :=
  ps_weak (ps_setLc2 hc hN hy hyl hsw hi ok hv hg ht hi1 hg1 ht1 he hs hs1) fun D σ H q => w_setX b k hi0 (fun _ _ _ h => w_lc2 hw hl hw1 hl1 h) q
theorem s_setDc (i : Nat) (b : Bool) {y : Str} {py spos : Pos} {kx vx : Expr} {ifs : List Expr} {scope : Scope} {own : List (Str × Nat)} {ws : List Nat} {wi : LE → Res (List PV)} {tgt : PV → LE → Res LE} {cond : LE → Res Bool} {ek ev : LE → Res PV} (hc : X.calm = true) (hN : X.N.Nodup)
    (hi : PI X tg iter (tI G X.K false E κ wi)) (ok : BlkOk X.N X.env.scope scope own)
    (hg : ∀ (s : Shared) (H : Hp) (C : Addr) (cl : List (Str × Addr)) (fp : List Addr), PG (X.blk s H scope (compEnvC scope cl C X.env) fp) tg (tG G X.K ws EN κ tgt))
    (ht : ∀ (s : Shared) (H : Hp) (C : Addr) (cl : List (Str × Addr)) (fp : List Addr), PTs (X.blk s H scope (compEnvC scope cl C X.env) fp) ifs (tT G X.K EN κ cond))
    (hk : ∀ (s : Shared) (H : Hp) (C : Addr) (cl : List (Str × Addr)) (fp : List Addr), PE (X.blk s H scope (compEnvC scope cl C X.env) fp) kx (tE G X.K .sh EN κ ek))
    (he : ∀ (s : Shared) (H : Hp) (C : Addr) (cl : List (Str × Addr)) (fp : List Addr), PE (X.blk s H scope (compEnvC scope cl C X.env) fp) vx (tE G X.K .sh EN κ ev))
    (hw : ∀ j ∈ ws, j ∈ own.map (·.2)) (hl : GOk κ ws tgt) (k : κ i = b := by rfl) (hi0 : b = true → i ≠ 0 := by decide) (hy : X.N[i]? = some y := by rfl) (hyl : X.env.scope.names.lookup y = some .local := by rfl)
    (hsw : swapsWith (.DictComp kx vx [⟨tg, iter, ifs, 0⟩] scope pos) (some (.Name y py)) spos.line X.env = pure true := by rfl) (hs : ∀ x, foldedSetIterable iter X.env x = pure x := by intro _; rfl) :
    PS X (.Assign [.Name y py] (.DictComp kx vx [⟨tg, iter, ifs, 0⟩] scope pos) spos) (tStm G X.K E κ rm (sSet i (eDComp (own.map (·.2)) wi tgt cond ek ev))) :=
  ps_weak (ps_setDc hc hN hy hyl hsw hi ok hg ht hk he hs) fun D σ H q => w_setX b k hi0 (fun _ _ _ h => w_dc hw hl h) q
end
end Lp
end
section
set_option Elab.async false
set_option linter.all false
set_option maxRecDepth 100000
namespace Lp
open PySem PySem.Spec
theorem clsIn_exc {K : PySem.W.Frag} {nm q : Str} {C N : Addr} {bs bm : List Value} {hd : Bool} {sn : List Str} {sb : List Value} {ab : Bool} {col : Option Bool} {dd : Option Addr} {k0 k1 k2 k3 k5 : Option Value} {nid : String}
    (h : K.lookup C = some (excClassObj nm q C N bs bm hd sn sb ab col dd k0 k1 k2 k3 k5 nid)) : ∃ cd, PySem.W.clsIn K C = some cd ∧ cd.mro = .ref C :: bm := by
  unfold PySem.W.clsIn
  rw [h]
  exact ⟨_, rfl, rfl⟩
theorem sup_of {K : PySem.W.Frag} {name : Str} {r : Option Value} {nm q nm0 q0 : Str} {C N C0 N0 : Addr} {bs bs0 bm0 : List Value} {hd hd0 : Bool} {sn sn0 : List Str} {sb sb0 : List Value} {ab ab0 : Bool} {col col0 : Option Bool} {dd dd0 : Option Addr} {k0 k1 k2 k3 k5 j0 j1 j2 j3 j5 : Option Value} {nid nid0 : String}
    (h : K.lookup C = some (excClassObj nm q C N bs (.ref C0 :: bm0) hd sn sb ab col dd k0 k1 k2 k3 k5 nid)) (h0 : K.lookup C0 = some (excClassObj nm0 q0 C0 N0 bs0 bm0 hd0 sn0 sb0 ab0 col0 dd0 j0 j1 j2 j3 j5 nid0))
    (hf : PySem.W.findIn K (.ref C0) name = some r) : PySem.W.ks_superIn K C C name = some r := by
  obtain ⟨cd, hc, hm⟩ := clsIn_exc h
  unfold PySem.W.ks_superIn
  rw [hc, Option.bind_some, hm]
  have e : ((Value.ref C :: (.ref C0 :: bm0)).dropWhile (· != .ref C)).drop 1 = .ref C0 :: bm0 := by simp [List.dropWhile_cons]
  rw [e, ← hf]
  unfold PySem.W.findIn
  dsimp only
  rw [h0]
theorem kit_ref {K : PySem.W.Frag} {t : Value} {C : Addr} {b : Bool} (hd : PySem.W.hasDictIn K C = true) (ht : PySem.W.typeIn K (.ref C) = some (.type "type")) (h4 : PySem.W.subIn K t (.ref C) = some b) (hb : t = .ref C → b = true) : PySem.W.kitOne K t (.ref C) = some b := by
  obtain ⟨cd, hc, _⟩ := PySem.W.any_some hd
  unfold PySem.W.kitOne
  by_cases e : t = .ref C
  · rw [if_pos (by rw [e]; exact beq_self_eq_true _), hb e]
  · rw [if_neg (by simpa using e)]
    show (if ((PySem.W.clsIn K C).isSome && PySem.W.typeIn K (.ref C) == some (.type "type")) = true then PySem.W.subIn K t (.ref C) else none) = some b
    rw [if_pos (by rw [hc, ht]; rfl)]
    exact h4
theorem kit_typ {K : PySem.W.Frag} {C : Addr} {T : String} {b : Bool} (hm : PySem.W.kitMeta T = true) (h4 : PySem.W.subIn K (.ref C) (.type T) = some b) : PySem.W.kitOne K (.ref C) (.type T) = some b := by
  unfold PySem.W.kitOne
  rw [if_neg (by simp)]
  show (if PySem.W.kitMeta T = true then PySem.W.subIn K (.ref C) (.type T) else none) = some b
  rw [if_pos hm]
  exact h4
theorem exm_typ {K : PySem.W.Frag} {C : Addr} {T : String} {b : Bool} (h1 : PySem.W.subIn K (.type T) (.type "BaseException") = some true) (hm : PySem.W.kitMeta T = true) (h4 : PySem.W.subIn K (.ref C) (.type T) = some b) : PySem.W.exmOne K (.ref C) (.type T) = some b := by
  unfold PySem.W.exmOne
  rw [if_pos (by rw [h1]; rfl)]
  show (if PySem.W.kitMeta T = true then PySem.W.subIn K (.ref C) (.type T) else none) = some b
  rw [if_pos hm]
  exact h4
end Lp
end
section
set_option Elab.async false
set_option linter.all false
set_option maxRecDepth 100000
namespace Lp
open PySem PySem.Spec L2

/-! ### a list of lists that are changed in place -/
section
variable (G : GW) (K : PySem.W.Frag)
def Rw1 (F H : Hp) (a : Addr) (r : List PV) : Prop := F a = none ∧ ∃ vs, H a = some (.lst vs) ∧ Reps G K F vs r
inductive Rws (F H : Hp) : List Addr → List (List PV) → Prop
  | nil : Rws F H [] []
  | cons {a : Addr} {as : List Addr} {r : List PV} {rs : List (List PV)} : Rw1 G K F H a r → Rws F H as rs → Rws F H (a :: as) (r :: rs)
/-- the rows at as, in the list at D; H0: what stood before -/
structure Rl (H0 F H : Hp) (D : Addr) (as : List Addr) (rs : List (List PV)) : Prop where
  at_ : H D = some (.lst (as.map V.ref))
  nF : F D = none
  n0 : H0 D = none
  nd : as.Nodup
  out : D ∉ as
  new : ∀ a ∈ as, H0 a = none
  rows : Rws G K F H as rs
end
section
variable {G : GW} {K : PySem.W.Frag} {F H F' H' H0 : Hp} {D a : Addr} {as : List Addr} {r r' : List PV} {rs : List (List PV)} {vs : List V}
theorem Rw1.ext (h : Rw1 G K F H a r) (e : Ext F H F' H') : Rw1 G K F' H' a r := by
  obtain ⟨h1, vs, h2, h3⟩ := h
  exact ⟨e.apart h1 h2, vs, e.h _ _ h2, Reps.mono e.f h3⟩
theorem Rws.ext (e : Ext F H F' H') : ∀ {as rs}, Rws G K F H as rs → Rws G K F' H' as rs
  | _, _, .nil => .nil
  | _, _, .cons h hs => .cons (h.ext e) (Rws.ext e hs)
theorem Rl.ext (h : Rl G K H0 F H D as rs) (e : Ext F H F' H') : Rl G K H0 F' H' D as rs :=
  ⟨e.h _ _ h.at_, e.apart h.nF h.at_, h.n0, h.nd, h.out, h.new, h.rows.ext e⟩
theorem Rws.len : ∀ {as : List Addr} {rs : List (List PV)}, Rws G K F H as rs → as.length = rs.length
  | _, _, .nil => rfl
  | _, _, .cons _ hs => congrArg (· + 1) (Rws.len hs)
theorem Rws.get : ∀ {as : List Addr} {rs : List (List PV)} {i : Nat}, Rws G K F H as rs → rs[i]? = some r → ∃ a, as[i]? = some a ∧ Rw1 G K F H a r
  | _, _, _, .nil, e => by simp at e
  | _, _, 0, .cons h _, e => by simp at e; subst e; exact ⟨_, rfl, h⟩
  | _, _, i + 1, .cons _ hs, e => by
    obtain ⟨a, e1, h⟩ := Rws.get (i := i) hs (by simpa using e)
    exact ⟨a, by simpa using e1, h⟩
theorem Rws.keep : ∀ {as : List Addr} {rs : List (List PV)}, (∀ a ∈ as, H' a = H a) → Rws G K F H as rs → Rws G K F H' as rs
  | _, _, _, .nil => .nil
  | _, _, k, .cons h hs => .cons (by obtain ⟨h1, vs, h2, h3⟩ := h; exact ⟨h1, vs, (k _ List.mem_cons_self).trans h2, h3⟩) (Rws.keep (fun a ha => k a (List.mem_cons_of_mem _ ha)) hs)
theorem Rws.snoc (h1 : Rw1 G K F H a r) : ∀ {as : List Addr} {rs : List (List PV)}, Rws G K F H as rs → Rws G K F H (as ++ [a]) (rs ++ [r])
  | _, _, .nil => .cons h1 .nil
  | _, _, .cons h hs => .cons h (Rws.snoc h1 hs)
theorem Rws.write (hr : Reps G K F vs r') (hw : Rws G K F H as rs) : ∀ {i : Nat}, as.Nodup → as[i]? = some a → Rws G K F (upd H a (.lst vs)) as (rs.set i r') := by
  induction hw with
  | nil => intro i _ e; simp at e
  | @cons b as r rs h hs ih =>
    intro i nd e
    obtain ⟨n1, n2⟩ := List.nodup_cons.mp nd
    cases i with
    | zero =>
      simp at e; subst e
      exact .cons ⟨h.1, vs, upd_same, hr⟩ (hs.keep fun c hc => upd_ne fun z => n1 (by rw [← z]; exact hc))
    | succ i =>
      simp only [List.getElem?_cons_succ] at e
      have hne : b ≠ a := fun z => n1 (by rw [z]; exact List.mem_of_getElem? e)
      obtain ⟨h1, ws, h2, h3⟩ := h
      exact .cons ⟨h1, ws, by rw [upd_ne hne]; exact h2, h3⟩ (ih n2 e)
/-- a row is written -/
theorem Rl.write {i : Nat} (h : Rl G K H0 F H D as rs) (ha : as[i]? = some a) (hr : Reps G K F vs r') : Rl G K H0 F (upd H a (.lst vs)) D as (rs.set i r') :=
  ⟨by rw [upd_ne (a := a) (b := D) fun z => h.out (by rw [z]; exact List.mem_of_getElem? ha)]; exact h.at_, h.nF, h.n0, h.nd, h.out, h.new, h.rows.write hr h.nd ha⟩
/-- a row more -/
theorem Rl.snoc (h : Rl G K H0 F H D as rs) (sF : Same F H) (s0 : Same H0 H) (ha : H a = none) (hr : Reps G K F vs r) : Rl G K H0 F (upd (upd H a (.lst vs)) D (.lst ((as ++ [a]).map V.ref))) D (as ++ [a]) (rs ++ [r]) := by
  have hna : a ∉ as := fun z => by
    have : ∀ {as : List Addr} {rs : List (List PV)}, Rws G K F H as rs → a ∈ as → False := by
      intro as rs hw
      induction hw with
      | nil => intro h; cases h
      | cons h _ ih =>
        intro hm
        rcases List.mem_cons.mp hm with rfl | hm
        · obtain ⟨_, vs, h2, _⟩ := h; rw [ha] at h2; cases h2
        · exact ih hm
    exact this h.rows z
  have hD : D ≠ a := fun z => by rw [← z, h.at_] at ha; cases ha
  refine ⟨upd_same, h.nF, h.n0, List.nodup_append.mpr ⟨h.nd, by simp, fun x hx y hy => by rw [List.mem_singleton.mp hy]; exact fun z => hna (z ▸ hx)⟩, fun z => ?_, fun b hb => ?_, ?_⟩
  · rcases List.mem_append.mp z with z | z
    · exact h.out z
    · exact hD (List.mem_singleton.mp z)
  · rcases List.mem_append.mp hb with z | z
    · exact h.new b z
    · rw [List.mem_singleton.mp z]; exact Same.free s0 ha
  · refine Rws.snoc ⟨Same.free sF ha, vs, by rw [upd_ne (Ne.symm hD), upd_same], hr⟩ (h.rows.keep fun b hb => ?_)
    rw [upd_ne fun z => h.out (by rw [← z]; exact hb), upd_ne fun z => hna (by rw [← z]; exact hb)]
/-- an object of another slot is written -/
theorem Rl.keep (h : Rl G K H0 F H D as rs) (hD : H' D = H D) (k : ∀ a ∈ as, H' a = H a) : Rl G K H0 F H' D as rs := ⟨hD.trans h.at_, h.nF, h.n0, h.nd, h.out, h.new, h.rows.keep k⟩
/-! ### [[e, ..] for x in it] -/
def rowL (tgt : PV → LE → Res LE) (fr : LE → Res (List PV)) (τ : LE) : List PV → Res (List (List PV))
  | [] => .ok []
  | p :: ps => (tgt p τ).nx >>= fun τ1 => (fr τ1).nx >>= fun r => rowL tgt fr τ ps >>= fun rs => .ok (r :: rs)
theorem rowL_len {tgt : PV → LE → Res LE} {fr : LE → Res (List PV)} {τ : LE} : ∀ {ps : List PV} {rs : List (List PV)}, rowL tgt fr τ ps = .ok rs → rs.length = ps.length
  | [], rs, h => by rw [rowL] at h; cases h; rfl
  | p :: ps, rs, h => by
    rw [rowL] at h
    obtain ⟨τ1, _, h⟩ := Res.bind_ok h
    obtain ⟨r, _, h⟩ := Res.bind_ok h
    obtain ⟨rs', h1, h⟩ := Res.bind_ok h
    cases h
    simp [rowL_len h1]
structure GrR (G : GW) (K : PySem.W.Frag) (F1 H1 : Hp) (D : Addr) (done : List (List PV)) (F H : Hp) : Prop where
  ext : Ext F1 H1 F H
  rl : ∃ as, Rl G K H1 F H D as done
theorem GrR.ext2 {F1 H1 F2 H2 : Hp} {done : List (List PV)} (g : GrR G K F1 H1 D done F H) (e : Ext F H F2 H2) : GrR G K F1 H1 D done F2 H2 := ⟨g.ext.trans e, let ⟨as, h⟩ := g.rl; ⟨as, h.ext e⟩⟩
theorem GrR.push {F1 H1 : Hp} {done : List (List PV)} (g : GrR G K F1 H1 D done F H) (ha : H a = none) (hr : Reps G K F vs r) : ∃ acc, (upd H a (.lst vs)) D = some (.lst acc) ∧ acc.length = done.length ∧ GrR G K F1 H1 D (done ++ [r]) F (upd (upd H a (.lst vs)) D (.lst (acc ++ [.ref a]))) := by
  obtain ⟨as, h⟩ := g.rl
  have hD : D ≠ a := fun z => by rw [← z, h.at_] at ha; cases ha
  refine ⟨as.map V.ref, by rw [upd_ne hD]; exact h.at_, by rw [List.length_map, h.rows.len], ?_, as ++ [a], ?_⟩
  · exact ⟨g.ext.f, same_updR (same_updR g.ext.h (Same.free g.ext.h ha)) h.n0, same_updR (same_updR g.ext.sub (Same.free g.ext.sub ha)) h.nF, g.ext.new⟩
  · have := h.snoc g.ext.sub g.ext.h ha hr
    rw [List.map_append] at this
    exact this
variable {κ : Kd} {E : St → XK} {σ : St} {τ : LE}
theorem w_rowsLc {own ws : List Nat} {wi : LE → Res (List PV)} {tgt : PV → LE → Res LE} {fr : LE → Res (List PV)} {ps : List PV} {rs : List (List PV)} {Q : VK} (hw : ∀ j ∈ ws, j ∈ own) (hl : GOk κ ws tgt) (l : Lc G K κ F H σ τ) (hwi : wi τ = .ok ps)
    (hc : rowL tgt fr (wipeL τ own) ps = .ok rs) (hrl : ∀ r ∈ rs, r.length ≤ 1000) (q : ∀ F' H' D as, Ext F H F' H' → Rl G K H F' H' D as rs → Q (.ref D) H') :
    tLc (tI G K false E κ wi) (tG G K ws EN κ tgt) (tT G K EN κ tYesM) (tLst (tA G K .sh EN κ fr)) own σ H Q := by
  refine ⟨F, τ, l, ?_⟩
  rw [hwi]
  intro J F1 H1 e1 i1 D hD
  simp only [Bool.false_eq_true, if_false] at i1
  refine ⟨fun i m H => m = ps.length - i ∧ i ≤ ps.length ∧ ∃ F done rest, GrR G K F1 H1 D done F H ∧ rowL tgt fr (wipeL τ own) (ps.drop i) = .ok rest ∧ rs = done ++ rest, ⟨ps.length, by simp, Nat.zero_le _, F1, [], rs, ?_, by simpa using hc, by simp⟩, ?_⟩
  · exact ⟨⟨Same.refl _, same_new hD, same_updR e1.sub (Same.free e1.sub hD), fun a h1 h2 => absurd h1 h2⟩, [], upd_same, Same.free e1.sub hD, hD, .nil, by simp, by simp, .nil⟩
  · rintro i m H2 ⟨rfl, hi, F2, done, rest, g, hcr, hrs⟩
    by_cases hlt : i < ps.length
    · refine .inr ⟨i1.go i H2 g.ext.h hlt, fun H => ∃ F done rest, GrR G K F1 H1 D done F H ∧ rowL tgt fr (wipeL τ own) (ps.drop (i + 1)) = .ok rest ∧ rs = done ++ rest, fun H' ⟨F', d', r', n1, n2, n3⟩ => ⟨ps.length - (i + 1), by omega, rfl, hlt, F', d', r', n1, n2, n3⟩, fun x H3 hy => ?_⟩
      have hp : ps[i]? = some ps[i] := List.getElem?_eq_getElem hlt
      obtain ⟨F3, e3, r3⟩ := i1.yld i x H2 H3 F2 _ g.ext.h g.ext.f g.ext.sub hy hp
      have g3 := g.ext2 e3
      have l3 : Lc G K κ F3 H3 (wipe σ own) (wipeL τ own) := ((l.ext e1).ext g3.ext).wipe own
      rw [List.drop_eq_getElem_cons hlt, rowL] at hcr
      obtain ⟨τ1, ht, hcr⟩ := Res.bind_ok hcr
      obtain ⟨r0, hr0, hcr⟩ := Res.bind_ok hcr
      obtain ⟨rs', hrs', hcr⟩ := Res.bind_ok hcr
      cases hcr
      have ht := Res.nx_inv ht
      have hr0 := Res.nx_inv hr0
      refine ⟨F3, wipeL τ own, ps[i], l3, r3, ?_⟩
      rw [ht]
      intro σ' l4 k4
      refine ⟨?_, ?_⟩
      · have e := wipe_same (σ := wipe σ own) hw (Lc.len2 l3 l4 (hl.len _ _ _ ht)) k4
        rw [e, wipe_wipe]
      · refine ⟨F3, τ1, l4, ?_⟩
        show ∀ F' H', Ext F3 H3 F' H' → _
        intro F4 H4 e4
        rw [if_pos rfl]
        have g4 := g3.ext2 e4
        refine ⟨F4, τ1, l4.ext e4, ?_⟩
        rw [hr0]
        intro vs F5 H5 e5 r5
        have g5 := g4.ext2 e5
        have r5' := r5.shared
        have hmem : r0 ∈ rs := by rw [hrs]; simp
        refine ⟨by rw [r5'.length, sizeLine_eq]; have := hrl _ hmem; omega, fun p np => ?_⟩
        obtain ⟨acc, h1, h2, h3⟩ := g5.push np r5'
        refine ⟨acc, h1, ?_, F5, done ++ [r0], rs', h3, hrs', by rw [hrs]; simp⟩
        rw [h2]
        have := rowL_len hc
        have h4 := congrArg List.length hrs
        have := i1.len
        simp at h4
        omega
    · have e : i = ps.length := by omega
      subst e
      rw [List.drop_length, rowL] at hcr
      cases hcr
      obtain ⟨as, rl⟩ := g.rl
      refine .inl ⟨i1.stop H2 g.ext.h, q F2 H2 D as (e1.trans g.ext) ?_⟩
      rw [hrs, List.append_nil]
      exact ⟨rl.at_, rl.nF, Same.free e1.h rl.n0, rl.nd, rl.out, fun a ha => Same.free e1.h (rl.new a ha), rl.rows⟩
/-! ### [tuple(x) for x in rows] -/
abbrev rTupOf (K : PySem.W.Frag) : List V → Hp → VK → Prop := fun xs H Q => ∃ p ys, xs = [.ref p] ∧ ((SqL K H p ys ∧ ∀ l o, H l = none → KO o → Q (.ref l) (upd H l (.frz o (.tup ys)))) ∨ (SqT K H p ys ∧ Q (.ref p) H))
theorem w_tupRows {i j : Nat} {own : List Nat} {Q : VK} {H0 : Hp} (rl : Rl G K H0 F H D as rs) (sF : Same F H) (hσ : σ[i]? = some (some (.ref D))) (hjo : j ∈ own) (hj : j < σ.length) (hl : rs.length ≤ 1000000)
    (q : ∀ F' H' D2 vs, Ext F H F' H' → H D2 = none → F' D2 = none → H' D2 = some (.lst vs) → Reps G K F' vs (rs.map .tup) → Q (.ref D2) H') :
    tLc (iAny K (tVar i)) (gName j) tYes (tCB (rTupOf K) (tCons (tVar j) tNil)) own σ H Q := by
  refine ⟨.ref D, hσ, .inl ⟨D, as.map V.ref, rfl, .inl (.inl rl.at_), fun _ D2 hD2 => ?_⟩⟩
  have hlen := rl.rows.len
  refine ⟨fun k m H' => m = rs.length - k ∧ k ≤ rs.length ∧ ∃ F2 vs, Ext F H F2 H' ∧ F2 D2 = none ∧ H' D2 = some (.lst vs) ∧ Reps G K F2 vs ((rs.take k).map .tup),
    ⟨rs.length, by simp, Nat.zero_le _, F, [], ⟨Same.refl _, same_new hD2, same_updR sF (Same.free sF hD2), fun a h1 h2 => absurd h1 h2⟩, Same.free sF hD2, upd_same, by simpa using Reps.nil⟩, ?_⟩
  rintro k m H2 ⟨rfl, hk, F2, vs, e2, hF2, hH2, r2⟩
  have rl2 := rl.ext e2
  by_cases hlt : k < rs.length
  · have hr : rs[k]? = some rs[k] := List.getElem?_eq_getElem hlt
    obtain ⟨a, ha, hnF, ws, hw, rw'⟩ := rl2.rows.get hr
    refine .inr ⟨⟨as.map V.ref, .ref a, .inl (.inl rl2.at_), by rw [List.getElem?_map, ha]; rfl⟩, fun H' => ∃ F3 vs, Ext F H F3 H' ∧ F3 D2 = none ∧ H' D2 = some (.lst vs) ∧ Reps G K F3 vs ((rs.take (k + 1)).map .tup),
      fun H' ⟨F3, vs, n1, n2, n3, n4⟩ => ⟨rs.length - (k + 1), by omega, rfl, hlt, F3, vs, n1, n2, n3, n4⟩, fun x H3 hy => ?_⟩
    obtain ⟨rfl, hx⟩ := hy
    have hx := hx _ (.inl (.inl rl2.at_))
    rw [List.getElem?_map, ha] at hx
    cases hx
    refine ⟨?_, ?_⟩
    · refine List.ext_getElem? fun x => ?_
      by_cases hx : x ∈ own
      · rw [wipe_mem hx, wipe_mem hx, List.length_set, wipe_length]
      · rw [wipe_out hx, wipe_out hx, List.getElem?_set_ne fun z => hx (by rw [← z]; exact hjo), wipe_out hx]
    · unfold tYes; dsimp only
      rw [if_pos rfl]
      refine ⟨.ref a, by rw [List.getElem?_set_self (by rw [wipe_length]; exact hj)], ⟨a, ws, rfl, .inl ⟨.inl (.inl hw), fun p o np ko => ?_⟩⟩⟩
      have hp2 : D2 ≠ p := fun z => by rw [← z, hH2] at np; cases np
      refine ⟨vs, by rw [upd_ne hp2]; exact hH2, by rw [r2.length, sizeLine_eq]; simp; omega, upd F2 p (.frz o (.tup ws)), vs ++ [.ref p], ?_, by rw [upd_ne hp2]; exact hF2, upd_same, ?_⟩
      · have e3 := e2.push (.frz o (.tup ws)) np
        exact ⟨e3.f, same_updR e3.h hD2, same_updR e3.sub (by rw [upd_ne hp2]; exact hF2), e3.new⟩
      · have s3 := same_new (o := .frz o (.tup ws)) (Same.free e2.sub np)
        have e : (rs.take (k + 1)).map PV.tup = (rs.take k).map PV.tup ++ [.tup rs[k]] := by rw [← List.take_append_getElem hlt, List.map_append]; rfl
        rw [e]
        exact Reps.snoc (Reps.mono s3 r2) (.tup (.inl ⟨o, upd_same, ko⟩) (Reps.mono s3 rw'))
  · have e : k = rs.length := by omega
    subst e
    rw [List.take_length] at r2
    exact .inl ⟨⟨as.map V.ref, .inl (.inl rl2.at_), by rw [List.length_map, hlen]; exact Nat.le_refl _⟩, q F2 H2 D2 vs e2 hD2 hF2 hH2 r2⟩
end
end Lp
end
section
set_option Elab.async false
set_option linter.all false
set_option maxRecDepth 100000
namespace Lp
open PySem PySem.Spec L2
/-! an owned slot is shared from a statement on; behind the block it is empty -/
def κd (κ : Kd) (j : Nat) : Kd := fun i => κ i && !(i == j)
def sLet (j : Nat) (m : LE → Fl) : LE → Fl := fun τ => match m τ with
  | .nx τ' => .nx (τ'.set j none)
  | .bk τ' => .bk (τ'.set j none)
  | .ct τ' => .ct (τ'.set j none)
  | .ex c fs τ' => .ex c fs (τ'.set j none)
  | .rt p => .rt p
  | .bad => .bad
section
variable {G : GW} {K : PySem.W.Frag} {F H F' H' F0 H0 : Hp} {X : Cx} {κ : Kd} {E : St → XK} {rm : Mode} {zs : Option Addr} {σ : St} {τ : LE} {st : Stmt} {sts : List Stmt} {m : LE → Fl} {j : Nat}
theorem κd_ne {i : Nat} (h : i ≠ j) : κd κ j i = κ i := by
  unfold κd
  have : (i == j) = false := by simpa using h
  rw [this]; simp
theorem κd_self : κd κ j j = false := by unfold κd; simp
theorem κd_le {i : Nat} (h : κd κ j i = true) : κ i = true ∧ i ≠ j := by
  unfold κd at h
  simp only [Bool.and_eq_true, Bool.not_eq_true', beq_eq_false_iff_ne, ne_eq] at h
  exact h
theorem set_none_some {i : Nat} {p : PV} (h : (τ.set j none)[i]? = some (some p)) : i ≠ j ∧ τ[i]? = some (some p) := by
  by_cases hj : j = i
  · subst hj
    rw [List.getElem?_set] at h
    simp only [if_true] at h
    split at h <;> cases h
  · rw [List.getElem?_set_ne hj] at h
    exact ⟨fun e => hj e.symm, h⟩
theorem Ls.undo (l : Ls G K (κd κ j) zs F0 H0 F H σ τ) : Ls G K κ zs F0 H0 F H σ (τ.set j none) := by
  refine ⟨⟨l.lc.sub, by rw [List.length_set]; exact l.lc.len, fun i p h k => ?_, fun i p h k => ?_, fun i i2 p q a k1 k2 h1 h2 h3 h4 => ?_⟩, l.ext, fun i p a k h1 h2 => ?_, fun a ha => ?_⟩
  · obtain ⟨hi, h⟩ := set_none_some h
    exact l.lc.sh i p h (by rw [κd_ne hi]; exact k)
  · obtain ⟨hi, h⟩ := set_none_some h
    exact l.lc.ow i p h (by rw [κd_ne hi]; exact k)
  · obtain ⟨hi, h1⟩ := set_none_some h1
    obtain ⟨hi2, h2⟩ := set_none_some h2
    exact l.lc.ap i i2 p q a (by rw [κd_ne hi]; exact k1) (by rw [κd_ne hi2]; exact k2) h1 h2 h3 h4
  · obtain ⟨hi, h1⟩ := set_none_some h1
    exact l.new i p a (by rw [κd_ne hi]; exact k) h1 h2
  · obtain ⟨h1, h2⟩ := l.me a ha
    exact ⟨(κd_le h1).1, h2⟩
open Classical in
theorem Ls.share (l : Ls G K κ zs F0 H0 F H σ τ) (hj : 0 < j) (k : κ j = true) : ∃ F2, Ls G K (κd κ j) zs F0 H0 F2 H σ τ := by
  have me : ∀ a, zs = some a → κd κ j 0 = true ∧ σ[0]? = some (some (.ref a)) := fun a ha => by
    obtain ⟨h1, h2⟩ := l.me a ha
    exact ⟨by rw [κd_ne (by omega)]; exact h1, h2⟩
  by_cases ht : ∃ p, τ[j]? = some (some p)
  · obtain ⟨p, hp⟩ := ht
    obtain ⟨a, ha, hF, o⟩ := l.lc.ow j p hp k
    let F2 : Hp := fun b => if b = a then H a else F b
    have hs : Same F F2 := fun b u h => by
      by_cases hb : b = a
      · rw [hb, hF] at h; cases h
      · simpa only [F2, if_neg hb] using h
    have hsub : Same F2 H := fun b u h => by
      by_cases hb : b = a
      · simp only [F2, if_pos hb] at h
        rw [hb]; exact h
      · simp only [F2, if_neg hb] at h
        exact l.lc.sub _ _ h
    have ha2 : F2 a = H a := if_pos rfl
    have ne2 : ∀ b, b ≠ a → F b = none → F2 b = none := fun b hb h => by simp only [F2, if_neg hb]; exact h
    have rp : Rep G K F2 (.ref a) p := by
      cases p <;> first | exact o.elim | skip
      · obtain ⟨vs, q, r⟩ := o; exact .lst (.inl (ha2.trans q)) (Reps.mono hs r)
      · obtain ⟨vs, q, r⟩ := o; exact .dK (ha2.trans q) (RepK.mono hs r)
      · obtain ⟨dx, vs, q, r⟩ := o; exact .ins (ha2.trans q) (RepF.mono hs r)
      · obtain ⟨vs, q, r⟩ := o; exact .dN (ha2.trans q) (RepN.mono hs r)
    refine ⟨F2, ⟨hsub, l.lc.len, fun i q h ki => ?_, fun i q h ki => ?_, fun i i2 q q2 b k1 k2 h1 h2 h3 h4 => l.lc.ap i i2 q q2 b (κd_le k1).1 (κd_le k2).1 h1 h2 h3 h4⟩, ⟨l.ext.f.trans hs, l.ext.h, hsub, fun b h1 h2 => ?_⟩, fun i q b ki h1 h2 => l.new i q b (κd_le ki).1 h1 h2, me⟩
    · by_cases hi : i = j
      · subst hi
        rw [hp] at h
        cases h
        exact ⟨_, ha, rp⟩
      · obtain ⟨v, e, r⟩ := l.lc.sh i q h (by rw [← κd_ne (κ := κ) hi]; exact ki)
        exact ⟨v, e, Rep.mono hs r⟩
    · obtain ⟨k1, hi⟩ := κd_le ki
      obtain ⟨b, e, hFb, o2⟩ := l.lc.ow i q h k1
      have hb : b ≠ a := fun e2 => hi (l.lc.ap i j q p a k1 k h hp (e2 ▸ e) ha)
      exact ⟨b, e, ne2 b hb hFb, o2.mono hs rfl⟩
    · by_cases hb : b = a
      · rw [hb]; exact l.new j p a k hp ha
      · simp only [F2, if_neg hb] at h2
        exact l.ext.new b h1 h2
  · refine ⟨F, ⟨l.lc.sub, l.lc.len, fun i q h ki => ?_, fun i q h ki => l.lc.ow i q h (κd_le ki).1, fun i i2 q q2 b k1 k2 h1 h2 h3 h4 => l.lc.ap i i2 q q2 b (κd_le k1).1 (κd_le k2).1 h1 h2 h3 h4⟩, l.ext, fun i q b ki h1 h2 => l.new i q b (κd_le ki).1 h1 h2, me⟩
    by_cases hi : i = j
    · subst hi; exact absurd ⟨q, h⟩ ht
    · exact l.lc.sh i q h (by rw [← κd_ne (κ := κ) hi]; exact ki)
theorem ss_free (j : Nat) (h : PSs X sts (tStm G K E (κd κ j) rm m)) (k : κ j = true := by rfl) (hj : 0 < j := by decide) : PSs X sts (tStm G K E κ rm (sLet j m)) := pss_weak h fun D σ H ⟨F0, H0, F, τ, zs, l, q⟩ => by
  obtain ⟨F2, l2⟩ := l.share hj k
  refine ⟨F0, H0, F2, τ, zs, l2, ?_⟩
  unfold sLet at q
  cases hm : m τ with
  | nx τ' => rw [hm] at q; exact fun σ' F' H' l' => q σ' F' H' l'.undo
  | bk τ' => rw [hm] at q; exact fun σ' F' H' l' => q σ' F' H' l'.undo
  | ct τ' => rw [hm] at q; exact fun σ' F' H' l' => q σ' F' H' l'.undo
  | rt p => rw [hm] at q; exact q
  | ex c ps τ' => rw [hm] at q; exact fun σ' F' H' d fs l' => q σ' F' H' d fs l'.undo
  | bad => rw [hm] at q; exact q
end
end Lp
end
section
set_option Elab.async false
set_option linter.all false
set_option maxRecDepth 100000
namespace Lp
open PySem PySem.Spec L2
/-! the truth of any value -/
def tru : PV → Option Bool
  | .non => some false
  | .bl b => some b
  | .int i => some (i != 0)
  | .str y => if y.length ≤ sizeLine then some ((y.length : Int) != 0) else none
  | .tup xs => some !xs.isEmpty
  | .lst xs => some !xs.isEmpty
  | .dK xs => some !xs.isEmpty
  | _ => none
def tstV (f : LE → Res PV) : LE → Res Bool := fun τ => f τ >>= fun p => up (tru p)
def pIsB : PV → PV → Option PV
  | .bl a, .bl b => some (.bl (decide (a = b)))
  | _, _ => none
def pNotB : PV → PV → Option PV
  | .bl a, .bl b => some (.bl (!decide (a = b)))
  | _, _ => none
section
variable {G : GW} {K : PySem.W.Frag} {F H F' H' F0 H0 : Hp} {X : Cx} {κ : Kd} {E : St → XK} {m rm : Mode} {σ : St} {τ : LE} {v : V} {p : PV} {k : Bool} {e : Expr} {f : LE → Res PV} {pos : Pos}
theorem Reps.empty {vs : List V} {ps : List PV} (r : Reps G K H vs ps) : (!vs.isEmpty) = !ps.isEmpty := by cases r <;> rfl
theorem RepK.empty {vs : List (Key × V)} {ps : List (Key × PV)} (r : RepK G K H vs ps) : (!vs.isEmpty) = !ps.isEmpty := by cases r <;> rfl
theorem Rep.tru (s : Same F H) (r : Rep G K F v p) (h : Lp.tru p = some k) : L2.TruV K v H k := by
  cases r with
  | non => cases h; rfl
  | bl b => cases h; rfl
  | int i => cases h; rfl
  | str x =>
    unfold Lp.tru at h
    dsimp only at h
    split at h
    · cases h; exact ⟨by assumption, rfl⟩
    · cases h
  | ty n => cases h
  | exn _ _ => cases h
  | scr _ => cases h
  | tup hq rr => cases h; exact .inr (.inl ⟨_, Same.sqt s hq.sqt, by rw [rr.empty]⟩)
  | lst hq rr => cases h; exact .inl ⟨_, .inl (Same.rd s hq), by rw [rr.empty]⟩
  | dK hq rr => cases h; exact .inr (.inr ⟨_, s _ _ hq, by rw [rr.empty]⟩)
  | ins _ _ => cases h
  | rng _ => cases h
  | itm _ => cases h
  | dN _ => cases h
theorem Top.tru (s : Same F H) (r : Top G K F H v p) (h : Lp.tru p = some k) : L2.TruV K v H k := by
  rcases r with r | ⟨a, rfl, hF, o⟩
  · exact r.tru s h
  · cases p <;> first | exact o.elim | skip
    · obtain ⟨vs, hq, rr⟩ := o; cases h; exact .inl ⟨_, .inl (.inl hq), by rw [rr.empty]⟩
    · obtain ⟨vs, hq, rr⟩ := o; cases h; exact .inr (.inr ⟨_, hq, by rw [rr.empty]⟩)
    · cases h
    · cases h
theorem t_tru (h : PE X e (tE G X.K .top E κ f)) (he : ∀ whole, isTrue e X.env whole = (do let v ← whole; standAt e.pos; holding [v] (truthy v)) := by exact fun _ => rfl) : PT X e (tT G X.K E κ (tstV f)) :=
  pt_weak (pt_truth h he) fun σ H Q ⟨F, τ, l, q⟩ => by
    refine ⟨F, τ, l, ?_⟩
    unfold tstV at q
    cases hf : f τ with
    | exc c ps => rw [hf] at q; exact q
    | bad => rw [hf] at q; exact q
    | ok p =>
      rw [hf, Res.ok_bind] at q
      cases ht : Lp.tru p with
      | none => rw [ht] at q; exact q.elim
      | some b =>
        rw [ht] at q
        exact fun v F1 H1 e1 r1 => ⟨b, Top.tru e1.sub r1 ht, q F1 H1 e1⟩
theorem g_isB : OpV G K (fun x y H Q => ∃ a b, x = .bl a ∧ y = .bl b ∧ Q (.bl (decide (a = b))) H) .sh pIsB := by
  intro F H x y p q z Q s rx ry hz k
  unfold pIsB at hz
  split at hz
  · obtain rfl := rx.bl_inv
    obtain rfl := ry.bl_inv
    cases hz
    exact ⟨_, _, rfl, rfl, k _ F H (Ext.refl s) (.bl _)⟩
  · cases hz
theorem g_notB : OpV G K (fun x y H Q => ∃ a b, x = .bl a ∧ y = .bl b ∧ Q (.bl (!decide (a = b))) H) .sh pNotB := by
  intro F H x y p q z Q s rx ry hz k
  unfold pNotB at hz
  split at hz
  · obtain rfl := rx.bl_inv
    obtain rfl := ry.bl_inv
    cases hz
    exact ⟨_, _, rfl, rfl, k _ F H (Ext.refl s) (.bl _)⟩
  · cases hz
end
end Lp
end
section
set_option Elab.async false
set_option linter.all false
set_option maxRecDepth 100000
/-! a list, a tuple, a text times an int -/
namespace L2
open PySem PySem.Spec PyProof.Rows
section
variable {X : Cx}
def rTimesL : R2 := fun x y H Q => ∃ l k xs, x = .ref l ∧ y = .int k ∧ Rd H l (.lst xs) ∧ (0 ≤ k ∧ k ≤ 1000 ∧ xs.length ≤ 1000) ∧ ∀ p, H p = none → Q (.ref p) (upd H p (.lst (List.replicate k.toNat xs).flatten))
theorem op_timesL : OpR X (binaryOp .Mult) rTimesL := by
  rintro pins s σ H x y v u Q I rx ry ⟨l, k, xs, rfl, rfl, hR, ⟨k0, k1, kx⟩, hq⟩
  cases rx
  obtain ⟨t, rfl⟩ := ry
  obtain ⟨_, ws, m, rv, hw, he⟩ := Lp.Rd.lstM I hR
  have hmul : xs.length * k.toNat ≤ 1000 * 1000 := Nat.mul_le_mul kx (by omega)
  have hmul' : ws.toArray.size * k.toNat ≤ 1000000 := by rw [List.size_toArray, ← hw]; exact hmul
  have a1 : ¬ (!Builtin.List.listFitsIndex k) = true := by
    rw [fitsIndex_both (by omega) (by omega)]; decide
  have a2 : ¬ ws.toArray.size * k.toNat > (2 ^ 63 - 1) / 8 := by
    have h8 : (1000000 : Nat) ≤ (2 ^ 63 - 1) / 8 := by decide
    omega
  have a3 : ¬ Builtin.List.listTooLong (ws.toArray.size * k.toNat) = true := by
    rw [notLongL (by rw [sizeLine_eq]; omega)]; decide
  have fl : ∀ q : Nat, List.foldl (fun x1 x2 => x1 ++ x2) #[] (List.replicate q ws.toArray) = (List.replicate q ws).flatten.toArray := fun q => by
    have := foldl_rep ws q []
    rwa [List.nil_append] at this
  have a4 : List.foldl (fun x1 x2 => x1 ++ x2) #[] (List.replicate (if ws.toArray.isEmpty = true then 0 else k.toNat) ws.toArray) = (List.replicate k.toNat ws).flatten.toArray := by
    rw [fl]
    cases ws with
    | nil => simp
    | cons _ _ => rw [if_neg (by simp)]
  refine wpAny_binaryOp_repeat_ref (T := "list") (U := "int") (by decide) ⟨_, he, rfl⟩ (fun z => typeIs_int z k t) noFill_list_mul F.fills_int_mul F.slot_int_rmul repeat_list F.slot_int_index.lookup
    (call_meets F.slot_int_rmul (typeIs_int s k t) F.entry_int_rmul (F.args_int_rmul_2 _ _) (int___rmul___int_list k t l ws.toArray m)
      ⟨he, rfl, ⟨_, he, rfl⟩, call_meets F.slot_list_mul ⟨_, he, rfl⟩ F.entry_list_mul (F.args_list_mul_2 _ _) (AutoListH.list___mul___list_int_3 l ws.toArray m k t a1 a2 a3) ⟨he, ?_⟩⟩)
  rw [a4]
  exact ⟨.ref _, _, I.lnew (t' := s.toks) (rv.rep k.toNat) (by rw [lm_len_rep_flat, Nat.mul_comm, sizeLine_eq]; omega), rfl, hq _ I.fresh⟩
/-- a text so many times -/
def timesS (z : Str) (k : Int) : Str := ⟨(List.replicate k.toNat z.cps.toList).flatten.toArray⟩
theorem foldl_app {α : Type} (xs : List α) : ∀ (q : Nat) (acc : Array α), List.foldl (fun x1 x2 => x1 ++ x2) acc (List.replicate q xs.toArray) = acc ++ (List.replicate q xs).flatten.toArray
  | 0, acc => by simp
  | q + 1, acc => by
    rw [List.replicate_succ, List.foldl_cons, foldl_app xs q, List.replicate_succ, List.flatten_cons]
    simp
theorem mul_timesS (z : Str) (k : Int) (k0 : 0 ≤ k) : Txt.mul z k = timesS z k := by
  obtain ⟨c⟩ := z
  have hc : c = c.toList.toArray := by simp
  unfold Txt.mul timesS
  by_cases h : k < 1
  · rw [if_pos h]
    obtain rfl : k = 0 := by omega
    rfl
  · rw [if_neg h]
    by_cases h2 : (k == 1 || Str.length ⟨c⟩ == 0) = true
    · rw [if_pos h2]
      simp only [Bool.or_eq_true, beq_iff_eq] at h2
      rcases h2 with rfl | h2
      · simp
      · have : c = #[] := by
          have h2 : c.size = 0 := h2
          exact Array.eq_empty_of_size_eq_zero h2
        subst this
        simp
    · rw [if_neg h2]
      congr 1
      rw [hc, foldl_app c.toList]
      simp
def rTimesS : R2 := fun x y H Q => ∃ z k, x = .str z ∧ y = .int k ∧ (0 ≤ k ∧ k ≤ 1000 ∧ z.length ≤ 1000) ∧ Q (.str (timesS z k)) H
theorem op_timesS : OpR X (binaryOp .Mult) rTimesS := by
  rintro pins s σ H x y v u Q I rx ry ⟨z, k, rfl, rfl, ⟨k0, k1, kz⟩, hq⟩
  obtain ⟨t, rfl⟩ := rx
  obtain ⟨t', rfl⟩ := ry
  have hm : z.length * k.toNat ≤ 1000 * 1000 := Nat.mul_le_mul kz (by omega)
  refine SB.mul ⟨by rw [decide_eq_false (by omega), decide_eq_false (by omega)]; rfl, fun hk _ hgt => ?_, fun _ _ => ?_⟩ fun t2 n2 => ⟨.str (Txt.mul z k), H, I.tok _, ⟨_, rfl⟩, by rw [mul_timesS z k k0]; exact hq⟩
  · have : (1000 : Int) * k ≤ 2 ^ 63 - 1 := by omega
    have := Int.le_ediv_of_mul_le (show (0 : Int) < k by omega) this
    omega
  · unfold Builtin.Str.tooLong
    rw [sizeLine_eq]
    exact decide_eq_false (by omega)
end
end L2
namespace Lp
open PySem PySem.Spec L2
def pTimes : PV → PV → Option PV
  | .str z, .int k => if 0 ≤ k ∧ k ≤ 1000 ∧ z.length ≤ 1000 then some (.str (timesS z k)) else none
  | .lst xs, .int k => if 0 ≤ k ∧ k ≤ 1000 ∧ xs.length ≤ 1000 then some (.lst (List.replicate k.toNat xs).flatten) else none
  | _, _ => none
def pMulA : PV → PV → Option PV := orP pMul pTimes
def rMulA : R2 := fun x y H Q => rI CMul (fun i j => .int (i * j)) x y H Q ∨ (fun x y H Q => rTimesS x y H Q ∨ rTimesL x y H Q) x y H Q
section
variable {G : GW} {K : PySem.W.Frag} {F H : Hp} {X : Cx}
theorem op_mulA : OpR X (binaryOp .Mult) rMulA := op_mul.or (op_timesS.or op_timesL)
theorem Reps.rep {vs : List V} {ps : List PV} (r : Reps G K H vs ps) : ∀ n : Nat, Reps G K H (List.replicate n vs).flatten (List.replicate n ps).flatten
  | 0 => .nil
  | n + 1 => by
    rw [List.replicate_succ, List.replicate_succ, List.flatten_cons, List.flatten_cons]
    exact r.append (Reps.rep r n)
theorem g_times : OpV G K (fun x y H Q => rTimesS x y H Q ∨ rTimesL x y H Q) .sh pTimes := by
  intro F H x y p q z Q s rx ry hz k
  unfold pTimes at hz
  split at hz
  · obtain rfl := rx.str_inv
    obtain rfl := ry.int_inv
    split at hz
    · rename_i hc
      cases hz
      exact .inl ⟨_, _, rfl, rfl, hc, k _ F H (Ext.refl s) (.str _)⟩
    · cases hz
  · rename_i xs j
    obtain ⟨a, vs, rfl, ha, r1⟩ := rx.lst_inv s
    obtain rfl := ry.int_inv
    split at hz
    · rename_i hc
      cases hz
      refine .inr ⟨a, _, vs, rfl, rfl, ha, by rw [r1.length]; exact hc, fun p np => ?_⟩
      refine k _ _ _ (Ext.push (.lst (List.replicate j.toNat vs).flatten) (Ext.refl s) np) (.lst (.inl upd_same) ?_)
      exact Reps.mono (same_new (Same.free s np)) (r1.rep _)
    · cases hz
  · cases hz
theorem g_mulA : OpV G K rMulA .sh pMulA := (g_I (C := CMul) (g := fun i j => i * j)).or g_times
/-- as a new list -/
def pTimesL : PV → PV → Option PV
  | .lst xs, .int k => if 0 ≤ k ∧ k ≤ 1000 ∧ xs.length ≤ 1000 then some (.lst (List.replicate k.toNat xs).flatten) else none
  | _, _ => none
theorem g_timesL : OpV G K rTimesL .fr pTimesL := by
  intro F H x y p q z Q s rx ry hz k
  unfold pTimesL at hz
  split at hz
  · rename_i xs j
    obtain ⟨a, vs, rfl, ha, r1⟩ := rx.lst_inv s
    obtain rfl := ry.int_inv
    split at hz
    · rename_i hc
      cases hz
      refine ⟨a, _, vs, rfl, rfl, ha, by rw [r1.length]; exact hc, fun p np => ?_⟩
      obtain ⟨e, f⟩ := frs_new s np (r1.rep j.toNat)
      exact k _ _ _ e f
    · cases hz
  · cases hz
end
end Lp
end
section
set_option Elab.async false
set_option linter.all false
set_option maxRecDepth 100000
/-! a tuple backwards -/
namespace Lt
open PySem PySem.Spec PyProof.Rows L2 HT
section
variable {prog : Program} {w : World} {A : Around} {E : Value → Shared → Prop} {s : Shared}
theorem adjust_back (n : Nat) : Builtin.Slice.sliceAdjust none none (-1) (n : Int) = ((n : Int) - 1, -1) := rfl
theorem places_back (n : Nat) : Builtin.Slice.slicePlaces ((n : Int) - 1) (-1) (-1) = n := by
  unfold Builtin.Slice.slicePlaces
  rw [if_neg (by decide)]
  by_cases h : n = 0
  · subst h; rfl
  · rw [if_pos (by omega)]
    have : ((n : Int) - 1 - -1 - 1) / (- -1) = (n : Int) - 1 := by rw [show (- -1 : Int) = 1 by decide, Int.ediv_one]; omega
    rw [this]; omega
theorem pick_back (xs : Array Value) : ((List.range xs.size).filterMap fun (m : Nat) => xs[(((xs.size : Nat) : Int) - 1 + (m : Int) * (-1)).toNat]?).toArray = xs.toList.reverse.toArray := by
  congr 1
  have e : ∀ m, m < xs.size → xs[(((xs.size : Nat) : Int) - 1 + (m : Int) * (-1)).toNat]? = xs.toList.reverse[m]? := fun m hm => by
    have : (((xs.size : Nat) : Int) - 1 + (m : Int) * (-1)).toNat = xs.size - 1 - m := by omega
    rw [this, List.getElem?_reverse (by simpa using hm)]
    simp
  have gen : ∀ (l : List Value) (f : Nat → Option Value), (∀ m, m < l.length → f m = l[m]?) → (List.range l.length).filterMap f = l := by
    intro l
    induction l with
    | nil => intro f _; rfl
    | cons x l ih =>
      intro f hf
      rw [List.length_cons, List.range_succ_eq_map, List.filterMap_cons, hf 0 (by simp)]
      simp only [List.getElem?_cons_zero, List.filterMap_map]
      rw [ih (f ∘ Nat.succ) fun m hm => by
        show f (m + 1) = _
        rw [hf (m + 1) (by simpa using hm)]; simp]
  have := gen xs.toList.reverse _ (fun m hm => e m (by simpa using hm))
  simpa using this
theorem applied_back {sl : Addr} {t : Tok} {n : Nat} {Q : Int × Int × Nat → Shared → Prop} (hs : s.heap.IsSliceOf sl .none .none (.int (-1) t)) (h : Q ((n : Int) - 1, -1, n) s) :
    wpAny (model prog w) A (Builtin.Slice.sliceApplied (.ref sl) (pure (n : Int))) Q E s := by
  obtain ⟨o, h1, h2, h3⟩ := id hs
  unfold Builtin.Slice.sliceApplied Builtin.Slice.sliceFields
  refine wpAny_bind (wpAny_bind (wpAny_field h1 h3 (x := .none) rfl ?_))
  refine wpAny_bind (wpAny_field h1 h3 (x := .none) rfl (wpAny_bind (wpAny_field h1 h3 (x := .int (-1) t) rfl (wpAny_pure ?_))))
  refine wpAny_bind (slicePart_int ?_)
  show wpAny _ _ (if ((-1 : Int) == 0) = true then _ else _) _ _ s
  rw [if_neg (by decide)]
  refine wpAny_bind (slicePart_none (wpAny_bind (slicePart_none (wpAny_bind (wpAny_pure ?_)))))
  show wpAny _ _ (match Builtin.Slice.sliceAdjust none none (-1) (n : Int) with | (lo, hi) => pure (lo, (-1 : Int), Builtin.Slice.slicePlaces lo hi (-1))) _ _ s
  rw [adjust_back n]
  show wpAny _ _ (pure ((n : Int) - 1, (-1 : Int), Builtin.Slice.slicePlaces ((n : Int) - 1) (-1) (-1))) _ _ s
  rw [places_back]
  exact wpAny_pure h
theorem item_back {t sl : Addr} {items : Array Value} {u : Tok} {Q : Value → Shared → Prop} (ht : IsTup s.heap t items) (hs : s.heap.IsSliceOf sl .none .none (.int (-1) u))
    (h : Q (.ref s.heap.objs.size) { s with heap := s.heap.push { cls := .type "tuple", data := .seq items.toList.reverse.toArray } }) (hz : items.size ≤ sizeLine) : wpAny (model prog w) A (getItem (.ref t) (.ref sl)) Q E s := by
  have hsz : sizeOk (.seq items.toList.reverse.toArray) := by
    show items.toList.reverse.toArray.size ≤ sizeLine
    simpa using hz
  obtain ⟨o, h1, h2, h3⟩ := id hs
  have hT : s.TypeIs (.ref sl) "slice" := ⟨o, h1, h2⟩
  unfold getItem
  try with_reducible refine wpAny_holding ?_
  first | refine wpAny_bind (wpAny_pure ?_) | skip
  refine wpAny_bind (wpAny_sequenceKey ht.typeIs (by decide) ?_)
  refine wpAny_bind (wpAny_callSpecial?_slot (name := Str.ofString "__getitem__") ht.typeIs slot_tuple_getitem (wpAny_call_entry slot_tuple_getitem ht.typeIs entry_tuple_getitem ?_ (args_tuple_getitem _ _)))
  show wpAny _ _ (Builtin.Tuple.tupleItemsOf (.ref t) >>= _) _ _ s
  refine wpAny_bind (tupleItemsOf_ ht (wpAny_bind (wpAny_typeOf hT ?_)))
  rw [if_pos (by decide)]
  refine wpAny_bind (applied_back hs ?_)
  have hno : ¬ ((((items.size : Nat) : Int) - 1 == 0 && (-1 : Int) == 1 && items.size == items.size) = true) := by
    intro q
    rw [Bool.and_eq_true, Bool.and_eq_true] at q
    exact absurd q.1.2 (by decide)
  show wpAny _ _ (if ((((items.size : Nat) : Int) - 1 == 0 && (-1 : Int) == 1 && items.size == items.size) = true) then _ else _) _ _ s
  rw [if_neg hno, pick_back]
  first
    | exact wpAny_bind (m := Builtin.Tuple.tupleExact _) (wpAny_newObj_type (wpAny_pure ⟨_, rfl, wpAny_pure h⟩) hsz)
    | exact wpAny_bind (m := Builtin.Tuple.tupleExact _) (wpAny_newObj_type (wpAny_bind (wpAny_pure (wpAny_pure ⟨_, rfl, wpAny_pure h⟩))) hsz)
    | exact wpAny_bind (wpAny_bind (m := Builtin.Tuple.tupleExact _) (wpAny_newObj_type (wpAny_pure (wpAny_pure ⟨_, rfl, wpAny_pure h⟩)) hsz))
    | exact wpAny_bind (wpAny_bind (m := Builtin.Tuple.tupleExact _) (wpAny_newObj_type (wpAny_pure ⟨_, rfl, wpAny_pure h⟩) hsz))
end
section
variable {X : Cx} {e : Expr} {te : TE} {k : Nat} {p1 p2 p3 pos : Pos}
def tRevA (K : PySem.W.Frag) (te : TE) : TE := fun σ H Q => te σ H fun x H1 => ∃ a xs, x = .ref a ∧ ((SqT K H1 a xs ∧ ∀ p o, H1 p = none → Lp.KO o → Q (.ref p) (upd H1 p (.frz o (.tup xs.reverse)))) ∨ (SqL K H1 a xs ∧ ∀ p, H1 p = none → Q (.ref p) (upd H1 p (.lst xs.reverse))))
theorem pe_revA (he : PE X e te) : PE X (.Subscript e (.Slice none none (some (.UnaryOp .USub (.Constant (.int 1) k p1) p2)) p3) pos) (tRevA X.K te) := by
  refine ⟨fun pins s σ H Q I h => Subscript_ (thn (he.run pins s σ H _ I h) fun v s1 ⟨x, H1, I1, r1, q1⟩ => ?_)⟩
  obtain ⟨a, xs, rfl, q1⟩ := q1
  cases r1
  have hst : PO X (some (.UnaryOp .USub (.Constant (.int 1) k p1) p2)) (tPart (tUn (rU fun i => .int (-i)) (tC (.int 1)))) := po_some (pe_un un_neg pe_int)
  refine wpAny_Slice (thn (po_none.run pins s1 σ H1 (fun o H2 => o = none ∧ H2 = H1) I1 ⟨rfl, rfl⟩) fun vl s2 ⟨l, H2, I2, pl, el, e2⟩ => ?_)
  subst el e2
  refine thn (po_none.run pins s2 σ H2 (fun o H3 => o = none ∧ H3 = H2) I2 ⟨rfl, rfl⟩) fun vu s3 ⟨u, H3, I3, pu, eu, e3⟩ => ?_
  subst eu e3
  refine thn (hst.run pins s3 σ H3 (fun o H4 => o = some (-1) ∧ H4 = H3) I3 ⟨1, rfl, -1, rfl, rfl, rfl⟩) fun vs s4 ⟨o, H4, I4, ps, eo, e4⟩ => ?_
  subst eo e4
  obtain rfl : vl = .none := by cases pl; rfl
  obtain rfl : vu = .none := by cases pu; rfl
  obtain ⟨tk, rfl⟩ : ∃ tk, vs = .int (-1) tk := by cases ps; exact ⟨_, rfl⟩
  have I5 : L2.Inv X pins σ H4 { s4 with heap := s4.heap.push { cls := .type "slice", data := .fields #[.none, .none, .int (-1) tk] } } := I4.kept (t' := s4.toks) fun b ob q => Heap.get?_push_of_some _ q
  rcases q1 with ⟨hx, q⟩ | ⟨hx, q⟩
  · obtain ⟨its, r, ht, hz⟩ := I5.tuple hx
    have hlen := r.length
    refine tail_any (ops := [.ref a, .ref s4.heap.objs.size]) ht.typeIs (slot_tuple_getitem.lookup) ?_ (by with_unfolding_all rfl)
    refine item_back ht (Heap.IsSliceOf.new _ .none .none (.int (-1) tk)) ?_ (by rw [List.size_toArray]; omega)
    exact ⟨.ref _, _, Lk.laidK I5 (by rw [List.length_reverse]; exact hz) r.reverse, rfl, q _ _ (I5.hok.fresh (Nat.le_refl _)) (Lk.tupO_ok _)⟩
  · obtain ⟨its, r, ht, hz⟩ := I5.list hx
    have hlen := r.length
    refine tail_any (ops := [.ref a, .ref s4.heap.objs.size]) ht.isList.typeIs (PySem.slot_list_getitem.lookup) ?_ (by with_unfolding_all rfl)
    refine wpAny_getItem_list_slice ht.isList (Heap.IsSliceOf.new _ .none .none (.int (-1) tk)) pl pu ps (by decide) ?_ (by rw [List.size_toArray]; omega)
    rw [PySem.W.krv_pick]
    refine ⟨.ref _, _, I5.laid (t' := s4.toks) (o := .lst xs.reverse) (fun b ob q => Heap.get?_push_of_some _ q) (Nat.le_refl _) ?_, rfl, q _ (I5.hok.fresh (Nat.le_refl _))⟩
    exact ⟨by rw [List.length_reverse]; exact hz, _, 0, r.reverse, Heap.get?_push_size _ rfl⟩
end
end Lt
namespace Lp
open PySem PySem.Spec L2
def pRev : PV → Option PV
  | .tup xs => some (.tup xs.reverse)
  | .lst xs => some (.lst xs.reverse)
  | _ => none
/-- among data of any kind -/
def pInD (n : Bool) (p q : PV) : Option PV := match p.toD, q with
  | some d, .lst ys => match toDs ys with
    | some ds => if SeqAt.shaped d && SeqAt.shaped (.list ds) then some (.bl (n ^^ ds.any fun z => PyData.eqv z d)) else none
    | none => none
  | some d, .tup ys => match toDs ys with
    | some ds => if SeqAt.shaped d && SeqAt.shaped (.list ds) then some (.bl (n ^^ ds.any fun z => PyData.eqv z d)) else none
    | none => none
  | _, _ => none
def pInA (n : Bool) : PV → PV → Option PV := orP (pIn n) (pInD n)
section
variable {G : GW} {K : PySem.W.Frag} {F H F' H' F0 H0 : Hp} {X : Cx} {κ : Kd} {E : St → XK} {m rm : Mode} {σ : St} {τ : LE} {v : V} {p : PV} {k : Nat} {e : Expr} {f : LE → Res PV} {p1 p2 p3 pos : Pos}
theorem v_rev (he : PE X e (tE G X.K .top E κ f)) : PE X (.Subscript e (.Slice none none (some (.UnaryOp .USub (.Constant (.int 1) k p1) p2)) p3) pos) (tE G X.K .sh E κ (e1 pRev f)) :=
  pe_weak (Lt.pe_revA he) fun σ H Q ⟨F, τ, l, q⟩ => by
    refine ⟨F, τ, l, ?_⟩
    unfold e1 at q
    cases hf : f τ with
    | exc c ps => rw [hf] at q; exact q
    | bad => rw [hf] at q; exact q
    | ok p =>
      rw [hf, Res.ok_bind] at q
      intro v F1 H1 e1 r1
      cases p with
      | tup xs =>
        have r1 : Top G X.K F1 H1 v (.tup xs) := r1
        obtain ⟨a, vs, rfl, h, rr⟩ := r1.tup_inv e1.sub
        exact ⟨a, vs, rfl, .inl ⟨h, fun p o np ko => q _ _ _ (e1.push (.frz o (.tup vs.reverse)) np) (.tup (.inl ⟨o, upd_same, ko⟩) (Reps.mono (same_new (Same.free e1.sub np)) rr.reverse))⟩⟩
      | lst xs =>
        have r1 : Top G X.K F1 H1 v (.lst xs) := r1
        obtain ⟨a, vs, rfl, h, rr⟩ := r1.lst_inv e1.sub
        exact ⟨a, vs, rfl, .inr ⟨.inl h, fun p np => q _ _ _ (e1.push (.lst vs.reverse) np) (.lst (.inl upd_same) (Reps.mono (same_new (Same.free e1.sub np)) rr.reverse))⟩⟩
      | _ => exact q.elim
/-- x in a list, in a tuple, of data -/
def rInLT (K : PySem.W.Frag) (n : Bool) : R2 := fun x y H Q => ∃ d ds, Dp K H x d ∧ (Dp K H y (.list ds) ∨ Dp K H y (.tuple ds)) ∧ SeqAt.shaped d = true ∧ SeqAt.shaped (.list ds) = true ∧ Q (.bl (n ^^ ds.any fun z => PyData.eqv z d)) H
theorem op_inLT (hu : X.A.units + 65 < cLine) : OpR X (compareOp .In) (rInLT X.K false) := fun pins s σ H x y v u Q I rx ry ⟨d, ds, hd, he, sd, se, q⟩ => by
  rw [Bool.false_xor] at q
  obtain ⟨as, r1⟩ := Dp.reads I d x v hd rx
  have fin : EP X pins σ Q (.bool (ds.any fun z => PyData.eqv z d)) s := ⟨.bl _, H, I, rfl, q⟩
  rcases he with he | he
  · obtain ⟨bs, r2⟩ := Dp.reads I (.list ds) y u he ry
    exact SeqAt.in_list_reads r2 r1 (SeqAt.canLay_of_shaped se) (SeqAt.canLay_of_shaped sd) (PyProof.Rows.room_in_shaped sd hu) fin
  · obtain ⟨bs, r2⟩ := Dp.reads I (.tuple ds) y u he ry
    exact SeqAt.in_tuple_reads r2 r1 (SeqAt.canLay_of_shaped se) (SeqAt.canLay_of_shaped sd) (PyProof.Rows.room_in_shaped sd hu) fin
theorem op_notInLT (hu : X.A.units + 65 < cLine) : OpR X (compareOp .NotIn) (rInLT X.K true) := fun pins s σ H x y v u Q I rx ry ⟨d, ds, hd, he, sd, se, q⟩ => by
  rw [Bool.true_xor] at q
  obtain ⟨as, r1⟩ := Dp.reads I d x v hd rx
  have fin : EP X pins σ Q (.bool (!ds.any fun z => PyData.eqv z d)) s := ⟨.bl _, H, I, rfl, q⟩
  rcases he with he | he
  · obtain ⟨bs, r2⟩ := Dp.reads I (.list ds) y u he ry
    exact SeqAt.notIn_list_reads r2 r1 (SeqAt.canLay_of_shaped se) (SeqAt.canLay_of_shaped sd) (PyProof.Rows.room_in_shaped sd hu) fin
  · obtain ⟨bs, r2⟩ := Dp.reads I (.tuple ds) y u he ry
    exact SeqAt.notIn_tuple_reads r2 r1 (SeqAt.canLay_of_shaped se) (SeqAt.canLay_of_shaped sd) (PyProof.Rows.room_in_shaped sd hu) fin
theorem g_inD {n : Bool} : OpV G K (rInLT K n) .sh (pInD n) := by
  intro F H x y p q z Q s rx ry hz k
  unfold pInD at hz
  split at hz
  · rename_i d ys hd
    split at hz
    · rename_i ds hds
      split at hz
      · rename_i hs
        cases hz
        rw [Bool.and_eq_true] at hs
        have hq : (PV.lst ys).toD = some (.list ds) := by rw [PV.toD, hds]; rfl
        exact ⟨d, ds, rx.dp s hd, .inl (ry.dp s hq), hs.1, hs.2, k _ F H (Ext.refl s) (.bl _)⟩
      · cases hz
    · cases hz
  · rename_i d ys hd
    split at hz
    · rename_i ds hds
      split at hz
      · rename_i hs
        cases hz
        rw [Bool.and_eq_true] at hs
        have hq : (PV.tup ys).toD = some (.tuple ds) := by rw [PV.toD, hds]; rfl
        exact ⟨d, ds, rx.dp s hd, .inr (ry.dp s hq), hs.1, hs.2, k _ F H (Ext.refl s) (.bl _)⟩
      · cases hz
    · cases hz
  · cases hz
theorem hu65 {k : Nat} {A : Around} (r : Room k A) : A.units + 65 < cLine := by have := r.un; omega
theorem op_inA (hu : X.A.units + 65 < cLine) : OpR X (compareOp .In) (fun x y H Q => rInV X.K false x y H Q ∨ rInLT X.K false x y H Q) := op_inV.or (op_inLT hu)
theorem op_notInA (hu : X.A.units + 65 < cLine) : OpR X (compareOp .NotIn) (fun x y H Q => rInV X.K true x y H Q ∨ rInLT X.K true x y H Q) := op_notInV.or (op_notInLT hu)
theorem g_inA {n : Bool} : OpV G K (fun x y H Q => rInV K n x y H Q ∨ rInLT K n x y H Q) .sh (pInA n) := g_in.or g_inD
end
end Lp
end
section
set_option Elab.async false
set_option linter.all false
set_option maxRecDepth 100000
namespace Lp
open PySem PySem.Spec L2
/-! // by wide numbers -/
theorem CDivW_iff {i j : Int} : (decide (0 < j) && Nat.ble (j.natAbs.log2 + 1) 9000) = true ↔ CDivW i j := by
  rw [Bool.and_eq_true, Nat.ble_eq, decide_eq_true_iff]
  unfold CDivW
  omega
instance (i j : Int) : Decidable (CDivW i j) := decidable_of_iff _ (CDivW_iff (i := i))
abbrev pDivW := pI CDivW fun i j => i / j
end Lp
end
section
set_option Elab.async false
set_option linter.all false
set_option maxRecDepth 100000
set_option maxHeartbeats 2000000
/-! zip of a list and a tuple, of any two sequences -/
namespace Lz
open PySem PySem.Spec PyProof.Rows L2 RZ
open PySem.Sem (wp)
inductive Sq where
  | l | t
def SqIt (q : Sq) (h : Heap) (it a : Addr) (k : Nat) : Prop := match q with
  | .l => h.IsListIter it a k
  | .t => h.IsTupleIter it a k
def SqIs (q : Sq) (h : Heap) (a : Addr) (items : Array Value) : Prop := match q with
  | .l => h.IsList a items
  | .t => h.IsTuple a items
theorem SqIt.put {q : Sq} {h h' : Heap} {it a : Addr} {k : Nat} (x : SqIt q h it a k) (e : ∀ o, h.get? it = some o → h'.get? it = some o) : SqIt q h' it a k := by
  cases q with
  | l => exact Heap.IsListIter.at (h := h) x e
  | t => exact Heap.IsTupleIter.at (h := h) x e
theorem SqIt.obj {q : Sq} {h : Heap} {it a : Addr} {k : Nat} (x : SqIt q h it a k) : ∃ o vs, h.get? it = some o ∧ o.data = .fields vs := by
  cases q with
  | l => obtain ⟨o, e, _, d⟩ := x; exact ⟨o, _, e, d⟩
  | t => obtain ⟨o, e, _, d⟩ := x; exact ⟨o, _, e, d⟩
theorem SqIs.put {q : Sq} {h h' : Heap} {a b : Addr} {xs : Array Value} (x : SqIs q h a xs) (e : Heap.ExtBut b h h') (n : a ≠ b) : SqIs q h' a xs := by
  cases q with
  | l => exact Heap.IsList.extBut x e n
  | t => exact Heap.IsTuple.extBut x e n
theorem SqIt.ext {q : Sq} {h h' : Heap} {it a b : Addr} {k : Nat} (x : SqIt q h it a k) (e : Heap.ExtBut b h h') (n : it ≠ b) : SqIt q h' it a k := x.put fun o ho => e _ o n ho
section
variable {prog : Program} {w : World} {A : Around} {E : Value → Shared → Prop} {s : Shared}
theorem sq_next {q : Sq} {it a : Addr} {k : Nat} {items : Array Value} {x : Value} {Q : Value → Shared → Prop} (h1 : SqIt q s.heap it a k) (h2 : SqIs q s.heap a items) (hx : items[k]? = some x)
    (hQ : ∀ h', SqIt q h' it a (k + 1) → Heap.SameBut it s.heap h' → Q x { s with heap := h' }) : wpAny (model prog w) A (Builtin.SmallTypes.nextOf (.ref it)) Q E s := by
  cases q with
  | l => exact wpAny_nextOf_list_item h1 h2 hx hQ
  | t => exact nextOf_tuple_item h1 h2 hx hQ
theorem sq_end {q : Sq} {it a : Addr} {k : Nat} {items : Array Value} {Q : Value → Shared → Prop} (hh : A.handled = none) (h1 : SqIt q s.heap it a k) (h2 : SqIs q s.heap a items) (hx : items[k]? = none)
    (hE : ∀ h' e, Heap.ExtBut it s.heap h' → (∃ o, h'.get? e = some o ∧ o.cls = .type "StopIteration") → E (.ref e) { s with heap := h' }) : wpAny (model prog w) A (Builtin.SmallTypes.nextOf (.ref it)) Q E s := by
  cases q with
  | l => exact wpAny_nextOf_list_end hh h1 h2 hx hE
  | t => exact nextOf_tuple_end hh h1 h2 hx hE
theorem zip_head {z TI TO i1 i2 : Addr} {Q : Fin → Shared → Prop} (hz : IsZip s.heap z TI TO .none) (hTI : IsPair s.heap TI (.ref i1) (.ref i2)) : True := trivial
/-- one turn: both have an item -/
theorem step_item {p q : Sq} {z TI TO i1 i2 l1 l2 : Addr} {m n : Nat} {xs ys : Array Value} {x y a b : Value} {Q : Value → Shared → Prop} (D : ZipApart z TI TO i1 i2 l1 l2)
    (hz : IsZip s.heap z TI TO .none) (hTI : IsPair s.heap TI (.ref i1) (.ref i2)) (hTO : IsPair s.heap TO a b) (u1 : SqIt p s.heap i1 l1 m) (u2 : SqIt q s.heap i2 l2 n) (v1 : SqIs p s.heap l1 xs) (v2 : SqIs q s.heap l2 ys)
    (hx : xs[m]? = some x) (hy : ys[n]? = some y)
    (hQ : ∀ h', IsZip h' z TI TO (rawInt s.heap.objs.size) → IsPair h' TO x y → SqIt p h' i1 l1 (m + 1) → SqIt q h' i2 l2 (n + 1) → IsPair h' s.heap.objs.size x y → h'.objs.size = s.heap.objs.size + 1 →
      (∀ c o, c ≠ z → c ≠ TO → c ≠ i1 → c ≠ i2 → s.heap.get? c = some o → h'.get? c = some o) → Q (.ref s.heap.objs.size) { s with heap := h' }) :
    wpAny (model prog w) A (Builtin.«zip.__next__» ⟨[.ref z], []⟩) (fun fin s' => ∃ v, fin = .done (.ret v) ∧ Q v s') E s := by
  show wpAny _ _ (field (.ref z) 2 >>= _) _ _ _
  refine wpAny_bind (wpAny_field hz rfl (x := .bool false) rfl ?_)
  show wpAny _ _ (field (.ref z) 3 >>= _) _ _ _
  refine wpAny_bind (wpAny_field hz rfl (x := .ref TI) rfl (wpAny_bind (wpAny_seqItems hTI rfl ?_)))
  show wpAny _ _ (Builtin.SmallTypes.ownedTupleIsFree (.ref z) >>= _) _ _ _
  refine wpAny_bind ?_
  unfold Builtin.SmallTypes.ownedTupleIsFree
  refine wpAny_bind (wpAny_field hz rfl (x := .none) rfl (wpAny_pure ?_))
  simp only [if_true]
  refine wpAny_bind (wpAny_rule (wpAny_bind (wpAny_field hz rfl (x := .ref TO) rfl (wpAny_bind (wpAny_setField_rec hz (by simp) fun g1 k1 f1 => ?_)))))
  have k1 : IsZip g1 z TI TO .ellipsis := k1
  refine wpAny_bind ?_
  simp only [List.zipIdx_cons, List.zipIdx_nil, List.forIn_cons, List.forIn_nil]
  refine wpAny_bind (wpAny_bind (wpAny_onRaise ?_))
  show wpAny _ _ (Builtin.SmallTypes.nextOf (.ref i1) >>= _) _ _ _
  refine wpAny_bind (sq_next (u1.ext f1.extBut D.i1z) (v1.put f1.extBut D.l1z) hx fun g2 w1 f2 => wpAny_pure ?_)
  have t2 : IsPair g2 TO a b := f2.extBut _ _ D.TOi1 (f1.extBut _ _ D.TOz hTO)
  refine wpAny_bind (wpAny_seqItems t2 rfl (wpAny_bind (wpAny_updateSeq_pair t2 fun g3 t3 f3 => wpAny_bind (wpAny_letGo (wpAny_pure ?_)))))
  have t3 : IsPair g3 TO x b := t3
  refine wpAny_bind (wpAny_bind (wpAny_onRaise ?_))
  show wpAny _ _ (Builtin.SmallTypes.nextOf (.ref i2) >>= _) _ _ _
  have v2' : SqIs q g3 l2 ys := ((v2.put f1.extBut D.l2z).put f2.extBut D.l2i1).put f3.extBut D.l2TO
  have u2' : SqIt q g3 i2 l2 n := ((u2.ext f1.extBut D.i2z).ext f2.extBut D.i12.symm).ext f3.extBut D.TOi2.symm
  refine wpAny_bind (sq_next u2' v2' hy fun g4 w2 f4 => wpAny_pure ?_)
  have t4 : IsPair g4 TO x b := f4.extBut _ _ D.TOi2 t3
  refine wpAny_bind (wpAny_seqItems t4 rfl (wpAny_bind (wpAny_updateSeq_pair t4 fun g5 t5 f5 => wpAny_bind (wpAny_letGo (wpAny_pure (wpAny_pure ?_))))))
  have t5 : IsPair g5 TO x y := t5
  refine wpAny_bind (wpAny_seqItems t5 rfl (wpAny_bind (wpAny_newTuple ?_)))
  have sz : g5.objs.size = s.heap.objs.size := f5.1.trans (f4.1.trans (f3.1.trans (f2.1.trans f1.1)))
  have z5 : IsZip g5 z TI TO .ellipsis := f5.extBut _ _ D.TOz.symm (f4.extBut _ _ D.i2z.symm (f3.extBut _ _ D.TOz.symm (f2.extBut _ _ D.i1z.symm k1)))
  have rest : ∀ c o, c ≠ z → c ≠ TO → c ≠ i1 → c ≠ i2 → s.heap.get? c = some o → g5.get? c = some o := fun c o n1 n2 n3 n4 e =>
    f5.extBut _ _ n2 (f4.extBut _ _ n4 (f3.extBut _ _ n2 (f2.extBut _ _ n3 (f1.extBut _ _ n1 e))))
  have w1' : SqIt p g5 i1 l1 (m + 1) := ((w1.ext f3.extBut D.TOi1.symm).ext f4.extBut D.i12).ext f5.extBut D.TOi1.symm
  have w2' : SqIt q g5 i2 l2 (n + 1) := w2.ext f5.extBut D.TOi2.symm
  have zl : z < g5.objs.size := Heap.lt_size z5
  show wpAny _ _ (Builtin.SmallTypes.ownedTupleHandOut (.ref z) (.ref g5.objs.size) >>= _) _ _ _
  refine wpAny_bind ?_
  unfold Builtin.SmallTypes.ownedTupleHandOut
  have z6 : IsZip (g5.push { cls := .type "tuple", data := .seq #[x, y] }) z TI TO .ellipsis := Heap.get?_push_of_some _ z5
  refine wpAny_bind (wpAny_setField_rec z6 (by simp) fun g7 z7 f7 => ?_)
  have z7 : IsZip g7 z TI TO (rawInt g5.objs.size) := z7
  refine wpAny_setField_rec z7 (by simp) fun g8 z8 f8 => ?_
  have z8 : IsZip g8 z TI TO (rawInt g5.objs.size) := z8
  have up : ∀ c o, c ≠ z → g5.get? c = some o → g8.get? c = some o := fun c o n1 e => f8.extBut _ _ n1 (f7.extBut _ _ n1 (Heap.get?_push_of_some _ e))
  have t8 : IsPair g8 g5.objs.size x y := f8.extBut _ _ (Nat.ne_of_gt zl) (f7.extBut _ _ (Nat.ne_of_gt zl) (Heap.get?_push_size _ rfl))
  have n8 : g8.objs.size = g5.objs.size + 1 := f8.1.trans (f7.1.trans (Heap.size_push ..))
  rw [sz] at z8 t8 n8
  refine wpAny_pure ⟨_, rfl, ?_⟩
  show Q (.ref g5.objs.size) _
  rw [sz]
  exact hQ g8 z8 (up _ _ D.TOz t5) (w1'.put fun o e => up _ o D.i1z e) (w2'.put fun o e => up _ o D.i2z e) t8 n8 fun c o n1 n2 n3 n4 e => up c o n1 (rest c o n1 n2 n3 n4 e)
/-- one of the two has none -/
theorem step_end {p q : Sq} {z TI TO i1 i2 l1 l2 : Addr} {m n : Nat} {xs ys : Array Value} {a b : Value} {Q : Fin → Shared → Prop} (hh : A.handled = none) (D : ZipApart z TI TO i1 i2 l1 l2)
    (hz : IsZip s.heap z TI TO .none) (hTI : IsPair s.heap TI (.ref i1) (.ref i2)) (hTO : IsPair s.heap TO a b) (u1 : SqIt p s.heap i1 l1 m) (u2 : SqIt q s.heap i2 l2 n) (v1 : SqIs p s.heap l1 xs) (v2 : SqIs q s.heap l2 ys)
    (hend : xs[m]? = none ∨ ys[n]? = none)
    (hE : ∀ h' e, (∀ c o, c ≠ z → c ≠ TO → c ≠ i1 → c ≠ i2 → s.heap.get? c = some o → h'.get? c = some o) → (∃ o, h'.get? e = some o ∧ o.cls = .type "StopIteration") → E (.ref e) { s with heap := h' }) :
    wpAny (model prog w) A (Builtin.«zip.__next__» ⟨[.ref z], []⟩) Q E s := by
  show wpAny _ _ (field (.ref z) 2 >>= _) _ _ _
  refine wpAny_bind (wpAny_field hz rfl (x := .bool false) rfl ?_)
  show wpAny _ _ (field (.ref z) 3 >>= _) _ _ _
  refine wpAny_bind (wpAny_field hz rfl (x := .ref TI) rfl (wpAny_bind (wpAny_seqItems hTI rfl ?_)))
  show wpAny _ _ (Builtin.SmallTypes.ownedTupleIsFree (.ref z) >>= _) _ _ _
  refine wpAny_bind ?_
  unfold Builtin.SmallTypes.ownedTupleIsFree
  refine wpAny_bind (wpAny_field hz rfl (x := .none) rfl (wpAny_pure ?_))
  simp only [if_true]
  refine wpAny_bind (wpAny_rule (wpAny_bind (wpAny_field hz rfl (x := .ref TO) rfl (wpAny_bind (wpAny_setField_rec hz (by simp) fun g1 k1 f1 => ?_)))))
  have k1 : IsZip g1 z TI TO .ellipsis := k1
  refine wpAny_bind ?_
  simp only [List.zipIdx_cons, List.zipIdx_nil, List.forIn_cons, List.forIn_nil]
  refine wpAny_bind (wpAny_bind (wpAny_onRaise ?_))
  show wpAny _ _ (Builtin.SmallTypes.nextOf (.ref i1) >>= _) _ _ _
  have noz : ∀ {g : Heap} {e : Addr} {oe : Obj}, IsZip g z TI TO .ellipsis → g.get? e = some oe → oe.cls = .type "StopIteration" → e ≠ z := fun hz he hc x => by
    subst x; rw [hz] at he; cases he; simp at hc
  cases hx : xs[m]? with
  | none =>
    refine wpAny_bind (sq_end hh (u1.ext f1.extBut D.i1z) (v1.put f1.extBut D.l1z) hx fun g2 e f2 he => ?_)
    obtain ⟨oe, h1, h2⟩ := he
    have k2 : IsZip g2 z TI TO .ellipsis := f2 _ _ D.i1z.symm k1
    refine wpAny_setField_rec k2 (by simp) fun g3 _ f3 => hE g3 e (fun c o n1 _ n3 _ x => f3.extBut _ _ n1 (f2 _ _ n3 (f1.extBut _ _ n1 x))) ⟨oe, f3.extBut _ _ (noz k2 h1 h2) h1, h2⟩
  | some x =>
    have hy : ys[n]? = none := by
      rcases hend with h | h
      · rw [hx] at h; cases h
      · exact h
    refine wpAny_bind (sq_next (u1.ext f1.extBut D.i1z) (v1.put f1.extBut D.l1z) hx fun g2 w1 f2 => wpAny_pure ?_)
    have t2 : IsPair g2 TO a b := f2.extBut _ _ D.TOi1 (f1.extBut _ _ D.TOz hTO)
    refine wpAny_bind (wpAny_seqItems t2 rfl (wpAny_bind (wpAny_updateSeq_pair t2 fun g3 t3 f3 => wpAny_bind (wpAny_letGo (wpAny_pure ?_)))))
    refine wpAny_bind (wpAny_bind (wpAny_onRaise ?_))
    show wpAny _ _ (Builtin.SmallTypes.nextOf (.ref i2) >>= _) _ _ _
    have v2' : SqIs q g3 l2 ys := ((v2.put f1.extBut D.l2z).put f2.extBut D.l2i1).put f3.extBut D.l2TO
    have u2' : SqIt q g3 i2 l2 n := ((u2.ext f1.extBut D.i2z).ext f2.extBut D.i12.symm).ext f3.extBut D.TOi2.symm
    refine wpAny_bind (sq_end hh u2' v2' hy fun g4 e f4 he => ?_)
    obtain ⟨oe, h1, h2⟩ := he
    have k4 : IsZip g4 z TI TO .ellipsis := f4 _ _ D.i2z.symm (f3.extBut _ _ D.TOz.symm (f2.extBut _ _ D.i1z.symm k1))
    refine wpAny_setField_rec k4 (by simp) fun g5 _ f5 => hE g5 e (fun c o n1 n2 n3 n4 x => f5.extBut _ _ n1 (f4 _ _ n4 (f3.extBut _ _ n2 (f2.extBut _ _ n3 (f1.extBut _ _ n1 x))))) ⟨oe, f5.extBut _ _ (noz k4 h1 h2) h1, h2⟩
end
end Lz
end
section
set_option Elab.async false
set_option linter.all false
set_option maxRecDepth 100000
set_option maxHeartbeats 2000000
namespace Lz
open PySem PySem.Spec PyProof.Rows L2 RZ
section
variable {prog : Program} {w : World} {A : Around} {E : Value → Shared → Prop} {s : Shared}
theorem next_item {p q : Sq} {z TI TO i1 i2 l1 l2 : Addr} {m n : Nat} {xs ys : Array Value} {x y a b : Value} {Q : Option Value → Shared → Prop} (D : ZipApart z TI TO i1 i2 l1 l2)
    (hz : IsZip s.heap z TI TO .none) (hTI : IsPair s.heap TI (.ref i1) (.ref i2)) (hTO : IsPair s.heap TO a b) (u1 : SqIt p s.heap i1 l1 m) (u2 : SqIt q s.heap i2 l2 n) (v1 : SqIs p s.heap l1 xs) (v2 : SqIs q s.heap l2 ys)
    (hx : xs[m]? = some x) (hy : ys[n]? = some y)
    (hQ : ∀ h', IsZip h' z TI TO (rawInt s.heap.objs.size) → IsPair h' TO x y → SqIt p h' i1 l1 (m + 1) → SqIt q h' i2 l2 (n + 1) → IsPair h' s.heap.objs.size x y → h'.objs.size = s.heap.objs.size + 1 →
      (∀ c o, c ≠ z → c ≠ TO → c ≠ i1 → c ≠ i2 → s.heap.get? c = some o → h'.get? c = some o) → Q (some (.ref s.heap.objs.size)) { s with heap := h' }) :
    wpAny (model prog w) A (pyNext (.ref z)) Q E s := by
  have hT : s.TypeIs (.ref z) "zip" := ⟨_, hz, rfl⟩
  unfold pyNext
  refine wpAny_bind (wpAny_attempt (wpAny_callSpecial?_slot (name := Str.ofString "__next__") hT F.slot_zip_next (wpAny_call_entry F.slot_zip_next hT F.entry_zip_next ?_ (F.args_zip_next_1 _))))
  exact step_item D hz hTI hTO u1 u2 v1 v2 hx hy fun h' a1 a2 a3 a4 a5 a6 a7 => wpAny_pure (hQ h' a1 a2 a3 a4 a5 a6 a7)
theorem next_end {p q : Sq} {z TI TO i1 i2 l1 l2 : Addr} {m n : Nat} {xs ys : Array Value} {a b : Value} {Q : Option Value → Shared → Prop} (hh : A.handled = none) (D : ZipApart z TI TO i1 i2 l1 l2)
    (hz : IsZip s.heap z TI TO .none) (hTI : IsPair s.heap TI (.ref i1) (.ref i2)) (hTO : IsPair s.heap TO a b) (u1 : SqIt p s.heap i1 l1 m) (u2 : SqIt q s.heap i2 l2 n) (v1 : SqIs p s.heap l1 xs) (v2 : SqIs q s.heap l2 ys)
    (hend : xs[m]? = none ∨ ys[n]? = none) (hQ : ∀ h', (∀ c o, c ≠ z → c ≠ TO → c ≠ i1 → c ≠ i2 → s.heap.get? c = some o → h'.get? c = some o) → Q none { s with heap := h' }) : wpAny (model prog w) A (pyNext (.ref z)) Q E s := by
  have hT : s.TypeIs (.ref z) "zip" := ⟨_, hz, rfl⟩
  unfold pyNext
  refine wpAny_bind (wpAny_attempt (wpAny_callSpecial?_slot (name := Str.ofString "__next__") hT F.slot_zip_next (wpAny_call_entry F.slot_zip_next hT F.entry_zip_next (step_end hh D hz hTI hTO u1 u2 v1 v2 hend fun h' e hk he => ?_) (F.args_zip_next_1 _))))
  obtain ⟨o, ho, hc⟩ := he
  exact wpAny_bind (wpAny_isInstance (T := "StopIteration") (b := true) ⟨o, ho, hc⟩ isSubtype_stop (wpAny_pure (hQ _ hk)))
end
/-! zip(..) made -/
def itO (q : Sq) (a : Addr) : Obj := { cls := .type (match q with | .l => "list_iterator" | .t => "tuple_iterator"), data := .fields #[.ref a, .int 0 0] }
abbrev gH1 (p : Sq) (h : Heap) (l1 : Addr) : Heap := h.push (itO p l1)
abbrev gH2 (p q : Sq) (h : Heap) (l1 l2 : Addr) : Heap := (gH1 p h l1).push (itO q l2)
abbrev gH3 (p q : Sq) (h : Heap) (l1 l2 : Addr) : Heap := (gH2 p q h l1 l2).push { cls := .type "tuple", data := .seq #[.ref h.objs.size, .ref (gH1 p h l1).objs.size] }
abbrev gH4 (p q : Sq) (h : Heap) (l1 l2 : Addr) : Heap := (gH3 p q h l1 l2).push { cls := .type "tuple", data := .seq #[.none, .none] }
abbrev gH5 (p q : Sq) (h : Heap) (l1 l2 : Addr) : Heap := (gH4 p q h l1 l2).push { cls := .type "zip", data := .fields #[.none, .bool false, .bool false, .ref (gH2 p q h l1 l2).objs.size, .ref (gH3 p q h l1 l2).objs.size] }
theorem meets_new (p q : Sq) (l1 l2 : Addr) (xs ys : Array Value) :
    Meets (Builtin.«zip.__new__» ⟨[.type "zip", .ref l1, .ref l2], []⟩) (fun _ R s => SqIs p s.heap l1 xs ∧ SqIs q s.heap l2 ys ∧ R (.ok (.ret (.ref (gH4 p q s.heap l1 l2).objs.size))) { s with heap := gH5 p q s.heap l1 l2 }) :=
  .of_wp fun prog w A R s h => by
    obtain ⟨hp, g, d, tk, os⟩ := s
    obtain ⟨h1, h2, h⟩ := h
    have hsub := sub_zip
    cases p with
    | l =>
      have a1 : Heap.IsList (Shared.heap ⟨hp, g, d, tk, os⟩) l1 xs := h1
      cases q with
      | l =>
        have a2 : Heap.IsList (Shared.heap ⟨hp.push { cls := .type "list_iterator", data := .fields #[.ref l1, .int 0 0] }, g, d, tk, os⟩) l2 ys := Heap.IsList.push h2 _
        wp_walk using wpAny_pyIter_list a1, wpAny_pyIter_list a2
        exact ⟨_, rfl, h⟩
      | t =>
        have a2 : Heap.IsTuple (Shared.heap ⟨hp.push { cls := .type "list_iterator", data := .fields #[.ref l1, .int 0 0] }, g, d, tk, os⟩) l2 ys := Heap.IsTuple.push h2 _
        wp_walk using wpAny_pyIter_list a1, wpAny_pyIter_tuple a2
        exact ⟨_, rfl, h⟩
    | t =>
      have a1 : Heap.IsTuple (Shared.heap ⟨hp, g, d, tk, os⟩) l1 xs := h1
      cases q with
      | l =>
        have a2 : Heap.IsList (Shared.heap ⟨hp.push { cls := .type "tuple_iterator", data := .fields #[.ref l1, .int 0 0] }, g, d, tk, os⟩) l2 ys := Heap.IsList.push h2 _
        wp_walk using wpAny_pyIter_tuple a1, wpAny_pyIter_list a2
        exact ⟨_, rfl, h⟩
      | t =>
        have a2 : Heap.IsTuple (Shared.heap ⟨hp.push { cls := .type "tuple_iterator", data := .fields #[.ref l1, .int 0 0] }, g, d, tk, os⟩) l2 ys := Heap.IsTuple.push h2 _
        wp_walk using wpAny_pyIter_tuple a1, wpAny_pyIter_tuple a2
        exact ⟨_, rfl, h⟩
section
variable {prog : Program} {w : World} {A : Around} {E : Value → Shared → Prop} {s : Shared}
theorem itO_at {q : Sq} {h : Heap} {it a : Addr} (e : h.get? it = some (itO q a)) : SqIt q h it a 0 := by
  cases q with
  | l => exact ⟨_, e, rfl, rfl⟩
  | t => exact ⟨_, e, rfl, rfl⟩
theorem call_new {p q : Sq} {l1 l2 : Addr} {xs ys : Array Value} {Q : Value → Shared → Prop} (v1 : SqIs p s.heap l1 xs) (v2 : SqIs q s.heap l2 ys)
    (h : ∀ h', IsZip h' (s.heap.objs.size + 4) (s.heap.objs.size + 2) (s.heap.objs.size + 3) .none → IsPair h' (s.heap.objs.size + 2) (.ref s.heap.objs.size) (.ref (s.heap.objs.size + 1)) →
      IsPair h' (s.heap.objs.size + 3) .none .none → SqIt p h' s.heap.objs.size l1 0 → SqIt q h' (s.heap.objs.size + 1) l2 0 → (∀ c o, s.heap.get? c = some o → h'.get? c = some o) → Q (.ref (s.heap.objs.size + 4)) { s with heap := h' }) :
    wpAny (model prog w) A (call (.type "zip") [.ref l1, .ref l2]) Q E s := by
  refine callType_new F.called_zip (by decide) (F.typeCall_zip_2 _ _) (F.newCall_zip_2 _ _) (fun obj => F.args_object_init_3 obj _ _) F.entry_zip_new (meets_new p q l1 l2 xs ys) ⟨v1, v2, ?_⟩
  have n1 : (gH1 p s.heap l1).objs.size = s.heap.objs.size + 1 := Heap.size_push ..
  have n2 : (gH2 p q s.heap l1 l2).objs.size = s.heap.objs.size + 2 := (Heap.size_push ..).trans (by rw [n1])
  have n3 : (gH3 p q s.heap l1 l2).objs.size = s.heap.objs.size + 3 := (Heap.size_push ..).trans (by rw [n2])
  have n4 : (gH4 p q s.heap l1 l2).objs.size = s.heap.objs.size + 4 := (Heap.size_push ..).trans (by rw [n3])
  have a5 : (gH5 p q s.heap l1 l2).get? (gH4 p q s.heap l1 l2).objs.size = some _ := Heap.get?_push_size _ rfl
  have a4 : (gH5 p q s.heap l1 l2).get? (gH3 p q s.heap l1 l2).objs.size = some _ := Heap.get?_push_of_some _ (Heap.get?_push_size _ rfl)
  have a3 : (gH5 p q s.heap l1 l2).get? (gH2 p q s.heap l1 l2).objs.size = some _ := Heap.get?_push_of_some _ (Heap.get?_push_of_some _ (Heap.get?_push_size _ rfl))
  have a2 : (gH5 p q s.heap l1 l2).get? (gH1 p s.heap l1).objs.size = some (itO q l2) := Heap.get?_push_of_some _ (Heap.get?_push_of_some _ (Heap.get?_push_of_some _ (Heap.get?_push_size _ (by cases q <;> rfl))))
  have a1 : (gH5 p q s.heap l1 l2).get? s.heap.objs.size = some (itO p l1) := Heap.get?_push_of_some _ (Heap.get?_push_of_some _ (Heap.get?_push_of_some _ (Heap.get?_push_of_some _ (Heap.get?_push_size _ (by cases p <;> rfl)))))
  show _ ∧ _
  rw [n2, n3, n4] at a5
  rw [n1, n2] at a3
  rw [n3] at a4
  rw [n1] at a2
  rw [n4]
  exact ⟨⟨_, a5, rfl⟩, h _ a5 a3 a4 (itO_at a1) (itO_at a2) fun c o x => Heap.get?_push_of_some _ (Heap.get?_push_of_some _ (Heap.get?_push_of_some _ (Heap.get?_push_of_some _ (Heap.get?_push_of_some _ x))))⟩
end
/-! as a source of a loop -/
def SqV (q : Sq) (K : PySem.W.Frag) (H : Hp) (a : Addr) (xs : List V) : Prop := match q with
  | .l => SqL K H a xs
  | .t => SqT K H a xs
section
variable {X : Cx} {pins : List (Addr × Obj)} {σ : L2.St} {H : Hp} {s : Shared}
theorem sq_inv {q : Sq} {a : Addr} {xs : List V} (I : L2.Inv X pins σ H s) (h : SqV q X.K H a xs) : ∃ its : List Value, Vals xs its ∧ SqIs q s.heap a its.toArray ∧ a < s.heap.objs.size := by
  cases q with
  | l =>
    obtain ⟨its, r, p, _⟩ := I.list h
    exact ⟨its, r, p.isList, p.lt⟩
  | t =>
    obtain ⟨its, r, p, _⟩ := I.tuple h
    obtain ⟨o, ho, _⟩ := id p
    exact ⟨its, r, p, Heap.lt_size ho⟩
theorem sq_inj {q : Sq} {a : Addr} {xs ys : List V} (I : L2.Inv X pins σ H s) (h : SqV q X.K H a xs) (k : SqV q X.K H a ys) : xs = ys := by
  cases q with
  | l => exact I.list_inj h k
  | t => exact I.tuple_inj h k
end
def ItzM (p q : Sq) (K : PySem.W.Frag) (a b : Addr) : It :=
  ⟨fun i H => ∃ (xs ys : List V) (x y : V), SqV p K H a xs ∧ SqV q K H b ys ∧ xs[i]? = some x ∧ ys[i]? = some y,
    fun i H v H' => ∃ T x y, v = .ref T ∧ H T = none ∧ H' = upd H T (.tup [x, y]) ∧ (∀ xs, SqV p K H a xs → xs[i]? = some x) ∧ ∀ ys, SqV q K H b ys → ys[i]? = some y,
    fun i H => ∃ xs ys : List V, SqV p K H a xs ∧ SqV q K H b ys ∧ (xs.length ≤ i ∨ ys.length ≤ i)⟩
theorem turn_m {p q : Sq} {P : Program} {w : World} {K : PySem.W.Frag} {elts : List Expr} {kk : Nat} {tpos : Pos} {a b z TI TO i1 i2 : Addr} (D : ZipApart z TI TO i1 i2 a b) :
    Turn P w K (.Tuple elts kk tpos) (ItzM p q K a b) [z, TI, TO, i1, i2] z (fun i h => IsZip h z TI TO .none ∧ IsPair h TI (.ref i1) (.ref i2) ∧ (∃ x y, IsPair h TO x y) ∧ SqIt p h i1 a i ∧ SqIt q h i2 b i) where
  mem := by simp
  obj := fun i h st c hc => by
    obtain ⟨hz, hTI, ⟨x, y, hTO⟩, u1, u2⟩ := st
    obtain ⟨o1, _, e1, d1⟩ := u1.obj
    obtain ⟨o2, _, e2, d2⟩ := u2.obj
    simp only [List.mem_cons, List.not_mem_nil, or_false] at hc
    rcases hc with rfl | rfl | rfl | rfl | rfl
    · exact ⟨_, hz, fun v q => nomatch q⟩
    · exact ⟨_, hTI, fun v q => nomatch q⟩
    · exact ⟨_, hTO, fun v q => nomatch q⟩
    · exact ⟨o1, e1, fun v q => by rw [d1] at q; cases q⟩
    · exact ⟨o2, e2, fun v q => by rw [d2] at q; cases q⟩
  keep := fun i h h' st k => by
    obtain ⟨hz, hTI, ⟨x, y, hTO⟩, u1, u2⟩ := st
    exact ⟨k z (by simp) _ hz, k TI (by simp) _ hTI, ⟨x, y, k TO (by simp) _ hTO⟩, u1.put fun o e => k i1 (by simp) o e, u2.put fun o e => k i2 (by simp) o e⟩
  item := by
    intro X hP hw hK hc i pins s σ H E I hf st hg
    subst hP hw hK
    obtain ⟨hz, hTI, ⟨x0, y0, hTO⟩, u1, u2⟩ := st
    obtain ⟨xs, ys, x, y, hqx, hqy, hx, hy⟩ := hg
    obtain ⟨its, rv, v1, _⟩ := sq_inv I hqx
    obtain ⟨its2, rv2, v2, _⟩ := sq_inv I hqy
    obtain ⟨u, hu, ru⟩ := rv.get hx
    obtain ⟨u', hu', ru'⟩ := rv2.get hy
    have zl : z < s.heap.objs.size := Heap.lt_size hz
    refine next_item D hz hTI hTO u1 u2 v1 v2 (x := u) (y := u') (by simpa using hu) (by simpa using hu') fun h' z' t' w1 w2 hT hsz hk => ?_
    refine ⟨_, rfl, wpAny_letOwnedTupleGo_zip (s := { s with heap := h' }) z' fun h'' z'' sb => ?_⟩
    have hT2 : h''.get? s.heap.objs.size = some { cls := .type "tuple", data := .seq #[u, u'] } := (sb.2 _ (Nat.ne_of_gt zl)).trans hT
    have new : ObjOk X.prog X.w (upd H s.heap.objs.size (.tup [x, y])) h'' s.heap.objs.size (.tup [x, y]) := ⟨by show 2 ≤ sizeLine; decide, [u, u'], .cons ru (.cons ru' .nil), ⟨_, hT2, rfl, _, rfl⟩⟩
    have I1 : L2.Inv X pins σ (upd H s.heap.objs.size (.tup [x, y])) { s with heap := h'' } :=
      I.turnedNew (t' := s.toks) (ch := [z, TI, TO, i1, i2]) (fun c o hb e => (sb.2 c (fun n => hb (by simp [n]))).trans (hk c o (fun n => hb (by simp [n])) (fun n => hb (by simp [n])) (fun n => hb (by simp [n])) (fun n => hb (by simp [n])) e)) hf (Nat.le_refl _) new
    refine ⟨.ref s.heap.objs.size, _, I1, rfl, ⟨_, x, y, rfl, I.hok.fresh (Nat.le_refl _), rfl, fun l hl => by rw [sq_inj I hl hqx]; exact hx, fun l hl => by rw [sq_inj I hl hqy]; exact hy⟩, ⟨z'', ?_, ⟨u, u', ?_⟩, ?_, ?_⟩, fun c hcm => ?_⟩
    · exact (sb.2 _ D.TIz).trans (hk _ _ D.TIz D.TITO D.TIi1 D.TIi2 hTI)
    · exact (sb.2 _ D.TOz).trans t'
    · exact w1.put fun o e => (sb.2 _ D.i1z).trans e
    · exact w2.put fun o e => (sb.2 _ D.i2z).trans e
    · have lt : c < s.heap.objs.size := by
        obtain ⟨_, _, e1, _⟩ := u1.obj
        obtain ⟨_, _, e2, _⟩ := u2.obj
        simp only [List.mem_cons, List.not_mem_nil, or_false] at hcm
        rcases hcm with rfl | rfl | rfl | rfl | rfl
        · exact zl
        · exact Heap.lt_size hTI
        · exact Heap.lt_size hTO
        · exact Heap.lt_size e1
        · exact Heap.lt_size e2
      rw [upd_ne (Nat.ne_of_lt lt)]
      exact (hf c hcm).1
  done := by
    intro X hP hw hK hc i pins s σ H E I hf st hg
    subst hP hw hK
    obtain ⟨hz, hTI, ⟨x0, y0, hTO⟩, u1, u2⟩ := st
    obtain ⟨xs, ys, hqx, hqy, hend⟩ := hg
    obtain ⟨its, rv, v1, _⟩ := sq_inv I hqx
    obtain ⟨its2, rv2, v2, _⟩ := sq_inv I hqy
    have l1 := rv.length
    have l2 := rv2.length
    have he : its.toArray[i]? = none ∨ its2.toArray[i]? = none := by
      rcases hend with e | e
      · exact .inl (by simp; omega)
      · exact .inr (by simp; omega)
    exact next_end (I.ok.hd hc) D hz hTI hTO u1 u2 v1 v2 he fun h' hk => ⟨rfl, I.turnedL (t' := s.toks) (ch := [z, TI, TO, i1, i2]) (fun c o hb e =>
      hk c o (fun n => hb (by simp [n])) (fun n => hb (by simp [n])) (fun n => hb (by simp [n])) (fun n => hb (by simp [n])) e) hf⟩
  self := fun A i s Q E st h => wpAny_pyIter_zip st.1 h
def iZipM (K : PySem.W.Frag) (ta : TA) : TI := fun σ H R => ta σ H fun vs H1 => ∃ p q a b xs ys, vs = [.ref a, .ref b] ∧ SqV p K H1 a xs ∧ SqV q K H1 b ys ∧ R (ItzM p q K a b) H1
theorem pi_zipM {X : Cx} {e e2 : Expr} {ta : TA} {p0 pos tpos : Pos} {elts : List Expr} {kk : Nat} (hg : Gl X "zip") (hm : X.mg "zip" = none) (ha : PA X [e, e2] ta)
    (hs : starEach [e, e2] X.env = (false, eval e X.env) :: starEach [e2] X.env := by rfl) (hpl : (backTo pos (starEach [e2] X.env)).any (·.1) = false := by rfl) :
    PI X (.Tuple elts kk tpos) (.Call (.Name "zip" p0) [e, e2] [] pos) (iZipM X.K ta) := by
  refine ⟨fun pins s σ H R I h => Call_ (ld_blt I hg hm PyProof.Rows.boot_zip (PyProof.Rows.callWith_type1 (thn (ha.run pos pins s σ H _ I h) fun us s1 ⟨vs, H1, I1, r1, q1⟩ => ?_) hs hpl))⟩
  obtain ⟨p, q, a, b, xs, ys, rfl, hqx, hqy, hR⟩ := q1
  cases r1 with
  | cons r rr =>
    cases rr with
    | cons r' rr =>
      cases rr
      cases r
      cases r'
      obtain ⟨its, rv, v1, lt1⟩ := sq_inv I1 hqx
      obtain ⟨its2, rv2, v2, lt2⟩ := sq_inv I1 hqy
      refine call_new v1 v2 fun h' hz hTI hTO w1 w2 hk => wpAny_pyIter_zip hz ?_
      have I2 : L2.Inv X pins σ H1 { s1 with heap := h' } := I1.kept (t' := s1.toks) hk
      have fr : ∀ c, c ∈ [s1.heap.objs.size + 4, s1.heap.objs.size + 2, s1.heap.objs.size + 3, s1.heap.objs.size, s1.heap.objs.size + 1] → FpOk X pins H1 c := fun c hcm => by
        simp only [List.mem_cons, List.not_mem_nil, or_false] at hcm
        have le : s1.heap.objs.size ≤ c := by omega
        exact I1.fpOk le (I1.hok.fresh le)
      exact ⟨s1.heap.objs.size + 4, [s1.heap.objs.size + 4, s1.heap.objs.size + 2, s1.heap.objs.size + 3, s1.heap.objs.size, s1.heap.objs.size + 1], _, _, H1, rfl, I2, turn_m (PySem.W.ktu_apart s1.heap.objs.size a b lt1 lt2), ⟨hz, hTI, ⟨_, _, hTO⟩, w1, w2⟩, fr, hR⟩
end Lz
end
section
set_option Elab.async false
set_option linter.all false
set_option maxRecDepth 100000
/-! zip of any two sequences, in the value layer -/
namespace Lp
open PySem PySem.Spec PyProof.Rows L2
open Lz
section
variable {G : GW} {K : PySem.W.Frag} {B : Hp} {F0 : Hp}
theorem SqV_same {q : Sq} {H : Hp} {a : Addr} {xs : List V} (s : Same B H) (h : SqV q K B a xs) : SqV q K H a xs := by
  cases q with
  | l => exact Same.seq s h
  | t => exact Same.sqt s h
theorem Itp.zipM {p q : Sq} {a b : Addr} {vs ws : List V} {ps qs : List PV} (hB : SqV p K B a vs) (hB2 : SqV q K B b ws) (r : Reps G K F0 vs ps) (r2 : Reps G K F0 ws qs) (hl : ps.length ≤ sizeLine) : Itp G K (ItzM p q K a b) B F0 (zipP ps qs) where
  len := by rw [zipP_len]; omega
  go i H s hi := by
    rw [zipP_len] at hi
    obtain ⟨v, e, _⟩ := r.get (List.getElem?_eq_getElem (show i < ps.length by omega))
    obtain ⟨v2, e2, _⟩ := r2.get (List.getElem?_eq_getElem (show i < qs.length by omega))
    exact ⟨vs, ws, v, v2, SqV_same s hB, SqV_same s hB2, e, e2⟩
  stop H s := ⟨vs, ws, SqV_same s hB, SqV_same s hB2, by rw [zipP_len, r.length, r2.length]; omega⟩
  yld i x H H' F p s s0 sF hy hp := by
    obtain ⟨T, x', y', rfl, nT, rfl, hx, hy⟩ := hy
    obtain ⟨c, d, hc, hd, rfl⟩ := zipP_get hp
    obtain ⟨v, e, rv⟩ := r.get hc
    obtain ⟨v2, e2, rv2⟩ := r2.get hd
    have := (hx vs (SqV_same s hB)).symm.trans e
    cases this
    have := (hy ws (SqV_same s hB2)).symm.trans e2
    cases this
    exact rep_pair sF nT (rv.mono s0) (rv2.mono s0)
end
def seqP : PV → Option (Sq × List PV)
  | .lst xs => some (.l, xs)
  | .tup xs => some (.t, xs)
  | _ => none
theorem seqP_inv {G : GW} {K : PySem.W.Frag} {F : Hp} {v : V} {z : PV} {q : Sq} {xs : List PV} (r : Rep G K F v z) (e : seqP z = some (q, xs)) : ∃ a vs, v = .ref a ∧ SqV q K F a vs ∧ Reps G K F vs xs := by
  unfold seqP at e
  split at e
  · cases e
    obtain ⟨a, vs, rfl, hS, rr⟩ := r.lst_inv
    exact ⟨a, vs, rfl, .inl hS, rr⟩
  · cases e
    obtain ⟨a, vs, rfl, hS, rr⟩ := r.tup_inv
    exact ⟨a, vs, rfl, hS, rr⟩
  · cases e
def pZipA : List PV → Option (List PV)
  | [a, b] => match seqP a, seqP b with
    | some (_, xs), some (_, ys) => if xs.length ≤ 1000000 then some (zipP xs ys) else none
    | _, _ => none
  | _ => none
theorem g_zipA {G : GW} {K : PySem.W.Frag} : IfV (fun vs H1 R => ∃ p q a b xs ys, vs = [.ref a, .ref b] ∧ SqV p K H1 a xs ∧ SqV q K H1 b ys ∧ R (ItzM p q K a b) H1) G K pZipA := by
  intro F H xs ps zs R s r hz k
  unfold pZipA at hz
  split at hz
  · split at hz
    · rename_i e1 e2
      split at hz
      · rename_i hl
        cases hz
        obtain ⟨v, w, rfl, rv, rw'⟩ := r.two
        obtain ⟨a, vs, rfl, hS, rr⟩ := seqP_inv rv e1
        obtain ⟨b, ws, rfl, hS2, rr2⟩ := seqP_inv rw' e2
        exact ⟨_, _, a, b, vs, ws, rfl, SqV_same s hS, SqV_same s hS2, k _ (Itp.zipM hS hS2 rr rr2 (by rw [sizeLine_eq]; omega))⟩
      · cases hz
    · cases hz
  · cases hz
section
variable {G : GW} {X : Cx} {κ : Kd} {E : L2.St → XK} {a b : Expr} {pos p' tpos : Pos} {f : LE → Res (List PV)} {elts : List Expr} {kk : Nat}
theorem i_zipM (hm : X.mg "zip" = none) (ha : PA X [a, b] (tA G X.K .sh E κ f)) (hg : Gl X "zip" := by rfl) (hs : starEach [a, b] X.env = (false, eval a X.env) :: starEach [b] X.env := by rfl) (hpl : (backTo pos (starEach [b] X.env)).any (·.1) = false := by rfl) :
    PI X (.Tuple elts kk tpos) (.Call (.Name "zip" p') [a, b] [] pos) (tI G X.K true E κ (iFn pZipA f)) := pi_weak (pi_zipM hg hm ha hs hpl) fun _ _ _ h => w_ifn g_zipA h
end
end Lp
end
section
set_option Elab.async false
set_option linter.all false
set_option maxRecDepth 100000
/-! several clauses, each with a name -/
namespace Lt
open PySem PySem.Spec PyProof.Rows L2
abbrev CT := Value × Nat × (Addr → Value → Option Addr → TS)
/-- the ends of a suite whose name goes -/
def endN (i : Nat) (D : Ends) : Ends := { nx := fun σ' H' => D.nx (σ'.set i none) H', rt := D.rt, bk := fun σ' H' => D.bk (σ'.set i none) H', ct := fun σ' H' => D.ct (σ'.set i none) H' }
def wMA (K : PySem.W.Frag) (Wout : WX) (D : Ends) : List CT → WX
  | [] => Wout
  | z :: r => fun cls d σ H => ∃ b, PySem.W.exmOne K cls z.1 = some b ∧ (b = true → ∀ a, H a = none → z.2.2 a cls d (endN z.2.1 D) (σ.set z.2.1 (some (.ref a))) H) ∧ (b = false → wMA K Wout D r cls d σ H)
inductive HdA (X : Cx) : List ExceptHandler → List CT → Prop
  | nil : HdA X [] []
  | cons {x n : Str} {c : Value} {i : Nat} {ts : Addr → Value → Option Addr → TS} {b₀ : Stmt} {suite : List Stmt} {np pos' : Pos} {hds : List ExceptHandler} {l : List CT}
      (hi : X.N[i]? = some n) (hln : X.env.kindOf n = some .local) (hc : Names X x c)
      (hsu : ∀ (a : Addr) (oe : Obj) (cls : Value) (d : Option Addr) (pn : List (Addr × Obj)), Zc cls d oe → (∃ vs, oe.data = .fields vs) → PSs (X.suite a ((a, oe) :: pn)) (b₀ :: suite) (ts a cls d))
      (r : HdA X hds l) : HdA X (.ExceptHandler (some (.Name x np)) (some n) (b₀ :: suite) pos' :: hds) ((c, i, ts) :: l)
section
variable {X : Cx} {body : List Stmt} {h₀ : ExceptHandler} {hds : List ExceptHandler} {l : List CT} {pos : Pos} {tb : WX → TS} {Wout : WX}
theorem ps_try_nm (hs : X.stack = X.env :: X.outer) (hf : X.env.frame = some X.env.locals) (hN : X.N.Nodup) (tk : Takes X Wout)
    (hb : ∀ (W : WX) (pn : List (Addr × Obj)) (xe : Value → Shared → Prop), Takes (X.tr pn xe) W → PassesOwn (model X.prog X.w) X.A X.env xe → PSs (X.tr pn xe) body (tb W))
    (hh : HdA X (h₀ :: hds) l) : PS X (.Try body (h₀ :: hds) [] [] pos) (fun D σ H => tb (wMA X.K Wout D l) D σ H) := by
  refine ⟨fun pins s σ H D I h => ?_⟩
  have ok := I.ok
  have hfr : X.A.frames = some (X.env :: X.outer) := by rw [ok.frames, hs]
  refine wpAny_Try_except ?_
  refine wpAny_mono ((hb (wMA X.K Wout D l) (X.pn ++ pins) (fun e s₁ => wpAny (model X.prog X.w) X.A (noteFrame e X.env) (fun _ s₂ => wpAny (model X.prog X.w) X.A (setFlight e none) (fun _ s₃ =>
    wpAny (model X.prog X.w) X.A (handleBy e X.env (h₀ :: hds)) (SP X pins D) X.xe s₃) X.xe s₂) X.xe s₁) (fun u s' xx => ?_) PassesOwn.looking).run [] s σ H D (I.toTry _) h) (fun f s1 hsp => ?_) (fun e s1 he => he)
  · obtain ⟨a, B, sI, pins', σ', H', cls, d, rfl, J', nb, up, sky, na, os, ag, w⟩ := xx
    have J : Inv X pins σ' H' sI := J'.ofTry ok
    have sky' : Sky B (X.env :: X.outer) a (Zc cls d) X.env.locals s'.heap := by rw [← hs]; exact sky
    show wpAny (model X.prog X.w) X.A (noteFrame (.ref a) X.env) _ _ _
    refine Sky.land Zc.steady hfr hf sky' fun h3 fl3 up3 => ?_
    have J3 : Inv X pins σ' H' { s' with heap := h3 } := J.landed nb fl3.1 (up.trans up3) os ag
    obtain ⟨oe3, vs3, he3, hz3, hd3⟩ := fl3.there
    have nfr : a ∉ frs (X.env :: X.outer) := fun hm => by
      obtain ⟨_, o', e', hnf⟩ := fl3.2.2.1.mem hm
      rw [he3] at e'; cases e'
      exact hnf _ hd3
    have nL : a ≠ X.env.locals := fun z => nfr (List.mem_filterMap.mpr ⟨X.env, List.mem_cons_self, by rw [hf, z]⟩)
    have nF : a ∉ X.fs := fun hm => by
      obtain ⟨e, he, q⟩ := List.mem_filterMap.mp hm
      exact nfr (List.mem_filterMap.mpr ⟨e, List.mem_cons_of_mem _ he, q⟩)
    have S3 := J3.suite he3 hd3 na nL nF
    have go : ∀ {hd : List ExceptHandler} {l' : List CT}, HdA X hd l' → wMA X.K Wout D l' cls d σ' H' → wpAny (model X.prog X.w) X.A (handleBy (.ref a) X.env hd) (SP X pins D) X.xe { s' with heap := h3 } := by
      intro hd l' hk
      induction hk with
      | nil =>
        intro w
        refine wpAny_handleBy_nil ?_
        obtain ⟨k1, k2, k3, oe, vs, T, oT, ts', he, hz, hd, h1, hr⟩ := id fl3
        unfold PySem.passOn
        refine wpAny_bind (wpAny_field he hd h1 ?_)
        rw [if_neg (show ¬ ((Value.ref T == Value.none) = true) from by simp)]
        have fin : wpAny (model X.prog X.w) X.A (setFlight (.ref a) X.env.frame) (fun _ s4 => wpAny (model X.prog X.w) X.A (throw (.ref a) : Sem Flow) (SP X pins D) X.xe s4) X.xe { s' with heap := h3 } := by
          rw [hf]
          refine HandSPX.setFlight_upZ fl3 fun h4 hh4 up4 => wpAny_throw (tk _ _ ?_)
          exact ⟨a, B, sI, pins, σ', H', cls, d, rfl, J, nb, (up.trans up3).trans up4, .inr (.inr (by rw [hs]; exact hh4)), na, os, ag, w⟩
        first
          | exact wpAny_bind (wpAny_pure (wpAny_bind fin))
          | exact wpAny_bind fin
      | @cons x n c i ts b₀ suite np pos' hd2 l2 hi hln hc hsu r ih =>
        intro w
        obtain ⟨b, hb1, hyes, hno⟩ := w
        have hloc : Loc X.env.scope n := .inl hln
        refine wpAny_handleBy_cons (codeAny_handlers_test ?_) (by intro q; cases q)
        have LT : PySem.W.Looks (model X.prog X.w) h3 (typeOf (.ref a)) cls := fun A Q E s k q => wpAny_typeOf_ref (k _ _ he3) (by rw [hz3.1]; exact q)
        have LM := PySem.W.exm_one (M := model X.prog X.w) (J3.kIn) LT hb1
        have test : ∀ {Q : Value → Shared → Prop} {E : Value → Shared → Prop}, Q c { s' with heap := h3 } → wpAny (model X.prog X.w) (X.A.mark (some (.ref a))) (eval (.Name x np) X.env) Q E { s' with heap := h3 } := fun {Q E} q => by
          obtain ⟨hg, hdbg, hm | ⟨hm, hv, hnn⟩⟩ := hc
          · exact ld_glob (X := X.suite a ((a, oe3) :: (X.pn ++ pins))) S3 hg hm q hdbg
          · exact ld_blt (X := X.suite a ((a, oe3) :: (X.pn ++ pins))) S3 hg hm hv q hnn hdbg
        refine test (LM.here ?_)
        cases b with
        | true =>
          refine codeAny_handlers_suite_as ?_
          refine HandSPX.lands_againZ fl3 fun h4 fl4 up4 => ?_
          have J4 : Inv X pins σ' H' { s' with heap := h4 } := J.landed nb fl4.1 ((up.trans up3).trans up4) os ag
          obtain ⟨oe4, vs4, he4, hz4, hd4⟩ := fl4.there
          have S4 := J4.suite he4 hd4 na nL nF
          refine store_ok (X := X.suite a ((a, oe4) :: (X.pn ++ pins))) (v := .ref a) S4 hN hi hloc rfl (fun s5 S5 => ?_) (.inr hln)
          refine wpAny_mono ((hsu a oe4 cls d (X.pn ++ pins) hz4 ⟨_, hd4⟩).run [] s5 _ H' _ S5 (hyes rfl a na)) (fun f s6 hsp => ?_) (fun _ _ z => False.elim z)
          have end_ : ∀ {σ6 : L2.St} {H6 : Hp} {Q : Shared → Prop}, Inv (X.suite a ((a, oe4) :: (X.pn ++ pins))) [] σ6 H6 s6 → (∀ s7, Inv X pins (σ6.set i none) H6 s7 → Q s7) →
              wpAny (model X.prog X.w) X.A (do bindName X.env n .none; unbindBehindTheSuite X.env n pos') (fun _ s7 => Q s7) X.xe s6 := fun {σ6 H6 Q} S6 hq => gone_ok (S6.unsuite ok) hN hi hln hq
          cases f with
          | next =>
            obtain ⟨σ6, H6, S6, q6⟩ := hsp
            exact end_ S6 fun s7 J7 => ⟨_, _, J7, q6⟩
          | brk =>
            obtain ⟨σ6, H6, S6, q6⟩ := hsp
            exact end_ S6 fun s7 J7 => ⟨_, _, J7, q6⟩
          | cont =>
            obtain ⟨σ6, H6, S6, q6⟩ := hsp
            exact end_ S6 fun s7 J7 => ⟨_, _, J7, q6⟩
          | ret u =>
            obtain ⟨v6, σ6, H6, S6, r6, q6⟩ := hsp
            exact end_ S6 fun s7 J7 => ⟨_, _, _, J7, r6, q6⟩
        | false =>
          show wpAny _ X.A (handleBy (.ref a) X.env hd2) _ _ _
          exact ih (hno rfl)
    exact go hh w
  · cases f with
    | next =>
      obtain ⟨σ', H', J', q⟩ := hsp
      exact wpAny_execs_nil ⟨σ', H', J'.ofTry ok, q⟩
    | brk =>
      obtain ⟨σ', H', J', q⟩ := hsp
      exact ⟨σ', H', J'.ofTry ok, q⟩
    | cont =>
      obtain ⟨σ', H', J', q⟩ := hsp
      exact ⟨σ', H', J'.ofTry ok, q⟩
    | ret u =>
      obtain ⟨v, σ', H', J', r, q⟩ := hsp
      exact ⟨v, σ', H', J'.ofTry ok, r, q⟩
end
end Lt
end
section
set_option Elab.async false
set_option linter.all false
set_option maxRecDepth 100000
namespace Lp
open PySem PySem.Spec L2
/-! several clauses, each with a name -/
abbrev MH := (Nat → Option Bool) × Nat × (Addr → Addr → Nat → LE → Fl)
def pickH : List MH → Nat → List (Str × PV) → LE → Fl
  | [], c, fs, τ1 => .ex c fs τ1
  | h :: r, c, fs, τ1 => match h.1 c with
    | some true => if h.2.1 < τ1.length then tidy h.2.1 (h.2.2 0 0 c (τ1.set h.2.1 (some (.exn 0 0 c fs)))) else .bad
    | some false => pickH r c fs τ1
    | none => .bad
def sTryN (hs : List MH) (mb : LE → Fl) : LE → Fl := fun τ => match mb τ with
  | .ex c fs τ1 => pickH hs c fs τ1
  | r => r
section
variable {G : GW} {F H F' H' F0 H0 : Hp} {X : Cx} {κ : Kd} {W : WX} {rm : Mode} {zs : Option Addr} {σ : St} {τ : LE} {body : List Stmt} {pos : Pos} {mb : LE → Fl}
def tsH (G : GW) (K : PySem.W.Frag) (κ : Kd) (rm : Mode) (h : MH) : Addr → Value → Option Addr → TS := fun a cls d D σ H => ∃ c dd, cls = .ref (G c) ∧ d = some dd ∧ h.1 c = some true ∧ tStm G K (fun _ _ _ _ => False) κ rm (h.2.2 a dd c) D σ H
inductive HvOk (G : GW) (X : Cx) (κ : Kd) (rm : Mode) : List ExceptHandler → List (Value × MH) → Prop
  | nil : HvOk G X κ rm [] []
  | cons {x n : Str} {cv : Value} {h : MH} {b₀ : Stmt} {suite : List Stmt} {np pos' : Pos} {hds : List ExceptHandler} {l : List (Value × MH)}
      (hcov : ∀ c b, h.1 c = some b → PySem.W.exmOne X.K (.ref (G c)) cv = some b)
      (hind : ∀ a d c fs (τ : LE), tidy h.2.1 (h.2.2 a d c (τ.set h.2.1 (some (.exn a d c fs)))) = tidy h.2.1 (h.2.2 0 0 c (τ.set h.2.1 (some (.exn 0 0 c fs)))))
      (hc : Names X x cv)
      (hsu : ∀ (a d : Addr) (oe : Obj) (pn : List (Addr × Obj)) (c : Nat), h.1 c = some true → Zc (.ref (G c)) (some d) oe → (∃ vs, oe.data = .fields vs) → PSs (X.suite a ((a, oe) :: pn)) (b₀ :: suite) (tStm G X.K (fun _ _ _ _ => False) κ rm (h.2.2 a d c)))
      (r : HvOk G X κ rm hds l)
      (k : κ h.2.1 = false := by rfl) (hi : X.N[h.2.1]? = some n := by rfl) (hln : X.env.kindOf n = some .local := by rfl) :
      HvOk G X κ rm (.ExceptHandler (some (.Name x np)) (some n) (b₀ :: suite) pos' :: hds) ((cv, h) :: l)
theorem HvOk.hda {hds : List ExceptHandler} {l : List (Value × MH)} (h : HvOk G X κ rm hds l) : Lt.HdA X hds (l.map fun z => (z.1, z.2.2.1, tsH G X.K κ rm z.2)) := by
  induction h with
  | nil => exact .nil
  | cons hcov hind hc hsu r k hi hln ih =>
    refine .cons hi hln hc (fun a oe cls d pn hz hfl => ⟨fun pins s σ H D I ⟨c, dd, e1, e2, e3, h⟩ => ?_⟩) ih
    subst e1 e2
    exact (hsu a dd oe pn c e3 hz hfl).run pins s σ H D I h
def PO (G : GW) (K : PySem.W.Frag) (W : WX) (κ : Kd) (rm : Mode) (D : Ends) (F0 H0 : Hp) (zs : Option Addr) (r : Fl) : Prop := match r with
  | .nx τ' => ∀ σ' F' H', Ls G K κ zs F0 H0 F' H' σ' τ' → D.nx σ' H'
  | .bk τ' => ∀ σ' F' H', Ls G K κ zs F0 H0 F' H' σ' τ' → D.bk σ' H'
  | .ct τ' => ∀ σ' F' H', Ls G K κ zs F0 H0 F' H' σ' τ' → D.ct σ' H'
  | .rt p => ∀ v F' H', Ext F0 H0 F' H' → RM G K rm H0 F' H' v p → D.rt v H'
  | .ex c ps τ' => ∀ σ' F' H' d fs, Ls G K κ zs F0 H0 F' H' σ' τ' → F' d = some (.xd fs) → RepF G K F' fs ps → W (.ref (G c)) (some d) σ' H'
  | .bad => False
theorem HvOk.pick {hds : List ExceptHandler} {l : List (Value × MH)} (h : HvOk G X κ rm hds l) {D : Ends} {σ' : St} {c : Nat} {d : Addr} {fs : List (Str × PV)} {fs' : List (Str × V)} {τ1 : LE} (l' : Ls G X.K κ zs F0 H0 F' H' σ' τ1) (h1 : F' d = some (.xd fs')) (h2 : RepF G X.K F' fs' fs)
    (q : PO G X.K W κ rm D F0 H0 zs (pickH (l.map (·.2)) c fs τ1)) : Lt.wMA X.K W D (l.map fun z => (z.1, z.2.2.1, tsH G X.K κ rm z.2)) (.ref (G c)) (some d) σ' H' := by
  induction h with
  | nil => exact q σ' F' H' d fs' l' h1 h2
  | @cons x n cv h b₀ suite np pos' hds l hcov hind hc hsu r k hi hln ih =>
    rw [List.map_cons] at q ⊢
    unfold pickH at q
    cases hcv : h.1 c with
    | none => simp only [hcv] at q; exact q.elim
    | some b =>
      refine ⟨b, hcov c b hcv, fun hbt => ?_, fun hbf => ?_⟩
      · subst hbt
        simp only [hcv] at q
        by_cases hlt : h.2.1 < τ1.length
        · rw [if_pos hlt] at q
          refine fun a ha => ⟨c, d, rfl, rfl, hcv, F0, H0, F', τ1.set h.2.1 (some (.exn a d c fs)), zs, l'.set k hlt (.exn h1 h2), ?_⟩
          rw [← hind a d c fs τ1] at q
          cases hm : h.2.2 a d c (τ1.set h.2.1 (some (.exn a d c fs))) with
          | ex c fs τ2 => rw [hm] at q; exact q.elim
          | bad => rw [hm] at q; exact q.elim
          | rt p => rw [hm] at q; exact q
          | nx τ2 => rw [hm] at q; exact fun σ2 F2 H2 l2 => q _ F2 H2 (l2.clear k)
          | bk τ2 => rw [hm] at q; exact fun σ2 F2 H2 l2 => q _ F2 H2 (l2.clear k)
          | ct τ2 => rw [hm] at q; exact fun σ2 F2 H2 l2 => q _ F2 H2 (l2.clear k)
        · rw [if_neg hlt] at q; exact q.elim
      · subst hbf
        simp only [hcv] at q
        exact ih q
theorem s_tryN {h₀ : ExceptHandler} {hds : List ExceptHandler} (l : List (Value × MH)) {ml : List MH} (tk : Takes X W)
    (hb : ∀ (W : WX) (pn : List (Addr × Obj)) (xe : Value → Shared → Prop), Takes (X.tr pn xe) W → PassesOwn (model X.prog X.w) X.A X.env xe → PSs (X.tr pn xe) body (tStm G X.K (WE W) κ rm mb))
    (hh : HvOk G X κ rm (h₀ :: hds) l) (hN : X.N.Nodup) (hm : l.map (·.2) = ml := by rfl)
    (hs : X.stack = X.env :: X.outer := by rfl) (hf : X.env.frame = some X.env.locals := by rfl) :
    PS X (.Try body (h₀ :: hds) [] [] pos) (tStm G X.K (WE W) κ rm (sTryN ml mb)) := by
  subst hm
  refine ps_weak (Lt.ps_try_nm (tb := fun W => tStm G X.K (WE W) κ rm mb) hs hf hN tk hb hh.hda) fun D σ H ⟨F0, H0, F, τ, zs, l, q⟩ => ?_
  refine ⟨F0, H0, F, τ, zs, l, ?_⟩
  unfold sTryN at q
  cases h : mb τ with
  | nx τ' => simp only [h] at q; exact q
  | bk τ' => simp only [h] at q; exact q
  | ct τ' => simp only [h] at q; exact q
  | rt p => simp only [h] at q; exact q
  | bad => simp only [h] at q
  | ex c fs τ1 =>
    simp only [h] at q
    exact fun σ' F' H' d fs' l' h1 h2 => hh.pick l' h1 h2 q
end
end Lp
end
section
set_option Elab.async false
set_option linter.all false
set_option maxRecDepth 100000
/-! texts joined, texts sorted, index, keys listed -/
namespace Lp
open PySem PySem.Spec L2
section
variable {G : GW} {K : PySem.W.Frag} {F H F' H' F0 H0 : Hp} {X : Cx} {κ : Kd} {E : L2.St → XK} {m : Mode} {e o : Expr} {es : List Expr} {f fo : LE → Res PV} {pos apos cpos : Pos}
def strsOf : List PV → Option (List Str)
  | [] => some []
  | .str b :: xs => (strsOf xs).map (b :: ·)
  | _ => none
theorem Reps.strs : ∀ {vs : List V} {ps : List PV} {bs : List Str}, Reps G K F vs ps → strsOf ps = some bs → vs = bs.map V.str
  | _, _, _, .nil, h => by simp [strsOf] at h; subst h; rfl
  | _, _, _, .cons (p := p) (ps := ps) r rs, h => by
    cases p <;> simp only [strsOf] at h <;> try cases h
    cases hb : strsOf ps with
    | none => rw [hb] at h; cases h
    | some bs' =>
      rw [hb] at h
      cases h
      rw [Rep.str_inv r, Reps.strs rs hb]
      rfl
theorem reps_strs (F : Hp) : ∀ bs : List Str, Reps G K F (bs.map V.str) (bs.map PV.str)
  | [] => .nil
  | b :: bs => .cons (.str b) (reps_strs F bs)
theorem strsOf_map (bs : List Str) : strsOf (bs.map PV.str) = some bs := by
  induction bs with
  | nil => rfl
  | cons b bs ih => rw [List.map_cons, strsOf, ih]; rfl
/-! sep.join(..) -/
def joinOk (S : Str) (ps : List PV) : Option PV := match strsOf ps with
  | some ys => if (ys.map (·.length)).sum + ys.length * S.length ≤ 1000000 then some (.str (Txt.join S ys)) else none
  | none => none
def pJoin (S : Str) : PV → Option PV
  | .lst ps => joinOk S ps
  | .tup ps => joinOk S ps
  | _ => none
def rJn (K : PySem.W.Frag) (S : Str) : V → Hp → VK → Prop := fun y H Q => ∃ a p, ∃ ys : List Str, V.str S = .str a ∧ [y] = [.ref p] ∧ (SqL K H p (ys.map V.str) ∨ SqT K H p (ys.map V.str)) ∧ (ys.map (·.length)).sum + ys.length * a.length ≤ 16777216 ∧ Q (.str (Txt.join a ys)) H
theorem joinOk_some {S : Str} {ps : List PV} {z : PV} (h : joinOk S ps = some z) : ∃ ys, strsOf ps = some ys ∧ (ys.map (·.length)).sum + ys.length * S.length ≤ 1000000 ∧ z = .str (Txt.join S ys) := by
  unfold joinOk at h
  split at h
  · rename_i ys hy
    split at h
    · rename_i hl
      cases h
      exact ⟨ys, hy, hl, rfl⟩
    · cases h
  · cases h
theorem g_join (S : Str) : UnV G K (rJn K S) .sh (pJoin S) := by
  intro F H x p z Q s r hz k
  unfold pJoin at hz
  split at hz
  · obtain ⟨ys, hy, hl, rfl⟩ := joinOk_some hz
    obtain ⟨a, vs, rfl, h, rr⟩ := r.lst_inv s
    rw [rr.strs hy] at h
    exact ⟨S, a, ys, rfl, rfl, .inl (.inl h), by omega, k _ F H (Ext.refl s) (.str _)⟩
  · obtain ⟨ys, hy, hl, rfl⟩ := joinOk_some hz
    obtain ⟨a, vs, rfl, h, rr⟩ := r.tup_inv s
    rw [rr.strs hy] at h
    exact ⟨S, a, ys, rfl, rfl, .inr h, by omega, k _ F H (Ext.refl s) (.str _)⟩
  · cases hz
theorem v_join {S : Str} {j : Nat} {p1 : Pos} (he : PE X e (tE G X.K .top E κ f)) (hs : starEach [e] X.env = [(false, eval e X.env)] := by rfl)
    (hbase : attributeBase (.Constant (.str S) j p1) "join" X.env (eval (.Constant (.str S) j p1) X.env) = eval (.Constant (.str S) j p1) X.env := by rfl) (hline : (apos.endLine == pos.line) = true := by rfl) :
    PE X (.Call (.Attribute (.Constant (.str S) j p1) "join" apos) [e] [] pos) (tE G X.K .sh E κ (e1 (pJoin S) f)) :=
  pe_weak (pe_join pe_str he hs hbase hline) fun σ H Q h => ⟨⟨_, rfl⟩, w_un (g_join S) h⟩
end
end Lp
end
section
set_option Elab.async false
set_option linter.all false
set_option maxRecDepth 100000
/-! texts in Python's order -/
namespace Lp
open PySem PySem.Spec L2
def leS (a b : Str) : Bool := !PySem.Spec.ltCps b.cps.toList a.cps.toList
theorem leS_iff (a b : Str) : leS a b = true ↔ a.cps.toList ≤ b.cps.toList := by
  unfold leS
  rw [PyProof.Rows.ltCps_eq]
  simp
theorem leS_trans {a b c : Str} (h : leS a b = true) (k : leS b c = true) : leS a c = true := by
  rw [leS_iff] at *
  exact List.le_trans h k
theorem leS_total (a b : Str) : leS a b = true ∨ leS b a = true := by
  rw [leS_iff, leS_iff]
  exact List.le_total _ _
theorem leS_anti {a b : Str} (h : leS a b = true) (k : leS b a = true) : a = b := by
  rw [leS_iff] at *
  have := List.le_antisymm h k
  cases a; cases b
  simp only [Str.mk.injEq]
  exact Array.toList_inj.mp this
def insS (x : Str) : List Str → List Str
  | [] => [x]
  | y :: r => if leS x y = true then x :: y :: r else y :: insS x r
def srt : List Str → List Str
  | [] => []
  | x :: r => insS x (srt r)
theorem insS_perm (x : Str) : ∀ l : List Str, (insS x l).Perm (x :: l)
  | [] => List.Perm.refl _
  | y :: r => by
    unfold insS
    split
    · exact List.Perm.refl _
    · exact ((insS_perm x r).cons y).trans (List.Perm.swap x y r)
theorem srt_perm : ∀ l : List Str, (srt l).Perm l
  | [] => List.Perm.refl _
  | x :: r => (insS_perm x _).trans ((srt_perm r).cons x)
theorem insS_sorted (x : Str) : ∀ l : List Str, l.Pairwise (fun a b => leS a b = true) → (insS x l).Pairwise fun a b => leS a b = true
  | [], _ => by simp [insS]
  | y :: r, h => by
    unfold insS
    have hc := List.pairwise_cons.mp h
    split
    · rename_i hx
      refine List.pairwise_cons.mpr ⟨fun z hz => ?_, h⟩
      rcases List.mem_cons.mp hz with rfl | hz
      · exact hx
      · exact leS_trans hx (hc.1 z hz)
    · rename_i hx
      have hy : leS y x = true := (leS_total y x).resolve_right fun z => hx z
      refine List.pairwise_cons.mpr ⟨fun z hz => ?_, insS_sorted x r hc.2⟩
      rcases List.mem_cons.mp ((insS_perm x r).subset hz) with rfl | hz
      · exact hy
      · exact hc.1 z hz
theorem srt_sorted : ∀ l : List Str, (srt l).Pairwise fun a b => leS a b = true
  | [] => .nil
  | x :: r => insS_sorted x _ (srt_sorted r)
theorem pairwise_rising : ∀ (l : List Str) (p : Str), PyProof.Rows.risingS p l = true → (p :: l).Pairwise fun a b => leS a b = true
  | [], p, _ => by simp
  | x :: r, p, h => by
    simp only [PyProof.Rows.risingS, Bool.and_eq_true] at h
    have ih := pairwise_rising r x h.2
    refine List.pairwise_cons.mpr ⟨fun z hz => ?_, ih⟩
    rcases List.mem_cons.mp hz with rfl | hz
    · exact h.1
    · exact leS_trans (b := x) h.1 ((List.pairwise_cons.mp ih).1 z hz)
theorem pairwise_sorted : ∀ l : List Str, PyProof.Rows.sortedS l = true → l.Pairwise fun a b => leS a b = true
  | [], _ => .nil
  | x :: r, h => pairwise_rising r x h
theorem srt_only {xs ys : List Str} (hp : ys.Perm xs) (hs : PyProof.Rows.sortedS ys = true) : ys = srt xs :=
  List.Perm.eq_of_pairwise (fun a b _ _ h k => leS_anti h k) (pairwise_sorted ys hs) (srt_sorted xs) (hp.trans (srt_perm xs).symm)
/-- the order asks for the names alone -/
theorem srt_eq {xs ys : List Str} : srt xs = srt ys ↔ xs.Perm ys := by
  constructor
  · intro h
    exact (srt_perm xs).symm.trans (h ▸ srt_perm ys)
  · intro h
    exact List.Perm.eq_of_pairwise (fun a b _ _ h k => leS_anti h k) (srt_sorted xs) (srt_sorted ys) ((srt_perm xs).trans (h.trans (srt_perm ys).symm))
section
variable {G : GW} {K : PySem.W.Frag} {F H F' H' F0 H0 : Hp} {X : Cx} {κ : Kd} {E : L2.St → XK} {m : Mode} {e o : Expr} {es : List Expr} {f fo : LE → Res PV} {pos apos cpos : Pos}
/-! sorted(..) of texts -/
def pSort : List PV → Option PV
  | [.lst ps] => match strsOf ps with
    | some ys => if ys.length < 64 then some (.lst ((srt ys).map .str)) else none
    | none => none
  | _ => none
theorem g_sortS : CalV G K (rSortedS K) .fr pSort := by
  intro F H xs ps z Q s r hz k
  unfold pSort at hz
  split at hz
  · split at hz
    · rename_i ys hy
      split at hz
      · rename_i hl
        cases hz
        obtain ⟨v, rfl, rv⟩ := r.one
        obtain ⟨a, vs, rfl, h, rr⟩ := rv.lst_inv s
        have e := rr.strs hy
        subst e
        refine ⟨a, ys, rfl, .inl h, hl, fun zs p hp hs np => ?_⟩
        rw [srt_only hp hs]
        obtain ⟨e, f⟩ := frs_new s np (reps_strs (G := G) (K := K) F (srt ys))
        exact k _ _ _ e f
      · cases hz
    · cases hz
  · cases hz
/-! list(d) -/
def keyPV : Key → PV
  | .inl i => .int i
  | .inr x => .str x
def pListD : List PV → Option PV
  | [.dK ps] => some (.lst (ps.map fun kv => keyPV kv.1))
  | _ => none
theorem RepK.keys : ∀ {vs : List (Key × V)} {ps : List (Key × PV)}, RepK G K F vs ps → Reps G K F (vs.map fun kv => kV kv.1) (ps.map fun kv => keyPV kv.1)
  | _, _, .nil => .nil
  | _, _, .cons (k := k) r rs => .cons (by cases k <;> constructor) (RepK.keys rs)
theorem g_listD : CalV G K (fun xs H Q => ∃ (a : Addr) (kvs : List (Key × V)), xs = [.ref a] ∧ Rd H a (.dK kvs) ∧ ∀ p, H p = none → Q (.ref p) (upd H p (.lst (kvs.map fun kv => kV kv.1)))) .fr pListD := by
  intro F H xs ps z Q s r hz k
  unfold pListD at hz
  split at hz
  · cases hz
    obtain ⟨v, rfl, rv⟩ := r.one
    obtain ⟨a, vs, rfl, h, rr⟩ := rv.dK_inv s
    refine ⟨a, vs, rfl, .inl h, fun l nl => ?_⟩
    obtain ⟨e, f⟩ := frs_new s nl rr.keys
    exact k _ _ _ e f
  · cases hz
end
end Lp
end
section
set_option Elab.async false
set_option linter.all false
set_option maxRecDepth 100000
/-! a method of a list within a method of another one -/
namespace Lp
open PySem PySem.Spec L2
section
variable {G : GW} {K : PySem.W.Frag} {F H F' H' F0 H0 : Hp} {X : Cx} {κ : Kd} {E : L2.St → XK} {m : Mode} {e o : Expr} {pos apos cpos : Pos} {name : Str} {id : String} {r : V → List V → Hp → VK → Prop} {g : List PV → List PV → Option (List PV × PV)} {x' : Str} {fi : LE → Res (PV × LE)}
def kMutM (i : Nat) (g : List PV → List PV → Option (List PV × PV)) (r : PV × LE) : Res (PV × LE) := match r.2[i]? with
  | some (some (.lst ps)) => match g ps [r.1] with
    | some (ps', z) => .ok (z, r.2.set i (some (.lst ps')))
    | none => .bad
  | _ => .bad
def eMutM (i : Nat) (g : List PV → List PV → Option (List PV × PV)) (fi : LE → Res (PV × LE)) : LE → Res (PV × LE) := fun τ => match τ[i]? with
  | some (some (.lst _)) => fi τ >>= kMutM i g
  | _ => .bad
theorem w_mutM {i : Nat} (k : κ i = true) (hg : MutV r G K g) {σ : L2.St} {H : Hp} {Q : VK}
    (h : tM (G := G) (K := K) E κ (eMutM i g fi) σ H Q) : tBM K "list" r (tVar i) (tCons (tM (G := G) (K := K) E κ fi) tNil) σ H Q := by
  obtain ⟨F0, H0, F, τ, zs, l, q⟩ := h
  have hτ : (∃ ps, τ[i]? = some (some (.lst ps))) ∨ eMutM i g fi τ = .bad := by
    unfold eMutM
    split
    · rename_i ps hp; exact .inl ⟨ps, hp⟩
    · exact .inr rfl
  rcases hτ with ⟨ps, ht⟩ | hb
  case inr => rw [hb] at q; exact q.elim
  obtain ⟨a, e1, hF, vs, hH, rr⟩ := l.lc.ow i _ ht k
  refine ⟨.ref a, e1, .inl ⟨rfl, vs, .inl (.inl hH)⟩, F0, H0, F, τ, zs, l, ?_⟩
  unfold eMutM at q
  simp only [ht] at q
  cases hf : fi τ with
  | bad => rw [hf] at q; exact q.elim
  | exc c ps => rw [hf] at q; exact q
  | ok w =>
    rw [hf, Res.ok_bind] at q
    intro v F1 H1 l1 r1
    show r (.ref a) [v] H1 Q
    have hw : (∃ ps2, w.2[i]? = some (some (.lst ps2))) ∨ kMutM i g w = .bad := by
      unfold kMutM
      split
      · rename_i ps2 hp; exact .inl ⟨ps2, hp⟩
      · exact .inr rfl
    rcases hw with ⟨ps2, ht2⟩ | hb
    case inr => rw [hb] at q; exact q.elim
    unfold kMutM at q
    simp only [ht2] at q
    obtain ⟨a2, e2, hF2, vs2, hH2, rr2⟩ := l1.lc.ow i _ ht2 k
    have ha : a2 = a := by
      rw [e1] at e2
      simpa using e2.symm
    subst ha
    cases hz : g ps2 [w.1] with
    | none => rw [hz] at q; exact q.elim
    | some pz =>
      obtain ⟨ps', z⟩ := pz
      rw [hz] at q
      exact hg F1 H1 a2 vs2 ps2 [v] [w.1] ps' z Q l1.lc.sub hH2 rr2 (.cons r1 .nil) hz fun v2 vs' r2 r3 => q v2 F1 _ (l1.write k ht2 e2 ⟨vs', upd_same, r2⟩) r3
theorem m_listM (i : Nat) (slot : PySem.Slot "list" name id) (hty : typeOf (.builtin id) = pure (.type "method_descriptor")) (hm : MtR X id r) (hg : MutV r G X.K g) (hi : PE X e (tM (G := G) (K := X.K) E κ fi)) (k : κ i = true := by rfl) (hN : X.N[i]? = some x' := by rfl)
    (hv : Vis X.env.scope x' := by first | exact Or.inl rfl | exact Or.inr (Or.inl rfl) | exact Or.inr (Or.inr rfl)) (hd : (x' == ("__debug__" : Str)) = false := by decide) (hcd : (x' == ("__classdict__" : Str)) = false := by decide)
    (hbase : attributeBase (.Name x' pos) name X.env (eval (.Name x' pos) X.env) = eval (.Name x' pos) X.env := by rfl)
    (hfew : ((backTo cpos (starEach [e] X.env)).all (fun x => !x.1) && (backToKw cpos (keywordEach [] X.env)).all (fun x => x.1.isSome)
      && decide (([e] : List Expr).length + ([] : List Keyword).length + (if ([] : List Keyword).isEmpty then 0 else 1) < 30)) = true := by rfl)
    (hline : (apos.endLine == cpos.line) = true := by rfl) (hs : starEach [e] X.env = (false, eval e X.env) :: starEach [] X.env := by rfl) (hplain : (backTo cpos (starEach [] X.env)).any (·.1) = false := by rfl) :
    PE X (.Call (.Attribute (.Name x' pos) name apos) [e] [] cpos) (tM (G := G) (K := X.K) E κ (eMutM i g fi)) :=
  pe_weak (pe_bm F.plainAttrs_list slot hty hm (pe_var hN hv hd hcd) (pa_cons hi pa_nil hs) hbase hfew hline hs hplain) fun _ _ _ h => w_mutM k hg h
end
end Lp
end
section
set_option Elab.async false
set_option linter.all false
set_option maxRecDepth 100000
/-! range(n) held by a name -/
namespace Lt
open PySem PySem.Spec PyProof.Rows L2
section
variable {X : Cx} {tg : Expr}
theorem cr_range1 : CallR X (.type "range") (fun vs H Q => ∃ j : Int, vs = [V.int j] ∧ ∀ p, H p = none → Q (.ref p) (upd H p (.rng 0 j))) := by
  intro pins s σ H vs us Q I r h
  obtain ⟨j, rfl, q⟩ := h
  obtain ⟨u1, rfl, ri⟩ := vals1 r
  obtain ⟨t, rfl⟩ := ri
  refine call_range_1 ⟨.ref s.heap.objs.size, upd H s.heap.objs.size (.rng 0 j), I.laid (t' := s.toks + 1 + 1) (fun b o e => Heap.get?_push_of_some _ e) (Nat.le_refl _) ?_, rfl, q _ (I.hok.fresh (Nat.le_refl _))⟩
  exact ⟨_, _, _, Heap.get?_push_size _ rfl⟩
def iRngV (tl : TE) : TI := fun σ H R => tl σ H fun x H1 => ∃ (a : Addr) (n : Nat), x = .ref a ∧ H1 a = some (.rng 0 (n : Int)) ∧ n ≤ 1000000 ∧ R (Itr 0 n) H1
theorem pi_rngV {l : Expr} {tl : TE} (hl : PE X l tl) : PI X tg l (iRngV tl) := by
  refine ⟨fun pins s σ H R I h => ?_⟩
  refine thn (hl.run pins s σ H _ I h) fun v s1 ⟨x, H1, I1, r1, q1⟩ => ?_
  obtain ⟨a, n, rfl, ha, hn, q⟩ := q1
  cases r1
  obtain ⟨t, u, w, hob⟩ := I1.hok a _ ha
  refine wpAny_pyIter_range (show IsRange s1.heap a 0 (n : Int) 1 t u w from hob) (small_one (by omega) (by omega) (by omega) (by omega)) ?_
  refine ⟨s1.heap.objs.size, [s1.heap.objs.size], _, _, H1, rfl, I1.kept (t' := s1.toks) fun b o e => Heap.get?_push_of_some _ e, turn_range s1.heap.objs.size 0 n, ?_, fun b hb => ?_, q⟩
  · have e1 : (0 : Int) + ((0 : Nat) : Int) * 1 = 0 := by simp
    have e2 : ((n : Nat) : Int) - ((0 : Nat) : Int) = Builtin.Range.rangeSize 0 (n : Int) 1 := by rw [rangeSize_one]; split <;> omega
    show IsRangeIter _ _ ((0 : Int) + ((0 : Nat) : Int) * 1) (((n : Nat) : Int) - ((0 : Nat) : Int)) 1
    rw [e1, e2]
    exact Heap.get?_push_size _ rfl
  · have e : b = s1.heap.objs.size := by simpa using hb
    subst e
    exact I1.fpOk (Nat.le_refl _) (I1.hok.fresh (Nat.le_refl _))
end
end Lt
namespace Lp
open PySem PySem.Spec L2
section
variable {G : GW} {K : PySem.W.Frag} {X : Cx} {κ : Kd} {E : L2.St → XK} {e tg : Expr} {f : LE → Res PV}
def pRng : List PV → Option PV
  | [.int i] => if 0 ≤ i ∧ i ≤ 1000000 then some (.rng i.toNat) else none
  | _ => none
theorem g_rng : CalV G K (fun vs H Q => ∃ j : Int, vs = [V.int j] ∧ ∀ p, H p = none → Q (.ref p) (upd H p (.rng 0 j))) .sh pRng := by
  intro F H xs ps z Q s r hz k
  unfold pRng at hz
  split at hz
  · split at hz
    · rename_i i hi
      cases hz
      obtain ⟨v, rfl, rv⟩ := r.one
      obtain rfl := rv.int_inv
      refine ⟨i, rfl, fun p np => ?_⟩
      refine k (.ref p) (upd F p (.rng 0 i)) _ (Ext.push _ (Ext.refl s) np) ?_
      have e : ((i.toNat : Nat) : Int) = i := by omega
      exact .rng (by rw [e]; exact upd_same)
    · cases hz
  · cases hz
def kRng : PV → Res (List PV)
  | .rng n => if n ≤ 1000000 then .ok ((List.range n).map fun i => .int (i : Nat)) else .bad
  | _ => .bad
def iRng (f : LE → Res PV) : LE → Res (List PV) := fun τ => f τ >>= kRng
theorem i_rng (h : PE X e (tE G X.K .sh E κ f)) : PI X tg e (tI G X.K true E κ (iRng f)) := pi_weak (Lt.pi_rngV h) fun σ H R ⟨F, τ, l, q⟩ => by
  refine ⟨F, τ, l, ?_⟩
  unfold iRng at q
  cases hf : f τ with
  | exc c ps => rw [hf] at q; exact q
  | bad => rw [hf] at q; exact q
  | ok p =>
    rw [hf, Res.ok_bind] at q
    intro v F1 H1 e1 r1
    cases p with
    | rng n =>
      obtain ⟨a, rfl, ha⟩ := Rep.rng_inv r1
      unfold kRng at q
      by_cases hn : n ≤ 1000000
      · simp only [if_pos hn] at q
        refine ⟨a, n, rfl, e1.sub _ _ ha, hn, q _ F1 H1 e1 ?_⟩
        have := Itp.range (G := G) (K := X.K) (B := F1) (F0 := F1) (lo := 0) (n := n) (by rw [sizeLine_eq]; omega)
        simpa using this
      · simp only [if_neg hn] at q
    | _ => exact q.elim
end
end Lp
end
section
set_option Elab.async false
set_option linter.all false
set_option maxRecDepth 100000
/-! a method of a tuple that was made: t.index(x) -/
namespace Lk
open PySem PySem.Spec PyProof.Rows L2 Lp
section
variable {X : Cx} {o e : Expr} {es : List Expr} {to : TE} {t : TA} {name : Str} {apos cpos : Pos} {id : String} {r : V → List V → Hp → VK → Prop}
def tyK (K : PySem.W.Frag) (x : V) (H : Hp) : Prop := ∃ p xs, x = .ref p ∧ KT K H p xs
theorem tyK_is {pins : List (Addr × Obj)} {σ : L2.St} {H : Hp} {s : Shared} {x : V} {v : Value} (I : L2.Inv X pins σ H s) (rx : RelV x v) (ty : tyK X.K x H) :
    s.TypeIs v "tuple" ∧ ∀ a, v = .ref a → ∃ ob, s.heap.get? a = some ob ∧ ob.dict = none := by
  obtain ⟨p, xs, rfl, ty⟩ := ty
  cases rx
  rcases ty with ⟨ob, h, ko⟩ | ⟨ob, _, _, h, ko, _⟩
  · have e := (I.hok p _ h).1
    exact ⟨⟨ob, e, ko.1⟩, fun a ea => by cases ea; exact ⟨ob, e, ko.2.1⟩⟩
  · have e := I.kIn p ob h
    exact ⟨⟨ob, e, ko.1⟩, fun a ea => by cases ea; exact ⟨ob, e, ko.2.1⟩⟩
def tBMK (K : PySem.W.Frag) (r : V → List V → Hp → VK → Prop) (to : TE) (t : TA) : TE := fun σ H Q => to σ H fun x H1 => tyK K x H1 ∧ t σ H1 fun xs H2 => r x xs H2 Q
theorem pe_bmK (slot : PySem.Slot "tuple" name id) (hty : typeOf (.builtin id) = pure (.type "method_descriptor")) (hm : MtR X id r) (ho : PE X o to) (ha : PA X (e :: es) t)
    (hbase : attributeBase o name X.env (eval o X.env) = eval o X.env := by rfl)
    (hfew : ((backTo cpos (starEach (e :: es) X.env)).all (fun x => !x.1) && (backToKw cpos (keywordEach [] X.env)).all (fun x => x.1.isSome)
      && decide ((e :: es).length + ([] : List Keyword).length + (if ([] : List Keyword).isEmpty then 0 else 1) < 30)) = true := by rfl)
    (hline : (apos.endLine == cpos.line) = true := by rfl) (hs : starEach (e :: es) X.env = (false, eval e X.env) :: starEach es X.env := by rfl) (hplain : (backTo cpos (starEach es X.env)).any (·.1) = false := by rfl) :
    PE X (.Call (.Attribute o name apos) (e :: es) [] cpos) (tBMK X.K r to t) :=
  ⟨fun pins s σ H Q I h => wpAny_Call_method_late hbase hfew hline rfl (thn (ho.run pins s σ H _ I h) fun v s1 ⟨x, H1, I1, r1, ty, q1⟩ => by
    have hA := ha.run cpos pins s1 σ H1 _ I1 q1
    rw [hs] at hA ⊢
    refine ⟨"tuple", id, PySem.F.plainAttrs_tuple, slot, hty, (tyK_is I1 r1 ty).1, (tyK_is I1 r1 ty).2, Calls.callWith_builtin ?_ (Calls.evalArgs_plain ?_)⟩
    · show (false || (backTo cpos (starEach es X.env)).any (·.1)) = false
      rw [hplain]; rfl
    · exact thn hA fun us s2 ⟨vs, H2, I2, r2, q2⟩ => hm pins s2 σ H2 x vs v us Q I2 r1 r2 q2)⟩
end
end Lk
namespace Lp
open PySem PySem.Spec L2
section
variable {G : GW} {K : PySem.W.Frag} {X : Cx} {κ : Kd} {E : L2.St → XK} {e o : Expr} {f g : LE → Res PV} {apos cpos : Pos}
def pIndex : PV → PV → Option PV
  | .tup ps, .str z => match strsOf ps with
    | some ys => (ys.findIdx? fun y => decide (y = z)).map fun j => .int (j : Nat)
    | none => none
  | _, _ => none
def kIdx (r : Res PV) : PV → Res PV
  | .tup ps => r >>= fun z => up (pIndex (.tup ps) z)
  | _ => .bad
def eIdx (f g : LE → Res PV) : LE → Res PV := fun τ => f τ >>= kIdx (g τ)
theorem findIdx_first {α : Type} {p : α → Bool} : ∀ {l : List α} {i : Nat}, l.findIdx? p = some i → (∃ a, l[i]? = some a ∧ p a = true) ∧ ∀ m, m < i → ∀ a, l[m]? = some a → p a = false
  | [], i, h => by simp at h
  | a :: l, i, h => by
    rw [List.findIdx?_cons] at h
    by_cases hp : p a = true
    · rw [if_pos hp] at h
      cases h
      exact ⟨⟨a, rfl, hp⟩, fun m hm => by omega⟩
    · rw [if_neg hp] at h
      cases hq : l.findIdx? p with
      | none => rw [hq] at h; cases h
      | some j =>
        rw [hq] at h
        cases h
        obtain ⟨h1, h2⟩ := findIdx_first hq
        refine ⟨by simpa using h1, fun m hm b hb => ?_⟩
        cases m with
        | zero => cases hb; simpa using hp
        | succ m =>
          have hm : m + 1 < j + 1 := hm
          exact h2 m (by omega) b (by simpa using hb)
theorem v_index (ho : PE X o (tE G X.K .sh E κ f)) (he : PE X e (tE G X.K .sh E κ g))
    (hbase : attributeBase o "index" X.env (eval o X.env) = eval o X.env := by rfl)
    (hfew : ((backTo cpos (starEach [e] X.env)).all (fun x => !x.1) && (backToKw cpos (keywordEach [] X.env)).all (fun x => x.1.isSome)
      && decide ([e].length + ([] : List Keyword).length + (if ([] : List Keyword).isEmpty then 0 else 1) < 30)) = true := by rfl)
    (hline : (apos.endLine == cpos.line) = true := by rfl) (hs : starEach [e] X.env = [(false, eval e X.env)] := by rfl) :
    PE X (.Call (.Attribute o "index" apos) [e] [] cpos) (tE G X.K .sh E κ (eIdx f g)) :=
  pe_weak (Lk.pe_bmK PySem.F.slot_tuple_index PySem.F.type_tuple_index mt_tup_index ho (pa_cons he pa_nil hs) hbase hfew hline hs rfl) fun σ H Q ⟨F, τ, l, q⟩ => by
    refine ⟨F, τ, l, ?_⟩
    unfold eIdx at q
    cases hf : f τ with
    | exc c ps => rw [hf] at q; exact q
    | bad => rw [hf] at q; exact q
    | ok p =>
      rw [hf, Res.ok_bind] at q
      intro v F1 H1 e1 r1
      cases p with
      | tup ps =>
        unfold kIdx at q
        dsimp only at q
        obtain ⟨a, vs, rfl, hk, rr⟩ := Rep.tup_invK (show Rep G X.K F1 v (.tup ps) from r1)
        refine ⟨⟨a, vs, rfl, Same.kt e1.sub hk⟩, F1, τ, l.ext e1, ?_⟩
        cases hg : g τ with
        | exc c ps => rw [hg, Res.exc_bind] at q; exact ExcOk.ext q e1
        | bad => rw [hg, Res.bad_bind] at q; exact q
        | ok z =>
          rw [hg, Res.ok_bind] at q
          intro w F2 H2 e2 r2
          cases z with
          | str z =>
            obtain rfl := Rep.str_inv (show Rep G X.K F2 w (.str z) from r2)
            unfold pIndex at q
            dsimp only at q
            cases hy : strsOf ps with
            | none => rw [hy] at q; exact q.elim
            | some ys =>
              rw [hy] at q
              dsimp only at q
              cases hi : ys.findIdx? fun y => decide (y = z) with
              | none => rw [hi] at q; exact q.elim
              | some j =>
                rw [hi] at q
                obtain ⟨⟨y, h1, h2⟩, h3⟩ := findIdx_first hi
                have hvs := rr.strs hy
                rw [hvs] at hk
                refine ⟨a, ys, z, j, rfl, rfl, Same.sqt (e1.sub.trans e2.h) hk.sqt, ?_, fun m hm hz => ?_, q _ F2 H2 (e1.trans e2) (.int _)⟩
                · rw [h1, of_decide_eq_true h2]
                · have := h3 m hm z hz
                  simp at this
          | _ => exact q.elim
      | _ => exact q.elim
end
end Lp
end
section
set_option Elab.async false
set_option linter.all false
set_option maxRecDepth 100000
/-! dicts with nested tuples as keys -/
namespace Lp
open PySem PySem.Spec L2
section
variable {G : GW} {X : Cx} {H F : Hp} {pins : List (Addr × Obj)} {σ : L2.St} {s : Shared}
mutual
theorem nk_is (I : L2.Inv X pins σ H s) : ∀ (p : PV) {v : V} {u : Value} {k : NestedKey}, Rep G X.K H v p → p.nk = some k → RelV v u → NestedIs s.heap k u
  | .non, v, u, k, r, h, e => by
    obtain rfl := r.non_inv
    rw [PV.nk] at h
    cases h
    cases (show u = Value.none from e)
    exact .none
  | .int i, v, u, k, r, h, e => by
    obtain rfl := r.int_inv
    rw [PV.nk] at h
    cases h
    obtain ⟨t, rfl⟩ := (show ∃ t, u = .int i t from e)
    exact .int i t
  | .str x, v, u, k, r, h, e => by
    obtain rfl := r.str_inv
    rw [PV.nk] at h
    cases h
    obtain ⟨t, rfl⟩ := (show ∃ t, u = .str x t from e)
    exact .text x t
  | .tup xs, v, u, k, r, h, e => by
    rw [PV.nk] at h
    obtain ⟨ks, hk, rfl⟩ := Option.map_eq_some_iff.mp h
    obtain ⟨a, vs, rfl, hs, rr⟩ := r.tup_inv
    obtain rfl : u = Value.ref a := e
    obtain ⟨its, rv, ⟨o, e1, e2, n, e3⟩, _⟩ := I.tuple hs
    exact .tup e1 e2 e3 (by simpa using nks_is I xs rr hk rv)
  | .bl _, _, _, _, _, h, _ => by rw [PV.nk] at h; cases h
  | .ty _, _, _, _, _, h, _ => by rw [PV.nk] at h; cases h
  | .lst _, _, _, _, _, h, _ => by rw [PV.nk] at h; cases h
  | .dK _, _, _, _, _, h, _ => by rw [PV.nk] at h; cases h
  | .ins _ _, _, _, _, _, h, _ => by rw [PV.nk] at h; cases h
  | .scr _, _, _, _, _, h, _ => by rw [PV.nk] at h; cases h
  | .exn _ _ _ _, _, _, _, _, h, _ => by rw [PV.nk] at h; cases h
  | .rng _, _, _, _, _, h, _ => by rw [PV.nk] at h; cases h
  | .itm _, _, _, _, _, h, _ => by rw [PV.nk] at h; cases h
  | .dN _, _, _, _, _, h, _ => by rw [PV.nk] at h; cases h
theorem nks_is (I : L2.Inv X pins σ H s) : ∀ (ps : List PV) {vs : List V} {us : List Value} {ks : List NestedKey}, Reps G X.K H vs ps → nks ps = some ks → Vals vs us → NestedAll s.heap ks us
  | [], vs, us, ks, r, h, e => by
    cases r
    cases e
    rw [nks] at h
    cases h
    exact .nil
  | p :: ps, vs, us, ks, r, h, e => by
    cases r with
    | cons r rs =>
      cases e with
      | cons e es =>
        rw [nks] at h
        cases h1 : p.nk with
        | none => rw [h1] at h; simp at h
        | some a =>
          cases h2 : nks ps with
          | none => rw [h1, h2] at h; simp at h
          | some b =>
            rw [h1, h2] at h
            cases h
            exact .cons (nk_is I p r h1 e) (nks_is I ps rs h2 es)
end
theorem keyN_is (I : L2.Inv X pins σ H s) {p : PV} {v : V} {u : Value} {k : NestedKey} (r : Rep G X.K H v p) (h : keyN p = some k) (e : RelV v u) : ∃ a, v = .ref a ∧ u = .ref a ∧ (nestedKind X.prog X.w).is s.heap k a := by
  unfold keyN at h
  split at h
  · rename_i xs
    split at h
    · rename_i k' hk
      split at h
      · rename_i hd
        cases h
        obtain ⟨a, vs, rfl, _, _⟩ := r.tup_inv
        obtain rfl : u = Value.ref a := e
        exact ⟨a, rfl, rfl, nk_is I _ r hk rfl, hd⟩
      · cases h
    · cases h
  · cases h
/-- the entries, as the heap has them -/
abbrev NE : List (NestedKey × V × V) → List (NestedKey × Addr × Value) → Prop := Paired fun p q => p.1 = q.1 ∧ p.2.1 = .ref q.2.1 ∧ RelV p.2.2 q.2.2
theorem ne_is (I : L2.Inv X pins σ H s) : ∀ {es : List (NestedKey × V × V)} {xs : List (NestedKey × Addr × Value)} {ps : List (PV × PV)}, NE es xs → RepN G X.K H es ps → ∀ x ∈ xs, (nestedKind X.prog X.w).is s.heap x.1 x.2.1
  | _, _, _, .nil, _, _, hx => nomatch hx
  | _, _, _, .cons h t, r, x, hx => by
    cases r with
    | cons hk rk rv rs =>
      rcases List.mem_cons.mp hx with rfl | hx
      · obtain ⟨h1, h2, _⟩ := h
        dsimp only at h1 h2
        obtain ⟨a, e1, _, e3⟩ := keyN_is I rk hk (u := .ref x.2.1) (by rw [h2]; rfl)
        rw [h2] at e1
        injection e1 with e1
        subst e1
        rw [← h1]
        exact e3
      · exact ne_is I t rs x hx
theorem n_dict {a : Addr} {es : List (NestedKey × V × V)} {ps : List (PV × PV)} (I : L2.Inv X pins σ H s) (hP : G.P = X.prog) (hw : G.w = X.w) (h : H a = some (.ext (nphi G.P G.w a es))) (r : RepN G X.K H es ps) :
    es.length ≤ sizeLine ∧ (a == sysModules) = false ∧ ∃ xs, NE es xs ∧ s.heap.DictOfH (nestedKind X.prog X.w) a xs := by
  have ob := I.hok _ _ h
  obtain ⟨⟨hl, hs, xs, pr, ⟨o, en, ep, h1, h2, h3, h4⟩, hn⟩, _, _⟩ := ob
  rw [hP, hw] at h4
  exact ⟨hl, hs, xs, pr, o, en, ep, h1, h2, h3, h4, ne_is I pr r, hn⟩
theorem nphi_ok {P : Program} {w : World} {H' : Hp} {h' : Heap} {a : Addr} {es : List (NestedKey × V × V)} {xs : List (NestedKey × Addr × Value)} (hl : es.length ≤ sizeLine) (hs : (a == sysModules) = false) (pr : NE es xs) (hd : h'.DictOfH (nestedKind P w) a xs) (hP : G.P = P) (hw : G.w = w) :
    ObjOk P w H' h' a (.ext (nphi G.P G.w a es)) := by
  obtain ⟨o, en, ep, h1, h2, h3, h4, _, hn⟩ := hd
  refine ⟨⟨hl, hs, xs, pr, ⟨o, en, ep, h1, h2, h3, by rw [hP, hw]; exact h4⟩, hn⟩, ⟨o, h1⟩, ?_⟩
  rintro g1 g2 ⟨z1, z2, ys, z3, ⟨o', en', ep', q1, q2, q3, q4⟩, z5⟩ st
  exact ⟨z1, z2, ys, z3, ⟨o', en', ep', st _ q1, q2, q3, q4⟩, z5⟩
/-- the value at a key -/
def atE (es : List (NestedKey × V × V)) (k : NestedKey) : Option V := (es.find? fun e => decide (e.1 = k)).map (·.2.2)
def putE (es : List (NestedKey × V × V)) (k : NestedKey) (kv v : V) : List (NestedKey × V × V) := if (es.any fun e => decide (e.1 = k)) then es.map fun e => if e.1 = k then (e.1, e.2.1, v) else e else es ++ [(k, kv, v)]
theorem putE_len (es : List (NestedKey × V × V)) (k : NestedKey) (kv v : V) : (putE es k kv v).length ≤ es.length + 1 := by
  unfold putE
  split <;> simp
theorem ne_at {k : NestedKey} : ∀ {es : List (NestedKey × V × V)} {xs : List (NestedKey × Addr × Value)}, NE es xs → RelO (atE es k) ((atKey xs k).map (·.2))
  | _, _, .nil => True.intro
  | _, _, .cons (a := e) (b := x) h t => by
    have ih := ne_at (k := k) t
    unfold atE atKey at *
    rw [List.find?_cons, List.find?_cons]
    by_cases he : e.1 = k
    · have hx : x.1 = k := by rw [← h.1]; exact he
      simp only [he, hx, decide_true, Option.map_some]
      exact h.2.2
    · have hx : ¬ x.1 = k := by rw [← h.1]; exact he
      simp only [he, hx, decide_false]
      exact ih
theorem ne_any {k : NestedKey} : ∀ {es : List (NestedKey × V × V)} {xs : List (NestedKey × Addr × Value)}, NE es xs → (es.any fun e => decide (e.1 = k)) = (atKey xs k).isSome
  | _, _, .nil => rfl
  | _, _, .cons (a := e) (b := x) h t => by
    have ih := ne_any (k := k) t
    unfold atKey at *
    rw [List.any_cons, List.find?_cons]
    by_cases he : e.1 = k
    · have hx : x.1 = k := by rw [← h.1]; exact he
      simp [he, hx]
    · have hx : ¬ x.1 = k := by rw [← h.1]; exact he
      simp only [he, hx, decide_false, Bool.false_or]
      exact ih
theorem ne_app : ∀ {es es' : List (NestedKey × V × V)} {xs xs' : List (NestedKey × Addr × Value)}, NE es xs → NE es' xs' → NE (es ++ es') (xs ++ xs')
  | _, _, _, _, .nil, t => t
  | _, _, _, _, .cons h r, t => .cons h (ne_app r t)
theorem ne_map {k : NestedKey} {v : V} {u : Value} (rv : RelV v u) : ∀ {es : List (NestedKey × V × V)} {xs : List (NestedKey × Addr × Value)}, NE es xs → NE (es.map fun e => if e.1 = k then (e.1, e.2.1, v) else e) (xs.map (putAt k u))
  | _, _, .nil => .nil
  | _, _, .cons (a := e) (b := x) h t => by
    rw [List.map_cons, List.map_cons]
    refine .cons ?_ (ne_map rv t)
    unfold putAt
    by_cases he : e.1 = k
    · have hx : x.1 = k := by rw [← h.1]; exact he
      rw [if_pos he, if_pos hx]
      exact ⟨h.1, h.2.1, rv⟩
    · have hx : ¬ x.1 = k := by rw [← h.1]; exact he
      rw [if_neg he, if_neg hx]
      exact h
theorem ne_put {k : NestedKey} {a : Addr} {v : V} {u : Value} (rv : RelV v u) {es : List (NestedKey × V × V)} {xs : List (NestedKey × Addr × Value)} (h : NE es xs) : NE (putE es k (.ref a) v) (storedH xs k a u) := by
  unfold putE storedH
  rw [ne_any h]
  split
  · exact ne_map rv h
  · exact ne_app h (.cons ⟨rfl, rfl, rv⟩ .nil)
end
end Lp
end
section
set_option Elab.async false
set_option linter.all false
set_option maxRecDepth 100000
/-! dicts with nested tuples as keys: in, not in, d[k], d[k] = v, {}, list(d) -/
namespace Lp
open PySem PySem.Spec L2
def isN (k : NestedKey) (p : PV) : Bool := decide (keyN p = some k)
def valN (kvs : List (PV × PV)) (k : NestedKey) : Option PV := (kvs.find? fun kv => isN k kv.1).map (·.2)
def hasN (kvs : List (PV × PV)) (k : NestedKey) : Bool := kvs.any fun kv => isN k kv.1
def setN (kvs : List (PV × PV)) (q : PV) (k : NestedKey) (v : PV) : List (PV × PV) := if hasN kvs k then kvs.map fun kv => if isN k kv.1 then (kv.1, v) else kv else kvs ++ [(q, v)]
theorem setN_len (kvs : List (PV × PV)) (q : PV) (k : NestedKey) (v : PV) : (setN kvs q k v).length ≤ kvs.length + 1 := by
  unfold setN
  split <;> simp
section
variable {G : GW} {K : PySem.W.Frag} {F H F' H' F0 H0 B : Hp} {X : Cx} {v x y : V} {p : PV} {κ : Kd} {E : L2.St → XK} {m md rm : Mode} {e a b o iv : Expr} {es : List Expr} {pos p' pos' : Pos} {σ : L2.St} {τ : LE} {fi fe f f' : LE → Res PV}
theorem RepN.length : ∀ {vs : List (NestedKey × V × V)} {ps : List (PV × PV)}, RepN G K F vs ps → vs.length = ps.length
  | _, _, .nil => rfl
  | _, _, .cons _ _ _ rs => congrArg (· + 1) (RepN.length rs)
theorem isN_eq {p : PV} {j k : NestedKey} (h : keyN p = some j) : isN k p = decide (j = k) := by
  unfold isN
  rw [h]
  simp
theorem RepN.val {k : NestedKey} : ∀ {es : List (NestedKey × V × V)} {ps : List (PV × PV)}, RepN G K F es ps → (atE es k = none ∧ valN ps k = none) ∨ ∃ v p, atE es k = some v ∧ valN ps k = some p ∧ Rep G K F v p
  | _, _, .nil => .inl ⟨rfl, rfl⟩
  | _, _, .cons (k := j) hk rk r rs => by
    have ih := RepN.val (k := k) rs
    unfold atE valN at *
    rw [List.find?_cons, List.find?_cons]
    dsimp only
    rw [isN_eq hk]
    by_cases h : j = k
    · simp only [h, decide_true, Option.map_some]
      exact .inr ⟨_, _, rfl, rfl, r⟩
    · simp only [h, decide_false]
      exact ih
theorem RepN.any {k : NestedKey} : ∀ {es : List (NestedKey × V × V)} {ps : List (PV × PV)}, RepN G K F es ps → (es.any fun e => decide (e.1 = k)) = hasN ps k
  | _, _, .nil => rfl
  | _, _, .cons (k := j) hk rk r rs => by
    have ih := RepN.any (k := k) rs
    unfold hasN at *
    rw [List.any_cons, List.any_cons, ih]
    dsimp only
    rw [isN_eq hk]
theorem hasN_val (kvs : List (PV × PV)) (k : NestedKey) : hasN kvs k = (valN kvs k).isSome := by
  unfold hasN valN
  induction kvs with
  | nil => rfl
  | cons kv r ih =>
    rw [List.any_cons, List.find?_cons]
    cases h : isN k kv.1 with
    | true => simp
    | false => simpa using ih
theorem RepN.app : ∀ {a b : List (NestedKey × V × V)} {c d : List (PV × PV)}, RepN G K F a c → RepN G K F b d → RepN G K F (a ++ b) (c ++ d)
  | _, _, _, _, .nil, s => s
  | _, _, _, _, .cons hk rk r rs, s => .cons hk rk r (RepN.app rs s)
theorem RepN.mapSet {k : NestedKey} (r : Rep G K F v p) : ∀ {es : List (NestedKey × V × V)} {ps : List (PV × PV)}, RepN G K F es ps → RepN G K F (es.map fun e => if e.1 = k then (e.1, e.2.1, v) else e) (ps.map fun kv => if isN k kv.1 then (kv.1, p) else kv)
  | _, _, .nil => .nil
  | _, _, .cons (k := j) hk rk q rs => by
    rw [List.map_cons, List.map_cons]
    dsimp only
    rw [isN_eq hk]
    by_cases h : j = k
    · simp only [h, decide_true, if_true]
      exact .cons (by rw [hk, h]) rk r (RepN.mapSet r rs)
    · simp only [h, decide_false, if_false]
      exact .cons hk rk q (RepN.mapSet r rs)
theorem RepN.set {k : NestedKey} {es : List (NestedKey × V × V)} {ps : List (PV × PV)} {kv : V} {q : PV} (h : RepN G K F es ps) (hk : keyN q = some k) (rk : Rep G K F kv q) (r : Rep G K F v p) : RepN G K F (putE es k kv v) (setN ps q k p) := by
  unfold putE setN
  rw [h.any]
  by_cases hh : hasN ps k = true
  · rw [if_pos hh, if_pos hh]; exact RepN.mapSet r h
  · rw [if_neg hh, if_neg hh]; exact RepN.app h (.cons hk rk r .nil)
theorem RepN.keys : ∀ {es : List (NestedKey × V × V)} {ps : List (PV × PV)}, RepN G K F es ps → Reps G K F (es.map (·.2.1)) (ps.map (·.1))
  | _, _, .nil => .nil
  | _, _, .cons hk rk r rs => .cons rk (RepN.keys rs)

/-! the judgements' readings -/
/-- at a stands a dict that is told as ps; y is the key k -/
def NAt (G : GW) (K : PySem.W.Frag) (H : Hp) (a : Addr) (es : List (NestedKey × V × V)) (ps : List (PV × PV)) : Prop := H a = some (.ext (nphi G.P G.w a es)) ∧ RepN G K H es ps
def tNGet (G : GW) (K : PySem.W.Frag) (td ty : TE) : TE := fun σ H Q => td σ H fun x H1 => ty σ H1 fun y H2 => ∃ a es ps q k v, x = .ref a ∧ NAt G K H2 a es ps ∧ Rep G K H2 y q ∧ keyN q = some k ∧ atE es k = some v ∧ Q v H2
def tNIn (G : GW) (K : PySem.W.Frag) (n : Bool) (ty td : TE) : TE := fun σ H Q => ty σ H fun y H1 => td σ H1 fun x H2 => ∃ a es ps q k, x = .ref a ∧ NAt G K H2 a es ps ∧ Rep G K H2 y q ∧ keyN q = some k ∧ Q (.bl (n ^^ (atE es k).isSome)) H2
def sNPut (G : GW) (K : PySem.W.Frag) (td ty tv : TE) : TS := fun D σ H => tv σ H fun v H1 => td σ H1 fun x H2 => ty σ H2 fun y H3 => ∃ a es ps q k, x = .ref a ∧ NAt G K H3 a es ps ∧ Rep G K H3 y q ∧ keyN q = some k ∧ es.length < sizeLine ∧ D.nx σ (upd H3 a (.ext (nphi G.P G.w a (putE es k y v))))
variable {td ty tv : TE}
theorem NAt.typeIs {pins : List (Addr × Obj)} {s : Shared} {a : Addr} {es : List (NestedKey × V × V)} {ps : List (PV × PV)} (I : L2.Inv X pins σ H s) (hG : G.P = X.prog ∧ G.w = X.w) (h : NAt G X.K H a es ps) : s.TypeIs (.ref a) "dict" := by
  obtain ⟨_, _, xs, _, d⟩ := n_dict I hG.1 hG.2 h.1 h.2
  exact d.typeIs
theorem pe_nget (hG : G.P = X.prog ∧ G.w = X.w) (hu : X.A.units + 9 < cLine) (ho : PE X o td) (hi : PE X iv ty) (hs : NoSl iv) : PE X (.Subscript o iv pos) (tNGet G X.K td ty) := by
  refine ⟨fun pins s σ H Q I h => ?_⟩
  refine subD_of PySem.F.slot_dict_getitem.lookup hs (thn (ho.run pins s σ H _ I h) fun u s1 ⟨x, H1, I1, rx, q1⟩ => thn (hi.run pins s1 σ H1 _ I1 q1) fun iv s2 ⟨y, H2, I2, ry, a, es, ps, q, k, v, ex, g, rq, hk, hv, q2⟩ => ?_)
  subst ex
  obtain rfl : u = Value.ref a := rx
  refine ⟨g.typeIs I2 hG, ?_⟩
  obtain ⟨_, _, xs, pr, d⟩ := n_dict I2 hG.1 hG.2 g.1 g.2
  obtain ⟨b, rfl, rfl, hb⟩ := keyN_is I2 rq hk ry
  have hq := ne_at (k := k) pr
  rw [hv] at hq
  obtain ⟨w', hw, rw'⟩ := RelO.some_of (v := v) (o := (atKey xs k).map (·.2)) hq
  obtain ⟨p, hp, hp2⟩ := Option.map_eq_some_iff.mp hw
  refine wpAny_getItem_heap (knd := nestedKind X.prog X.w) (show X.A.in1.units + 8 < cLine from (by show X.A.units + 1 + 8 < cLine; omega)) hb d hp ?_
  rw [hp2]
  exact ⟨v, H2, I2.tok _, rw', q2⟩
theorem pc_nin (hG : G.P = X.prog ∧ G.w = X.w) (hu : X.A.units + 9 < cLine) (hi : PE X iv ty) (ho : PE X o td) : PC X .In iv o (tNIn G X.K false ty td) := by
  refine ⟨fun pins s σ H Q I h => ?_⟩
  refine thn (hi.run pins s σ H _ I h) fun iv s1 ⟨y, H1, I1, ry, q1⟩ => thn (ho.run pins s1 σ H1 _ I1 q1) fun u s2 ⟨x, H2, I2, rx, a, es, ps, q, k, ex, g, rq, hk, q2⟩ => ?_
  subst ex
  obtain rfl : u = Value.ref a := rx
  obtain ⟨_, hd, xs, pr, d⟩ := n_dict I2 hG.1 hG.2 g.1 g.2
  obtain ⟨b, rfl, rfl, hb⟩ := keyN_is I2 rq hk ry
  refine wpAny_in_heap (knd := nestedKind X.prog X.w) (show X.A.in1.units + 8 < cLine from (by show X.A.units + 1 + 8 < cLine; omega)) hb hd d ?_
  have hq := (ne_at (k := k) pr).isSome_eq
  rw [Option.isSome_map] at hq
  rw [← hq]
  exact ⟨.bl (atE es k).isSome, H2, I2.tok _, rfl, by rw [Bool.false_xor] at q2; exact q2⟩
theorem pc_nnin (hG : G.P = X.prog ∧ G.w = X.w) (hu : X.A.units + 9 < cLine) (hi : PE X iv ty) (ho : PE X o td) : PC X .NotIn iv o (tNIn G X.K true ty td) := by
  refine ⟨fun pins s σ H Q I h => ?_⟩
  refine thn (hi.run pins s σ H _ I h) fun iv s1 ⟨y, H1, I1, ry, q1⟩ => thn (ho.run pins s1 σ H1 _ I1 q1) fun u s2 ⟨x, H2, I2, rx, a, es, ps, q, k, ex, g, rq, hk, q2⟩ => ?_
  subst ex
  obtain rfl : u = Value.ref a := rx
  obtain ⟨_, hd, xs, pr, d⟩ := n_dict I2 hG.1 hG.2 g.1 g.2
  obtain ⟨b, rfl, rfl, hb⟩ := keyN_is I2 rq hk ry
  refine PyProof.Rows.wpAny_notIn_heap (knd := nestedKind X.prog X.w) (show X.A.in1.units + 8 < cLine from (by show X.A.units + 1 + 8 < cLine; omega)) hb hd d ?_
  have hq := (ne_at (k := k) pr).isSome_eq
  rw [Option.isSome_map] at hq
  rw [← hq]
  exact ⟨.bl (!(atE es k).isSome), H2, I2.tok _, rfl, by rw [Bool.true_xor] at q2; exact q2⟩
theorem n_set {A : Around} {EE : Value → Shared → Prop} {pins : List (Addr × Obj)} {s : Shared} {a : Addr} {es : List (NestedKey × V × V)} {ps : List (PV × PV)} {q : PV} {k : NestedKey} {u r : Value} {Q : Unit → Shared → Prop} (hG : G.P = X.prog ∧ G.w = X.w) (hu : A.units + 9 < cLine) (I : L2.Inv X pins σ H s) (g : NAt G X.K H a es ps)
    (rq : Rep G X.K H y q) (hk : keyN q = some k) (hl : es.length < sizeLine) (ry : RelV y u) (rv : RelV v r) (h : ∀ s', L2.Inv X pins σ (upd H a (.ext (nphi G.P G.w a (putE es k y v)))) s' → Q () s') : wpAny (model X.prog X.w) A (setItem (.ref a) u r) Q EE s := by
  obtain ⟨_, hd, xs, pr, d⟩ := n_dict I hG.1 hG.2 g.1 g.2
  obtain ⟨b, rfl, rfl, hb⟩ := keyN_is I rq hk ry
  have hx : xs.length ≤ sizeLine := by have := Paired.length pr; omega
  refine wpAny_setItem_heap (hsz := hx) (knd := nestedKind X.prog X.w) (show A.in1.units + 8 < cLine from (by show A.units + 1 + 8 < cLine; omega)) hb d fun h' dd hs => h _ ?_
  have he : ∃ q, h'.get? a = some q := let ⟨q, _, _, hq, _⟩ := dd; ⟨q, hq⟩
  exact d_write I (by rw [g.1]; exact True.intro) hs he (nphi_ok (by have := putE_len es k (.ref b) v; omega) hd (ne_put rv pr) dd hG.1 hG.2)
theorem ps_nput (hG : G.P = X.prog ∧ G.w = X.w) (hu : X.A.units + 9 < cLine) (ho : PE X o td) (hi : PE X iv ty) (hv : PE X e tv) (hs : swapsWith e (some (.Subscript o iv pos')) pos.line X.env = pure false) :
    PS X (.Assign [.Subscript o iv pos'] e pos) (sNPut G X.K td ty tv) := by
  refine ⟨fun pins s σ H D I h => ?_⟩
  refine wpAny_Assign_Subscript (thn (hv.run pins s σ H _ I h) fun r s1 ⟨v, H1, I1, rv, q1⟩ => thn (ho.run pins s1 σ H1 _ I1 q1) fun u s2 ⟨x, H2, I2, rx, q2⟩ => thn (hi.run pins s2 σ H2 _ I2 q2) fun iv s3 ⟨y, H3, I3, ry, a, es, ps, q, k, ex, g, rq, hk, hl, q3⟩ => ?_) hs
  subst ex
  obtain rfl : u = Value.ref a := rx
  exact n_set hG hu I3 g rq hk hl ry rv fun s4 I4 => ⟨σ, _, I4, q3⟩
/-- {} -/
def tNNew (G : GW) : TE := fun _ H Q => ∀ p, H p = none → Q (.ref p) (upd H p (.ext (nphi G.P G.w p [])))
theorem n_empty {H' : Hp} (hG : G.P = X.prog ∧ G.w = X.w) (h : Heap) (hb : sysModules < h.objs.size) : ObjOk X.prog X.w H' (h.push { cls := .type "dict", data := .dict #[] }) h.objs.size (.ext (nphi G.P G.w h.objs.size [])) :=
  nphi_ok (Nat.zero_le _) (beq_eq_false_iff_ne.mpr (Ne.symm (Nat.ne_of_lt hb))) .nil (Heap.DictOfH.new h) hG.1 hG.2
theorem pe_nnew (hG : G.P = X.prog ∧ G.w = X.w) : PE X (.Dict [] [] pos) (tNNew G) := ⟨fun pins s σ H Q I h =>
  wpAny_Dict_empty ⟨.ref s.heap.objs.size, _, I.laid (a := s.heap.objs.size) (o := .ext (nphi G.P G.w s.heap.objs.size [])) (t' := s.toks) (fun _ _ q => Heap.get?_push_of_some _ q) (Nat.le_refl _) (n_empty hG s.heap I.big), rfl, h _ (I.hok.fresh (Nat.le_refl _))⟩⟩
/-- {k: v} -/
def tNOne (G : GW) (K : PySem.W.Frag) (tk tv : TE) : TE := fun σ H Q => ∀ p, H p = none → tk σ (upd H p (.ext (nphi G.P G.w p []))) fun y H1 => tv σ H1 fun v H2 => H2 p = some (.ext (nphi G.P G.w p [])) ∧ ∃ q k, Rep G K H2 y q ∧ keyN q = some k ∧ Q (.ref p) (upd H2 p (.ext (nphi G.P G.w p [(k, y, v)])))
theorem pe_none {kx vx : Expr} {tk : TE} (hG : G.P = X.prog ∧ G.w = X.w) (hu : X.A.units + 9 < cLine) (hk : PE X kx tk) (hv : PE X vx tv) : PE X (.Dict [some kx] [vx] pos) (tNOne G X.K tk tv) := by
  refine ⟨fun pins s σ H Q I q => ?_⟩
  have hn := I.hok.fresh (Nat.le_refl s.heap.objs.size)
  have I1 := I.laid (a := s.heap.objs.size) (o := .ext (nphi G.P G.w s.heap.objs.size [])) (h' := s.heap.push { cls := .type "dict", data := .dict #[] }) (t' := s.toks) (fun _ _ q => Heap.get?_push_of_some _ q) (Nat.le_refl _) (n_empty hG s.heap I.big)
  refine wpAny_Dict_any rfl rfl (by simp) (by simp) ?_
  have Q0 := q _ hn
  refine thn (pairTrees_cons_walk (Q := fun ws s' => ∃ v1 v2 r1 r2 H', ws = [(v1, v2)] ∧ L2.Inv X pins σ H' s' ∧ RelV r1 v1 ∧ RelV r2 v2 ∧ H' s.heap.objs.size = some (.ext (nphi G.P G.w s.heap.objs.size [])) ∧ ∃ q k, Rep G X.K H' r1 q ∧ keyN q = some k ∧ Q (.ref s.heap.objs.size) (upd H' s.heap.objs.size (.ext (nphi G.P G.w s.heap.objs.size [(k, r1, r2)])))) (thn (hk.run pins _ σ _ _ I1 Q0) fun u s1 ⟨y, H1, I1, ry, q1⟩ => thn (hv.run pins s1 σ H1 _ I1 q1) fun w2 s2 ⟨z, H2, I2, rz, hz, q2⟩ => pairTrees_nil_walk ⟨u, w2, y, z, H2, rfl, I2, ry, rz, hz, q2⟩)) fun ws s2 ⟨v1, v2, r1, r2, H2, ew, I2, e1, e2, hz, qq, k, rq, hkq, q2⟩ => ?_
  subst ew
  have g : NAt G X.K H2 s.heap.objs.size [] [] := ⟨hz, .nil⟩
  obtain ⟨_, hd, xs, pr, d⟩ := n_dict I2 hG.1 hG.2 g.1 g.2
  obtain ⟨b, rfl, rfl, hb⟩ := keyN_is I2 rq hkq e1
  cases pr
  have c : CarriesH (nestedKind X.prog X.w) s2.heap [(Value.ref b, v2)] [(k, b, v2)] := ⟨rfl, rfl, hb, True.intro⟩
  unfold storeAll
  refine wpAny_storeAllH (knd := nestedKind X.prog X.w) (show X.A.units + 8 < cLine from (by omega)) _ _ [] _ _ c d (by simp [sizeLine_eq]) fun h' tk dd hs => ?_
  have he : ∃ q, h'.get? s.heap.objs.size = some q := let ⟨q, _, _, hq, _⟩ := dd; ⟨q, hq⟩
  exact ⟨.ref s.heap.objs.size, _, d_write I2 (by rw [hz]; exact True.intro) hs he (nphi_ok (by simp [sizeLine_eq]) hd (.cons ⟨rfl, rfl, e2⟩ .nil) dd hG.1 hG.2), rfl, q2⟩
end
end Lp
end
section
set_option Elab.async false
set_option linter.all false
set_option maxRecDepth 100000
/-! dicts with nested tuples as keys, on plain values -/
namespace Lp
open PySem PySem.Spec L2
section
variable {G : GW} {K : PySem.W.Frag} {F H F' H' F0 H0 B : Hp} {X : Cx} {v x y : V} {p : PV} {κ : Kd} {E : L2.St → XK} {m md rm : Mode} {e a b o iv : Expr} {es : List Expr} {pos p' pos' : Pos} {σ : L2.St} {τ : LE} {fi fe f f' : LE → Res PV}
def pNGet : PV → PV → Option PV
  | .dN kvs, q => (keyN q).bind (valN kvs)
  | _, _ => none
def pNIn (n : Bool) : PV → PV → Option PV
  | q, .dN kvs => (keyN q).map fun k => .bl (n ^^ hasN kvs k)
  | _, _ => none
theorem Top.nat {v : V} {kvs : List (PV × PV)} (r : Top G K F H v (.dN kvs)) (s : Same F H) : ∃ a es, v = .ref a ∧ NAt G K H a es kvs := by
  rcases r with r | ⟨a, rfl, _, es, h, rr⟩
  · obtain ⟨a, es, rfl, h, rr⟩ := r.dN_inv
    exact ⟨a, es, rfl, s _ _ h, RepN.mono s rr⟩
  · exact ⟨a, es, rfl, h, RepN.mono s rr⟩
theorem v_nget (hG : G.P = X.prog ∧ G.w = X.w) (hu : X.A.units + 9 < cLine) (ha : PE X a (tE G X.K .top E κ f)) (hb : PE X b (tE G X.K .sh E κ f')) (hs : NoSl b := by exact fun _ _ => rfl) : PE X (.Subscript a b pos) (tE G X.K .sh E κ (e2 pNGet f f')) :=
  pe_weak (pe_nget hG hu ha hb hs) fun σ H Q ⟨F, τ, l, q⟩ => by
    refine ⟨F, τ, l, ?_⟩
    unfold e2 at q
    cases hf : f τ with
    | exc c ps => rw [hf] at q; exact q
    | bad => rw [hf] at q; exact q
    | ok p =>
      rw [hf] at q
      intro v F1 H1 e1 r1
      refine ⟨F1, τ, l.ext e1, ?_⟩
      cases hf' : f' τ with
      | exc c ps => rw [Res.ok_bind, hf'] at q; exact ExcOk.ext q e1
      | bad => rw [Res.ok_bind, hf'] at q; exact q
      | ok p' =>
        rw [Res.ok_bind, hf', Res.ok_bind] at q
        intro v' F2 H2 e2 r2
        cases p with
        | dN kvs =>
          unfold pNGet at q
          cases hk : keyN p' with
          | none => simp only [hk, Option.bind_none, up_none] at q
          | some k =>
            simp only [hk, Option.bind_some] at q
            have r2 : Rep G X.K F2 v' p' := r2
            have r1 : Top G X.K F1 H1 v (.dN kvs) := r1
            -- the dict's values stand over F2
            have key : ∃ a es, v = .ref a ∧ H2 a = some (.ext (nphi G.P G.w a es)) ∧ RepN G X.K F2 es kvs := by
              rcases Top.ext r1 e2 with r | ⟨a, rfl, _, es, h, rr⟩
              · obtain ⟨a, es, rfl, h, rr⟩ := r.dN_inv
                exact ⟨a, es, rfl, e2.sub _ _ h, rr⟩
              · exact ⟨a, es, rfl, h, rr⟩
            obtain ⟨a, es, rfl, h, rr⟩ := key
            rcases rr.val (k := k) with ⟨h1, h2⟩ | ⟨w, p0, h1, h2, h3⟩
            · rw [h2] at q; exact q.elim
            · rw [h2] at q
              exact ⟨a, es, kvs, p', k, w, rfl, ⟨h, RepN.mono e2.sub rr⟩, Rep.mono e2.sub r2, hk, h1, q w F2 H2 (e1.trans e2) h3⟩
        | _ => exact q.elim
theorem w_nin {n : Bool} {σ : L2.St} {H : Hp} {Q : VK} (h : tE G K .sh E κ (e2 (pNIn n) f f') σ H Q) :
    tNIn G K n (tE G K .sh E κ f) (tE G K .top E κ f') σ H Q := by
  obtain ⟨F, τ, l, q⟩ := h
  refine ⟨F, τ, l, ?_⟩
  unfold e2 at q
  cases hf : f τ with
  | exc c ps => rw [hf] at q; exact q
  | bad => rw [hf] at q; exact q
  | ok p =>
    rw [hf] at q
    intro v F1 H1 e1 r1
    refine ⟨F1, τ, l.ext e1, ?_⟩
    cases hf' : f' τ with
    | exc c ps => rw [Res.ok_bind, hf'] at q; exact ExcOk.ext q e1
    | bad => rw [Res.ok_bind, hf'] at q; exact q
    | ok p' =>
      rw [Res.ok_bind, hf', Res.ok_bind] at q
      intro v' F2 H2 e2 r2
      cases p' with
      | dN kvs =>
        unfold pNIn at q
        cases hk : keyN p with
        | none => simp only [hk, Option.map_none, up_none] at q
        | some k =>
          simp only [hk, Option.map_some, up_some] at q
          have r1 : Rep G K F1 v p := r1
          obtain ⟨a, es, rfl, hn⟩ := Top.nat (show Top G K F2 H2 v' (.dN kvs) from r2) e2.sub
          refine ⟨a, es, kvs, p, k, rfl, hn, Rep.mono e2.sub (Rep.mono e2.f r1), hk, ?_⟩
          have hh : (atE es k).isSome = hasN kvs k := by
            rw [hasN_val]
            rcases hn.2.val (k := k) with ⟨h1, h2⟩ | ⟨w, p0, h1, h2, h3⟩
            · rw [h1, h2]; rfl
            · rw [h1, h2]; rfl
          rw [hh]
          exact q _ F2 H2 (e1.trans e2) (.bl _)
      | _ => unfold pNIn at q; exact q.elim
theorem v_nin (hG : G.P = X.prog ∧ G.w = X.w) (hu : X.A.units + 9 < cLine) (ha : PE X a (tE G X.K .sh E κ f)) (hb : PE X b (tE G X.K .top E κ f')) (h1 : behindInMarks .In b = false := by first | rfl | with_unfolding_all rfl) : PE X (.Compare a [.In] [b] pos) (tE G X.K .sh E κ (e2 (pNIn false) f f')) :=
  pe_weak (pe_cmp (pc_nin hG hu ha hb) h1) fun σ H Q h => w_nin h
theorem v_nnin (hG : G.P = X.prog ∧ G.w = X.w) (hu : X.A.units + 9 < cLine) (ha : PE X a (tE G X.K .sh E κ f)) (hb : PE X b (tE G X.K .top E κ f')) (h1 : behindInMarks .NotIn b = false := by first | rfl | with_unfolding_all rfl) : PE X (.Compare a [.NotIn] [b] pos) (tE G X.K .sh E κ (e2 (pNIn true) f f')) :=
  pe_weak (pe_cmp (pc_nnin hG hu ha hb) h1) fun σ H Q h => w_nin h
theorem t_nin (hG : G.P = X.prog ∧ G.w = X.w) (hu : X.A.units + 9 < cLine) (ha : PE X a (tE G X.K .sh E κ f)) (hb : PE X b (tE G X.K .top E κ f')) (h1 : behindInMarks .In b = false := by first | rfl | with_unfolding_all rfl) : PT X (.Compare a [.In] [b] pos) (tT G X.K E κ (tst (e2 (pNIn false) f f'))) :=
  pt_weak (pt_cmp (pc_nin hG hu ha hb) h1) fun σ H Q q => w_tst (fun σ H Q h => w_nin h) q
theorem t_nnin (hG : G.P = X.prog ∧ G.w = X.w) (hu : X.A.units + 9 < cLine) (ha : PE X a (tE G X.K .sh E κ f)) (hb : PE X b (tE G X.K .top E κ f')) (h1 : behindInMarks .NotIn b = false := by first | rfl | with_unfolding_all rfl) : PT X (.Compare a [.NotIn] [b] pos) (tT G X.K E κ (tst (e2 (pNIn true) f f'))) :=
  pt_weak (pt_cmp (pc_nnin hG hu ha hb) h1) fun σ H Q q => w_tst (fun σ H Q h => w_nin h) q
/-- {} -/
theorem v_nnew (hG : G.P = X.prog ∧ G.w = X.w) : PE X (.Dict [] [] pos) (tE G X.K .fr E κ (eC (.dN []))) := pe_weak (pe_nnew hG) fun σ H Q ⟨F, τ, l, q⟩ p np =>
  q (.ref p) F _ (Ext.pushOwn _ (Ext.refl l.sub) np) ⟨p, rfl, np, Same.free l.sub np, [], upd_same, .nil⟩
/-- {k: v} -/
def eNOne (f f' : LE → Res PV) : LE → Res PV := fun τ => f τ >>= fun q => f' τ >>= fun p => match keyN q with
  | some _ => .ok (.dN [(q, p)])
  | none => .bad
theorem v_none (hG : G.P = X.prog ∧ G.w = X.w) (hu : X.A.units + 9 < cLine) (ha : PE X a (tE G X.K .sh E κ f)) (hb : PE X b (tE G X.K .sh E κ f')) : PE X (.Dict [some a] [b] pos) (tE G X.K .fr E κ (eNOne f f')) :=
  pe_weak (pe_none hG hu ha hb) fun σ H Q ⟨F, τ, l, q⟩ p np => by
    have e0 := Ext.pushOwn (.ext (nphi G.P G.w p [])) (Ext.refl l.sub) np
    have hFp := Same.free l.sub np
    refine ⟨F, τ, l.ext e0, ?_⟩
    unfold eNOne at q
    cases hf : f τ with
    | exc c ps => rw [hf] at q; exact ExcOk.ext q e0
    | bad => rw [hf] at q; exact q
    | ok pk =>
      rw [hf, Res.ok_bind] at q
      intro v F1 H1 e1 r1
      refine ⟨F1, τ, (l.ext e0).ext e1, ?_⟩
      cases hf' : f' τ with
      | exc c ps => rw [hf'] at q; exact ExcOk.ext (ExcOk.ext q e0) e1
      | bad => rw [hf'] at q; exact q
      | ok pv =>
        rw [hf', Res.ok_bind] at q
        intro v' F2 H2 e2 r2
        have hp : H2 p = some (.ext (nphi G.P G.w p [])) := e2.h _ _ (e1.h _ _ upd_same)
        have hF2 : F2 p = none := e2.apart (e1.apart hFp upd_same) (e1.h _ _ upd_same)
        refine ⟨hp, pk, ?_⟩
        cases hk : keyN pk with
        | none => rw [hk] at q; exact q.elim
        | some k =>
          rw [hk] at q
          have r1 : Rep G X.K F1 v pk := r1
          have r2 : Rep G X.K F2 v' pv := r2
          refine ⟨k, Rep.mono e2.sub (Rep.mono e2.f r1), rfl, ?_⟩
          have ee : Ext F H F2 (upd H2 p (.ext (nphi G.P G.w p [(k, v, v')]))) := by
            have e3 := (e1.trans e2)
            refine ⟨e3.f, fun a o h => ?_, same_updR e3.sub hF2, fun a h1 h2 => ?_⟩
            · rw [upd_ne (ne_of_none h np)]
              exact e3.h _ _ (e0.h _ _ h)
            · have := e3.new a h1 h2
              exact (by
                by_cases hap : a = p
                · rw [hap]; exact np
                · rw [upd_ne hap] at this; exact this)
          exact q (.ref p) F2 _ ee ⟨p, rfl, np, hF2, _, upd_same, .cons hk (Rep.mono e2.f r1) r2 .nil⟩
/-! d[k] = e -/
def onDN (t : Option (Option PV)) (f : List (PV × PV) → Fl) : Fl := match t with
  | some (some (.dN ps)) => f ps
  | _ => .bad
@[simp] theorem onDN_ok (ps : List (PV × PV)) (f : List (PV × PV) → Fl) : onDN (some (some (.dN ps))) f = f ps := (rfl)
theorem onDN_or (t : Option (Option PV)) (f : List (PV × PV) → Fl) : (∃ ps, t = some (some (.dN ps))) ∨ onDN t f = .bad := by
  unfold onDN
  split
  · exact .inl ⟨_, rfl⟩
  · exact .inr rfl
def sPutN (i : Nat) (fi fe : LE → Res PV) : LE → Fl := fun τ => rs (fe τ) τ fun p => onDN τ[i]? fun kvs => rs (fi τ) τ fun q => match keyN q with
    | some k => if kvs.length < 1000000 then .nx (τ.set i (some (.dN (setN kvs q k p)))) else .bad
    | none => .bad
theorem s_putN {x : Str} (hG : G.P = X.prog ∧ G.w = X.w) (i : Nat) (hu : X.A.units + 9 < cLine) (hi : PE X iv (tE G X.K .sh E κ fi)) (he : PE X e (tE G X.K .sh E κ fe)) (k : κ i = true := by rfl) (hN : X.N[i]? = some x := by rfl) (hv : Vis X.env.scope x := by first | exact Or.inl rfl | exact Or.inr (Or.inl rfl) | exact Or.inr (Or.inr rfl)) (hd : (x == ("__debug__" : Str)) = false := by decide)
    (hcd : (x == ("__classdict__" : Str)) = false := by decide) (hs : swapsWith e (some (.Subscript (.Name x p') iv pos')) pos.line X.env = pure false := by rfl) : PS X (.Assign [.Subscript (.Name x p') iv pos'] e pos) (tStm G X.K E κ rm (sPutN i fi fe)) :=
  ps_weak (ps_nput hG hu (pe_var hN hv hd hcd) hi he hs) fun D σ H ⟨F0, H0, F, τ, zs, l, q⟩ => by
    refine ⟨F, τ, l.lc, ?_⟩
    unfold sPutN at q
    cases h : fe τ with
    | bad => rw [h] at q; exact q.elim
    | exc c ps => rw [h, rs_exc] at q; exact l.exc q
    | ok pv =>
      rw [h, rs_ok] at q
      intro v F1 H1 e1 r1
      have l1 := l.of_ext e1
      rcases onDN_or τ[i]? _ with ⟨ps, ht⟩ | hb
      case inr => rw [hb] at q; exact q.elim
      obtain ⟨a, e2, hF, ow⟩ := l1.lc.ow i _ ht k
      simp only [ht, onDN_ok] at q
      refine ⟨.ref a, e2, F1, τ, l1.lc, ?_⟩
      cases h2 : fi τ with
      | bad => rw [h2] at q; exact q.elim
      | exc c ps => rw [h2, rs_exc] at q; exact l1.exc q
      | ok pi =>
        rw [h2, rs_ok] at q
        intro w F2 H2 e3 r3
        have l2 := l1.of_ext e3
        cases hk : keyN pi with
        | none => simp only [hk] at q
        | some kk =>
          simp only [hk] at q
          by_cases hl : ps.length < 1000000
          · rw [if_pos hl] at q
            obtain ⟨a', e2', hF', kvs, hH, rr⟩ := l2.lc.ow i _ ht k
            rw [e2] at e2'
            cases e2'
            have r3 : Rep G X.K F2 w pi := r3
            have r1 : Rep G X.K F1 v pv := r1
            refine ⟨a, kvs, ps, pi, kk, rfl, ⟨hH, RepN.mono l2.lc.sub rr⟩, Rep.mono l2.lc.sub r3, hk, by rw [rr.length, sizeLine_eq]; omega, ?_⟩
            exact q σ F2 _ (l2.write k ht e2 ⟨_, upd_same, RepN.set rr hk r3 (Rep.mono e3.f r1)⟩)
          · rw [if_neg hl] at q; exact q.elim
end
end Lp
end
section
set_option Elab.async false
set_option linter.all false
set_option maxRecDepth 100000
/-! sorted(..) of tuples of data, of any length; list(d) of a dict with nested keys -/
namespace Lp
open PySem PySem.Spec L2 PySem.W
def encP (p : PV) : PyData := (p.toD).getD .none
def leP (a b : PV) : Bool := !dataLt (encP b) (encP a)
def okTup (p : PV) : Bool := match p.toD with
  | some (.tuple (x :: r)) => decide ((PyData.tuple (x :: r)).depth ≤ 20)
  | _ => false
def okSort (ps : List PV) : Bool := ps.all okTup && ps.all fun p => ps.all fun q => alike (encP p) (encP q)
def pSortD : List PV → Option PV
  | [.lst ps] => if okSort ps = true ∧ ps.length ≤ 1000000 then some (.lst (ps.mergeSort leP)) else none
  | _ => none
def pListN : List PV → Option PV
  | [.dN ps] => some (.lst (ps.map fun kv => kv.1))
  | _ => none
def rSortD (K : PySem.W.Frag) : List V → Hp → VK → Prop := fun xs H Q => ∃ (a : Addr) (ts : List (V × PV)), xs = [.ref a] ∧ SqL K H a (ts.map (·.1)) ∧ (∀ t ∈ ts, Dp K H t.1 (encP t.2)) ∧ okSort (ts.map (·.2)) = true ∧ ts.length ≤ 1000000 ∧
  ∀ p, H p = none → Q (.ref p) (upd H p (.lst ((ts.mergeSort (dataLe false fun t => encP t.2)).map (·.1))))
theorem okTup_some {p : PV} (h : okTup p = true) : ∃ x r, p.toD = some (.tuple (x :: r)) ∧ encP p = .tuple (x :: r) ∧ (encP p).depth ≤ 20 := by
  unfold okTup at h
  split at h
  · rename_i x r hd
    refine ⟨x, r, hd, by unfold encP; rw [hd]; rfl, ?_⟩
    unfold encP
    rw [hd]
    exact of_decide_eq_true h
  · cases h
theorem each_ts {K : PySem.W.Frag} {H : Hp} {X : Cx} {pins : List (Addr × Obj)} {σ : L2.St} {s : Shared} (I : L2.Inv X pins σ H s) : ∀ {ts : List (V × PV)} {us : List Value}, (∀ t ∈ ts, Dp X.K H t.1 (encP t.2)) → Vals (ts.map (·.1)) us →
    EachIs (fun (u : Value) (t : V × PV) => RelV t.1 u) us ts ∧ EachIs (fun (u : Value) (t : V × PV) => ∃ as, PySem.Reads s.heap u (encP t.2) as) us ts
  | [], _, _, r => by cases r; exact ⟨.nil, .nil⟩
  | t :: ts, _, h, r => by
    rw [List.map_cons] at r
    cases r with
    | cons r rs =>
      obtain ⟨h1, h2⟩ := each_ts (K := K) I (fun z hz => h z (List.mem_cons_of_mem _ hz)) rs
      exact ⟨.cons r h1, .cons (Dp.reads I _ _ _ (h t List.mem_cons_self) r) h2⟩
theorem vals_each : ∀ {us : List Value} {ts : List (V × PV)}, EachIs (fun (u : Value) (t : V × PV) => RelV t.1 u) us ts → Vals (ts.map (·.1)) us
  | _, _, .nil => .nil
  | _, _, .cons h t => .cons h (vals_each t)
section
variable {X : Cx}
theorem cr_sortD (hu : X.A.units + 32 < cLine) : CallR X (.builtin "sorted") (rSortD X.K) := by
  intro pins s σ H vs us Q I r h
  obtain ⟨a, ts, rfl, hs, hd, hok, hln, q⟩ := h
  obtain ⟨its, rv, hl, _⟩ := I.list hs
  rw [Vals.ref1 r]
  obtain ⟨h1, h2⟩ := each_ts (K := X.K) I hd rv
  unfold okSort at hok
  rw [Bool.and_eq_true] at hok
  have hz : ts.length ≤ sizeLine := by rw [sizeLine_eq]; omega
  have hal : AllAlike (ts.map fun t => encP t.2) := by
    intro d hd d' hd'
    obtain ⟨t, ht, rfl⟩ := List.mem_map.mp hd
    obtain ⟨t', ht', rfl⟩ := List.mem_map.mp hd'
    exact List.all_eq_true.mp (List.all_eq_true.mp hok.2 t.2 (List.mem_map_of_mem ht)) t'.2 (List.mem_map_of_mem ht')
  have htup : ∀ t ∈ ts, okTup t.2 = true := fun t ht => List.all_eq_true.mp hok.1 t.2 (List.mem_map_of_mem ht)
  have hso : Sortable (ts.map fun t => encP t.2) := .inl fun d hd => by
    obtain ⟨t, ht, rfl⟩ := List.mem_map.mp hd
    obtain ⟨x, r, _, e, _⟩ := okTup_some (htup t ht)
    exact ⟨x, r, e⟩
  refine sorted_data (enc := fun t : V × PV => encP t.2) hl.isList h1 h2 hal hso hz (fun t ht => ?_) fun out ho he => ?_
  · obtain ⟨_, _, _, _, hdp⟩ := okTup_some (htup t ht)
    show X.A.units + 2 + (encP t.2).depth < cLine
    omega
  · obtain ⟨ep, he'⟩ := PyProof.Rows.sortedAll_at s.heap its out.toArray
    refine ⟨.ref _, upd H (s.heap.objs.size + 1) (.lst ((ts.mergeSort (dataLe false fun t => encP t.2)).map (·.1))), I.laid (t' := s.toks) (fun _ _ => PyProof.Rows.sortedAll_old) (Nat.le_succ _) ⟨?_, out, ep, vals_each he, ?_⟩, rfl, q _ (I.hok.fresh (Nat.le_succ _))⟩
    · rw [List.length_map, List.length_mergeSort]; exact hz
    · simpa using he'
theorem call_listN (hc : X.calm = true) {G : GW} (hG : G.P = X.prog ∧ G.w = X.w) : CallR X (.type "list") (fun xs H Q => ∃ d es ps, xs = [V.ref d] ∧ NAt G X.K H d es ps ∧ ∀ p, H p = none → Q (.ref p) (upd H p (.lst (es.map (·.2.1))))) := by
  intro pins s σ H xs us Q I r h
  obtain ⟨d, es0, ps, rfl, hd, q⟩ := h
  obtain ⟨u, rfl, rx⟩ := r.one
  cases rx
  obtain ⟨z, hs, ks, pr, o, es, ep, ho, hx, hdt, he, hi, hn⟩ := n_dict I hG.1 hG.2 hd.1 hd.2
  have l1 : es.size = ks.length := size_of_entries he
  have l2 : es0.length = ks.length := Paired.length pr
  refine PySem.W.kdl_call (kdl_raw hs hx hdt) (I.ok.hd hc) ho (by omega) fun h' tk acc' c' kp e it => ?_
  have ea : acc'.toList = ks.map fun x => Value.ref x.2.1 := by
    have hl : acc'.toList.length = ks.length := by rw [Array.length_toList, it.1]; exact l1
    apply List.ext_getElem?
    intro j
    rw [List.getElem?_map]
    cases hj : acc'.toList[j]? with
    | none =>
      have h1 := List.getElem?_eq_none_iff.mp hj
      rw [List.getElem?_eq_none (by omega)]
      all_goals rfl
    | some v =>
      obtain ⟨en, hen, hv⟩ := it.2 j v (by rw [← Array.getElem?_toList]; exact hj)
      have qe := entry_at he j
      rw [hen] at qe
      cases hb : ks[j]? with
      | none =>
        rw [hb] at qe
        exact nomatch (show some en = none from qe)
      | some b =>
        rw [hb] at qe
        have e2 : en = entryOfKey (nestedKind X.prog X.w) b := Option.some.inj qe
        rw [hv, e2]
        all_goals rfl
  have rv : Vals (es0.map (·.2.1)) acc'.toList := by
    rw [ea]
    clear ea it e he l1 l2 hi hn hd z q
    induction pr with
    | nil => exact .nil
    | cons h t ih =>
      rw [List.map_cons, List.map_cons]
      refine .cons (by rw [h.2.1]; rfl) ih
  have hz : (es0.map (·.2.1)).length ≤ sizeLine := by rw [List.length_map]; omega
  refine ⟨.ref s.heap.objs.size, _, I.laid (t' := tk) (o := .lst (es0.map (·.2.1))) kp (Nat.le_refl _) ?_, rfl, q _ (I.hok.fresh (Nat.le_refl _))⟩
  exact ⟨hz, acc'.toList, c', rv, by rw [Array.toArray_toList]; exact e⟩
end
section
variable {G : GW} {K : PySem.W.Frag} {F H : Hp}
theorem zip_fst : ∀ {vs : List V} {ps : List PV}, Reps G K F vs ps → (vs.zip ps).map (·.1) = vs ∧ (vs.zip ps).map (·.2) = ps
  | _, _, .nil => ⟨rfl, rfl⟩
  | _, _, .cons _ rs => by
    obtain ⟨h1, h2⟩ := zip_fst rs
    simp [h1, h2]
theorem zip_rep : ∀ {vs : List V} {ps : List PV}, Reps G K F vs ps → ∀ t ∈ vs.zip ps, Rep G K F t.1 t.2
  | _, _, .nil, t, h => by simp at h
  | _, _, .cons r rs, t, h => by
    rw [List.zip_cons_cons] at h
    rcases List.mem_cons.mp h with rfl | h
    · exact r
    · exact zip_rep rs t h
theorem reps_map : ∀ {ts : List (V × PV)}, (∀ t ∈ ts, Rep G K F t.1 t.2) → Reps G K F (ts.map (·.1)) (ts.map (·.2))
  | [], _ => .nil
  | t :: ts, h => .cons (h t List.mem_cons_self) (reps_map fun z hz => h z (List.mem_cons_of_mem _ hz))
theorem g_sortD : CalV G K (rSortD K) .fr pSortD := by
  intro F H xs ps z Q s r hz k
  unfold pSortD at hz
  split at hz
  · rename_i ps
    split at hz
    · rename_i hok
      cases hz
      obtain ⟨v, rfl, rv⟩ := r.one
      obtain ⟨a, vs, rfl, h, rr⟩ := rv.lst_inv s
      obtain ⟨z1, z2⟩ := zip_fst rr
      have zr := zip_rep rr
      refine ⟨a, vs.zip ps, rfl, .inl (by rw [z1]; exact h), fun t ht => ?_, by rw [z2]; exact hok.1, ?_, fun p np => ?_⟩
      · have ho := hok.1
        unfold okSort at ho
        rw [Bool.and_eq_true] at ho
        have hm : t.2 ∈ ps := by rw [← z2]; exact List.mem_map_of_mem ht
        obtain ⟨x, r, e1, e2, _⟩ := okTup_some (List.all_eq_true.mp ho.1 _ hm)
        rw [e2]
        exact Rep.dp (Rep.mono s (zr t ht)) e1
      · have := congrArg List.length z2
        rw [List.length_map] at this
        omega
      · have hr := reps_map (G := G) (K := K) (F := F) (ts := (vs.zip ps).mergeSort (dataLe false fun t => encP t.2)) fun t ht => zr t (List.mem_mergeSort.mp ht)
        have hm : ((vs.zip ps).mergeSort (dataLe false fun t => encP t.2)).map (·.2) = ps.mergeSort leP := by
          have := List.map_mergeSort (r := dataLe false fun t : V × PV => encP t.2) (s := leP) (f := fun t : V × PV => t.2) (l := vs.zip ps) (fun a _ b _ => rfl)
          rw [this, z2]
        rw [hm] at hr
        obtain ⟨e, f⟩ := frs_new s np hr
        exact k _ _ _ e f
    · cases hz
  · cases hz
theorem g_listN : CalV G K (fun xs H Q => ∃ d es ps, xs = [V.ref d] ∧ NAt G K H d es ps ∧ ∀ p, H p = none → Q (.ref p) (upd H p (.lst (es.map (·.2.1))))) .fr pListN := by
  intro F H xs ps z Q s r hz k
  unfold pListN at hz
  split at hz
  · rename_i kvs
    cases hz
    obtain ⟨v, rfl, rv⟩ := r.one
    have key : ∃ a es, v = .ref a ∧ H a = some (.ext (nphi G.P G.w a es)) ∧ RepN G K F es kvs := by
      rcases rv with r | ⟨a, rfl, _, es, h, rr⟩
      · obtain ⟨a, es, rfl, h, rr⟩ := r.dN_inv
        exact ⟨a, es, rfl, s _ _ h, rr⟩
      · exact ⟨a, es, rfl, h, rr⟩
    obtain ⟨a, es, rfl, h, rr⟩ := key
    refine ⟨a, es, _, rfl, ⟨h, RepN.mono s rr⟩, fun l nl => ?_⟩
    obtain ⟨e, f⟩ := frs_new s nl rr.keys
    exact k _ _ _ e f
  · cases hz
end
end Lp
end
section
set_option Elab.async false
set_option linter.all false
set_option maxRecDepth 100000
/-! a slot's list changed within an argument, a tuple, the iterable of a for -/
namespace Lp
open PySem PySem.Spec L2
section
variable (G : GW) (K : PySem.W.Frag)
def tAM (E : L2.St → XK) (κ : Kd) (f : LE → Res (List PV × LE)) : TA := fun σ H Q => ∃ F0 H0 F τ zs, Ls G K κ zs F0 H0 F H σ τ ∧ match f τ with
  | .ok r => ∀ vs F' H', Ls G K κ zs F0 H0 F' H' σ r.2 → Reps G K F' vs r.1 → Q vs H'
  | .exc c ps => ExcOk G K (E σ) F H c ps
  | .bad => False
def tIM (E : L2.St → XK) (κ : Kd) (f : LE → Res (List PV × LE)) : TI := fun σ H R => ∃ F0 H0 F τ zs, Ls G K κ zs F0 H0 F H σ τ ∧ match f τ with
  | .ok r => ∀ J F' H', Ls G K κ zs F0 H0 F' H' σ r.2 → Itp G K J F' F' r.1 → R J H'
  | .exc c ps => ExcOk G K (E σ) F H c ps
  | .bad => False
end
theorem hu9 {k : Nat} {A : Around} (r : Room k A) : A.units + 9 < cLine := by have := r.un; omega
theorem hu32 {k : Nat} {A : Around} (r : Room k A) : A.units + 32 < cLine := by have := r.un; omega
def aOneM (f : LE → Res (PV × LE)) : LE → Res (List PV × LE) := fun τ => f τ >>= fun r => .ok ([r.1], r.2)
def aConsM (f : LE → Res PV) (g : LE → Res (List PV × LE)) : LE → Res (List PV × LE) := fun τ => f τ >>= fun p => g τ >>= fun r => .ok (p :: r.1, r.2)
def eTupM (f : LE → Res (List PV × LE)) : LE → Res (PV × LE) := fun τ => f τ >>= fun r => if r.1.length ≤ 1000 then .ok (.tup r.1, r.2) else .bad
def eFnM (g : List PV → Res PV) (f : LE → Res (List PV × LE)) : LE → Res (PV × LE) := fun τ => f τ >>= fun r => (g r.1).nx >>= fun p => .ok (p, r.2)
def iSeqM (f : LE → Res (PV × LE)) : LE → Res (List PV × LE) := fun τ => f τ >>= fun r => up (itemsOf r.1) >>= fun ps => .ok (ps, r.2)
def sForM (it : LE → Res (List PV × LE)) (g : PV → LE → Res LE) (body : LE → Fl) : LE → Fl := fun τ => rs (it τ) τ fun r => forL g body r.1 r.2
section
variable {G : GW} {F H F' H' F0 H0 : Hp} {X : Cx} {v : V} {p : PV} {κ : Kd} {E : L2.St → XK} {W : WX} {m md rm : Mode} {e a b tg iter : Expr} {es : List Expr} {pos p' : Pos} {zs : Option Addr} {σ : L2.St} {τ : LE} {x : Str} {k n : Nat}
theorem am_one {f : LE → Res (PV × LE)} (h : PE X e (tM (G := G) (K := X.K) E κ f)) (hs : starEach [e] X.env = (false, eval e X.env) :: starEach [] X.env := by rfl) : PA X [e] (tAM G X.K E κ (aOneM f)) :=
  pa_weak (pa_cons h pa_nil hs) fun σ H Q ⟨F0, H0, F, τ, zs, l, q⟩ => by
    refine ⟨F0, H0, F, τ, zs, l, ?_⟩
    unfold aOneM at q
    cases hf : f τ with
    | bad => rw [hf] at q; exact q.elim
    | exc c ps => rw [hf] at q; exact q
    | ok r =>
      rw [hf, Res.ok_bind] at q
      exact fun v F1 H1 l1 r1 => q [v] F1 H1 l1 (.cons r1 .nil)
theorem am_cons {f : LE → Res PV} {g : LE → Res (List PV × LE)} (h : PE X e (tE G X.K .sh E κ f)) (hr : PA X es (tAM G X.K E κ g)) (hs : starEach (e :: es) X.env = (false, eval e X.env) :: starEach es X.env := by rfl) : PA X (e :: es) (tAM G X.K E κ (aConsM f g)) :=
  pa_weak (pa_cons h hr hs) fun σ H Q ⟨F0, H0, F, τ, zs, l, q⟩ => by
    refine ⟨F, τ, l.lc, ?_⟩
    unfold aConsM at q
    cases hf : f τ with
    | bad => rw [hf] at q; exact q.elim
    | exc c ps => rw [hf] at q; exact q
    | ok p =>
      rw [hf, Res.ok_bind] at q
      intro v F1 H1 e1 r1
      obtain ⟨H2, e2, l2⟩ := (l.of_ext e1).rebase
      refine ⟨F1, H2, F1, τ, zs, l2, ?_⟩
      cases hg : g τ with
      | bad => rw [hg] at q; exact q.elim
      | exc c ps => rw [hg] at q; exact ExcOk.ext q e1
      | ok r =>
        rw [hg, Res.ok_bind] at q
        exact fun vs F3 H3 l3 r3 => q (v :: vs) F3 H3 (l3.back e2) (.cons (Rep.mono l3.ext.f r1) r3)
theorem m_tup {x1} {f : LE → Res (List PV × LE)} (h : PA X es (tAM G X.K E κ f)) : PE X (.Tuple es x1 pos) (tM (G := G) (K := X.K) E κ (eTupM f)) := pe_weak (Lk.pe_tupK h) fun σ H Q ⟨F0, H0, F, τ, zs, l, q⟩ => by
  refine ⟨F0, H0, F, τ, zs, l, ?_⟩
  unfold eTupM at q
  cases hf : f τ with
  | exc c ps => rw [hf] at q; exact q
  | bad => rw [hf] at q; exact q
  | ok r =>
    rw [hf, Res.ok_bind] at q
    intro vs F1 H1 l1 r1
    by_cases hl : r.1.length ≤ 1000
    · rw [if_pos hl] at q
      refine ⟨by rw [r1.length, sizeLine_eq]; omega, fun p o np ko => ?_⟩
      obtain ⟨e, rr⟩ := rep_tup l1.lc.sub np ko r1
      exact q _ _ _ (l1.of_ext e) rr
    · rw [if_neg hl] at q; exact q.elim
theorem m_call {g : List PV → Res PV} {fa : LE → Res (List PV × LE)} (D : Dk X.prog X.w X.K X.mg X.base k x (spM G X.K .sh n g)) (hr : Room k X.A) (tk : Takes X W) (ha : PA X (e :: es) (tAM G X.K (WE W) κ fa)) (hL : ∀ ps, g ps ≠ .bad → ps.length = n) (hg : Gl X x := by rfl)
    (hdb : (x == ("__debug__" : Str)) = false := by decide) (he : starEach (e :: es) X.env = (false, eval e X.env) :: starEach es X.env := by rfl) (hpl : (backTo pos (starEach es X.env)).any (·.1) = false := by rfl) :
    PE X (.Call (.Name x p') (e :: es) [] pos) (tM (G := G) (K := X.K) (WE W) κ (eFnM g fa)) := by
  obtain ⟨f, fd, ps, Fk, hm, hk, hb⟩ := D.ex
  refine pe_weak (pe_callS Fk hr hg hm hk hb (fun σ => passAt tk σ) ha hdb he hpl) fun σ H Q ⟨F0, H0, F, τ, zs, l, q⟩ => ?_
  refine ⟨F0, H0, F, τ, zs, l, ?_⟩
  unfold eFnM at q
  cases hf : fa τ with
  | bad => rw [hf] at q; exact q
  | exc c ps => rw [hf] at q; exact q
  | ok qs =>
    rw [hf, Res.ok_bind] at q
    intro vs F1 H1 l1 r1
    refine ⟨F1, qs.1, l1.lc.sub, r1, hL qs.1 fun z => by rw [z] at q; exact q, ?_⟩
    cases hg : g qs.1 with
    | bad => rw [hg] at q; exact q
    | exc c ps => rw [hg] at q; exact q.elim
    | ok p => rw [hg] at q; exact fun v F2 H2 e2 r2 => q v F2 H2 (l1.of_ext e2) r2
theorem i_seqM {f : LE → Res (PV × LE)} (h : PE X e (tM (G := G) (K := X.K) E κ f)) : PI X tg e (tIM G X.K E κ (iSeqM f)) := pi_weak (pi_any h) fun σ H R ⟨F0, H0, F, τ, zs, l, q⟩ => by
  refine ⟨F0, H0, F, τ, zs, l, ?_⟩
  unfold iSeqM at q
  cases hf : f τ with
  | exc c ps => rw [hf] at q; exact q
  | bad => rw [hf] at q; exact q
  | ok r =>
    obtain ⟨p, τ'⟩ := r
    rw [hf, Res.ok_bind] at q
    intro v F1 H1 l1 r1
    dsimp only at q l1 r1
    cases p with
    | lst xs =>
      obtain ⟨a, vs, rfl, hS, rr⟩ := Rep.lst_inv r1
      exact .inl ⟨a, vs, rfl, .inl (Same.rd l1.lc.sub hS), fun hl => q _ F1 H1 l1 (Itp.list (.inl hS) rr hl)⟩
    | tup xs =>
      obtain ⟨a, vs, rfl, hS, rr⟩ := Rep.tup_inv r1
      exact .inr (.inl ⟨a, vs, rfl, Same.sqt l1.lc.sub hS, fun hl => q _ F1 H1 l1 (Itp.tup hS rr hl)⟩)
    | str z =>
      obtain rfl := Rep.str_inv r1
      unfold itemsOf at q
      by_cases hl : z.length ≤ sizeLine
      · simp only [if_pos hl, up_some, Res.ok_bind] at q
        exact .inr (.inr ⟨z, rfl, q _ F1 H1 l1 (Itp.str hl)⟩)
      · simp only [if_neg hl, up_none, Res.bad_bind] at q
    | _ => exact q.elim
theorem s_forM {ws : List Nat} {wi : LE → Res (List PV × LE)} {g : PV → LE → Res LE} {body : LE → Fl} {sb : List Stmt} (hp : PassesOwn (model X.prog X.w) X.A X.env X.xe) (hc : X.calm = true) (hi : PI X tg iter (tIM G X.K E κ wi)) (hg : PG X tg (tG G X.K ws E κ g)) (ok : GOk κ ws g)
    (hb : PSs X sb (tStm G X.K E κ rm body)) (hs : ∀ x, foldedSetIterable iter X.env x = pure x := by intro _; rfl) : PS X (.For tg iter sb [] pos) (tStm G X.K E κ rm (sForM wi g body)) := ps_weak (ps_for hp hc hi hg hb hs) fun D σ H ⟨F0, H0, F, τ, zs, l, q⟩ => by
  refine ⟨F0, H0, F, τ, zs, l, ?_⟩
  unfold sForM at q
  cases h : wi τ with
  | bad => rw [h] at q; exact q.elim
  | exc c ps => rw [h, rs_exc] at q; exact l.exc q
  | ok r =>
    obtain ⟨ps, τ0⟩ := r
    rw [h, rs_ok] at q
    intro J F1 H1 l1 i1
    dsimp only at q l1 i1
    refine ⟨fun i m σ H => m = ps.length - i ∧ i ≤ ps.length ∧ ∃ F τ', Ls G X.K κ zs F0 H0 F H σ τ' ∧ Same F1 F ∧ forL g body (ps.drop i) τ' = forL g body ps τ0,
      ⟨ps.length, by simp, Nat.zero_le _, F1, τ0, l1, Same.refl _, rfl⟩, ?_⟩
    rintro i m σ2 H2 ⟨rfl, hi, F2, τ2, l2, s2, hq⟩
    have sB : Same F1 H2 := s2.trans l2.ext.sub
    by_cases hlt : i < ps.length
    · refine .inr ⟨i1.go i H2 sB hlt, fun σ H => ∃ F τ', Ls G X.K κ zs F0 H0 F H σ τ' ∧ Same F1 F ∧ forL g body (ps.drop (i + 1)) τ' = forL g body ps τ0, fun σ' H' n => ⟨ps.length - (i + 1), by omega, rfl, hlt, n⟩, fun x H3 hy => ?_⟩
      have hp : ps[i]? = some ps[i] := List.getElem?_eq_getElem hlt
      obtain ⟨F3, e3, r3⟩ := i1.yld i x H2 H3 F2 _ sB s2 l2.ext.sub hy hp
      have l3 := l2.of_ext e3
      refine ⟨F3, τ2, ps[i], l3.lc, r3, ?_⟩
      rw [List.drop_eq_getElem_cons hlt, forL] at hq
      cases hg' : g ps[i] τ2 with
      | exc c fs => rw [hg', Res.nx_exc, rs_bad] at hq; rw [← hq] at q; exact q.elim
      | bad => rw [hg', Res.nx_bad, rs_bad] at hq; rw [← hq] at q; exact q.elim
      | ok τ3 =>
        rw [hg', Res.nx_ok, rs_ok] at hq
        intro σ' l' k'
        have l4 : Ls G X.K κ zs F0 H0 F3 H3 σ' τ3 := ⟨l', l3.ext, fun i p a h1 h2 h3 => by
          have hi : i ∉ ws := fun z => by rw [ok.un i z] at h1; cases h1
          rw [ok.keep _ _ _ hg' i hi] at h2
          rw [k' i hi] at h3
          exact l3.new i p a h1 h2 h3, fun a e => ⟨(l3.me a e).1, by rw [k' 0 fun z => by have := ok.un 0 z; rw [(l3.me a e).1] at this; cases this]; exact (l3.me a e).2⟩⟩
        obtain ⟨H5, e5, l5⟩ := l4.rebase
        refine ⟨F3, H5, F3, τ3, zs, l5, ?_⟩
        have nxt : ∀ τ4, forL g body (ps.drop (i + 1)) τ4 = forL g body ps τ0 → ∀ σ' F' H', Ls G X.K κ zs F3 H5 F' H' σ' τ4 → ∃ F τ', Ls G X.K κ zs F0 H0 F H' σ' τ' ∧ Same F1 F ∧ forL g body (ps.drop (i + 1)) τ' = forL g body ps τ0 :=
          fun τ4 h4 σ' F' H' l' => ⟨F', τ4, l'.back e5, (s2.trans e3.f).trans l'.ext.f, h4⟩
        cases hbd : body τ3 with
        | nx τ4 => rw [hbd] at hq; exact nxt τ4 hq
        | ct τ4 => rw [hbd] at hq; exact nxt τ4 hq
        | bk τ4 =>
          simp only [hbd] at hq
          rw [← hq] at q
          exact fun σ' F' H' l' => q σ' F' H' (l'.back e5)
        | rt p =>
          simp only [hbd] at hq
          rw [← hq] at q
          exact fun v F' H' e' r' => q v F' H' (e5.trans e') (r'.before e5.h)
        | ex c fs τ4 =>
          simp only [hbd] at hq
          rw [← hq] at q
          exact fun σ' F' H' d fs l' => q σ' F' H' d fs (l'.back e5)
        | bad =>
          simp only [hbd] at hq
          rw [← hq] at q
          exact q.elim
    · have e : i = ps.length := by omega
      subst e
      rw [List.drop_length, forL] at hq
      rw [← hq] at q
      exact .inl ⟨i1.stop H2 sB, q σ2 F2 H2 l2⟩
end
end Lp
end
section
set_option Elab.async false
set_option linter.all false
set_option maxRecDepth 100000
/-! list(range(n)) -/
namespace Lp
open PySem PySem.Spec L2
theorem ints_at : ∀ (l : List Value) (k n : Nat), l.length = n → (∀ j v, l[j]? = some v → ∃ t, v = Value.int (((k + j : Nat) : Nat) : Int) t) → Vals ((List.range n).map fun i => V.int (((k + i : Nat) : Nat) : Int)) l
  | [], k, n, hl, _ => by
    have : n = 0 := by simpa using hl.symm
    subst this
    exact .nil
  | v :: l, k, n, hl, h => by
    obtain ⟨m, rfl⟩ : ∃ m, n = m + 1 := ⟨l.length, by simpa using hl.symm⟩
    rw [List.range_succ_eq_map, List.map_cons, List.map_map]
    obtain ⟨t, ht⟩ := h 0 v rfl
    refine .cons (show RelV _ _ from ⟨t, by simpa using ht⟩) ?_
    have ih := ints_at l (k + 1) m (by simpa using hl) fun j w hw => by
      obtain ⟨t, e⟩ := h (j + 1) w (by simpa using hw)
      exact ⟨t, by rw [e]; congr 1; omega⟩
    have e : ((fun i => V.int (((k + i : Nat) : Nat) : Int)) ∘ Nat.succ) = fun i => V.int (((k + 1 + i : Nat) : Nat) : Int) := by
      funext i
      show V.int (((k + (i + 1) : Nat) : Nat) : Int) = _
      congr 2
      omega
    rw [e]
    exact ih
def pListR : List PV → Option PV
  | [.rng n] => if n ≤ 1000000 then some (.lst ((List.range n).map fun i => .int ((i : Nat) : Int))) else none
  | _ => none
section
variable {X : Cx} {G : GW} {K : PySem.W.Frag} {F H : Hp}
theorem call_listR (hc : X.calm = true) : CallR X (.type "list") (fun xs H Q => ∃ (a : Addr) (n : Nat), xs = [.ref a] ∧ H a = some (.rng 0 (n : Int)) ∧ n ≤ 1000000 ∧ ∀ p, H p = none → Q (.ref p) (upd H p (.lst ((List.range n).map fun i => V.int ((i : Nat) : Int))))) := by
  intro pins s σ H xs us Q I r h
  obtain ⟨a, n, rfl, ha, hn, q⟩ := h
  obtain ⟨u, rfl, rx⟩ := r.one
  cases rx
  obtain ⟨t, u, w, hob⟩ := I.hok a _ ha
  have hrs : Builtin.Range.rangeSize 0 (n : Int) 1 = (n : Int) := by rw [rangeSize_one]; split <;> omega
  refine call_list_range (n := n) (I.ok.hd hc) (show IsRange s.heap a 0 (n : Int) 1 t u w from hob) (small_one (by omega) (by omega) (by omega) (by omega)) hrs (by omega) fun h' tk acc' c' kp e it => ?_
  have rv : Vals ((List.range n).map fun i => V.int ((i : Nat) : Int)) acc'.toList := by
    have := ints_at acc'.toList 0 n (by rw [Array.length_toList]; exact it.1) fun j v hv => by
      obtain ⟨t, e⟩ := it.2 j v (by rw [← Array.getElem?_toList]; exact hv)
      refine ⟨t, ?_⟩
      rw [e]
      congr 1
      simp
    simpa using this
  refine ⟨.ref s.heap.objs.size, _, I.laid (t' := tk) (o := .lst ((List.range n).map fun i => V.int ((i : Nat) : Int))) kp (Nat.le_refl _) ⟨by rw [List.length_map, List.length_range, sizeLine_eq]; omega, acc'.toList, c', rv, by rw [Array.toArray_toList]; exact e⟩, rfl, q _ (I.hok.fresh (Nat.le_refl _))⟩
theorem reps_ints (F : Hp) : ∀ l : List Nat, Reps G K F (l.map fun i => V.int ((i : Nat) : Int)) (l.map fun i => PV.int ((i : Nat) : Int))
  | [] => .nil
  | i :: l => .cons (.int _) (reps_ints F l)
theorem g_listR : CalV G K (fun xs H Q => ∃ (a : Addr) (n : Nat), xs = [.ref a] ∧ H a = some (.rng 0 (n : Int)) ∧ n ≤ 1000000 ∧ ∀ p, H p = none → Q (.ref p) (upd H p (.lst ((List.range n).map fun i => V.int ((i : Nat) : Int))))) .fr pListR := by
  intro F H xs ps z Q s r hz k
  unfold pListR at hz
  split at hz
  · split at hz
    · rename_i n hn
      cases hz
      obtain ⟨v, rfl, rv⟩ := r.one
      rcases rv with rv | ⟨_, _, _, h⟩
      · obtain ⟨a, rfl, h⟩ := rv.rng_inv
        refine ⟨a, n, rfl, s _ _ h, hn, fun l nl => ?_⟩
        obtain ⟨e, f⟩ := frs_new s nl (reps_ints (G := G) (K := K) F (List.range n))
        exact k _ _ _ e f
      · exact h.elim
    · cases hz
  · cases hz
end
end Lp
end
section
set_option Elab.async false
set_option linter.all false
set_option maxRecDepth 100000
set_option maxHeartbeats 4000000
namespace K24
open PySem PySem.Spec L2 Lp
abbrev c_YardError : Nat := 0
abbrev c_InvalidYard : Nat := 1
abbrev c_InvalidDay : Nat := 2
abbrev c_InvalidNumber : Nat := 3
abbrev c_Yard : Nat := 4
abbrev c_Day : Nat := 5
/-! _law_draws: 0 _law_cell_here, 1 _law_many, 2 _law_most, 3 _law_left, 4 _law_drawn, 5 _law_k, 6 _law_first, 7 _law_second, 8 _law_third -/
def κ__law_draws : Kd := fun i => i == 4
def lb__law_draws_0 : LE → Fl := (sIf (tst (e2 pGe (eVar 3) (eVar 2))) (sSeq (sExprM (eMut 4 gApp (aCons (e2 pMod (eCall pInt (aCons (eVar 3) aNil)) (eVar 2)) aNil)))
    (sSet 3 (e2 pDivW (eVar 3) (eVar 2)))) (sSeq (sSet 6 (e2 pMod (eCall pInt (aCons (e2 pAddA (e2 pMul (eVar 0) (eC (.int 48271))) (e2 pMul (e2 pAddA (eVar 5) (eC (.int 1))) (eC (.int 69621)))) aNil)) (eC (.int 2147483647))))
    (sSeq (sSet 7 (e2 pMod (eCall pInt (aCons (e2 pAddA (e2 pMul (eVar 6) (eVar 6)) (e2 pMul (e2 pAddA (eVar 5) (eC (.int 1))) (eC (.int 40692)))) aNil)) (eC (.int 2147483399))))
    (sSeq (sSet 8 (e2 pMod (eCall pInt (aCons (e2 pAddA (e2 pMul (eVar 7) (eVar 7)) (eVar 6)) aNil)) (eC (.int 2147483647))))
    (sExprM (eMut 4 gApp (aCons (e2 pMod (eVar 8) (eVar 2)) aNil)))))))
def b__law_draws : LE → Fl := (sSeq (sSet 3 (eC (.int 0)))
    (sSeq (sIf (tst (e2 pGe (eVar 0) (e2 pPow (eC (.int 10)) (eC (.int 18))))) (sSet 3 (eVar 0)) sNil)
    (sSeq (sSet 4 (eLst aNil))
    (sSeq (sFor (iFn pR1 (aCons (eVar 1) aNil)) (gNm 5) lb__law_draws_0)
    (sRet (eVar 4))))))
def m__law_draws (a0 a1 a2 : PV) : Res PV := fin .sh (b__law_draws [some a0, some a1, some a2, none, none, none, none, none, none])
/-! _law_names: 0 _law_cell_here, 1 _law_letters, 2 _law_draws_here, 3 _law_place, 4 _law_step, 5 _law_kind, 6 _law_names_here, 7 _law_k, 8 _law_base, 9 _law_tail, 10 _law_draw -/
def κ__law_names : Kd := fun i => i == 6
def lc__law_names_0 : LE → Res PV := (eComp [10] (iSeq (eSl pSlA (eVar 2) (oSome (eC (.int 2))) (oSome (eC (.int 9))))) (gNm 10) tYesM (e2 pIx (eVar 1) (e2 pMod (eCall pInt (aCons (e2 pAddA (eVar 10) (e2 pMul (e2 pMul (e2 pDiv (eVar 5) (eC (.int 2))) (eVar 7)) (e2 pIx (eVar 2) (eC (.int 11))))) aNil)) (eC (.int 26)))))
def lc__law_names_1 : LE → Res PV := (eComp [10] (iSeq (eSl pSlA (eVar 2) (oSome (eC (.int 2))) (oSome (e2 pAddA (eC (.int 3)) (e2 pMod (eCall pInt (aCons (e2 pAddA (e2 pIx (eVar 2) (eC (.int 10))) (eVar 7)) aNil)) (eC (.int 5))))))) (gNm 10) tYesM (e2 pIx (eVar 1) (e2 pMod (eCall pInt (aCons (eVar 10) aNil)) (eC (.int 26)))))
def lb__law_names_2 : LE → Fl := (sSeq (sSet 8 (e1 (pJoin ("" : Str)) lc__law_names_0))
    (sSeq (sSet 9 (eSl pSlA (eVar 8) (oSome (eVar 3)) oNone))
    (sSeq (sIf (tst (e2 pEq (eVar 5) (eC (.int 1)))) (sSet 9 (eSl pSlA (eVar 9) oNone (oSome (e2 pMod (eCall pInt (aCons (e2 pAddA (eVar 7) (e2 pIx (eVar 2) (eC (.int 10)))) aNil)) (eC (.int 8)))))) sNil)
    (sSeq (sExprM (eMut 6 gApp (aCons (e2 pAddA (e2 pAddA (eSl pSlA (eVar 8) oNone (oSome (eVar 3))) (e2 pIx (eVar 1) (e2 pMod (eCall pInt (aCons (e2 pAddA (e2 pIx (eVar 2) (eC (.int 10))) (e2 pMul (eVar 7) (eVar 4))) aNil)) (eC (.int 26))))) (eVar 9)) aNil)))
    (sIf (tst (e2 pEq (eVar 5) (eC (.int 3)))) (sSetI 6 (eVar 7) (e1 (pJoin ("" : Str)) lc__law_names_1)) sNil)))))
def b__law_names : LE → Fl := (sSeq (sSet 1 (eC (.str ("abcdefghijklmnopqrstuvwxyz" : Str))))
    (sSeq (sSet 2 (eFn (ar3 m__law_draws) (aCons (eVar 0) (aCons (eC (.int 12)) (aCons (eC (.int 208)) aNil)))))
    (sSeq (sSet 3 (e2 pMod (eCall pInt (aCons (e2 pIx (eVar 2) (eC (.int 0))) aNil)) (eC (.int 8))))
    (sSeq (sSet 4 (e2 pIx (eLst (aCons (eC (.int 1)) (aCons (eC (.int 3)) (aCons (eC (.int 5)) (aCons (eC (.int 7)) (aCons (eC (.int 9)) (aCons (eC (.int 11)) (aCons (eC (.int 15)) (aCons (eC (.int 17)) aNil))))))))) (e2 pMod (eCall pInt (aCons (e2 pIx (eVar 2) (eC (.int 1))) aNil)) (eC (.int 8)))))
    (sSeq (sSet 5 (e2 pMod (eCall pInt (aCons (e2 pIx (eVar 2) (eC (.int 9))) aNil)) (eC (.int 4))))
    (sSeq (sSet 6 (eLst aNil))
    (sSeq (sFor (iFn pR1 (aCons (eC (.int 5)) aNil)) (gNm 7) lb__law_names_2)
    (sRet (eVar 6)))))))))
def m__law_names (a0 : PV) : Res PV := fin .sh (b__law_names [some a0, none, none, none, none, none, none, none, none, none, none])
/-! _law_piles: 0 _law_cell_here, 1 _law_names_here, 2 _law_many, 3 _law_high, 4 _law_width, 5 _law_piles_here, 6 _law_draws_here, 7 _law_k, 8 _law_free, 9 _law_j -/
def κ__law_piles : Kd := fun i => i == 5
def lc__law_piles_0 : LE → Res PV := (eComp [9] (iFn pR1 (aCons (eVar 4) aNil)) (gNm 9) tYesM (eTup aNil))
def lc__law_piles_1 : LE → Res PV := (eComp [9] (iFn pR1 (aCons (eVar 4) aNil)) (gNm 9) (tst (e2 pLt (eCall pLen (aCons (e2 pIx (eVar 5) (eVar 9)) aNil)) (eVar 3))) (eVar 9))
def lb__law_piles_2 : LE → Fl := (sSeq (sSet 8 lc__law_piles_1)
    (sIf (tst (e2 pGt (eCall pLen (aCons (eVar 8) aNil)) (eC (.int 0)))) (sSeq (sSet 9 (e2 pIx (eVar 8) (e2 pMod (eCall pInt (aCons (e2 pIx (eVar 6) (eVar 7)) aNil)) (eCall pLen (aCons (eVar 8) aNil)))))
    (sSetI 5 (eVar 9) (e2 pAddA (e2 pIx (eVar 5) (eVar 9)) (eTup (aCons (e2 pIx (eVar 1) (eVar 7)) aNil))))) sNil))
def b__law_piles : LE → Fl := (sSeq (sSet 5 lc__law_piles_0)
    (sSeq (sSet 6 (eFn (ar3 m__law_draws) (aCons (eVar 0) (aCons (eVar 2) (aCons (eC (.int 60)) aNil)))))
    (sSeq (sFor (iFn pR1 (aCons (eVar 2) aNil)) (gNm 7) lb__law_piles_2)
    (sRet (eCall pTuple (aCons (eVar 5) aNil))))))
def m__law_piles (a0 a1 a2 a3 a4 : PV) : Res PV := fin .sh (b__law_piles [some a0, some a1, some a2, some a3, some a4, none, none, none, none, none])
/-! _law_cell: 0 _law_script, 1 _law_k -/
def κ__law_cell : Kd := fun i => false
def b__law_cell : LE → Fl := (sSeq (sIf (tst (e2 pLt (eVar 1) (eCall pLen (aCons (eVar 0) aNil)))) (sRet (eCall pAbs (aCons (eCall pInt (aCons (e2 pIx (eVar 0) (eVar 1)) aNil)) aNil))) sNil)
    (sRet (eC (.int 0))))
def m__law_cell (a0 a1 : PV) : Res PV := fin .sh (b__law_cell [some a0, some a1])
/-! _law_standing: 0 _law_piles_here, 1 _law_found, 2 _law_pile -/
def κ__law_standing : Kd := fun i => i == 1
def lb__law_standing_0 : LE → Fl := (sExprM (eMut 1 gExt (aCons (eVar 2) aNil)))
def b__law_standing : LE → Fl := (sSeq (sSet 1 (eLst aNil))
    (sSeq (sFor (iSeq (eVar 0)) (gNm 2) lb__law_standing_0)
    (sRet (eVar 1))))
def m__law_standing (a0 : PV) : Res PV := fin .fr (b__law_standing [some a0, none, none])
/-! _law_calls: 0 _law_cell_here, 1 _law_names_here, 2 _law_piles_here, 3 _law_many, 4 _law_most, 5 _law_draws_here, 6 _law_there, 7 _law_used, 8 _law_calls_here, 9 _law_k, 10 _law_away, 11 _law_name -/
def κ__law_calls : Kd := fun i => i == 6 || i == 8
def lc__law_calls_0 : LE → Res PV := (eComp [11] (iSeq (eVar 1)) (gNm 11) (tst (e2 (pInA true) (eVar 11) (eVar 6))) (eVar 11))
def lb__law_calls_1 : LE → Fl := (sSeq (sSet 10 lc__law_calls_0)
    (sIf (tAndM (tst (e2 pEq (e2 pMod (eCall pInt (aCons (e2 pIx (eVar 5) (e2 pMul (eC (.int 2)) (eVar 9))) aNil)) (eC (.int 3))) (eC (.int 0)))) (tAndM (tst (e2 pLt (eVar 7) (eVar 4))) (tst (e2 pGt (eCall pLen (aCons (eVar 10) aNil)) (eC (.int 0)))))) (sSeq (sExprM (eMut 6 gApp (aCons (e2 pIx (eVar 10) (e2 pMod (eCall pInt (aCons (e2 pIx (eVar 5) (e2 pAddA (e2 pMul (eC (.int 2)) (eVar 9)) (eC (.int 1)))) aNil)) (eCall pLen (aCons (eVar 10) aNil)))) aNil)))
    (sSeq (sSet 7 (e2 pAddA (eVar 7) (eC (.int 1))))
    (sExprM (eMut 8 gApp (aCons (eTup (aCons (eC (.str ("in" : Str))) (aCons (e2 pIx (eVar 6) (e2 pSub (eCall pLen (aCons (eVar 6) aNil)) (eC (.int 1)))) aNil))) aNil))))) (sIf (tst (e2 pGt (eCall pLen (aCons (eVar 6) aNil)) (eC (.int 0)))) (sExprM (eMutM 8 gApp (eTupM (aConsM (eC (.str ("out" : Str))) (aOneM (eMut 6 gPopAt (aCons (e2 pMod (eCall pInt (aCons (e2 pIx (eVar 5) (e2 pAddA (e2 pMul (eC (.int 2)) (eVar 9)) (eC (.int 1)))) aNil)) (eCall pLen (aCons (eVar 6) aNil))) aNil))))))) sNil)))
def b__law_calls : LE → Fl := (sSeq (sSet 5 (eFn (ar3 m__law_draws) (aCons (eVar 0) (aCons (e2 pMul (eC (.int 2)) (eVar 3)) (aCons (eC (.int 60)) aNil)))))
    (sSeq (sSet 6 (eFn (ar1 m__law_standing) (aCons (eVar 2) aNil)))
    (sSeq (sSet 7 (eCall pLen (aCons (eVar 6) aNil)))
    (sSeq (sSet 8 (eLst aNil))
    (sSeq (sFor (iFn pR1 (aCons (eVar 3) aNil)) (gNm 9) lb__law_calls_1)
    (sRet (eCall pTuple (aCons (eVar 8) aNil))))))))
def m__law_calls (a0 a1 a2 a3 a4 : PV) : Res PV := fin .sh (b__law_calls [some a0, some a1, some a2, some a3, some a4, none, none, none, none, none, none, none])
/-! _law_task: 0 _law_script, 1 _law_draws_here, 2 _law_width, 3 _law_high, 4 _law_most, 5 _law_names_here, 6 _law_piles_here -/
def κ__law_task : Kd := fun i => false
def b__law_task : LE → Fl := (sSeq (sSet 2 (e2 pIx (eLst (aCons (eC (.int 1)) (aCons (eC (.int 2)) (aCons (eC (.int 2)) (aCons (eC (.int 2)) (aCons (eC (.int 2)) (aCons (eC (.int 3)) (aCons (eC (.int 3)) (aCons (eC (.int 3)) aNil))))))))) (e2 pMod (eCall pInt (aCons (e2 pIx (eVar 1) (eC (.int 0))) aNil)) (eC (.int 8)))))
    (sSeq (sSet 3 (e2 pIx (eLst (aCons (eC (.int 1)) (aCons (eC (.int 2)) (aCons (eC (.int 2)) (aCons (eC (.int 3)) (aCons (eC (.int 3)) (aCons (eC (.int 3)) aNil))))))) (e2 pMod (eCall pInt (aCons (e2 pIx (eVar 1) (eC (.int 1))) aNil)) (eC (.int 6)))))
    (sSeq (sSet 4 (e2 pIx (eLst (aCons (eC (.int 5)) (aCons (eC (.int 5)) (aCons (eC (.int 4)) aNil)))) (e2 pSub (eVar 2) (eC (.int 1)))))
    (sSeq (sSet 5 (eFn (ar1 m__law_names) (aCons (eFn (ar2 m__law_cell) (aCons (eVar 0) (aCons (eC (.int 1)) aNil))) aNil)))
    (sSeq (sSet 6 (eFn (ar5 m__law_piles) (aCons (eFn (ar2 m__law_cell) (aCons (eVar 0) (aCons (eC (.int 2)) aNil))) (aCons (eVar 5) (aCons (e2 pMod (eCall pInt (aCons (e2 pIx (eVar 1) (eC (.int 2))) aNil)) (e2 pAddA (eVar 4) (eC (.int 1)))) (aCons (eVar 3) (aCons (eVar 2) aNil)))))))
    (sRet (eTup (aCons (eVar 3) (aCons (eVar 6) (aCons (eFn (ar5 m__law_calls) (aCons (eFn (ar2 m__law_cell) (aCons (eVar 0) (aCons (eC (.int 3)) aNil))) (aCons (eVar 5) (aCons (eVar 6) (aCons (e2 pMod (eCall pInt (aCons (e2 pIx (eVar 1) (eC (.int 3))) aNil)) (eC (.int 6))) (aCons (eVar 4) aNil)))))) aNil))))))))))
def m__law_task (a0 a1 : PV) : Res PV := fin .sh (b__law_task [some a0, some a1, none, none, none, none, none])
/-! _law_with: 0 _law_piles_here, 1 _law_j, 2 _law_pile -/
def κ__law_with : Kd := fun i => false
def b__law_with : LE → Fl := (sRet (e2 pAddA (e2 pAddA (eSl pSlA (eVar 0) oNone (oSome (eVar 1))) (eTup (aCons (eVar 2) aNil))) (eSl pSlA (eVar 0) (oSome (e2 pAddA (eVar 1) (eC (.int 1)))) oNone)))
def m__law_with (a0 a1 a2 : PV) : Res PV := fin .sh (b__law_with [some a0, some a1, some a2])
/-! _law_deeds: 0 _law_task_here, 1 _law_state, 2 _law_piles_here, 3 _law_places, 4 _law_found, 5 _law_i, 6 _law_call, 7 _law_j, 8 _law_moved -/
def κ__law_deeds : Kd := fun i => i == 4
def lb__law_deeds_0 : LE → Fl := (sSeq (sIf (tAndM (tst (e2 pEq (e2 pIx (eVar 6) (eC (.int 0))) (eC (.str ("out" : Str))))) (tst (e2 pEq (eSl pSlA (e2 pIx (eVar 2) (eVar 7)) (oSome (e1 pNeg (eC (.int 1)))) oNone) (eTup (aCons (e2 pIx (eVar 6) (eC (.int 1))) aNil))))) (sExprM (eMut 4 gApp (aCons (eTup (aCons (eTup (aCons (eC (.str ("out" : Str))) aNil)) (aCons (eTup (aCons (e2 pAddA (e2 pIx (eVar 1) (eC (.int 0))) (eC (.int 1))) (aCons (eFn (ar3 m__law_with) (aCons (eVar 2) (aCons (eVar 7) (aCons (eSl pSlA (e2 pIx (eVar 2) (eVar 7)) oNone (oSome (e1 pNeg (eC (.int 1))))) aNil)))) aNil))) aNil))) aNil))) sNil)
    (sIf (tAndM (tst (e2 pEq (e2 pIx (eVar 6) (eC (.int 0))) (eC (.str ("in" : Str))))) (tst (e2 pLt (eCall pLen (aCons (e2 pIx (eVar 2) (eVar 7)) aNil)) (e2 pIx (eVar 0) (eC (.int 0)))))) (sExprM (eMut 4 gApp (aCons (eTup (aCons (eTup (aCons (eC (.str ("in" : Str))) (aCons (eVar 7) aNil))) (aCons (eTup (aCons (e2 pAddA (e2 pIx (eVar 1) (eC (.int 0))) (eC (.int 1))) (aCons (eFn (ar3 m__law_with) (aCons (eVar 2) (aCons (eVar 7) (aCons (e2 pAddA (e2 pIx (eVar 2) (eVar 7)) (eTup (aCons (e2 pIx (eVar 6) (eC (.int 1))) aNil))) aNil)))) aNil))) aNil))) aNil))) sNil))
def lb__law_deeds_1 : LE → Fl := (sIf (tAndM (tst (e2 pNe (eVar 5) (eVar 7))) (tAndM (tst (e2 pGt (eCall pLen (aCons (e2 pIx (eVar 2) (eVar 5)) aNil)) (eC (.int 0)))) (tst (e2 pLt (eCall pLen (aCons (e2 pIx (eVar 2) (eVar 7)) aNil)) (e2 pIx (eVar 0) (eC (.int 0))))))) (sSeq (sSet 8 (eFn (ar3 m__law_with) (aCons (eFn (ar3 m__law_with) (aCons (eVar 2) (aCons (eVar 5) (aCons (eSl pSlA (e2 pIx (eVar 2) (eVar 5)) oNone (oSome (e1 pNeg (eC (.int 1))))) aNil)))) (aCons (eVar 7) (aCons (e2 pAddA (e2 pIx (eVar 2) (eVar 7)) (eSl pSlA (e2 pIx (eVar 2) (eVar 5)) (oSome (e1 pNeg (eC (.int 1)))) oNone)) aNil)))))
    (sExprM (eMut 4 gApp (aCons (eTup (aCons (eTup (aCons (eC (.str ("shift" : Str))) (aCons (eVar 5) (aCons (eVar 7) aNil)))) (aCons (eTup (aCons (e2 pIx (eVar 1) (eC (.int 0))) (aCons (eVar 8) aNil))) aNil))) aNil)))) sNil)
def lb__law_deeds_2 : LE → Fl := (sFor (iSeq (eVar 3)) (gNm 7) lb__law_deeds_1)
def b__law_deeds : LE → Fl := (sSeq (sSet 2 (e2 pIx (eVar 1) (eC (.int 1))))
    (sSeq (sSet 3 (eCall pListR (aCons (eCall pRng (aCons (eCall pLen (aCons (eVar 2) aNil)) aNil)) aNil)))
    (sSeq (sSet 4 (eLst aNil))
    (sSeq (sIf (tst (e2 pLt (e2 pIx (eVar 1) (eC (.int 0))) (eCall pLen (aCons (e2 pIx (eVar 0) (eC (.int 2))) aNil)))) (sSeq (sSet 6 (e2 pIx (e2 pIx (eVar 0) (eC (.int 2))) (e2 pIx (eVar 1) (eC (.int 0)))))
    (sFor (iSeq (eVar 3)) (gNm 7) lb__law_deeds_0)) sNil)
    (sSeq (sFor (iSeq (eVar 3)) (gNm 5) lb__law_deeds_2)
    (sRet (eVar 4)))))))
def m__law_deeds (a0 a1 : PV) : Res PV := fin .sh (b__law_deeds [some a0, some a1, none, none, none, none, none, none, none])
/-! _law_reached: 0 _law_task_here, 1 _law_queue, 2 _law_seen, 3 _law_k, 4 _law_step -/
def κ__law_reached : Kd := fun i => i == 1 || i == 2
def lb__law_reached_0 : LE → Fl := (sIf (tst (e2 (pNIn true) (e2 pIx (eVar 4) (eC (.int 1))) (eVar 2))) (sSeq (sPutN 2 (e2 pIx (eVar 4) (eC (.int 1))) (eC (.bl true)))
    (sExprM (eMut 1 gApp (aCons (e2 pIx (eVar 4) (eC (.int 1))) aNil)))) sNil)
def lb__law_reached_1 : LE → Fl := (sSeq (sIf (tst (e2 pGe (eVar 3) (eCall pLen (aCons (eVar 1) aNil)))) .bk sNil)
    (sFor (iSeq (eFn (ar2 m__law_deeds) (aCons (eVar 0) (aCons (e2 pIx (eVar 1) (eVar 3)) aNil)))) (gNm 4) lb__law_reached_0))
def b__law_reached : LE → Fl := (sSeq (sSet 1 (eLst (aCons (eTup (aCons (eC (.int 0)) (aCons (e2 pIx (eVar 0) (eC (.int 1))) aNil))) aNil)))
    (sSeq (sSet 2 (eNOne (e2 pIx (eVar 1) (eC (.int 0))) (eC (.bl true))))
    (sSeq (sFor (iFn pR1 (aCons (eC (.int 9000)) aNil)) (gNm 3) lb__law_reached_1)
    (sRet (eCall pTuple (aCons (eCall pSortD (aCons (eVar 1) aNil)) aNil))))))
def m__law_reached (a0 : PV) : Res PV := fin .sh (b__law_reached [some a0, none, none, none, none])
/-! is_sequence: 0 value -/
def κ_is_sequence : Kd := fun i => false
def b_is_sequence : LE → Fl := (sRet (eIsi2 "list" "tuple" (eVar 0)))
def m_is_sequence (a0 : PV) : Res PV := fin .sh (b_is_sequence [some a0])
/-! boxes_of: 0 yard, 1 stack, 2 name -/
def κ_boxes_of : Kd := fun i => false
def lc_boxes_of_0 : LE → Res PV := (eComp2 [1, 2] (iSeq (eAtt (fun c => c == 4) ("stacks" : Str) (eVar 0))) (gNm 1) tYesM (iSeq (eVar 1)) [2] (gNm 2) tYesM (eVar 2))
def b_boxes_of : LE → Fl := (sRet (eCall pTuple (aCons lc_boxes_of_0 aNil)))
def m_boxes_of (a0 : PV) : Res PV := fin .sh (b_boxes_of [some a0, none, none])
/-! is_name: 0 value, 1 sign -/
def κ_is_name : Kd := fun i => false
def lc_is_name_0 : LE → Res PV := (eComp [1] (iSeq (eVar 0)) (gNm 1) tYesM (e2 (pIn false) (eVar 1) (eC (.str ("abcdefghijklmnopqrstuvwxyz" : Str)))))
def b_is_name : LE → Fl := (sSeq (sIf (tOrM (tNotM (tst (eCall pIsi (aCons (eVar 0) (aCons (eC (.ty "str")) aNil))))) (tNotM (tst (eChain pLe pLe (eC (.int 1)) (eCall pLen (aCons (eVar 0) aNil)) (eC (.int 8)))))) (sRet (eC (.bl false))) sNil)
    (sRet (eCall pAll (aCons lc_is_name_0 aNil))))
def m_is_name (a0 : PV) : Res PV := fin .sh (b_is_name [some a0, none])
/-! is_event: 0 value -/
def κ_is_event : Kd := fun i => false
def b_is_event : LE → Fl := (sSeq (sIf (tOrM (tNotM (tst (eCall pIsi (aCons (eVar 0) (aCons (eC (.ty "tuple")) aNil))))) (tOrM (tst (e2 pNe (eCall pLen (aCons (eVar 0) aNil)) (eC (.int 2)))) (tNotM (tst (eCall pIsi (aCons (e2 pIx (eVar 0) (eC (.int 0))) (aCons (eC (.ty "str")) aNil))))))) (sRet (eC (.bl false))) sNil)
    (sRet (eAnd (e2 (pIn false) (e2 pIx (eVar 0) (eC (.int 0))) (eTup (aCons (eC (.str ("in" : Str))) (aCons (eC (.str ("out" : Str))) aNil)))) (eFn (ar1 m_is_name) (aCons (e2 pIx (eVar 0) (eC (.int 1))) aNil)))))
def m_is_event (a0 : PV) : Res PV := fin .sh (b_is_event [some a0])
/-! as_events: 0 yard, 1 value, 2 there, 3 word, 4 name, 5 event -/
def κ_as_events : Kd := fun i => i == 2
def lc_as_events_0 : LE → Res PV := (eComp [5] (iSeq (eVar 1)) (gNm 5) tYesM (eFn (ar1 m_is_event) (aCons (eVar 5) aNil)))
def lc_as_events_1 : LE → Res PV := (eDComp [4] (iSeq (eFn (ar1 m_boxes_of) (aCons (eVar 0) aNil))) (gNm 4) tYesM (eVar 4) (eC (.bl true)))
def lb_as_events_2 : LE → Fl := (sSeq (sIf (tst (e2 pEq (e2 (pDIn false) (eVar 4) (eVar 2)) (e2 pEq (eVar 3) (eC (.str ("in" : Str)))))) (sRet (eC .non)) sNil)
    (sIf (tst (e2 pEq (eVar 3) (eC (.str ("in" : Str))))) (sPut 2 (eVar 4) (eC (.bl true))) (sDel 2 (eVar 4))))
def b_as_events : LE → Fl := (sSeq (sIf (tOrM (tNotM (tst (eFn (ar1 m_is_sequence) (aCons (eVar 1) aNil)))) (tNotM (tst (eCall pAll (aCons lc_as_events_0 aNil))))) (sRet (eC .non)) sNil)
    (sSeq (sSet 2 lc_as_events_1)
    (sSeq (sFor (iSeq (eVar 1)) (gTp (gsC (gNm 3) (gsC (gNm 4) gsN)) 2) lb_as_events_2)
    (sRet (eCall pTuple (aCons (eVar 1) aNil))))))
def m_as_events (a0 a1 : PV) : Res PV := fin .sh (b_as_events [some a0, some a1, none, none, none, none])
def κ_Day : Kd := fun i => i == 0
def b_Day : LE → Fl := (sSeq (sSet 3 (eFn (ar2 m_as_events) (aCons (eVar 1) (aCons (eVar 2) aNil))))
    (sSeq (sIf (tst (e2 pIsN (eVar 3) (eC .non))) (sRaise 2 ("value" : Str) (eVar 2)) sNil)
    (sSeq (sFld 0 5 ("yard" : Str) (eVar 1))
    (sFld 0 5 ("events" : Str) (eVar 3)))))
def m_Day (a0 a1 : PV) : Res PV := finI (b_Day [some (.ins 5 []), some a0, some a1, none])
/-! are_unlike: 0 names, 1 name -/
def κ_are_unlike : Kd := fun i => false
def lc_are_unlike_0 : LE → Res PV := (eDComp [1] (iSeq (eVar 0)) (gNm 1) tYesM (eVar 1) (eC (.bl true)))
def b_are_unlike : LE → Fl := (sRet (e2 pEq (eCall pLen (aCons lc_are_unlike_0 aNil)) (eCall pLen (aCons (eVar 0) aNil))))
def m_are_unlike (a0 : PV) : Res PV := fin .sh (b_are_unlike [some a0, none])
/-! as_stacks: 0 height, 1 value, 2 stacks, 3 names, 4 stack, 5 name -/
def κ_as_stacks : Kd := fun i => false
def lc_as_stacks_0 : LE → Res PV := (eComp [4] (iSeq (eVar 1)) (gNm 4) tYesM (eFn (ar1 m_is_sequence) (aCons (eVar 4) aNil)))
def lc_as_stacks_1 : LE → Res PV := (eComp [4] (iSeq (eVar 1)) (gNm 4) tYesM (eCall pTuple (aCons (eVar 4) aNil)))
def lc_as_stacks_2 : LE → Res PV := (eComp2 [4, 5] (iSeq (eVar 2)) (gNm 4) tYesM (iSeq (eVar 4)) [5] (gNm 5) tYesM (eVar 5))
def lc_as_stacks_3 : LE → Res PV := (eComp [5] (iSeq (eVar 3)) (gNm 5) tYesM (eFn (ar1 m_is_name) (aCons (eVar 5) aNil)))
def lc_as_stacks_4 : LE → Res PV := (eComp [4] (iSeq (eVar 2)) (gNm 4) tYesM (e2 pLe (eCall pLen (aCons (eVar 4) aNil)) (eVar 0)))
def b_as_stacks : LE → Fl := (sSeq (sIf (tOrM (tNotM (tst (eFn (ar1 m_is_sequence) (aCons (eVar 1) aNil)))) (tOrM (tst (e2 pEq (eCall pLen (aCons (eVar 1) aNil)) (eC (.int 0)))) (tNotM (tst (eCall pAll (aCons lc_as_stacks_0 aNil)))))) (sRet (eC .non)) sNil)
    (sSeq (sSet 2 (eCall pTuple (aCons lc_as_stacks_1 aNil)))
    (sSeq (sSet 3 lc_as_stacks_2)
    (sSeq (sIf (tOrM (tNotM (tst (eCall pAll (aCons lc_as_stacks_3 aNil)))) (tNotM (tst (eFn (ar1 m_are_unlike) (aCons (eVar 3) aNil))))) (sRet (eC .non)) sNil)
    (sRet (eIf (tst (eCall pAll (aCons lc_as_stacks_4 aNil))) (eVar 2) (eC .non)))))))
def m_as_stacks (a0 a1 : PV) : Res PV := fin .sh (b_as_stacks [some a0, some a1, none, none, none, none])
/-! is_integer: 0 value -/
def κ_is_integer : Kd := fun i => false
def b_is_integer : LE → Fl := (sRet (eAnd (eCall pIsi (aCons (eVar 0) (aCons (eC (.ty "int")) aNil))) (eNot (eCall pIsi (aCons (eVar 0) (aCons (eC (.ty "bool")) aNil))))))
def m_is_integer (a0 : PV) : Res PV := fin .sh (b_is_integer [some a0])
/-! is_number: 0 value -/
def κ_is_number : Kd := fun i => false
def b_is_number : LE → Fl := (sRet (eAnd (eFn (ar1 m_is_integer) (aCons (eVar 0) aNil)) (e2 pGe (eVar 0) (eC (.int 0)))))
def m_is_number (a0 : PV) : Res PV := fin .sh (b_is_number [some a0])
def κ_Yard : Kd := fun i => i == 0
def b_Yard : LE → Fl := (sSeq (sIf (tOrM (tNotM (tst (eFn (ar1 m_is_number) (aCons (eVar 1) aNil)))) (tst (e2 pEq (eVar 1) (eC (.int 0))))) (sRaise 3 ("value" : Str) (eVar 1)) sNil)
    (sSeq (sSet 3 (eFn (ar2 m_as_stacks) (aCons (eVar 1) (aCons (eVar 2) aNil))))
    (sSeq (sIf (tst (e2 pIsN (eVar 3) (eC .non))) (sRaise 1 ("value" : Str) (eVar 2)) sNil)
    (sSeq (sFld 0 4 ("height" : Str) (eVar 1))
    (sFld 0 4 ("stacks" : Str) (eVar 3))))))
def m_Yard (a0 a1 : PV) : Res PV := finI (b_Yard [some (.ins 4 []), some a0, some a1, none])
/-! _law_made: 0 _law_task_here, 1 _law_draw, 2 _law_pile -/
def κ__law_made : Kd := fun i => false
def lc__law_made_0 : LE → Res PV := (eComp [2] (iSeq (e2 pIx (eVar 0) (eC (.int 1)))) (gNm 2) tYesM (eCall pList (aCons (eVar 2) aNil)))
def b__law_made : LE → Fl := (sSeq (sIf (tst (e2 pEq (e2 pMod (eCall pInt (aCons (eVar 1) aNil)) (eC (.int 3))) (eC (.int 1)))) (sRet (eFn (ar2 m_Day) (aCons (eFn (ar2 m_Yard) (aCons (e2 pIx (eVar 0) (eC (.int 0))) (aCons lc__law_made_0 aNil))) (aCons (eCall pList (aCons (e2 pIx (eVar 0) (eC (.int 2))) aNil)) aNil)))) sNil)
    (sSeq (sIf (tst (e2 pEq (e2 pMod (eCall pInt (aCons (eVar 1) aNil)) (eC (.int 3))) (eC (.int 2)))) (sRet (eFnK 2 [1, 0] (ar2 m_Day) (aCons (e2 pIx (eVar 0) (eC (.int 2))) (aCons (eFnK 2 [1, 0] (ar2 m_Yard) (aCons (e2 pIx (eVar 0) (eC (.int 1))) (aCons (e2 pIx (eVar 0) (eC (.int 0))) aNil))) aNil)))) sNil)
    (sRet (eFn (ar2 m_Day) (aCons (eFn (ar2 m_Yard) (aCons (e2 pIx (eVar 0) (eC (.int 0))) (aCons (e2 pIx (eVar 0) (eC (.int 1))) aNil))) (aCons (e2 pIx (eVar 0) (eC (.int 2))) aNil))))))
def m__law_made (a0 a1 : PV) : Res PV := fin .sh (b__law_made [some a0, some a1, none])
/-! _law_is_integer: 0 _law_value -/
def κ__law_is_integer : Kd := fun i => false
def b__law_is_integer : LE → Fl := (sRet (eAnd (eCall pIsi (aCons (eVar 0) (aCons (eC (.ty "int")) aNil))) (eNot (eCall pIsi (aCons (eVar 0) (aCons (eC (.ty "bool")) aNil))))))
def m__law_is_integer (a0 : PV) : Res PV := fin .sh (b__law_is_integer [some a0])
/-! _law_same_state: 0 _law_told, 1 _law_due, 2 _law_pile, 3 _law_name -/
def κ__law_same_state : Kd := fun i => false
def lb__law_same_state_0 : LE → Fl := (sIf (tNotM (tst (eCall pIsi (aCons (eVar 3) (aCons (eC (.ty "str")) aNil))))) (sRet (eC (.bl false))) sNil)
def lb__law_same_state_1 : LE → Fl := (sSeq (sIf (tNotM (tst (eCall pIsi (aCons (eVar 2) (aCons (eC (.ty "tuple")) aNil))))) (sRet (eC (.bl false))) sNil)
    (sFor (iSeq (eVar 2)) (gNm 3) lb__law_same_state_0))
def b__law_same_state : LE → Fl := (sSeq (sIf (tOrM (tNotM (tst (eCall pIsi (aCons (eVar 0) (aCons (eC (.ty "tuple")) aNil))))) (tOrM (tst (e2 pNe (eCall pLen (aCons (eVar 0) aNil)) (eC (.int 2)))) (tOrM (tNotM (tst (eFn (ar1 m__law_is_integer) (aCons (e2 pIx (eVar 0) (eC (.int 0))) aNil)))) (tNotM (tst (eCall pIsi (aCons (e2 pIx (eVar 0) (eC (.int 1))) (aCons (eC (.ty "tuple")) aNil)))))))) (sRet (eC (.bl false))) sNil)
    (sSeq (sFor (iSeq (e2 pIx (eVar 0) (eC (.int 1)))) (gNm 2) lb__law_same_state_1)
    (sRet (e2 pEq (eVar 0) (eVar 1)))))
def m__law_same_state (a0 a1 : PV) : Res PV := fin .sh (b__law_same_state [some a0, some a1, none, none])
/-! _law_same_states: 0 _law_told, 1 _law_due, 2 _law_k -/
def κ__law_same_states : Kd := fun i => false
def lb__law_same_states_0 : LE → Fl := (sIf (tNotM (tst (eFn (ar2 m__law_same_state) (aCons (e2 pIx (eVar 0) (eVar 2)) (aCons (e2 pIx (eVar 1) (eVar 2)) aNil))))) (sRet (eC (.bl false))) sNil)
def b__law_same_states : LE → Fl := (sSeq (sIf (tOrM (tNotM (tst (eCall pIsi (aCons (eVar 0) (aCons (eC (.ty "tuple")) aNil))))) (tst (e2 pNe (eCall pLen (aCons (eVar 0) aNil)) (eCall pLen (aCons (eVar 1) aNil))))) (sRet (eC (.bl false))) sNil)
    (sSeq (sFor (iFn pR1 (aCons (eCall pLen (aCons (eVar 1) aNil)) aNil)) (gNm 2) lb__law_same_states_0)
    (sRet (eC (.bl true)))))
def m__law_same_states (a0 a1 : PV) : Res PV := fin .sh (b__law_same_states [some a0, some a1, none])
/-! first_state: 0 day -/
def κ_first_state : Kd := fun i => false
def b_first_state : LE → Fl := (sRet (eTup (aCons (eC (.int 0)) (aCons (eAtt (fun c => c == 4) ("stacks" : Str) (eAtt (fun c => c == 5) ("yard" : Str) (eVar 0))) aNil))))
def m_first_state (a0 : PV) : Res PV := fin .sh (b_first_state [some a0])
/-! with_box: 0 stacks, 1 j, 2 name -/
def κ_with_box : Kd := fun i => false
def b_with_box : LE → Fl := (sRet (e2 pAddA (e2 pAddA (eSl pSlA (eVar 0) oNone (oSome (eVar 1))) (eTup (aCons (e2 pAddA (e2 pIx (eVar 0) (eVar 1)) (eTup (aCons (eVar 2) aNil))) aNil))) (eSl pSlA (eVar 0) (oSome (e2 pAddA (eVar 1) (eC (.int 1)))) oNone)))
def m_with_box (a0 a1 a2 : PV) : Res PV := fin .sh (b_with_box [some a0, some a1, some a2])
/-! has_room: 0 day, 1 stacks, 2 j -/
def κ_has_room : Kd := fun i => false
def b_has_room : LE → Fl := (sRet (e2 pLt (eCall pLen (aCons (e2 pIx (eVar 1) (eVar 2)) aNil)) (eAtt (fun c => c == 4) ("height" : Str) (eAtt (fun c => c == 5) ("yard" : Str) (eVar 0)))))
def m_has_room (a0 a1 a2 : PV) : Res PV := fin .sh (b_has_room [some a0, some a1, some a2])
/-! without_top: 0 stacks, 1 i -/
def κ_without_top : Kd := fun i => false
def b_without_top : LE → Fl := (sRet (e2 pAddA (e2 pAddA (eSl pSlA (eVar 0) oNone (oSome (eVar 1))) (eTup (aCons (eSl pSlA (e2 pIx (eVar 0) (eVar 1)) oNone (oSome (e1 pNeg (eC (.int 1))))) aNil))) (eSl pSlA (eVar 0) (oSome (e2 pAddA (eVar 1) (eC (.int 1)))) oNone)))
def m_without_top (a0 a1 : PV) : Res PV := fin .sh (b_without_top [some a0, some a1])
/-! shifted: 0 day, 1 state, 2 i, 3 j, 4 e, 5 stacks -/
def κ_shifted : Kd := fun i => false
def b_shifted : LE → Fl := (sSeq (sAsg (eVar 1) (gTp (gsC (gNm 4) (gsC (gNm 5) gsN)) 2))
    (sSeq (sIf (tOrM (tst (e2 pEq (eVar 2) (eVar 3))) (tOrM (tst (e2 pEq (eCall pLen (aCons (e2 pIx (eVar 5) (eVar 2)) aNil)) (eC (.int 0)))) (tNotM (tst (eFn (ar3 m_has_room) (aCons (eVar 0) (aCons (eVar 5) (aCons (eVar 3) aNil)))))))) (sRet (eC .non)) sNil)
    (sRet (eTup (aCons (eVar 4) (aCons (eFn (ar3 m_with_box) (aCons (eFn (ar2 m_without_top) (aCons (eVar 5) (aCons (eVar 2) aNil))) (aCons (eVar 3) (aCons (e2 pIx (e2 pIx (eVar 5) (eVar 2)) (e1 pNeg (eC (.int 1)))) aNil)))) aNil))))))
def m_shifted (a0 a1 a2 a3 : PV) : Res PV := fin .sh (b_shifted [some a0, some a1, some a2, some a3, none, none])
/-! come: 0 day, 1 state, 2 j, 3 e, 4 stacks -/
def κ_come : Kd := fun i => false
def b_come : LE → Fl := (sSeq (sAsg (eVar 1) (gTp (gsC (gNm 3) (gsC (gNm 4) gsN)) 2))
    (sSeq (sIf (tOrM (tst (e2 pEq (eVar 3) (eCall pLen (aCons (eAtt (fun c => c == 5) ("events" : Str) (eVar 0)) aNil)))) (tOrM (tst (e2 pNe (e2 pIx (e2 pIx (eAtt (fun c => c == 5) ("events" : Str) (eVar 0)) (eVar 3)) (eC (.int 0))) (eC (.str ("in" : Str))))) (tNotM (tst (eFn (ar3 m_has_room) (aCons (eVar 0) (aCons (eVar 4) (aCons (eVar 2) aNil)))))))) (sRet (eC .non)) sNil)
    (sRet (eTup (aCons (e2 pAddA (eVar 3) (eC (.int 1))) (aCons (eFn (ar3 m_with_box) (aCons (eVar 4) (aCons (eVar 2) (aCons (e2 pIx (e2 pIx (eAtt (fun c => c == 5) ("events" : Str) (eVar 0)) (eVar 3)) (eC (.int 1))) aNil)))) aNil))))))
def m_come (a0 a1 a2 : PV) : Res PV := fin .sh (b_come [some a0, some a1, some a2, none, none])
/-! stack_with: 0 stacks, 1 name, 2 i, 3 stack -/
def κ_stack_with : Kd := fun i => false
def lc_stack_with_0 : LE → Res PV := (eComp [2, 3] (iFn pEnum (aCons (eVar 0) aNil)) (gTp (gsC (gNm 2) (gsC (gNm 3) gsN)) 2) (tst (e2 (pInA false) (eVar 1) (eVar 3))) (eVar 2))
def b_stack_with : LE → Fl := (sRet (e2 pIx lc_stack_with_0 (eC (.int 0))))
def m_stack_with (a0 a1 : PV) : Res PV := fin .sh (b_stack_with [some a0, some a1, none, none])
/-! gone: 0 day, 1 state, 2 i, 3 e, 4 stacks -/
def κ_gone : Kd := fun i => false
def b_gone : LE → Fl := (sSeq (sAsg (eVar 1) (gTp (gsC (gNm 3) (gsC (gNm 4) gsN)) 2))
    (sSeq (sIf (tOrM (tst (e2 pEq (eVar 3) (eCall pLen (aCons (eAtt (fun c => c == 5) ("events" : Str) (eVar 0)) aNil)))) (tst (e2 pNe (e2 pIx (e2 pIx (eAtt (fun c => c == 5) ("events" : Str) (eVar 0)) (eVar 3)) (eC (.int 0))) (eC (.str ("out" : Str)))))) (sRet (eC .non)) sNil)
    (sSeq (sSet 2 (eFn (ar2 m_stack_with) (aCons (eVar 4) (aCons (e2 pIx (e2 pIx (eAtt (fun c => c == 5) ("events" : Str) (eVar 0)) (eVar 3)) (eC (.int 1))) aNil))))
    (sRet (eIf (tst (e2 pEq (e2 pIx (e2 pIx (eVar 4) (eVar 2)) (e1 pNeg (eC (.int 1)))) (e2 pIx (e2 pIx (eAtt (fun c => c == 5) ("events" : Str) (eVar 0)) (eVar 3)) (eC (.int 1))))) (eTup (aCons (e2 pAddA (eVar 3) (eC (.int 1))) (aCons (eFn (ar2 m_without_top) (aCons (eVar 4) (aCons (eVar 2) aNil))) aNil))) (eC .non))))))
def m_gone (a0 a1 : PV) : Res PV := fin .sh (b_gone [some a0, some a1, none, none, none])
/-! is_stack: 0 stacks, 1 value -/
def κ_is_stack : Kd := fun i => false
def b_is_stack : LE → Fl := (sRet (eAnd (eFn (ar1 m_is_number) (aCons (eVar 1) aNil)) (e2 pLt (eVar 1) (eCall pLen (aCons (eVar 0) aNil)))))
def m_is_stack (a0 a1 : PV) : Res PV := fin .sh (b_is_stack [some a0, some a1])
/-! behind: 0 day, 1 state, 2 deed, 3 part -/
def κ_behind : Kd := fun i => false
def lc_behind_0 : LE → Res PV := (eComp [3] (iSeq (eSl pSlA (eVar 2) (oSome (eC (.int 1))) oNone)) (gNm 3) tYesM (eFn (ar2 m_is_stack) (aCons (e2 pIx (eVar 1) (eC (.int 1))) (aCons (eVar 3) aNil))))
def b_behind : LE → Fl := (sSeq (sIf (tOrM (tNotM (tst (eCall pIsi (aCons (eVar 2) (aCons (eC (.ty "tuple")) aNil))))) (tOrM (tst (e2 pEq (eCall pLen (aCons (eVar 2) aNil)) (eC (.int 0)))) (tNotM (tst (eCall pIsi (aCons (e2 pIx (eVar 2) (eC (.int 0))) (aCons (eC (.ty "str")) aNil))))))) (sRet (eC .non)) sNil)
    (sSeq (sIf (tNotM (tst (eCall pAll (aCons lc_behind_0 aNil)))) (sRet (eC .non)) sNil)
    (sSeq (sIf (tAndM (tst (e2 pEq (e2 pIx (eVar 2) (eC (.int 0))) (eC (.str ("shift" : Str))))) (tst (e2 pEq (eCall pLen (aCons (eVar 2) aNil)) (eC (.int 3))))) (sRet (eFn (ar4 m_shifted) (aCons (eVar 0) (aCons (eVar 1) (aCons (e2 pIx (eVar 2) (eC (.int 1))) (aCons (e2 pIx (eVar 2) (eC (.int 2))) aNil)))))) sNil)
    (sSeq (sIf (tAndM (tst (e2 pEq (e2 pIx (eVar 2) (eC (.int 0))) (eC (.str ("in" : Str))))) (tst (e2 pEq (eCall pLen (aCons (eVar 2) aNil)) (eC (.int 2))))) (sRet (eFn (ar3 m_come) (aCons (eVar 0) (aCons (eVar 1) (aCons (e2 pIx (eVar 2) (eC (.int 1))) aNil))))) sNil)
    (sRet (eIf (tAndM (tst (e2 pEq (e2 pIx (eVar 2) (eC (.int 0))) (eC (.str ("out" : Str))))) (tst (e2 pEq (eCall pLen (aCons (eVar 2) aNil)) (eC (.int 1))))) (eFn (ar2 m_gone) (aCons (eVar 0) (aCons (eVar 1) aNil))) (eC .non)))))))
def m_behind (a0 a1 a2 : PV) : Res PV := fin .sh (b_behind [some a0, some a1, some a2, none])
/-! ways_on: 0 day, 1 state, 2 places, 3 told, 4 found, 5 deed, 6 one, 7 i, 8 j -/
def κ_ways_on : Kd := fun i => false
def lc_ways_on_0 : LE → Res PV := (eComp [8] (iRng (eVar 2)) (gNm 8) tYesM (eTup (aCons (eC (.str ("in" : Str))) (aCons (eVar 8) aNil))))
def lc_ways_on_1 : LE → Res PV := (eComp2 [7, 8] (iRng (eVar 2)) (gNm 7) tYesM (iRng (eVar 2)) [8] (gNm 8) tYesM (eTup (aCons (eC (.str ("shift" : Str))) (aCons (eVar 7) (aCons (eVar 8) aNil)))))
def lc_ways_on_2 : LE → Res PV := (eComp [5] (iSeq (eVar 3)) (gNm 5) tYesM (eTup (aCons (eVar 5) (aCons (eFn (ar3 m_behind) (aCons (eVar 0) (aCons (eVar 1) (aCons (eVar 5) aNil)))) aNil))))
def lc_ways_on_3 : LE → Res PV := (eComp [6] (iSeq (eVar 4)) (gNm 6) (tst (e2 pNotN (e2 pIx (eVar 6) (eC (.int 1))) (eC .non))) (eVar 6))
def b_ways_on : LE → Fl := (sSeq (sSet 2 (eCall pRng (aCons (eCall pLen (aCons (e2 pIx (eVar 1) (eC (.int 1))) aNil)) aNil)))
    (sSeq (sSet 3 (e2 pAddA (e2 pAddA (eLst (aCons (eTup (aCons (eC (.str ("out" : Str))) aNil)) aNil)) lc_ways_on_0) lc_ways_on_1))
    (sSeq (sSet 4 lc_ways_on_2)
    (sRet lc_ways_on_3))))
def m_ways_on (a0 a1 : PV) : Res PV := fin .sh (b_ways_on [some a0, some a1, none, none, none, none, none, none, none])
/-! all_reached: 0 day, 1 found, 2 todo, 3 _, 4 after -/
def κ_all_reached : Kd := fun i => i == 1 || i == 2
def lb_all_reached_0 : LE → Fl := (sIf (tst (e2 (pNIn true) (eVar 4) (eVar 1))) (sSeq (sPutN 1 (eVar 4) (eC (.bl true)))
    (sExprM (eMut 2 gApp (aCons (eVar 4) aNil)))) sNil)
def lb_all_reached_1 : LE → Fl := (sForM (iSeqM (eFnM (ar2 m_ways_on) (aConsM (eVar 0) (aOneM (eMut 2 gPop aNil))))) (gTp (gsC (gNm 3) (gsC (gNm 4) gsN)) 2) lb_all_reached_0)
def b_all_reached : LE → Fl := (sSeq (sSet 1 (eNOne (eFn (ar1 m_first_state) (aCons (eVar 0) aNil)) (eC (.bl true))))
    (sSeq (sSet 2 (eLst (aCons (eFn (ar1 m_first_state) (aCons (eVar 0) aNil)) aNil)))
    (sSeq (whileL (tstV (eVar 2)) lb_all_reached_1 10000)
    (sRet (eVar 1)))))
def m_all_reached (a0 : PV) : Res PV := fin .sh (b_all_reached [some a0, none, none, none, none])
/-! reached: 0 day -/
def κ_reached : Kd := fun i => false
def b_reached : LE → Fl := (sRet (eCall pTuple (aCons (eCall pSortD (aCons (eCall pListN (aCons (eFn (ar1 m_all_reached) (aCons (eVar 0) aNil)) aNil)) aNil)) aNil)))
def m_reached (a0 : PV) : Res PV := fin .sh (b_reached [some a0])
/-! _law_asked: 0 _law_script, 1 _law_draws_here, 2 _law_task_here, 3 _law_due, 4 _law_view, 5 _law_less -/
def κ__law_asked : Kd := fun i => false
def b__law_asked : LE → Fl := (sSeq (sSet 1 (eFn (ar3 m__law_draws) (aCons (eFn (ar2 m__law_cell) (aCons (eVar 0) (aCons (eC (.int 0)) aNil))) (aCons (eC (.int 5)) (aCons (e2 pPow (eC (.int 10)) (eC (.int 4))) aNil)))))
    (sSeq (sSet 2 (eFn (ar2 m__law_task) (aCons (eVar 0) (aCons (eVar 1) aNil))))
    (sSeq (sSet 3 (eFn (ar1 m__law_reached) (aCons (eVar 2) aNil)))
    (sSeq (sSet 4 (eFn (ar2 m__law_made) (aCons (eVar 2) (aCons (e2 pIx (eVar 1) (eC (.int 4))) aNil))))
    (sSeq (sIf (tNotM (tst (eFn (ar2 m__law_same_states) (aCons (eFn (ar1 m_reached) (aCons (eVar 4) aNil)) (aCons (eVar 3) aNil))))) (sRet (eC (.bl false))) sNil)
    (sSeq (sIf (tst (e2 pGt (eCall pLen (aCons (eVar 3) aNil)) (eC (.int 120)))) (sRet (eC (.bl true))) sNil)
    (sSeq (sSet 5 (eTup (aCons (e2 pIx (eVar 2) (eC (.int 0))) (aCons (e2 pIx (eVar 2) (eC (.int 1))) (aCons (eSl pSlA (e2 pIx (eVar 2) (eC (.int 2))) oNone (oSome (e1 pNeg (eC (.int 1))))) aNil)))))
    (sSeq (sIf (tNotM (tst (eFn (ar2 m__law_same_states) (aCons (eFn (ar1 m_reached) (aCons (eFn (ar2 m__law_made) (aCons (eVar 5) (aCons (e2 pDiv (e2 pIx (eVar 1) (eC (.int 4))) (eC (.int 3))) aNil))) aNil)) (aCons (eFn (ar1 m__law_reached) (aCons (eVar 5) aNil)) aNil))))) (sRet (eC (.bl false))) sNil)
    (sRet (e2 pEq (eFnK 1 [0] (ar1 m_reached) (aCons (eVar 4) aNil)) (eVar 3)))))))))))
def m__law_asked (a0 : PV) : Res PV := fin .sh (b__law_asked [some a0, none, none, none, none, none])
/-! law: 0 _law_script -/
def κ_law : Kd := fun i => false
def b_law : LE → Fl := (sTryO (fun c => match c with | 1 => some true | 2 => some true | 3 => some true | _ => none) (sRet (eFn (ar1 m__law_asked) (aCons (eVar 0) aNil))) (sRet (eC (.bl false))))
def m_law (a0 : PV) : Res PV := fin .sh (b_law [some a0])
end K24
end
section
set_option Elab.async false
set_option linter.all false
set_option maxRecDepth 100000
set_option maxHeartbeats 4000000
namespace K24
open PySem PySem.Spec L2 Lp
abbrev topS (i : Nat) : Stmt := PySem.Challenge.pw_leastshifts_k24_reached.main.body.getD i (.Pass ⟨0, 0, 0, 0⟩)
section
variable (G : GW) (K : PySem.W.Frag) (mg : Str → Option Value) (P : Program) (w : World)
structure Zs : Prop where
  pw : G.P = P ∧ G.w = w
  n_range : mg ("range" : Str) = none
  n_int : mg ("int" : Str) = none
  n_len : mg ("len" : Str) = none
  n_tuple : mg ("tuple" : Str) = none
  n_abs : mg ("abs" : Str) = none
  n_list : mg ("list" : Str) = none
  n_sorted : mg ("sorted" : Str) = none
  n_isinstance : mg ("isinstance" : Str) = none
  at_4_stacks : Cls K (G 4) ∧ NoAttr K (G 4) ("stacks" : Str)
  n_str : mg ("str" : Str) = none
  g_MOST_LETTERS : ∃ t, mg ("MOST_LETTERS" : Str) = some (.int 8 t)
  g_LETTERS : ∃ t, mg ("LETTERS" : Str) = some (.str ("abcdefghijklmnopqrstuvwxyz" : Str) t)
  n_all : mg ("all" : Str) = none
  g_OUT : ∃ t, mg ("OUT" : Str) = some (.str ("out" : Str) t)
  g_IN : ∃ t, mg ("IN" : Str) = some (.str ("in" : Str) t)
  at_5_yard : Cls K (G 5) ∧ NoAttr K (G 5) ("yard" : Str)
  at_5_events : Cls K (G 5) ∧ NoAttr K (G 5) ("events" : Str)
  n_bool : mg ("bool" : Str) = none
  at_4_height : Cls K (G 4) ∧ NoAttr K (G 4) ("height" : Str)
  n_enumerate : mg ("enumerate" : Str) = none
  g_SHIFT : ∃ t, mg ("SHIFT" : Str) = some (.str ("shift" : Str) t)
  c_YardError : mg ("YardError" : Str) = some (.ref (G 0))
  ex_1_0 : PySem.W.exmOne K (.ref (G 1)) (.ref (G 0)) = some true
  ex_2_0 : PySem.W.exmOne K (.ref (G 2)) (.ref (G 0)) = some true
  ex_3_0 : PySem.W.exmOne K (.ref (G 3)) (.ref (G 0)) = some true
end
section
variable {G : GW} {K : PySem.W.Frag} {mg : Str → Option Value} {P : Program} {w : World} {base : Heap}
theorem d__law_draws (Z : Zs G K mg P w) {f : Addr} {fd : FuncData} (Fn : Fun K ("_law_draws" : Str) ("_law_draws" : Str) (topS 46) f fd)  : FnOk P w K mg base (L2.CX P w) 1 f fd [("_law_cell_here" : Str), ("_law_many" : Str), ("_law_most" : Str)] (spM G K .sh 3 (ar3 m__law_draws)) := by
  have S : FnScope [("_law_cell_here" : Str), ("_law_many" : Str), ("_law_most" : Str), ("_law_left" : Str), ("_law_drawn" : Str), ("_law_k" : Str), ("_law_first" : Str), ("_law_second" : Str), ("_law_third" : Str)] [("_law_cell_here" : Str), ("_law_many" : Str), ("_law_most" : Str)] (defScope (topS 46)) := C8.fnScope_by (by decide +kernel)
  refine d_of (κ := κ__law_draws) (m := b__law_draws) (k := 0) Fn S (fun i hi => by revert i; decide) (fun qs hl => match qs, hl with | [_, _, _], _ => rfl) fun cdv A outer s H E hr => ?_
  exact (ss_cons (s_set 3 v_int S.nd)
    (ss_cons (s_if (t_cmp op_ge (g_B (g := fun i j => decide (j ≤ i))) (v_up (v_var 0)) (v_up (v_op op_pow (g_I (C := CPow) (g := fun i j => i ^ j.toNat)) (v_up v_int) (v_up v_int)))) (ss_one (s_set 3 (v_var 0) S.nd)) ss_nil)
    (ss_cons (s_setO 4 (v_lst a_nil) S.nd)
    (ss_cons (s_for (passes_of rfl) rfl (i_range1 Z.n_range (a_cons (v_var 1) a_nil)) (gv_name 5 (hN := S.nd)) gok_name (ss_one (s_if (t_cmp op_ge (g_B (g := fun i j => decide (j ≤ i))) (v_up (v_var 3)) (v_up (v_var 2))) (ss_cons (s_exprM (m_list 4 PySem.F.slot_list_append PySem.F.type_list_append mt_append g_app (a_cons (v_op op_mod (g_I (C := fun _ j => 0 < j) (g := fun i j => i % j)) (v_up (v_callTy call_int1 g_int Z.n_int (by kernel_rfl) (a_cons (v_up (v_var 3)) a_nil))) (v_up (v_var 2))) a_nil)))
    (ss_one (s_set 3 (v_op op_fdivW (g_I (C := CDivW) (g := fun i j => i / j)) (v_up (v_var 3)) (v_up (v_var 2))) S.nd))) (ss_cons (s_set 6 (v_op op_mod (g_I (C := fun _ j => 0 < j) (g := fun i j => i % j)) (v_up (v_callTy call_int1 g_int Z.n_int (by kernel_rfl) (a_cons (v_up (v_op op_addA g_addA (v_up (v_op op_mul (g_I (C := CMul) (g := fun i j => i * j)) (v_up (v_var 0)) (v_up v_int))) (v_up (v_op op_mul (g_I (C := CMul) (g := fun i j => i * j)) (v_up (v_op op_addA g_addA (v_up (v_var 5)) (v_up v_int))) (v_up v_int))))) a_nil))) (v_up v_int)) S.nd)
    (ss_cons (s_set 7 (v_op op_mod (g_I (C := fun _ j => 0 < j) (g := fun i j => i % j)) (v_up (v_callTy call_int1 g_int Z.n_int (by kernel_rfl) (a_cons (v_up (v_op op_addA g_addA (v_up (v_op op_mul (g_I (C := CMul) (g := fun i j => i * j)) (v_up (v_var 6)) (v_up (v_var 6)))) (v_up (v_op op_mul (g_I (C := CMul) (g := fun i j => i * j)) (v_up (v_op op_addA g_addA (v_up (v_var 5)) (v_up v_int))) (v_up v_int))))) a_nil))) (v_up v_int)) S.nd)
    (ss_cons (s_set 8 (v_op op_mod (g_I (C := fun _ j => 0 < j) (g := fun i j => i % j)) (v_up (v_callTy call_int1 g_int Z.n_int (by kernel_rfl) (a_cons (v_up (v_op op_addA g_addA (v_up (v_op op_mul (g_I (C := CMul) (g := fun i j => i * j)) (v_up (v_var 7)) (v_up (v_var 7)))) (v_up (v_var 6)))) a_nil))) (v_up v_int)) S.nd)
    (ss_one (s_exprM (m_list 4 PySem.F.slot_list_append PySem.F.type_list_append mt_append g_app (a_cons (v_op op_mod (g_I (C := fun _ j => 0 < j) (g := fun i j => i % j)) (v_up (v_var 8)) (v_up (v_var 2))) a_nil))))))))))
    (ss_one (s_retF 4))))))
theorem d__law_names (Z : Zs G K mg P w) {f : Addr} {fd : FuncData} (Fn : Fun K ("_law_names" : Str) ("_law_names" : Str) (topS 47) f fd) (D__law_draws : Dk P w K mg base 1 ("_law_draws" : Str) (spM G K .sh 3 (ar3 m__law_draws))) : FnOk P w K mg base (L2.CX P w) 2 f fd [("_law_cell_here" : Str)] (spM G K .sh 1 (ar1 m__law_names)) := by
  have S : FnScope [("_law_cell_here" : Str), ("_law_letters" : Str), ("_law_draws_here" : Str), ("_law_place" : Str), ("_law_step" : Str), ("_law_kind" : Str), ("_law_names_here" : Str), ("_law_k" : Str), ("_law_base" : Str), ("_law_tail" : Str), ("_law_draw" : Str)] [("_law_cell_here" : Str)] (defScope (topS 47)) := C8.fnScope_by (by decide +kernel)
  refine d_of (κ := κ__law_names) (m := b__law_names) (k := 1) Fn S (fun i hi => by revert i; decide) (fun qs hl => match qs, hl with | [_], _ => rfl) fun cdv A outer s H E hr => ?_
  exact (ss_cons (s_set 1 v_str S.nd)
    (ss_cons (s_set 2 (v_call D__law_draws (hr.mono (by decide)) (takes_of rfl rfl rfl rfl) (a_cons (v_var 0) (a_cons v_int (a_cons v_int a_nil))) ar3_len) S.nd)
    (ss_cons (s_set 3 (v_op op_mod (g_I (C := fun _ j => 0 < j) (g := fun i j => i % j)) (v_up (v_callTy call_int1 g_int Z.n_int (by kernel_rfl) (a_cons (v_up (v_ix (v_up (v_var 2)) (v_up v_int))) a_nil))) (v_up v_int)) S.nd)
    (ss_cons (s_set 4 (v_ix (v_up (v_lst (a_cons v_int (a_cons v_int (a_cons v_int (a_cons v_int (a_cons v_int (a_cons v_int (a_cons v_int (a_cons v_int a_nil)))))))))) (v_up (v_op op_mod (g_I (C := fun _ j => 0 < j) (g := fun i j => i % j)) (v_up (v_callTy call_int1 g_int Z.n_int (by kernel_rfl) (a_cons (v_up (v_ix (v_up (v_var 2)) (v_up v_int))) a_nil))) (v_up v_int)))) S.nd)
    (ss_cons (s_set 5 (v_op op_mod (g_I (C := fun _ j => 0 < j) (g := fun i j => i % j)) (v_up (v_callTy call_int1 g_int Z.n_int (by kernel_rfl) (a_cons (v_up (v_ix (v_up (v_var 2)) (v_up v_int))) a_nil))) (v_up v_int)) S.nd)
    (ss_cons (s_setO 6 (v_lst a_nil) S.nd)
    (ss_cons (s_for (passes_of rfl) rfl (i_range1 Z.n_range (a_cons v_int a_nil)) (gv_name 7 (hN := S.nd)) gok_name (ss_cons (s_set 8 (v_join (v_up (v_lc (own := [(("_law_draw" : Str), 10)]) rfl S.nd (i_loose (i_seq (v_slice sl_A g_slA (v_up (v_var 2)) (o_some v_int) (o_some v_int)))) (blkOk_by (by kernel_rfl)) (fun _ _ _ _ _ => (gv_name 10 (hN := S.nd))) (fun _ _ _ _ _ => ts_nil) (fun _ _ _ _ _ => (v_ix (v_up (v_var 1)) (v_up (v_op op_mod (g_I (C := fun _ j => 0 < j) (g := fun i j => i % j)) (v_up (v_callTy call_int1 g_int Z.n_int (by kernel_rfl) (a_cons (v_up (v_op op_addA g_addA (v_up (v_var 10)) (v_up (v_op op_mul (g_I (C := CMul) (g := fun i j => i * j)) (v_up (v_op op_mul (g_I (C := CMul) (g := fun i j => i * j)) (v_up (v_op op_fdiv (g_I (C := CDiv) (g := fun i j => i / j)) (v_up (v_var 5)) (v_up v_int))) (v_up (v_var 7)))) (v_up (v_ix (v_up (v_var 2)) (v_up v_int))))))) a_nil))) (v_up v_int))))) (by decide) gok_name))) S.nd)
    (ss_cons (s_set 9 (v_slice sl_A g_slA (v_up (v_var 8)) (o_some (v_var 3)) o_none) S.nd)
    (ss_cons (s_if (t_cmp (op_eqD hr.units) g_eq (v_up (v_var 5)) (v_up v_int)) (ss_one (s_set 9 (v_slice sl_A g_slA (v_up (v_var 9)) o_none (o_some (v_op op_mod (g_I (C := fun _ j => 0 < j) (g := fun i j => i % j)) (v_up (v_callTy call_int1 g_int Z.n_int (by kernel_rfl) (a_cons (v_up (v_op op_addA g_addA (v_up (v_var 7)) (v_up (v_ix (v_up (v_var 2)) (v_up v_int))))) a_nil))) (v_up v_int)))) S.nd)) ss_nil)
    (ss_cons (s_exprM (m_list 6 PySem.F.slot_list_append PySem.F.type_list_append mt_append g_app (a_cons (v_op op_addA g_addA (v_up (v_op op_addA g_addA (v_up (v_slice sl_A g_slA (v_up (v_var 8)) o_none (o_some (v_var 3)))) (v_up (v_ix (v_up (v_var 1)) (v_up (v_op op_mod (g_I (C := fun _ j => 0 < j) (g := fun i j => i % j)) (v_up (v_callTy call_int1 g_int Z.n_int (by kernel_rfl) (a_cons (v_up (v_op op_addA g_addA (v_up (v_ix (v_up (v_var 2)) (v_up v_int))) (v_up (v_op op_mul (g_I (C := CMul) (g := fun i j => i * j)) (v_up (v_var 7)) (v_up (v_var 4)))))) a_nil))) (v_up v_int))))))) (v_up (v_var 9))) a_nil)))
    (ss_one (s_if (t_cmp (op_eqD hr.units) g_eq (v_up (v_var 5)) (v_up v_int)) (ss_one (s_setI 6 (v_var 7) (v_join (v_up (v_lc (own := [(("_law_draw" : Str), 10)]) rfl S.nd (i_loose (i_seq (v_slice sl_A g_slA (v_up (v_var 2)) (o_some v_int) (o_some (v_op op_addA g_addA (v_up v_int) (v_up (v_op op_mod (g_I (C := fun _ j => 0 < j) (g := fun i j => i % j)) (v_up (v_callTy call_int1 g_int Z.n_int (by kernel_rfl) (a_cons (v_up (v_op op_addA g_addA (v_up (v_ix (v_up (v_var 2)) (v_up v_int))) (v_up (v_var 7)))) a_nil))) (v_up v_int)))))))) (blkOk_by (by kernel_rfl)) (fun _ _ _ _ _ => (gv_name 10 (hN := S.nd))) (fun _ _ _ _ _ => ts_nil) (fun _ _ _ _ _ => (v_ix (v_up (v_var 1)) (v_up (v_op op_mod (g_I (C := fun _ j => 0 < j) (g := fun i j => i % j)) (v_up (v_callTy call_int1 g_int Z.n_int (by kernel_rfl) (a_cons (v_up (v_var 10)) a_nil))) (v_up v_int))))) (by decide) gok_name))))) ss_nil)))))))
    (ss_one (s_retF 6)))))))))
theorem d__law_piles (Z : Zs G K mg P w) {f : Addr} {fd : FuncData} (Fn : Fun K ("_law_piles" : Str) ("_law_piles" : Str) (topS 49) f fd) (D__law_draws : Dk P w K mg base 1 ("_law_draws" : Str) (spM G K .sh 3 (ar3 m__law_draws))) : FnOk P w K mg base (L2.CX P w) 2 f fd [("_law_cell_here" : Str), ("_law_names_here" : Str), ("_law_many" : Str), ("_law_high" : Str), ("_law_width" : Str)] (spM G K .sh 5 (ar5 m__law_piles)) := by
  have S : FnScope [("_law_cell_here" : Str), ("_law_names_here" : Str), ("_law_many" : Str), ("_law_high" : Str), ("_law_width" : Str), ("_law_piles_here" : Str), ("_law_draws_here" : Str), ("_law_k" : Str), ("_law_free" : Str), ("_law_j" : Str)] [("_law_cell_here" : Str), ("_law_names_here" : Str), ("_law_many" : Str), ("_law_high" : Str), ("_law_width" : Str)] (defScope (topS 49)) := C8.fnScope_by (by decide +kernel)
  refine d_of (κ := κ__law_piles) (m := b__law_piles) (k := 1) Fn S (fun i hi => by revert i; decide) (fun qs hl => match qs, hl with | [_, _, _, _, _], _ => rfl) fun cdv A outer s H E hr => ?_
  exact (ss_cons (s_setO 5 (v_lc (own := [(("_law_j" : Str), 9)]) rfl S.nd (i_loose (i_range1 Z.n_range (a_cons (v_var 4) a_nil))) (blkOk_by (by kernel_rfl)) (fun _ _ _ _ _ => (gv_name 9 (hN := S.nd))) (fun _ _ _ _ _ => ts_nil) (fun _ _ _ _ _ => (v_tup a_nil)) (by decide) gok_name) S.nd)
    (ss_cons (s_set 6 (v_call D__law_draws (hr.mono (by decide)) (takes_of rfl rfl rfl rfl) (a_cons (v_var 0) (a_cons (v_var 2) (a_cons v_int a_nil))) ar3_len) S.nd)
    (ss_cons (s_for (passes_of rfl) rfl (i_range1 Z.n_range (a_cons (v_var 2) a_nil)) (gv_name 7 (hN := S.nd)) gok_name (ss_cons (s_setLc 8 false (own := [(("_law_j" : Str), 9)]) rfl S.nd (i_loose (i_range1 Z.n_range (a_cons (v_var 4) a_nil))) (blkOk_by (by kernel_rfl)) (fun _ _ _ _ _ => (gv_name 9 (hN := S.nd))) (fun _ _ _ _ _ => (ts_one (t_cmp op_lt (g_B (g := fun i j => decide (i < j))) (v_up (v_callB call_lenV g_len Z.n_len (by kernel_rfl) (a_cons (v_up (v_ix (v_own 5) (v_up (v_var 9)))) a_nil))) (v_up (v_var 3))))) (fun _ _ _ _ _ => (v_var 9)) (by decide) gok_name)
    (ss_one (s_if (t_cmp op_gt (g_B (g := fun i j => decide (j < i))) (v_up (v_callB call_lenV g_len Z.n_len (by kernel_rfl) (a_cons (v_up (v_var 8)) a_nil))) (v_up v_int)) (ss_cons (s_set 9 (v_ix (v_up (v_var 8)) (v_up (v_op op_mod (g_I (C := fun _ j => 0 < j) (g := fun i j => i % j)) (v_up (v_callTy call_int1 g_int Z.n_int (by kernel_rfl) (a_cons (v_up (v_ix (v_up (v_var 6)) (v_up (v_var 7)))) a_nil))) (v_up (v_callB call_lenV g_len Z.n_len (by kernel_rfl) (a_cons (v_up (v_var 8)) a_nil)))))) S.nd)
    (ss_one (s_setI 5 (v_var 9) (v_op op_addA g_addA (v_up (v_ix (v_own 5) (v_up (v_var 9)))) (v_up (v_tup (a_cons (v_ix (v_up (v_var 1)) (v_up (v_var 7))) a_nil))))))) ss_nil))))
    (ss_one (s_ret (v_callTy Lk.call_tupK g_tuple Z.n_tuple (by kernel_rfl) (a_cons (v_own 5) a_nil)))))))
theorem d__law_cell (Z : Zs G K mg P w) {f : Addr} {fd : FuncData} (Fn : Fun K ("_law_cell" : Str) ("_law_cell" : Str) (topS 45) f fd)  : FnOk P w K mg base (L2.CX P w) 1 f fd [("_law_script" : Str), ("_law_k" : Str)] (spM G K .sh 2 (ar2 m__law_cell)) := by
  have S : FnScope [("_law_script" : Str), ("_law_k" : Str)] [("_law_script" : Str), ("_law_k" : Str)] (defScope (topS 45)) := C8.fnScope_by (by decide +kernel)
  refine d_of (κ := κ__law_cell) (m := b__law_cell) (k := 0) Fn S (fun i hi => by revert i; decide) (fun qs hl => match qs, hl with | [_, _], _ => rfl) fun cdv A outer s H E hr => ?_
  exact (ss_cons (s_if (t_cmp op_lt (g_B (g := fun i j => decide (i < j))) (v_up (v_var 1)) (v_up (v_callB call_lenV g_len Z.n_len (by kernel_rfl) (a_cons (v_up (v_var 0)) a_nil)))) (ss_one (s_ret (v_callB call_abs g_abs Z.n_abs (by kernel_rfl) (a_cons (v_up (v_callTy call_int1 g_int Z.n_int (by kernel_rfl) (a_cons (v_up (v_ix (v_up (v_var 0)) (v_up (v_var 1)))) a_nil))) a_nil)))) ss_nil)
    (ss_one (s_ret v_int)))
theorem d__law_standing (Z : Zs G K mg P w) {f : Addr} {fd : FuncData} (Fn : Fun K ("_law_standing" : Str) ("_law_standing" : Str) (topS 48) f fd)  : FnOk P w K mg base (L2.CX P w) 1 f fd [("_law_piles_here" : Str)] (spM G K .fr 1 (ar1 m__law_standing)) := by
  have S : FnScope [("_law_piles_here" : Str), ("_law_found" : Str), ("_law_pile" : Str)] [("_law_piles_here" : Str)] (defScope (topS 48)) := C8.fnScope_by (by decide +kernel)
  refine d_of (κ := κ__law_standing) (m := b__law_standing) (k := 0) Fn S (fun i hi => by revert i; decide) (fun qs hl => match qs, hl with | [_], _ => rfl) fun cdv A outer s H E hr => ?_
  exact (ss_cons (s_setO 1 (v_lst a_nil) S.nd)
    (ss_cons (s_for (passes_of rfl) rfl (i_seq (v_var 0)) (gv_name 2 (hN := S.nd)) gok_name (ss_one (s_exprM (m_list 1 PySem.F.slot_list_extend PySem.F.type_list_extend mt_extR g_ext (a_cons (v_var 2) a_nil)))))
    (ss_one (s_retO 1))))
theorem d__law_calls (Z : Zs G K mg P w) {f : Addr} {fd : FuncData} (Fn : Fun K ("_law_calls" : Str) ("_law_calls" : Str) (topS 50) f fd) (D__law_draws : Dk P w K mg base 1 ("_law_draws" : Str) (spM G K .sh 3 (ar3 m__law_draws))) (D__law_standing : Dk P w K mg base 1 ("_law_standing" : Str) (spM G K .fr 1 (ar1 m__law_standing))) : FnOk P w K mg base (L2.CX P w) 2 f fd [("_law_cell_here" : Str), ("_law_names_here" : Str), ("_law_piles_here" : Str), ("_law_many" : Str), ("_law_most" : Str)] (spM G K .sh 5 (ar5 m__law_calls)) := by
  have S : FnScope [("_law_cell_here" : Str), ("_law_names_here" : Str), ("_law_piles_here" : Str), ("_law_many" : Str), ("_law_most" : Str), ("_law_draws_here" : Str), ("_law_there" : Str), ("_law_used" : Str), ("_law_calls_here" : Str), ("_law_k" : Str), ("_law_away" : Str), ("_law_name" : Str)] [("_law_cell_here" : Str), ("_law_names_here" : Str), ("_law_piles_here" : Str), ("_law_many" : Str), ("_law_most" : Str)] (defScope (topS 50)) := C8.fnScope_by (by decide +kernel)
  refine d_of (κ := κ__law_calls) (m := b__law_calls) (k := 1) Fn S (fun i hi => by revert i; decide) (fun qs hl => match qs, hl with | [_, _, _, _, _], _ => rfl) fun cdv A outer s H E hr => ?_
  exact (ss_cons (s_set 5 (v_call D__law_draws (hr.mono (by decide)) (takes_of rfl rfl rfl rfl) (a_cons (v_var 0) (a_cons (v_op op_mul (g_I (C := CMul) (g := fun i j => i * j)) (v_up v_int) (v_up (v_var 3))) (a_cons v_int a_nil))) ar3_len) S.nd)
    (ss_cons (s_setO 6 (v_call D__law_standing (hr.mono (by decide)) (takes_of rfl rfl rfl rfl) (a_cons (v_var 2) a_nil) ar1_len) S.nd)
    (ss_cons (s_set 7 (v_callB call_lenV g_len Z.n_len (by kernel_rfl) (a_cons (v_own 6) a_nil)) S.nd)
    (ss_cons (s_setO 8 (v_lst a_nil) S.nd)
    (ss_cons (s_for (passes_of rfl) rfl (i_range1 Z.n_range (a_cons (v_var 3) a_nil)) (gv_name 9 (hN := S.nd)) gok_name (ss_cons (s_setLc 10 false (own := [(("_law_name" : Str), 11)]) rfl S.nd (i_loose (i_seq (v_var 1))) (blkOk_by (by kernel_rfl)) (fun _ _ _ _ _ => (gv_name 11 (hN := S.nd))) (fun _ _ _ _ _ => (ts_one (t_cmp (op_notInA (hu65 hr)) (g_inA (n := true)) (v_up (v_var 11)) (v_own 6)))) (fun _ _ _ _ _ => (v_var 11)) (by decide) gok_name)
    (ss_one (s_if (t_w (tw_and (t_cmp (op_eqD hr.units) g_eq (v_up (v_op op_mod (g_I (C := fun _ j => 0 < j) (g := fun i j => i % j)) (v_up (v_callTy call_int1 g_int Z.n_int (by kernel_rfl) (a_cons (v_up (v_ix (v_up (v_var 5)) (v_up (v_op op_mul (g_I (C := CMul) (g := fun i j => i * j)) (v_up v_int) (v_up (v_var 9)))))) a_nil))) (v_up v_int))) (v_up v_int)) (tw_and (t_cmp op_lt (g_B (g := fun i j => decide (i < j))) (v_up (v_var 7)) (v_up (v_var 4))) (tw_and1 (t_cmp op_gt (g_B (g := fun i j => decide (j < i))) (v_up (v_callB call_lenV g_len Z.n_len (by kernel_rfl) (a_cons (v_up (v_var 10)) a_nil))) (v_up v_int)))))) (ss_cons (s_exprM (m_list 6 PySem.F.slot_list_append PySem.F.type_list_append mt_append g_app (a_cons (v_ix (v_up (v_var 10)) (v_up (v_op op_mod (g_I (C := fun _ j => 0 < j) (g := fun i j => i % j)) (v_up (v_callTy call_int1 g_int Z.n_int (by kernel_rfl) (a_cons (v_up (v_ix (v_up (v_var 5)) (v_up (v_op op_addA g_addA (v_up (v_op op_mul (g_I (C := CMul) (g := fun i j => i * j)) (v_up v_int) (v_up (v_var 9)))) (v_up v_int))))) a_nil))) (v_up (v_callB call_lenV g_len Z.n_len (by kernel_rfl) (a_cons (v_up (v_var 10)) a_nil)))))) a_nil)))
    (ss_cons (s_set 7 (v_op op_addA g_addA (v_up (v_var 7)) (v_up v_int)) S.nd)
    (ss_one (s_exprM (m_list 8 PySem.F.slot_list_append PySem.F.type_list_append mt_append g_app (a_cons (v_tup (a_cons v_str (a_cons (v_ix (v_own 6) (v_up (v_op op_sub g_sub (v_up (v_callB call_lenV g_len Z.n_len (by kernel_rfl) (a_cons (v_own 6) a_nil))) (v_up v_int)))) a_nil))) a_nil)))))) (ss_one (s_if (t_cmp op_gt (g_B (g := fun i j => decide (j < i))) (v_up (v_callB call_lenV g_len Z.n_len (by kernel_rfl) (a_cons (v_own 6) a_nil))) (v_up v_int)) (ss_one (s_exprM (m_listM 8 PySem.F.slot_list_append PySem.F.type_list_append mt_append g_app (m_tup (am_cons v_str (am_one (m_list 6 PySem.F.slot_list_pop PySem.F.type_list_pop mt_popAt g_popAt (a_cons (v_op op_mod (g_I (C := fun _ j => 0 < j) (g := fun i j => i % j)) (v_up (v_callTy call_int1 g_int Z.n_int (by kernel_rfl) (a_cons (v_up (v_ix (v_up (v_var 5)) (v_up (v_op op_addA g_addA (v_up (v_op op_mul (g_I (C := CMul) (g := fun i j => i * j)) (v_up v_int) (v_up (v_var 9)))) (v_up v_int))))) a_nil))) (v_up (v_callB call_lenV g_len Z.n_len (by kernel_rfl) (a_cons (v_own 6) a_nil)))) a_nil)))))))) ss_nil))))))
    (ss_one (s_ret (v_callTy Lk.call_tupK g_tuple Z.n_tuple (by kernel_rfl) (a_cons (v_own 8) a_nil)))))))))
theorem d__law_task (Z : Zs G K mg P w) {f : Addr} {fd : FuncData} (Fn : Fun K ("_law_task" : Str) ("_law_task" : Str) (topS 51) f fd) (D__law_names : Dk P w K mg base 2 ("_law_names" : Str) (spM G K .sh 1 (ar1 m__law_names))) (D__law_cell : Dk P w K mg base 1 ("_law_cell" : Str) (spM G K .sh 2 (ar2 m__law_cell))) (D__law_piles : Dk P w K mg base 2 ("_law_piles" : Str) (spM G K .sh 5 (ar5 m__law_piles))) (D__law_calls : Dk P w K mg base 2 ("_law_calls" : Str) (spM G K .sh 5 (ar5 m__law_calls))) : FnOk P w K mg base (L2.CX P w) 3 f fd [("_law_script" : Str), ("_law_draws_here" : Str)] (spM G K .sh 2 (ar2 m__law_task)) := by
  have S : FnScope [("_law_script" : Str), ("_law_draws_here" : Str), ("_law_width" : Str), ("_law_high" : Str), ("_law_most" : Str), ("_law_names_here" : Str), ("_law_piles_here" : Str)] [("_law_script" : Str), ("_law_draws_here" : Str)] (defScope (topS 51)) := C8.fnScope_by (by decide +kernel)
  refine d_of (κ := κ__law_task) (m := b__law_task) (k := 2) Fn S (fun i hi => by revert i; decide) (fun qs hl => match qs, hl with | [_, _], _ => rfl) fun cdv A outer s H E hr => ?_
  exact (ss_cons (s_set 2 (v_ix (v_up (v_lst (a_cons v_int (a_cons v_int (a_cons v_int (a_cons v_int (a_cons v_int (a_cons v_int (a_cons v_int (a_cons v_int a_nil)))))))))) (v_up (v_op op_mod (g_I (C := fun _ j => 0 < j) (g := fun i j => i % j)) (v_up (v_callTy call_int1 g_int Z.n_int (by kernel_rfl) (a_cons (v_up (v_ix (v_up (v_var 1)) (v_up v_int))) a_nil))) (v_up v_int)))) S.nd)
    (ss_cons (s_set 3 (v_ix (v_up (v_lst (a_cons v_int (a_cons v_int (a_cons v_int (a_cons v_int (a_cons v_int (a_cons v_int a_nil)))))))) (v_up (v_op op_mod (g_I (C := fun _ j => 0 < j) (g := fun i j => i % j)) (v_up (v_callTy call_int1 g_int Z.n_int (by kernel_rfl) (a_cons (v_up (v_ix (v_up (v_var 1)) (v_up v_int))) a_nil))) (v_up v_int)))) S.nd)
    (ss_cons (s_set 4 (v_ix (v_up (v_lst (a_cons v_int (a_cons v_int (a_cons v_int a_nil))))) (v_up (v_op op_sub g_sub (v_up (v_var 2)) (v_up v_int)))) S.nd)
    (ss_cons (s_set 5 (v_call D__law_names (hr.mono (by decide)) (takes_of rfl rfl rfl rfl) (a_cons (v_call D__law_cell (hr.mono (by decide)) (takes_of rfl rfl rfl rfl) (a_cons (v_var 0) (a_cons v_int a_nil)) ar2_len) a_nil) ar1_len) S.nd)
    (ss_cons (s_set 6 (v_call D__law_piles (hr.mono (by decide)) (takes_of rfl rfl rfl rfl) (a_cons (v_call D__law_cell (hr.mono (by decide)) (takes_of rfl rfl rfl rfl) (a_cons (v_var 0) (a_cons v_int a_nil)) ar2_len) (a_cons (v_var 5) (a_cons (v_op op_mod (g_I (C := fun _ j => 0 < j) (g := fun i j => i % j)) (v_up (v_callTy call_int1 g_int Z.n_int (by kernel_rfl) (a_cons (v_up (v_ix (v_up (v_var 1)) (v_up v_int))) a_nil))) (v_up (v_op op_addA g_addA (v_up (v_var 4)) (v_up v_int)))) (a_cons (v_var 3) (a_cons (v_var 2) a_nil))))) ar5_len) S.nd)
    (ss_one (s_ret (v_tup (a_cons (v_var 3) (a_cons (v_var 6) (a_cons (v_call D__law_calls (hr.mono (by decide)) (takes_of rfl rfl rfl rfl) (a_cons (v_call D__law_cell (hr.mono (by decide)) (takes_of rfl rfl rfl rfl) (a_cons (v_var 0) (a_cons v_int a_nil)) ar2_len) (a_cons (v_var 5) (a_cons (v_var 6) (a_cons (v_op op_mod (g_I (C := fun _ j => 0 < j) (g := fun i j => i % j)) (v_up (v_callTy call_int1 g_int Z.n_int (by kernel_rfl) (a_cons (v_up (v_ix (v_up (v_var 1)) (v_up v_int))) a_nil))) (v_up v_int)) (a_cons (v_var 4) a_nil))))) ar5_len) a_nil)))))))))))
theorem d__law_with (Z : Zs G K mg P w) {f : Addr} {fd : FuncData} (Fn : Fun K ("_law_with" : Str) ("_law_with" : Str) (topS 53) f fd)  : FnOk P w K mg base (L2.CX P w) 1 f fd [("_law_piles_here" : Str), ("_law_j" : Str), ("_law_pile" : Str)] (spM G K .sh 3 (ar3 m__law_with)) := by
  have S : FnScope [("_law_piles_here" : Str), ("_law_j" : Str), ("_law_pile" : Str)] [("_law_piles_here" : Str), ("_law_j" : Str), ("_law_pile" : Str)] (defScope (topS 53)) := C8.fnScope_by (by decide +kernel)
  refine d_of (κ := κ__law_with) (m := b__law_with) (k := 0) Fn S (fun i hi => by revert i; decide) (fun qs hl => match qs, hl with | [_, _, _], _ => rfl) fun cdv A outer s H E hr => ?_
  exact (ss_one (s_ret (v_op op_addA g_addA (v_up (v_op op_addA g_addA (v_up (v_slice sl_A g_slA (v_up (v_var 0)) o_none (o_some (v_var 1)))) (v_up (v_tup (a_cons (v_var 2) a_nil))))) (v_up (v_slice sl_A g_slA (v_up (v_var 0)) (o_some (v_op op_addA g_addA (v_up (v_var 1)) (v_up v_int))) o_none)))))
theorem d__law_deeds (Z : Zs G K mg P w) {f : Addr} {fd : FuncData} (Fn : Fun K ("_law_deeds" : Str) ("_law_deeds" : Str) (topS 54) f fd) (D__law_with : Dk P w K mg base 1 ("_law_with" : Str) (spM G K .sh 3 (ar3 m__law_with))) : FnOk P w K mg base (L2.CX P w) 2 f fd [("_law_task_here" : Str), ("_law_state" : Str)] (spM G K .sh 2 (ar2 m__law_deeds)) := by
  have S : FnScope [("_law_task_here" : Str), ("_law_state" : Str), ("_law_piles_here" : Str), ("_law_places" : Str), ("_law_found" : Str), ("_law_i" : Str), ("_law_call" : Str), ("_law_j" : Str), ("_law_moved" : Str)] [("_law_task_here" : Str), ("_law_state" : Str)] (defScope (topS 54)) := C8.fnScope_by (by decide +kernel)
  refine d_of (κ := κ__law_deeds) (m := b__law_deeds) (k := 1) Fn S (fun i hi => by revert i; decide) (fun qs hl => match qs, hl with | [_, _], _ => rfl) fun cdv A outer s H E hr => ?_
  exact (ss_cons (s_set 2 (v_ix (v_up (v_var 1)) (v_up v_int)) S.nd)
    (ss_cons (s_set 3 (v_freeze (v_callTy (call_listR rfl) g_listR Z.n_list (by kernel_rfl) (a_cons (v_up (v_callTy Lt.cr_range1 g_rng Z.n_range (by kernel_rfl) (a_cons (v_up (v_callB call_lenV g_len Z.n_len (by kernel_rfl) (a_cons (v_up (v_var 2)) a_nil))) a_nil))) a_nil))) S.nd)
    (ss_cons (s_setO 4 (v_lst a_nil) S.nd)
    (ss_cons (s_if (t_cmp op_lt (g_B (g := fun i j => decide (i < j))) (v_up (v_ix (v_up (v_var 1)) (v_up v_int))) (v_up (v_callB call_lenV g_len Z.n_len (by kernel_rfl) (a_cons (v_up (v_ix (v_up (v_var 0)) (v_up v_int))) a_nil)))) (ss_cons (s_set 6 (v_ix (v_up (v_ix (v_up (v_var 0)) (v_up v_int))) (v_up (v_ix (v_up (v_var 1)) (v_up v_int)))) S.nd)
    (ss_one (s_for (passes_of rfl) rfl (i_seq (v_var 3)) (gv_name 7 (hN := S.nd)) gok_name (ss_cons (s_if (t_w (tw_and (t_cmp (op_eqD hr.units) g_eq (v_up (v_ix (v_up (v_var 6)) (v_up v_int))) (v_up v_str)) (tw_and1 (t_cmp (op_eqD hr.units) g_eq (v_up (v_slice sl_A g_slA (v_up (v_ix (v_up (v_var 2)) (v_up (v_var 7)))) (o_some (v_un un_neg g_neg (v_up v_int))) o_none)) (v_up (v_tup (a_cons (v_ix (v_up (v_var 6)) (v_up v_int)) a_nil))))))) (ss_one (s_exprM (m_list 4 PySem.F.slot_list_append PySem.F.type_list_append mt_append g_app (a_cons (v_tup (a_cons (v_tup (a_cons v_str a_nil)) (a_cons (v_tup (a_cons (v_op op_addA g_addA (v_up (v_ix (v_up (v_var 1)) (v_up v_int))) (v_up v_int)) (a_cons (v_call D__law_with (hr.mono (by decide)) (takes_of rfl rfl rfl rfl) (a_cons (v_var 2) (a_cons (v_var 7) (a_cons (v_slice sl_A g_slA (v_up (v_ix (v_up (v_var 2)) (v_up (v_var 7)))) o_none (o_some (v_un un_neg g_neg (v_up v_int)))) a_nil))) ar3_len) a_nil))) a_nil))) a_nil)))) ss_nil)
    (ss_one (s_if (t_w (tw_and (t_cmp (op_eqD hr.units) g_eq (v_up (v_ix (v_up (v_var 6)) (v_up v_int))) (v_up v_str)) (tw_and1 (t_cmp op_lt (g_B (g := fun i j => decide (i < j))) (v_up (v_callB call_lenV g_len Z.n_len (by kernel_rfl) (a_cons (v_up (v_ix (v_up (v_var 2)) (v_up (v_var 7)))) a_nil))) (v_up (v_ix (v_up (v_var 0)) (v_up v_int))))))) (ss_one (s_exprM (m_list 4 PySem.F.slot_list_append PySem.F.type_list_append mt_append g_app (a_cons (v_tup (a_cons (v_tup (a_cons v_str (a_cons (v_var 7) a_nil))) (a_cons (v_tup (a_cons (v_op op_addA g_addA (v_up (v_ix (v_up (v_var 1)) (v_up v_int))) (v_up v_int)) (a_cons (v_call D__law_with (hr.mono (by decide)) (takes_of rfl rfl rfl rfl) (a_cons (v_var 2) (a_cons (v_var 7) (a_cons (v_op op_addA g_addA (v_up (v_ix (v_up (v_var 2)) (v_up (v_var 7)))) (v_up (v_tup (a_cons (v_ix (v_up (v_var 6)) (v_up v_int)) a_nil)))) a_nil))) ar3_len) a_nil))) a_nil))) a_nil)))) ss_nil)))))) ss_nil)
    (ss_cons (s_for (passes_of rfl) rfl (i_seq (v_var 3)) (gv_name 5 (hN := S.nd)) gok_name (ss_one (s_for (passes_of rfl) rfl (i_seq (v_var 3)) (gv_name 7 (hN := S.nd)) gok_name (ss_one (s_if (t_w (tw_and (t_cmp (op_neD hr.units) g_ne (v_up (v_var 5)) (v_up (v_var 7))) (tw_and (t_cmp op_gt (g_B (g := fun i j => decide (j < i))) (v_up (v_callB call_lenV g_len Z.n_len (by kernel_rfl) (a_cons (v_up (v_ix (v_up (v_var 2)) (v_up (v_var 5)))) a_nil))) (v_up v_int)) (tw_and1 (t_cmp op_lt (g_B (g := fun i j => decide (i < j))) (v_up (v_callB call_lenV g_len Z.n_len (by kernel_rfl) (a_cons (v_up (v_ix (v_up (v_var 2)) (v_up (v_var 7)))) a_nil))) (v_up (v_ix (v_up (v_var 0)) (v_up v_int)))))))) (ss_cons (s_set 8 (v_call D__law_with (hr.mono (by decide)) (takes_of rfl rfl rfl rfl) (a_cons (v_call D__law_with (hr.mono (by decide)) (takes_of rfl rfl rfl rfl) (a_cons (v_var 2) (a_cons (v_var 5) (a_cons (v_slice sl_A g_slA (v_up (v_ix (v_up (v_var 2)) (v_up (v_var 5)))) o_none (o_some (v_un un_neg g_neg (v_up v_int)))) a_nil))) ar3_len) (a_cons (v_var 7) (a_cons (v_op op_addA g_addA (v_up (v_ix (v_up (v_var 2)) (v_up (v_var 7)))) (v_up (v_slice sl_A g_slA (v_up (v_ix (v_up (v_var 2)) (v_up (v_var 5)))) (o_some (v_un un_neg g_neg (v_up v_int))) o_none))) a_nil))) ar3_len) S.nd)
    (ss_one (s_exprM (m_list 4 PySem.F.slot_list_append PySem.F.type_list_append mt_append g_app (a_cons (v_tup (a_cons (v_tup (a_cons v_str (a_cons (v_var 5) (a_cons (v_var 7) a_nil)))) (a_cons (v_tup (a_cons (v_ix (v_up (v_var 1)) (v_up v_int)) (a_cons (v_var 8) a_nil))) a_nil))) a_nil))))) ss_nil)))))
    (ss_one (s_retF 4)))))))
theorem d__law_reached (Z : Zs G K mg P w) {f : Addr} {fd : FuncData} (Fn : Fun K ("_law_reached" : Str) ("_law_reached" : Str) (topS 55) f fd) (D__law_deeds : Dk P w K mg base 2 ("_law_deeds" : Str) (spM G K .sh 2 (ar2 m__law_deeds))) : FnOk P w K mg base (L2.CX P w) 3 f fd [("_law_task_here" : Str)] (spM G K .sh 1 (ar1 m__law_reached)) := by
  have S : FnScope [("_law_task_here" : Str), ("_law_queue" : Str), ("_law_seen" : Str), ("_law_k" : Str), ("_law_step" : Str)] [("_law_task_here" : Str)] (defScope (topS 55)) := C8.fnScope_by (by decide +kernel)
  refine d_of (κ := κ__law_reached) (m := b__law_reached) (k := 2) Fn S (fun i hi => by revert i; decide) (fun qs hl => match qs, hl with | [_], _ => rfl) fun cdv A outer s H E hr => ?_
  exact (ss_cons (s_setO 1 (v_lst (a_cons (v_tup (a_cons v_int (a_cons (v_ix (v_up (v_var 0)) (v_up v_int)) a_nil))) a_nil)) S.nd)
    (ss_cons (s_setO 2 (v_none Z.pw (hu9 hr) (v_ix (v_own 1) (v_up v_int)) v_bl) S.nd)
    (ss_cons (s_for (passes_of rfl) rfl (i_range1 Z.n_range (a_cons v_int a_nil)) (gv_name 3 (hN := S.nd)) gok_name (ss_cons (s_if (t_cmp op_ge (g_B (g := fun i j => decide (j ≤ i))) (v_up (v_var 3)) (v_up (v_callB call_lenV g_len Z.n_len (by kernel_rfl) (a_cons (v_own 1) a_nil)))) (ss_one s_break) ss_nil)
    (ss_one (s_for (passes_of rfl) rfl (i_seq (v_call D__law_deeds (hr.mono (by decide)) (takes_of rfl rfl rfl rfl) (a_cons (v_var 0) (a_cons (v_ix (v_own 1) (v_up (v_var 3))) a_nil)) ar2_len)) (gv_name 4 (hN := S.nd)) gok_name (ss_one (s_if (t_nnin Z.pw (hu9 hr) (v_ix (v_up (v_var 4)) (v_up v_int)) (v_own 2)) (ss_cons (s_putN Z.pw 2 (hu9 hr) (v_ix (v_up (v_var 4)) (v_up v_int)) v_bl)
    (ss_one (s_exprM (m_list 1 PySem.F.slot_list_append PySem.F.type_list_append mt_append g_app (a_cons (v_ix (v_up (v_var 4)) (v_up v_int)) a_nil))))) ss_nil))))))
    (ss_one (s_ret (v_callTy Lk.call_tupK g_tuple Z.n_tuple (by kernel_rfl) (a_cons (v_up (v_callB (cr_sortD (hu32 hr)) g_sortD Z.n_sorted (by kernel_rfl) (a_cons (v_own 1) a_nil))) a_nil)))))))
theorem d_is_sequence (Z : Zs G K mg P w) {f : Addr} {fd : FuncData} (Fn : Fun K ("is_sequence" : Str) ("is_sequence" : Str) (topS 6) f fd)  : FnOk P w K mg base (L2.CX P w) 1 f fd [("value" : Str)] (spM G K .sh 1 (ar1 m_is_sequence)) := by
  have S : FnScope [("value" : Str)] [("value" : Str)] (defScope (topS 6)) := C8.fnScope_by (by decide +kernel)
  refine d_of (κ := κ_is_sequence) (m := b_is_sequence) (k := 0) Fn S (fun i hi => by revert i; decide) (fun qs hl => match qs, hl with | [_], _ => rfl) fun cdv A outer s H E hr => ?_
  exact (ss_one (s_ret (v_isi2 "list" "tuple" (v_up (v_var 0)) Z.n_isinstance Z.n_list Z.n_tuple (by kernel_rfl) (by kernel_rfl))))
theorem d_boxes_of (Z : Zs G K mg P w) {f : Addr} {fd : FuncData} (Fn : Fun K ("boxes_of" : Str) ("boxes_of" : Str) (topS 20) f fd)  : FnOk P w K mg base (L2.CX P w) 1 f fd [("yard" : Str)] (spM G K .sh 1 (ar1 m_boxes_of)) := by
  have S : FnScope [("yard" : Str), ("stack" : Str), ("name" : Str)] [("yard" : Str)] (defScope (topS 20)) := C8.fnScope_by (by decide +kernel)
  refine d_of (κ := κ_boxes_of) (m := b_boxes_of) (k := 0) Fn S (fun i hi => by revert i; decide) (fun qs hl => match qs, hl with | [_], _ => rfl) fun cdv A outer s H E hr => ?_
  exact (ss_one (s_ret (v_callTy Lk.call_tupK g_tuple Z.n_tuple (by kernel_rfl) (a_cons (v_up (v_lc2 (own := [(("stack" : Str), 1), (("name" : Str), 2)]) (own1 := [2]) rfl S.nd (i_loose (i_seq (v_att (fun c => c == 4) (fun c h => by obtain rfl := eq_of_beq h; exact Z.at_4_stacks) (v_up (v_var 0))))) (blkOk_by (by kernel_rfl)) (by decide) (fun _ _ _ _ _ => (gv_name 1 (hN := S.nd))) (fun _ _ _ _ _ => ts_nil) (fun _ _ _ _ _ => (i_seq (v_var 1))) (fun _ _ _ _ _ => (gv_name 2 (hN := S.nd))) (fun _ _ _ _ _ => ts_nil) (fun _ _ _ _ _ => (v_var 2)) (by decide) gok_name (by decide) gok_name)) a_nil))))
theorem d_is_name (Z : Zs G K mg P w) {f : Addr} {fd : FuncData} (Fn : Fun K ("is_name" : Str) ("is_name" : Str) (topS 7) f fd)  : FnOk P w K mg base (L2.CX P w) 1 f fd [("value" : Str)] (spM G K .sh 1 (ar1 m_is_name)) := by
  have S : FnScope [("value" : Str), ("sign" : Str)] [("value" : Str)] (defScope (topS 7)) := C8.fnScope_by (by decide +kernel)
  refine d_of (κ := κ_is_name) (m := b_is_name) (k := 0) Fn S (fun i hi => by revert i; decide) (fun qs hl => match qs, hl with | [_], _ => rfl) fun cdv A outer s H E hr => ?_
  exact (ss_cons (s_if (t_w (tw_or (t_not (t_val (v_callB call_isi g_isi Z.n_isinstance (by kernel_rfl) (a_cons (v_up (v_var 0)) (a_cons (v_up (v_gty Z.n_str (by kernel_rfl))) a_nil))))) (tw_or1 (t_not (t_chain op_le op_le (g_B (g := fun i j => decide (i ≤ j))) (g_B (g := fun i j => decide (i ≤ j))) (v_up v_int) (v_up (v_callB call_lenV g_len Z.n_len (by kernel_rfl) (a_cons (v_up (v_var 0)) a_nil))) (v_up (v_gintE Z.g_MOST_LETTERS))))))) (ss_one (s_ret v_bl)) ss_nil)
    (ss_one (s_ret (v_callB (cr_all rfl) g_all Z.n_all (by kernel_rfl) (a_cons (v_up (v_lc (own := [(("sign" : Str), 1)]) rfl S.nd (i_loose (i_seq (v_var 0))) (blkOk_by (by kernel_rfl)) (fun _ _ _ _ _ => (gv_name 1 (hN := S.nd))) (fun _ _ _ _ _ => ts_nil) (fun _ _ _ _ _ => (v_cmp op_inV (g_in (n := false)) (v_up (v_var 1)) (v_up (v_gstrE Z.g_LETTERS)))) (by decide) gok_name)) a_nil)))))
theorem d_is_event (Z : Zs G K mg P w) {f : Addr} {fd : FuncData} (Fn : Fun K ("is_event" : Str) ("is_event" : Str) (topS 24) f fd) (D_is_name : Dk P w K mg base 1 ("is_name" : Str) (spM G K .sh 1 (ar1 m_is_name))) : FnOk P w K mg base (L2.CX P w) 2 f fd [("value" : Str)] (spM G K .sh 1 (ar1 m_is_event)) := by
  have S : FnScope [("value" : Str)] [("value" : Str)] (defScope (topS 24)) := C8.fnScope_by (by decide +kernel)
  refine d_of (κ := κ_is_event) (m := b_is_event) (k := 1) Fn S (fun i hi => by revert i; decide) (fun qs hl => match qs, hl with | [_], _ => rfl) fun cdv A outer s H E hr => ?_
  exact (ss_cons (s_if (t_w (tw_or (t_not (t_val (v_callB call_isi g_isi Z.n_isinstance (by kernel_rfl) (a_cons (v_up (v_var 0)) (a_cons (v_up (v_gty Z.n_tuple (by kernel_rfl))) a_nil))))) (tw_or (t_cmp (op_neD hr.units) g_ne (v_up (v_callB call_lenV g_len Z.n_len (by kernel_rfl) (a_cons (v_up (v_var 0)) a_nil))) (v_up v_int)) (tw_or1 (t_not (t_val (v_callB call_isi g_isi Z.n_isinstance (by kernel_rfl) (a_cons (v_up (v_ix (v_up (v_var 0)) (v_up v_int))) (a_cons (v_up (v_gty Z.n_str (by kernel_rfl))) a_nil))))))))) (ss_one (s_ret v_bl)) ss_nil)
    (ss_one (s_ret (v_and (v_cmp op_inV (g_in (n := false)) (v_up (v_ix (v_up (v_var 0)) (v_up v_int))) (v_up (v_tup (a_cons (v_gstrE Z.g_IN) (a_cons (v_gstrE Z.g_OUT) a_nil))))) (v_one (v_call D_is_name (hr.mono (by decide)) (takes_of rfl rfl rfl rfl) (a_cons (v_ix (v_up (v_var 0)) (v_up v_int)) a_nil) ar1_len))))))
theorem d_as_events (Z : Zs G K mg P w) {f : Addr} {fd : FuncData} (Fn : Fun K ("as_events" : Str) ("as_events" : Str) (topS 25) f fd) (D_is_sequence : Dk P w K mg base 1 ("is_sequence" : Str) (spM G K .sh 1 (ar1 m_is_sequence))) (D_is_event : Dk P w K mg base 2 ("is_event" : Str) (spM G K .sh 1 (ar1 m_is_event))) (D_boxes_of : Dk P w K mg base 1 ("boxes_of" : Str) (spM G K .sh 1 (ar1 m_boxes_of))) : FnOk P w K mg base (L2.CX P w) 3 f fd [("yard" : Str), ("value" : Str)] (spM G K .sh 2 (ar2 m_as_events)) := by
  have S : FnScope [("yard" : Str), ("value" : Str), ("there" : Str), ("word" : Str), ("name" : Str), ("event" : Str)] [("yard" : Str), ("value" : Str)] (defScope (topS 25)) := C8.fnScope_by (by decide +kernel)
  refine d_of (κ := κ_as_events) (m := b_as_events) (k := 2) Fn S (fun i hi => by revert i; decide) (fun qs hl => match qs, hl with | [_, _], _ => rfl) fun cdv A outer s H E hr => ?_
  exact (ss_cons (s_if (t_w (tw_or (t_not (t_val (v_call D_is_sequence (hr.mono (by decide)) (takes_of rfl rfl rfl rfl) (a_cons (v_var 1) a_nil) ar1_len))) (tw_or1 (t_not (t_val (v_callB (cr_all rfl) g_all Z.n_all (by kernel_rfl) (a_cons (v_up (v_lc (own := [(("event" : Str), 5)]) rfl S.nd (i_loose (i_seq (v_var 1))) (blkOk_by (by kernel_rfl)) (fun _ _ _ _ _ => (gv_name 5 (hN := S.nd))) (fun _ _ _ _ _ => ts_nil) (fun _ _ _ _ _ => (v_call D_is_event (hr.mono (by decide)) (takes0) (a_cons (v_var 5) a_nil) ar1_len)) (by decide) gok_name)) a_nil))))))) (ss_one (s_ret v_non)) ss_nil)
    (ss_cons (s_setDc 2 true (own := [(("name" : Str), 4)]) rfl S.nd (i_loose (i_seq (v_call D_boxes_of (hr.mono (by decide)) (takes_of rfl rfl rfl rfl) (a_cons (v_var 0) a_nil) ar1_len))) (blkOk_by (by kernel_rfl)) (fun _ _ _ _ _ => (gv_name 4 (hN := S.nd))) (fun _ _ _ _ _ => ts_nil) (fun _ _ _ _ _ => (v_var 4)) (fun _ _ _ _ _ => v_bl) (by decide) gok_name)
    (ss_cons (s_for (passes_of rfl) rfl (i_seq (v_var 1)) (gv_tup rfl (gvs_cons (gv_name 3 (hN := S.nd)) (gvs_cons (gv_name 4 (hN := S.nd)) gvs_nil (fun _ _ => rfl)) (fun _ _ => rfl))) (gok_tup (goks_cons gok_name (goks_cons gok_name goks_nil))) (ss_cons (s_if (t_cmp (op_eqD hr.units) g_eq (v_up (v_din (hu_of hr) (v_var 4) (v_own 2))) (v_up (v_cmp (op_eqD hr.units) g_eq (v_up (v_var 3)) (v_up (v_gstrE Z.g_IN))))) (ss_one (s_ret v_non)) ss_nil)
    (ss_one (s_if (t_cmp (op_eqD hr.units) g_eq (v_up (v_var 3)) (v_up (v_gstrE Z.g_IN))) (ss_one (s_put 2 (hu_of hr) (v_var 4) v_bl)) (ss_one (s_del 2 (v_var 4)))))))
    (ss_one (s_ret (v_callTy Lk.call_tupK g_tuple Z.n_tuple (by kernel_rfl) (a_cons (v_up (v_var 1)) a_nil)))))))
theorem d_Day (Z : Zs G K mg P w) {f : Addr} {fd : FuncData} (Fn : Fun K "__init__" ("Day.__init__" : Str) (inClass (topS 26) 0) f fd) (D_as_events : Dk P w K mg base 3 ("as_events" : Str) (spM G K .sh 2 (ar2 m_as_events))) (X_InvalidDay : ExcC P w K mg base 1 ("InvalidDay" : Str) (G 2) (spX1 (G 2) ("value" : Str))) : FnOk P w K mg base (L2.CX P w) 4 f fd [("self" : Str), ("yard" : Str), ("events" : Str)] (spI G K 5 2 (ar2 m_Day)) := by
  have S : FnScope [("self" : Str), ("yard" : Str), ("events" : Str), ("told" : Str)] [("self" : Str), ("yard" : Str), ("events" : Str)] (defScope (inClass (topS 26) 0)) := C8.fnScope_by (by decide +kernel)
  refine d_init (κ := κ_Day) (m := b_Day) (k := 3) (n := 2) Fn S rfl rfl (fun i hi => by revert i; decide) (fun qs hl => match qs, hl with | [_, _], _ => rfl) fun cdv A outer s H E hr => ?_
  exact (ss_cons (s_set 3 (v_call D_as_events (hr.mono (by decide)) (takes_of rfl rfl rfl rfl) (a_cons (v_var 1) (a_cons (v_var 2) a_nil)) ar2_len) S.nd)
    (ss_cons (s_if (t_cmp op_isN g_isN (v_up (v_var 3)) (v_up v_non)) (ss_one (s_raise rfl (takes_of rfl rfl rfl rfl) X_InvalidDay (hr.mono (by decide)) (v_var 2))) ss_nil)
    (ss_cons (s_fld 0 5 Z.at_5_yard.1 Z.at_5_yard.2 (v_var 1))
    (ss_one (s_fld 0 5 Z.at_5_events.1 Z.at_5_events.2 (v_var 3))))))
theorem d_are_unlike (Z : Zs G K mg P w) {f : Addr} {fd : FuncData} (Fn : Fun K ("are_unlike" : Str) ("are_unlike" : Str) (topS 8) f fd)  : FnOk P w K mg base (L2.CX P w) 1 f fd [("names" : Str)] (spM G K .sh 1 (ar1 m_are_unlike)) := by
  have S : FnScope [("names" : Str), ("name" : Str)] [("names" : Str)] (defScope (topS 8)) := C8.fnScope_by (by decide +kernel)
  refine d_of (κ := κ_are_unlike) (m := b_are_unlike) (k := 0) Fn S (fun i hi => by revert i; decide) (fun qs hl => match qs, hl with | [_], _ => rfl) fun cdv A outer s H E hr => ?_
  exact (ss_one (s_ret (v_cmp (op_eqD hr.units) g_eq (v_up (v_callB call_lenV g_len Z.n_len (by kernel_rfl) (a_cons (v_up (v_dc (own := [(("name" : Str), 1)]) rfl S.nd (i_loose (i_seq (v_var 0))) (blkOk_by (by kernel_rfl)) (fun _ _ _ _ _ => (gv_name 1 (hN := S.nd))) (fun _ _ _ _ _ => ts_nil) (fun _ _ _ _ _ => (v_var 1)) (fun _ _ _ _ _ => v_bl) (by decide) gok_name)) a_nil))) (v_up (v_callB call_lenV g_len Z.n_len (by kernel_rfl) (a_cons (v_up (v_var 0)) a_nil))))))
theorem d_as_stacks (Z : Zs G K mg P w) {f : Addr} {fd : FuncData} (Fn : Fun K ("as_stacks" : Str) ("as_stacks" : Str) (topS 17) f fd) (D_is_sequence : Dk P w K mg base 1 ("is_sequence" : Str) (spM G K .sh 1 (ar1 m_is_sequence))) (D_is_name : Dk P w K mg base 1 ("is_name" : Str) (spM G K .sh 1 (ar1 m_is_name))) (D_are_unlike : Dk P w K mg base 1 ("are_unlike" : Str) (spM G K .sh 1 (ar1 m_are_unlike))) : FnOk P w K mg base (L2.CX P w) 2 f fd [("height" : Str), ("value" : Str)] (spM G K .sh 2 (ar2 m_as_stacks)) := by
  have S : FnScope [("height" : Str), ("value" : Str), ("stacks" : Str), ("names" : Str), ("stack" : Str), ("name" : Str)] [("height" : Str), ("value" : Str)] (defScope (topS 17)) := C8.fnScope_by (by decide +kernel)
  refine d_of (κ := κ_as_stacks) (m := b_as_stacks) (k := 1) Fn S (fun i hi => by revert i; decide) (fun qs hl => match qs, hl with | [_, _], _ => rfl) fun cdv A outer s H E hr => ?_
  exact (ss_cons (s_if (t_w (tw_or (t_not (t_val (v_call D_is_sequence (hr.mono (by decide)) (takes_of rfl rfl rfl rfl) (a_cons (v_var 1) a_nil) ar1_len))) (tw_or (t_cmp (op_eqD hr.units) g_eq (v_up (v_callB call_lenV g_len Z.n_len (by kernel_rfl) (a_cons (v_up (v_var 1)) a_nil))) (v_up v_int)) (tw_or1 (t_not (t_val (v_callB (cr_all rfl) g_all Z.n_all (by kernel_rfl) (a_cons (v_up (v_lc (own := [(("stack" : Str), 4)]) rfl S.nd (i_loose (i_seq (v_var 1))) (blkOk_by (by kernel_rfl)) (fun _ _ _ _ _ => (gv_name 4 (hN := S.nd))) (fun _ _ _ _ _ => ts_nil) (fun _ _ _ _ _ => (v_call D_is_sequence (hr.mono (by decide)) (takes0) (a_cons (v_var 4) a_nil) ar1_len)) (by decide) gok_name)) a_nil)))))))) (ss_one (s_ret v_non)) ss_nil)
    (ss_cons (s_set 2 (v_callTy Lk.call_tupK g_tuple Z.n_tuple (by kernel_rfl) (a_cons (v_up (v_lc (own := [(("stack" : Str), 4)]) rfl S.nd (i_loose (i_seq (v_var 1))) (blkOk_by (by kernel_rfl)) (fun _ _ _ _ _ => (gv_name 4 (hN := S.nd))) (fun _ _ _ _ _ => ts_nil) (fun _ _ _ _ _ => (v_callTy Lk.call_tupK g_tuple Z.n_tuple (by kernel_rfl) (a_cons (v_up (v_var 4)) a_nil))) (by decide) gok_name)) a_nil)) S.nd)
    (ss_cons (s_setLc2 3 false (own := [(("stack" : Str), 4), (("name" : Str), 5)]) (own1 := [5]) rfl S.nd (i_loose (i_seq (v_var 2))) (blkOk_by (by kernel_rfl)) (by decide) (fun _ _ _ _ _ => (gv_name 4 (hN := S.nd))) (fun _ _ _ _ _ => ts_nil) (fun _ _ _ _ _ => (i_seq (v_var 4))) (fun _ _ _ _ _ => (gv_name 5 (hN := S.nd))) (fun _ _ _ _ _ => ts_nil) (fun _ _ _ _ _ => (v_var 5)) (by decide) gok_name (by decide) gok_name)
    (ss_cons (s_if (t_w (tw_or (t_not (t_val (v_callB (cr_all rfl) g_all Z.n_all (by kernel_rfl) (a_cons (v_up (v_lc (own := [(("name" : Str), 5)]) rfl S.nd (i_loose (i_seq (v_var 3))) (blkOk_by (by kernel_rfl)) (fun _ _ _ _ _ => (gv_name 5 (hN := S.nd))) (fun _ _ _ _ _ => ts_nil) (fun _ _ _ _ _ => (v_call D_is_name (hr.mono (by decide)) (takes0) (a_cons (v_var 5) a_nil) ar1_len)) (by decide) gok_name)) a_nil)))) (tw_or1 (t_not (t_val (v_call D_are_unlike (hr.mono (by decide)) (takes_of rfl rfl rfl rfl) (a_cons (v_var 3) a_nil) ar1_len)))))) (ss_one (s_ret v_non)) ss_nil)
    (ss_one (s_ret (v_if (t_val (v_callB (cr_all rfl) g_all Z.n_all (by kernel_rfl) (a_cons (v_up (v_lc (own := [(("stack" : Str), 4)]) rfl S.nd (i_loose (i_seq (v_var 2))) (blkOk_by (by kernel_rfl)) (fun _ _ _ _ _ => (gv_name 4 (hN := S.nd))) (fun _ _ _ _ _ => ts_nil) (fun _ _ _ _ _ => (v_cmp op_le (g_B (g := fun i j => decide (i ≤ j))) (v_up (v_callB call_lenV g_len Z.n_len (by kernel_rfl) (a_cons (v_up (v_var 4)) a_nil))) (v_up (v_var 0)))) (by decide) gok_name)) a_nil))) (v_var 2) v_non)))))))
theorem d_is_integer (Z : Zs G K mg P w) {f : Addr} {fd : FuncData} (Fn : Fun K ("is_integer" : Str) ("is_integer" : Str) (topS 4) f fd)  : FnOk P w K mg base (L2.CX P w) 1 f fd [("value" : Str)] (spM G K .sh 1 (ar1 m_is_integer)) := by
  have S : FnScope [("value" : Str)] [("value" : Str)] (defScope (topS 4)) := C8.fnScope_by (by decide +kernel)
  refine d_of (κ := κ_is_integer) (m := b_is_integer) (k := 0) Fn S (fun i hi => by revert i; decide) (fun qs hl => match qs, hl with | [_], _ => rfl) fun cdv A outer s H E hr => ?_
  exact (ss_one (s_ret (v_and (v_callB call_isi g_isi Z.n_isinstance (by kernel_rfl) (a_cons (v_up (v_var 0)) (a_cons (v_up (v_gty Z.n_int (by kernel_rfl))) a_nil))) (v_one (v_not (v_callB call_isi g_isi Z.n_isinstance (by kernel_rfl) (a_cons (v_up (v_var 0)) (a_cons (v_up (v_gty Z.n_bool (by kernel_rfl))) a_nil))))))))
theorem d_is_number (Z : Zs G K mg P w) {f : Addr} {fd : FuncData} (Fn : Fun K ("is_number" : Str) ("is_number" : Str) (topS 5) f fd) (D_is_integer : Dk P w K mg base 1 ("is_integer" : Str) (spM G K .sh 1 (ar1 m_is_integer))) : FnOk P w K mg base (L2.CX P w) 2 f fd [("value" : Str)] (spM G K .sh 1 (ar1 m_is_number)) := by
  have S : FnScope [("value" : Str)] [("value" : Str)] (defScope (topS 5)) := C8.fnScope_by (by decide +kernel)
  refine d_of (κ := κ_is_number) (m := b_is_number) (k := 1) Fn S (fun i hi => by revert i; decide) (fun qs hl => match qs, hl with | [_], _ => rfl) fun cdv A outer s H E hr => ?_
  exact (ss_one (s_ret (v_and (v_call D_is_integer (hr.mono (by decide)) (takes_of rfl rfl rfl rfl) (a_cons (v_var 0) a_nil) ar1_len) (v_one (v_cmp op_ge (g_B (g := fun i j => decide (j ≤ i))) (v_up (v_var 0)) (v_up v_int))))))
theorem d_Yard (Z : Zs G K mg P w) {f : Addr} {fd : FuncData} (Fn : Fun K "__init__" ("Yard.__init__" : Str) (inClass (topS 18) 0) f fd) (D_is_number : Dk P w K mg base 2 ("is_number" : Str) (spM G K .sh 1 (ar1 m_is_number))) (X_InvalidNumber : ExcC P w K mg base 1 ("InvalidNumber" : Str) (G 3) (spX1 (G 3) ("value" : Str))) (D_as_stacks : Dk P w K mg base 2 ("as_stacks" : Str) (spM G K .sh 2 (ar2 m_as_stacks))) (X_InvalidYard : ExcC P w K mg base 1 ("InvalidYard" : Str) (G 1) (spX1 (G 1) ("value" : Str))) : FnOk P w K mg base (L2.CX P w) 3 f fd [("self" : Str), ("height" : Str), ("stacks" : Str)] (spI G K 4 2 (ar2 m_Yard)) := by
  have S : FnScope [("self" : Str), ("height" : Str), ("stacks" : Str), ("told" : Str)] [("self" : Str), ("height" : Str), ("stacks" : Str)] (defScope (inClass (topS 18) 0)) := C8.fnScope_by (by decide +kernel)
  refine d_init (κ := κ_Yard) (m := b_Yard) (k := 2) (n := 2) Fn S rfl rfl (fun i hi => by revert i; decide) (fun qs hl => match qs, hl with | [_, _], _ => rfl) fun cdv A outer s H E hr => ?_
  exact (ss_cons (s_if (t_w (tw_or (t_not (t_val (v_call D_is_number (hr.mono (by decide)) (takes_of rfl rfl rfl rfl) (a_cons (v_var 1) a_nil) ar1_len))) (tw_or1 (t_cmp (op_eqD hr.units) g_eq (v_up (v_var 1)) (v_up v_int))))) (ss_one (s_raise rfl (takes_of rfl rfl rfl rfl) X_InvalidNumber (hr.mono (by decide)) (v_var 1))) ss_nil)
    (ss_cons (s_set 3 (v_call D_as_stacks (hr.mono (by decide)) (takes_of rfl rfl rfl rfl) (a_cons (v_var 1) (a_cons (v_var 2) a_nil)) ar2_len) S.nd)
    (ss_cons (s_if (t_cmp op_isN g_isN (v_up (v_var 3)) (v_up v_non)) (ss_one (s_raise rfl (takes_of rfl rfl rfl rfl) X_InvalidYard (hr.mono (by decide)) (v_var 2))) ss_nil)
    (ss_cons (s_fld 0 4 Z.at_4_height.1 Z.at_4_height.2 (v_var 1))
    (ss_one (s_fld 0 4 Z.at_4_stacks.1 Z.at_4_stacks.2 (v_var 3)))))))
theorem d__law_made (Z : Zs G K mg P w) {f : Addr} {fd : FuncData} (Fn : Fun K ("_law_made" : Str) ("_law_made" : Str) (topS 56) f fd) (M_Day : Mkr P w K mg base 4 ("Day" : Str) (G 5) (spI G K 5 2 (ar2 m_Day))) (M_Yard : Mkr P w K mg base 3 ("Yard" : Str) (G 4) (spI G K 4 2 (ar2 m_Yard))) (MK_Day_events_yard : MkrK P w K mg base 4 ("Day" : Str) (G 5) (spI G K 5 2 (ar2 m_Day)) [("events" : Str), ("yard" : Str)] [1, 0]) (MK_Yard_stacks_height : MkrK P w K mg base 3 ("Yard" : Str) (G 4) (spI G K 4 2 (ar2 m_Yard)) [("stacks" : Str), ("height" : Str)] [1, 0]) : FnOk P w K mg base (L2.CX P w) 6 f fd [("_law_task_here" : Str), ("_law_draw" : Str)] (spM G K .sh 2 (ar2 m__law_made)) := by
  have S : FnScope [("_law_task_here" : Str), ("_law_draw" : Str), ("_law_pile" : Str)] [("_law_task_here" : Str), ("_law_draw" : Str)] (defScope (topS 56)) := C8.fnScope_by (by decide +kernel)
  refine d_of (κ := κ__law_made) (m := b__law_made) (k := 5) Fn S (fun i hi => by revert i; decide) (fun qs hl => match qs, hl with | [_, _], _ => rfl) fun cdv A outer s H E hr => ?_
  exact (ss_cons (s_if (t_cmp (op_eqD hr.units) g_eq (v_up (v_op op_mod (g_I (C := fun _ j => 0 < j) (g := fun i j => i % j)) (v_up (v_callTy call_int1 g_int Z.n_int (by kernel_rfl) (a_cons (v_up (v_var 1)) a_nil))) (v_up v_int))) (v_up v_int)) (ss_one (s_ret (v_freeze (v_make M_Day (hr.mono (by decide)) (takes_of rfl rfl rfl rfl) (a_cons (v_freeze (v_make M_Yard (hr.mono (by decide)) (takes_of rfl rfl rfl rfl) (a_cons (v_ix (v_up (v_var 0)) (v_up v_int)) (a_cons (v_freeze (v_lc (own := [(("_law_pile" : Str), 2)]) rfl S.nd (i_loose (i_seq (v_ix (v_up (v_var 0)) (v_up v_int)))) (blkOk_by (by kernel_rfl)) (fun _ _ _ _ _ => (gv_name 2 (hN := S.nd))) (fun _ _ _ _ _ => ts_nil) (fun _ _ _ _ _ => (v_freeze (v_callTy call_list_of g_list Z.n_list (by kernel_rfl) (a_cons (v_up (v_var 2)) a_nil)))) (by decide) gok_name)) a_nil)) ar2_len)) (a_cons (v_freeze (v_callTy call_list_of g_list Z.n_list (by kernel_rfl) (a_cons (v_up (v_ix (v_up (v_var 0)) (v_up v_int))) a_nil))) a_nil)) ar2_len)))) ss_nil)
    (ss_cons (s_if (t_cmp (op_eqD hr.units) g_eq (v_up (v_op op_mod (g_I (C := fun _ j => 0 < j) (g := fun i j => i % j)) (v_up (v_callTy call_int1 g_int Z.n_int (by kernel_rfl) (a_cons (v_up (v_var 1)) a_nil))) (v_up v_int))) (v_up v_int)) (ss_one (s_ret (v_freeze (v_makeK MK_Day_events_yard (hr.mono (by decide)) (takes_of rfl rfl rfl rfl) (k_cons (v_ix (v_up (v_var 0)) (v_up v_int)) (k_cons (v_freeze (v_makeK MK_Yard_stacks_height (hr.mono (by decide)) (takes_of rfl rfl rfl rfl) (k_cons (v_ix (v_up (v_var 0)) (v_up v_int)) (k_cons (v_ix (v_up (v_var 0)) (v_up v_int)) k_nil)) ar2_len)) k_nil)) ar2_len)))) ss_nil)
    (ss_one (s_ret (v_freeze (v_make M_Day (hr.mono (by decide)) (takes_of rfl rfl rfl rfl) (a_cons (v_freeze (v_make M_Yard (hr.mono (by decide)) (takes_of rfl rfl rfl rfl) (a_cons (v_ix (v_up (v_var 0)) (v_up v_int)) (a_cons (v_ix (v_up (v_var 0)) (v_up v_int)) a_nil)) ar2_len)) (a_cons (v_ix (v_up (v_var 0)) (v_up v_int)) a_nil)) ar2_len))))))
theorem d__law_is_integer (Z : Zs G K mg P w) {f : Addr} {fd : FuncData} (Fn : Fun K ("_law_is_integer" : Str) ("_law_is_integer" : Str) (topS 52) f fd)  : FnOk P w K mg base (L2.CX P w) 1 f fd [("_law_value" : Str)] (spM G K .sh 1 (ar1 m__law_is_integer)) := by
  have S : FnScope [("_law_value" : Str)] [("_law_value" : Str)] (defScope (topS 52)) := C8.fnScope_by (by decide +kernel)
  refine d_of (κ := κ__law_is_integer) (m := b__law_is_integer) (k := 0) Fn S (fun i hi => by revert i; decide) (fun qs hl => match qs, hl with | [_], _ => rfl) fun cdv A outer s H E hr => ?_
  exact (ss_one (s_ret (v_and (v_callB call_isi g_isi Z.n_isinstance (by kernel_rfl) (a_cons (v_up (v_var 0)) (a_cons (v_up (v_gty Z.n_int (by kernel_rfl))) a_nil))) (v_one (v_not (v_callB call_isi g_isi Z.n_isinstance (by kernel_rfl) (a_cons (v_up (v_var 0)) (a_cons (v_up (v_gty Z.n_bool (by kernel_rfl))) a_nil))))))))
theorem d__law_same_state (Z : Zs G K mg P w) {f : Addr} {fd : FuncData} (Fn : Fun K ("_law_same_state" : Str) ("_law_same_state" : Str) (topS 57) f fd) (D__law_is_integer : Dk P w K mg base 1 ("_law_is_integer" : Str) (spM G K .sh 1 (ar1 m__law_is_integer))) : FnOk P w K mg base (L2.CX P w) 2 f fd [("_law_told" : Str), ("_law_due" : Str)] (spM G K .sh 2 (ar2 m__law_same_state)) := by
  have S : FnScope [("_law_told" : Str), ("_law_due" : Str), ("_law_pile" : Str), ("_law_name" : Str)] [("_law_told" : Str), ("_law_due" : Str)] (defScope (topS 57)) := C8.fnScope_by (by decide +kernel)
  refine d_of (κ := κ__law_same_state) (m := b__law_same_state) (k := 1) Fn S (fun i hi => by revert i; decide) (fun qs hl => match qs, hl with | [_, _], _ => rfl) fun cdv A outer s H E hr => ?_
  exact (ss_cons (s_if (t_w (tw_or (t_not (t_val (v_callB call_isi g_isi Z.n_isinstance (by kernel_rfl) (a_cons (v_up (v_var 0)) (a_cons (v_up (v_gty Z.n_tuple (by kernel_rfl))) a_nil))))) (tw_or (t_cmp (op_neD hr.units) g_ne (v_up (v_callB call_lenV g_len Z.n_len (by kernel_rfl) (a_cons (v_up (v_var 0)) a_nil))) (v_up v_int)) (tw_or (t_not (t_val (v_call D__law_is_integer (hr.mono (by decide)) (takes_of rfl rfl rfl rfl) (a_cons (v_ix (v_up (v_var 0)) (v_up v_int)) a_nil) ar1_len))) (tw_or1 (t_not (t_val (v_callB call_isi g_isi Z.n_isinstance (by kernel_rfl) (a_cons (v_up (v_ix (v_up (v_var 0)) (v_up v_int))) (a_cons (v_up (v_gty Z.n_tuple (by kernel_rfl))) a_nil)))))))))) (ss_one (s_ret v_bl)) ss_nil)
    (ss_cons (s_for (passes_of rfl) rfl (i_seq (v_ix (v_up (v_var 0)) (v_up v_int))) (gv_name 2 (hN := S.nd)) gok_name (ss_cons (s_if (t_not (t_val (v_callB call_isi g_isi Z.n_isinstance (by kernel_rfl) (a_cons (v_up (v_var 2)) (a_cons (v_up (v_gty Z.n_tuple (by kernel_rfl))) a_nil))))) (ss_one (s_ret v_bl)) ss_nil)
    (ss_one (s_for (passes_of rfl) rfl (i_seq (v_var 2)) (gv_name 3 (hN := S.nd)) gok_name (ss_one (s_if (t_not (t_val (v_callB call_isi g_isi Z.n_isinstance (by kernel_rfl) (a_cons (v_up (v_var 3)) (a_cons (v_up (v_gty Z.n_str (by kernel_rfl))) a_nil))))) (ss_one (s_ret v_bl)) ss_nil))))))
    (ss_one (s_ret (v_cmp (op_eqD hr.units) g_eq (v_up (v_var 0)) (v_up (v_var 1)))))))
theorem d__law_same_states (Z : Zs G K mg P w) {f : Addr} {fd : FuncData} (Fn : Fun K ("_law_same_states" : Str) ("_law_same_states" : Str) (topS 58) f fd) (D__law_same_state : Dk P w K mg base 2 ("_law_same_state" : Str) (spM G K .sh 2 (ar2 m__law_same_state))) : FnOk P w K mg base (L2.CX P w) 3 f fd [("_law_told" : Str), ("_law_due" : Str)] (spM G K .sh 2 (ar2 m__law_same_states)) := by
  have S : FnScope [("_law_told" : Str), ("_law_due" : Str), ("_law_k" : Str)] [("_law_told" : Str), ("_law_due" : Str)] (defScope (topS 58)) := C8.fnScope_by (by decide +kernel)
  refine d_of (κ := κ__law_same_states) (m := b__law_same_states) (k := 2) Fn S (fun i hi => by revert i; decide) (fun qs hl => match qs, hl with | [_, _], _ => rfl) fun cdv A outer s H E hr => ?_
  exact (ss_cons (s_if (t_w (tw_or (t_not (t_val (v_callB call_isi g_isi Z.n_isinstance (by kernel_rfl) (a_cons (v_up (v_var 0)) (a_cons (v_up (v_gty Z.n_tuple (by kernel_rfl))) a_nil))))) (tw_or1 (t_cmp (op_neD hr.units) g_ne (v_up (v_callB call_lenV g_len Z.n_len (by kernel_rfl) (a_cons (v_up (v_var 0)) a_nil))) (v_up (v_callB call_lenV g_len Z.n_len (by kernel_rfl) (a_cons (v_up (v_var 1)) a_nil))))))) (ss_one (s_ret v_bl)) ss_nil)
    (ss_cons (s_for (passes_of rfl) rfl (i_range1 Z.n_range (a_cons (v_callB call_lenV g_len Z.n_len (by kernel_rfl) (a_cons (v_up (v_var 1)) a_nil)) a_nil)) (gv_name 2 (hN := S.nd)) gok_name (ss_one (s_if (t_not (t_val (v_call D__law_same_state (hr.mono (by decide)) (takes_of rfl rfl rfl rfl) (a_cons (v_ix (v_up (v_var 0)) (v_up (v_var 2))) (a_cons (v_ix (v_up (v_var 1)) (v_up (v_var 2))) a_nil)) ar2_len))) (ss_one (s_ret v_bl)) ss_nil)))
    (ss_one (s_ret v_bl))))
theorem d_first_state (Z : Zs G K mg P w) {f : Addr} {fd : FuncData} (Fn : Fun K ("first_state" : Str) ("first_state" : Str) (topS 29) f fd)  : FnOk P w K mg base (L2.CX P w) 1 f fd [("day" : Str)] (spM G K .sh 1 (ar1 m_first_state)) := by
  have S : FnScope [("day" : Str)] [("day" : Str)] (defScope (topS 29)) := C8.fnScope_by (by decide +kernel)
  refine d_of (κ := κ_first_state) (m := b_first_state) (k := 0) Fn S (fun i hi => by revert i; decide) (fun qs hl => match qs, hl with | [_], _ => rfl) fun cdv A outer s H E hr => ?_
  exact (ss_one (s_ret (v_tup (a_cons v_int (a_cons (v_att (fun c => c == 4) (fun c h => by obtain rfl := eq_of_beq h; exact Z.at_4_stacks) (v_up (v_att (fun c => c == 5) (fun c h => by obtain rfl := eq_of_beq h; exact Z.at_5_yard) (v_up (v_var 0))))) a_nil)))))
theorem d_with_box (Z : Zs G K mg P w) {f : Addr} {fd : FuncData} (Fn : Fun K ("with_box" : Str) ("with_box" : Str) (topS 32) f fd)  : FnOk P w K mg base (L2.CX P w) 1 f fd [("stacks" : Str), ("j" : Str), ("name" : Str)] (spM G K .sh 3 (ar3 m_with_box)) := by
  have S : FnScope [("stacks" : Str), ("j" : Str), ("name" : Str)] [("stacks" : Str), ("j" : Str), ("name" : Str)] (defScope (topS 32)) := C8.fnScope_by (by decide +kernel)
  refine d_of (κ := κ_with_box) (m := b_with_box) (k := 0) Fn S (fun i hi => by revert i; decide) (fun qs hl => match qs, hl with | [_, _, _], _ => rfl) fun cdv A outer s H E hr => ?_
  exact (ss_one (s_ret (v_op op_addA g_addA (v_up (v_op op_addA g_addA (v_up (v_slice sl_A g_slA (v_up (v_var 0)) o_none (o_some (v_var 1)))) (v_up (v_tup (a_cons (v_op op_addA g_addA (v_up (v_ix (v_up (v_var 0)) (v_up (v_var 1)))) (v_up (v_tup (a_cons (v_var 2) a_nil)))) a_nil))))) (v_up (v_slice sl_A g_slA (v_up (v_var 0)) (o_some (v_op op_addA g_addA (v_up (v_var 1)) (v_up v_int))) o_none)))))
theorem d_has_room (Z : Zs G K mg P w) {f : Addr} {fd : FuncData} (Fn : Fun K ("has_room" : Str) ("has_room" : Str) (topS 31) f fd)  : FnOk P w K mg base (L2.CX P w) 1 f fd [("day" : Str), ("stacks" : Str), ("j" : Str)] (spM G K .sh 3 (ar3 m_has_room)) := by
  have S : FnScope [("day" : Str), ("stacks" : Str), ("j" : Str)] [("day" : Str), ("stacks" : Str), ("j" : Str)] (defScope (topS 31)) := C8.fnScope_by (by decide +kernel)
  refine d_of (κ := κ_has_room) (m := b_has_room) (k := 0) Fn S (fun i hi => by revert i; decide) (fun qs hl => match qs, hl with | [_, _, _], _ => rfl) fun cdv A outer s H E hr => ?_
  exact (ss_one (s_ret (v_cmp op_lt (g_B (g := fun i j => decide (i < j))) (v_up (v_callB call_lenV g_len Z.n_len (by kernel_rfl) (a_cons (v_up (v_ix (v_up (v_var 1)) (v_up (v_var 2)))) a_nil))) (v_up (v_att (fun c => c == 4) (fun c h => by obtain rfl := eq_of_beq h; exact Z.at_4_height) (v_up (v_att (fun c => c == 5) (fun c h => by obtain rfl := eq_of_beq h; exact Z.at_5_yard) (v_up (v_var 0)))))))))
theorem d_without_top (Z : Zs G K mg P w) {f : Addr} {fd : FuncData} (Fn : Fun K ("without_top" : Str) ("without_top" : Str) (topS 33) f fd)  : FnOk P w K mg base (L2.CX P w) 1 f fd [("stacks" : Str), ("i" : Str)] (spM G K .sh 2 (ar2 m_without_top)) := by
  have S : FnScope [("stacks" : Str), ("i" : Str)] [("stacks" : Str), ("i" : Str)] (defScope (topS 33)) := C8.fnScope_by (by decide +kernel)
  refine d_of (κ := κ_without_top) (m := b_without_top) (k := 0) Fn S (fun i hi => by revert i; decide) (fun qs hl => match qs, hl with | [_, _], _ => rfl) fun cdv A outer s H E hr => ?_
  exact (ss_one (s_ret (v_op op_addA g_addA (v_up (v_op op_addA g_addA (v_up (v_slice sl_A g_slA (v_up (v_var 0)) o_none (o_some (v_var 1)))) (v_up (v_tup (a_cons (v_slice sl_A g_slA (v_up (v_ix (v_up (v_var 0)) (v_up (v_var 1)))) o_none (o_some (v_un un_neg g_neg (v_up v_int)))) a_nil))))) (v_up (v_slice sl_A g_slA (v_up (v_var 0)) (o_some (v_op op_addA g_addA (v_up (v_var 1)) (v_up v_int))) o_none)))))
theorem d_shifted (Z : Zs G K mg P w) {f : Addr} {fd : FuncData} (Fn : Fun K ("shifted" : Str) ("shifted" : Str) (topS 35) f fd) (D_has_room : Dk P w K mg base 1 ("has_room" : Str) (spM G K .sh 3 (ar3 m_has_room))) (D_with_box : Dk P w K mg base 1 ("with_box" : Str) (spM G K .sh 3 (ar3 m_with_box))) (D_without_top : Dk P w K mg base 1 ("without_top" : Str) (spM G K .sh 2 (ar2 m_without_top))) : FnOk P w K mg base (L2.CX P w) 2 f fd [("day" : Str), ("state" : Str), ("i" : Str), ("j" : Str)] (spM G K .sh 4 (ar4 m_shifted)) := by
  have S : FnScope [("day" : Str), ("state" : Str), ("i" : Str), ("j" : Str), ("e" : Str), ("stacks" : Str)] [("day" : Str), ("state" : Str), ("i" : Str), ("j" : Str)] (defScope (topS 35)) := C8.fnScope_by (by decide +kernel)
  refine d_of (κ := κ_shifted) (m := b_shifted) (k := 1) Fn S (fun i hi => by revert i; decide) (fun qs hl => match qs, hl with | [_, _, _, _], _ => rfl) fun cdv A outer s H E hr => ?_
  exact (ss_cons (s_asg (v_var 1) (gv_tup rfl (gvs_cons (gv_name 4 (hN := S.nd)) (gvs_cons (gv_name 5 (hN := S.nd)) gvs_nil (fun _ _ => rfl)) (fun _ _ => rfl))) (gok_tup (goks_cons gok_name (goks_cons gok_name goks_nil))))
    (ss_cons (s_if (t_w (tw_or (t_cmp (op_eqD hr.units) g_eq (v_up (v_var 2)) (v_up (v_var 3))) (tw_or (t_cmp (op_eqD hr.units) g_eq (v_up (v_callB call_lenV g_len Z.n_len (by kernel_rfl) (a_cons (v_up (v_ix (v_up (v_var 5)) (v_up (v_var 2)))) a_nil))) (v_up v_int)) (tw_or1 (t_not (t_val (v_call D_has_room (hr.mono (by decide)) (takes_of rfl rfl rfl rfl) (a_cons (v_var 0) (a_cons (v_var 5) (a_cons (v_var 3) a_nil))) ar3_len))))))) (ss_one (s_ret v_non)) ss_nil)
    (ss_one (s_ret (v_tup (a_cons (v_var 4) (a_cons (v_call D_with_box (hr.mono (by decide)) (takes_of rfl rfl rfl rfl) (a_cons (v_call D_without_top (hr.mono (by decide)) (takes_of rfl rfl rfl rfl) (a_cons (v_var 5) (a_cons (v_var 2) a_nil)) ar2_len) (a_cons (v_var 3) (a_cons (v_ix (v_up (v_ix (v_up (v_var 5)) (v_up (v_var 2)))) (v_up (v_un un_neg g_neg (v_up v_int)))) a_nil))) ar3_len) a_nil)))))))
theorem d_come (Z : Zs G K mg P w) {f : Addr} {fd : FuncData} (Fn : Fun K ("come" : Str) ("come" : Str) (topS 36) f fd) (D_has_room : Dk P w K mg base 1 ("has_room" : Str) (spM G K .sh 3 (ar3 m_has_room))) (D_with_box : Dk P w K mg base 1 ("with_box" : Str) (spM G K .sh 3 (ar3 m_with_box))) : FnOk P w K mg base (L2.CX P w) 2 f fd [("day" : Str), ("state" : Str), ("j" : Str)] (spM G K .sh 3 (ar3 m_come)) := by
  have S : FnScope [("day" : Str), ("state" : Str), ("j" : Str), ("e" : Str), ("stacks" : Str)] [("day" : Str), ("state" : Str), ("j" : Str)] (defScope (topS 36)) := C8.fnScope_by (by decide +kernel)
  refine d_of (κ := κ_come) (m := b_come) (k := 1) Fn S (fun i hi => by revert i; decide) (fun qs hl => match qs, hl with | [_, _, _], _ => rfl) fun cdv A outer s H E hr => ?_
  exact (ss_cons (s_asg (v_var 1) (gv_tup rfl (gvs_cons (gv_name 3 (hN := S.nd)) (gvs_cons (gv_name 4 (hN := S.nd)) gvs_nil (fun _ _ => rfl)) (fun _ _ => rfl))) (gok_tup (goks_cons gok_name (goks_cons gok_name goks_nil))))
    (ss_cons (s_if (t_w (tw_or (t_cmp (op_eqD hr.units) g_eq (v_up (v_var 3)) (v_up (v_callB call_lenV g_len Z.n_len (by kernel_rfl) (a_cons (v_up (v_att (fun c => c == 5) (fun c h => by obtain rfl := eq_of_beq h; exact Z.at_5_events) (v_up (v_var 0)))) a_nil)))) (tw_or (t_cmp (op_neD hr.units) g_ne (v_up (v_ix (v_up (v_ix (v_up (v_att (fun c => c == 5) (fun c h => by obtain rfl := eq_of_beq h; exact Z.at_5_events) (v_up (v_var 0)))) (v_up (v_var 3)))) (v_up v_int))) (v_up (v_gstrE Z.g_IN))) (tw_or1 (t_not (t_val (v_call D_has_room (hr.mono (by decide)) (takes_of rfl rfl rfl rfl) (a_cons (v_var 0) (a_cons (v_var 4) (a_cons (v_var 2) a_nil))) ar3_len))))))) (ss_one (s_ret v_non)) ss_nil)
    (ss_one (s_ret (v_tup (a_cons (v_op op_addA g_addA (v_up (v_var 3)) (v_up v_int)) (a_cons (v_call D_with_box (hr.mono (by decide)) (takes_of rfl rfl rfl rfl) (a_cons (v_var 4) (a_cons (v_var 2) (a_cons (v_ix (v_up (v_ix (v_up (v_att (fun c => c == 5) (fun c h => by obtain rfl := eq_of_beq h; exact Z.at_5_events) (v_up (v_var 0)))) (v_up (v_var 3)))) (v_up v_int)) a_nil))) ar3_len) a_nil)))))))
theorem d_stack_with (Z : Zs G K mg P w) {f : Addr} {fd : FuncData} (Fn : Fun K ("stack_with" : Str) ("stack_with" : Str) (topS 34) f fd)  : FnOk P w K mg base (L2.CX P w) 1 f fd [("stacks" : Str), ("name" : Str)] (spM G K .sh 2 (ar2 m_stack_with)) := by
  have S : FnScope [("stacks" : Str), ("name" : Str), ("i" : Str), ("stack" : Str)] [("stacks" : Str), ("name" : Str)] (defScope (topS 34)) := C8.fnScope_by (by decide +kernel)
  refine d_of (κ := κ_stack_with) (m := b_stack_with) (k := 0) Fn S (fun i hi => by revert i; decide) (fun qs hl => match qs, hl with | [_, _], _ => rfl) fun cdv A outer s H E hr => ?_
  exact (ss_one (s_ret (v_ix (v_up (v_lc (own := [(("i" : Str), 2), (("stack" : Str), 3)]) rfl S.nd (i_loose (i_enum Z.n_enumerate (a_cons (v_var 0) a_nil))) (blkOk_by (by kernel_rfl)) (fun _ _ _ _ _ => (gv_tup rfl (gvs_cons (gv_name 2 (hN := S.nd)) (gvs_cons (gv_name 3 (hN := S.nd)) gvs_nil (fun _ _ => rfl)) (fun _ _ => rfl)))) (fun _ _ _ _ _ => (ts_one (t_cmp (op_inA (hu65 hr)) (g_inA (n := false)) (v_up (v_var 1)) (v_up (v_var 3))))) (fun _ _ _ _ _ => (v_var 2)) (by decide) (gok_tup (goks_cons gok_name (goks_cons gok_name goks_nil))))) (v_up v_int))))
theorem d_gone (Z : Zs G K mg P w) {f : Addr} {fd : FuncData} (Fn : Fun K ("gone" : Str) ("gone" : Str) (topS 37) f fd) (D_stack_with : Dk P w K mg base 1 ("stack_with" : Str) (spM G K .sh 2 (ar2 m_stack_with))) (D_without_top : Dk P w K mg base 1 ("without_top" : Str) (spM G K .sh 2 (ar2 m_without_top))) : FnOk P w K mg base (L2.CX P w) 2 f fd [("day" : Str), ("state" : Str)] (spM G K .sh 2 (ar2 m_gone)) := by
  have S : FnScope [("day" : Str), ("state" : Str), ("i" : Str), ("e" : Str), ("stacks" : Str)] [("day" : Str), ("state" : Str)] (defScope (topS 37)) := C8.fnScope_by (by decide +kernel)
  refine d_of (κ := κ_gone) (m := b_gone) (k := 1) Fn S (fun i hi => by revert i; decide) (fun qs hl => match qs, hl with | [_, _], _ => rfl) fun cdv A outer s H E hr => ?_
  exact (ss_cons (s_asg (v_var 1) (gv_tup rfl (gvs_cons (gv_name 3 (hN := S.nd)) (gvs_cons (gv_name 4 (hN := S.nd)) gvs_nil (fun _ _ => rfl)) (fun _ _ => rfl))) (gok_tup (goks_cons gok_name (goks_cons gok_name goks_nil))))
    (ss_cons (s_if (t_w (tw_or (t_cmp (op_eqD hr.units) g_eq (v_up (v_var 3)) (v_up (v_callB call_lenV g_len Z.n_len (by kernel_rfl) (a_cons (v_up (v_att (fun c => c == 5) (fun c h => by obtain rfl := eq_of_beq h; exact Z.at_5_events) (v_up (v_var 0)))) a_nil)))) (tw_or1 (t_cmp (op_neD hr.units) g_ne (v_up (v_ix (v_up (v_ix (v_up (v_att (fun c => c == 5) (fun c h => by obtain rfl := eq_of_beq h; exact Z.at_5_events) (v_up (v_var 0)))) (v_up (v_var 3)))) (v_up v_int))) (v_up (v_gstrE Z.g_OUT)))))) (ss_one (s_ret v_non)) ss_nil)
    (ss_cons (s_set 2 (v_call D_stack_with (hr.mono (by decide)) (takes_of rfl rfl rfl rfl) (a_cons (v_var 4) (a_cons (v_ix (v_up (v_ix (v_up (v_att (fun c => c == 5) (fun c h => by obtain rfl := eq_of_beq h; exact Z.at_5_events) (v_up (v_var 0)))) (v_up (v_var 3)))) (v_up v_int)) a_nil)) ar2_len) S.nd)
    (ss_one (s_ret (v_if (t_cmp (op_eqD hr.units) g_eq (v_up (v_ix (v_up (v_ix (v_up (v_var 4)) (v_up (v_var 2)))) (v_up (v_un un_neg g_neg (v_up v_int))))) (v_up (v_ix (v_up (v_ix (v_up (v_att (fun c => c == 5) (fun c h => by obtain rfl := eq_of_beq h; exact Z.at_5_events) (v_up (v_var 0)))) (v_up (v_var 3)))) (v_up v_int)))) (v_tup (a_cons (v_op op_addA g_addA (v_up (v_var 3)) (v_up v_int)) (a_cons (v_call D_without_top (hr.mono (by decide)) (takes_of rfl rfl rfl rfl) (a_cons (v_var 4) (a_cons (v_var 2) a_nil)) ar2_len) a_nil))) v_non))))))
theorem d_is_stack (Z : Zs G K mg P w) {f : Addr} {fd : FuncData} (Fn : Fun K ("is_stack" : Str) ("is_stack" : Str) (topS 30) f fd) (D_is_number : Dk P w K mg base 2 ("is_number" : Str) (spM G K .sh 1 (ar1 m_is_number))) : FnOk P w K mg base (L2.CX P w) 3 f fd [("stacks" : Str), ("value" : Str)] (spM G K .sh 2 (ar2 m_is_stack)) := by
  have S : FnScope [("stacks" : Str), ("value" : Str)] [("stacks" : Str), ("value" : Str)] (defScope (topS 30)) := C8.fnScope_by (by decide +kernel)
  refine d_of (κ := κ_is_stack) (m := b_is_stack) (k := 2) Fn S (fun i hi => by revert i; decide) (fun qs hl => match qs, hl with | [_, _], _ => rfl) fun cdv A outer s H E hr => ?_
  exact (ss_one (s_ret (v_and (v_call D_is_number (hr.mono (by decide)) (takes_of rfl rfl rfl rfl) (a_cons (v_var 1) a_nil) ar1_len) (v_one (v_cmp op_lt (g_B (g := fun i j => decide (i < j))) (v_up (v_var 1)) (v_up (v_callB call_lenV g_len Z.n_len (by kernel_rfl) (a_cons (v_up (v_var 0)) a_nil))))))))
theorem d_behind (Z : Zs G K mg P w) {f : Addr} {fd : FuncData} (Fn : Fun K ("behind" : Str) ("behind" : Str) (topS 38) f fd) (D_is_stack : Dk P w K mg base 3 ("is_stack" : Str) (spM G K .sh 2 (ar2 m_is_stack))) (D_shifted : Dk P w K mg base 2 ("shifted" : Str) (spM G K .sh 4 (ar4 m_shifted))) (D_come : Dk P w K mg base 2 ("come" : Str) (spM G K .sh 3 (ar3 m_come))) (D_gone : Dk P w K mg base 2 ("gone" : Str) (spM G K .sh 2 (ar2 m_gone))) : FnOk P w K mg base (L2.CX P w) 4 f fd [("day" : Str), ("state" : Str), ("deed" : Str)] (spM G K .sh 3 (ar3 m_behind)) := by
  have S : FnScope [("day" : Str), ("state" : Str), ("deed" : Str), ("part" : Str)] [("day" : Str), ("state" : Str), ("deed" : Str)] (defScope (topS 38)) := C8.fnScope_by (by decide +kernel)
  refine d_of (κ := κ_behind) (m := b_behind) (k := 3) Fn S (fun i hi => by revert i; decide) (fun qs hl => match qs, hl with | [_, _, _], _ => rfl) fun cdv A outer s H E hr => ?_
  exact (ss_cons (s_if (t_w (tw_or (t_not (t_val (v_callB call_isi g_isi Z.n_isinstance (by kernel_rfl) (a_cons (v_up (v_var 2)) (a_cons (v_up (v_gty Z.n_tuple (by kernel_rfl))) a_nil))))) (tw_or (t_cmp (op_eqD hr.units) g_eq (v_up (v_callB call_lenV g_len Z.n_len (by kernel_rfl) (a_cons (v_up (v_var 2)) a_nil))) (v_up v_int)) (tw_or1 (t_not (t_val (v_callB call_isi g_isi Z.n_isinstance (by kernel_rfl) (a_cons (v_up (v_ix (v_up (v_var 2)) (v_up v_int))) (a_cons (v_up (v_gty Z.n_str (by kernel_rfl))) a_nil))))))))) (ss_one (s_ret v_non)) ss_nil)
    (ss_cons (s_if (t_not (t_val (v_callB (cr_all rfl) g_all Z.n_all (by kernel_rfl) (a_cons (v_up (v_lc (own := [(("part" : Str), 3)]) rfl S.nd (i_loose (i_seq (v_slice sl_A g_slA (v_up (v_var 2)) (o_some v_int) o_none))) (blkOk_by (by kernel_rfl)) (fun _ _ _ _ _ => (gv_name 3 (hN := S.nd))) (fun _ _ _ _ _ => ts_nil) (fun _ _ _ _ _ => (v_call D_is_stack (hr.mono (by decide)) (takes0) (a_cons (v_ix (v_up (v_var 1)) (v_up v_int)) (a_cons (v_var 3) a_nil)) ar2_len)) (by decide) gok_name)) a_nil)))) (ss_one (s_ret v_non)) ss_nil)
    (ss_cons (s_if (t_w (tw_and (t_cmp (op_eqD hr.units) g_eq (v_up (v_ix (v_up (v_var 2)) (v_up v_int))) (v_up (v_gstrE Z.g_SHIFT))) (tw_and1 (t_cmp (op_eqD hr.units) g_eq (v_up (v_callB call_lenV g_len Z.n_len (by kernel_rfl) (a_cons (v_up (v_var 2)) a_nil))) (v_up v_int))))) (ss_one (s_ret (v_call D_shifted (hr.mono (by decide)) (takes_of rfl rfl rfl rfl) (a_cons (v_var 0) (a_cons (v_var 1) (a_cons (v_ix (v_up (v_var 2)) (v_up v_int)) (a_cons (v_ix (v_up (v_var 2)) (v_up v_int)) a_nil)))) ar4_len))) ss_nil)
    (ss_cons (s_if (t_w (tw_and (t_cmp (op_eqD hr.units) g_eq (v_up (v_ix (v_up (v_var 2)) (v_up v_int))) (v_up (v_gstrE Z.g_IN))) (tw_and1 (t_cmp (op_eqD hr.units) g_eq (v_up (v_callB call_lenV g_len Z.n_len (by kernel_rfl) (a_cons (v_up (v_var 2)) a_nil))) (v_up v_int))))) (ss_one (s_ret (v_call D_come (hr.mono (by decide)) (takes_of rfl rfl rfl rfl) (a_cons (v_var 0) (a_cons (v_var 1) (a_cons (v_ix (v_up (v_var 2)) (v_up v_int)) a_nil))) ar3_len))) ss_nil)
    (ss_one (s_ret (v_if (t_w (tw_and (t_cmp (op_eqD hr.units) g_eq (v_up (v_ix (v_up (v_var 2)) (v_up v_int))) (v_up (v_gstrE Z.g_OUT))) (tw_and1 (t_cmp (op_eqD hr.units) g_eq (v_up (v_callB call_lenV g_len Z.n_len (by kernel_rfl) (a_cons (v_up (v_var 2)) a_nil))) (v_up v_int))))) (v_call D_gone (hr.mono (by decide)) (takes_of rfl rfl rfl rfl) (a_cons (v_var 0) (a_cons (v_var 1) a_nil)) ar2_len) v_non)))))))
theorem d_ways_on (Z : Zs G K mg P w) {f : Addr} {fd : FuncData} (Fn : Fun K ("ways_on" : Str) ("ways_on" : Str) (topS 39) f fd) (D_behind : Dk P w K mg base 4 ("behind" : Str) (spM G K .sh 3 (ar3 m_behind))) : FnOk P w K mg base (L2.CX P w) 5 f fd [("day" : Str), ("state" : Str)] (spM G K .sh 2 (ar2 m_ways_on)) := by
  have S : FnScope [("day" : Str), ("state" : Str), ("places" : Str), ("told" : Str), ("found" : Str), ("deed" : Str), ("one" : Str), ("i" : Str), ("j" : Str)] [("day" : Str), ("state" : Str)] (defScope (topS 39)) := C8.fnScope_by (by decide +kernel)
  refine d_of (κ := κ_ways_on) (m := b_ways_on) (k := 4) Fn S (fun i hi => by revert i; decide) (fun qs hl => match qs, hl with | [_, _], _ => rfl) fun cdv A outer s H E hr => ?_
  exact (ss_cons (s_set 2 (v_callTy Lt.cr_range1 g_rng Z.n_range (by kernel_rfl) (a_cons (v_up (v_callB call_lenV g_len Z.n_len (by kernel_rfl) (a_cons (v_up (v_ix (v_up (v_var 1)) (v_up v_int))) a_nil))) a_nil)) S.nd)
    (ss_cons (s_set 3 (v_op op_addA g_addA (v_up (v_op op_addA g_addA (v_up (v_lst (a_cons (v_tup (a_cons (v_gstrE Z.g_OUT) a_nil)) a_nil))) (v_up (v_lc (own := [(("j" : Str), 8)]) rfl S.nd (i_loose (i_rng (v_var 2))) (blkOk_by (by kernel_rfl)) (fun _ _ _ _ _ => (gv_name 8 (hN := S.nd))) (fun _ _ _ _ _ => ts_nil) (fun _ _ _ _ _ => (v_tup (a_cons (v_gstrE Z.g_IN) (a_cons (v_var 8) a_nil)))) (by decide) gok_name)))) (v_up (v_lc2 (own := [(("i" : Str), 7), (("j" : Str), 8)]) (own1 := [8]) rfl S.nd (i_loose (i_rng (v_var 2))) (blkOk_by (by kernel_rfl)) (by decide) (fun _ _ _ _ _ => (gv_name 7 (hN := S.nd))) (fun _ _ _ _ _ => ts_nil) (fun _ _ _ _ _ => (i_rng (v_var 2))) (fun _ _ _ _ _ => (gv_name 8 (hN := S.nd))) (fun _ _ _ _ _ => ts_nil) (fun _ _ _ _ _ => (v_tup (a_cons (v_gstrE Z.g_SHIFT) (a_cons (v_var 7) (a_cons (v_var 8) a_nil))))) (by decide) gok_name (by decide) gok_name))) S.nd)
    (ss_cons (s_setLc 4 false (own := [(("deed" : Str), 5)]) rfl S.nd (i_loose (i_seq (v_var 3))) (blkOk_by (by kernel_rfl)) (fun _ _ _ _ _ => (gv_name 5 (hN := S.nd))) (fun _ _ _ _ _ => ts_nil) (fun _ _ _ _ _ => (v_tup (a_cons (v_var 5) (a_cons (v_call D_behind (hr.mono (by decide)) (takes0) (a_cons (v_var 0) (a_cons (v_var 1) (a_cons (v_var 5) a_nil))) ar3_len) a_nil)))) (by decide) gok_name)
    (ss_one (s_ret (v_freeze (v_lc (own := [(("one" : Str), 6)]) rfl S.nd (i_loose (i_seq (v_var 4))) (blkOk_by (by kernel_rfl)) (fun _ _ _ _ _ => (gv_name 6 (hN := S.nd))) (fun _ _ _ _ _ => (ts_one (t_cmp op_notN g_notN (v_up (v_ix (v_up (v_var 6)) (v_up v_int))) (v_up v_non)))) (fun _ _ _ _ _ => (v_var 6)) (by decide) gok_name)))))))
theorem d_all_reached (Z : Zs G K mg P w) {f : Addr} {fd : FuncData} (Fn : Fun K ("all_reached" : Str) ("all_reached" : Str) (topS 41) f fd) (D_first_state : Dk P w K mg base 1 ("first_state" : Str) (spM G K .sh 1 (ar1 m_first_state))) (D_ways_on : Dk P w K mg base 5 ("ways_on" : Str) (spM G K .sh 2 (ar2 m_ways_on))) : FnOk P w K mg base (L2.CX P w) 7 f fd [("day" : Str)] (spM G K .sh 1 (ar1 m_all_reached)) := by
  have S : FnScope [("day" : Str), ("found" : Str), ("todo" : Str), ("_" : Str), ("after" : Str)] [("day" : Str)] (defScope (topS 41)) := C8.fnScope_by (by decide +kernel)
  refine d_of (κ := κ_all_reached) (m := b_all_reached) (k := 6) Fn S (fun i hi => by revert i; decide) (fun qs hl => match qs, hl with | [_], _ => rfl) fun cdv A outer s H E hr => ?_
  exact (ss_cons (s_setO 1 (v_none Z.pw (hu9 hr) (v_call D_first_state (hr.mono (by decide)) (takes_of rfl rfl rfl rfl) (a_cons (v_var 0) a_nil) ar1_len) v_bl) S.nd)
    (ss_cons (s_setO 2 (v_lst (a_cons (v_call D_first_state (hr.mono (by decide)) (takes_of rfl rfl rfl rfl) (a_cons (v_var 0) a_nil) ar1_len) a_nil)) S.nd)
    (ss_cons (s_while 10000 (passes_of rfl) (t_tru (v_own 2)) (ss_one (s_forM (passes_of rfl) rfl (i_seqM (m_call D_ways_on (hr.mono (by decide)) (takes_of rfl rfl rfl rfl) (am_cons (v_var 0) (am_one (m_list0 2 PySem.F.slot_list_pop PySem.F.type_list_pop mt_pop g_pop))) ar2_len)) (gv_tup rfl (gvs_cons (gv_name 3 (hN := S.nd)) (gvs_cons (gv_name 4 (hN := S.nd)) gvs_nil (fun _ _ => rfl)) (fun _ _ => rfl))) (gok_tup (goks_cons gok_name (goks_cons gok_name goks_nil))) (ss_one (s_if (t_nnin Z.pw (hu9 hr) (v_var 4) (v_own 1)) (ss_cons (s_putN Z.pw 1 (hu9 hr) (v_var 4) v_bl)
    (ss_one (s_exprM (m_list 2 PySem.F.slot_list_append PySem.F.type_list_append mt_append g_app (a_cons (v_var 4) a_nil))))) ss_nil)))))
    (ss_one (s_retF 1)))))
theorem d_reached (Z : Zs G K mg P w) {f : Addr} {fd : FuncData} (Fn : Fun K ("reached" : Str) ("reached" : Str) (topS 43) f fd) (D_all_reached : Dk P w K mg base 7 ("all_reached" : Str) (spM G K .sh 1 (ar1 m_all_reached))) : FnOk P w K mg base (L2.CX P w) 8 f fd [("day" : Str)] (spM G K .sh 1 (ar1 m_reached)) := by
  have S : FnScope [("day" : Str)] [("day" : Str)] (defScope (topS 43)) := C8.fnScope_by (by decide +kernel)
  refine d_of (κ := κ_reached) (m := b_reached) (k := 7) Fn S (fun i hi => by revert i; decide) (fun qs hl => match qs, hl with | [_], _ => rfl) fun cdv A outer s H E hr => ?_
  exact (ss_one (s_ret (v_callTy Lk.call_tupK g_tuple Z.n_tuple (by kernel_rfl) (a_cons (v_up (v_callB (cr_sortD (hu32 hr)) g_sortD Z.n_sorted (by kernel_rfl) (a_cons (v_up (v_callTy (call_listN rfl Z.pw) g_listN Z.n_list (by kernel_rfl) (a_cons (v_up (v_call D_all_reached (hr.mono (by decide)) (takes_of rfl rfl rfl rfl) (a_cons (v_var 0) a_nil) ar1_len)) a_nil))) a_nil))) a_nil))))
theorem d__law_asked (Z : Zs G K mg P w) {f : Addr} {fd : FuncData} (Fn : Fun K ("_law_asked" : Str) ("_law_asked" : Str) (topS 59) f fd) (D__law_draws : Dk P w K mg base 1 ("_law_draws" : Str) (spM G K .sh 3 (ar3 m__law_draws))) (D__law_cell : Dk P w K mg base 1 ("_law_cell" : Str) (spM G K .sh 2 (ar2 m__law_cell))) (D__law_task : Dk P w K mg base 3 ("_law_task" : Str) (spM G K .sh 2 (ar2 m__law_task))) (D__law_reached : Dk P w K mg base 3 ("_law_reached" : Str) (spM G K .sh 1 (ar1 m__law_reached))) (D__law_made : Dk P w K mg base 6 ("_law_made" : Str) (spM G K .sh 2 (ar2 m__law_made))) (D__law_same_states : Dk P w K mg base 3 ("_law_same_states" : Str) (spM G K .sh 2 (ar2 m__law_same_states))) (D_reached : Dk P w K mg base 8 ("reached" : Str) (spM G K .sh 1 (ar1 m_reached))) (DK_reached_day : DkK P w K mg base 8 ("reached" : Str) (spM G K .sh 1 (ar1 m_reached)) [("day" : Str)] [0]) : FnOk P w K mg base (L2.CX P w) 9 f fd [("_law_script" : Str)] (spM G K .sh 1 (ar1 m__law_asked)) := by
  have S : FnScope [("_law_script" : Str), ("_law_draws_here" : Str), ("_law_task_here" : Str), ("_law_due" : Str), ("_law_view" : Str), ("_law_less" : Str)] [("_law_script" : Str)] (defScope (topS 59)) := C8.fnScope_by (by decide +kernel)
  refine d_of (κ := κ__law_asked) (m := b__law_asked) (k := 8) Fn S (fun i hi => by revert i; decide) (fun qs hl => match qs, hl with | [_], _ => rfl) fun cdv A outer s H E hr => ?_
  exact (ss_cons (s_set 1 (v_call D__law_draws (hr.mono (by decide)) (takes_of rfl rfl rfl rfl) (a_cons (v_call D__law_cell (hr.mono (by decide)) (takes_of rfl rfl rfl rfl) (a_cons (v_var 0) (a_cons v_int a_nil)) ar2_len) (a_cons v_int (a_cons (v_op op_pow (g_I (C := CPow) (g := fun i j => i ^ j.toNat)) (v_up v_int) (v_up v_int)) a_nil))) ar3_len) S.nd)
    (ss_cons (s_set 2 (v_call D__law_task (hr.mono (by decide)) (takes_of rfl rfl rfl rfl) (a_cons (v_var 0) (a_cons (v_var 1) a_nil)) ar2_len) S.nd)
    (ss_cons (s_set 3 (v_call D__law_reached (hr.mono (by decide)) (takes_of rfl rfl rfl rfl) (a_cons (v_var 2) a_nil) ar1_len) S.nd)
    (ss_cons (s_set 4 (v_call D__law_made (hr.mono (by decide)) (takes_of rfl rfl rfl rfl) (a_cons (v_var 2) (a_cons (v_ix (v_up (v_var 1)) (v_up v_int)) a_nil)) ar2_len) S.nd)
    (ss_cons (s_if (t_not (t_val (v_call D__law_same_states (hr.mono (by decide)) (takes_of rfl rfl rfl rfl) (a_cons (v_call D_reached (hr.mono (by decide)) (takes_of rfl rfl rfl rfl) (a_cons (v_var 4) a_nil) ar1_len) (a_cons (v_var 3) a_nil)) ar2_len))) (ss_one (s_ret v_bl)) ss_nil)
    (ss_cons (s_if (t_cmp op_gt (g_B (g := fun i j => decide (j < i))) (v_up (v_callB call_lenV g_len Z.n_len (by kernel_rfl) (a_cons (v_up (v_var 3)) a_nil))) (v_up v_int)) (ss_one (s_ret v_bl)) ss_nil)
    (ss_cons (s_set 5 (v_tup (a_cons (v_ix (v_up (v_var 2)) (v_up v_int)) (a_cons (v_ix (v_up (v_var 2)) (v_up v_int)) (a_cons (v_slice sl_A g_slA (v_up (v_ix (v_up (v_var 2)) (v_up v_int))) o_none (o_some (v_un un_neg g_neg (v_up v_int)))) a_nil)))) S.nd)
    (ss_cons (s_if (t_not (t_val (v_call D__law_same_states (hr.mono (by decide)) (takes_of rfl rfl rfl rfl) (a_cons (v_call D_reached (hr.mono (by decide)) (takes_of rfl rfl rfl rfl) (a_cons (v_call D__law_made (hr.mono (by decide)) (takes_of rfl rfl rfl rfl) (a_cons (v_var 5) (a_cons (v_op op_fdiv (g_I (C := CDiv) (g := fun i j => i / j)) (v_up (v_ix (v_up (v_var 1)) (v_up v_int))) (v_up v_int)) a_nil)) ar2_len) a_nil) ar1_len) (a_cons (v_call D__law_reached (hr.mono (by decide)) (takes_of rfl rfl rfl rfl) (a_cons (v_var 5) a_nil) ar1_len) a_nil)) ar2_len))) (ss_one (s_ret v_bl)) ss_nil)
    (ss_one (s_ret (v_cmp (op_eqD hr.units) g_eq (v_up (v_callK DK_reached_day (hr.mono (by decide)) (takes_of rfl rfl rfl rfl) (k_cons (v_var 4) k_nil) ar1_len)) (v_up (v_var 3)))))))))))))
theorem d_law (Z : Zs G K mg P w) {f : Addr} {fd : FuncData} (Fn : Fun K ("law" : Str) ("law" : Str) (topS 60) f fd) (D__law_asked : Dk P w K mg base 9 ("_law_asked" : Str) (spM G K .sh 1 (ar1 m__law_asked))) : FnOk P w K mg base (L2.CX P w) 10 f fd [("_law_script" : Str)] (spM G K .sh 1 (ar1 m_law)) := by
  have S : FnScope [("_law_script" : Str)] [("_law_script" : Str)] (defScope (topS 60)) := C8.fnScope_by (by decide +kernel)
  refine d_of (κ := κ_law) (m := b_law) (k := 9) Fn S (fun i hi => by revert i; decide) (fun qs hl => match qs, hl with | [_], _ => rfl) fun cdv A outer s H E hr => ?_
  exact (ss_one (s_tryO (fun c => match c with | 1 => some true | 2 => some true | 3 => some true | _ => none) (fun c b h => by
      split at h
      · cases h; exact Z.ex_1_0
      · cases h; exact Z.ex_2_0
      · cases h; exact Z.ex_3_0
      · cases h) ⟨rfl, by decide, .inl Z.c_YardError⟩ (takes_of rfl rfl rfl rfl) (fun W pn xe tk hp => (ss_one (s_ret (v_call D__law_asked (hr.mono (by decide)) tk (a_cons (v_var 0) a_nil) ar1_len)))) (fun a oe pn => (ss_one (s_ret v_bl)))))
end
end K24
end
section
set_option Elab.async false
set_option linter.all false
set_option maxRecDepth 100000
namespace Lp
open PySem PySem.Spec L2
/-! ### the plain side: how mirrors are run through by simp -/
section evals
@[simp] theorem eVar_s (i : Nat) (τ : LE) : eVar i τ = (match τ[i]? with
  | some (some p) => .ok p
  | _ => .bad) := (rfl)
@[simp] theorem eC_s (p : PV) (τ : LE) : eC p τ = .ok p := (rfl)
@[simp] theorem aNil_s (τ : LE) : aNil τ = .ok [] := (rfl)
@[simp] theorem aCons_s (f g) (τ : LE) : aCons f g τ = (f τ >>= fun p => g τ >>= fun ps => .ok (p :: ps)) := (rfl)
@[simp] theorem e1_s (g f) (τ : LE) : e1 g f τ = (f τ >>= fun p => up (g p)) := (rfl)
@[simp] theorem e2_s (g f f') (τ : LE) : e2 g f f' τ = (f τ >>= fun p => f' τ >>= fun q => up (g p q)) := (rfl)
/-- the truth of a value -/
def tv : PV → Res Bool
  | .bl b => .ok b
  | _ => .bad
@[simp] theorem tv_bl (b : Bool) : tv (.bl b) = .ok b := (rfl)
@[simp] theorem tst_s (f) (τ : LE) : tst f τ = (f τ >>= tv) := by
  unfold tst
  congr 1
def bAnd (k : Res Bool) (b : Bool) : Res Bool := if b = true then k else .ok false
def bOr (k : Res Bool) (b : Bool) : Res Bool := if b = true then .ok true else k
@[simp] theorem bAnd_ok (b c : Bool) : bAnd (.ok c) b = .ok (b && c) := by cases b <;> rfl
@[simp] theorem bOr_ok (b c : Bool) : bOr (.ok c) b = .ok (b || c) := by cases b <;> rfl
@[simp] theorem bAnd_true (k) : bAnd k true = k := (rfl)
@[simp] theorem bAnd_false (k) : bAnd k false = .ok false := (rfl)
@[simp] theorem bOr_true (k) : bOr k true = .ok true := (rfl)
@[simp] theorem bOr_false (k) : bOr k false = k := (rfl)
@[simp] theorem tAndM_s (f g) (τ : LE) : tAndM f g τ = (f τ >>= bAnd (g τ)) := (rfl)
@[simp] theorem tOrM_s (f g) (τ : LE) : tOrM f g τ = (f τ >>= bOr (g τ)) := (rfl)
@[simp] theorem tNotM_s (f) (τ : LE) : tNotM f τ = (f τ >>= fun b => .ok (!b)) := (rfl)
@[simp] theorem tYesM_s (τ : LE) : tYesM τ = .ok true := (rfl)
@[simp] theorem eIf_s (t f f') (τ : LE) : eIf t f f' τ = (t τ >>= fun b => if b = true then f τ else f' τ) := (rfl)
def kAnd (k : Res PV) : PV → Res PV
  | .bl true => k
  | .bl false => .ok (.bl false)
  | _ => .bad
def kOr (k : Res PV) : PV → Res PV
  | .bl true => .ok (.bl true)
  | .bl false => k
  | _ => .bad
def kNot : PV → Res PV
  | .bl k => .ok (.bl (!k))
  | _ => .bad
theorem kAnd_bl (k) (b : Bool) : kAnd k (.bl b) = if b = true then k else .ok (.bl false) := by cases b <;> rfl
theorem kOr_bl (k) (b : Bool) : kOr k (.bl b) = if b = true then .ok (.bl true) else k := by cases b <;> rfl
@[simp] theorem kAnd_ok (b c : Bool) : kAnd (.ok (.bl c)) (.bl b) = .ok (.bl (b && c)) := by cases b <;> rfl
@[simp] theorem kOr_ok (b c : Bool) : kOr (.ok (.bl c)) (.bl b) = .ok (.bl (b || c)) := by cases b <;> rfl
@[simp] theorem kAnd_true (k) : kAnd k (.bl true) = k := (rfl)
@[simp] theorem kAnd_false (k) : kAnd k (.bl false) = .ok (.bl false) := (rfl)
@[simp] theorem kOr_true (k) : kOr k (.bl true) = .ok (.bl true) := (rfl)
@[simp] theorem kOr_false (k) : kOr k (.bl false) = k := (rfl)
@[simp] theorem kNot_bl (b : Bool) : kNot (.bl b) = .ok (.bl (!b)) := (rfl)
@[simp] theorem eAnd_s (f f') (τ : LE) : eAnd f f' τ = (f τ >>= kAnd (f' τ)) := by
  unfold eAnd
  congr 1
@[simp] theorem eOr_s (f f') (τ : LE) : eOr f f' τ = (f τ >>= kOr (f' τ)) := by
  unfold eOr
  congr 1
@[simp] theorem eNot_s (f) (τ : LE) : eNot f τ = (f τ >>= kNot) := by
  unfold eNot
  congr 1
def kCh (k : Res PV) : Option PV → Res PV
  | some (.bl true) => k
  | some (.bl false) => .ok (.bl false)
  | _ => .bad
theorem kCh_bl (k) (b : Bool) : kCh k (some (.bl b)) = if b = true then k else .ok (.bl false) := by cases b <;> rfl
@[simp] theorem kCh_ok (b c : Bool) : kCh (.ok (.bl c)) (some (.bl b)) = .ok (.bl (b && c)) := by cases b <;> rfl
@[simp] theorem kCh_true (k) : kCh k (some (.bl true)) = k := (rfl)
@[simp] theorem kCh_false (k) : kCh k (some (.bl false)) = .ok (.bl false) := (rfl)
@[simp] theorem eChain_s (g g' f f' f'') (τ : LE) : eChain g g' f f' f'' τ = (f τ >>= fun p => f' τ >>= fun p' => kCh (f'' τ >>= fun p'' => up (g' p' p'')) (g p p')) := by
  unfold eChain
  congr 1
def kI : PV → Res Int
  | .int i => .ok i
  | _ => .bad
@[simp] theorem kI_int (i : Int) : kI (.int i) = .ok i := (rfl)
@[simp] theorem asI_s (f) (τ : LE) : asI f τ = (f τ >>= kI) := by
  unfold asI
  congr 1
@[simp] theorem eChain3_s (g1 g2 g3 f1 f2 f3 f4) (τ : LE) : eChain3 g1 g2 g3 f1 f2 f3 f4 τ = (asI f1 τ >>= fun i => asI f2 τ >>= fun j => if g1 i j = true then asI f3 τ >>= fun k => (if g2 j k = true then asI f4 τ >>= fun l => .ok (.bl (g3 k l)) else .ok (.bl false)) else .ok (.bl false)) := (rfl)
@[simp] theorem eCall_s (g f) (τ : LE) : eCall g f τ = (f τ >>= fun ps => up (g ps)) := (rfl)
@[simp] theorem eFn_s (g fa) (τ : LE) : eFn g fa τ = (fa τ >>= g) := (rfl)
@[simp] theorem eFnK_s (nk perm g fa) (τ : LE) : eFnK nk perm g fa τ = (fa τ >>= fun qs => if qs.length = nk then g (gp perm qs) else .bad) := (rfl)
@[simp] theorem eTup_s (f) (τ : LE) : eTup f τ = (f τ >>= fun ps => if ps.length ≤ 1000 then .ok (.tup ps) else .bad) := (rfl)
@[simp] theorem eLst_s (f) (τ : LE) : eLst f τ = (f τ >>= fun ps => if ps.length ≤ 1000 then .ok (.lst ps) else .bad) := (rfl)
@[simp] theorem oNone_s (τ : LE) : oNone τ = .ok none := (rfl)
def kO : PV → Res (Option Int)
  | .int i => .ok (some i)
  | _ => .bad
@[simp] theorem kO_int (i : Int) : kO (.int i) = .ok (some i) := (rfl)
@[simp] theorem oSome_s (f) (τ : LE) : oSome f τ = (f τ >>= kO) := by
  unfold oSome
  congr 1
@[simp] theorem eSl_s (g f lo hi) (τ : LE) : eSl g f lo hi τ = (f τ >>= fun p => lo τ >>= fun l => hi τ >>= fun h => up (g p l h)) := (rfl)
@[simp] theorem iSeq_s (f) (τ : LE) : iSeq f τ = (f τ >>= fun p => up (itemsOf p)) := (rfl)
@[simp] theorem iFn_s (g f) (τ : LE) : iFn g f τ = (f τ >>= fun ps => up (g ps)) := (rfl)
@[simp] theorem gNm_s (i p) (τ : LE) : gNm i p τ = if i < τ.length then .ok (τ.set i (some p)) else .bad := (rfl)
@[simp] theorem gsN_s (τ : LE) : gsN [] τ = .ok τ := (rfl)
@[simp] theorem gsC_s (g gs p ps) (τ : LE) : gsC g gs (p :: ps) τ = (g p τ >>= fun τ' => gs ps τ') := (rfl)
@[simp] theorem gTp_i (gs n ps) (τ : LE) : gTp gs n (.itm ps) τ = if ps.length = n then gs ps τ else .bad := (rfl)
@[simp] theorem gTp_s (gs n ps) (τ : LE) : gTp gs n (.tup ps) τ = if ps.length = n then gs ps τ else .bad := (rfl)
@[simp] theorem ar1_s (m a) : ar1 m [a] = m a := (rfl)
@[simp] theorem ar2_s (m a b) : ar2 m [a, b] = m a b := (rfl)
@[simp] theorem ar3_s (m a b c) : ar3 m [a, b, c] = m a b c := (rfl)
@[simp] theorem ar4_s (m a b c d) : ar4 m [a, b, c, d] = m a b c d := (rfl)
@[simp] theorem ar5_s (m a b c d e) : ar5 m [a, b, c, d, e] = m a b c d e := (rfl)
@[simp] theorem ar6_s (m a b c d e f) : ar6 m [a, b, c, d, e, f] = m a b c d e f := (rfl)
/-! operations -/
@[simp] theorem pLt_s (i j : Int) : pLt (.int i) (.int j) = some (.bl (decide (i < j))) := (rfl)
@[simp] theorem pLe_s (i j : Int) : pLe (.int i) (.int j) = some (.bl (decide (i ≤ j))) := (rfl)
@[simp] theorem pGt_s (i j : Int) : pGt (.int i) (.int j) = some (.bl (decide (j < i))) := (rfl)
@[simp] theorem pGe_s (i j : Int) : pGe (.int i) (.int j) = some (.bl (decide (j ≤ i))) := (rfl)
@[simp] theorem pAddA_int (i j : Int) : pAddA (.int i) (.int j) = some (.int (i + j)) := (rfl)
@[simp] theorem pSub_int (i j : Int) : pSub (.int i) (.int j) = some (.int (i - j)) := (rfl)
@[simp] theorem pNeg_int (i : Int) : pNeg (.int i) = some (.int (-i)) := (rfl)
@[simp] theorem pLen_lst (xs : List PV) : pLen [.lst xs] = some (.int (xs.length : Nat)) := (rfl)
@[simp] theorem pInt_int (i : Int) : pInt [.int i] = some (.int i) := (rfl)
@[simp] theorem pIx_lst (xs : List PV) (i : Int) : pIx (.lst xs) (.int i) = atI xs i := (rfl)
@[simp] theorem pIx_tup (xs : List PV) (i : Int) : pIx (.tup xs) (.int i) = atI xs i := (rfl)
@[simp] theorem pList_lst (xs : List PV) : pList [.lst xs] = some (.lst xs) := (rfl)
@[simp] theorem pList_tup (xs : List PV) : pList [.tup xs] = some (.lst xs) := (rfl)
@[simp] theorem pTuple_lst (xs : List PV) : pTuple [.lst xs] = some (.tup xs) := (rfl)
@[simp] theorem pTuple_tup (xs : List PV) : pTuple [.tup xs] = some (.tup xs) := (rfl)
@[simp] theorem itemsOf_lst (xs : List PV) : itemsOf (.lst xs) = some xs := (rfl)
@[simp] theorem itemsOf_tup (xs : List PV) : itemsOf (.tup xs) = some xs := (rfl)
@[simp] theorem pIsN_s (p : PV) : pIsN p .non = some (.bl p.isN) := (rfl)
@[simp] theorem pNotN_s (p : PV) : pNotN p .non = some (.bl (!p.isN)) := (rfl)
@[simp] theorem isN_non : PV.isN .non = true := (rfl)
@[simp] theorem isN_tup (x) : PV.isN (.tup x) = false := (rfl)
@[simp] theorem isN_lst (x) : PV.isN (.lst x) = false := (rfl)
@[simp] theorem isN_int (x) : PV.isN (.int x) = false := (rfl)
@[simp] theorem isN_bl (x) : PV.isN (.bl x) = false := (rfl)
@[simp] theorem isN_str (x) : PV.isN (.str x) = false := (rfl)
@[simp] theorem isN_ins (c x) : PV.isN (.ins c x) = false := (rfl)
theorem pMod_int {i j : Int} (h : 0 < j) : pMod (.int i) (.int j) = some (.int (i % j)) := by
  show (if _ then _ else _) = _
  rw [if_pos h]
theorem pDiv_int {i j : Int} (h : CDiv i j) : pDiv (.int i) (.int j) = some (.int (i / j)) := by
  show (if _ then _ else _) = _
  rw [if_pos h]
theorem pDivW_int {i j : Int} (h0 : 0 < j) (h : j < 2 ^ 64) : pDivW (.int i) (.int j) = some (.int (i / j)) := by
  show (if _ then _ else _) = _
  rw [if_pos (wide_div h0 (b := 64) (by omega) (by decide) (by decide))]
theorem pMul_int {i j : Int} (h : CMul i j) : pMul (.int i) (.int j) = some (.int (i * j)) := by
  show (if _ then _ else _) = _
  rw [if_pos h]
theorem pPow_int {i j : Int} (h : CPow i j) : pPow (.int i) (.int j) = some (.int (i ^ j.toNat)) := by
  show (if _ then _ else _) = _
  rw [if_pos h]
theorem pMin_int (i j : Int) : pMin [.int i, .int j] = some (.int (min i j)) := by
  show some (PV.int _) = _
  congr 2
  dsimp only
  split <;> omega
theorem pMax_int (i j : Int) : pMax [.int i, .int j] = some (.int (max i j)) := by
  show some (PV.int _) = _
  congr 2
  dsimp only
  split <;> omega
theorem tup_list (xs : List PV) : True := trivial
theorem eqB_int (i j : Int) : eqB (.int i) (.int j) = some (decide (i = j)) := by
  simp [eqB, PV.toD, SeqAt.shaped, PyData.canLay0, PyData.depth, PyData.eqv]
  rfl
@[simp] theorem pEq_int (i j : Int) : pEq (.int i) (.int j) = some (.bl (decide (i = j))) := by
  unfold pEq; rw [eqB_int]; rfl
@[simp] theorem pNe_int (i j : Int) : pNe (.int i) (.int j) = some (.bl (!decide (i = j))) := by
  unfold pNe; rw [eqB_int]; rfl
theorem eqB_bl (i j : Bool) : eqB (.bl i) (.bl j) = some (i == j) := by
  simp [eqB, PV.toD, SeqAt.shaped, PyData.canLay0, PyData.depth, PyData.eqv]
@[simp] theorem pEq_bl (i j : Bool) : pEq (.bl i) (.bl j) = some (.bl (i == j)) := by
  unfold pEq; rw [eqB_bl]; rfl
@[simp] theorem pNe_bl (i j : Bool) : pNe (.bl i) (.bl j) = some (.bl (!(i == j))) := by
  unfold pNe; rw [eqB_bl]; rfl
/-- the text can be laid -/
def sok (x : Str) : Prop := (PyData.str x).canLay0 = true
theorem ofS_inj {a b : String} : Str.ofString a = Str.ofString b ↔ a = b := by
  constructor
  · intro h
    rw [Str.ofString_eq_toList, Str.ofString_eq_toList] at h
    have h2 : a.toList.map Char.toNat = b.toList.map Char.toNat := by
      have := congrArg (fun x => x.cps.toList) h
      simpa using this
    have h3 : a.toList = b.toList := (List.map_inj_right (f := Char.toNat) fun x y e => Char.ext (UInt32.toNat_inj.mp e)).mp h2
    exact String.toList_inj.mp h3
  · exact congrArg _
@[simp] theorem ofS_eq (a b : String) : (Str.ofString a = Str.ofString b) = (a = b) := propext ofS_inj
@[simp] theorem ofS_beq (a b : String) : (Str.ofString a == Str.ofString b) = (a == b) := by
  by_cases h : a = b
  · subst h; simp
  · rw [beq_eq_false_iff_ne.mpr h]
    exact beq_eq_false_iff_ne.mpr fun e => h (ofS_inj.mp e)
theorem sok_of {x : Str} (h : ∀ c ∈ x.cps.toList, c < 0x110000) : sok x := by
  show x.cps.all (· < 0x110000) = true
  rw [Array.all_eq_true']
  intro c hc
  exact decide_eq_true (h c (by simpa using hc))
theorem sok_ofS (s : String) : sok (Str.ofString s) := sok_of fun c hc => by
  rw [Str.ofString_eq_toList] at hc
  simp only [List.mem_map] at hc
  obtain ⟨ch, _, rfl⟩ := hc
  have := ch.valid
  rcases this with h | ⟨_, h⟩
  · exact Nat.lt_trans h (by decide)
  · exact h
theorem eqB_str {x y : Str} (hx : sok x) (hy : sok y) : eqB (.str x) (.str y) = some (decide (x = y)) := by
  unfold sok at hx hy
  simp [eqB, PV.toD, SeqAt.shaped, hx, hy, PyData.depth, PyData.eqv]
  rfl
theorem pEq_str {x y : Str} (hx : sok x) (hy : sok y) : pEq (.str x) (.str y) = some (.bl (decide (x = y))) := by
  unfold pEq; rw [eqB_str hx hy]; rfl
theorem pNe_str {x y : Str} (hx : sok x) (hy : sok y) : pNe (.str x) (.str y) = some (.bl (!decide (x = y))) := by
  unfold pNe; rw [eqB_str hx hy]; rfl
@[simp] theorem isaK_int : isaKnown "int" = true := by decide
@[simp] theorem isaK_bool : isaKnown "bool" = true := by decide
@[simp] theorem isaK_str : isaKnown "str" = true := by decide
@[simp] theorem isaK_tuple : isaKnown "tuple" = true := by decide
@[simp] theorem isaK_list : isaKnown "list" = true := by decide
@[simp] theorem isa_non (n) : PV.isa n .non = some false := (rfl)
@[simp] theorem isa_bl (n b) : PV.isa n (.bl b) = some (n == "bool" || n == "int") := (rfl)
@[simp] theorem isa_int (n b) : PV.isa n (.int b) = some (n == "int") := (rfl)
@[simp] theorem isa_str (n b) : PV.isa n (.str b) = some (n == "str") := (rfl)
@[simp] theorem isa_tup (n b) : PV.isa n (.tup b) = some (n == "tuple") := (rfl)
@[simp] theorem isa_lst (n b) : PV.isa n (.lst b) = some (n == "list") := (rfl)
@[simp] theorem isa_scr (n b) : PV.isa n (.scr b) = some (n == "list") := (rfl)
@[simp] theorem isa_dK (n b) : PV.isa n (.dK b) = some (n == "dict") := (rfl)
@[simp] theorem pIsi_s (p : PV) (n) : pIsi [p, .ty n] = if isaKnown n = true then (p.isa n).map .bl else none := (rfl)
def kIsi2 : Option Bool → Option Bool → Res PV
  | some x, some y => .ok (.bl (x || y))
  | _, _ => .bad
@[simp] theorem kIsi2_s (x y) : kIsi2 (some x) (some y) = .ok (.bl (x || y)) := (rfl)
@[simp] theorem eIsi2_s (a b f) (τ : LE) : eIsi2 a b f τ = (f τ >>= fun p => kIsi2 (p.isa a) (p.isa b)) := by
  unfold eIsi2
  congr 1
@[simp] theorem pLen_tup (xs : List PV) : pLen [.tup xs] = some (.int (xs.length : Nat)) := (rfl)
@[simp] theorem pLen_scr (xs : List Int) : pLen [.scr xs] = some (.int (xs.length : Nat)) := (rfl)
@[simp] theorem pLen_dK (xs : List (Key × PV)) : pLen [.dK xs] = some (.int (xs.length : Nat)) := (rfl)
theorem pLen_str {z : Str} (h : z.length ≤ sizeLine) : pLen [.str z] = some (.int (z.length : Nat)) := if_pos h
@[simp] theorem keyP_str (x : Str) : keyP (.str x) = some (.inr x) := (rfl)
@[simp] theorem keyP_int (x : Int) : keyP (.int x) = some (.inl x) := (rfl)
@[simp] theorem pDIn_s (n : Bool) (q : PV) (d) : pDIn n q (.dK d) = (keyP q).map fun k => .bl (n ^^ hasP d k) := (rfl)
@[simp] theorem pDGet_s (q : PV) (d) : pDGet (.dK d) q = (keyP q).bind (valP d) := (rfl)
@[simp] theorem sPut_s (i fi fe) (τ : LE) : sPut i fi fe τ = rs (fe τ) τ fun p => onDK τ[i]? fun kvs => rs (fi τ) τ fun q => match keyP q with
    | some k => if kvs.length < 1000000 then .nx (τ.set i (some (.dK (setP kvs k p)))) else .bad
    | none => .bad := (rfl)
@[simp] theorem sDel_s (i fi) (τ : LE) : sDel i fi τ = onDK τ[i]? fun kvs => rs (fi τ) τ fun q => match keyP q with
    | some k => if hasP kvs k then .nx (τ.set i (some (.dK (dropP kvs k)))) else .bad
    | none => .bad := (rfl)
@[simp] theorem tru_bl (b) : tru (.bl b) = some b := (rfl)
@[simp] theorem tru_lst (b) : tru (.lst b) = some !b.isEmpty := (rfl)
@[simp] theorem tru_tup (b) : tru (.tup b) = some !b.isEmpty := (rfl)
@[simp] theorem tstV_s (f) (τ : LE) : tstV f τ = (f τ >>= fun p => up (tru p)) := (rfl)
@[simp] theorem pIsB_s (a b) : pIsB (.bl a) (.bl b) = some (.bl (decide (a = b))) := (rfl)
@[simp] theorem pNotB_s (a b) : pNotB (.bl a) (.bl b) = some (.bl (!decide (a = b))) := (rfl)
@[simp] theorem pRev_tup (xs) : pRev (.tup xs) = some (.tup xs.reverse) := (rfl)
@[simp] theorem pRev_lst (xs) : pRev (.lst xs) = some (.lst xs.reverse) := (rfl)
def kAug (i : Nat) (g : Int → Int → Int) (r : Res PV) (τ : LE) : Option (Option PV) → Fl
  | some (some (.int a)) => rs r τ fun q => match q with
    | .int b => .nx (τ.set i (some (.int (g a b))))
    | _ => .bad
  | _ => .bad
@[simp] theorem kAug_int (i g r τ a) : kAug i g r τ (some (some (.int a))) = rs r τ fun q => match q with
    | .int b => .nx (τ.set i (some (.int (g a b))))
    | _ => .bad := (rfl)
@[simp] theorem sAug_s (i g f) (τ : LE) : sAug i g f τ = kAug i g (f τ) τ τ[i]? := by
  unfold sAug
  rcases τ[i]? with _ | _ | p
  · rfl
  · rfl
  · cases p <;> rfl
def kLet (j : Nat) : Fl → Fl
  | .nx τ' => .nx (τ'.set j none)
  | .bk τ' => .bk (τ'.set j none)
  | .ct τ' => .ct (τ'.set j none)
  | .ex c fs τ' => .ex c fs (τ'.set j none)
  | .rt p => .rt p
  | .bad => .bad
@[simp] theorem sLet_s (j m) (τ : LE) : sLet j m τ = kLet j (m τ) := by
  unfold sLet kLet
  cases m τ <;> rfl
@[simp] theorem kLet_nx (j τ) : kLet j (.nx τ) = .nx (τ.set j none) := (rfl)
@[simp] theorem kLet_bk (j τ) : kLet j (.bk τ) = .bk (τ.set j none) := (rfl)
@[simp] theorem kLet_ct (j τ) : kLet j (.ct τ) = .ct (τ.set j none) := (rfl)
@[simp] theorem kLet_ex (j c fs τ) : kLet j (.ex c fs τ) = .ex c fs (τ.set j none) := (rfl)
@[simp] theorem kLet_rt (j p) : kLet j (.rt p) = .rt p := (rfl)
@[simp] theorem pMulA_int (i j : Int) : pMulA (.int i) (.int j) = pMul (.int i) (.int j) := by
  unfold pMulA orP
  by_cases h : CMul i j
  · rw [show pMul (.int i) (.int j) = some (.int (i * j)) from by show (if _ then _ else _) = _; rw [if_pos h]]
  · rw [show pMul (.int i) (.int j) = none from by show (if _ then _ else _) = _; rw [if_neg h]]; rfl
theorem pMulA_lst {xs : List PV} {k : Int} (h : 0 ≤ k ∧ k ≤ 1000 ∧ xs.length ≤ 1000) : pMulA (.lst xs) (.int k) = some (.lst (List.replicate k.toNat xs).flatten) := by
  show (if _ then _ else _) = _
  rw [if_pos h]
theorem pMulA_str {z : Str} {k : Int} (h : 0 ≤ k ∧ k ≤ 1000 ∧ z.length ≤ 1000) : pMulA (.str z) (.int k) = some (.str (timesS z k)) := by
  show (if _ then _ else _) = _
  rw [if_pos h]
/-! statements -/
def Fl.next (r : Fl) (m : LE → Fl) : Fl := match r with
  | .nx τ => m τ
  | r => r
@[simp] theorem next_nx (τ m) : Fl.next (.nx τ) m = m τ := (rfl)
@[simp] theorem next_rt (p m) : Fl.next (.rt p) m = .rt p := (rfl)
@[simp] theorem next_bk (p m) : Fl.next (.bk p) m = .bk p := (rfl)
@[simp] theorem next_ct (p m) : Fl.next (.ct p) m = .ct p := (rfl)
@[simp] theorem next_ex (c fs τ m) : Fl.next (.ex c fs τ) m = .ex c fs τ := (rfl)
@[simp] theorem next_bad (m) : Fl.next .bad m = .bad := (rfl)
@[simp] theorem sSeq_s (m1 m2) (τ : LE) : sSeq m1 m2 τ = (m1 τ).next m2 := by
  unfold sSeq Fl.next
  cases m1 τ <;> rfl
@[simp] theorem sNil_s (τ : LE) : sNil τ = .nx τ := (rfl)
@[simp] theorem sIf_s (t m1 m2) (τ : LE) : sIf t m1 m2 τ = rs (t τ) τ fun b => if b = true then m1 τ else m2 τ := (rfl)
@[simp] theorem sRet_s (f) (τ : LE) : sRet f τ = rs (f τ) τ .rt := (rfl)
@[simp] theorem sRetN_s (τ : LE) : sRetN τ = .rt .non := (rfl)
@[simp] theorem sExpr_s (f) (τ : LE) : sExpr f τ = rs (f τ) τ fun _ => .nx τ := (rfl)
@[simp] theorem sSet_s (i f) (τ : LE) : sSet i f τ = rs (f τ) τ fun p => if i < τ.length then .nx (τ.set i (some p)) else .bad := (rfl)
@[simp] theorem sAsg_s (f g) (τ : LE) : sAsg f g τ = rs (f τ) τ fun p => rs (g p τ).nx τ .nx := (rfl)
@[simp] theorem sExprM_s (f) (τ : LE) : sExprM f τ = rs (f τ) τ fun r => .nx r.2 := (rfl)
@[simp] theorem sSetM_s (j f) (τ : LE) : sSetM j f τ = rs (f τ) τ fun r => if j < r.2.length then .nx (r.2.set j (some r.1)) else .bad := (rfl)
def kMut (i : Nat) (g : List PV → List PV → Option (List PV × PV)) (a : Res (List PV)) (τ : LE) : Option (Option PV) → Res (PV × LE)
  | some (some (.lst ps)) => a >>= fun qs => match g ps qs with
    | some (ps', z) => .ok (z, τ.set i (some (.lst ps')))
    | none => .bad
  | _ => .bad
@[simp] theorem kMut_lst (i g a τ ps) : kMut i g a τ (some (some (.lst ps))) = (a >>= fun qs => match g ps qs with
    | some (ps', z) => .ok (z, τ.set i (some (.lst ps')))
    | none => .bad) := (rfl)
@[simp] theorem eMut_s (i g f) (τ : LE) : eMut i g f τ = kMut i g (f τ) τ τ[i]? := by
  unfold eMut
  rcases τ[i]? with _ | _ | p
  · rfl
  · rfl
  · cases p <;> rfl
theorem gApp_s {ps : List PV} {q : PV} (h : ps.length < 1000000) : gApp ps [q] = some (ps ++ [q], .non) := by
  unfold gApp
  exact if_pos h
@[simp] theorem sRaise_s (c fld f) (τ : LE) : sRaise c fld f τ = rs (f τ) τ fun p => .ex c [(fld, p)] τ := (rfl)
@[simp] theorem fin_rt (m p) : fin m (.rt p) = .ok p := (rfl)
@[simp] theorem fin_ex (m c fs τ) : fin m (.ex c fs τ) = .exc c fs := (rfl)
@[simp] theorem fin_nx (τ) : fin .sh (.nx τ) = .ok .non := (rfl)
@[simp] theorem sFld_s (i cl f fe) (τ : LE) : sFld i cl f fe τ = rs (fe τ) τ fun p => onIns τ[i]? fun c fs => if c = cl ∧ fs.length < 1000 then .nx (τ.set i (some (.ins c (putP f p fs)))) else .bad := (rfl)
def kTryA (cov : Nat → Option Bool) (i : Nat) (ms : Addr → Addr → Nat → LE → Fl) : Fl → Fl
  | .ex c fs τ1 => match cov c with
    | some true => if i < τ1.length then tidy i (ms 0 0 c (τ1.set i (some (.exn 0 0 c fs)))) else .bad
    | some false => .ex c fs τ1
    | none => .bad
  | r => r
@[simp] theorem sTryA_s (cov i mb ms) (τ : LE) : sTryA cov i mb ms τ = kTryA cov i ms (mb τ) := by
  unfold sTryA
  cases mb τ <;> rfl
@[simp] theorem kTryA_rt (cov i ms p) : kTryA cov i ms (.rt p) = .rt p := (rfl)
@[simp] theorem kTryA_nx (cov i ms p) : kTryA cov i ms (.nx p) = .nx p := (rfl)
@[simp] theorem kTryA_ct (cov i ms p) : kTryA cov i ms (.ct p) = .ct p := (rfl)
@[simp] theorem kTryA_bk (cov i ms p) : kTryA cov i ms (.bk p) = .bk p := (rfl)
@[simp] theorem kTryA_ex (cov i ms c fs τ1) : kTryA cov i ms (.ex c fs τ1) = match cov c with
    | some true => if i < τ1.length then tidy i (ms 0 0 c (τ1.set i (some (.exn 0 0 c fs)))) else .bad
    | some false => .ex c fs τ1
    | none => .bad := (rfl)
def kTryO (cov : Nat → Option Bool) (ms : LE → Fl) : Fl → Fl
  | .ex c fs τ1 => match cov c with
    | some true => noEx (ms τ1)
    | some false => .ex c fs τ1
    | none => .bad
  | r => r
@[simp] theorem sTryO_s (cov mb ms) (τ : LE) : sTryO cov mb ms τ = kTryO cov ms (mb τ) := by
  unfold sTryO
  cases mb τ <;> rfl
@[simp] theorem kTryO_rt (cov ms p) : kTryO cov ms (.rt p) = .rt p := (rfl)
@[simp] theorem kTryO_nx (cov ms p) : kTryO cov ms (.nx p) = .nx p := (rfl)
@[simp] theorem kTryO_ct (cov ms p) : kTryO cov ms (.ct p) = .ct p := (rfl)
@[simp] theorem kTryO_bk (cov ms p) : kTryO cov ms (.bk p) = .bk p := (rfl)
@[simp] theorem kTryO_ex (cov ms c fs τ1) : kTryO cov ms (.ex c fs τ1) = match cov c with
    | some true => noEx (ms τ1)
    | some false => .ex c fs τ1
    | none => .bad := (rfl)
@[simp] theorem tidy_nx (i τ) : tidy i (.nx τ) = .nx (τ.set i none) := (rfl)
@[simp] theorem tidy_ct (i τ) : tidy i (.ct τ) = .ct (τ.set i none) := (rfl)
@[simp] theorem tidy_bk (i τ) : tidy i (.bk τ) = .bk (τ.set i none) := (rfl)
@[simp] theorem tidy_rt (i p) : tidy i (.rt p) = .rt p := (rfl)
@[simp] theorem noEx_nx (τ) : noEx (.nx τ) = .nx τ := (rfl)
@[simp] theorem noEx_ct (τ) : noEx (.ct τ) = .ct τ := (rfl)
@[simp] theorem noEx_bk (τ) : noEx (.bk τ) = .bk τ := (rfl)
@[simp] theorem noEx_rt (p) : noEx (.rt p) = .rt p := (rfl)
def kAt (k : List (Str × PV) → Res PV) (a d : Addr) : Option (Option PV) → Res PV
  | some (some (.exn a' d' _ fs)) => if a' = a ∧ d' = d then k fs else .bad
  | _ => .bad
@[simp] theorem kAt_exn (k a d a' d' c fs) : kAt k a d (some (some (.exn a' d' c fs))) = if a' = a ∧ d' = d then k fs else .bad := (rfl)
@[simp] theorem eAt_s (a d i k) (τ : LE) : eAt a d i k τ = kAt k a d τ[i]? := by
  unfold eAt
  rcases τ[i]? with _ | _ | p
  · rfl
  · rfl
  · cases p <;> rfl
@[simp] theorem xGet_s (f fs) : xGet f fs = up (fs.lookup f) := by
  unfold xGet
  cases fs.lookup f <;> rfl
def kAtt (ok : Nat → Bool) (f : Str) : PV → Res PV
  | .ins c fs => if ok c = true then up (fs.lookup f) else .bad
  | _ => .bad
@[simp] theorem kAtt_ins (ok f c fs) : kAtt ok f (.ins c fs) = if ok c = true then up (fs.lookup f) else .bad := (rfl)
@[simp] theorem eAtt_s (ok f fe) (τ : LE) : eAtt ok f fe τ = (fe τ >>= kAtt ok f) := by
  unfold eAtt
  congr 1
  funext p
  cases p <;> try rfl
  unfold kAtt
  dsimp only
  split
  · cases List.lookup f _ <;> rfl
  · rfl
end evals
section sats
/-- what is promised of an end -/
structure Pst where
  nx : LE → Prop := fun _ => False
  rt : PV → Prop := fun _ => False
  bk : LE → Prop := fun _ => False
  ct : LE → Prop := fun _ => False
  ex : Nat → List (Str × PV) → LE → Prop := fun _ _ _ => False
def Fl.sat (r : Fl) (D : Pst) : Prop := match r with
  | .nx τ => D.nx τ
  | .rt p => D.rt p
  | .bk τ => D.bk τ
  | .ct τ => D.ct τ
  | .ex c fs τ => D.ex c fs τ
  | .bad => False
variable {D E : Pst} {τ : LE} {r : Fl} {m : LE → Fl} {it : LE → Res (List PV)} {g : PV → LE → Res LE} {body : LE → Fl} {ps : List PV}
@[simp] theorem sat_nx : (Fl.nx τ).sat D = D.nx τ := (rfl)
@[simp] theorem sat_rt {p} : (Fl.rt p).sat D = D.rt p := (rfl)
@[simp] theorem sat_bk : (Fl.bk τ).sat D = D.bk τ := (rfl)
@[simp] theorem sat_ct : (Fl.ct τ).sat D = D.ct τ := (rfl)
@[simp] theorem sat_ex {c fs} : (Fl.ex c fs τ).sat D = D.ex c fs τ := (rfl)
@[simp] theorem sat_bad : Fl.bad.sat D = False := (rfl)
theorem Fl.sat.mono (h : r.sat D) (h1 : ∀ τ, D.nx τ → E.nx τ) (h2 : ∀ p, D.rt p → E.rt p) (h3 : ∀ τ, D.bk τ → E.bk τ) (h4 : ∀ τ, D.ct τ → E.ct τ) (h5 : ∀ c fs τ, D.ex c fs τ → E.ex c fs τ) : r.sat E := by
  cases r with
  | nx τ => exact h1 _ h
  | rt p => exact h2 _ h
  | bk τ => exact h3 _ h
  | ct τ => exact h4 _ h
  | ex c fs τ => exact h5 _ _ _ h
  | bad => exact h
theorem sat_next (h : r.sat { D with nx := fun τ => (m τ).sat D }) : (r.next m).sat D := by
  cases r <;> exact h
theorem forL_sat {α : Type} (enc : α → PV) (I : Nat → LE → Prop) : ∀ (xs : List α) (n : Nat) (τ : LE), I n τ → (∀ k (hk : k < xs.length) τ, I (n + k) τ → ∃ τ1, g (enc xs[k]) τ = .ok τ1 ∧ (body τ1).sat { nx := I (n + k + 1), ct := I (n + k + 1), bk := D.nx, rt := D.rt, ex := D.ex }) →
    (∀ τ, I (n + xs.length) τ → D.nx τ) → (forL g body (xs.map enc) τ).sat D
  | [], n, τ, h0, _, he => he τ h0
  | x :: xs, n, τ, h0, hs, he => by
    obtain ⟨τ1, e1, s1⟩ := hs 0 (by simp) τ h0
    rw [List.map_cons, forL]
    simp only [List.getElem_cons_zero] at e1
    rw [e1]
    simp only [Res.nx_ok, rs_ok]
    have ih := fun τ h => forL_sat enc I xs (n + 1) τ h (fun k hk τ' h' => by
      obtain ⟨τ2, e2, s2⟩ := hs (k + 1) (by simpa using hk) τ' (by rw [show n + (k + 1) = n + 1 + k by omega]; exact h')
      rw [show n + (k + 1) = n + 1 + k by omega] at s2
      exact ⟨τ2, by simpa using e2, s2⟩) (fun τ' h' => he τ' (by rw [List.length_cons, show n + (xs.length + 1) = n + 1 + xs.length by omega]; exact h'))
    cases hb : body τ1 with
    | nx τ2 => rw [hb] at s1; exact ih τ2 s1
    | ct τ2 => rw [hb] at s1; exact ih τ2 s1
    | bk τ2 => rw [hb] at s1; exact s1
    | rt p => rw [hb] at s1; exact s1
    | ex c fs τ2 => rw [hb] at s1; exact s1
    | bad => rw [hb] at s1; exact s1
/-- a for loop over coded items by an invariant of how many are done -/
theorem for_sat {α : Type} (xs : List α) (enc : α → PV) (I : Nat → LE → Prop) (h : it τ = .ok (xs.map enc)) (h0 : I 0 τ)
    (hs : ∀ k (hk : k < xs.length) τ, I k τ → ∃ τ1, g (enc xs[k]) τ = .ok τ1 ∧ (body τ1).sat { nx := I (k + 1), ct := I (k + 1), bk := D.nx, rt := D.rt, ex := D.ex })
    (he : ∀ τ, I xs.length τ → D.nx τ) : (sFor it g body τ).sat D := by
  unfold sFor
  rw [h, rs_ok]
  exact forL_sat enc I xs 0 τ h0 (fun k hk τ h => by
    rw [Nat.zero_add] at h ⊢
    exact hs k hk τ h) (fun τ h => he τ (by rw [Nat.zero_add] at h; exact h))
theorem sFor_of (h : it τ = .ok ps) : sFor it g body τ = forL g body ps τ := by unfold sFor; rw [h]; rfl
theorem while_sat {t : LE → Res Bool} (I : Nat → LE → Prop) : ∀ (n : Nat) (τ : LE), I n τ → (∀ n τ, I n τ → ∃ b, t τ = .ok b ∧ if b = true then ∃ k, n = k + 1 ∧ (body τ).sat { nx := I k, ct := I k, bk := D.nx, rt := D.rt, ex := D.ex } else 0 < n ∧ D.nx τ) → (whileL t body n τ).sat D
  | 0, τ, h, hs => by
    obtain ⟨b, _, h2⟩ := hs 0 τ h
    cases b
    · exact absurd h2.1 (by omega)
    · obtain ⟨k, e, _⟩ := h2; omega
  | n + 1, τ, h, hs => by
    obtain ⟨b, e, h2⟩ := hs (n + 1) τ h
    unfold whileL
    rw [e, rs_ok]
    cases b
    · exact h2.2
    · obtain ⟨k, ek, s1⟩ := h2
      obtain rfl : n = k := by omega
      rw [if_pos rfl]
      have ih := fun τ h => while_sat I n τ h hs
      cases hb : body τ with
      | nx τ2 => rw [hb] at s1; exact ih τ2 s1
      | ct τ2 => rw [hb] at s1; exact ih τ2 s1
      | bk τ2 => rw [hb] at s1; exact s1
      | rt p => rw [hb] at s1; exact s1
      | ex c fs τ2 => rw [hb] at s1; exact s1
      | bad => rw [hb] at s1; exact s1
theorem fin_sat {rm : Mode} {P : PV → Prop} (h : r.sat { rt := P }) : ∃ v, fin rm r = .ok v ∧ P v := by
  cases r with
  | rt p => exact ⟨p, rfl, h⟩
  | _ => exact h.elim
theorem fin_eq {rm : Mode} {v : PV} (h : r.sat { rt := fun p => p = v }) : fin rm r = .ok v := by
  obtain ⟨w, e, rfl⟩ := fin_sat (rm := rm) h
  exact e
theorem finI_eq {v : PV} (h : r.sat { nx := fun τ => τ[0]? = some (some v) }) : finI r = .ok v := by
  cases r with
  | nx τ =>
    have h : τ[0]? = some (some v) := h
    show (match τ[0]? with
      | some (some p) => Res.ok p
      | _ => .bad) = _
    rw [h]
  | _ => exact h.elim
end sats
section comps
variable {τ : LE} {it : LE → Res (List PV)} {tgt : PV → LE → Res LE} {cond : LE → Res Bool} {elt : LE → Res PV} {own : List Nat}
/-- what one item of a comprehension gives -/
def cItem (tgt : PV → LE → Res LE) (cond : LE → Res Bool) (elt : LE → Res PV) (τ : LE) (p : PV) : Res (Option PV) :=
  tgt p τ >>= fun τ1 => cond τ1 >>= fun b => if b = true then elt τ1 >>= fun v => .ok (some v) else .ok none
theorem compL_item {p : PV} {ps : List PV} {o : Option PV} (h : cItem tgt cond elt τ p = .ok o) : compL tgt cond elt τ (p :: ps) = (compL tgt cond elt τ ps >>= fun r => .ok (o.toList ++ r)) := by
  unfold cItem at h
  rw [compL]
  cases h1 : tgt p τ with
  | exc c fs => rw [h1] at h; cases h
  | bad => rw [h1] at h; cases h
  | ok τ1 =>
    rw [h1, Res.ok_bind] at h
    rw [Res.nx_ok, Res.ok_bind]
    cases h2 : cond τ1 with
    | exc c fs => rw [h2] at h; cases h
    | bad => rw [h2] at h; cases h
    | ok b =>
      rw [h2, Res.ok_bind] at h
      rw [Res.nx_ok, Res.ok_bind]
      cases b
      · cases h
        rw [if_neg (by decide)]
        cases compL tgt cond elt τ ps <;> rfl
      · rw [if_pos rfl] at h ⊢
        cases h3 : elt τ1 with
        | exc c fs => rw [h3] at h; cases h
        | bad => rw [h3] at h; cases h
        | ok v =>
          rw [h3, Res.ok_bind] at h
          cases h
          rfl
theorem compL_map {α : Type} (enc : α → PV) (f : α → Option PV) : ∀ xs : List α, (∀ x ∈ xs, cItem tgt cond elt τ (enc x) = .ok (f x)) → compL tgt cond elt τ (xs.map enc) = .ok (xs.filterMap f)
  | [], _ => rfl
  | x :: xs, h => by
    rw [List.map_cons, compL_item (h x List.mem_cons_self), compL_map enc f xs fun y hy => h y (List.mem_cons_of_mem _ hy), Res.ok_bind, List.filterMap_cons]
    cases f x <;> rfl
theorem comp_opt {α : Type} (xs : List α) (enc : α → PV) (f : α → Option PV) (h : it τ = .ok (xs.map enc)) (hs : ∀ x ∈ xs, cItem tgt cond elt (wipeL τ own) (enc x) = .ok (f x)) : eComp own it tgt cond elt τ = .ok (.lst (xs.filterMap f)) := by
  unfold eComp
  rw [h, Res.ok_bind, compL_map enc f xs hs]
  rfl
theorem comp_map {α : Type} (xs : List α) (enc f : α → PV) (h : it τ = .ok (xs.map enc)) (hs : ∀ x ∈ xs, cItem tgt cond elt (wipeL τ own) (enc x) = .ok (some (f x))) : eComp own it tgt cond elt τ = .ok (.lst (xs.map f)) := by
  rw [comp_opt xs enc (fun x => some (f x)) h hs, List.filterMap_eq_map' ]
theorem comp_filter {α : Type} (xs : List α) (enc f : α → PV) (c : α → Bool) (h : it τ = .ok (xs.map enc)) (hs : ∀ x ∈ xs, cItem tgt cond elt (wipeL τ own) (enc x) = .ok (if c x = true then some (f x) else none)) : eComp own it tgt cond elt τ = .ok (.lst ((xs.filter c).map f)) := by
  rw [comp_opt xs enc _ h hs]
  congr 2
  clear h hs
  induction xs with
  | nil => rfl
  | cons x xs ih =>
    rw [List.filterMap_cons, List.filter_cons]
    cases c x
    · exact ih
    · simp [ih]
def kC2 (it1 : LE → Res (List PV)) (own1 : List Nat) (tgt1 : PV → LE → Res LE) (cond1 : LE → Res Bool) (elt : LE → Res PV) (tgt : PV → LE → Res LE) (cond : LE → Res Bool) (τ : LE) (p : PV) : Res (List PV) :=
  tgt p τ >>= fun τ1 => cond τ1 >>= fun b => if b = true then it1 τ1 >>= fun qs => compL tgt1 cond1 elt (wipeL τ1 own1) qs else .ok []
variable {it1 : LE → Res (List PV)} {own1 : List Nat} {tgt1 : PV → LE → Res LE} {cond1 : LE → Res Bool}
theorem compL2_item {p : PV} {ps o : List PV} (h : kC2 it1 own1 tgt1 cond1 elt tgt cond τ p = .ok o) : compL2 tgt cond it1 own1 tgt1 cond1 elt τ (p :: ps) = (compL2 tgt cond it1 own1 tgt1 cond1 elt τ ps >>= fun r => .ok (o ++ r)) := by
  unfold kC2 at h
  rw [compL2]
  cases h1 : tgt p τ with
  | exc c fs => rw [h1] at h; cases h
  | bad => rw [h1] at h; cases h
  | ok τ1 =>
    rw [h1, Res.ok_bind] at h
    rw [Res.nx_ok, Res.ok_bind]
    cases h2 : cond τ1 with
    | exc c fs => rw [h2] at h; cases h
    | bad => rw [h2] at h; cases h
    | ok b =>
      rw [h2, Res.ok_bind] at h
      rw [Res.nx_ok, Res.ok_bind]
      cases b
      · cases h
        rw [if_neg (by decide)]
        cases compL2 tgt cond it1 own1 tgt1 cond1 elt τ ps <;> rfl
      · rw [if_pos rfl] at h ⊢
        cases h3 : it1 τ1 with
        | exc c fs => rw [h3] at h; cases h
        | bad => rw [h3] at h; cases h
        | ok qs =>
          rw [h3, Res.ok_bind] at h
          rw [Res.nx_ok, Res.ok_bind, h, Res.ok_bind]
theorem compL2_map {α : Type} (enc : α → PV) (f : α → List PV) : ∀ xs : List α, (∀ x ∈ xs, kC2 it1 own1 tgt1 cond1 elt tgt cond τ (enc x) = .ok (f x)) → compL2 tgt cond it1 own1 tgt1 cond1 elt τ (xs.map enc) = .ok (xs.flatMap f)
  | [], _ => rfl
  | x :: xs, h => by
    rw [List.map_cons, compL2_item (h x List.mem_cons_self), compL2_map enc f xs fun y hy => h y (List.mem_cons_of_mem _ hy), Res.ok_bind, List.flatMap_cons]
theorem comp2_map {α : Type} (xs : List α) (enc : α → PV) (f : α → List PV) (h : it τ = .ok (xs.map enc)) (hs : ∀ x ∈ xs, kC2 it1 own1 tgt1 cond1 elt tgt cond (wipeL τ own) (enc x) = .ok (f x)) (hl : (xs.flatMap f).length ≤ 1000000) :
    eComp2 own it tgt cond it1 own1 tgt1 cond1 elt τ = .ok (.lst (xs.flatMap f)) := by
  unfold eComp2
  rw [h, Res.ok_bind, compL2_map enc f xs hs, Res.nx_ok, Res.ok_bind, if_pos hl]
/-! dict comprehensions -/
def dItem (tgt : PV → LE → Res LE) (cond : LE → Res Bool) (ek ev : LE → Res PV) (τ : LE) (p : PV) : Res (PV × PV) :=
  tgt p τ >>= fun τ1 => cond τ1 >>= fun b => if b = true then ek τ1 >>= fun k => ev τ1 >>= fun v => .ok (k, v) else .bad
theorem dcL_map {α : Type} {ek ev : LE → Res PV} (enc : α → PV) (kf : α → PV) (key : α → Key) (val : α → PV) (hk : ∀ x, keyP (kf x) = some (key x)) : ∀ (xs : List α) (acc : List (Key × PV)), (∀ x ∈ xs, dItem tgt cond ek ev τ (enc x) = .ok (kf x, val x)) → dcL tgt cond ek ev τ acc (xs.map enc) = .ok (xs.foldl (fun d x => setP d (key x) (val x)) acc)
  | [], _, _ => by rw [List.map_nil, dcL]; rfl
  | x :: xs, acc, h => by
    have h0 := h x List.mem_cons_self
    have ih := dcL_map enc kf key val hk xs (setP acc (key x) (val x)) fun y hy => h y (List.mem_cons_of_mem _ hy)
    rw [List.map_cons, dcL, List.foldl_cons, ← ih]
    unfold dItem at h0
    cases h1 : tgt (enc x) τ with
    | exc c fs => rw [h1] at h0; cases h0
    | bad => rw [h1] at h0; cases h0
    | ok τ1 =>
      rw [h1, Res.ok_bind] at h0
      rw [Res.nx_ok, Res.ok_bind]
      cases h2 : cond τ1 with
      | exc c fs => rw [h2] at h0; cases h0
      | bad => rw [h2] at h0; cases h0
      | ok b =>
        rw [h2, Res.ok_bind] at h0
        rw [Res.nx_ok, Res.ok_bind]
        cases b
        · cases h0
        · rw [if_pos rfl] at h0 ⊢
          cases h3 : ek τ1 with
          | exc c fs => rw [h3] at h0; cases h0
          | bad => rw [h3] at h0; cases h0
          | ok k =>
            rw [h3, Res.ok_bind] at h0
            rw [Res.nx_ok, Res.ok_bind]
            cases h4 : ev τ1 with
            | exc c fs => rw [h4] at h0; cases h0
            | bad => rw [h4] at h0; cases h0
            | ok v =>
              rw [h4, Res.ok_bind] at h0
              cases h0
              rw [Res.nx_ok, Res.ok_bind, hk x]
theorem dcomp_map {α : Type} {ek ev : LE → Res PV} (xs : List α) (enc kf : α → PV) (key : α → Key) (val : α → PV) (hk : ∀ x, keyP (kf x) = some (key x)) (h : it τ = .ok (xs.map enc)) (hs : ∀ x ∈ xs, dItem tgt cond ek ev (wipeL τ own) (enc x) = .ok (kf x, val x)) :
    eDComp own it tgt cond ek ev τ = .ok (.dK (xs.foldl (fun d x => setP d (key x) (val x)) [])) := by
  unfold eDComp
  rw [h, Res.ok_bind, dcL_map enc kf key val hk xs [] hs]
  rfl
theorem hasP_iff {d : List (Key × PV)} {k : Key} : hasP d k = true ↔ k ∈ d.map (·.1) := by
  simp [hasP, List.mem_map]
/-- unlike keys: the dict stands in their order -/
theorem foldl_setP {α : Type} (key : α → Key) (val : α → PV) : ∀ (xs : List α) (acc : List (Key × PV)), (xs.map key).Nodup → (∀ x ∈ xs, key x ∉ acc.map (·.1)) → xs.foldl (fun d x => setP d (key x) (val x)) acc = acc ++ xs.map fun x => (key x, val x)
  | [], acc, _, _ => by simp
  | x :: xs, acc, hn, h => by
    rw [List.map_cons, List.nodup_cons] at hn
    have hx : hasP acc (key x) = false := by
      have := h x List.mem_cons_self
      rw [← hasP_iff] at this
      simpa using this
    have hs : setP acc (key x) (val x) = acc ++ [(key x, val x)] := by
      unfold setP
      rw [hx]
      rfl
    rw [List.foldl_cons, hs, foldl_setP key val xs _ hn.2 fun y hy => ?_]
    · simp
    · rw [List.map_append, List.mem_append]
      rintro (h1 | h1)
      · exact h y (List.mem_cons_of_mem _ hy) h1
      · simp only [List.map_cons, List.map_nil, List.mem_singleton] at h1
        exact hn.1 (List.mem_map.mpr ⟨y, hy, h1⟩)
theorem blsOf_map {α : Type} (c : α → Bool) : ∀ xs : List α, blsOf (xs.map fun x => .bl (c x)) = some (xs.map c)
  | [] => rfl
  | x :: xs => by rw [List.map_cons, blsOf, blsOf_map c xs]; rfl
theorem pAll_map {α : Type} (c : α → Bool) (xs : List α) : pAll [.lst (xs.map fun x => .bl (c x))] = some (.bl (xs.all c)) := by
  show (blsOf (xs.map fun x => PV.bl (c x))).map (fun bs => PV.bl (bs.all _root_.id)) = _
  rw [blsOf_map]
  simp [List.all_map, Function.comp_def]
theorem pAny_map {α : Type} (c : α → Bool) (xs : List α) : pAny [.lst (xs.map fun x => .bl (c x))] = some (.bl (xs.any c)) := by
  show (blsOf (xs.map fun x => PV.bl (c x))).map (fun bs => PV.bl (bs.any _root_.id)) = _
  rw [blsOf_map]
  simp [List.any_map, Function.comp_def]
theorem atN {α : Type} (xs : List α) (k : Nat) : atI xs ((k : Nat) : Int) = xs[k]? := by
  unfold atI ixN
  rw [if_pos (by omega)]
  by_cases h : k < xs.length
  · rw [if_pos (by omega)]; rfl
  · rw [if_neg (by omega), List.getElem?_eq_none (by omega)]; rfl
theorem atI_pos {α : Type} (xs : List α) {i : Int} (h : 0 ≤ i) : atI xs i = xs[i.toNat]? := by
  obtain ⟨k, rfl⟩ := Int.eq_ofNat_of_zero_le h
  rw [atN]; rfl
@[simp] theorem atI_c0 {α : Type} (x : α) (xs : List α) : atI (x :: xs) 0 = some x := atN (x :: xs) 0
@[simp] theorem atI_c1 {α : Type} (x y : α) (xs : List α) : atI (x :: y :: xs) 1 = some y := atN (x :: y :: xs) 1
@[simp] theorem atI_c2 {α : Type} (x y z : α) (xs : List α) : atI (x :: y :: z :: xs) 2 = some z := atN (x :: y :: z :: xs) 2
@[simp] theorem atI_c3 {α : Type} (x y z w : α) (xs : List α) : atI (x :: y :: z :: w :: xs) 3 = some w := atN (x :: y :: z :: w :: xs) 3
theorem pR1_le (n : Nat) (h : n ≤ 1000000) : pR1 [.int (n : Nat)] = some ((List.range n).map fun i => .int (i : Nat)) := by
  show (if -(2 ^ 62) ≤ (n : Int) ∧ (n : Int) ≤ 1000000 then some (rngP 0 (n : Int).toNat) else none) = _
  rw [if_pos (by omega)]
  simp [rngP]
@[simp] theorem pSlA_lst (xs : List PV) (lo hi) : pSlA (.lst xs) lo hi = some (.lst (cut xs lo hi)) := (rfl)
@[simp] theorem pSlA_tup (xs : List PV) (lo hi) : pSlA (.tup xs) lo hi = some (.tup (cut xs lo hi)) := (rfl)
theorem cut_nn {α : Type} (xs : List α) {a b : Int} (ha : 0 ≤ a) (hb : 0 ≤ b) : cut xs (some a) (some b) = (xs.drop a.toNat).take (b.toNat - a.toNat) := by
  obtain ⟨a, rfl⟩ := Int.eq_ofNat_of_zero_le ha
  obtain ⟨b, rfl⟩ := Int.eq_ofNat_of_zero_le hb
  unfold cut
  rw [HT.sIx_nat, HT.sIx_nat, Int.toNat_natCast, Int.toNat_natCast]
  by_cases h : a ≤ xs.length
  · rw [Nat.min_eq_left h]
    by_cases h2 : b ≤ xs.length
    · rw [Nat.min_eq_left h2]
    · rw [Nat.min_eq_right (by omega), List.take_of_length_le (by rw [List.length_drop]; omega), List.take_of_length_le (by rw [List.length_drop]; omega)]
  · rw [Nat.min_eq_right (a := a) (by omega), List.drop_of_length_le (Nat.le_refl _), List.drop_of_length_le (i := a) (by omega)]
    simp
theorem cut_lo {α : Type} (xs : List α) {b : Int} (hb : 0 ≤ b) : cut xs none (some b) = xs.take b.toNat := by
  obtain ⟨b, rfl⟩ := Int.eq_ofNat_of_zero_le hb
  unfold cut
  rw [HT.sIx_nat, HT.sIx_none, Int.toNat_natCast, List.drop_zero, Nat.sub_zero]
  by_cases h : b ≤ xs.length
  · rw [Nat.min_eq_left h]
  · rw [Nat.min_eq_right (by omega), List.take_of_length_le (Nat.le_refl _), List.take_of_length_le (by omega)]
theorem cut_hi {α : Type} (xs : List α) {a : Int} (ha : 0 ≤ a) : cut xs (some a) none = xs.drop a.toNat := by
  obtain ⟨a, rfl⟩ := Int.eq_ofNat_of_zero_le ha
  unfold cut
  rw [HT.sIx_nat, HT.sIx_none, Int.toNat_natCast]
  by_cases h : a ≤ xs.length
  · rw [Nat.min_eq_left h, List.take_of_length_le (by rw [List.length_drop]; omega)]
  · rw [Nat.min_eq_right (by omega), List.drop_of_length_le (Nat.le_refl _), List.drop_of_length_le (i := a) (by omega)]
    simp
theorem cut_m1 {α : Type} (xs : List α) : cut xs none (some (-1)) = xs.dropLast := by
  unfold cut
  have e : HT.sIx xs.length xs.length (some (-1)) = xs.length - 1 := by
    show (if (-1 : Int) < 0 then (-1 + (xs.length : Int)).toNat else min (-1 : Int).toNat xs.length) = _
    rw [if_pos (by decide)]; omega
  rw [e, HT.sIx_none, List.drop_zero, Nat.sub_zero, List.dropLast_eq_take]
theorem cut_last {α : Type} (xs : List α) : cut xs (some (-1)) none = xs.getLast?.toList := by
  unfold cut
  have e : HT.sIx xs.length 0 (some (-1)) = xs.length - 1 := by
    show (if (-1 : Int) < 0 then (-1 + (xs.length : Int)).toNat else min (-1 : Int).toNat xs.length) = _
    rw [if_pos (by decide)]; omega
  rw [e, HT.sIx_none]
  by_cases h : xs = []
  · subst h; rfl
  · have hl : 0 < xs.length := List.length_pos_iff.mpr h
    rw [List.take_of_length_le (by rw [List.length_drop]; omega), List.getLast?_eq_getElem?, List.getElem?_eq_getElem (by omega), List.drop_eq_getElem_cons (by omega)]
    rw [List.drop_of_length_le (by omega)]
    rfl
theorem atLast {α : Type} (xs : List α) : atI xs (-1) = xs.getLast? := by
  unfold atI ixN
  rw [if_neg (by decide), List.getLast?_eq_getElem?]
  by_cases h : xs = []
  · subst h; rfl
  · have hl : 0 < xs.length := List.length_pos_iff.mpr h
    rw [if_pos (by omega)]
    show xs[(-1 + (xs.length : Int)).toNat]? = _
    congr 1
    omega
end comps
end Lp
end
section
set_option Elab.async false
set_option linter.all false
set_option maxRecDepth 100000
namespace Lp
open PySem PySem.Spec L2
def isI (lo hi : Int) (p : PV) : Prop := ∃ i, p = .int i ∧ lo ≤ i ∧ i < hi
/-- the text of some letters -/
def tx (l : List (Fin 26)) : Str := ⟨(l.map fun i => 97 + i.val).toArray⟩
def sg (i : Fin 26) : Str := ⟨#[97 + i.val]⟩
theorem sg_in : ∀ i : Fin 26, Lp.subIn (sg i) ("abcdefghijklmnopqrstuvwxyz" : Str) = true := by decide +kernel
theorem signs_tx (l : List (Fin 26)) : signsP (tx l) = l.map fun i => .str (sg i) := by
  simp [signsP, tx, sg, Function.comp_def]
theorem len_tx (l : List (Fin 26)) : (tx l).length = l.length := by simp [tx, Str.length]
theorem tx_inj {l m : List (Fin 26)} (h : tx l = tx m) : l = m := by
  unfold tx at h
  simp only [Str.mk.injEq] at h
  have h2 : l.map (fun i => 97 + i.val) = m.map (fun i => 97 + i.val) := by simpa using congrArg Array.toList h
  refine (List.map_inj_right (f := fun i : Fin 26 => 97 + i.val) fun a b e => ?_).mp h2
  exact Fin.ext (by omega)
theorem tx_app (l m : List (Fin 26)) : tx l ++ tx m = tx (l ++ m) := by
  show Str.mk _ = _
  simp [tx]
theorem bls_true {α : Type} : ∀ l : List α, blsOf (l.map fun _ => PV.bl true) = some (l.map fun _ => true)
  | [] => rfl
  | a :: l => by rw [List.map_cons, blsOf, bls_true l]; rfl
theorem all_true {α : Type} (l : List α) : pAll [.lst (l.map fun _ => PV.bl true)] = some (.bl true) := by
  show (blsOf (l.map fun _ => PV.bl true)).map (fun bs => PV.bl (bs.all _root_.id)) = _
  rw [bls_true]
  simp
def ltrs : PV := .str ("abcdefghijklmnopqrstuvwxyz" : Str)
theorem ltr_at : ∀ i : Fin 26, pIx ltrs (.int (i.val : Nat)) = some (.str (sg i)) := by
  intro i
  have hs : (("abcdefghijklmnopqrstuvwxyz" : Str)).length ≤ sizeLine := by rw [sizeLine_eq]; decide +kernel
  unfold ltrs pIx
  dsimp only
  rw [if_pos hs]
  have : ∀ i : Fin 26, (atI (("abcdefghijklmnopqrstuvwxyz" : Str)).cps.toList ((i.val : Nat) : Int)) = some (97 + i.val) := by decide +kernel
  rw [this i]
  rfl
theorem ltr_mod (x : Int) : ∃ i : Fin 26, pIx ltrs (.int (x % 26)) = some (.str (sg i)) ∧ ((i.val : Nat) : Int) = x % 26 := by
  have h0 : 0 ≤ x % 26 := Int.emod_nonneg _ (by decide)
  have h1 : x % 26 < 26 := Int.emod_lt_of_pos _ (by decide)
  refine ⟨⟨(x % 26).toNat, by omega⟩, ?_, by simp; omega⟩
  have e : x % 26 = (((x % 26).toNat : Nat) : Int) := by omega
  have := ltr_at ⟨(x % 26).toNat, by omega⟩
  rw [← e] at this
  exact this
theorem sg_tx (i : Fin 26) : sg i = tx [i] := rfl
theorem add_tx (l m : List (Fin 26)) (h : l.length + m.length ≤ 1000) : pAddA (.str (tx l)) (.str (tx m)) = some (.str (tx (l ++ m))) := by
  have : (tx l).length + (tx m).length ≤ sizeLine := by rw [len_tx, len_tx, sizeLine_eq]; omega
  simp [pAddA, orP, pAdd, this, tx_app]
theorem mark_at {xs : List PV} {b : Int} (hx : ∀ x ∈ xs, isI 0 b x) {j : Int} (h0 : 0 ≤ j) (h1 : j < xs.length) : ∃ m, pIx (.lst xs) (.int j) = some (.int m) ∧ 0 ≤ m ∧ m < b := by
  have hj : j.toNat < xs.length := by omega
  obtain ⟨m, e, h2, h3⟩ := hx _ (List.getElem_mem hj)
  refine ⟨m, ?_, h2, h3⟩
  show atI xs j = _
  unfold atI ixN
  rw [if_pos h0, if_pos h1, ← e]
  exact List.getElem?_eq_getElem hj
/-- the letter at a place, round -/
def lt (x : Int) : Fin 26 := ⟨(x % 26).toNat, by have := Int.emod_nonneg x (show (26 : Int) ≠ 0 by decide); have := Int.emod_lt_of_pos x (show (0 : Int) < 26 by decide); omega⟩
theorem lt_at (x : Int) : pIx ltrs (.int (x % 26)) = some (.str (sg (lt x))) := by
  obtain ⟨i, h, e⟩ := ltr_mod x
  have : i = lt x := Fin.ext (by show i.val = (x % 26).toNat; omega)
  rw [← this]
  exact h
abbrev Nm := List (Fin 26)
def nm (l : Nm) : PV := .str (tx l)
theorem nm_inj {a b : Nm} (h : nm a = nm b) : a = b := tx_inj (by unfold nm at h; injection h)
theorem eqP_nm (a b : Nm) : eqP (nm a) (nm b) = decide (a = b) := by
  show (tx a == tx b) = _
  by_cases h : a = b
  · subst h; simp
  · have : tx a ≠ tx b := fun e => h (tx_inj e)
    rw [decide_eq_false h]
    exact beq_eq_false_iff_ne.mpr this
def evV (e : Bool × Nm) : PV := .tup [.str (if e.1 = true then ("in" : Str) else ("out" : Str)), nm e.2]
def stepE (h : List Nm) (e : Bool × Nm) : Option (List Nm) := if e.1 = true then (if e.2 ∈ h then none else some (h ++ [e.2])) else (if e.2 ∈ h then some (h.erase e.2) else none)
def runE (h : List Nm) (es : List (Bool × Nm)) : Option (List Nm) := es.foldlM stepE h
theorem runE_snoc {h h1 h2 : List Nm} {es : List (Bool × Nm)} {e : Bool × Nm} (h0 : runE h es = some h1) (hs : stepE h1 e = some h2) : runE h (es ++ [e]) = some h2 := by
  unfold runE at *
  rw [List.foldlM_append, h0]
  simp [hs]
theorem firstP_nm (x : Nm) : ∀ l : List Nm, x ∈ l → ∃ j, firstP (nm x) (l.map nm) = some j ∧ (l.map nm).eraseIdx j = (l.erase x).map nm
  | y :: l, h => by
    unfold firstP
    rw [List.map_cons, List.findIdx?_cons, eqP_nm]
    by_cases e : y = x
    · subst e
      refine ⟨0, by simp, ?_⟩
      simp
    · have hx : x ∈ l := by
        rcases List.mem_cons.mp h with h | h
        · exact absurd h.symm e
        · exact h
      obtain ⟨j, h1, h2⟩ := firstP_nm x l hx
      unfold firstP at h1
      refine ⟨j + 1, by simp [e, h1], ?_⟩
      rw [List.eraseIdx_cons_succ, h2, List.erase_cons_tail (by simpa using e)]
      rfl
theorem gRem_nm {x : Nm} {l : List Nm} (h : x ∈ l) : gRem (l.map nm) [nm x] = some ((l.erase x).map nm, .non) := by
  obtain ⟨j, h1, h2⟩ := firstP_nm x l h
  have hf : ((nm x).flat && (l.map nm).all PV.flat) = true := by
    simp [List.all_map, nm, PV.flat, Function.comp_def]
  show (if _ then _ else _) = _
  rw [if_pos hf, h1, Option.map_some, h2]
theorem gPopAt_ok {l : List PV} {k : Nat} (h : k < l.length) (hl : l.length ≤ 1000) : gPopAt l [.int (k : Nat)] = some (l.eraseIdx k, l[k]) := by
  have : ixN l.length ((k : Nat) : Int) = some k := by
    unfold ixN
    rw [if_pos (by omega), if_pos (by omega)]
    rfl
  unfold gPopAt
  dsimp only
  rw [if_pos (by omega), this, Option.bind_some, List.getElem?_eq_getElem h]
  rfl
theorem nm_eraseIdx : ∀ (l : List Nm) (k : Nat), (l.map nm).eraseIdx k = (l.eraseIdx k).map nm
  | [], _ => rfl
  | _ :: _, 0 => rfl
  | x :: l, k + 1 => by rw [List.map_cons, List.eraseIdx_cons_succ, nm_eraseIdx l k]; rfl
theorem mod_nat {m : Int} {n : Nat} (hn : 0 < n) : ∃ k : Nat, m % (n : Int) = (k : Nat) ∧ k < n := by
  have h0 : 0 ≤ m % (n : Int) := Int.emod_nonneg _ (by omega)
  have h1 : m % (n : Int) < n := Int.emod_lt_of_pos _ (by omega)
  exact ⟨(m % (n : Int)).toNat, by omega, by omega⟩
theorem perm_eraseIdx {α : Type} : ∀ (l : List α) (k : Nat) (h : k < l.length), (l[k] :: l.eraseIdx k).Perm l
  | x :: l, 0, _ => List.Perm.refl _
  | x :: l, k + 1, h => by
    rw [List.getElem_cons_succ, List.eraseIdx_cons_succ]
    exact (List.Perm.swap x _ _).trans ((perm_eraseIdx l k (by simpa using h)).cons x)
def stk (s : List Nm) : PV := .tup (s.map nm)
def stksV (ss : List (List Nm)) : PV := .tup (ss.map stk)
theorem ints_of {lo hi : Int} : ∀ {xs : List PV}, (∀ x ∈ xs, isI lo hi x) → ∃ is : List Int, xs = is.map .int ∧ ∀ i ∈ is, lo ≤ i ∧ i < hi
  | [], _ => ⟨[], rfl, by simp⟩
  | x :: xs, h => by
    obtain ⟨i, rfl, h1, h2⟩ := h x List.mem_cons_self
    obtain ⟨is, rfl, h3⟩ := ints_of (xs := xs) fun y hy => h y (List.mem_cons_of_mem _ hy)
    exact ⟨i :: is, rfl, fun j hj => by
      rcases List.mem_cons.mp hj with rfl | hj
      · exact ⟨h1, h2⟩
      · exact h3 j hj⟩
structure DayOk (h : Nat) (ss : List (List Nm)) (es : List (Bool × Nm)) : Prop where
  h1 : 1 ≤ h
  h5 : h ≤ 5
  c1 : 1 ≤ ss.length
  c5 : ss.length ≤ 5
  row : ∀ s ∈ ss, s.length ≤ h
  nd : ss.flatten.Nodup
  nmS : ∀ x ∈ ss.flatten, 1 ≤ x.length ∧ x.length ≤ 8
  nmE : ∀ e ∈ es, 1 ≤ e.2.length ∧ e.2.length ≤ 8
  run : ∃ h', runE ss.flatten es = some h'
  len : es.length ≤ 12
  all : ss.flatten.length ≤ 22
theorem rows_nm : ∀ {rows : List (List PV)}, (∀ p ∈ rows.flatten, ∃ x, p = nm x) → ∃ ss : List (List Nm), rows = ss.map (·.map nm)
  | [], _ => ⟨[], rfl⟩
  | r :: rows, h => by
    have h1 : ∀ {r : List PV}, (∀ p ∈ r, ∃ x, p = nm x) → ∃ s : List Nm, r = s.map nm := by
      intro r
      induction r with
      | nil => exact fun _ => ⟨[], rfl⟩
      | cons p r ih =>
        intro h
        obtain ⟨x, rfl⟩ := h p List.mem_cons_self
        obtain ⟨s, rfl⟩ := ih fun q hq => h q (List.mem_cons_of_mem _ hq)
        exact ⟨x :: s, rfl⟩
    obtain ⟨s, rfl⟩ := h1 (r := r) fun p hp => h p (by simp [hp])
    obtain ⟨ss, rfl⟩ := rows_nm (rows := rows) fun p hp => h p (by
      rw [List.flatten_cons]; exact List.mem_append_right _ hp)
    exact ⟨s :: ss, rfl⟩
theorem stks_rows (ss : List (List Nm)) : PV.tup ((ss.map (·.map nm)).map .tup) = stksV ss := by
  unfold stksV stk
  rw [List.map_map]
  rfl
theorem nodup_nm {l : List Nm} : (l.map nm).Nodup ↔ l.Nodup := by
  unfold List.Nodup
  rw [List.pairwise_map]
  constructor
  · exact fun h => h.imp fun hab e => hab (congrArg nm e)
  · exact fun h => h.imp fun hab e => hab (nm_inj e)
theorem mem_nm {x : Nm} {l : List Nm} : nm x ∈ l.map nm ↔ x ∈ l := by
  constructor
  · intro h
    obtain ⟨y, hy, e⟩ := List.mem_map.mp h
    rw [← nm_inj e]; exact hy
  · exact fun h => List.mem_map.mpr ⟨x, h, rfl⟩
theorem at_row {xs : List PV} {b : Int} (hx : ∀ x ∈ xs, isI 0 b x) (j : Nat) (h : j < xs.length) : ∃ m : Int, atI xs ((j : Nat) : Int) = some (.int m) ∧ 0 ≤ m ∧ m < b := by
  obtain ⟨m, e, h1, h2⟩ := hx _ (List.getElem_mem h)
  exact ⟨m, by rw [atN, List.getElem?_eq_getElem h, e], h1, h2⟩
def evsV (es : List (Bool × Nm)) : PV := .tup (es.map evV)
theorem tup_stk (ss : List (List Nm)) : PV.tup (ss.map stk) = stksV ss := rfl
theorem tup_ev (es : List (Bool × Nm)) : PV.tup (es.map evV) = evsV es := rfl
theorem isN_stks (ss) : (stksV ss).isN = false := rfl
theorem isN_evs (ss) : (evsV ss).isN = false := rfl
/-- the boxes there, as a dict -/
def thD (l : List Nm) : PV := .dK (l.map fun x => ((Sum.inr (tx x) : Key), PV.bl true))
theorem hasP_th (l : List Nm) (x : Nm) : hasP (l.map fun x => ((Sum.inr (tx x) : Key), PV.bl true)) (.inr (tx x)) = decide (x ∈ l) := by
  unfold hasP
  rw [List.any_map]
  by_cases h : x ∈ l
  · rw [decide_eq_true h, List.any_eq_true]
    exact ⟨x, h, by simp⟩
  · rw [decide_eq_false h]
    refine List.any_eq_false.mpr fun y hy => ?_
    simp only [Function.comp_apply, decide_eq_true_eq]
    intro e
    exact h (by rw [← tx_inj (Sum.inr.inj e)]; exact hy)
theorem drop_th : ∀ (l : List Nm) (x : Nm), l.Nodup → dropP (l.map fun x => ((Sum.inr (tx x) : Key), PV.bl true)) (.inr (tx x)) = (l.erase x).map fun x => ((Sum.inr (tx x) : Key), PV.bl true)
  | [], _, _ => rfl
  | y :: l, x, hn => by
    have ih := drop_th l x (List.nodup_cons.mp hn).2
    unfold dropP at ih ⊢
    by_cases h : y = x
    · subst h
      rw [List.map_cons, List.filter_cons_of_neg (by simp), List.erase_cons_head]
      refine List.filter_eq_self.mpr fun kv hkv => ?_
      obtain ⟨z, hz, rfl⟩ := List.mem_map.mp hkv
      refine decide_eq_true fun e => ?_
      exact (List.nodup_cons.mp hn).1 (by rw [← tx_inj (Sum.inr.inj e)]; exact hz)
    · have hne : decide ((Sum.inr (tx y) : Key) ≠ Sum.inr (tx x)) = true := decide_eq_true fun e => h (tx_inj (Sum.inr.inj e))
      rw [List.map_cons, List.filter_cons, if_pos hne, ih, List.erase_cons_tail (by simpa using h)]
      rfl
theorem set_th {l : List Nm} {x : Nm} (h : x ∉ l) : setP (l.map fun x => ((Sum.inr (tx x) : Key), PV.bl true)) (.inr (tx x)) (.bl true) = (l ++ [x]).map fun x => ((Sum.inr (tx x) : Key), PV.bl true) := by
  unfold setP
  rw [hasP_th, decide_eq_false h]
  simp
theorem sok_tx (l : Nm) : sok (tx l) := sok_of fun c hc => by
  simp only [tx, List.mem_map] at hc
  obtain ⟨i, _, rfl⟩ := hc
  have := i.isLt
  omega
theorem stepE_nd {h h' : List Nm} {e : Bool × Nm} (hn : h.Nodup) (hs : stepE h e = some h') : h'.Nodup := by
  unfold stepE at hs
  split at hs
  · split at hs
    · cases hs
    · rename_i hx
      cases hs
      rw [List.nodup_append]
      exact ⟨hn, by simp, fun a ha b hb e => hx (by rw [List.mem_singleton.mp hb] at e; rw [← e]; exact ha)⟩
  · split at hs
    · cases hs
      exact hn.erase _
    · cases hs
theorem stepE_len {h h' : List Nm} {e : Bool × Nm} (hs : stepE h e = some h') : h'.length ≤ h.length + 1 := by
  unfold stepE at hs
  split at hs
  · split at hs
    · cases hs
    · cases hs; simp
  · split at hs
    · cases hs
      have := List.length_erase_le (a := e.2) (l := h)
      omega
    · cases hs
/-- the boxes there before each event -/
theorem runE_split {h h' : List Nm} {es : List (Bool × Nm)} (hr : runE h es = some h') (k : Nat) : ∃ hk, runE h (es.take k) = some hk := by
  have : runE h (es.take k ++ es.drop k) = some h' := by rw [List.take_append_drop]; exact hr
  unfold runE at this ⊢
  rw [List.foldlM_append] at this
  cases hq : List.foldlM stepE h (es.take k) with
  | none => rw [hq] at this; cases this
  | some hk => exact ⟨hk, rfl⟩
theorem runE_step {h h' hk : List Nm} {es : List (Bool × Nm)} (hr : runE h es = some h') {k : Nat} (hlt : k < es.length) (h1 : runE h (es.take k) = some hk) : ∃ h2, stepE hk es[k] = some h2 ∧ runE h (es.take (k + 1)) = some h2 := by
  obtain ⟨h2, e2⟩ := runE_split hr (k + 1)
  refine ⟨h2, ?_, e2⟩
  unfold runE at h1 e2
  rw [List.take_succ_eq_append_getElem hlt, List.foldlM_append, h1] at e2
  simpa using e2
theorem pEq_nm (a b : Nm) : pEq (nm a) (nm b) = some (.bl (decide (a = b))) := by
  have h := pEq_str (sok_tx a) (sok_tx b)
  have e : decide (tx a = tx b) = decide (a = b) := by
    by_cases h : a = b
    · subst h; simp
    · rw [decide_eq_false h, decide_eq_false fun e => h (tx_inj e)]
  rw [e] at h
  exact h
theorem pNe_nm (a b : Nm) : pNe (nm a) (nm b) = some (.bl (!decide (a = b))) := by
  have h := pNe_str (sok_tx a) (sok_tx b)
  have e : decide (tx a = tx b) = decide (a = b) := by
    by_cases h : a = b
    · subst h; simp
    · rw [decide_eq_false h, decide_eq_false fun e => h (tx_inj e)]
  rw [e] at h
  exact h
theorem inP_nm (x : Nm) (l : List Nm) : inP (nm x) (l.map nm) = decide (x ∈ l) := by
  unfold inP
  rw [List.any_map]
  by_cases h : x ∈ l
  · rw [decide_eq_true h, List.any_eq_true]
    exact ⟨x, h, by simp [eqP_nm]⟩
  · rw [decide_eq_false h]
    refine List.any_eq_false.mpr fun y hy => ?_
    simp only [Function.comp_apply, eqP_nm, decide_eq_true_eq]
    intro e; exact h (e ▸ hy)
theorem pIn_nm (n : Bool) (x : Nm) (l : List Nm) : pIn n (nm x) (.lst (l.map nm)) = some (.bl (n ^^ decide (x ∈ l))) := by
  have hf : ((nm x).flat && (l.map nm).all PV.flat) = true := by
    simp [List.all_map, nm, PV.flat, Function.comp_def]
  exact (if_pos hf).trans (by rw [← inP_nm]; rfl)
theorem pIn_nmT (n : Bool) (x : Nm) (l : List Nm) : pIn n (nm x) (.tup (l.map nm)) = some (.bl (n ^^ decide (x ∈ l))) := by
  have hf : ((nm x).flat && (l.map nm).all PV.flat) = true := by
    simp [List.all_map, nm, PV.flat, Function.comp_def]
  exact (if_pos hf).trans (by rw [← inP_nm]; rfl)
theorem pInA_nm (n : Bool) (x : Nm) (l : List Nm) : pInA n (nm x) (.lst (l.map nm)) = some (.bl (n ^^ decide (x ∈ l))) := by
  unfold pInA orP
  rw [pIn_nm]
theorem pInA_nmT (n : Bool) (x : Nm) (l : List Nm) : pInA n (nm x) (.tup (l.map nm)) = some (.bl (n ^^ decide (x ∈ l))) := by
  unfold pInA orP
  rw [pIn_nmT]
theorem pInA_stk (n : Bool) (x : Nm) (l : List Nm) : pInA n (nm x) (stk l) = some (.bl (n ^^ decide (x ∈ l))) := pInA_nmT n x l
end Lp
end
section
set_option Elab.async false
set_option linter.all false
set_option maxRecDepth 100000
namespace Lp
open PySem PySem.Spec L2
/-! states and deeds, plainly -/
inductive Deed where
  | shift (i j : Nat) | inn (j : Nat) | out
  deriving DecidableEq
def deedV : Deed → PV
  | .shift i j => .tup [.str ("shift" : Str), .int (i : Nat), .int (j : Nat)]
  | .inn j => .tup [.str ("in" : Str), .int (j : Nat)]
  | .out => .tup [.str ("out" : Str)]
abbrev Sts := Nat × List (List Nm)
def stV (s : Sts) : PV := .tup [.int (s.1 : Nat), stksV s.2]
def row (ss : List (List Nm)) (i : Nat) : List Nm := ss.getD i []
def shiftP (h : Nat) (ss : List (List Nm)) (i j : Nat) : Option (List (List Nm)) :=
  if i = j ∨ (row ss i).length = 0 ∨ h ≤ (row ss j).length then none else some ((ss.set i (row ss i).dropLast).set j (row ss j ++ (row ss i).getLast?.toList))
/-- the deed done at a state -/
def stepD (h : Nat) (es : List (Bool × Nm)) (s : Sts) : Deed → Option Sts
  | .shift i j => (shiftP h s.2 i j).map fun ss => (s.1, ss)
  | .inn j => match es[s.1]? with
    | some (true, x) => if (row s.2 j).length < h then some (s.1 + 1, s.2.set j (row s.2 j ++ [x])) else none
    | _ => none
  | .out => match es[s.1]? with
    | some (false, x) => match s.2.findIdx? fun r => decide (x ∈ r) with
      | some i => if (row s.2 i).getLast? = some x then some (s.1 + 1, s.2.set i (row s.2 i).dropLast) else none
      | none => none
    | _ => none
/-- the states that are met -/
structure WF (h n : Nat) (ss0 : List (List Nm)) (es : List (Bool × Nm)) (s : Sts) : Prop where
  le : s.1 ≤ es.length
  len : s.2.length = n
  row : ∀ r ∈ s.2, r.length ≤ h
  nd : s.2.flatten.Nodup
  box : ∃ hk, runE ss0.flatten (es.take s.1) = some hk ∧ s.2.flatten.Perm hk
theorem row_lt {ss : List (List Nm)} {i : Nat} (h : i < ss.length) : row ss i = ss[i] := by
  unfold row; rw [List.getD_eq_getElem?_getD, List.getElem?_eq_getElem h]; rfl
theorem row_mem {ss : List (List Nm)} {i : Nat} (h : i < ss.length) : row ss i ∈ ss := by rw [row_lt h]; exact List.getElem_mem h
theorem drop_last {α : Type} (l : List α) : l.dropLast ++ l.getLast?.toList = l := by
  by_cases h : l = []
  · subst h; rfl
  · rw [List.getLast?_eq_getLast h]
    exact List.dropLast_concat_getLast h
theorem flat_at : ∀ (ss : List (List Nm)) (i : Nat), i < ss.length → ss.flatten.Perm (row ss i ++ (ss.eraseIdx i).flatten)
  | r :: ss, 0, _ => by simp [row]
  | r :: ss, i + 1, h => by
    have ih := flat_at ss i (by simpa using h)
    have e : row (r :: ss) (i + 1) = row ss i := by simp [row]
    rw [List.flatten_cons, List.eraseIdx_cons_succ, List.flatten_cons, e]
    refine (List.Perm.append_left r ih).trans ?_
    rw [← List.append_assoc, ← List.append_assoc]
    exact List.Perm.append_right _ List.perm_append_comm
theorem flat_set (ss : List (List Nm)) (i : Nat) (r : List Nm) (h : i < ss.length) : (ss.set i r).flatten.Perm (r ++ (ss.eraseIdx i).flatten) := by
  have := flat_at (ss.set i r) i (by rw [List.length_set]; exact h)
  rw [row_lt (by rw [List.length_set]; exact h), List.getElem_set_self, List.eraseIdx_set_eq] at this
  exact this
/-- a box more on a stack -/
theorem flat_put (ss : List (List Nm)) (j : Nat) (x : Nm) (h : j < ss.length) : (ss.set j (row ss j ++ [x])).flatten.Perm (ss.flatten ++ [x]) := by
  refine (flat_set ss j _ h).trans ?_
  refine List.Perm.trans ?_ (List.Perm.append_right [x] (flat_at ss j h).symm)
  rw [List.append_assoc, List.append_assoc]
  exact List.Perm.append_left _ List.perm_append_comm
/-- the highest box of a stack goes -/
theorem flat_pop (ss : List (List Nm)) (i : Nat) (x : Nm) (h : i < ss.length) (hx : (row ss i).getLast? = some x) : ss.flatten.Perm (x :: (ss.set i (row ss i).dropLast).flatten) := by
  refine (flat_at ss i h).trans ?_
  refine List.Perm.trans ?_ ((flat_set ss i _ h).symm.cons x)
  have e := drop_last (row ss i)
  rw [hx] at e
  conv => lhs; rw [← e]
  simp only [Option.toList_some, List.append_assoc]
  exact List.perm_middle
theorem row_set_ne {ss : List (List Nm)} {i j : Nat} (r : List Nm) (h : i ≠ j) : row (ss.set i r) j = row ss j := by
  unfold row; rw [List.getD_eq_getElem?_getD, List.getD_eq_getElem?_getD, List.getElem?_set_ne h]
theorem mem_set_le {h i : Nat} {ss : List (List Nm)} {r : List Nm} (hr : ∀ r ∈ ss, r.length ≤ h) (h2 : r.length ≤ h) : ∀ q ∈ ss.set i r, q.length ≤ h := fun q hq => by
  rcases List.mem_or_eq_of_mem_set hq with hq | rfl
  · exact hr q hq
  · exact h2
def validD (n : Nat) : Deed → Prop
  | .shift i j => i < n ∧ j < n
  | .inn j => j < n
  | .out => True
theorem findIdx_of {α : Type} {p : α → Bool} : ∀ {l : List α} {i : Nat}, l.findIdx? p = some i → ∃ h : i < l.length, p l[i] = true
  | [], i, h => by simp at h
  | a :: l, i, h => by
    rw [List.findIdx?_cons] at h
    split at h
    · cases h
      rename_i hp
      exact ⟨by simp, hp⟩
    · cases hq : l.findIdx? p with
      | none => rw [hq] at h; cases h
      | some j =>
        rw [hq] at h
        cases h
        obtain ⟨h1, h2⟩ := findIdx_of hq
        exact ⟨by simp; omega, by simpa using h2⟩
variable {h n : Nat} {ss0 : List (List Nm)} {es : List (Bool × Nm)} {s s' : Sts}
theorem shiftP_some {ss ss' : List (List Nm)} {i j : Nat} (hi : i < ss.length) (hj : j < ss.length) (hr : ∀ r ∈ ss, r.length ≤ h) (hs : shiftP h ss i j = some ss') : ss'.length = ss.length ∧ (∀ r ∈ ss', r.length ≤ h) ∧ ss'.flatten.Perm ss.flatten := by
  unfold shiftP at hs
  split at hs
  · cases hs
  · rename_i hc
    cases hs
    have hij : i ≠ j := fun e => hc (.inl e)
    have h0 : (row ss i).length ≠ 0 := fun e => hc (.inr (.inl e))
    have hl : (row ss j).length < h := Nat.lt_of_not_le fun e => hc (.inr (.inr e))
    obtain ⟨x, hx⟩ : ∃ x, (row ss i).getLast? = some x := by
      cases hq : (row ss i).getLast? with
      | none => rw [List.getLast?_eq_none_iff] at hq; rw [hq] at h0; exact absurd rfl h0
      | some x => exact ⟨x, rfl⟩
    rw [hx, Option.toList_some]
    refine ⟨by simp, mem_set_le (mem_set_le hr ?_) (by simp; omega), ?_⟩
    · rw [List.length_dropLast]; have := hr _ (row_mem hi); omega
    · have e : row ss j = row (ss.set i (row ss i).dropLast) j := (row_set_ne _ hij).symm
      rw [e]
      refine (flat_put _ j x (by rw [List.length_set]; exact hj)).trans ?_
      refine List.Perm.trans ?_ (flat_pop ss i x hi hx).symm
      exact List.perm_append_singleton x _
theorem WF.step (w : WF h n ss0 es s) {D : Deed} (hD : validD n D) (hs : stepD h es s D = some s') (hrun : ∃ h', runE ss0.flatten es = some h') : WF h n ss0 es s' := by
  obtain ⟨hk, hk1, hk2⟩ := w.box
  obtain ⟨h', hr⟩ := hrun
  cases D with
  | shift i j =>
    unfold stepD at hs
    dsimp only at hs
    cases hq : shiftP h s.2 i j with
    | none => rw [hq] at hs; cases hs
    | some ss =>
      rw [hq] at hs
      cases hs
      obtain ⟨a, b, c⟩ := shiftP_some (by rw [w.len]; exact hD.1) (by rw [w.len]; exact hD.2) w.row hq
      exact ⟨w.le, a.trans w.len, b, c.nodup_iff.mpr w.nd, hk, hk1, c.trans hk2⟩
  | inn j =>
    unfold stepD at hs
    dsimp only at hs
    split at hs
    · rename_i x he
      split at hs
      · rename_i hl
        cases hs
        obtain ⟨hlt, hx⟩ := List.getElem?_eq_some_iff.mp he
        obtain ⟨h2, e2, r2⟩ := runE_step hr hlt hk1
        rw [hx] at e2
        have hnx : x ∉ hk := by intro hm; simp [stepE, hm] at e2
        simp [stepE, hnx] at e2
        have hp := flat_put s.2 j x (by rw [w.len]; exact hD)
        have hp2 : (s.2.set j (Lp.row s.2 j ++ [x])).flatten.Perm h2 := by
          rw [← e2]; exact hp.trans (List.Perm.append_right _ hk2)
        refine ⟨by show s.1 + 1 ≤ _; omega, by show (s.2.set _ _).length = n; rw [List.length_set]; exact w.len, mem_set_le w.row (by simp; omega), ?_, h2, r2, hp2⟩
        have hn2 := stepE_nd (hk2.nodup_iff.mp w.nd) (show stepE hk (true, x) = some h2 by simp [stepE, hnx, e2])
        exact hp2.nodup_iff.mpr hn2
      · cases hs
    · cases hs
  | out =>
    unfold stepD at hs
    dsimp only at hs
    split at hs
    · rename_i x he
      split at hs
      · rename_i i hi
        split at hs
        · rename_i hl
          cases hs
          obtain ⟨hlt, hx⟩ := List.getElem?_eq_some_iff.mp he
          obtain ⟨hil, _⟩ := findIdx_of hi
          obtain ⟨h2, e2, r2⟩ := runE_step hr hlt hk1
          rw [hx] at e2
          have hp := flat_pop s.2 i x hil hl
          have hmx : x ∈ hk := hk2.subset (hp.symm.subset List.mem_cons_self)
          simp [stepE, hmx] at e2
          have hp2 : (s.2.set i (Lp.row s.2 i).dropLast).flatten.Perm h2 := by
            rw [← e2]
            have h3 : (x :: (s.2.set i (Lp.row s.2 i).dropLast).flatten).Perm (x :: hk.erase x) := hp.symm.trans (hk2.trans (List.perm_cons_erase hmx))
            exact h3.cons_inv
          refine ⟨by show s.1 + 1 ≤ _; omega, by show (s.2.set _ _).length = n; rw [List.length_set]; exact w.len, mem_set_le w.row ?_, ?_, h2, r2, hp2⟩
          · rw [List.length_dropLast]; have := w.row _ (row_mem hil); omega
          · have hn2 := stepE_nd (hk2.nodup_iff.mp w.nd) (show stepE hk (false, x) = some h2 by simp [stepE, hmx, e2])
            exact hp2.nodup_iff.mpr hn2
        · cases hs
      · cases hs
    · cases hs
/-! the deeds that can be done, each with the state behind it -/
def outE (es : List (Bool × Nm)) (s : Sts) (j : Nat) : List (Deed × Sts) := match es[s.1]? with
  | some (false, x) => if (row s.2 j).getLast? = some x then [(.out, (s.1 + 1, s.2.set j (row s.2 j).dropLast))] else []
  | _ => []
def inE (h : Nat) (es : List (Bool × Nm)) (s : Sts) (j : Nat) : List (Deed × Sts) := match es[s.1]? with
  | some (true, x) => if (row s.2 j).length < h then [(.inn j, (s.1 + 1, s.2.set j (row s.2 j ++ [x])))] else []
  | _ => []
def shE (h : Nat) (s : Sts) (i j : Nat) : List (Deed × Sts) := match shiftP h s.2 i j with
  | some ss => [(.shift i j, (s.1, ss))]
  | none => []
def openL (h n : Nat) (es : List (Bool × Nm)) (s : Sts) : List (Deed × Sts) :=
  ((List.range n).flatMap fun j => outE es s j ++ inE h es s j) ++ (List.range n).flatMap fun i => (List.range n).flatMap fun j => shE h s i j
theorem nodup_row {ss : List (List Nm)} (hn : ss.flatten.Nodup) {i j : Nat} (hi : i < ss.length) (hj : j < ss.length) {x : Nm} (h1 : x ∈ ss[i]) (h2 : x ∈ ss[j]) : i = j := by
  induction ss generalizing i j with
  | nil => simp at hi
  | cons r ss ih =>
    rw [List.flatten_cons, List.nodup_append] at hn
    cases i with
    | zero =>
      cases j with
      | zero => rfl
      | succ j =>
        exfalso
        simp at h1 h2 hj
        exact hn.2.2 x h1 x (List.mem_flatten.mpr ⟨_, List.getElem_mem hj, h2⟩) rfl
    | succ i =>
      cases j with
      | zero =>
        exfalso
        simp at h1 h2 hi
        exact hn.2.2 x h2 x (List.mem_flatten.mpr ⟨_, List.getElem_mem hi, h1⟩) rfl
      | succ j =>
        simp at h1 h2 hi hj
        exact congrArg (· + 1) (ih hn.2.1 hi hj h1 h2)
theorem findIdx_at {ss : List (List Nm)} (hn : ss.flatten.Nodup) {j : Nat} (hj : j < ss.length) {x : Nm} (hx : x ∈ ss[j]) : (ss.findIdx? fun r => decide (x ∈ r)) = some j := by
  cases hq : ss.findIdx? fun r => decide (x ∈ r) with
  | none =>
    rw [List.findIdx?_eq_none_iff] at hq
    have := hq _ (List.getElem_mem hj)
    simp [hx] at this
  | some i =>
    obtain ⟨hi, h1⟩ := findIdx_of hq
    rw [nodup_row hn hi hj (of_decide_eq_true h1) hx]
theorem last_mem {α : Type} {l : List α} {x : α} (h : l.getLast? = some x) : x ∈ l := List.mem_of_getLast? h
/-- the entries tell what is done -/
theorem open_step (w : WF h n ss0 es s) {e : Deed × Sts} (he : e ∈ openL h n es s) : validD n e.1 ∧ stepD h es s e.1 = some e.2 := by
  have hw := w.len
  unfold openL at he
  rcases List.mem_append.mp he with he | he
  · obtain ⟨j, hj, he⟩ := List.mem_flatMap.mp he
    have hjn := List.mem_range.mp hj
    rcases List.mem_append.mp he with he | he
    · unfold outE at he
      split at he
      · rename_i x hx
        split at he
        · rename_i hl
          rw [List.mem_singleton.mp he]
          refine ⟨trivial, ?_⟩
          have hjl : j < s.2.length := by omega
          have hf := findIdx_at w.nd hjl (x := x) (by rw [← row_lt hjl]; exact last_mem hl)
          simp [stepD, hx, hf, hl]
        · simp at he
      · simp at he
    · unfold inE at he
      split at he
      · rename_i x hx
        split at he
        · rename_i hl
          rw [List.mem_singleton.mp he]
          exact ⟨hjn, by simp [stepD, hx, hl]⟩
        · simp at he
      · simp at he
  · obtain ⟨i, hi, he⟩ := List.mem_flatMap.mp he
    obtain ⟨j, hj, he⟩ := List.mem_flatMap.mp he
    unfold shE at he
    split at he
    · rename_i ss hq
      rw [List.mem_singleton.mp he]
      exact ⟨⟨List.mem_range.mp hi, List.mem_range.mp hj⟩, by simp [stepD, hq]⟩
    · simp at he
theorem step_open (w : WF h n ss0 es s) {D : Deed} (hD : validD n D) (hs : stepD h es s D = some s') : (D, s') ∈ openL h n es s := by
  have hw := w.len
  unfold openL
  cases D with
  | shift i j =>
    refine List.mem_append_right _ (List.mem_flatMap.mpr ⟨i, List.mem_range.mpr hD.1, List.mem_flatMap.mpr ⟨j, List.mem_range.mpr hD.2, ?_⟩⟩)
    unfold stepD at hs
    dsimp only at hs
    unfold shE
    cases hq : shiftP h s.2 i j with
    | none => rw [hq] at hs; cases hs
    | some ss => rw [hq] at hs; cases hs; simp
  | inn j =>
    refine List.mem_append_left _ (List.mem_flatMap.mpr ⟨j, List.mem_range.mpr hD, List.mem_append_right _ ?_⟩)
    unfold stepD at hs
    dsimp only at hs
    unfold inE
    split at hs
    · rename_i x hx
      split at hs
      · rename_i hl
        cases hs
        simp [hl]
      · cases hs
    · cases hs
  | out =>
    unfold stepD at hs
    dsimp only at hs
    split at hs
    · rename_i x hx
      split at hs
      · rename_i i hi
        split at hs
        · rename_i hl
          cases hs
          obtain ⟨hil, _⟩ := findIdx_of hi
          refine List.mem_append_left _ (List.mem_flatMap.mpr ⟨i, List.mem_range.mpr (by omega), List.mem_append_left _ ?_⟩)
          unfold outE
          simp [hx, hl]
        · cases hs
      · cases hs
    · cases hs
/-- looked up in them -/
theorem open_find (w : WF h n ss0 es s) {D : Deed} (hD : validD n D) : ((openL h n es s).find? fun e => decide (e.1 = D)).map (·.2) = stepD h es s D := by
  cases hq : (openL h n es s).find? fun e => decide (e.1 = D) with
  | none =>
    cases hs : stepD h es s D with
    | none => rfl
    | some s' =>
      have := List.find?_eq_none.mp hq _ (step_open w hD hs)
      simp at this
  | some e =>
    have h1 := List.mem_of_find?_eq_some hq
    have h2 := List.find?_some hq
    have h3 : e.1 = D := of_decide_eq_true h2
    rw [← h3, (open_step w h1).2]
    rfl
/-! values read as deeds -/
def asDeed (n : Nat) : PV → Option Deed
  | .tup [.str w] => if w = ("out" : Str) then some .out else none
  | .tup [.str w, .int j] => if w = ("in" : Str) ∧ 0 ≤ j ∧ j < n then some (.inn j.toNat) else none
  | .tup [.str w, .int i, .int j] => if w = ("shift" : Str) ∧ (0 ≤ i ∧ i < n) ∧ (0 ≤ j ∧ j < n) then some (.shift i.toNat j.toNat) else none
  | _ => none
theorem asDeed_valid {n : Nat} {p : PV} {D : Deed} (h : asDeed n p = some D) : validD n D ∧ p = deedV D := by
  unfold asDeed at h
  split at h
  · split at h
    · cases h; rename_i e; rw [e]; exact ⟨trivial, rfl⟩
    · cases h
  · split at h
    · cases h; rename_i e; rw [e.1]
      refine ⟨by show Int.toNat _ < n; omega, ?_⟩
      simp only [deedV]
      rw [Int.toNat_of_nonneg e.2.1]
    · cases h
  · split at h
    · cases h; rename_i e; rw [e.1]
      refine ⟨⟨by omega, by omega⟩, ?_⟩
      simp only [deedV]
      rw [Int.toNat_of_nonneg e.2.1.1, Int.toNat_of_nonneg e.2.2.1]
    · cases h
  · cases h
theorem asDeed_deedV {n : Nat} {D : Deed} (h : validD n D) : asDeed n (deedV D) = some D := by
  cases D with
  | shift i j =>
    obtain ⟨a, b⟩ := h
    simp [asDeed, deedV, a, b]
  | inn j =>
    have a : j < n := h
    simp [asDeed, deedV, a]
  | out => simp [asDeed, deedV]
theorem deedV_inj {D E : Deed} (h : deedV D = deedV E) : D = E := by
  cases D <;> cases E <;> simp [deedV] at h <;> simp
  · omega
  · omega
/-- any value done at a state -/
def doneP (h n : Nat) (es : List (Bool × Nm)) (s : Sts) (p : PV) : Option Sts := (asDeed n p).bind (stepD h es s)
def ostV : Option Sts → PV
  | some s => stV s
  | none => .non
end Lp
end
section
set_option Elab.async false
set_option linter.all false
set_option maxRecDepth 100000
namespace Lp
open PySem PySem.Spec L2
/-! == of plain data without bools -/
def dat : Nat → PV → Prop
  | _, .non => True
  | _, .int _ => True
  | _, .str x => sok x
  | k + 1, .tup ps => ∀ p ∈ ps, dat k p
  | k + 1, .lst ps => ∀ p ∈ ps, dat k p
  | _, _ => False
theorem toDs_of {ps : List PV} {k : Nat} (h : ∀ p ∈ ps, ∃ d, p.toD = some d ∧ d.canLay0 = true ∧ d.depth ≤ k) : ∃ ds, toDs ps = some ds ∧ PyData.canLayAll0 ds = true ∧ PyData.depthAll ds ≤ k ∧ ds.length = ps.length ∧ ∀ (i : Nat) (h1 : i < ps.length) (h2 : i < ds.length), ps[i].toD = some ds[i] := by
  induction ps with
  | nil => exact ⟨[], rfl, rfl, Nat.zero_le _, rfl, fun i h1 => by simp at h1⟩
  | cons p ps ih =>
    obtain ⟨d, e1, e2, e3⟩ := h p List.mem_cons_self
    obtain ⟨ds, f1, f2, f3, f4, f5⟩ := ih fun q hq => h q (List.mem_cons_of_mem _ hq)
    refine ⟨d :: ds, by rw [toDs, e1, f1], by rw [PyData.canLayAll0, e2, f2]; rfl, ?_, by simp [f4], fun i h1 h2 => ?_⟩
    · show max d.depth (PyData.depthAll ds) ≤ k
      omega
    · cases i with
      | zero => exact e1
      | succ i => exact f5 i (by simpa using h1) (by simpa using h2)
theorem dat_toD : ∀ {k : Nat} {p : PV}, dat k p → ∃ d, p.toD = some d ∧ d.canLay0 = true ∧ d.depth ≤ k := by
  intro k
  induction k with
  | zero =>
    intro p h
    cases p <;> first | exact h.elim | skip
    · exact ⟨_, rfl, rfl, Nat.le_refl _⟩
    · exact ⟨_, rfl, rfl, Nat.le_refl _⟩
    · exact ⟨_, rfl, h, Nat.le_refl _⟩
  | succ k ih =>
    intro p h
    cases p <;> first | exact h.elim | skip
    · exact ⟨_, rfl, rfl, Nat.zero_le _⟩
    · exact ⟨_, rfl, rfl, Nat.zero_le _⟩
    · exact ⟨_, rfl, h, Nat.zero_le _⟩
    · obtain ⟨ds, f1, f2, f3, _⟩ := toDs_of fun p hp => ih (h p hp)
      exact ⟨.tuple ds, by rw [PV.toD, f1]; rfl, f2, by show PyData.depthAll ds + 1 ≤ k + 1; omega⟩
    · obtain ⟨ds, f1, f2, f3, _⟩ := toDs_of fun p hp => ih (h p hp)
      exact ⟨.list ds, by rw [PV.toD, f1]; rfl, f2, by show PyData.depthAll ds + 1 ≤ k + 1; omega⟩
theorem eqvAll_of : ∀ {ps qs : List PV} {ds es : List PyData}, toDs ps = some ds → toDs qs = some es → (∀ p ∈ ps, ∀ q ∈ qs, ∀ d e, p.toD = some d → q.toD = some e → (PyData.eqv d e = true ↔ p = q)) → (PyData.eqvAll ds es = true ↔ ps = qs)
  | [], [], ds, es, h1, h2, _ => by cases h1; cases h2; simp [PyData.eqvAll]
  | [], q :: qs, ds, es, h1, h2, _ => by
    cases h1
    obtain ⟨d, ds', _, _, rfl⟩ := toDs_cons h2
    simp [PyData.eqvAll]
  | p :: ps, [], ds, es, h1, h2, _ => by
    cases h2
    obtain ⟨d, ds', _, _, rfl⟩ := toDs_cons h1
    simp [PyData.eqvAll]
  | p :: ps, q :: qs, ds, es, h1, h2, h => by
    obtain ⟨d, ds', a1, a2, rfl⟩ := toDs_cons h1
    obtain ⟨e, es', b1, b2, rfl⟩ := toDs_cons h2
    have ih := eqvAll_of a2 b2 fun p' hp q' hq => h p' (List.mem_cons_of_mem _ hp) q' (List.mem_cons_of_mem _ hq)
    rw [PyData.eqvAll, Bool.and_eq_true, ih, h p List.mem_cons_self q List.mem_cons_self d e a1 b1]
    simp
theorem eqv_iff : ∀ {k : Nat} {p q : PV} {d e : PyData}, dat k p → dat k q → p.toD = some d → q.toD = some e → (PyData.eqv d e = true ↔ p = q) := by
  intro k
  induction k with
  | zero =>
    intro p q d e hp hq h1 h2
    cases p <;> first | exact hp.elim | skip
    all_goals cases q <;> first | exact hq.elim | skip
    all_goals (cases h1; cases h2; simp [PyData.eqv])
  | succ k ih =>
    intro p q d e hp hq h1 h2
    have tl : ∀ {ps : List PV}, dat (k + 1) (.tup ps) → ∃ ds, toDs ps = some ds := fun {ps} h => by
      obtain ⟨ds, f1, _⟩ := toDs_of (k := k) fun p hp => dat_toD (h p hp)
      exact ⟨ds, f1⟩
    have ll : ∀ {ps : List PV}, dat (k + 1) (.lst ps) → ∃ ds, toDs ps = some ds := fun {ps} h => by
      obtain ⟨ds, f1, _⟩ := toDs_of (k := k) fun p hp => dat_toD (h p hp)
      exact ⟨ds, f1⟩
    have flatC : ∀ p q : PV, dat (k + 1) p → dat (k + 1) q → p.toD = some d → q.toD = some e → (∀ ps, p ≠ .tup ps) → (∀ ps, p ≠ .lst ps) → (PyData.eqv d e = true ↔ p = q) := by
      intro p q hp hq h1 h2 n1 n2
      have hT : ∀ {ps : List PV} {d : PyData}, (PV.tup ps).toD = some d → ∃ ds, d = .tuple ds := fun {ps d} h => by
        rw [PV.toD] at h
        cases hq : toDs ps with
        | none => rw [hq] at h; cases h
        | some ds => rw [hq] at h; cases h; exact ⟨ds, rfl⟩
      have hL : ∀ {ps : List PV} {d : PyData}, (PV.lst ps).toD = some d → ∃ ds, d = .list ds := fun {ps d} h => by
        rw [PV.toD] at h
        cases hq : toDs ps with
        | none => rw [hq] at h; cases h
        | some ds => rw [hq] at h; cases h; exact ⟨ds, rfl⟩
      cases p with
      | non => cases q with
        | tup qs => obtain ⟨es, rfl⟩ := hT h2; cases h1; simp [PyData.eqv]
        | lst qs => obtain ⟨es, rfl⟩ := hL h2; cases h1; simp [PyData.eqv]
        | non => cases h1; cases h2; simp [PyData.eqv]
        | int i => cases h1; cases h2; simp [PyData.eqv]
        | str i => cases h1; cases h2; simp [PyData.eqv]
        | _ => exact hq.elim
      | int i => cases q with
        | tup qs => obtain ⟨es, rfl⟩ := hT h2; cases h1; simp [PyData.eqv]
        | lst qs => obtain ⟨es, rfl⟩ := hL h2; cases h1; simp [PyData.eqv]
        | non => cases h1; cases h2; simp [PyData.eqv]
        | int i => cases h1; cases h2; simp [PyData.eqv]
        | str i => cases h1; cases h2; simp [PyData.eqv]
        | _ => exact hq.elim
      | str i => cases q with
        | tup qs => obtain ⟨es, rfl⟩ := hT h2; cases h1; simp [PyData.eqv]
        | lst qs => obtain ⟨es, rfl⟩ := hL h2; cases h1; simp [PyData.eqv]
        | non => cases h1; cases h2; simp [PyData.eqv]
        | int i => cases h1; cases h2; simp [PyData.eqv]
        | str i => cases h1; cases h2; simp [PyData.eqv]
        | _ => exact hq.elim
      | tup ps => exact absurd rfl (n1 ps)
      | lst ps => exact absurd rfl (n2 ps)
      | _ => exact hp.elim
    cases p with
    | tup ps =>
      obtain ⟨ds, f1⟩ := tl hp
      rw [PV.toD, f1] at h1
      cases h1
      cases q with
      | tup qs =>
        obtain ⟨es, f2⟩ := tl hq
        rw [PV.toD, f2] at h2
        cases h2
        rw [PyData.eqv, eqvAll_of f1 f2 fun p' hp' q' hq' d e h1 h2 => ih (hp p' hp') (hq q' hq') h1 h2]
        simp
      | lst qs =>
        obtain ⟨es, f2⟩ := ll hq
        rw [PV.toD, f2] at h2
        cases h2
        simp [PyData.eqv]
      | non => cases h2; simp [PyData.eqv]
      | int i => cases h2; simp [PyData.eqv]
      | str i => cases h2; simp [PyData.eqv]
      | _ => exact hq.elim
    | lst ps =>
      obtain ⟨ds, f1⟩ := ll hp
      rw [PV.toD, f1] at h1
      cases h1
      cases q with
      | lst qs =>
        obtain ⟨es, f2⟩ := ll hq
        rw [PV.toD, f2] at h2
        cases h2
        rw [PyData.eqv, eqvAll_of f1 f2 fun p' hp' q' hq' d e h1 h2 => ih (hp p' hp') (hq q' hq') h1 h2]
        simp
      | tup qs =>
        obtain ⟨es, f2⟩ := tl hq
        rw [PV.toD, f2] at h2
        cases h2
        simp [PyData.eqv]
      | non => cases h2; simp [PyData.eqv]
      | int i => cases h2; simp [PyData.eqv]
      | str i => cases h2; simp [PyData.eqv]
      | _ => exact hq.elim
    | _ => exact flatC _ q hp hq h1 h2 (by intro ps h; cases h) (by intro ps h; cases h)
open Classical in
theorem pEq_dat {k : Nat} {p q : PV} (hk : k ≤ 60) (hp : dat k p) (hq : dat k q) : pEq p q = some (.bl (decide (p = q))) := by
  obtain ⟨d, d1, d2, d3⟩ := dat_toD hp
  obtain ⟨e, e1, e2, e3⟩ := dat_toD hq
  have hs : (SeqAt.shaped d && SeqAt.shaped e) = true := by
    unfold SeqAt.shaped
    rw [d2, e2, decide_eq_true (by omega), decide_eq_true (by omega)]
    rfl
  unfold pEq eqB
  rw [d1, e1]
  dsimp only
  rw [if_pos hs]
  have := eqv_iff hp hq d1 e1
  by_cases h : p = q
  · rw [this.mpr h, decide_eq_true h]; rfl
  · have : PyData.eqv d e = false := by
      cases hc : PyData.eqv d e with
      | false => rfl
      | true => exact absurd (this.mp hc) h
    rw [this, decide_eq_false h]; rfl
open Classical in
theorem pNe_dat {k : Nat} {p q : PV} (hk : k ≤ 60) (hp : dat k p) (hq : dat k q) : pNe p q = some (.bl (!decide (p = q))) := by
  have h := pEq_dat hk hp hq
  unfold pEq at h
  unfold pNe
  cases hb : eqB p q with
  | none => rw [hb] at h; cases h
  | some b =>
    rw [hb] at h
    simp only [Option.map_some, Option.some.injEq, PV.bl.injEq] at h
    rw [← h]; rfl
open Classical in
theorem pEq_yes {k : Nat} {p q : PV} (hk : k ≤ 60) (hp : dat k p) (hq : dat k q) (h : p = q) : pEq p q = some (.bl true) := by
  rw [pEq_dat hk hp hq, decide_eq_true h]
open Classical in
theorem pEq_no {k : Nat} {p q : PV} (hk : k ≤ 60) (hp : dat k p) (hq : dat k q) (h : p ≠ q) : pEq p q = some (.bl false) := by
  rw [pEq_dat hk hp hq, decide_eq_false h]
open Classical in
theorem pNe_yes {k : Nat} {p q : PV} (hk : k ≤ 60) (hp : dat k p) (hq : dat k q) (h : p ≠ q) : pNe p q = some (.bl true) := by
  rw [pNe_dat hk hp hq, decide_eq_false h]; rfl
open Classical in
theorem pNe_no {k : Nat} {p q : PV} (hk : k ≤ 60) (hp : dat k p) (hq : dat k q) (h : p = q) : pNe p q = some (.bl false) := by
  rw [pNe_dat hk hp hq, decide_eq_true h]; rfl
theorem dat_nm (k : Nat) (x : Nm) : dat k (nm x) := by cases k <;> exact sok_tx x
theorem dat_stk (k : Nat) (l : List Nm) : dat (k + 1) (stk l) := fun p hp => by
  obtain ⟨x, _, rfl⟩ := List.mem_map.mp hp
  exact dat_nm k x
open Classical in
/-- in, among data -/
theorem pInD_dat {k : Nat} {n : Bool} {p : PV} {ys : List PV} (hk : k ≤ 50) (hp : dat k p) (hy : ∀ y ∈ ys, dat k y) : pInD n p (.lst ys) = some (.bl (n ^^ decide (p ∈ ys))) := by
  obtain ⟨d, d1, d2, d3⟩ := dat_toD hp
  obtain ⟨ds, f1, f2, f3, f4, f5⟩ := toDs_of (k := k) fun y h => dat_toD (hy y h)
  have hs : (SeqAt.shaped d && SeqAt.shaped (.list ds)) = true := by
    have h2 : (PyData.list ds).canLay0 = true := f2
    have h3 : (PyData.list ds).depth ≤ 64 := by show PyData.depthAll ds + 1 ≤ 64; omega
    unfold SeqAt.shaped
    rw [d2, h2, decide_eq_true (by omega), decide_eq_true h3]
    rfl
  unfold pInD
  rw [d1]
  dsimp only
  rw [f1]
  dsimp only
  rw [if_pos hs]
  have : (ds.any fun z => PyData.eqv z d) = decide (p ∈ ys) := by
    by_cases h : p ∈ ys
    · rw [decide_eq_true h, List.any_eq_true]
      obtain ⟨i, hi, e⟩ := List.mem_iff_getElem.mp h
      refine ⟨ds[i]'(by omega), List.getElem_mem _, ?_⟩
      exact (eqv_iff (hy _ (List.getElem_mem hi)) hp (f5 i hi (by omega)) d1).mpr e
    · rw [decide_eq_false h]
      refine List.any_eq_false.mpr fun z hz hc => ?_
      obtain ⟨i, hi, rfl⟩ := List.mem_iff_getElem.mp hz
      have hi2 : i < ys.length := by omega
      have := (eqv_iff (hy _ (List.getElem_mem hi2)) hp (f5 i hi2 hi) d1).mp hc
      exact h (this ▸ List.getElem_mem hi2)
  rw [this]
open Classical in
/-- in a tuple -/
theorem pInD_datT {k : Nat} {n : Bool} {p : PV} {ys : List PV} (hk : k ≤ 50) (hp : dat k p) (hy : ∀ y ∈ ys, dat k y) : pInD n p (.tup ys) = some (.bl (n ^^ decide (p ∈ ys))) := by
  obtain ⟨d, d1, d2, d3⟩ := dat_toD hp
  obtain ⟨ds, f1, f2, f3, f4, f5⟩ := toDs_of (k := k) fun y h => dat_toD (hy y h)
  have hs : (SeqAt.shaped d && SeqAt.shaped (.list ds)) = true := by
    have h2 : (PyData.list ds).canLay0 = true := f2
    have h3 : (PyData.list ds).depth ≤ 64 := by show PyData.depthAll ds + 1 ≤ 64; omega
    unfold SeqAt.shaped
    rw [d2, h2, decide_eq_true (by omega), decide_eq_true h3]
    rfl
  unfold pInD
  rw [d1]
  dsimp only
  rw [f1]
  dsimp only
  rw [if_pos hs]
  have : (ds.any fun z => PyData.eqv z d) = decide (p ∈ ys) := by
    by_cases h : p ∈ ys
    · rw [decide_eq_true h, List.any_eq_true]
      obtain ⟨i, hi, e⟩ := List.mem_iff_getElem.mp h
      refine ⟨ds[i]'(by omega), List.getElem_mem _, ?_⟩
      exact (eqv_iff (hy _ (List.getElem_mem hi)) hp (f5 i hi (by omega)) d1).mpr e
    · rw [decide_eq_false h]
      refine List.any_eq_false.mpr fun z hz hc => ?_
      obtain ⟨i, hi, rfl⟩ := List.mem_iff_getElem.mp hz
      have hi2 : i < ys.length := by omega
      have := (eqv_iff (hy _ (List.getElem_mem hi2)) hp (f5 i hi2 hi) d1).mp hc
      exact h (this ▸ List.getElem_mem hi2)
  rw [this]
theorem step_nx {g : PV → LE → Res LE} {body : LE → Fl} {τ X Y : LE} {p : PV} {I B : LE → Prop} {R : PV → Prop} {E} (h2 : body X = .nx Y) (h1 : g p τ = .ok X) (h3 : I Y) : ∃ τ1, g p τ = .ok τ1 ∧ (body τ1).sat { nx := I, ct := I, bk := B, rt := R, ex := E } :=
  ⟨X, h1, by rw [h2]; exact h3⟩
theorem forR_sat {α : Type} {D : Pst} {g : PV → LE → Res LE} {body : LE → Fl} {τ : LE} (xs : List α) (enc : α → PV) (I : Nat → LE → Prop) (h0 : I 0 τ)
    (hs : ∀ k (hk : k < xs.length) τ, I k τ → ∃ τ1, g (enc xs[k]) τ = .ok τ1 ∧ (body τ1).sat { nx := I (k + 1), ct := I (k + 1), bk := D.nx, rt := D.rt, ex := D.ex })
    (he : ∀ τ, I xs.length τ → D.nx τ) : (forL g body (xs.map enc) τ).sat D :=
  for_sat (it := fun _ => .ok (xs.map enc)) xs enc I rfl h0 hs he
theorem valP_set_same (d : List (Key × PV)) (k : Key) (v : PV) : valP (setP d k v) k = some v := by
  unfold setP
  by_cases h : hasP d k = true
  · rw [if_pos h]
    unfold valP
    induction d with
    | nil => simp [hasP] at h
    | cons kv d ih =>
      by_cases e : kv.1 = k
      · simp [e]
      · simp only [hasP, List.any_cons, e, decide_false, Bool.false_or] at h
        rw [List.map_cons, if_neg e, List.find?_cons_of_neg (by simpa using e)]
        exact ih h
  · rw [if_neg h]
    unfold valP
    have hn : d.find? (fun kv => decide (kv.1 = k)) = none := by
      rw [List.find?_eq_none]
      intro kv hkv
      simp only [hasP, List.any_eq_true, not_exists, not_and] at h
      exact h kv hkv
    rw [List.find?_append, hn]
    simp
theorem valP_set_ne (d : List (Key × PV)) {k j : Key} (v : PV) (h : j ≠ k) : valP (setP d k v) j = valP d j := by
  unfold setP
  split
  · rename_i hh
    clear hh
    unfold valP
    induction d with
    | nil => rfl
    | cons kv d ih =>
      rw [List.map_cons, List.find?_cons, List.find?_cons]
      by_cases e : kv.1 = k
      · have : ¬ kv.1 = j := fun e2 => h (e2.symm.trans e)
        rw [if_pos e]
        simp only [this, decide_false]
        exact ih
      · rw [if_neg e]
        by_cases e2 : kv.1 = j
        · simp [e2]
        · simp only [e2, decide_false]
          exact ih
  · unfold valP
    rw [List.find?_append]
    cases d.find? (fun kv => decide (kv.1 = j)) with
    | some x => rfl
    | none =>
      have : ¬ k = j := fun e => h e.symm
      simp [this]
end Lp
end
section
set_option Elab.async false
set_option linter.all false
set_option maxRecDepth 100000
namespace K24
open PySem PySem.Spec L2 Lp
theorem is_name_ok (l : List (Fin 26)) (h1 : 1 ≤ l.length) (h8 : l.length ≤ 8) : m_is_name (.str (tx l)) = .ok (.bl true) := by
  have hs : (tx l).length ≤ sizeLine := by rw [len_tx, sizeLine_eq]; omega
  have l0 : lc_is_name_0 [some (.str (tx l)), none] = .ok (.lst (l.map fun _ => .bl true)) :=
    comp_map l (fun i => .str (sg i)) _ (by simp [itemsOf, hs, signs_tx]) fun i _ => by simp [cItem, wipeL, pIn, sg_in]
  have a1 := pAll_map (fun _ : Fin 26 => true) l
  have q1 : (1 : Int) ≤ (l.length : Nat) := by omega
  have q2 : ((l.length : Nat) : Int) ≤ 8 := by omega
  simp [m_is_name, b_is_name, pLen_str hs, len_tx, q1, q2, l0, a1, -List.map_const]
theorem is_event_ok (w : Str) (hw : w = ("in" : Str) ∨ w = ("out" : Str)) (l : List (Fin 26)) (h1 : 1 ≤ l.length) (h8 : l.length ≤ 8) : m_is_event (.tup [.str w, .str (tx l)]) = .ok (.bl true) := by
  have hn : ar1 m_is_name [.str (tx l)] = .ok (.bl true) := is_name_ok l h1 h8
  have hne : pNe (.int 2) (.int 2) = some (.bl false) := by
    simp [pNe, eqB, PV.toD, SeqAt.shaped, PyData.canLay0, PyData.depth, PyData.eqv]
  have hi : PV.isa "tuple" (.tup [.str w, .str (tx l)]) = some true := rfl
  have hi2 : PV.isa "str" (.str w) = some true := rfl
  have hx0 : pIx (.tup [.str w, .str (tx l)]) (.int 0) = some (.str w) := rfl
  have hx1 : pIx (.tup [.str w, .str (tx l)]) (.int 1) = some (.str (tx l)) := rfl
  have ht : pIn false (.str w) (.tup [.str ("in" : Str), .str ("out" : Str)]) = some (.bl true) := by
    rcases hw with rfl | rfl <;> simp [pIn, itemsP, PV.flat, inP, eqP]
  have hne2 : pNe (.int ((2 : Nat) : Int)) (.int 2) = some (.bl false) := hne
  simp [m_is_event, b_is_event, sSeq, sIf, tOrM, tNotM, tst, eCall, eVar, eC, aCons, aNil, pIsi, isaKnown, hi, hi2, hx0, hx1, e2, pLen, hne, hne2, sNil, rs, sRet, eAnd, eTup, ht, eFn, hn, fin]
def yardV (h : Nat) (ss : List (List Nm)) : PV := .ins 4 [(("height" : Str), .int (h : Nat)), (("stacks" : Str), stksV ss)]
def dayV (h : Nat) (ss : List (List Nm)) (es : List (Bool × Nm)) : PV := .ins 5 [(("yard" : Str), yardV h ss), (("events" : Str), evsV es)]
theorem is_seq_tup (xs : List PV) : m_is_sequence (.tup xs) = .ok (.bl true) := by
  simp [m_is_sequence, b_is_sequence]
theorem is_seq_lst (xs : List PV) : m_is_sequence (.lst xs) = .ok (.bl true) := by
  simp [m_is_sequence, b_is_sequence]
theorem is_number_nat (n : Nat) : m_is_number (.int (n : Nat)) = .ok (.bl true) := by
  simp [m_is_number, b_is_number, m_is_integer, b_is_integer]
theorem unlike_ok (l : List Nm) (hn : l.Nodup) : m_are_unlike (.lst (l.map nm)) = .ok (.bl true) := by
  have hk : (l.map fun x => (Sum.inr (tx x) : Key)).Nodup := by
    unfold List.Nodup
    rw [List.pairwise_map]
    exact hn.imp fun h e => h (tx_inj (Sum.inr.inj e))
  have hd : lc_are_unlike_0 [some (.lst (l.map nm)), none] = .ok (.dK (l.map fun x => ((Sum.inr (tx x) : Key), PV.bl true))) := by
    have := dcomp_map (own := [1]) (it := iSeq (eVar 0)) (tgt := gNm 1) (cond := tYesM) (ek := eVar 1) (ev := eC (.bl true)) (τ := [some (.lst (l.map nm)), none]) l nm nm (fun x => Sum.inr (tx x)) (fun _ => .bl true) (fun x => rfl) (by simp) (fun x _ => by simp [dItem, wipeL])
    rw [foldl_setP _ _ _ _ hk (by simp)] at this
    exact this
  simp [m_are_unlike, b_are_unlike, hd]
theorem as_stacks_ok (h : Nat) (ss : List (List Nm)) (c1 : 1 ≤ ss.length) (row : ∀ s ∈ ss, s.length ≤ h) (nd : ss.flatten.Nodup) (hn : ∀ x ∈ ss.flatten, 1 ≤ x.length ∧ x.length ≤ 8) (hl : ss.flatten.length ≤ 1000) :
    m_as_stacks (.int (h : Nat)) (stksV ss) = .ok (stksV ss) := by
  have l0 : lc_as_stacks_0 [some (.int (h : Nat)), some (stksV ss), none, none, none, none] = .ok (.lst (ss.map fun _ => .bl true)) :=
    comp_map ss stk _ (by simp [stksV]) fun s _ => by simp [cItem, wipeL, stk, is_seq_tup]
  have l1 : lc_as_stacks_1 [some (.int (h : Nat)), some (stksV ss), none, none, none, none] = .ok (.lst (ss.map stk)) :=
    comp_map ss stk _ (by simp [stksV]) fun s _ => by simp [cItem, wipeL, stk]
  have l2 : lc_as_stacks_2 [some (.int (h : Nat)), some (stksV ss), some (stksV ss), none, none, none] = .ok (.lst (ss.flatten.map nm)) := by
    have e : ss.flatMap (fun s => s.map nm) = ss.flatten.map nm := by rw [List.map_flatten, List.flatMap_def]
    rw [← e]
    refine comp2_map ss stk (fun s => s.map nm) (by simp [stksV]) (fun s _ => ?_) (by rw [e, List.length_map]; omega)
    simp [kC2, wipeL, stk]
    exact (compL_map nm (fun x => some (nm x)) s fun x _ => by simp [cItem]).trans (by rw [List.filterMap_eq_map'])
  have l3 : lc_as_stacks_3 [some (.int (h : Nat)), some (stksV ss), some (stksV ss), some (.lst (ss.flatten.map nm)), none, none] = .ok (.lst (ss.flatten.map fun _ => .bl true)) :=
    comp_map ss.flatten nm _ (by simp [-List.map_flatten]) fun x hx => by simp [cItem, wipeL, nm, is_name_ok x (hn x hx).1 (hn x hx).2]
  have l4 : lc_as_stacks_4 [some (.int (h : Nat)), some (stksV ss), some (stksV ss), some (.lst (ss.flatten.map nm)), none, none] = .ok (.lst (ss.map fun _ => .bl true)) :=
    comp_map ss stk _ (by simp [stksV]) fun s hs => by
      have := row s hs
      simp [cItem, wipeL, stk, this]
  have hu := unlike_ok ss.flatten nd
  have hs : m_is_sequence (stksV ss) = .ok (.bl true) := is_seq_tup _
  have hlen : pLen [stksV ss] = some (.int (ss.length : Nat)) := by simp [stksV]
  have h0 : ¬ ss = [] := by intro e; rw [e] at c1; simp at c1
  have a1 := pAll_map (fun _ : List Nm => true) ss
  have a2 := pAll_map (fun _ : Nm => true) ss.flatten
  simp [m_as_stacks, b_as_stacks, l0, l1, l2, l3, l4, hu, hs, hlen, h0, a1, a2, tup_stk, -List.map_flatten, -List.map_const]
theorem yard_ok {h : Nat} {ss : List (List Nm)} {es} (D : DayOk h ss es) : m_Yard (.int (h : Nat)) (stksV ss) = .ok (yardV h ss) := by
  have e1 := as_stacks_ok h ss D.c1 D.row D.nd D.nmS (by have := D.all; omega)
  have e2 := is_number_nat h
  have h0 : ¬ h = 0 := by have := D.h1; omega
  refine finI_eq ?_
  simp [b_Yard, e1, e2, h0, isN_stks, putP, yardV]
theorem boxes_of_ok (h : Nat) (ss : List (List Nm)) (hl : ss.flatten.length ≤ 1000) : m_boxes_of (yardV h ss) = .ok (.tup (ss.flatten.map nm)) := by
  have l0 : lc_boxes_of_0 [some (yardV h ss), none, none] = .ok (.lst (ss.flatten.map nm)) := by
    have e : ss.flatMap (fun s => s.map nm) = ss.flatten.map nm := by rw [List.map_flatten, List.flatMap_def]
    rw [← e]
    refine comp2_map ss stk (fun s => s.map nm) (by simp [yardV, stksV, List.lookup]) (fun s _ => ?_) (by rw [e, List.length_map]; omega)
    simp [kC2, wipeL, stk]
    exact (compL_map nm (fun x => some (nm x)) s fun x _ => by simp [cItem]).trans (by rw [List.filterMap_eq_map'])
  simp [m_boxes_of, b_boxes_of, l0, -List.map_flatten]
theorem as_events_ok (h : Nat) (ss : List (List Nm)) (es : List (Bool × Nm)) {h' : List Nm} (hl : ss.flatten.length ≤ 1000) (nd : ss.flatten.Nodup) (hrun : runE ss.flatten es = some h') (hne : ∀ e ∈ es, 1 ≤ e.2.length ∧ e.2.length ≤ 8) (hle : es.length ≤ 1000) :
    m_as_events (yardV h ss) (evsV es) = .ok (evsV es) := by
  have l0 : lc_as_events_0 [some (yardV h ss), some (evsV es), none, none, none, none] = .ok (.lst (es.map fun _ => .bl true)) :=
    comp_map es evV _ (by simp [evsV]) fun e he => by
      have hn := hne e he
      have := is_event_ok (if e.1 = true then ("in" : Str) else ("out" : Str)) (by split <;> simp) e.2 hn.1 hn.2
      simp [cItem, wipeL, evV, nm, this]
  have hb := boxes_of_ok h ss hl
  have l1 : lc_as_events_1 [some (yardV h ss), some (evsV es), none, none, none, none] = .ok (thD ss.flatten) := by
    have := dcomp_map (own := [4]) (it := iSeq (eFn (ar1 m_boxes_of) (aCons (eVar 0) aNil))) (tgt := gNm 4) (cond := tYesM) (ek := eVar 4) (ev := eC (.bl true)) (τ := [some (yardV h ss), some (evsV es), none, none, none, none]) ss.flatten nm nm (fun x => Sum.inr (tx x)) (fun _ => .bl true) (fun x => rfl) (by simp [hb, -List.map_flatten]) (fun x _ => by simp [dItem, wipeL])
    rw [foldl_setP _ _ _ _ (by
      unfold List.Nodup
      rw [List.pairwise_map]
      exact nd.imp fun h e => h (tx_inj (Sum.inr.inj e))) (by simp)] at this
    exact this
  have a1 := pAll_map (fun _ : Bool × Nm => true) es
  have hs : m_is_sequence (evsV es) = .ok (.bl true) := is_seq_tup _
  refine fin_eq ?_
  simp [b_as_events, l0, l1, hs, a1, -List.map_const]
  refine sat_next (for_sat es evV (fun k τ => ∃ hk x3 x4 x5, τ = [some (yardV h ss), some (evsV es), some (thD hk), x3, x4, x5] ∧ runE ss.flatten (es.take k) = some hk ∧ hk.Nodup ∧ hk.length ≤ 1000 + k) (by simp [evsV]) ?_ ?_ ?_)
  · exact ⟨_, _, _, _, rfl, rfl, nd, by omega⟩
  · rintro k hk τ ⟨hh, x3, x4, x5, rfl, hr, hn, hhl⟩
    obtain ⟨h2, e2, r2⟩ := runE_step hrun hk hr
    have n2 := stepE_nd hn e2
    have l2 := stepE_len e2
    obtain ⟨⟨b, x⟩, hbx⟩ : ∃ e, es[k] = e := ⟨_, rfl⟩
    rw [hbx] at e2 ⊢
    have hlx : (hh.map fun x => ((Sum.inr (tx x) : Key), PV.bl true)).length < 1000000 := by rw [List.length_map]; omega
    have hp := hasP_th hh x
    have q1 := pEq_str (sok_ofS "in") (sok_ofS "in")
    have q2 := pEq_str (sok_ofS "out") (sok_ofS "in")
    cases b
    · have hx : x ∈ hh := by
        by_cases h : x ∈ hh
        · exact h
        · simp [stepE, h] at e2
      simp [stepE, hx] at e2
      refine ⟨_, by simp [evV]; rfl, ?_⟩
      have hd := drop_th hh x hn
      simp [lb_as_events_2, thD, nm, hp, hx, q2, hd]
      exact ⟨h2, by rw [e2], r2, n2, by omega⟩
    · have hx : x ∉ hh := by
        intro h
        simp [stepE, h] at e2
      simp [stepE, hx] at e2
      refine ⟨_, by simp [evV]; rfl, ?_⟩
      have hd := set_th hx
      simp at hlx
      simp [lb_as_events_2, thD, nm, hp, hx, q1, hd, hlx]
      exact ⟨h2, by rw [← e2]; simp, r2, n2, by omega⟩
  · rintro τ ⟨hh, x3, x4, x5, rfl, hr, hn, hhl⟩
    simp [evsV]
theorem day_made {h : Nat} {ss : List (List Nm)} {es} (D : DayOk h ss es) : m_Day (yardV h ss) (evsV es) = .ok (dayV h ss es) := by
  obtain ⟨h', hr⟩ := D.run
  have e1 := as_events_ok h ss es (by have := D.all; omega) D.nd hr D.nmE (by have := D.len; omega)
  refine finI_eq ?_
  simp [b_Day, e1, isN_evs, putP, dayV]

end K24
end
section
set_option Elab.async false
set_option linter.all false
set_option maxRecDepth 100000
namespace K24
open PySem PySem.Spec L2 Lp
variable {h n : Nat} {ss0 : List (List Nm)} {es : List (Bool × Nm)} {s : Sts}
@[simp] theorem at_yard (h ss es) : kAtt (fun c => c == 5) (Str.ofString "yard") (dayV h ss es) = .ok (yardV h ss) := by simp [dayV, List.lookup]
@[simp] theorem at_events (h ss es) : kAtt (fun c => c == 5) (Str.ofString "events") (dayV h ss es) = .ok (evsV es) := by simp [dayV, List.lookup]
@[simp] theorem at_height (h ss) : kAtt (fun c => c == 4) (Str.ofString "height") (yardV h ss) = .ok (.int (h : Nat)) := by simp [yardV, List.lookup]
@[simp] theorem at_stacks (h ss) : kAtt (fun c => c == 4) (Str.ofString "stacks") (yardV h ss) = .ok (stksV ss) := by simp [yardV, List.lookup]
theorem set_cut {α : Type} (l : List α) (i : Nat) (x : α) (h : i < l.length) : l.set i x = l.take i ++ x :: l.drop (i + 1) := by
  rw [List.set_eq_take_append_cons_drop, if_pos h]
theorem add_tup (xs ys : List PV) (h : xs.length + ys.length ≤ 100000) : pAddA (.tup xs) (.tup ys) = some (.tup (xs ++ ys)) := by
  have : xs.length + ys.length ≤ sizeLine := by rw [sizeLine_eq]; omega
  simp only [pAddA, orP, pAdd, if_pos this]
theorem row_at {ss : List (List Nm)} {i : Nat} (h : i < ss.length) : atI (ss.map stk) ((i : Nat) : Int) = some (stk (row ss i)) := by
  rw [atN, row_lt h]; simp [h]
theorem put_cut (ss : List (List Nm)) (i : Nat) (r : List Nm) (h : i < ss.length) (hl : ss.length ≤ 1000) : ∃ A B : List PV, cut (ss.map stk) none (some ((i : Nat) : Int)) = A ∧ cut (ss.map stk) (some (((i : Nat) : Int) + 1)) none = B ∧ A.length ≤ 1000 ∧ B.length ≤ 1000 ∧ A ++ [stk r] ++ B = (ss.set i r).map stk := by
  refine ⟨(ss.take i).map stk, (ss.drop (i + 1)).map stk, ?_, ?_, by simp; omega, by simp; omega, ?_⟩
  · rw [cut_lo _ (by omega), Int.toNat_natCast, List.map_take]
  · rw [cut_hi _ (by omega), show (((i : Nat) : Int) + 1).toNat = i + 1 by omega, List.map_drop]
  · rw [set_cut ss i r h]; simp
theorem last_at (r : List Nm) : pIx (stk r) (.int (-1)) = (r.getLast?).map nm := by
  show atI (r.map nm) (-1) = _
  rw [atLast, List.getLast?_map]
theorem ev_at {es : List (Bool × Nm)} {e : Nat} {b : Bool} {x : Nm} (he : es[e]? = some (b, x)) : pIx (evsV es) (.int (e : Nat)) = some (.tup [.str (if b = true then ("in" : Str) else ("out" : Str)), nm x]) := by
  show atI (es.map evV) _ = _
  rw [atN, List.getElem?_map, he]
  rfl
theorem evs_len (es : List (Bool × Nm)) : pLen [evsV es] = some (.int (es.length : Nat)) := by simp [evsV]
theorem idx_head (x : Nm) : ∀ (ss : List (List Nm)) (k : Nat), (((ss.zipIdx k).filter fun p => decide (x ∈ p.1)).map fun p => PV.int ((p.2 : Nat) : Int))[0]? = (ss.findIdx? fun r => decide (x ∈ r)).map fun i => PV.int ((i + k : Nat) : Int)
  | [], _ => rfl
  | r :: ss, k => by
    rw [List.zipIdx_cons, List.findIdx?_cons]
    by_cases hx : x ∈ r
    · simp [hx]
    · rw [List.filter_cons_of_neg (by simpa using hx), idx_head x ss (k + 1)]
      simp [hx, Option.map_map, Function.comp_def]
      congr 1
      funext i
      congr 1
      omega
theorem wf_some (w : WF h n ss0 es s) {x : Nm} (he : es[s.1]? = some (false, x)) (hrun : ∃ h', runE ss0.flatten es = some h') : ∃ i, (s.2.findIdx? fun r => decide (x ∈ r)) = some i ∧ i < s.2.length ∧ x ∈ row s.2 i := by
  obtain ⟨hk, hk1, hk2⟩ := w.box
  obtain ⟨h', hr⟩ := hrun
  obtain ⟨hlt, hx⟩ := List.getElem?_eq_some_iff.mp he
  obtain ⟨h2, e2, _⟩ := runE_step hr hlt hk1
  rw [hx] at e2
  have hm : x ∈ hk := by
    by_cases hm : x ∈ hk
    · exact hm
    · simp [stepE, hm] at e2
  obtain ⟨r, hr1, hr2⟩ := List.mem_flatten.mp (hk2.symm.subset hm)
  obtain ⟨i, hi, e⟩ := List.mem_iff_getElem.mp hr1
  refine ⟨i, findIdx_at w.nd hi (by rw [e]; exact hr2), hi, by rw [row_lt hi, e]; exact hr2⟩
theorem add_lst (xs ys : List PV) (h : xs.length + ys.length ≤ 100000) : pAddA (.lst xs) (.lst ys) = some (.lst (xs ++ ys)) := by
  have : xs.length + ys.length ≤ sizeLine := by rw [sizeLine_eq]; omega
  show (if _ then _ else _) = _
  rw [if_pos this]
end K24
end
section
set_option Elab.async false
set_option linter.all false
set_option maxRecDepth 100000
namespace K24
open PySem PySem.Spec L2 Lp
theorem has_room_ok (h : Nat) (ss0 ss : List (List Nm)) (es) (j : Nat) (hj : j < ss.length) : m_has_room (dayV h ss0 es) (stksV ss) (.int (j : Nat)) = .ok (.bl (decide ((row ss j).length < h))) := by
  have r1 := row_at hj
  have hl : pLen [stk (row ss j)] = some (.int ((row ss j).length : Nat)) := by simp [stk]
  simp [m_has_room, b_has_room, stksV, r1, hl]
end K24
end
section
set_option Elab.async false
set_option linter.all false
set_option maxRecDepth 100000
namespace K24
open PySem PySem.Spec L2 Lp
theorem stack_with_ok (ss : List (List Nm)) (x : Nm) (hl : ss.length ≤ 1000) {i : Nat} (hi : (ss.findIdx? fun r => decide (x ∈ r)) = some i) : m_stack_with (stksV ss) (nm x) = .ok (.int (i : Nat)) := by
  have l0 : lc_stack_with_0 [some (stksV ss), some (nm x), none, none] = .ok (.lst (((ss.zipIdx 0).filter fun p => decide (x ∈ p.1)).map fun p => PV.int ((p.2 : Nat) : Int))) := by
    refine comp_filter (ss.zipIdx 0) (fun p => .itm [.int ((p.2 : Nat) : Int), stk p.1]) _ _ ?_ fun p _ => ?_
    · have : pEnum [stksV ss] = some (enumP (ss.map stk)) := by
        show (if _ then _ else _) = _
        rw [if_pos (by simp; omega)]
      simp [this, enumP, List.zipIdx_map]
    · simp [cItem, wipeL, pInA_stk]
      split <;> simp_all
  have hh := idx_head x ss 0
  rw [hi] at hh
  have ha : atI (((ss.zipIdx 0).filter fun p => decide (x ∈ p.1)).map fun p => PV.int ((p.2 : Nat) : Int)) 0 = some (.int (i : Nat)) := by
    have := atN (((ss.zipIdx 0).filter fun p => decide (x ∈ p.1)).map fun p => PV.int ((p.2 : Nat) : Int)) 0
    rw [hh] at this
    simpa using this
  simp [m_stack_with, b_stack_with, l0, ha]
end K24
end
section
set_option Elab.async false
set_option linter.all false
set_option maxRecDepth 100000
namespace K24
open PySem PySem.Spec L2 Lp
variable {h n : Nat} {ss0 : List (List Nm)} {es : List (Bool × Nm)} {s : Sts}
/-! deeds at states, as the program does them -/
theorem with_box_ok (ss : List (List Nm)) (j : Nat) (x : Nm) (hj : j < ss.length) (hl : ss.length ≤ 1000) (hr : (row ss j).length ≤ 1000) : m_with_box (stksV ss) (.int (j : Nat)) (nm x) = .ok (stksV (ss.set j (row ss j ++ [x]))) := by
  obtain ⟨A, B, hA, hB, lA, lB, e⟩ := put_cut ss j (row ss j ++ [x]) hj hl
  have r1 := row_at hj
  have a1 := add_tup ((row ss j).map nm) [nm x] (by simp; omega)
  have a2 := add_tup A [stk (row ss j ++ [x])] (by simp; omega)
  have a3 := add_tup (A ++ [stk (row ss j ++ [x])]) B (by simp; omega)
  rw [e, tup_stk] at a3
  have a1 : pAddA (stk (row ss j)) (.tup [nm x]) = some (stk (row ss j ++ [x])) := by rw [show stk (row ss j) = .tup ((row ss j).map nm) from rfl, a1]; simp [stk]
  simp only [m_with_box, b_with_box]
  simp [stksV, hA, hB, r1, a1, a2, -List.append_assoc, a3, -List.map_set]
theorem without_top_ok (ss : List (List Nm)) (j : Nat) (hj : j < ss.length) (hl : ss.length ≤ 1000) : m_without_top (stksV ss) (.int (j : Nat)) = .ok (stksV (ss.set j (row ss j).dropLast)) := by
  obtain ⟨A, B, hA, hB, lA, lB, e⟩ := put_cut ss j (row ss j).dropLast hj hl
  have r1 := row_at hj
  have c1 : cut ((row ss j).map nm) none (some (-1)) = (row ss j).dropLast.map nm := by rw [cut_m1, List.map_dropLast]
  have a2 := add_tup A [stk (row ss j).dropLast] (by simp; omega)
  have a3 := add_tup (A ++ [stk (row ss j).dropLast]) B (by simp; omega)
  rw [e, tup_stk] at a3
  have c2 : pSlA (stk (row ss j)) none (some (-1)) = some (stk (row ss j).dropLast) := by
    show pSlA (.tup _) _ _ = _
    rw [pSlA_tup, c1]; rfl
  simp only [m_without_top, b_without_top]
  simp [stksV, hA, hB, r1, c2, a2, -List.append_assoc, a3, -List.map_set]
theorem shifted_ok (w : WF h n ss0 es s) (hn : n ≤ 100) (hh : h ≤ 100) {i j : Nat} (hi : i < n) (hj : j < n) : m_shifted (dayV h ss0 es) (stV s) (.int (i : Nat)) (.int (j : Nat)) = .ok (ostV (stepD h es s (.shift i j))) := by
  have hi' : i < s.2.length := by rw [w.len]; exact hi
  have hj' : j < s.2.length := by rw [w.len]; exact hj
  have r1 := row_at hi'
  have hl : pLen [stk (row s.2 i)] = some (.int ((row s.2 i).length : Nat)) := by simp [stk]
  have hroom := has_room_ok h ss0 s.2 es j hj'
  have hwt := without_top_ok s.2 i hi' (by rw [w.len]; omega)
  have hla := last_at (row s.2 i)
  unfold stepD shiftP
  dsimp only
  by_cases c1 : i = j
  · subst c1
    simp [m_shifted, b_shifted, stV, ostV]
  · have c1i : ¬ ((i : Int) = (j : Int)) := by omega
    by_cases c2 : (row s.2 i) = []
    · simp [m_shifted, b_shifted, stV, ostV, c1, c1i, c2, stksV, r1, stk]
    · by_cases c3 : (row s.2 j).length < h
      · obtain ⟨x, hx⟩ : ∃ x, (row s.2 i).getLast? = some x := by
          cases hq : (row s.2 i).getLast? with
          | none => rw [List.getLast?_eq_none_iff] at hq; exact absurd hq c2
          | some x => exact ⟨x, rfl⟩
        rw [hx] at hla
        have hwb := with_box_ok (s.2.set i (row s.2 i).dropLast) j x (by rw [List.length_set]; exact hj') (by rw [List.length_set, w.len]; omega) (by rw [row_set_ne _ c1]; omega)
        rw [row_set_ne _ c1] at hwb
        have h3 : ¬ h ≤ (row s.2 j).length := by omega
        have hst : ∀ {ix}, pIx (stksV s.2) ix = pIx (.tup (s.2.map stk)) ix := rfl
        have hc2 : ¬ ((row s.2 i).length = 0) := fun e => c2 (List.length_eq_zero_iff.mp e)
        simp [m_shifted, b_shifted, stV, ostV, c1, c1i, c2, c3, h3, hst, r1, hl, hroom, hwt, hla, hwb, hx]
      · have h3 : h ≤ (row s.2 j).length := by omega
        have hst : ∀ {ix}, pIx (stksV s.2) ix = pIx (.tup (s.2.map stk)) ix := rfl
        simp [m_shifted, b_shifted, stV, ostV, c1, c1i, c2, c3, h3, hst, r1, hl, hroom]
theorem come_ok (w : WF h n ss0 es s) (hn : n ≤ 100) (hh : h ≤ 100) {j : Nat} (hj : j < n) : m_come (dayV h ss0 es) (stV s) (.int (j : Nat)) = .ok (ostV (stepD h es s (.inn j))) := by
  have hj' : j < s.2.length := by rw [w.len]; exact hj
  have hroom := has_room_ok h ss0 s.2 es j hj'
  have hl := evs_len es
  have q1 := pNe_str (sok_ofS "in") (sok_ofS "in")
  have q2 := pNe_str (sok_ofS "out") (sok_ofS "in")
  unfold stepD
  dsimp only
  cases he : es[s.1]? with
  | none =>
    have : s.1 = es.length := by
      have := w.le
      rw [List.getElem?_eq_none_iff] at he; omega
    simp [m_come, b_come, stV, ostV, hl, this]
  | some ev =>
    obtain ⟨b, x⟩ := ev
    have hlt : s.1 < es.length := (List.getElem?_eq_some_iff.mp he).1
    have hne : ¬ ((s.1 : Int) = (es.length : Int)) := by omega
    have hne2 : ¬ s.1 = es.length := by omega
    have ha := ev_at he
    cases b
    · simp at ha
      simp [m_come, b_come, stV, ostV, hl, hne, hne2, ha, q2]
    · simp at ha
      by_cases c3 : (row s.2 j).length < h
      · have hwb := with_box_ok s.2 j x hj' (by rw [w.len]; omega) (by omega)
        simp [m_come, b_come, stV, ostV, hl, hne, hne2, ha, q1, hroom, c3, hwb]
      · simp [m_come, b_come, stV, ostV, hl, hne, hne2, ha, q1, hroom, c3]
/-- a box that is to go stands somewhere -/
theorem gone_ok (w : WF h n ss0 es s) (hn : n ≤ 100) (hrun : ∃ h', runE ss0.flatten es = some h') : m_gone (dayV h ss0 es) (stV s) = .ok (ostV (stepD h es s .out)) := by
  have hl := evs_len es
  have q1 := pNe_str (sok_ofS "in") (sok_ofS "out")
  have q2 := pNe_str (sok_ofS "out") (sok_ofS "out")
  unfold stepD
  dsimp only
  cases he : es[s.1]? with
  | none =>
    have : s.1 = es.length := by
      have := w.le
      rw [List.getElem?_eq_none_iff] at he; omega
    simp [m_gone, b_gone, stV, ostV, hl, this]
  | some ev =>
    obtain ⟨b, x⟩ := ev
    have hlt : s.1 < es.length := (List.getElem?_eq_some_iff.mp he).1
    have hne : ¬ ((s.1 : Int) = (es.length : Int)) := by omega
    have hne2 : ¬ s.1 = es.length := by omega
    have ha := ev_at he
    cases b
    · simp at ha
      obtain ⟨i, hi, hil, hx⟩ := wf_some w he hrun
      have hsw := stack_with_ok s.2 x (by rw [w.len]; omega) hi
      have r1 := row_at hil
      have hla := last_at (row s.2 i)
      have hwt := without_top_ok s.2 i hil (by rw [w.len]; omega)
      obtain ⟨y, hy⟩ : ∃ y, (row s.2 i).getLast? = some y := by
        cases hq : (row s.2 i).getLast? with
        | none => rw [List.getLast?_eq_none_iff] at hq; rw [hq] at hx; simp at hx
        | some y => exact ⟨y, rfl⟩
      rw [hy, Option.map_some] at hla
      have hst : ∀ {ix}, pIx (stksV s.2) ix = pIx (.tup (s.2.map stk)) ix := fun {ix} => rfl
      have heq := pEq_nm y x
      by_cases c : y = x
      · subst c
        simp [m_gone, b_gone, stV, ostV, hl, hne, hne2, ha, q2, hsw, hst, r1, hla, heq, hi, hy, hwt]
      · simp [m_gone, b_gone, stV, ostV, hl, hne, hne2, ha, q2, hsw, hst, r1, hla, heq, hi, hy, c]
    · simp at ha
      simp [m_gone, b_gone, stV, ostV, hl, hne, hne2, ha, q1]
end K24
end
section
set_option Elab.async false
set_option linter.all false
set_option maxRecDepth 100000
namespace K24
open PySem PySem.Spec L2 Lp
variable {h n : Nat} {ss0 : List (List Nm)} {es : List (Bool × Nm)} {s : Sts}
def pv1 : PV → Prop
  | .non => True
  | .bl _ => True
  | .int _ => True
  | .str x => sok x
  | .tup _ => True
  | .lst _ => True
  | _ => False
def pvd : PV → Prop
  | .tup ps => ps.length ≤ 1000 ∧ ∀ p ∈ ps, pv1 p
  | p => pv1 p
theorem isN_stV (s : Sts) : (stV s).isN = false := rfl
def seqOf : PV → Option (List PV)
  | .tup ps => some ps
  | .lst ps => some ps
  | _ => none
theorem wf_first {h : Nat} {ss : List (List Nm)} {es} (D : DayOk h ss es) : WF h ss.length ss es (0, ss) := ⟨by simp, rfl, D.row, D.nd, ss.flatten, rfl, List.Perm.refl _⟩
end K24
end
section
set_option Elab.async false
set_option linter.all false
set_option maxRecDepth 100000
namespace K24
open PySem PySem.Spec L2 Lp
variable {h n : Nat} {ss0 : List (List Nm)} {es : List (Bool × Nm)} {s : Sts}
/-- values that may stand in a deed's place -/
def isSt (n : Nat) : PV → Bool
  | .int i => decide (0 ≤ i) && decide (i < n)
  | _ => false
theorem is_stack_ok (ss : List (List Nm)) (p : PV) (hp : pv1 p) : m_is_stack (stksV ss) p = .ok (.bl (isSt ss.length p)) := by
  have hl : pLen [stksV ss] = some (.int (ss.length : Nat)) := by simp [stksV]
  cases p <;> first | exact hp.elim | skip
  · simp [m_is_stack, b_is_stack, m_is_number, b_is_number, m_is_integer, b_is_integer, isSt]
  · simp [m_is_stack, b_is_stack, m_is_number, b_is_number, m_is_integer, b_is_integer, isSt]
  · simp [m_is_stack, b_is_stack, m_is_number, b_is_number, m_is_integer, b_is_integer, isSt, hl]
  · simp [m_is_stack, b_is_stack, m_is_number, b_is_number, m_is_integer, b_is_integer, isSt]
  · simp [m_is_stack, b_is_stack, m_is_number, b_is_number, m_is_integer, b_is_integer, isSt]
  · simp [m_is_stack, b_is_stack, m_is_number, b_is_number, m_is_integer, b_is_integer, isSt]
theorem isSt_int {n : Nat} : ∀ {ps : List PV}, ps.all (isSt n) = true → ∃ ks : List Nat, ps = ks.map (fun k => .int ((k : Nat) : Int)) ∧ ∀ k ∈ ks, k < n
  | [], _ => ⟨[], rfl, by simp⟩
  | p :: ps, h => by
    rw [List.all_cons, Bool.and_eq_true] at h
    obtain ⟨ks, rfl, hk⟩ := isSt_int h.2
    cases p with
    | int i =>
      have h1 := h.1
      simp only [isSt, Bool.and_eq_true, decide_eq_true_eq] at h1
      refine ⟨i.toNat :: ks, ?_, fun k hk' => ?_⟩
      · simp only [List.map_cons]
        rw [Int.toNat_of_nonneg h1.1]
      · rcases List.mem_cons.mp hk' with rfl | hk'
        · omega
        · exact hk k hk'
    | _ => exact absurd h.1 (by simp [isSt])
theorem asDeed_none {n : Nat} {w : Str} {ps : List PV} (h : ps.all (isSt n) = false) : asDeed n (.tup (.str w :: ps)) = none := by
  unfold asDeed
  split
  · rename_i hq
    cases hq
    simp at h
  · rename_i hq
    cases hq
    simp only [List.all_cons, List.all_nil, Bool.and_true, isSt, Bool.and_eq_false_iff, decide_eq_false_iff_not] at h
    exact if_neg fun hc => by rcases h with h | h <;> omega
  · rename_i hq
    cases hq
    simp only [List.all_cons, List.all_nil, Bool.and_true, isSt, Bool.and_eq_false_iff, decide_eq_false_iff_not] at h
    exact if_neg fun hc => by rcases h with (h | h) | (h | h) <;> omega
  · rfl
theorem behind_parts (s : Sts) (d : PV) (w : Str) (ps : List PV) (hn : s.2.length = n) (hp : ∀ p ∈ ps, pv1 p) : lc_behind_0 [some d, some (stV s), some (.tup (.str w :: ps)), none] = .ok (.lst (ps.map fun p => .bl (isSt n p))) := by
  refine comp_map ps (fun p => p) _ ?_ fun p hpm => ?_
  · have : cut (PV.str w :: ps) (some 1) none = ps := by rw [cut_hi _ (by decide)]; rfl
    simp [this]
  · have := is_stack_ok s.2 p (hp p hpm)
    rw [hn] at this
    simp [cItem, wipeL, stV, this]
theorem behind_ok (w : WF h n ss0 es s) (hn : n ≤ 100) (hh : h ≤ 100) (hrun : ∃ h', runE ss0.flatten es = some h') (p : PV) (hp : pvd p) : m_behind (dayV h ss0 es) (stV s) p = .ok (ostV (doneP h n es s p)) := by
  unfold doneP
  have other : ∀ p, (∀ ps, p ≠ .tup ps) → pv1 p → m_behind (dayV h ss0 es) (stV s) p = .ok (ostV ((asDeed n p).bind (stepD h es s))) := by
    intro p hno hp1
    cases p <;> first | exact hp1.elim | exact absurd rfl (hno _) | simp [m_behind, b_behind, asDeed, ostV]
  cases p with
  | tup ps =>
    cases ps with
    | nil => simp [m_behind, b_behind, asDeed, ostV]
    | cons q ps =>
      obtain ⟨hlen, hall⟩ := hp
      have hq := hall q List.mem_cons_self
      have noStr : (∀ z, q ≠ .str z) → asDeed n (.tup (q :: ps)) = none := by
        intro hno
        unfold asDeed
        split <;> first | rfl | (rename_i hq; cases hq; exact absurd rfl (hno _))
      have hcast : ¬ (((ps.length : Nat) : Int) + 1 = 0) := by omega
      cases q with
      | str z =>
        have hps : ∀ p ∈ ps, pv1 p := fun p hp => hall p (List.mem_cons_of_mem _ hp)
        have l0 := behind_parts s (dayV h ss0 es) z ps w.len hps
        have a0 := pAll_map (isSt n) ps
        by_cases hst : ps.all (isSt n) = true
        · obtain ⟨ks, rfl, hk⟩ := isSt_int hst
          rw [hst] at a0
          have e1 := pEq_str hq (sok_ofS "shift")
          have e2 := pEq_str hq (sok_ofS "in")
          have e3 := pEq_str hq (sok_ofS "out")
          match ks, hk with
          | [], hk =>
            have hg := gone_ok (s := s) w hn hrun
            simp only [List.map_nil] at l0 a0 hcast ⊢
            by_cases c : z = ("out" : Str)
            · subst c
              simp at e1 e2 e3
              simp [m_behind, b_behind, l0, a0, e1, e2, e3, asDeed, hg]
            · simp [c] at e3
              by_cases c1 : z = ("shift" : Str)
              · subst c1
                simp at e1 e2
                simp [m_behind, b_behind, l0, a0, e1, e2, e3, asDeed, ostV]
              · by_cases c2 : z = ("in" : Str)
                · subst c2
                  simp at e1 e2
                  simp [m_behind, b_behind, l0, a0, e1, e2, e3, asDeed, ostV]
                · simp [c1] at e1
                  simp [c2] at e2
                  simp [m_behind, b_behind, l0, a0, e1, e2, e3, asDeed, ostV, c]
          | [j], hk =>
            have hj := hk j List.mem_cons_self
            have hg := come_ok (s := s) w hn hh hj
            simp only [List.map_nil, List.map_cons] at l0 a0 hcast ⊢
            by_cases c : z = ("in" : Str)
            · subst c
              simp at e1 e2 e3
              simp [m_behind, b_behind, l0, a0, e1, e2, e3, asDeed, hg, hj]
            · simp [c] at e2
              by_cases c1 : z = ("shift" : Str)
              · subst c1
                simp at e1 e3
                simp [m_behind, b_behind, l0, a0, e1, e2, e3, asDeed, ostV]
              · by_cases c2 : z = ("out" : Str)
                · subst c2
                  simp at e1 e3
                  simp [m_behind, b_behind, l0, a0, e1, e2, e3, asDeed, ostV]
                · simp [c1] at e1
                  simp [c2] at e3
                  simp [m_behind, b_behind, l0, a0, e1, e2, e3, asDeed, ostV, c]
          | [i, j], hk =>
            have hi := hk i List.mem_cons_self
            have hj := hk j (by simp)
            have hg := shifted_ok (s := s) w hn hh hi hj
            simp only [List.map_nil, List.map_cons] at l0 a0 hcast ⊢
            by_cases c : z = ("shift" : Str)
            · subst c
              simp at e1 e2 e3
              simp [m_behind, b_behind, l0, a0, e1, e2, e3, asDeed, hg, hi, hj]
            · simp [c] at e1
              by_cases c1 : z = ("in" : Str)
              · subst c1
                simp at e2 e3
                simp [m_behind, b_behind, l0, a0, e1, e2, e3, asDeed, ostV]
              · by_cases c2 : z = ("out" : Str)
                · subst c2
                  simp at e2 e3
                  simp [m_behind, b_behind, l0, a0, e1, e2, e3, asDeed, ostV]
                · simp [c1] at e2
                  simp [c2] at e3
                  simp [m_behind, b_behind, l0, a0, e1, e2, e3, asDeed, ostV, c]
          | i :: j :: k :: r, hk =>
            simp only [List.map_cons] at l0 a0 hcast ⊢
            have hnn : asDeed n (.tup (.str z :: .int (i : Nat) :: .int (j : Nat) :: .int (k : Nat) :: r.map fun k => .int ((k : Nat) : Int))) = none := rfl
            rw [hnn]
            have g1 : ¬ (((r.length : Nat) : Int) + 1 + 1 + 1 + 1 = 3) := by omega
            have g2 : ¬ (((r.length : Nat) : Int) + 1 + 1 + 1 + 1 = 2) := by omega
            have g3 : ¬ (((r.length : Nat) : Int) + 1 + 1 + 1 + 1 = 1) := by omega
            have g4 : ¬ (((r.length : Nat) : Int) + 1 + 1 + 1 + 1 = 0) := by omega
            simp [m_behind, b_behind, l0, a0, e1, e2, e3, ostV, g1, g2, g3, g4, -List.map_map]
        · have hst' : ps.all (isSt n) = false := by simpa using hst
          rw [hst'] at a0
          rw [asDeed_none hst']
          simp [m_behind, b_behind, l0, a0, ostV, hcast]
      | _ =>
        rw [noStr (by intro z hz; cases hz)]
        first | exact hq.elim | simp [m_behind, b_behind, ostV, hcast]
  | _ => exact other _ (by intro ps hq; cases hq) hp
/-! plans -/
def statesP (h n : Nat) (es : List (Bool × Nm)) (s : Sts) : List PV → Sum (List Sts) PV
  | [] => .inl [s]
  | p :: ps => match doneP h n es s p with
    | none => .inr p
    | some s' => match statesP h n es s' ps with
      | .inl l => .inl (s :: l)
      | .inr q => .inr q
theorem wf_done (w : WF h n ss0 es s) (hrun : ∃ h', runE ss0.flatten es = some h') {p : PV} {s' : Sts} (hd : doneP h n es s p = some s') : WF h n ss0 es s' := by
  unfold doneP at hd
  cases hq : asDeed n p with
  | none => rw [hq] at hd; cases hd
  | some D => rw [hq] at hd; exact w.step (asDeed_valid hq).1 hd hrun
end K24
end
section
set_option Elab.async false
set_option linter.all false
set_option maxRecDepth 100000
namespace Lp
open PySem PySem.Spec L2
theorem strs_nm (r : List Nm) : strsOf (r.map nm) = some (r.map tx) := by
  rw [← strsOf_map, List.map_map]; rfl
open Classical in
theorem first_idx {α : Type} [BEq α] [LawfulBEq α] (x : α) : ∀ (r : List α) (k : Nat), r[k]? = some x → (∀ m, m < k → r[m]? ≠ some x) → r.idxOf x = k
  | [], k, h, _ => by simp at h
  | y :: r, k, h, hm => by
    by_cases e : y = x
    · subst e
      cases k with
      | zero => simp
      | succ k => exact absurd rfl (hm 0 (by omega))
    · cases k with
      | zero => simp at h; exact absurd h e
      | succ k =>
        rw [List.idxOf_cons, show (y == x) = false by simpa using e, cond_false, first_idx x r k (by simpa using h) fun m hmk => by
          have := hm (m + 1) (by omega)
          simpa using this]
theorem find_tx (x : Nm) : ∀ r : List Nm, x ∈ r → ((r.map tx).findIdx? fun y => decide (y = tx x)) = some (r.idxOf x)
  | y :: r, hx => by
    rw [List.map_cons, List.findIdx?_cons]
    by_cases e : y = x
    · subst e; simp
    · have : ¬ tx y = tx x := fun z => e (tx_inj z)
      have hx' : x ∈ r := (List.mem_cons.mp hx).resolve_left fun z => e z.symm
      rw [find_tx x r hx', List.idxOf_cons, show (y == x) = false by simpa using e, cond_false]
      simp [this]
theorem index_nm {x : Nm} {r : List Nm} (hx : x ∈ r) : pIndex (stk r) (nm x) = some (.int (r.idxOf x : Nat)) := by
  show (match strsOf (r.map nm) with
    | some ys => (ys.findIdx? fun y => decide (y = tx x)).map fun j => PV.int (j : Nat)
    | none => none) = _
  rw [strs_nm]
  dsimp only
  rw [find_tx x r hx]
  rfl
theorem idx_nm {x : Nm} {r : List Nm} (hx : x ∈ r) : kIdx (.ok (nm x)) (stk r) = .ok (.int (r.idxOf x : Nat)) := by
  show (Res.ok (nm x) >>= fun z => up (pIndex (stk r) z)) = _
  rw [Res.ok_bind, index_nm hx]
  rfl
theorem pR2_nat {e n : Nat} (h : e ≤ n) (hn : n ≤ 1000000) : pR2 [.int (e : Nat), .int (n : Nat)] = some ((List.range (n - e)).map fun i => .int ((e + i : Nat) : Int)) := by
  unfold pR2
  dsimp only
  have c : -(2 ^ 62) ≤ ((n : Nat) : Int) ∧ ((n : Nat) : Int) < 2 ^ 62 ∧ -(2 ^ 62) ≤ ((e : Nat) : Int) ∧ ((e : Nat) : Int) < 2 ^ 62 ∧ (((n : Nat) : Int) - (e : Nat)).toNat ≤ 1000000 := by
    refine ⟨?_, ?_, ?_, ?_, ?_⟩ <;> omega
  rw [if_pos c]
  unfold rngP
  have e1 : (((n : Nat) : Int) - (e : Nat)).toNat = n - e := by omega
  rw [e1]
  congr 1
/-! who goes when, who blocks -/
def going (es : List (Bool × Nm)) (e : Nat) (x : Nm) : Nat := e + (es.drop e).findIdx fun ev => decide (ev = (false, x))
theorem going_le {es : List (Bool × Nm)} {e : Nat} (h : e ≤ es.length) (x : Nm) : going es e x ≤ es.length := by
  unfold going
  have := List.findIdx_le_length (p := fun ev : Bool × Nm => decide (ev = (false, x))) (xs := es.drop e)
  rw [List.length_drop] at this
  omega
/-- the dict of goings -/
def GoD (es : List (Bool × Nm)) (e : Nat) (D : List (Key × PV)) : Prop := ∀ x, valP D (.inr (tx x)) = if going es e x < es.length then some (.int (going es e x : Nat)) else none
theorem find_go {es : List (Bool × Nm)} {e : Nat} (h : e ≤ es.length) (x : Nm) : ((es.drop e).findIdx? fun ev => decide (ev = (false, x))).map (fun i => PV.int ((e + i : Nat) : Int)) = if going es e x < es.length then some (.int (going es e x : Nat)) else none := by
  unfold going
  cases hq : (es.drop e).findIdx? fun ev => decide (ev = (false, x)) with
  | none =>
    have := List.findIdx?_eq_none_iff_findIdx_eq.mp hq
    rw [this, List.length_drop, if_neg (by omega)]
    rfl
  | some i =>
    obtain ⟨h1, h2⟩ := List.findIdx?_eq_some_iff_findIdx_eq.mp hq
    rw [List.length_drop] at h1
    rw [h2, if_pos (by omega)]
    rfl
def gb (es : List (Bool × Nm)) (e : Nat) (x y : Nm) : Bool := decide (going es e x < going es e y)
def blkIn (es : List (Bool × Nm)) (e : Nat) (r : List Nm) : List Nm := (List.range r.length).flatMap fun k => (r[k]?.toList).filter fun y => (r.take k).any fun b => gb es e b y
def blkAt (es : List (Bool × Nm)) (e : Nat) (S : List (List Nm)) : List Nm := S.flatMap (blkIn es e)
def blkBy (es : List (Bool × Nm)) (e : Nat) (r : List Nm) (k : Nat) (x : Nm) : List Nm := (r.drop (k + 1)).filter fun y => gb es e x y
theorem blkIn_len (es : List (Bool × Nm)) (e : Nat) (r : List Nm) : (blkIn es e r).length ≤ r.length := by
  unfold blkIn
  have : ∀ n, ((List.range n).flatMap fun k => (r[k]?.toList).filter fun y => (r.take k).any fun b => gb es e b y).length ≤ n := by
    intro n
    induction n with
    | zero => simp
    | succ n ih =>
      rw [List.range_succ, List.flatMap_append, List.length_append]
      have h1 : ((r[n]?.toList).filter fun y => (r.take n).any fun b => gb es e b y).length ≤ 1 := Nat.le_trans (List.length_filter_le _ _) (by cases r[n]? <;> simp)
      simp only [List.flatMap_cons, List.flatMap_nil, List.append_nil]
      omega
  exact this r.length
theorem blkAt_len (es : List (Bool × Nm)) (e : Nat) : ∀ S : List (List Nm), (blkAt es e S).length ≤ S.flatten.length
  | [] => by simp [blkAt]
  | r :: S => by
    have h1 := blkIn_len es e r
    have h2 := blkAt_len es e S
    unfold blkAt at *
    rw [List.flatMap_cons, List.length_append, List.flatten_cons, List.length_append]
    omega
def blkN (es : List (Bool × Nm)) (e : Nat) (r : List Nm) (n : Nat) : List Nm := (List.range n).flatMap fun k => (r[k]?.toList).filter fun y => (r.take k).any fun b => gb es e b y
theorem blkN_all (es : List (Bool × Nm)) (e : Nat) (r : List Nm) : blkN es e r r.length = blkIn es e r := rfl
theorem blkN_succ (es : List (Bool × Nm)) (e : Nat) (r : List Nm) {n : Nat} (hn : n < r.length) : blkN es e r (n + 1) = blkN es e r n ++ if ((r.take n).any fun b => gb es e b r[n]) = true then [r[n]] else [] := by
  unfold blkN
  rw [List.range_succ, List.flatMap_append]
  simp only [List.flatMap_cons, List.flatMap_nil, List.append_nil, List.getElem?_eq_getElem hn, Option.toList_some, List.filter_cons, List.filter_nil]
theorem blkN_len (es : List (Bool × Nm)) (e : Nat) (r : List Nm) : ∀ n, n ≤ r.length → (blkN es e r n).length ≤ n
  | 0, _ => by simp [blkN]
  | n + 1, h => by
    have ih := blkN_len es e r n (by omega)
    rw [blkN_succ es e r (by omega), List.length_append]
    split <;> simp <;> omega
theorem zip_at {α : Type} (l : List α) (k : Nat) (h : k < (l.zipIdx 0).length) : (l.zipIdx 0)[k] = (l[k]'(by simpa using h), k) := by simp
theorem enum_nm (r : List Nm) : enumP (r.map nm) = (r.zipIdx 0).map fun p => .itm [.int ((p.2 : Nat) : Int), nm p.1] := by simp [enumP, List.zipIdx_map]
theorem evV_inj {a b : Bool × Nm} : evV a = evV b ↔ a = b := by
  constructor
  · intro h
    obtain ⟨a1, a2⟩ := a
    obtain ⟨b1, b2⟩ := b
    simp only [evV, PV.tup.injEq, List.cons.injEq, PV.str.injEq, and_true] at h
    have h2 := nm_inj h.2
    subst h2
    cases a1 <;> cases b1 <;> simp at h <;> rfl
  · rintro rfl; rfl
theorem dat_ev (k : Nat) (a : Bool × Nm) : dat (k + 1) (evV a) := fun p hp => by
  simp only [List.mem_cons, List.not_mem_nil, or_false] at hp
  rcases hp with rfl | rfl
  · split
    · cases k <;> exact sok_ofS "in"
    · cases k <;> exact sok_ofS "out"
  · exact dat_nm k _
theorem pEq_ev (a b : Bool × Nm) : pEq (evV a) (evV b) = some (.bl (decide (a = b))) := by
  by_cases h : a = b
  · rw [pEq_yes (k := 1) (by decide) (dat_ev 0 a) (dat_ev 0 b) (evV_inj.mpr h), decide_eq_true h]
  · rw [pEq_no (k := 1) (by decide) (dat_ev 0 a) (dat_ev 0 b) fun z => h (evV_inj.mp z), decide_eq_false h]
theorem going_hit {es : List (Bool × Nm)} {e k : Nat} {x : Nm} (hk : es[k]? = some (false, x)) (he : e ≤ k) (hm : ∀ m, e ≤ m → m < k → es[m]? ≠ some (false, x)) : going es e x = k := by
  obtain ⟨h1, h2⟩ := List.getElem?_eq_some_iff.mp hk
  unfold going
  have hl : k - e < (es.drop e).length := by rw [List.length_drop]; omega
  have : (es.drop e).findIdx (fun ev => decide (ev = (false, x))) = k - e := by
    rw [List.findIdx_eq hl]
    refine ⟨?_, fun j hj => ?_⟩
    · rw [List.getElem_drop]
      simp only [decide_eq_true_eq]
      rw [← h2]
      congr 1
      omega
    · rw [List.getElem_drop]
      simp only [decide_eq_false_iff_not]
      intro z
      exact hm (e + j) (by omega) (by omega) (by rw [List.getElem?_eq_getElem (by omega), z])
  rw [this]; omega
theorem going_none {es : List (Bool × Nm)} {e : Nat} {x : Nm} (he : e ≤ es.length) (hm : ∀ m, e ≤ m → m < es.length → es[m]? ≠ some (false, x)) : going es e x = es.length := by
  unfold going
  have : (es.drop e).findIdx (fun ev => decide (ev = (false, x))) = (es.drop e).length := by
    rw [List.findIdx_eq_length]
    intro ev hev
    obtain ⟨j, hj, rfl⟩ := List.mem_iff_getElem.mp hev
    rw [List.length_drop] at hj
    simp only [decide_eq_false_iff_not]
    intro z
    rw [List.getElem_drop] at z
    exact hm (e + j) (by omega) (by omega) (by rw [List.getElem?_eq_getElem (by omega), z])
  rw [this, List.length_drop]; omega
end Lp
end
section
set_option Elab.async false
set_option linter.all false
set_option maxRecDepth 100000
open PySem PySem.Spec L2 Lp
/-! texts of letters: joined, cut -/
theorem join_tx' : ∀ l : List Nm, Txt.join ("" : Str) (l.map tx) = tx l.flatten := by
  have key : ∀ l : List Nm, Str.join ("" : Str) (l.map tx) = tx l.flatten := by
    intro l
    induction l with
    | nil => rfl
    | cons x l ih =>
      cases l with
      | nil => simp [Str.join]
      | cons y r =>
        have he : ∀ a : Str, a ++ ("" : Str) = a := fun a => by
          show Str.mk _ = _
          simp [show (("" : Str)).cps = #[] from by decide +kernel]
        show tx x ++ ("" : Str) ++ Str.join ("" : Str) ((y :: r).map tx) = _
        rw [ih, he, tx_app]
        rfl
  intro l
  exact (TL.join_eq _ _).trans (key l)
theorem flat_one {α : Type} (l : List α) : (l.map fun i => [i]).flatten = l := by
  induction l with
  | nil => rfl
  | cons a l ih => rw [List.map_cons, List.flatten_cons, ih]; rfl
theorem strs_sg (l : List (Fin 26)) : strsOf (l.map fun i => PV.str (sg i)) = some ((l.map fun i => [i]).map tx) := by
  induction l with
  | nil => rfl
  | cons a l ih => rw [List.map_cons, strsOf, ih]; rfl
theorem joinE (l : List (Fin 26)) (h : l.length ≤ 100) : pJoin ("" : Str) (.lst (l.map fun i => .str (sg i))) = some (nm l) := by
  show joinOk _ _ = _
  unfold joinOk
  rw [strs_sg]
  have h0 : ("" : Str).length = 0 := by decide +kernel
  have hs : ∀ l : List (Fin 26), (((l.map fun i => [i]).map tx).map fun s => s.length).sum = l.length := by
    intro l
    induction l with
    | nil => rfl
    | cons a l ih =>
      simp only [List.map_cons, List.sum_cons, List.length_cons, ih, len_tx, List.length_nil]
      omega
  dsimp only
  rw [if_pos (by rw [h0, hs]; omega), join_tx', flat_one]
  rfl
theorem cutS_tx (l : Nm) (lo hi : Option Int) : cutS (tx l) lo hi = tx (cut l lo hi) := by
  unfold cutS cut
  rw [len_tx]
  unfold tx
  simp [List.map_take, List.map_drop]
theorem sl_nm (l : Nm) (h : l.length ≤ 1000) (lo hi : Option Int) : pSlA (nm l) lo hi = some (nm (cut l lo hi)) := by
  have : (tx l).length ≤ sizeLine := by rw [len_tx, sizeLine_eq]; omega
  show (match (if (tx l).length ≤ sizeLine then some (PV.str (cutS (tx l) lo hi)) else none) with | some z => some z | none => _) = _
  rw [if_pos this, cutS_tx]
  rfl
theorem ixN_nat' {n k : Nat} (h : k < n) : ixN n ((k : Nat) : Int) = some k := by
  unfold ixN
  rw [if_pos (by omega), if_pos (by omega)]
  simp
theorem set_last {α : Type} (l : List α) (x y : α) : (l ++ [x]).set l.length y = l ++ [y] := by
  rw [List.set_append_right _ _ (Nat.le_refl _), Nat.sub_self]; rfl
end
section
set_option Elab.async false
set_option linter.all false
set_option maxRecDepth 100000
namespace K24
open PySem PySem.Spec L2 Lp
variable {h n : Nat} {ss0 : List (List Nm)} {es : List (Bool × Nm)} {s : Sts}
def entV (e : Deed × Sts) : PV := .tup [deedV e.1, stV e.2]
theorem sl_front (r : List Nm) : pSlA (stk r) none (some (-1)) = some (stk r.dropLast) := by
  show pSlA (.tup _) _ _ = _
  rw [pSlA_tup, cut_m1, ← List.map_dropLast]; rfl
theorem sl_last (r : List Nm) : pSlA (stk r) (some (-1)) none = some (stk r.getLast?.toList) := by
  show pSlA (.tup _) _ _ = _
  rw [pSlA_tup, cut_last, List.getLast?_map]
  cases r.getLast? <;> rfl
theorem add_stk (r q : List Nm) (h : r.length + q.length ≤ 10000) : pAddA (stk r) (stk q) = some (stk (r ++ q)) := by
  have := add_tup (r.map nm) (q.map nm) (by simp; omega)
  rw [← List.map_append] at this
  exact this
theorem outE_len (j : Nat) : (outE es s j).length ≤ 1 := by
  unfold outE
  split
  · split <;> simp
  · simp
theorem inE_len (j : Nat) : (inE h es s j).length ≤ 1 := by
  unfold inE
  split
  · split <;> simp
  · simp
theorem shE_len (i j : Nat) : (shE h s i j).length ≤ 1 := by
  unfold shE
  split <;> simp
theorem fm_succ {α : Type} (f : Nat → List α) (k : Nat) : (List.range (k + 1)).flatMap f = (List.range k).flatMap f ++ f k := by
  rw [List.range_succ, List.flatMap_append]; simp
theorem fm_len {α : Type} (f : Nat → List α) (c : Nat) (hf : ∀ j, (f j).length ≤ c) : ∀ k, ((List.range k).flatMap f).length ≤ c * k
  | 0 => by simp
  | k + 1 => by
    have h1 := fm_len f c hf k
    have h2 := hf k
    rw [fm_succ, List.length_append, Nat.mul_succ]
    omega
theorem pvd_deed (D : Deed) : pvd (deedV D) := by
  cases D with
  | shift i j => exact ⟨by simp, fun p hp => by
      simp only [List.mem_cons, List.not_mem_nil, or_false] at hp
      rcases hp with rfl | rfl | rfl <;> first | exact sok_ofS _ | trivial⟩
  | inn j => exact ⟨by simp, fun p hp => by
      simp only [List.mem_cons, List.not_mem_nil, or_false] at hp
      rcases hp with rfl | rfl <;> first | exact sok_ofS _ | trivial⟩
  | out => exact ⟨by simp, fun p hp => by
      simp only [List.mem_cons, List.not_mem_nil, or_false] at hp
      subst hp
      exact sok_ofS _⟩
end K24
end
section
set_option Elab.async false
set_option linter.all false
set_option maxRecDepth 100000
namespace K24
open PySem PySem.Spec L2 Lp
/-! draws of a cell (the laws k20..k25) -/
abbrev τv (c : Int) (m : Nat) (b left : Int) (ds : List Int) (x5 x6 x7 x8 : Option PV) : LE := [some (.int c), some (.int (m : Nat)), some (.int b), some (.int left), some (.lst (ds.map .int)), x5, x6, x7, x8]
theorem vdraws_step (c : Int) (m : Nat) (b left : Int) (ds : List Int) (k : Nat) (x6 x7 x8 : Option PV) (hb : 0 < b ∧ b < 2 ^ 60) (hd : ds.length < 1000) :
    ∃ left' d y6 y7 y8, lb__law_draws_0 (τv c m b left ds (some (.int (k : Nat))) x6 x7 x8) = .nx (τv c m b left' (ds ++ [d]) (some (.int (k : Nat))) y6 y7 y8) ∧ 0 ≤ d ∧ d < b := by
  by_cases h : b ≤ left
  · refine ⟨left / b, left % b, x6, x7, x8, ?_, Int.emod_nonneg _ (by omega), Int.emod_lt_of_pos _ (by omega)⟩
    have e1 := pMod_int (i := left) hb.1
    have e2 := pDivW_int (i := left) (j := b) hb.1 (by omega)
    have g := gApp_s (ps := ds.map PV.int) (q := .int (left % b)) (by simp; omega)
    simp [lb__law_draws_0, h, e1, e2, g]
  · let f1 := (c * 48271 + ((k : Nat) + 1) * 69621) % 2147483647
    let f2 := (f1 * f1 + ((k : Nat) + 1) * 40692) % 2147483399
    let f3 := (f2 * f2 + f1) % 2147483647
    have b1 : 0 ≤ f1 ∧ f1 < 2147483647 := ⟨Int.emod_nonneg _ (by decide), Int.emod_lt_of_pos _ (by decide)⟩
    have b2 : 0 ≤ f2 ∧ f2 < 2147483399 := ⟨Int.emod_nonneg _ (by decide), Int.emod_lt_of_pos _ (by decide)⟩
    have m1 := pMul_int (i := c) (j := 48271) (.inr ⟨by decide, by decide⟩)
    have m2 := pMul_int (i := (k : Nat) + 1) (j := 69621) (.inr ⟨by decide, by decide⟩)
    have m3 := pMul_int (i := (k : Nat) + 1) (j := 40692) (.inr ⟨by decide, by decide⟩)
    have m4 := pMul_int (i := f1) (j := f1) (.inl ⟨by omega, by omega⟩)
    have m6 := pMul_int (i := f2) (j := f2) (.inl ⟨by omega, by omega⟩)
    have o1 : pMod (.int (c * 48271 + ((k : Nat) + 1) * 69621)) (.int 2147483647) = some (.int f1) := pMod_int (by decide)
    have o2 : pMod (.int (f1 * f1 + ((k : Nat) + 1) * 40692)) (.int 2147483399) = some (.int f2) := pMod_int (by decide)
    have o3 : pMod (.int (f2 * f2 + f1)) (.int 2147483647) = some (.int f3) := pMod_int (by decide)
    have o5 := pMod_int (i := f3) hb.1
    clear_value f1 f2 f3
    have g := gApp_s (ps := ds.map PV.int) (q := .int (f3 % b)) (by simp; omega)
    refine ⟨left, f3 % b, some (.int f1), some (.int f2), some (.int f3), ?_, Int.emod_nonneg _ (by omega), Int.emod_lt_of_pos _ (by omega)⟩
    simp [lb__law_draws_0, h, m1, m2, m3, m4, m6, o1, o2, o3, o5, g]
theorem vdraws_ok (c : Int) (m : Nat) (b : Int) (hb : 0 < b ∧ b < 2 ^ 60) (hm : m ≤ 900) :
    ∃ ds : List Int, m__law_draws (.int c) (.int (m : Nat)) (.int b) = .ok (.lst (ds.map .int)) ∧ ds.length = m ∧ ∀ d ∈ ds, 0 ≤ d ∧ d < b := by
  have hpow := pPow_int (i := 10) (j := 18) ⟨by decide, by decide, by decide⟩
  have hr := pR1_le m (by omega)
  have main : ∀ P : PV → Prop, (∀ ds : List Int, ds.length = m → (∀ d ∈ ds, 0 ≤ d ∧ d < b) → P (.lst (ds.map .int))) →
      (b__law_draws [some (.int c), some (.int (m : Nat)), some (.int b), none, none, none, none, none, none]).sat { rt := P } := by
    intro P hP
    have loop : ∀ left : Int, ((sFor (iFn pR1 (aCons (eVar 1) aNil)) (gNm 5) lb__law_draws_0 (τv c m b left [] none none none none)).next (sRet (eVar 4))).sat { rt := P } := by
      intro left
      refine sat_next (for_sat (List.range m) (fun i => .int (i : Nat)) (fun j τ => ∃ left ds x5 x6 x7 x8, τ = τv c m b left ds x5 x6 x7 x8 ∧ ds.length = j ∧ ∀ d ∈ ds, 0 ≤ d ∧ d < b) (by simp [hr]) ?_ ?_ ?_)
      · exact ⟨left, [], none, none, none, none, rfl, rfl, by simp⟩
      · rintro j hj τ ⟨left, ds, x5, x6, x7, x8, rfl, hd, hds⟩
        simp at hj
        refine ⟨_, rfl, ?_⟩
        obtain ⟨left', d, y6, y7, y8, e, d0, d1⟩ := vdraws_step c m b left ds j x6 x7 x8 hb (by omega)
        simp only [List.getElem_range]
        show (lb__law_draws_0 (τv c m b left ds (some (.int (j : Nat))) x6 x7 x8)).sat _
        rw [e]
        refine ⟨left', ds ++ [d], _, y6, y7, y8, rfl, by simp [hd], fun z hz => ?_⟩
        rcases List.mem_append.mp hz with hz | hz
        · exact hds z hz
        · rw [List.mem_singleton.mp hz]; exact ⟨d0, d1⟩
      · rintro τ ⟨left, ds, x5, x6, x7, x8, rfl, hd, hds⟩
        simp
        exact hP ds (by simpa using hd) hds
    by_cases h1 : (10 : Int) ^ 18 ≤ c
    · simp [b__law_draws, hpow]
      simp at h1
      rw [if_pos h1]
      exact loop _
    · simp [b__law_draws, hpow]
      simp at h1
      rw [if_neg (by omega)]
      exact loop _
  obtain ⟨v, hv, ds, rfl, h1, h2⟩ := fin_sat (rm := .sh) (main (fun v => ∃ ds : List Int, v = .lst (ds.map .int) ∧ ds.length = m ∧ ∀ d ∈ ds, 0 ≤ d ∧ d < b) fun ds a b => ⟨ds, rfl, a, b⟩)
  exact ⟨ds, hv, h1, h2⟩
theorem vcell_ok (ns : List Int) (k : Nat) : ∃ i, m__law_cell (.scr ns) (.int (k : Nat)) = .ok (.int i) := by
  by_cases h : k < ns.length
  · have hx : pIx (.scr ns) (.int (k : Nat)) = some (.int ns[k]) := by
      show (atI ns _).map _ = _
      rw [atN, List.getElem?_eq_getElem h]; rfl
    obtain ⟨i, ha⟩ : ∃ i, pAbs [PV.int ns[k]] = some (.int i) := ⟨_, rfl⟩
    refine ⟨i, ?_⟩
    simp [m__law_cell, b__law_cell, h, hx, ha]
  · refine ⟨0, ?_⟩
    simp [m__law_cell, b__law_cell, h]
end K24
end
section
set_option Elab.async false
set_option linter.all false
set_option maxRecDepth 100000
set_option maxHeartbeats 2000000
namespace K24
open PySem PySem.Spec L2 Lp
/-! names drawn (the laws k20..k25) -/
def vsteps : List Int := [1, 3, 5, 7, 9, 11, 15, 17]
def vbase (ds : List Int) (kd d11 : Int) (k : Nat) : Nm := ((ds.drop 2).take 7).map fun d => lt (d + kd / 2 * (k : Int) * d11)
def vtail (kd d10 : Int) (k : Nat) (t : Nm) : Nm := if kd = 1 then t.take (((k : Int) + d10) % 8).toNat else t
def vname (ds : List Int) (pl : Nat) (st kd d10 d11 : Int) (k : Nat) : Nm := if kd = 3 then ((ds.drop 2).take (1 + ((d10 + (k : Int)) % 5).toNat)).map lt
  else (vbase ds kd d11 k).take pl ++ [lt (d10 + (k : Int) * st)] ++ vtail kd d10 k ((vbase ds kd d11 k).drop pl)
theorem vbase_len {ds : List Int} (h : ds.length = 12) (kd d11 : Int) (k : Nat) : (vbase ds kd d11 k).length = 7 := by
  unfold vbase
  simp [h]
theorem vname_len {ds : List Int} (h : ds.length = 12) {pl : Nat} (hp : pl < 8) (st kd d10 d11 : Int) (k : Nat) : 1 ≤ (vname ds pl st kd d10 d11 k).length ∧ (vname ds pl st kd d10 d11 k).length ≤ 8 := by
  unfold vname
  have hb := vbase_len h kd d11 k
  have h5 : ((d10 + (k : Int)) % 5).toNat < 5 := by omega
  split
  · simp [h]; omega
  · have : (vtail kd d10 k ((vbase ds kd d11 k).drop pl)).length ≤ 7 - pl := by
      unfold vtail
      split <;> simp [hb] <;> omega
    simp [hb]; omega
theorem lt_val (x : Int) : ((lt x).val : Int) = x % 26 := by
  show (((x % 26).toNat : Nat) : Int) = _
  omega
theorem vname_inj {ds : List Int} (h : ds.length = 12) {pl : Nat} (hp : pl < 8) {st : Int} (hst : st ∈ vsteps) (kd d10 d11 : Int) {a b : Nat} (ha : a < 5) (hb : b < 5) (e : vname ds pl st kd d10 d11 a = vname ds pl st kd d10 d11 b) : a = b := by
  unfold vname at e
  by_cases c : kd = 3
  · rw [if_pos c, if_pos c] at e
    have := congrArg List.length e
    simp [h] at this
    omega
  · rw [if_neg c, if_neg c] at e
    have l1 := vbase_len h kd d11 a
    have l2 := vbase_len h kd d11 b
    have key : ∀ k, (vbase ds kd d11 k).length = 7 → (((vbase ds kd d11 k).take pl ++ [lt (d10 + (k : Int) * st)] ++ vtail kd d10 k ((vbase ds kd d11 k).drop pl)))[pl]? = some (lt (d10 + (k : Int) * st)) := fun k hl => by
      have hk : ((vbase ds kd d11 k).take pl).length = pl := by rw [List.length_take, hl]; omega
      rw [List.append_assoc, List.getElem?_append_right (by omega), hk, Nat.sub_self]
      rfl
    have e2 := congrArg (fun l => l[pl]?) e
    rw [key a l1, key b l2] at e2
    have e3 := congrArg (fun o => o.map fun (i : Fin 26) => ((i.val : Nat) : Int)) e2
    simp only [Option.map_some, Option.some.injEq, lt_val] at e3
    unfold vsteps at hst
    simp only [List.mem_cons, List.not_mem_nil, or_false] at hst
    rcases hst with rfl | rfl | rfl | rfl | rfl | rfl | rfl | rfl <;> omega
abbrev τw (c : PV) (ds : List Int) (pl : Nat) (st kd : Int) (ws : List Nm) (x7 x8 x9 x10 : Option PV) : LE := [some c, some ltrs, some (.lst (ds.map .int)), some (.int (pl : Nat)), some (.int st), some (.int kd), some (.lst (ws.map nm)), x7, x8, x9, x10]
theorem iat {ds : List Int} {i : Nat} (h : i < ds.length) : atI (ds.map PV.int) ((i : Nat) : Int) = some (.int ds[i]) := by
  rw [atN]; simp [h]
theorem names_step (c : PV) (ds : List Int) (hl : ds.length = 12) (hd : ∀ d ∈ ds, 0 ≤ d ∧ d < 208) (pl : Nat) (hp : pl < 8) (st kd : Int) (hs : 0 ≤ st ∧ st < 100) (hk : 0 ≤ kd ∧ kd < 4) (d10 d11 : Int) (h10 : ds[10]'(by omega) = d10) (h11 : ds[11]'(by omega) = d11) (ws : List Nm) (k : Nat) (hw : ws.length = k) (hk5 : k < 5) (x8 x9 : Option PV) :
    ∃ y8 y9, lb__law_names_2 (τw c ds pl st kd ws (some (.int (k : Nat))) x8 x9 none) = .nx (τw c ds pl st kd (ws ++ [vname ds pl st kd d10 d11 k]) (some (.int (k : Nat))) y8 y9 none) := by
  have b10 := hd d10 (by rw [← h10]; exact List.getElem_mem _)
  have b11 := hd d11 (by rw [← h11]; exact List.getElem_mem _)
  have i10 : atI (ds.map PV.int) 10 = some (.int d10) := by
    have := iat (ds := ds) (i := 10) (by omega)
    rw [h10] at this; exact this
  have i11 : atI (ds.map PV.int) 11 = some (.int d11) := by
    have := iat (ds := ds) (i := 11) (by omega)
    rw [h11] at this; exact this
  have v1 := pDiv_int (i := kd) (j := 2) ⟨by decide, by decide⟩
  have v2 := pMul_int (i := kd / 2) (j := (k : Nat)) (.inr ⟨by omega, by omega⟩)
  have v3 := pMul_int (i := kd / 2 * (k : Nat)) (j := d11) (.inr ⟨by omega, by omega⟩)
  have hbl := vbase_len hl kd d11 k
  have c0 : ∀ x8 x9, lc__law_names_0 (τw c ds pl st kd ws (some (.int (k : Nat))) x8 x9 none) = .ok (.lst ((vbase ds kd d11 k).map fun i => .str (sg i))) := fun x8 x9 => by
    unfold vbase
    rw [List.map_map]
    refine comp_map ((ds.drop 2).take 7) (fun d => .int d) _ ?_ fun d _ => ?_
    · have : cut (ds.map PV.int) (some 2) (some 9) = ((ds.drop 2).take 7).map fun d => PV.int d := by
        rw [cut_nn _ (by decide) (by decide)]
        simp [List.map_take, List.map_drop]
      simp [this]
    · have o := pMod_int (i := d + kd / 2 * (k : Nat) * d11) (j := 26) (by decide)
      have l := lt_at (d + kd / 2 * (k : Nat) * d11)
      unfold ltrs at l
      simp [cItem, wipeL, v1, v2, v3, i11, o, l, ltrs]
  have c1 : ∀ ws' x8 x9, lc__law_names_1 (τw c ds pl st kd ws' (some (.int (k : Nat))) x8 x9 none) = .ok (.lst ((((ds.drop 2).take (1 + ((d10 + (k : Int)) % 5).toNat)).map lt).map fun i => .str (sg i))) := fun ws' x8 x9 => by
    rw [List.map_map]
    have o5 := pMod_int (i := d10 + (k : Nat)) (j := 5) (by decide)
    refine comp_map ((ds.drop 2).take (1 + ((d10 + (k : Int)) % 5).toNat)) (fun d => .int d) _ ?_ fun d _ => ?_
    · have : cut (ds.map PV.int) (some 2) (some (3 + (d10 + (k : Int)) % 5)) = ((ds.drop 2).take (1 + ((d10 + (k : Int)) % 5).toNat)).map fun d => PV.int d := by
        rw [cut_nn _ (by decide) (by omega), List.map_take, List.map_drop]
        congr 1
        have : ((2 : Int)).toNat = 2 := rfl
        omega
      simp [i10, o5, this]
    · have o := pMod_int (i := d) (j := 26) (by decide)
      have l := lt_at d
      unfold ltrs at l
      simp [cItem, wipeL, o, l, ltrs]
  have j0 := joinE (vbase ds kd d11 k) (by omega)
  have s1 := sl_nm (vbase ds kd d11 k) (by omega) (some (pl : Nat)) none
  rw [cut_hi _ (by omega), Int.toNat_natCast] at s1
  have s2 := sl_nm (vbase ds kd d11 k) (by omega) none (some (pl : Nat))
  rw [cut_lo _ (by omega), Int.toNat_natCast] at s2
  have o8 := pMod_int (i := (k : Nat) + d10) (j := 8) (by decide)
  have s3 := sl_nm ((vbase ds kd d11 k).drop pl) (by simp; omega) none (some (((k : Nat) + d10) % 8))
  rw [cut_lo _ (by omega)] at s3
  have m4 := pMul_int (i := (k : Nat)) (j := st) (.inr ⟨by omega, by omega⟩)
  have o26 := pMod_int (i := d10 + (k : Nat) * st) (j := 26) (by decide)
  have l26 := lt_at (d10 + (k : Nat) * st)
  unfold ltrs at l26
  have a1 := add_tx ((vbase ds kd d11 k).take pl) [lt (d10 + (k : Nat) * st)] (by simp; omega)
  have a2 := add_tx ((vbase ds kd d11 k).take pl ++ [lt (d10 + (k : Nat) * st)]) (vtail kd d10 k ((vbase ds kd d11 k).drop pl)) (by
    have : (vtail kd d10 k ((vbase ds kd d11 k).drop pl)).length ≤ 7 := by
      unfold vtail
      split <;> simp [hbl] <;> omega
    simp; omega)
  rw [← sg_tx] at a1
  have j1 := joinE (((ds.drop 2).take (1 + ((d10 + (k : Int)) % 5).toNat)).map lt) (by simp; omega)
  generalize hB : vbase ds kd d11 k = B at *
  have hx : ixN (k + 1) ((k : Nat) : Int) = some k := ixN_nat' (by omega)
  have ga := fun w : Nm => gApp_s (ps := ws.map nm) (q := nm w) (by simp; omega)
  have hset := fun w w' : Nm => set_last (ws.map nm) (nm w) (nm w')
  rw [List.length_map, hw] at hset
  unfold vname
  dsimp only [τw, ltrs] at c0 c1 ⊢
  unfold nm at *
  by_cases k3 : kd = 3
  · subst k3
    rw [if_pos rfl]
    rw [hB] at *
    unfold vtail at a2
    rw [if_neg (by decide)] at a2
    have g1 := ga (B.take pl ++ [lt (d10 + (k : Nat) * st)] ++ B.drop pl)
    have g2 := hset (B.take pl ++ [lt (d10 + (k : Nat) * st)] ++ B.drop pl) (((ds.drop 2).take (1 + ((d10 + (k : Int)) % 5).toNat)).map lt)
    have c1' := fun x8 x9 => c1 (ws ++ [B.take pl ++ [lt (d10 + (k : Nat) * st)] ++ B.drop pl]) x8 x9
    rw [List.map_append, List.map_cons, List.map_nil] at c1'
    generalize ((ds.drop 2).take (1 + ((d10 + (k : Int)) % 5).toNat)).map lt = W at *
    simp only [List.append_assoc] at *
    generalize tx (B.take pl ++ ([lt (d10 + (k : Nat) * st)] ++ B.drop pl)) = U at *
    refine ⟨some (.str (tx B)), some (.str (tx (B.drop pl))), ?_⟩
    simp [lb__law_names_2, c0, j0, s1, s2, i10, m4, o26, l26, a1, a2, g1, c1', j1, sSetI, hx, g2, hw]
  · rw [if_neg k3]
    rw [hB] at *
    by_cases k1 : kd = 1
    · subst k1
      unfold vtail at a2 ⊢
      rw [if_pos rfl] at a2 ⊢
      have g1 := ga (B.take pl ++ [lt (d10 + (k : Nat) * st)] ++ (B.drop pl).take (((k : Int) + d10) % 8).toNat)
      simp only [List.append_assoc] at *
      generalize hU : tx (B.take pl ++ ([lt (d10 + (k : Nat) * st)] ++ (B.drop pl).take (((k : Int) + d10) % 8).toNat)) = U at a2 g1
      refine ⟨some (.str (tx B)), some (.str (tx ((B.drop pl).take (((k : Int) + d10) % 8).toNat))), ?_⟩
      simp [lb__law_names_2, c0, j0, s1, s2, s3, i10, m4, o8, o26, l26, a1, a2, g1]
      rw [← hU]; simp
    · unfold vtail at a2 ⊢
      rw [if_neg k1] at a2 ⊢
      have g1 := ga (B.take pl ++ [lt (d10 + (k : Nat) * st)] ++ B.drop pl)
      simp only [List.append_assoc] at *
      generalize hU : tx (B.take pl ++ ([lt (d10 + (k : Nat) * st)] ++ B.drop pl)) = U at a2 g1
      refine ⟨some (.str (tx B)), some (.str (tx (B.drop pl))), ?_⟩
      simp [lb__law_names_2, c0, j0, s1, s2, i10, m4, o26, l26, a1, a2, g1, k1, k3]
      rw [← hU]; simp
theorem names_ok (c : Int) : ∃ ls : List Nm, m__law_names (.int c) = .ok (.lst (ls.map nm)) ∧ ls.length = 5 ∧ ls.Nodup ∧ ∀ l ∈ ls, 1 ≤ l.length ∧ l.length ≤ 8 := by
  obtain ⟨ds, ed, dl, db⟩ := vdraws_ok c 12 208 (by decide) (by decide)
  have i0 := iat (ds := ds) (i := 0) (by omega)
  have i1 := iat (ds := ds) (i := 1) (by omega)
  have i9 := iat (ds := ds) (i := 9) (by omega)
  obtain ⟨pl, hpl, hp8⟩ := mod_nat (m := ds[0]'(by omega)) (n := 8) (by decide)
  obtain ⟨q, hq, hq8⟩ := mod_nat (m := ds[1]'(by omega)) (n := 8) (by decide)
  have o0 := pMod_int (i := ds[0]'(by omega)) (j := 8) (by decide)
  have o1 := pMod_int (i := ds[1]'(by omega)) (j := 8) (by decide)
  have o9 := pMod_int (i := ds[9]'(by omega)) (j := 4) (by decide)
  have hpl' : (ds[0]'(by omega)) % 8 = (pl : Nat) := hpl
  have hq' : (ds[1]'(by omega)) % 8 = (q : Nat) := hq
  rw [hpl'] at o0
  rw [hq'] at o1
  have hk : 0 ≤ (ds[9]'(by omega)) % 4 ∧ (ds[9]'(by omega)) % 4 < 4 := by omega
  have hst : ∃ st, atI [PV.int 1, .int 3, .int 5, .int 7, .int 9, .int 11, .int 15, .int 17] ((q : Nat) : Int) = some (.int st) ∧ st ∈ vsteps := by
    have h8 : q < 8 := hq8
    have : q = 0 ∨ q = 1 ∨ q = 2 ∨ q = 3 ∨ q = 4 ∨ q = 5 ∨ q = 6 ∨ q = 7 := by omega
    rcases this with rfl | rfl | rfl | rfl | rfl | rfl | rfl | rfl <;> exact ⟨_, rfl, by simp [vsteps]⟩
  obtain ⟨st, hst, hstm⟩ := hst
  have hsr : 0 ≤ st ∧ st < 100 := by
    unfold vsteps at hstm
    simp only [List.mem_cons, List.not_mem_nil, or_false] at hstm
    omega
  have hr := pR1_le 5 (by omega)
  obtain ⟨d10, h10⟩ : ∃ d, ds[10]'(by omega) = d := ⟨_, rfl⟩
  obtain ⟨d11, h11⟩ : ∃ d, ds[11]'(by omega) = d := ⟨_, rfl⟩
  generalize (ds[0]'(by omega)) = d0 at i0 o0
  generalize (ds[1]'(by omega)) = d1 at i1 o1
  generalize hd9 : (ds[9]'(by omega)) = d9 at i9 o9 hk
  generalize hkd : d9 % 4 = kd at o9 hk
  refine ⟨(List.range 5).map fun k => vname ds pl st kd d10 d11 k, ?_, by simp, ?_, ?_⟩
  · refine fin_eq ?_
    generalize hP : (fun q : PV => q = .lst (((List.range 5).map fun k => vname ds pl st kd d10 d11 k).map nm)) = P
    have hP2 : P (.lst (((List.range 5).map fun k => vname ds pl st kd d10 d11 k).map nm)) := by rw [← hP]
    clear hP
    have ed' : m__law_draws (.int c) (.int 12) (.int 208) = .ok (.lst (ds.map .int)) := ed
    have i0' : atI (ds.map PV.int) 0 = some (.int d0) := i0
    have i1' : atI (ds.map PV.int) 1 = some (.int d1) := i1
    have i9' : atI (ds.map PV.int) 9 = some (.int d9) := i9
    have hr' : pR1 [.int 5] = some ((List.range 5).map fun i => .int (i : Nat)) := hr
    simp [b__law_names, ed', i0', i1', i9', o0, o1, o9, hst]
    refine sat_next (for_sat (List.range 5) (fun i => .int (i : Nat)) (fun j τ => ∃ x7 x8 x9, τ = τw (.int c) ds pl st kd ((List.range j).map fun k => vname ds pl st kd d10 d11 k) x7 x8 x9 none) (by simp [hr']) ⟨none, none, none, rfl⟩ ?_ ?_)
    · rintro j hj τ ⟨x7, x8, x9, rfl⟩
      simp only [List.length_range] at hj
      refine ⟨_, rfl, ?_⟩
      simp only [List.getElem_range]
      obtain ⟨y8, y9, e⟩ := names_step (.int c) ds dl db pl hp8 st kd hsr hk d10 d11 h10 h11 ((List.range j).map fun k => vname ds pl st kd d10 d11 k) j (by simp) hj x8 x9
      show (lb__law_names_2 (τw (.int c) ds pl st kd _ (some (.int (j : Nat))) x8 x9 none)).sat _
      rw [e]
      exact ⟨_, y8, y9, by rw [List.range_succ, List.map_append]; rfl⟩
    · rintro τ ⟨x7, x8, x9, rfl⟩
      simp only [List.length_range]
      simpa using hP2
  · unfold List.Nodup
    rw [List.pairwise_map]
    refine List.Pairwise.imp_of_mem ?_ (List.nodup_range (n := 5))
    intro a b ha hb hab e
    exact hab (vname_inj dl hp8 hstm kd d10 d11 (List.mem_range.mp ha) (List.mem_range.mp hb) e)
  · intro l hl
    obtain ⟨j, hj, rfl⟩ := List.mem_map.mp hl
    exact vname_len dl hp8 st kd d10 d11 j
end K24
end
section
set_option Elab.async false
set_option linter.all false
set_option maxRecDepth 100000
set_option maxHeartbeats 1000000
namespace K24
open PySem PySem.Spec L2 Lp
/-! stacks drawn (the laws k20..k25) -/
abbrev τp (c : PV) (ls : List Nm) (m h n : Nat) (ss : List (List Nm)) (ds : List Int) (x7 x8 x9 : Option PV) : LE := [some c, some (.lst (ls.map nm)), some (.int (m : Nat)), some (.int (h : Nat)), some (.int (n : Nat)), some (.lst (ss.map stk)), some (.lst (ds.map .int)), x7, x8, x9]
theorem put_perm (ss : List (List Nm)) (j : Nat) (x : Nm) (h : j < ss.length) : (ss.set j (row ss j ++ [x])).flatten.Perm (ss.flatten ++ [x]) := flat_put ss j x h
theorem piles_step (c : PV) (ls : List Nm) (m h n : Nat) (ss : List (List Nm)) (ds : List Int) (hs : ss.length = n) (hn : n ≤ 100) (hh : h ≤ 100) (hr : ∀ r ∈ ss, r.length ≤ h) (k : Nat) (hk : k < ls.length) (hd : k < ds.length) (x8 x9 : Option PV) :
    ∃ ss' y8 y9, lb__law_piles_2 (τp c ls m h n ss ds (some (.int (k : Nat))) x8 x9) = .nx (τp c ls m h n ss' ds (some (.int (k : Nat))) y8 y9) ∧ (ss' = ss ∨ ∃ j, j < n ∧ (row ss j).length < h ∧ ss' = ss.set j (row ss j ++ [ls[k]])) := by
  have hrn := pR1_le n (by omega)
  have fr : ∀ x8 x9, lc__law_piles_1 (τp c ls m h n ss ds (some (.int (k : Nat))) x8 x9) = .ok (.lst (((List.range n).filter fun j => decide ((row ss j).length < h)).map fun (j : Nat) => PV.int (j : Nat))) := fun x8 x9 => by
    refine comp_filter (List.range n) (fun i => .int (i : Nat)) (fun i => .int (i : Nat)) _ (by simp [hrn]) fun j hj => ?_
    have rj := row_at (ss := ss) (i := j) (by rw [hs]; exact List.mem_range.mp hj)
    have lj : pLen [stk (row ss j)] = some (.int ((row ss j).length : Nat)) := by simp [stk]
    simp [cItem, wipeL, rj, lj]
    split <;> simp_all
  generalize hF : ((List.range n).filter fun j => decide ((row ss j).length < h)) = F at fr
  have hFm : ∀ j ∈ F, j < n ∧ (row ss j).length < h := fun j hj => by
    rw [← hF] at hj
    obtain ⟨h1, h2⟩ := List.mem_filter.mp hj
    exact ⟨List.mem_range.mp h1, of_decide_eq_true h2⟩
  have hl : pLen [.lst (F.map fun (j : Nat) => PV.int (j : Nat))] = some (.int (F.length : Nat)) := by simp
  dsimp only [τp] at fr ⊢
  by_cases h0 : F.length = 0
  · refine ⟨ss, some (.lst (F.map fun (j : Nat) => PV.int (j : Nat))), x9, ?_, .inl rfl⟩
    have h0' : F = [] := List.length_eq_zero_iff.mp h0
    simp [lb__law_piles_2, fr, h0']
  · obtain ⟨q, hq, hq2⟩ := mod_nat (m := ds[k]) (n := F.length) (by omega)
    have o := pMod_int (i := ds[k]) (j := (F.length : Nat)) (by omega)
    rw [hq] at o
    have id := iat hd
    have iF : atI (F.map fun (j : Nat) => PV.int (j : Nat)) ((q : Nat) : Int) = some (.int (F[q] : Nat)) := by rw [atN]; simp [hq2]
    have hm := hFm F[q] (List.getElem_mem hq2)
    generalize hj : F[q] = j at iF hm
    have hjs : j < ss.length := by rw [hs]; exact hm.1
    have rj := row_at hjs
    have il : atI (ls.map nm) ((k : Nat) : Int) = some (nm ls[k]) := by rw [atN]; simp [hk]
    have ad : pAddA (stk (row ss j)) (.tup [nm ls[k]]) = some (stk (row ss j ++ [ls[k]])) := by
      have := add_tup ((row ss j).map nm) [nm ls[k]] (by simp; omega)
      unfold stk
      rw [this]; simp
    have hx := ixN_nat' hjs
    have hset : (ss.map stk).set j (stk (row ss j ++ [ls[k]])) = (ss.set j (row ss j ++ [ls[k]])).map stk := by rw [List.map_set]
    refine ⟨ss.set j (row ss j ++ [ls[k]]), some (.lst (F.map fun (j : Nat) => PV.int (j : Nat))), some (.int (j : Nat)), ?_, .inr ⟨j, hm.1, hm.2, rfl⟩⟩
    have h1 : ¬ F = [] := fun e => h0 (by rw [e]; rfl)
    have h2 : 0 < F.length := by omega
    simp [lb__law_piles_2, fr, h1, h2, id, o, iF, rj, il, ad, sSetI, hx, hset, -List.map_set]
theorem piles_ok (c : Int) (ls : List Nm) (hl : ls.length = 5) (hnd : ls.Nodup) (m h n : Nat) (hm : m ≤ 5) (hn : n ≤ 100) (hh : h ≤ 100) :
    ∃ ss, m__law_piles (.int c) (.lst (ls.map nm)) (.int (m : Nat)) (.int (h : Nat)) (.int (n : Nat)) = .ok (stksV ss) ∧ ss.length = n ∧ (∀ r ∈ ss, r.length ≤ h) ∧ ss.flatten.Nodup ∧ (∀ x ∈ ss.flatten, x ∈ ls) ∧ ss.flatten.length ≤ m := by
  obtain ⟨ds, ed, dl, db⟩ := vdraws_ok c m 60 (by decide) (by omega)
  have hrn := pR1_le n (by omega)
  have hrm := pR1_le m (by omega)
  have l0 : lc__law_piles_0 [some (.int c), some (.lst (ls.map nm)), some (.int (m : Nat)), some (.int (h : Nat)), some (.int (n : Nat)), none, none, none, none, none] = .ok (.lst ((List.replicate n ([] : List Nm)).map stk)) := by
    have := comp_map (own := [9]) (it := iFn pR1 (aCons (eVar 4) aNil)) (tgt := gNm 9) (cond := tYesM) (elt := eTup aNil) (τ := [some (.int c), some (.lst (ls.map nm)), some (.int (m : Nat)), some (.int (h : Nat)), some (.int (n : Nat)), none, none, none, none, none]) (List.range n) (fun i => .int (i : Nat)) (fun _ => stk []) (by simp [hrn]) fun i _ => by simp [cItem, wipeL, stk]
    rw [List.map_const', List.length_range] at this
    rw [List.map_replicate]
    exact this
  have main : ∀ P : PV → Prop, (∀ ss : List (List Nm), ss.length = n → (∀ r ∈ ss, r.length ≤ h) → ss.flatten.Nodup → (∀ x ∈ ss.flatten, x ∈ ls) → ss.flatten.length ≤ m → P (stksV ss)) →
      (b__law_piles [some (.int c), some (.lst (ls.map nm)), some (.int (m : Nat)), some (.int (h : Nat)), some (.int (n : Nat)), none, none, none, none, none]).sat { rt := P } := by
    intro P hP
    simp [b__law_piles, l0, ed, -List.map_replicate]
    refine sat_next (for_sat (List.range m) (fun i => .int (i : Nat)) (fun j τ => ∃ ss x7 x8 x9, τ = τp (.int c) ls m h n ss ds x7 x8 x9 ∧ ss.length = n ∧ (∀ r ∈ ss, r.length ≤ h) ∧ ss.flatten.Nodup ∧ (∀ x ∈ ss.flatten, x ∈ ls.take j) ∧ ss.flatten.length ≤ j) (by simp [hrm]) ?_ ?_ ?_)
    · refine ⟨List.replicate n [], none, none, none, rfl, by simp, ?_, ?_, ?_, ?_⟩
      · intro r hr; rw [(List.mem_replicate.mp hr).2]; simp
      · simp
      · simp
      · simp
    · rintro k hk τ ⟨ss, x7, x8, x9, rfl, h1, h2, h3, h4, h5⟩
      simp only [List.length_range] at hk
      refine ⟨_, rfl, ?_⟩
      simp only [List.getElem_range]
      obtain ⟨ss', y8, y9, e, hss⟩ := piles_step (.int c) ls m h n ss ds h1 hn hh h2 k (by omega) (by omega) x8 x9
      show (lb__law_piles_2 (τp (.int c) ls m h n ss ds (some (.int (k : Nat))) x8 x9)).sat _
      rw [e]
      refine ⟨ss', _, y8, y9, rfl, ?_⟩
      have hk5 : k < ls.length := by omega
      have htk : ls.take (k + 1) = ls.take k ++ [ls[k]] := List.take_succ_eq_append_getElem hk5
      rcases hss with rfl | ⟨j, hj, hjr, rfl⟩
      · refine ⟨h1, h2, h3, fun x hx => ?_, by omega⟩
        rw [htk]
        exact List.mem_append_left _ (h4 x hx)
      · have pm := put_perm ss j ls[k] (by rw [h1]; exact hj)
        have hnew : ls[k] ∉ ss.flatten := fun hx => by
          have hx2 := h4 _ hx
          obtain ⟨i, hi, hie⟩ := List.mem_iff_getElem.mp hx2
          rw [List.getElem_take] at hie
          have hik : i < k := by rw [List.length_take] at hi; omega
          have := (List.getElem_inj hnd).mp hie
          omega
        refine ⟨by simpa using h1, mem_set_le h2 (by simp; omega), pm.nodup_iff.mpr ?_, fun x hx => ?_, by rw [pm.length_eq, List.length_append, List.length_singleton]; omega⟩
        · exact List.nodup_append.mpr ⟨h3, by simp, fun a ha b hb => by
            rw [List.mem_singleton.mp hb]
            rintro rfl
            exact hnew ha⟩
        · rw [htk]
          rcases List.mem_append.mp (pm.subset hx) with hx | hx
          · exact List.mem_append_left _ (h4 x hx)
          · exact List.mem_append_right _ hx
    · rintro τ ⟨ss, x7, x8, x9, rfl, h1, h2, h3, h4, h5⟩
      simp only [List.length_range] at h4 h5
      simp [tup_stk]
      exact hP ss h1 h2 h3 (fun x hx => List.mem_of_mem_take (h4 x hx)) h5
  obtain ⟨v, hv, ss, rfl, q⟩ := fin_sat (rm := .sh) (main (fun v => ∃ ss, v = stksV ss ∧ ss.length = n ∧ (∀ r ∈ ss, r.length ≤ h) ∧ ss.flatten.Nodup ∧ (∀ x ∈ ss.flatten, x ∈ ls) ∧ ss.flatten.length ≤ m) fun ss a b c d e => ⟨ss, rfl, a, b, c, d, e⟩)
  exact ⟨ss, hv, q⟩
end K24
end
section
set_option Elab.async false
set_option linter.all false
set_option maxRecDepth 100000
set_option maxHeartbeats 1000000
namespace K24
open PySem PySem.Spec L2 Lp
/-! events drawn (the laws k20..k25) -/
theorem standing_ok (ss : List (List Nm)) (hl : ss.flatten.length ≤ 1000) : m__law_standing (stksV ss) = .ok (.lst (ss.flatten.map nm)) := by
  refine fin_eq ?_
  generalize hP : (fun q : PV => q = .lst (ss.flatten.map nm)) = P
  have hP2 : P (.lst (ss.flatten.map nm)) := by rw [← hP]
  clear hP
  simp [b__law_standing]
  refine sat_next (for_sat ss stk (fun k τ => ∃ x2, τ = [some (stksV ss), some (.lst ((ss.take k).flatten.map nm)), x2]) (by simp [stksV]) ⟨none, by simp⟩ ?_ ?_)
  · rintro k hk τ ⟨x2, rfl⟩
    refine ⟨_, rfl, ?_⟩
    have hle : (ss.take k).flatten.length + ss[k].length ≤ ss.flatten.length := by
      conv => rhs; rw [← List.take_append_drop k ss, List.drop_eq_getElem_cons hk, List.flatten_append, List.flatten_cons, List.length_append, List.length_append]
      omega
    have ga : gExt ((ss.take k).flatten.map nm) [stk ss[k]] = some ((ss.take (k + 1)).flatten.map nm, .non) := by
      have : ((ss.take k).flatten.map nm).length + (ss[k].map nm).length ≤ 1000000 := by rw [List.length_map, List.length_map]; omega
      show (if _ then _ else _) = _
      rw [if_pos this, List.take_succ_eq_append_getElem hk, List.flatten_append]
      simp
    simp [lb__law_standing_0, ga, -List.map_flatten, -List.map_take]
  · rintro τ ⟨x2, rfl⟩
    rw [List.take_of_length_le (Nat.le_refl _)]
    simp [-List.map_flatten]
    exact hP2
/-- what is there at each event drawn; at most `most` at any time -/
structure EvC (here0 pool : List Nm) (h : List Nm) (es : List (Bool × Nm)) (used most : Nat) : Prop where
  run : runE here0 es = some h
  nd : h.Nodup
  sub : ∀ x ∈ h, x ∈ pool
  mem : ∀ e ∈ es, e.2 ∈ pool
  few : h.length ≤ used
  use : used ≤ most
  all : ∀ k hk, runE here0 (es.take k) = some hk → hk.length ≤ most
theorem all_snoc' {P : List Nm → Prop} {h0 h2 : List Nm} {es : List (Bool × Nm)} {e : Bool × Nm} (hp : ∀ k hk, runE h0 (es.take k) = some hk → P hk) (hr : runE h0 (es ++ [e]) = some h2) (h2p : P h2) : ∀ k hk, runE h0 ((es ++ [e]).take k) = some hk → P hk := fun k hk hq => by
  rcases Nat.lt_or_ge es.length k with h | h
  · rw [List.take_of_length_le (by simp; omega), hr] at hq
    cases hq
    exact h2p
  · rw [List.take_append_of_le_length h] at hq
    exact hp k hk hq
theorem EvC.in_ {here0 pool h : List Nm} {es : List (Bool × Nm)} {used most : Nat} (I : EvC here0 pool h es used most) {x : Nm} (hx : x ∈ pool) (hn : x ∉ h) (hu : used < most) : EvC here0 pool (h ++ [x]) (es ++ [(true, x)]) (used + 1) most := by
  have hs2 : stepE h (true, x) = some (h ++ [x]) := by simp [stepE, hn]
  have hr := runE_snoc I.run hs2
  have hf := I.few
  refine ⟨hr, stepE_nd I.nd hs2, fun y hy => ?_, fun e he => ?_, by simp; omega, by omega, all_snoc' I.all hr (by simp; omega)⟩
  · rcases List.mem_append.mp hy with hy | hy
    · exact I.sub y hy
    · rw [List.mem_singleton.mp hy]; exact hx
  · rcases List.mem_append.mp he with he | he
    · exact I.mem e he
    · rw [List.mem_singleton.mp he]; exact hx
theorem EvC.out {here0 pool h : List Nm} {es : List (Bool × Nm)} {used most : Nat} (I : EvC here0 pool h es used most) {x : Nm} (hx : x ∈ h) : EvC here0 pool (h.erase x) (es ++ [(false, x)]) used most := by
  have hs2 : stepE h (false, x) = some (h.erase x) := by simp [stepE, hx]
  have hr := runE_snoc I.run hs2
  have hf := I.few
  have hl : (h.erase x).length ≤ h.length := List.length_erase_le
  refine ⟨hr, I.nd.erase x, fun y hy => I.sub y (List.mem_of_mem_erase hy), fun e he => ?_, by omega, I.use, all_snoc' I.all hr (by have := I.use; omega)⟩
  rcases List.mem_append.mp he with he | he
  · exact I.mem e he
  · rw [List.mem_singleton.mp he]; exact I.sub x hx
abbrev τc (c pz : PV) (ls : List Nm) (m most : Nat) (ds : List Int) (h : List Nm) (used : Nat) (es : List (Bool × Nm)) (x9 x10 : Option PV) : LE := [some c, some (.lst (ls.map nm)), some pz, some (.int (m : Nat)), some (.int (most : Nat)), some (.lst (ds.map .int)), some (.lst (h.map nm)), some (.int (used : Nat)), some (.lst (es.map evV)), x9, x10, none]
theorem erase_ix : ∀ (h : List Nm) (q : Nat) (hq : q < h.length), h.Nodup → h.eraseIdx q = h.erase h[q]
  | x :: h, 0, _, _ => by simp
  | x :: h, q + 1, hq, hn => by
    rw [List.nodup_cons] at hn
    have hq' : q < h.length := by simpa using hq
    have hne : x ≠ h[q] := fun e => hn.1 (e ▸ List.getElem_mem hq')
    simp only [List.eraseIdx_cons_succ, List.getElem_cons_succ]
    rw [List.erase_cons, erase_ix h q hq' hn.2]
    simp [hne]
theorem calls_step (c pz : PV) (ls : List Nm) (m most : Nat) (ds : List Int) (h0 h : List Nm) (used : Nat) (es : List (Bool × Nm)) (k : Nat) (hd : 2 * k + 1 < ds.length) (hk : k < 100) (he : es.length ≤ k) (hm : most ≤ 100) (I : EvC h0 ls h es used most) (x10 : Option PV) :
    ∃ h' used' es' y10, lb__law_calls_1 (τc c pz ls m most ds h used es (some (.int (k : Nat))) x10) = .nx (τc c pz ls m most ds h' used' es' (some (.int (k : Nat))) y10) ∧ EvC h0 ls h' es' used' most ∧ es'.length ≤ k + 1 := by
  have hf := I.few
  have hu := I.use
  have aw : ∀ x10, lc__law_calls_0 (τc c pz ls m most ds h used es (some (.int (k : Nat))) x10) = .ok (.lst ((ls.filter fun x => !decide (x ∈ h)).map nm)) := fun x10 => by
    refine comp_filter ls nm nm _ (by simp) fun x _ => ?_
    simp [cItem, wipeL, pInA_nm]
    split <;> simp_all
  generalize hA : (ls.filter fun x => !decide (x ∈ h)) = A at aw
  have hAm : ∀ x ∈ A, x ∈ ls ∧ x ∉ h := fun x hx => by
    rw [← hA] at hx
    obtain ⟨h1, h2⟩ := List.mem_filter.mp hx
    exact ⟨h1, by simpa using h2⟩
  have hAl : pLen [.lst (A.map nm)] = some (.int (A.length : Nat)) := by simp
  have hhl : pLen [.lst (h.map nm)] = some (.int (h.length : Nat)) := by simp
  have m2 := pMul_int (i := 2) (j := (k : Nat)) (.inl ⟨by decide, by decide⟩)
  have ia := iat (ds := ds) (i := 2 * k) (by omega)
  have ib := iat (ds := ds) (i := 2 * k + 1) hd
  have ca : (((2 * k : Nat) : Nat) : Int) = 2 * (k : Int) := by omega
  have cb : (((2 * k + 1 : Nat) : Nat) : Int) = 2 * (k : Int) + 1 := by omega
  rw [ca] at ia
  rw [cb] at ib
  generalize ds[2 * k]'(by omega) = d0 at ia
  generalize ds[2 * k + 1]'(by omega) = d1 at ib
  have o3 := pMod_int (i := d0) (j := 3) (by decide)
  dsimp only [τc] at aw ⊢
  by_cases C : d0 % 3 = 0 ∧ used < most ∧ 0 < A.length
  · obtain ⟨c1, c2, c3⟩ := C
    obtain ⟨q, hq, hq2⟩ := mod_nat (m := d1) c3
    have o := pMod_int (i := d1) (j := (A.length : Nat)) (by omega)
    rw [hq] at o
    have iA : atI (A.map nm) ((q : Nat) : Int) = some (nm A[q]) := by rw [atN]; simp [hq2]
    have hx := hAm A[q] (List.getElem_mem hq2)
    generalize A[q] = x at iA hx
    have g1 := gApp_s (ps := h.map nm) (q := nm x) (by simp; omega)
    have hh2 : h.map nm ++ [nm x] = (h ++ [x]).map nm := by simp
    rw [hh2] at g1
    have hl2 : pLen [.lst ((h ++ [x]).map nm)] = some (.int ((h.length : Nat) + 1)) := by simp
    have il : atI ((h ++ [x]).map nm) ((h.length : Nat) : Int) = some (nm x) := by
      rw [atN]; simp
    have g2 := gApp_s (ps := es.map evV) (q := evV (true, x)) (by simp; omega)
    have hev : evV (true, x) = .tup [.str ("in" : Str), nm x] := rfl
    rw [hev] at g2
    refine ⟨h ++ [x], used + 1, es ++ [(true, x)], some (.lst (A.map nm)), ?_, I.in_ hx.1 hx.2 c2, by simp; omega⟩
    have hes : (es ++ [(true, x)]).map evV = es.map evV ++ [.tup [.str ("in" : Str), nm x]] := by simp [hev]
    rw [hes]
    generalize (h ++ [x]).map nm = H2 at g1 hl2 il ⊢
    have c3' : ¬ A = [] := fun e => by rw [e] at c3; simp at c3
    simp [lb__law_calls_1, aw, m2, ia, ib, o3, c1, c2, c3, c3', o, iA, g1, hl2, il, g2]
  · by_cases c4 : 0 < h.length
    · obtain ⟨q, hq, hq2⟩ := mod_nat (m := d1) c4
      have o := pMod_int (i := d1) (j := (h.length : Nat)) (by omega)
      rw [hq] at o
      have hp := gPopAt_ok (l := h.map nm) (k := q) (by simpa using hq2) (by simp; omega)
      have hx : h[q] ∈ h := List.getElem_mem hq2
      rw [nm_eraseIdx, erase_ix h q hq2 I.nd, List.getElem_map] at hp
      generalize h[q] = x at hp hx
      have g2 := gApp_s (ps := es.map evV) (q := evV (false, x)) (by simp; omega)
      have hev : evV (false, x) = .tup [.str ("out" : Str), nm x] := rfl
      rw [hev] at g2
      refine ⟨h.erase x, used, es ++ [(false, x)], some (.lst (A.map nm)), ?_, I.out hx, by simp; omega⟩
      have hes : (es ++ [(false, x)]).map evV = es.map evV ++ [.tup [.str ("out" : Str), nm x]] := by simp [hev]
      rw [hes]
      generalize (h.erase x).map nm = H2 at hp ⊢
      have c4' : ¬ h = [] := fun e => by rw [e] at c4; simp at c4
      have C' : ¬ (d0 % 3 = 0 ∧ used < most ∧ ¬ A = []) := fun q => C ⟨q.1, q.2.1, List.length_pos_iff.mpr q.2.2⟩
      by_cases z1 : d0 % 3 = 0
      · by_cases z2 : used < most
        · by_cases z3 : A = []
          · simp [lb__law_calls_1, eMutM, kMutM, eTupM, aConsM, aOneM, aw, m2, ia, ib, o3, z1, z2, z3, c4, c4', o, hp, g2]
          · exact absurd ⟨z1, z2, z3⟩ C'
        · have z3 : True := trivial
          simp [lb__law_calls_1, eMutM, kMutM, eTupM, aConsM, aOneM, aw, m2, ia, ib, o3, z1, z2, z3, c4, c4', o, hp, g2]
      · have z2 : True := trivial
        have z3 : True := trivial
        simp [lb__law_calls_1, eMutM, kMutM, eTupM, aConsM, aOneM, aw, m2, ia, ib, o3, z1, z2, z3, c4, c4', o, hp, g2]
    · refine ⟨h, used, es, some (.lst (A.map nm)), ?_, I, by omega⟩
      have c4' : h = [] := List.length_eq_zero_iff.mp (by omega)
      have C' : ¬ (d0 % 3 = 0 ∧ used < most ∧ ¬ A = []) := fun q => C ⟨q.1, q.2.1, List.length_pos_iff.mpr q.2.2⟩
      by_cases z1 : d0 % 3 = 0
      · by_cases z2 : used < most
        · by_cases z3 : A = []
          · (subst c4'; simp only [List.map_nil] at aw ⊢; simp [lb__law_calls_1, aw, m2, ia, ib, o3, z1, z2, z3])
          · exact absurd ⟨z1, z2, z3⟩ C'
        · have z3 : True := trivial
          (subst c4'; simp only [List.map_nil] at aw ⊢; simp [lb__law_calls_1, aw, m2, ia, ib, o3, z1, z2, z3])
      · have z2 : True := trivial
        have z3 : True := trivial
        (subst c4'; simp only [List.map_nil] at aw ⊢; simp [lb__law_calls_1, aw, m2, ia, ib, o3, z1, z2, z3])
end K24
end
section
set_option Elab.async false
set_option linter.all false
set_option maxRecDepth 100000
set_option maxHeartbeats 1000000
namespace K24
open PySem PySem.Spec L2 Lp
/-! yards and days made of lists (the laws k20..k25) -/
def stkL (s : List Nm) : PV := .lst (s.map nm)
theorem as_stacks_lst (h : Nat) (ss : List (List Nm)) (c1 : 1 ≤ ss.length) (row : ∀ s ∈ ss, s.length ≤ h) (nd : ss.flatten.Nodup) (hn : ∀ x ∈ ss.flatten, 1 ≤ x.length ∧ x.length ≤ 8) (hl : ss.flatten.length ≤ 1000) (hr1 : ∀ s ∈ ss, s.length ≤ 1000) :
    m_as_stacks (.int (h : Nat)) (.lst (ss.map stkL)) = .ok (stksV ss) := by
  have l0 : lc_as_stacks_0 [some (.int (h : Nat)), some (.lst (ss.map stkL)), none, none, none, none] = .ok (.lst (ss.map fun _ => .bl true)) :=
    comp_map ss stkL _ (by simp) fun s _ => by simp [cItem, wipeL, stkL, is_seq_lst]
  have l1 : lc_as_stacks_1 [some (.int (h : Nat)), some (.lst (ss.map stkL)), none, none, none, none] = .ok (.lst (ss.map stk)) :=
    comp_map ss stkL _ (by simp) fun s hs => by simp [cItem, wipeL, stkL, stk]
  have l2 : lc_as_stacks_2 [some (.int (h : Nat)), some (.lst (ss.map stkL)), some (stksV ss), none, none, none] = .ok (.lst (ss.flatten.map nm)) := by
    have e : ss.flatMap (fun s => s.map nm) = ss.flatten.map nm := by rw [List.map_flatten, List.flatMap_def]
    rw [← e]
    refine comp2_map ss stk (fun s => s.map nm) (by simp [stksV]) (fun s _ => ?_) (by rw [e, List.length_map]; omega)
    simp [kC2, wipeL, stk]
    exact (compL_map nm (fun x => some (nm x)) s fun x _ => by simp [cItem]).trans (by rw [List.filterMap_eq_map'])
  have l3 : lc_as_stacks_3 [some (.int (h : Nat)), some (.lst (ss.map stkL)), some (stksV ss), some (.lst (ss.flatten.map nm)), none, none] = .ok (.lst (ss.flatten.map fun _ => .bl true)) :=
    comp_map ss.flatten nm _ (by simp [-List.map_flatten]) fun x hx => by simp [cItem, wipeL, nm, is_name_ok x (hn x hx).1 (hn x hx).2]
  have l4 : lc_as_stacks_4 [some (.int (h : Nat)), some (.lst (ss.map stkL)), some (stksV ss), some (.lst (ss.flatten.map nm)), none, none] = .ok (.lst (ss.map fun _ => .bl true)) :=
    comp_map ss stk _ (by simp [stksV]) fun s hs => by
      have := row s hs
      simp [cItem, wipeL, stk, this]
  have hu := unlike_ok ss.flatten nd
  have hs : m_is_sequence (.lst (ss.map stkL)) = .ok (.bl true) := is_seq_lst _
  have hlen : pLen [.lst (ss.map stkL)] = some (.int (ss.length : Nat)) := by simp
  have h0 : ¬ ss = [] := by intro e; rw [e] at c1; simp at c1
  have a1 := pAll_map (fun _ : List Nm => true) ss
  have a2 := pAll_map (fun _ : Nm => true) ss.flatten
  generalize PV.lst (ss.map stkL) = v at *
  simp [m_as_stacks, b_as_stacks, l0, l1, l2, l3, l4, hu, hs, hlen, h0, a1, a2, tup_stk, -List.map_flatten, -List.map_const]
theorem yard_lst {h : Nat} {ss : List (List Nm)} {es} (D : DayOk h ss es) : m_Yard (.int (h : Nat)) (.lst (ss.map stkL)) = .ok (yardV h ss) := by
  have e1 := as_stacks_lst h ss D.c1 D.row D.nd D.nmS (by have := D.all; omega) (fun s hs => by have := D.row s hs; have := D.h5; omega)
  have e2 := is_number_nat h
  have h0 : ¬ h = 0 := by have := D.h1; omega
  refine finI_eq ?_
  simp [b_Yard, e1, e2, h0, isN_stks, putP, yardV]
theorem as_events_lst (h : Nat) (ss : List (List Nm)) (es : List (Bool × Nm)) {h' : List Nm} (hl : ss.flatten.length ≤ 1000) (nd : ss.flatten.Nodup) (hrun : runE ss.flatten es = some h') (hne : ∀ e ∈ es, 1 ≤ e.2.length ∧ e.2.length ≤ 8) (hle : es.length ≤ 1000) :
    m_as_events (yardV h ss) (.lst (es.map evV)) = .ok (evsV es) := by
  have l0 : lc_as_events_0 [some (yardV h ss), some (.lst (es.map evV)), none, none, none, none] = .ok (.lst (es.map fun _ => .bl true)) :=
    comp_map es evV _ (by simp) fun e he => by
      have hn := hne e he
      have := is_event_ok (if e.1 = true then ("in" : Str) else ("out" : Str)) (by split <;> simp) e.2 hn.1 hn.2
      simp [cItem, wipeL, evV, nm, this]
  have hb := boxes_of_ok h ss hl
  have l1 : lc_as_events_1 [some (yardV h ss), some (.lst (es.map evV)), none, none, none, none] = .ok (thD ss.flatten) := by
    have := dcomp_map (own := [4]) (it := iSeq (eFn (ar1 m_boxes_of) (aCons (eVar 0) aNil))) (tgt := gNm 4) (cond := tYesM) (ek := eVar 4) (ev := eC (.bl true)) (τ := [some (yardV h ss), some (.lst (es.map evV)), none, none, none, none]) ss.flatten nm nm (fun x => Sum.inr (tx x)) (fun _ => .bl true) (fun x => rfl) (by simp [hb, -List.map_flatten]) (fun x _ => by simp [dItem, wipeL])
    rw [foldl_setP _ _ _ _ (by
      unfold List.Nodup
      rw [List.pairwise_map]
      exact nd.imp fun h e => h (tx_inj (Sum.inr.inj e))) (by simp)] at this
    exact this
  have a1 := pAll_map (fun _ : Bool × Nm => true) es
  have hs : m_is_sequence (.lst (es.map evV)) = .ok (.bl true) := is_seq_lst _
  refine fin_eq ?_
  simp [b_as_events, l0, l1, hs, a1, -List.map_const]
  refine sat_next (for_sat es evV (fun k τ => ∃ hk x3 x4 x5, τ = [some (yardV h ss), some (.lst (es.map evV)), some (thD hk), x3, x4, x5] ∧ runE ss.flatten (es.take k) = some hk ∧ hk.Nodup ∧ hk.length ≤ 1000 + k) (by simp) ?_ ?_ ?_)
  · exact ⟨_, _, _, _, rfl, rfl, nd, by omega⟩
  · rintro k hk τ ⟨hh, x3, x4, x5, rfl, hr, hn, hhl⟩
    obtain ⟨h2, e2, r2⟩ := runE_step hrun hk hr
    have n2 := stepE_nd hn e2
    have l2 := stepE_len e2
    obtain ⟨⟨b, x⟩, hbx⟩ : ∃ e, es[k] = e := ⟨_, rfl⟩
    rw [hbx] at e2 ⊢
    have hlx : (hh.map fun x => ((Sum.inr (tx x) : Key), PV.bl true)).length < 1000000 := by rw [List.length_map]; omega
    have hp := hasP_th hh x
    have q1 := pEq_str (sok_ofS "in") (sok_ofS "in")
    have q2 := pEq_str (sok_ofS "out") (sok_ofS "in")
    cases b
    · have hx : x ∈ hh := by
        by_cases h : x ∈ hh
        · exact h
        · simp [stepE, h] at e2
      simp [stepE, hx] at e2
      refine ⟨_, by simp [evV]; rfl, ?_⟩
      have hd := drop_th hh x hn
      simp [lb_as_events_2, thD, nm, hp, hx, q2, hd]
      exact ⟨h2, by rw [e2], r2, n2, by omega⟩
    · have hx : x ∉ hh := by
        intro h
        simp [stepE, h] at e2
      simp [stepE, hx] at e2
      refine ⟨_, by simp [evV]; rfl, ?_⟩
      have hd := set_th hx
      simp at hlx
      simp [lb_as_events_2, thD, nm, hp, hx, q1, hd, hlx]
      exact ⟨h2, by rw [← e2]; simp, r2, n2, by omega⟩
  · rintro τ ⟨hh, x3, x4, x5, rfl, hr, hn, hhl⟩
    simp [tup_ev]
theorem day_lst {h : Nat} {ss : List (List Nm)} {es} (D : DayOk h ss es) : m_Day (yardV h ss) (.lst (es.map evV)) = .ok (dayV h ss es) := by
  obtain ⟨h', hr⟩ := D.run
  have e1 := as_events_lst h ss es (by have := D.all; omega) D.nd hr D.nmE (by have := D.len; omega)
  refine finI_eq ?_
  simp [b_Day, e1, isN_evs, putP, dayV]
def taskV (h : Nat) (ss : List (List Nm)) (es : List (Bool × Nm)) : PV := .tup [.int (h : Nat), stksV ss, evsV es]
theorem made_ok {h : Nat} {ss : List (List Nm)} {es} (D : DayOk h ss es) (d : Int) : m__law_made (taskV h ss es) (.int d) = .ok (dayV h ss es) := by
  have o := pMod_int (i := d) (j := 3) (by decide)
  have y1 := yard_ok D
  have y2 := yard_lst D
  have d1 := day_made D
  have d2 := day_lst D
  have i0 : pIx (taskV h ss es) (.int 0) = some (.int (h : Nat)) := rfl
  have i1 : pIx (taskV h ss es) (.int 1) = some (stksV ss) := rfl
  have i2 : pIx (taskV h ss es) (.int 2) = some (evsV es) := rfl
  have pl : pList [evsV es] = some (.lst (es.map evV)) := rfl
  have l0 : lc__law_made_0 [some (taskV h ss es), some (.int d), none] = .ok (.lst (ss.map stkL)) :=
    comp_map ss stk stkL (by simp [i1, stksV]) fun s _ => by simp [cItem, wipeL, stk, stkL]
  generalize taskV h ss es = T at *
  generalize PV.lst (ss.map stkL) = v at *
  by_cases c1 : d % 3 = 1
  · simp [m__law_made, b__law_made, o, c1, i0, i1, i2, l0, y2, pl, d2]
  · by_cases c2 : d % 3 = 2
    · have g1 : ∀ a b : PV, gp [1, 0] [a, b] = [b, a] := fun _ _ => rfl
      simp [m__law_made, b__law_made, o, c1, c2, i0, i1, i2, g1, y1, d1]
    · simp [m__law_made, b__law_made, o, c1, c2, i0, i1, i2, y1, d1]
end K24
end
section
set_option Elab.async false
set_option linter.all false
set_option maxRecDepth 100000
set_option maxHeartbeats 1000000
namespace K24
open PySem PySem.Spec L2 Lp
variable {h n : Nat} {ss0 : List (List Nm)} {es : List (Bool × Nm)} {s : Sts}
/-! the law's own deeds (the laws k20..k25) -/
theorem with_ok (ss : List (List Nm)) (j : Nat) (r : List Nm) (hj : j < ss.length) (hl : ss.length ≤ 1000) : m__law_with (stksV ss) (.int (j : Nat)) (stk r) = .ok (stksV (ss.set j r)) := by
  obtain ⟨A, B, e1, e2, l1, l2, e3⟩ := put_cut ss j r hj hl
  have s1 : pSlA (stksV ss) none (some ((j : Nat) : Int)) = some (.tup A) := by
    show pSlA (.tup _) _ _ = _
    rw [pSlA_tup, e1]
  have s2 : pSlA (stksV ss) (some (((j : Nat) : Int) + 1)) none = some (.tup B) := by
    show pSlA (.tup _) _ _ = _
    rw [pSlA_tup, e2]
  have a1 := add_tup A [stk r] (by simp; omega)
  have a2 := add_tup (A ++ [stk r]) B (by simp; omega)
  rw [e3] at a2
  simp [m__law_with, b__law_with, s1, s2, a1, a2, tup_stk, -List.map_set]
abbrev τg (T : PV) (s : Sts) (n : Nat) (L : List (Deed × Sts)) (x5 x6 x7 x8 : Option PV) : LE := [some T, some (stV s), some (stksV s.2), some (.lst ((List.range n).map fun (i : Nat) => PV.int (i : Nat))), some (.lst (L.map entV)), x5, x6, x7, x8]
theorem deeds_step0 (w : WF h n ss0 es s) (hn : n ≤ 100) (hh : h ≤ 100) (b : Bool) (x : Nm) (he : es[s.1]? = some (b, x)) (L : List (Deed × Sts)) (hL : L.length ≤ 1000) {j : Nat} (hj : j < n) (x8 : Option PV) :
    lb__law_deeds_0 (τg (taskV h ss0 es) s n L none (some (evV (b, x))) (some (.int (j : Nat))) x8) = .nx (τg (taskV h ss0 es) s n (L ++ (outE es s j ++ inE h es s j)) none (some (evV (b, x))) (some (.int (j : Nat))) x8) := by
  have hj' : j < s.2.length := by rw [w.len]; exact hj
  have rj : pIx (stksV s.2) (.int (j : Nat)) = some (stk (row s.2 j)) := row_at hj'
  have lj : pLen [stk (row s.2 j)] = some (.int ((row s.2 j).length : Nat)) := by simp [stk]
  have s1 := sl_front (row s.2 j)
  have s2 := sl_last (row s.2 j)
  have p0 : pIx (stV s) (.int 0) = some (.int (s.1 : Nat)) := by simp [stV]
  have t0 : pIx (taskV h ss0 es) (.int 0) = some (.int (h : Nat)) := rfl
  have v0 : pIx (evV (b, x)) (.int 0) = some (.str (if b = true then ("in" : Str) else ("out" : Str))) := rfl
  have v1 : pIx (evV (b, x)) (.int 1) = some (nm x) := rfl
  unfold outE inE
  rw [he]
  generalize evV (b, x) = EV at *
  generalize taskV h ss0 es = T at *
  dsimp only [τg]
  generalize ((List.range n).map fun (i : Nat) => PV.int (i : Nat)) = R
  cases b
  · simp at v0
    have q1 := pEq_str (sok_ofS "out") (sok_ofS "out")
    have q2 := pEq_str (sok_ofS "out") (sok_ofS "in")
    simp at q1 q2
    by_cases c : (row s.2 j).getLast? = some x
    · have hq' : pEq (stk [x]) (.tup [nm x]) = some (.bl true) := pEq_yes (k := 1) (by decide) (dat_stk 0 _) (dat_stk 0 [x]) rfl
      have s2 : pSlA (stk (row s.2 j)) (some (-1)) none = some (stk [x]) := by rw [s2, c]; rfl
      have wk := with_ok s.2 j (row s.2 j).dropLast hj' (by rw [w.len]; omega)
      have ga := gApp_s (ps := L.map entV) (q := entV (.out, (s.1 + 1, s.2.set j (row s.2 j).dropLast))) (by simp; omega)
      have hent : entV (.out, (s.1 + 1, s.2.set j (row s.2 j).dropLast)) = .tup [.tup [.str (Str.ofString "out")], .tup [.int ((s.1 : Int) + 1), stksV (s.2.set j (row s.2 j).dropLast)]] := by
        simp [entV, deedV, stV]
      rw [hent] at ga
      simp [lb__law_deeds_0, v0, v1, q1, q2, rj, s1, s2, hq', c, p0, wk, ga, hent]
    · have hq' : pEq (stk (row s.2 j).getLast?.toList) (.tup [nm x]) = some (.bl false) := by
        refine pEq_no (k := 1) (by decide) (dat_stk 0 _) (dat_stk 0 [x]) fun e => ?_
        have e2 : stk (row s.2 j).getLast?.toList = stk [x] := e
        have e3 : (row s.2 j).getLast?.toList.map nm = [x].map nm := by unfold stk at e2; injection e2
        cases hg : (row s.2 j).getLast? with
        | none => rw [hg] at e3; simp at e3
        | some y =>
          rw [hg] at e3
          simp at e3
          exact c (by rw [hg, nm_inj e3])
      simp [lb__law_deeds_0, v0, v1, q1, q2, rj, s1, s2, hq', c, p0]
  · simp at v0
    have q1 := pEq_str (sok_ofS "in") (sok_ofS "out")
    have q2 := pEq_str (sok_ofS "in") (sok_ofS "in")
    simp at q1 q2
    by_cases c : (row s.2 j).length < h
    · have ad : pAddA (stk (row s.2 j)) (.tup [nm x]) = some (stk (row s.2 j ++ [x])) := add_stk (row s.2 j) [x] (by simp; omega)
      have wk := with_ok s.2 j (row s.2 j ++ [x]) hj' (by rw [w.len]; omega)
      have ga := gApp_s (ps := L.map entV) (q := entV (.inn j, (s.1 + 1, s.2.set j (row s.2 j ++ [x])))) (by simp; omega)
      have hent : entV (.inn j, (s.1 + 1, s.2.set j (row s.2 j ++ [x]))) = .tup [.tup [.str (Str.ofString "in"), .int (j : Nat)], .tup [.int ((s.1 : Int) + 1), stksV (s.2.set j (row s.2 j ++ [x]))]] := by
        simp [entV, deedV, stV]
      rw [hent] at ga
      simp [lb__law_deeds_0, v0, v1, q1, q2, rj, lj, t0, ad, c, p0, wk, ga, hent]
    · simp [lb__law_deeds_0, v0, v1, q1, q2, rj, lj, t0, c, p0]
end K24
end
section
set_option Elab.async false
set_option linter.all false
set_option maxRecDepth 100000
set_option maxHeartbeats 1000000
namespace K24
open PySem PySem.Spec L2 Lp
variable {h n : Nat} {ss0 : List (List Nm)} {es : List (Bool × Nm)} {s : Sts}
theorem deeds_step1 (w : WF h n ss0 es s) (hn : n ≤ 100) (hh : h ≤ 100) (L : List (Deed × Sts)) (hL : L.length ≤ 100000) {i j : Nat} (hi : i < n) (hj : j < n) (x6 x8 : Option PV) :
    ∃ y8, lb__law_deeds_1 (τg (taskV h ss0 es) s n L (some (.int (i : Nat))) x6 (some (.int (j : Nat))) x8) = .nx (τg (taskV h ss0 es) s n (L ++ shE h s i j) (some (.int (i : Nat))) x6 (some (.int (j : Nat))) y8) := by
  have hi' : i < s.2.length := by rw [w.len]; exact hi
  have hj' : j < s.2.length := by rw [w.len]; exact hj
  have ri : pIx (stksV s.2) (.int (i : Nat)) = some (stk (row s.2 i)) := row_at hi'
  have rj : pIx (stksV s.2) (.int (j : Nat)) = some (stk (row s.2 j)) := row_at hj'
  have li : pLen [stk (row s.2 i)] = some (.int ((row s.2 i).length : Nat)) := by simp [stk]
  have lj : pLen [stk (row s.2 j)] = some (.int ((row s.2 j).length : Nat)) := by simp [stk]
  have p0 : pIx (stV s) (.int 0) = some (.int (s.1 : Nat)) := by simp [stV]
  have t0 : pIx (taskV h ss0 es) (.int 0) = some (.int (h : Nat)) := rfl
  generalize taskV h ss0 es = T at *
  dsimp only [τg]
  generalize ((List.range n).map fun (i : Nat) => PV.int (i : Nat)) = R
  have hle := fun (r : List Nm) (hr : r ∈ s.2) => w.row r hr
  unfold shE shiftP
  by_cases c1 : i = j
  · subst c1
    refine ⟨x8, ?_⟩
    simp [lb__law_deeds_1]
  · have c1i : ¬ ((i : Int) = (j : Int)) := by omega
    by_cases c2 : (row s.2 i).length = 0
    · have c2' : row s.2 i = [] := List.length_eq_zero_iff.mp c2
      have li0 : pLen [stk []] = some (.int 0) := by simp [stk]
      refine ⟨x8, ?_⟩
      simp [lb__law_deeds_1, c1, c1i, ri, c2', li0]
    · have c2' : ¬ row s.2 i = [] := fun e => c2 (by rw [e]; rfl)
      have c2p : 0 < (row s.2 i).length := by omega
      by_cases c3 : h ≤ (row s.2 j).length
      · have c3' : ¬ (row s.2 j).length < h := by omega
        refine ⟨x8, ?_⟩
        simp [lb__law_deeds_1, c1, c1i, ri, li, rj, lj, t0, c2', c2p, c3, c3']
      · have c3' : (row s.2 j).length < h := by omega
        have s1 := sl_front (row s.2 i)
        have s2 := sl_last (row s.2 i)
        have ad := add_stk (row s.2 j) (row s.2 i).getLast?.toList (by
          have := hle _ (row_mem hj')
          cases (row s.2 i).getLast? <;> simp <;> omega)
        have w1 := with_ok s.2 i (row s.2 i).dropLast hi' (by rw [w.len]; omega)
        have w2 := with_ok (s.2.set i (row s.2 i).dropLast) j (row s.2 j ++ (row s.2 i).getLast?.toList) (by simpa using hj') (by rw [List.length_set, w.len]; omega)
        generalize hS : (s.2.set i (row s.2 i).dropLast).set j (row s.2 j ++ (row s.2 i).getLast?.toList) = S at w2
        have hent : entV (.shift i j, (s.1, S)) = .tup [.tup [.str (Str.ofString "shift"), .int (i : Nat), .int (j : Nat)], .tup [.int (s.1 : Int), stksV S]] := by
          simp [entV, deedV, stV]
        have ga := gApp_s (ps := L.map entV) (q := entV (.shift i j, (s.1, S))) (by simp; omega)
        rw [hent] at ga
        refine ⟨some (stksV S), ?_⟩
        generalize (row s.2 i).dropLast = D at *
        generalize (row s.2 i).getLast?.toList = E at *
        simp [lb__law_deeds_1, c1, c1i, ri, li, rj, lj, t0, c2', c2p, c3, c3', s1, s2, ad, w1, w2, p0, ga, hS, hent, -List.set_set]
theorem deeds_ok (w : WF h n ss0 es s) (hn : n ≤ 100) (hh : h ≤ 100) : m__law_deeds (taskV h ss0 es) (stV s) = .ok (.lst ((openL h n es s).map entV)) := by
  refine fin_eq ?_
  generalize hP : (fun q : PV => q = .lst ((openL h n es s).map entV)) = P
  have hP2 : P (.lst ((openL h n es s).map entV)) := by rw [← hP]
  clear hP
  have hln : pLen [stksV s.2] = some (.int (n : Nat)) := by simp [stksV, w.len]
  have p0 : pIx (stV s) (.int 0) = some (.int (s.1 : Nat)) := by simp [stV]
  have p1 : pIx (stV s) (.int 1) = some (stksV s.2) := by simp [stV]
  have t2 : pIx (taskV h ss0 es) (.int 2) = some (evsV es) := rfl
  have hel := evs_len es
  have hrg : pRng [.int (n : Nat)] = some (.rng n) := by
    show (if _ then _ else _) = _
    rw [if_pos (by omega)]
    rfl
  have hpl : pListR [.rng n] = some (.lst ((List.range n).map fun (i : Nat) => PV.int (i : Nat))) := if_pos (by omega)
  have len0 : ∀ k, ((List.range k).flatMap fun j => outE es s j ++ inE h es s j).length ≤ 2 * k := fm_len _ 2 fun j => by
    have := outE_len (es := es) (s := s) j
    have := inE_len (h := h) (es := es) (s := s) j
    rw [List.length_append]; omega
  have len1 : ∀ i k, ((List.range k).flatMap fun j => shE h s i j).length ≤ 1 * k := fun i => fm_len _ 1 fun j => shE_len i j
  have len2 : ∀ k, ((List.range k).flatMap fun i => (List.range n).flatMap fun j => shE h s i j).length ≤ n * k := fm_len _ n fun i => by have := len1 i n; omega
  have hb0 := len0 n
  -- the second half
  have half : ∀ x6 x7 A, A.length ≤ 2 * n → openL h n es s = A ++ (List.range n).flatMap (fun i => (List.range n).flatMap fun j => shE h s i j) →
      ((sFor (iSeq (eVar 3)) (gNm 5) lb__law_deeds_2 (τg (taskV h ss0 es) s n A none x6 x7 none)).next (sRet (eVar 4))).sat { rt := P } := by
    intro x6 x7 A hA hop
    refine sat_next (for_sat (List.range n) (fun i => .int (i : Nat)) (fun k τ => ∃ x5 x7 x8, τ = τg (taskV h ss0 es) s n (A ++ (List.range k).flatMap fun i => (List.range n).flatMap fun j => shE h s i j) x5 x6 x7 x8) (by simp) ⟨none, x7, none, by simp⟩ ?_ ?_)
    · rintro i hi τ ⟨x5, x7, x8, rfl⟩
      simp only [List.length_range] at hi
      refine ⟨_, rfl, ?_⟩
      simp only [List.getElem_range, lb__law_deeds_2]
      have hb2 := len2 i
      generalize hB : ((List.range i).flatMap fun i => (List.range n).flatMap fun j => shE h s i j) = B at hb2
      have hni : n * i ≤ 10000 := Nat.le_trans (Nat.mul_le_mul hn (show i ≤ 100 by omega)) (by decide)
      refine for_sat (List.range n) (fun i => .int (i : Nat)) (fun j τ => ∃ x7 x8, τ = τg (taskV h ss0 es) s n (A ++ B ++ (List.range j).flatMap fun j => shE h s i j) (some (.int (i : Nat))) x6 x7 x8) (by simp) ⟨x7, x8, by simp⟩ ?_ ?_
      · rintro j hj τ ⟨x7, x8, rfl⟩
        simp only [List.length_range] at hj
        refine ⟨_, rfl, ?_⟩
        simp only [List.getElem_range]
        obtain ⟨y8, e⟩ := deeds_step1 w hn hh (A ++ B ++ (List.range j).flatMap fun j => shE h s i j) (by
          rw [List.length_append, List.length_append]
          have := len1 i j
          omega) hi hj x6 x8
        show (lb__law_deeds_1 (τg (taskV h ss0 es) s n _ (some (.int (i : Nat))) x6 (some (.int (j : Nat))) x8)).sat _
        rw [e]
        exact ⟨_, _, by rw [fm_succ, List.append_assoc]⟩
      · rintro τ ⟨x7, x8, rfl⟩
        refine ⟨some (.int (i : Nat)), x7, x8, ?_⟩
        rw [fm_succ, hB, List.append_assoc, List.length_range]
    · rintro τ ⟨x5, x7, x8, rfl⟩
      simp [List.length_range]
      rw [hop] at hP2
      simpa using hP2
  have hop : openL h n es s = ((List.range n).flatMap fun j => outE es s j ++ inE h es s j) ++ (List.range n).flatMap fun i => (List.range n).flatMap fun j => shE h s i j := rfl
  cases he : es[s.1]? with
  | none =>
    have hge : es.length ≤ s.1 := List.getElem?_eq_none_iff.mp he
    have hlt : ¬ (s.1 < es.length) := by omega
    have hA : ((List.range n).flatMap fun j => outE es s j ++ inE h es s j) = [] := by
      have e1 : ∀ j, outE es s j ++ inE h es s j = [] := fun j => by simp [outE, inE, he]
      simp only [e1]
      simp
    rw [hA] at hop
    have := half none none [] (by simp) hop
    simp [b__law_deeds, p0, p1, t2, hln, hel, hrg, hpl, hlt]
    exact this
  | some ev =>
    obtain ⟨b, x⟩ := ev
    have hlt : s.1 < es.length := (List.getElem?_eq_some_iff.mp he).1
    have hev : pIx (evsV es) (.int (s.1 : Nat)) = some (evV (b, x)) := ev_at he
    simp [b__law_deeds, p0, p1, t2, hln, hel, hrg, hpl, hlt, hev]
    refine sat_next (for_sat (List.range n) (fun i => .int (i : Nat)) (fun k τ => ∃ x7, τ = τg (taskV h ss0 es) s n ((List.range k).flatMap fun j => outE es s j ++ inE h es s j) none (some (evV (b, x))) x7 none) (by simp) ⟨none, rfl⟩ ?_ ?_)
    · rintro k hk τ ⟨x7, rfl⟩
      simp only [List.length_range] at hk
      refine ⟨_, rfl, ?_⟩
      simp only [List.getElem_range]
      have e := deeds_step0 w hn hh b x he ((List.range k).flatMap fun j => outE es s j ++ inE h es s j) (by have := len0 k; omega) hk none
      show (lb__law_deeds_0 (τg (taskV h ss0 es) s n _ none (some (evV (b, x))) (some (.int (k : Nat))) none)).sat _
      rw [e]
      exact ⟨_, by rw [fm_succ]⟩
    · rintro τ ⟨x7, rfl⟩
      rw [List.length_range]
      exact half (some (evV (b, x))) x7 _ hb0 hop
end K24
end
section
set_option Elab.async false
set_option linter.all false
set_option maxRecDepth 100000
set_option maxHeartbeats 1000000
namespace K24
open PySem PySem.Spec L2 Lp
/-! the task drawn (the laws k20..k25) -/
theorem calls_ok (c : Int) (ls : List Nm) (ss : List (List Nm)) (m most : Nat) (hm : m ≤ 50) (hmo : most ≤ 100) (nd : ss.flatten.Nodup) (sub : ∀ x ∈ ss.flatten, x ∈ ls) (few : ss.flatten.length ≤ most) :
    ∃ es h' used, m__law_calls (.int c) (.lst (ls.map nm)) (stksV ss) (.int (m : Nat)) (.int (most : Nat)) = .ok (evsV es) ∧ EvC ss.flatten ls h' es used most ∧ es.length ≤ m := by
  obtain ⟨ds, ed, dl, db⟩ := vdraws_ok c (2 * m) 60 (by decide) (by omega)
  have hst := standing_ok ss (by omega)
  have hlen : pLen [.lst (ss.flatten.map nm)] = some (.int (ss.flatten.length : Nat)) := by simp [-List.map_flatten]
  have m2 := pMul_int (i := 2) (j := (m : Nat)) (.inl ⟨by decide, by decide⟩)
  have cm : (((2 * m : Nat) : Nat) : Int) = 2 * (m : Int) := by omega
  rw [cm] at ed
  have hrm := pR1_le m (by omega)
  have hl0 := EvC.mk (here0 := ss.flatten) (pool := ls) (h := ss.flatten) (es := []) (used := ss.flatten.length) (most := most) rfl nd sub (by simp) (Nat.le_refl _) few (fun k hk hq => by
    rw [List.take_nil] at hq
    cases hq
    exact few)
  generalize hF : ss.flatten = F at *
  have main : ∀ P : PV → Prop, (∀ es h' used, EvC F ls h' es used most → es.length ≤ m → P (evsV es)) →
      (b__law_calls [some (.int c), some (.lst (ls.map nm)), some (stksV ss), some (.int (m : Nat)), some (.int (most : Nat)), none, none, none, none, none, none, none]).sat { rt := P } := by
    intro P hP
    simp [b__law_calls, m2, ed, hst, hlen]
    refine sat_next (for_sat (List.range m) (fun i => .int (i : Nat)) (fun j τ => ∃ h used es x9 x10, τ = τc (.int c) (stksV ss) ls m most ds h used es x9 x10 ∧ EvC F ls h es used most ∧ es.length ≤ j) (by simp [hrm]) ⟨F, F.length, [], none, none, rfl, hl0, Nat.le_refl _⟩ ?_ ?_)
    · rintro k hk τ ⟨h, used, es, x9, x10, rfl, I, hle⟩
      simp only [List.length_range] at hk
      refine ⟨_, rfl, ?_⟩
      simp only [List.getElem_range]
      obtain ⟨h', used', es', y10, e, I', hl'⟩ := calls_step (.int c) (stksV ss) ls m most ds F h used es k (by omega) (by omega) hle hmo I x10
      show (lb__law_calls_1 (τc (.int c) (stksV ss) ls m most ds h used es (some (.int (k : Nat))) x10)).sat _
      rw [e]
      exact ⟨h', used', es', _, y10, rfl, I', hl'⟩
    · rintro τ ⟨h, used, es, x9, x10, rfl, I, hle⟩
      simp only [List.length_range] at hle
      simp [tup_ev]
      exact hP es h used I hle
  obtain ⟨v, hv, es, h', used, rfl, q⟩ := fin_sat (rm := .sh) (main (fun v => ∃ es h' used, v = evsV es ∧ EvC F ls h' es used most ∧ es.length ≤ m) fun es h' used a b => ⟨es, h', used, rfl, a, b⟩)
  exact ⟨es, h', used, hv, q⟩
/-- a day of small size -/
structure Small (h : Nat) (ss : List (List Nm)) (es : List (Bool × Nm)) : Prop where
  day : DayOk h ss es
  n3 : ss.length ≤ 3
  h3 : h ≤ 3
  e5 : es.length ≤ 5
  few : ∀ k hk, runE ss.flatten (es.take k) = some hk → hk.length ≤ 5 ∧ (ss.length = 3 → hk.length ≤ 4)
theorem Small.less {h : Nat} {ss : List (List Nm)} {es : List (Bool × Nm)} (D : Small h ss es) : Small h ss es.dropLast := by
  have hd : es.dropLast = es.take (es.length - 1) := List.dropLast_eq_take
  obtain ⟨h', hr⟩ := D.day.run
  have h5 := D.e5
  refine ⟨⟨D.day.h1, D.day.h5, D.day.c1, D.day.c5, D.day.row, D.day.nd, D.day.nmS, fun e he => D.day.nmE e (List.dropLast_subset _ he), ?_, by rw [List.length_dropLast]; omega, D.day.all⟩, D.n3, D.h3, by rw [List.length_dropLast]; omega, fun k hk hq => ?_⟩
  · rw [hd]
    exact runE_split hr _
  · rw [hd, List.take_take] at hq
    exact D.few _ hk hq
theorem task_ok (ns : List Int) (ds : List Int) (hl : ds.length = 5) (hd : ∀ d ∈ ds, 0 ≤ d) : ∃ h ss es, m__law_task (.scr ns) (.lst (ds.map .int)) = .ok (taskV h ss es) ∧ Small h ss es := by
  obtain ⟨d0, d1, d2, d3, d4, rfl⟩ : ∃ a b c d e, ds = [a, b, c, d, e] := by
    match ds, hl with
    | [a, b, c, d, e], _ => exact ⟨a, b, c, d, e, rfl⟩
  have i0 : atI [PV.int d0, .int d1, .int d2, .int d3, .int d4] 0 = some (.int d0) := rfl
  have i1 : atI [PV.int d0, .int d1, .int d2, .int d3, .int d4] 1 = some (.int d1) := rfl
  have i2 : atI [PV.int d0, .int d1, .int d2, .int d3, .int d4] 2 = some (.int d2) := rfl
  have i3 : atI [PV.int d0, .int d1, .int d2, .int d3, .int d4] 3 = some (.int d3) := rfl
  obtain ⟨q0, e0, hq0⟩ := mod_nat (m := d0) (n := 8) (by decide)
  obtain ⟨q1, e1, hq1⟩ := mod_nat (m := d1) (n := 6) (by decide)
  obtain ⟨m, e3, hm⟩ := mod_nat (m := d3) (n := 6) (by decide)
  have e0' : d0 % 8 = (q0 : Nat) := e0
  have e1' : d1 % 6 = (q1 : Nat) := e1
  have e3' : d3 % 6 = (m : Nat) := e3
  have o0 := pMod_int (i := d0) (j := 8) (by decide)
  have o1 := pMod_int (i := d1) (j := 6) (by decide)
  have o3 := pMod_int (i := d3) (j := 6) (by decide)
  rw [e0'] at o0
  rw [e1'] at o1
  rw [e3'] at o3
  have hw : ∃ n : Nat, atI [PV.int 1, .int 2, .int 2, .int 2, .int 2, .int 3, .int 3, .int 3] ((q0 : Nat) : Int) = some (.int (n : Nat)) ∧ 1 ≤ n ∧ n ≤ 3 := by
    have : q0 = 0 ∨ q0 = 1 ∨ q0 = 2 ∨ q0 = 3 ∨ q0 = 4 ∨ q0 = 5 ∨ q0 = 6 ∨ q0 = 7 := by omega
    rcases this with rfl | rfl | rfl | rfl | rfl | rfl | rfl | rfl
    · exact ⟨1, rfl, by omega⟩
    · exact ⟨2, rfl, by omega⟩
    · exact ⟨2, rfl, by omega⟩
    · exact ⟨2, rfl, by omega⟩
    · exact ⟨2, rfl, by omega⟩
    · exact ⟨3, rfl, by omega⟩
    · exact ⟨3, rfl, by omega⟩
    · exact ⟨3, rfl, by omega⟩
  have hh : ∃ h : Nat, atI [PV.int 1, .int 2, .int 2, .int 3, .int 3, .int 3] ((q1 : Nat) : Int) = some (.int (h : Nat)) ∧ 1 ≤ h ∧ h ≤ 3 := by
    have : q1 = 0 ∨ q1 = 1 ∨ q1 = 2 ∨ q1 = 3 ∨ q1 = 4 ∨ q1 = 5 := by omega
    rcases this with rfl | rfl | rfl | rfl | rfl | rfl
    · exact ⟨1, rfl, by omega⟩
    · exact ⟨2, rfl, by omega⟩
    · exact ⟨2, rfl, by omega⟩
    · exact ⟨3, rfl, by omega⟩
    · exact ⟨3, rfl, by omega⟩
    · exact ⟨3, rfl, by omega⟩
  obtain ⟨n, hn, n1, n3⟩ := hw
  obtain ⟨h, hhq, h1, h3⟩ := hh
  have hmo : ∃ most : Nat, atI [PV.int 5, .int 5, .int 4] (((n : Nat) : Int) - 1) = some (.int (most : Nat)) ∧ 4 ≤ most ∧ most ≤ 5 ∧ (n = 3 → most = 4) := by
    have : n = 1 ∨ n = 2 ∨ n = 3 := by omega
    rcases this with rfl | rfl | rfl
    · exact ⟨5, rfl, by omega⟩
    · exact ⟨5, rfl, by omega⟩
    · exact ⟨4, rfl, by omega⟩
  obtain ⟨most, hmq, hm4, hm5, hm3⟩ := hmo
  obtain ⟨p, e2, hp⟩ := mod_nat (m := d2) (n := most + 1) (by omega)
  have o2 := pMod_int (i := d2) (j := (most : Nat) + 1) (by omega)
  have e2' : d2 % ((most : Nat) + 1) = (p : Nat) := e2
  rw [e2'] at o2
  obtain ⟨c1, k1⟩ := vcell_ok ns 1
  obtain ⟨c2, k2⟩ := vcell_ok ns 2
  obtain ⟨c3, k3⟩ := vcell_ok ns 3
  obtain ⟨ls, en, lsl, lsn, lsw⟩ := names_ok c1
  obtain ⟨ss, ep, sl, sr, sn, ssub, sf⟩ := piles_ok c2 ls lsl lsn p h n (by omega) (by omega) (by omega)
  obtain ⟨es, h', used, ec, I, el⟩ := calls_ok c3 ls ss m most (by omega) (by omega) sn ssub (by omega)
  have k1' : m__law_cell (.scr ns) (.int 1) = .ok (.int c1) := k1
  have k2' : m__law_cell (.scr ns) (.int 2) = .ok (.int c2) := k2
  have k3' : m__law_cell (.scr ns) (.int 3) = .ok (.int c3) := k3
  refine ⟨h, ss, es, ?_, ⟨⟨h1, by omega, by omega, by omega, sr, sn, fun x hx => lsw x (ssub x hx), fun e he => lsw _ (I.mem e he), ⟨h', I.run⟩, by omega, by omega⟩, by omega, h3, by omega, fun k hk hq => ?_⟩⟩
  · simp [m__law_task, b__law_task, i0, i1, i2, i3, o0, o1, o2, o3, hn, hhq, hmq, k1', k2', k3', en, ep, ec, taskV]
  · have := I.all k hk hq
    exact ⟨by omega, fun e => by have := hm3 (by omega); omega⟩
end K24
end
section
set_option Elab.async false
set_option linter.all false
set_option maxRecDepth 100000
open PySem PySem.Spec L2 Lp PySem.W
/-! states as keys and in order -/
def kS (s : Sts) : NestedKey := .tup [.num ((s.1 : Nat) : Int), .tup (s.2.map fun r => .tup (r.map fun x => .text (tx x)))]
theorem nks_nm : ∀ r : List Nm, nks (r.map nm) = some (r.map fun x => NestedKey.text (tx x))
  | [] => by rw [List.map_nil, nks]; rfl
  | x :: r => by
    have h1 : (nm x).nk = some (.text (tx x)) := by unfold nm; rw [PV.nk]
    rw [List.map_cons, nks, nks_nm r, h1]
    rfl
theorem nk_stk (r : List Nm) : (stk r).nk = some (.tup (r.map fun x => .text (tx x))) := by
  unfold stk
  rw [PV.nk, nks_nm]
  rfl
theorem nks_stk : ∀ ss : List (List Nm), nks (ss.map stk) = some (ss.map fun r => NestedKey.tup (r.map fun x => .text (tx x)))
  | [] => by rw [List.map_nil, nks]; rfl
  | r :: ss => by
    rw [List.map_cons, nks, nks_stk ss, nk_stk]
    rfl
theorem depth_nm : ∀ r : List Nm, NestedKey.depthAll (r.map fun x => NestedKey.text (tx x)) = 0
  | [] => by rw [List.map_nil, NestedKey.depthAll]
  | x :: r => by rw [List.map_cons, NestedKey.depthAll, depth_nm r, NestedKey.depth]; rfl
theorem depth_stk : ∀ ss : List (List Nm), NestedKey.depthAll (ss.map fun r => NestedKey.tup (r.map fun x => .text (tx x))) ≤ 1
  | [] => by rw [List.map_nil, NestedKey.depthAll]; omega
  | r :: ss => by
    rw [List.map_cons, NestedKey.depthAll, NestedKey.depth, depth_nm r]
    have := depth_stk ss
    omega
theorem keyN_st (s : Sts) : keyN (stV s) = some (kS s) := by
  have h1 : (stV s).nk = some (kS s) := by
    unfold stV stksV kS
    rw [PV.nk, nks, nks, nks, PV.nk, PV.nk, nks_stk]
    rfl
  have h2 : (kS s).depth ≤ 8 := by
    unfold kS
    rw [NestedKey.depth, NestedKey.depthAll, NestedKey.depthAll, NestedKey.depthAll, NestedKey.depth, NestedKey.depth]
    have := depth_stk s.2
    omega
  show (match (stV s).nk with | some k => if k.depth ≤ 8 then some k else none | none => none) = _
  rw [h1]
  dsimp only
  rw [if_pos h2]
theorem kS_inj {a b : Sts} (h : kS a = kS b) : a = b := by
  unfold kS at h
  injection h with h
  injection h with h1 h2
  injection h1 with h1
  injection h2 with h2 _
  injection h2 with h2
  have e2 : a.2 = b.2 := (List.map_inj_right (f := fun r : List Nm => NestedKey.tup (r.map fun x => .text (tx x))) fun r q e => by
    injection e with e
    exact (List.map_inj_right (f := fun x : Nm => NestedKey.text (tx x)) fun x y e => by
      injection e with e
      exact tx_inj e).mp e).mp h2
  have e1 : a.1 = b.1 := by omega
  exact Prod.ext e1 e2
def seenV (Q : List Sts) : List (PV × PV) := Q.map fun s => (stV s, PV.bl true)
theorem isN_st (s t : Sts) : isN (kS s) (stV t) = decide (t = s) := by
  unfold isN
  rw [keyN_st]
  by_cases h : t = s
  · subst h; simp
  · have : ¬ some (kS t) = some (kS s) := fun e => h (kS_inj (Option.some.inj e))
    simp [h, this]
theorem hasN_st (Q : List Sts) (s : Sts) : hasN (seenV Q) (kS s) = decide (s ∈ Q) := by
  unfold hasN seenV
  induction Q with
  | nil => rfl
  | cons t Q ih =>
    rw [List.map_cons, List.any_cons, ih, isN_st]
    by_cases h : t = s
    · simp [h]
    · have h' : ¬ s = t := fun e => h e.symm
      simp [h, h']
theorem setN_st {Q : List Sts} {s : Sts} (h : s ∉ Q) : setN (seenV Q) (stV s) (kS s) (.bl true) = seenV (Q ++ [s]) := by
  unfold setN
  rw [hasN_st, if_neg (by simpa using h)]
  unfold seenV
  simp
theorem pNIn_st (Q : List Sts) (s : Sts) : pNIn true (stV s) (.dN (seenV Q)) = some (.bl (!decide (s ∈ Q))) := by
  show (keyN (stV s)).map _ = _
  rw [keyN_st, Option.map_some, hasN_st, Bool.true_xor]
theorem keys_st (Q : List Sts) : pListN [.dN (seenV Q)] = some (.lst (Q.map stV)) := by
  show some (PV.lst ((seenV Q).map fun kv => kv.1)) = _
  unfold seenV
  rw [List.map_map]
  rfl
/-! in order -/
theorem leP_trans {a b c : PV} (h : leP a b = true) (k : leP b c = true) : leP a c = true := by
  unfold leP dataLt at *
  simp only [Bool.not_eq_true'] at *
  cases q : PyProof.Rows.lexLt PyProof.Rows.itemOrd (keyToks (encP c)) (keyToks (encP a)) with
  | false => rfl
  | true =>
    rcases (PyProof.Rows.listOrd PyProof.Rows.itemOrd).negTrans _ (keyToks (encP b)) _ q with z | z
    · exact absurd (show PyProof.Rows.lexLt PyProof.Rows.itemOrd (keyToks (encP c)) (keyToks (encP b)) = true from z) (by rw [k]; decide)
    · exact absurd (show PyProof.Rows.lexLt PyProof.Rows.itemOrd (keyToks (encP b)) (keyToks (encP a)) = true from z) (by rw [h]; decide)
theorem leP_total (a b : PV) : (leP a b || leP b a) = true := by
  unfold leP dataLt
  cases q : PyProof.Rows.lexLt PyProof.Rows.itemOrd (keyToks (encP b)) (keyToks (encP a)) with
  | false => rfl
  | true =>
    cases q2 : PyProof.Rows.lexLt PyProof.Rows.itemOrd (keyToks (encP a)) (keyToks (encP b)) with
    | false => rfl
    | true =>
      have := (PyProof.Rows.listOrd PyProof.Rows.itemOrd).trans _ _ _ q q2
      have i := (PyProof.Rows.listOrd PyProof.Rows.itemOrd).irrefl (keyToks (encP b))
      rw [this] at i
      cases i
theorem leP_toks {a b : PV} (h : leP a b = true) (k : leP b a = true) : keyToks (encP a) = keyToks (encP b) := by
  unfold leP dataLt at *
  simp only [Bool.not_eq_true'] at *
  exact (PyProof.Rows.listOrd PyProof.Rows.itemOrd).total _ _ k h
theorem alikeAll_map {α : Type} (f : α → PyData) (hf : ∀ a b, alike (f a) (f b) = true) : ∀ l m : List α, alikeAll (l.map f) (m.map f) = true
  | [], _ => by simp [alikeAll]
  | _ :: _, [] => by simp [alikeAll]
  | a :: l, b :: m => by
    rw [List.map_cons, List.map_cons, alikeAll, hf, alikeAll_map f hf l m]
    rfl
def dS (s : Sts) : PyData := .tuple [.int ((s.1 : Nat) : Int), .tuple (s.2.map fun r => .tuple (r.map fun x => .str (tx x)))]
theorem toDs_nm : ∀ r : List Nm, toDs (r.map nm) = some (r.map fun x => PyData.str (tx x))
  | [] => by rw [List.map_nil, toDs]; rfl
  | x :: r => by
    have h1 : (nm x).toD = some (.str (tx x)) := by unfold nm; rw [PV.toD]
    rw [List.map_cons, toDs, toDs_nm r, h1]
    rfl
theorem toDs_stk : ∀ ss : List (List Nm), toDs (ss.map stk) = some (ss.map fun r => PyData.tuple (r.map fun x => .str (tx x)))
  | [] => by rw [List.map_nil, toDs]; rfl
  | r :: ss => by
    rw [List.map_cons, toDs, toDs_stk ss]
    unfold stk
    rw [PV.toD, toDs_nm]
    rfl
theorem toD_st (s : Sts) : (stV s).toD = some (dS s) := by
  unfold stV stksV dS
  rw [PV.toD, toDs, toDs, toDs, PV.toD, PV.toD, toDs_stk]
  rfl
theorem encP_st (s : Sts) : encP (stV s) = dS s := by unfold encP; rw [toD_st]; rfl
theorem alike_st (a b : Sts) : alike (dS a) (dS b) = true := by
  unfold dS
  rw [alike, alikeAll, alikeAll, alikeAll, alike, alike]
  rw [alikeAll_map _ (fun r q => by
    rw [alike]
    exact alikeAll_map _ (fun x y => by rw [alike]) r q)]
  rfl
theorem depthD_nm : ∀ r : List Nm, PyData.depthAll (r.map fun x => PyData.str (tx x)) = 0
  | [] => by rw [List.map_nil, PyData.depthAll]
  | x :: r => by rw [List.map_cons, PyData.depthAll, depthD_nm r, PyData.depth]; rfl
theorem depthD_stk : ∀ ss : List (List Nm), PyData.depthAll (ss.map fun r => PyData.tuple (r.map fun x => .str (tx x))) ≤ 1
  | [] => by rw [List.map_nil, PyData.depthAll]; omega
  | r :: ss => by
    rw [List.map_cons, PyData.depthAll, PyData.depth, depthD_nm r]
    have := depthD_stk ss
    omega
theorem okSort_st (Q : List Sts) : okSort (Q.map stV) = true := by
  unfold okSort
  rw [Bool.and_eq_true]
  refine ⟨List.all_eq_true.mpr fun p hp => ?_, List.all_eq_true.mpr fun p hp => List.all_eq_true.mpr fun q hq => ?_⟩
  · obtain ⟨s, _, rfl⟩ := List.mem_map.mp hp
    unfold okTup
    rw [toD_st]
    unfold dS
    dsimp only
    refine decide_eq_true ?_
    rw [PyData.depth, PyData.depthAll, PyData.depthAll, PyData.depthAll, PyData.depth, PyData.depth]
    have := depthD_stk s.2
    omega
  · obtain ⟨s, _, rfl⟩ := List.mem_map.mp hp
    obtain ⟨t, _, rfl⟩ := List.mem_map.mp hq
    rw [encP_st, encP_st]
    exact alike_st s t
theorem dat_st' (s : Sts) : dat 3 (stV s) := fun p hp => by
  simp only [List.mem_cons, List.not_mem_nil, or_false] at hp
  rcases hp with rfl | rfl
  · trivial
  · intro r hr
    obtain ⟨l, _, rfl⟩ := List.mem_map.mp hr
    exact dat_stk 0 l
theorem leP_anti {a b : Sts} (h : leP (stV a) (stV b) = true) (k : leP (stV b) (stV a) = true) : stV a = stV b := by
  have e := leP_toks h k
  rw [encP_st, encP_st] at e
  have hq := toks_eqv (dS a) (dS b) (alike_st a b)
  cases hv : PyData.eqv (dS a) (dS b) with
  | true =>
    exact (eqv_iff (dat_st' a) (dat_st' b) (toD_st a) (toD_st b)).mp hv
  | false =>
    have q := hq.2 hv
    rw [e] at q
    have q1 := q [] [.inl 0]
    rw [lex_pre] at q1
    have i := (PyProof.Rows.listOrd PyProof.Rows.itemOrd).irrefl (keyToks (dS b))
    rw [show PyProof.Rows.lexLt PyProof.Rows.itemOrd (keyToks (dS b)) (keyToks (dS b)) = false from i] at q1
    exact absurd q1 (by decide)
theorem sort_st {Q R : List Sts} (h : Q.Perm R) : (Q.map stV).mergeSort leP = (R.map stV).mergeSort leP := by
  have p : ((Q.map stV).mergeSort leP).Perm ((R.map stV).mergeSort leP) := (List.mergeSort_perm _ _).trans ((h.map stV).trans (List.mergeSort_perm _ _).symm)
  refine List.Perm.eq_of_pairwise (le := fun a b => leP a b = true) (fun a b ha hb h1 h2 => ?_) (List.pairwise_mergeSort (le := leP) (fun a b c => leP_trans) leP_total _) (List.pairwise_mergeSort (le := leP) (fun a b c => leP_trans) leP_total _) p
  obtain ⟨s, _, rfl⟩ := List.mem_map.mp (List.mem_mergeSort.mp ha)
  obtain ⟨t, _, rfl⟩ := List.mem_map.mp (List.mem_mergeSort.mp hb)
  exact leP_anti h1 h2
end
section
set_option Elab.async false
set_option linter.all false
set_option maxRecDepth 100000
open PySem PySem.Spec L2 Lp
/-! searches -/
inductive Rch (nx : Sts → List Sts) (s0 : Sts) : Sts → Prop
  | zero : Rch nx s0 s0
  | step {s t : Sts} : Rch nx s0 s → t ∈ nx s → Rch nx s0 t
def news (D : List Sts) : List Sts → List Sts
  | [] => []
  | t :: L => if t ∈ D then news D L else t :: news (D ++ [t]) L
theorem news_mem : ∀ (L D : List Sts) (x : Sts), x ∈ news D L ↔ x ∈ L ∧ x ∉ D
  | [], D, x => by simp [news]
  | t :: L, D, x => by
    unfold news
    split
    · rename_i h
      rw [news_mem L D x]
      constructor
      · rintro ⟨h1, h2⟩; exact ⟨List.mem_cons_of_mem _ h1, h2⟩
      · rintro ⟨h1, h2⟩
        rcases List.mem_cons.mp h1 with rfl | h1
        · exact absurd h h2
        · exact ⟨h1, h2⟩
    · rename_i h
      rw [List.mem_cons, news_mem L (D ++ [t]) x, List.mem_cons, List.mem_append, List.mem_singleton]
      constructor
      · rintro (rfl | ⟨h1, h2⟩)
        · exact ⟨.inl rfl, h⟩
        · exact ⟨.inr h1, fun z => h2 (.inl z)⟩
      · rintro ⟨h1, h2⟩
        by_cases e : x = t
        · exact .inl e
        · rcases h1 with h1 | h1
          · exact absurd h1 e
          · exact .inr ⟨h1, fun z => z.elim h2 e⟩
theorem news_nd : ∀ (L D : List Sts), (news D L).Nodup
  | [], D => by simp [news]
  | t :: L, D => by
    unfold news
    split
    · exact news_nd L D
    · refine List.nodup_cons.mpr ⟨fun h => ?_, news_nd L _⟩
      exact ((news_mem L _ t).mp h).2 (List.mem_append_right _ (List.mem_singleton.mpr rfl))
theorem news_snoc : ∀ (L D : List Sts) (t : Sts), news D (L ++ [t]) = news D L ++ if t ∈ D ++ news D L then [] else [t]
  | [], D, t => by simp [news]
  | u :: L, D, t => by
    rw [List.cons_append, news, news]
    split
    · exact news_snoc L D t
    · rename_i h
      rw [news_snoc L (D ++ [u]) t, List.cons_append]
      congr 2
      simp
theorem nd_app {D : List Sts} (h : D.Nodup) (L : List Sts) : (D ++ news D L).Nodup :=
  List.nodup_append.mpr ⟨h, news_nd L D, fun a ha b hb => by
    rintro rfl
    exact ((news_mem L D a).mp hb).2 ha⟩
theorem app_mem (D L : List Sts) (x : Sts) : x ∈ D ++ news D L ↔ x ∈ D ∨ x ∈ L := by
  rw [List.mem_append, news_mem]
  constructor
  · rintro (h | ⟨h, _⟩)
    · exact .inl h
    · exact .inr h
  · rintro (h | h)
    · exact .inl h
    · by_cases z : x ∈ D
      · exact .inl z
      · exact .inr ⟨h, z⟩
section
variable {nx : Sts → List Sts} {s0 : Sts}
/-- closed, with the first state, all reached: these are the states -/
structure Full (nx : Sts → List Sts) (s0 : Sts) (Q : List Sts) : Prop where
  nd : Q.Nodup
  rch : ∀ s ∈ Q, Rch nx s0 s
  fst : s0 ∈ Q
  cl : ∀ s ∈ Q, ∀ t ∈ nx s, t ∈ Q
theorem Full.all {Q : List Sts} (F : Full nx s0 Q) {s : Sts} (h : Rch nx s0 s) : s ∈ Q := by
  induction h with
  | zero => exact F.fst
  | step _ ht ih => exact F.cl _ ih _ ht
theorem Full.perm {Q R : List Sts} (F : Full nx s0 Q) (E : Full nx s0 R) : Q.Perm R :=
  (List.perm_ext_iff_of_nodup F.nd E.nd).mpr fun a => ⟨fun h => E.all (F.rch a h), fun h => F.all (E.rch a h)⟩
/-! one behind the other -/
structure Bfs (nx : Sts → List Sts) (s0 : Sts) (k : Nat) (Q : List Sts) : Prop where
  nd : Q.Nodup
  rch : ∀ s ∈ Q, Rch nx s0 s
  fst : s0 ∈ Q
  le : k ≤ Q.length
  cl : ∀ i s, i < k → Q[i]? = some s → ∀ t ∈ nx s, t ∈ Q
theorem Bfs.zero : Bfs nx s0 0 [s0] := ⟨by simp, fun s hs => by rw [List.mem_singleton.mp hs]; exact .zero, by simp, by simp, fun i s hi => by omega⟩
theorem Bfs.step {k : Nat} {Q : List Sts} {s : Sts} (B : Bfs nx s0 k Q) (hs : Q[k]? = some s) : Bfs nx s0 (k + 1) (Q ++ news Q (nx s)) := by
  have hk : k < Q.length := (List.getElem?_eq_some_iff.mp hs).1
  have hm : s ∈ Q := List.mem_of_getElem? hs
  refine ⟨nd_app B.nd _, fun t ht => ?_, List.mem_append_left _ B.fst, by simp; omega, fun i t hi ht u hu => ?_⟩
  · rcases (app_mem _ _ _).mp ht with h | h
    · exact B.rch t h
    · exact .step (B.rch s hm) h
  · rw [List.getElem?_append_left (by omega)] at ht
    by_cases e : i = k
    · subst e
      rw [hs] at ht
      cases ht
      exact (app_mem _ _ _).mpr (.inr hu)
    · exact List.mem_append_left _ (B.cl i t (by omega) ht u hu)
theorem Bfs.full {k : Nat} {Q : List Sts} (B : Bfs nx s0 k Q) (h : Q.length ≤ k) : Full nx s0 Q :=
  ⟨B.nd, B.rch, B.fst, fun s hs => by
    obtain ⟨i, e⟩ := List.mem_iff_getElem?.mp hs
    have hi := (List.getElem?_eq_some_iff.mp e).1
    exact B.cl i s (by omega) e⟩
/-! the last one first -/
structure Dfs (nx : Sts → List Sts) (s0 : Sts) (D T : List Sts) : Prop where
  nd : D.Nodup
  rch : ∀ s ∈ D, Rch nx s0 s
  fst : s0 ∈ D
  tnd : T.Nodup
  sub : ∀ s ∈ T, s ∈ D
  cl : ∀ s ∈ D, s ∉ T → ∀ t ∈ nx s, t ∈ D
theorem Dfs.zero : Dfs nx s0 [s0] [s0] := ⟨by simp, fun s hs => by rw [List.mem_singleton.mp hs]; exact .zero, by simp, by simp, fun s hs => hs, fun s hs hn => absurd hs hn⟩
theorem Dfs.step {D T : List Sts} {s : Sts} (B : Dfs nx s0 D (T ++ [s])) : Dfs nx s0 (D ++ news D (nx s)) (T ++ news D (nx s)) := by
  have hs : s ∈ D := B.sub s (by simp)
  have hT := List.nodup_append.mp B.tnd
  refine ⟨nd_app B.nd _, fun t ht => ?_, List.mem_append_left _ B.fst, List.nodup_append.mpr ⟨hT.1, news_nd _ _, fun a ha b hb => ?_⟩, fun t ht => ?_, fun t ht hn u hu => ?_⟩
  · rcases (app_mem _ _ _).mp ht with h | h
    · exact B.rch t h
    · exact .step (B.rch s hs) h
  · rintro rfl
    exact ((news_mem _ _ _).mp hb).2 (B.sub a (List.mem_append_left _ ha))
  · rcases List.mem_append.mp ht with h | h
    · exact List.mem_append_left _ (B.sub t (List.mem_append_left _ h))
    · exact List.mem_append_right _ h
  · rw [List.mem_append, not_or] at hn
    rcases List.mem_append.mp ht with h | h
    · by_cases e : t = s
      · subst e
        exact (app_mem _ _ _).mpr (.inr hu)
      · refine List.mem_append_left _ (B.cl t h (fun z => ?_) u hu)
        rcases List.mem_append.mp z with z | z
        · exact hn.1 z
        · exact e (List.mem_singleton.mp z)
    · exact absurd h hn.2
theorem Dfs.full {D : List Sts} (B : Dfs nx s0 D []) : Full nx s0 D := ⟨B.nd, B.rch, B.fst, fun s hs => B.cl s hs (by simp)⟩
end
/-! how many -/
theorem nodup_len' {α : Type} [DecidableEq α] : ∀ {l m : List α}, l.Nodup → (∀ x ∈ l, x ∈ m) → l.length ≤ m.length
  | [], _, _, _ => Nat.zero_le _
  | x :: l, m, hn, h => by
    rw [List.nodup_cons] at hn
    have hx := h x List.mem_cons_self
    have ih := nodup_len' (l := l) (m := m.erase x) hn.2 fun y hy => by
      refine (List.mem_erase_of_ne ?_).mpr (h y (List.mem_cons_of_mem _ hy))
      rintro rfl
      exact hn.1 hy
    rw [List.length_erase_of_mem hx] at ih
    have := List.length_pos_of_mem hx
    simp only [List.length_cons]
    omega
theorem flatMap_len {α β : Type} (f : α → List β) (c : Nat) : ∀ l : List α, (∀ x ∈ l, (f x).length ≤ c) → (l.flatMap f).length ≤ c * l.length
  | [], _ => by simp
  | x :: l, h => by
    have h1 := flatMap_len f c l fun y hy => h y (List.mem_cons_of_mem _ hy)
    have h2 := h x List.mem_cons_self
    rw [List.flatMap_cons, List.length_append, List.length_cons, Nat.mul_succ]
    omega
def permsN {α : Type} [DecidableEq α] : Nat → List α → List (List α)
  | 0, _ => [[]]
  | m + 1, l => l.flatMap fun x => (permsN m (l.erase x)).map (x :: ·)
def fct : Nat → Nat
  | 0 => 1
  | m + 1 => fct m * (m + 1)
theorem perms_len {α : Type} [DecidableEq α] : ∀ (m : Nat) (l : List α), l.length = m → (permsN m l).length ≤ fct m
  | 0, _, _ => by simp [permsN, fct]
  | m + 1, l, h => by
    unfold permsN fct
    have := flatMap_len (fun x => (permsN m (l.erase x)).map (x :: ·)) (fct m) l fun x hx => by
      rw [List.length_map]
      exact perms_len m _ (by rw [List.length_erase_of_mem hx]; omega)
    rw [h] at this
    exact this
theorem perms_mem {α : Type} [DecidableEq α] : ∀ (p l : List α), p.Perm l → p ∈ permsN p.length l
  | [], _, _ => by simp [permsN]
  | x :: p, l, h => by
    obtain ⟨h1, h2⟩ := List.cons_perm_iff_perm_erase.mp h
    exact List.mem_flatMap.mpr ⟨x, h1, List.mem_map.mpr ⟨p, perms_mem p _ h2, rfl⟩⟩
def lensN : Nat → List (List Nat)
  | 0 => [[]]
  | k + 1 => (List.range 4).flatMap fun l => (lensN k).map (l :: ·)
theorem lens_len : ∀ k, (lensN k).length ≤ 4 ^ k
  | 0 => by simp [lensN]
  | k + 1 => by
    unfold lensN
    have := flatMap_len (fun l => (lensN k).map (l :: ·)) (4 ^ k) (List.range 4) fun x _ => by
      rw [List.length_map]; exact lens_len k
    rw [List.length_range] at this
    rw [Nat.pow_succ]
    exact this
theorem lens_mem : ∀ ls : List Nat, (∀ l ∈ ls, l < 4) → ls ∈ lensN ls.length
  | [], _ => by simp [lensN]
  | l :: ls, h => List.mem_flatMap.mpr ⟨l, List.mem_range.mpr (h l List.mem_cons_self), List.mem_map.mpr ⟨ls, lens_mem ls fun x hx => h x (List.mem_cons_of_mem _ hx), rfl⟩⟩
def cutBy {α : Type} : List α → List Nat → List (List α)
  | p, [] => [p]
  | p, l :: ls => p.take l :: cutBy (p.drop l) ls
theorem cutBy_flat {α : Type} : ∀ S : List (List α), S ≠ [] → cutBy S.flatten (S.dropLast.map List.length) = S
  | [], h => absurd rfl h
  | [r], _ => by simp [cutBy]
  | r :: q :: S, _ => by
    rw [List.flatten_cons, List.dropLast_cons_cons, List.map_cons, cutBy, List.take_left, List.drop_left, cutBy_flat (q :: S) (by simp)]
theorem wf_few {h n : Nat} {ss : List (List Nm)} {es : List (Bool × Nm)} (hn1 : 1 ≤ n) (hn3 : n ≤ 3) (hh : h ≤ 3) (he : es.length ≤ 5) (few : ∀ k hk, runE ss.flatten (es.take k) = some hk → hk.length ≤ 5 ∧ (n = 3 → hk.length ≤ 4))
    (L : List Sts) (hL : L.Nodup) (hw : ∀ s ∈ L, WF h n ss es s) : L.length ≤ 3000 := by
  let U : List Sts := (List.range 6).flatMap fun e => match runE ss.flatten (es.take e) with
    | none => []
    | some hk => (permsN hk.length hk).flatMap fun p => (lensN (n - 1)).map fun ls => (e, cutBy p ls)
  have hU : U.length ≤ 480 * 6 := by
    have := flatMap_len (fun e => match runE ss.flatten (es.take e) with
      | none => ([] : List Sts)
      | some hk => (permsN hk.length hk).flatMap fun p => (lensN (n - 1)).map fun ls => (e, cutBy p ls)) 480 (List.range 6) fun e _ => by
      cases hk : runE ss.flatten (es.take e) with
      | none => simp
      | some h' =>
        dsimp only
        have f := few e h' hk
        have l1 := perms_len h'.length h' rfl
        have l2 := lens_len (n - 1)
        have := flatMap_len (fun p => (lensN (n - 1)).map fun ls => ((e, cutBy p ls) : Sts)) (4 ^ (n - 1)) (permsN h'.length h') fun p _ => by rw [List.length_map]; exact l2
        refine Nat.le_trans this ?_
        have m5 : fct h'.length ≤ 120 := by
          have : h'.length = 0 ∨ h'.length = 1 ∨ h'.length = 2 ∨ h'.length = 3 ∨ h'.length = 4 ∨ h'.length = 5 := by omega
          rcases this with e | e | e | e | e | e <;> rw [e] <;> decide
        have : n = 1 ∨ n = 2 ∨ n = 3 := by omega
        rcases this with rfl | rfl | rfl
        · omega
        · omega
        · have f4 := f.2 rfl
          have m4 : fct h'.length ≤ 24 := by
            have : h'.length = 0 ∨ h'.length = 1 ∨ h'.length = 2 ∨ h'.length = 3 ∨ h'.length = 4 := by omega
            rcases this with e | e | e | e | e <;> rw [e] <;> decide
          omega
    rw [List.length_range] at this
    exact this
  have hsub : ∀ s ∈ L, s ∈ U := fun s hs => by
    have w := hw s hs
    obtain ⟨hk, h1, h2⟩ := w.box
    refine List.mem_flatMap.mpr ⟨s.1, List.mem_range.mpr (by have := w.le; omega), ?_⟩
    rw [h1]
    dsimp only
    have hne : s.2 ≠ [] := fun e => by have := w.len; rw [e] at this; simp at this; omega
    refine List.mem_flatMap.mpr ⟨s.2.flatten, by have := perms_mem _ _ h2; rw [h2.length_eq] at this; exact this, List.mem_map.mpr ⟨s.2.dropLast.map List.length, ?_, by rw [cutBy_flat _ hne]⟩⟩
    have := lens_mem (s.2.dropLast.map List.length) fun l hl => by
      obtain ⟨r, hr, rfl⟩ := List.mem_map.mp hl
      have := w.row r (List.dropLast_subset _ hr)
      omega
    rw [List.length_map, List.length_dropLast, w.len] at this
    exact this
  have := nodup_len' hL hsub
  omega
end
section
set_option Elab.async false
set_option linter.all false
set_option maxRecDepth 100000
set_option maxHeartbeats 1000000
namespace K24
open PySem PySem.Spec L2 Lp
variable {h n : Nat} {ss ss0 : List (List Nm)} {es : List (Bool × Nm)} {s : Sts}
/-! what deeds lead to -/
def nxt (h n : Nat) (es : List (Bool × Nm)) (s : Sts) : List Sts := (openL h n es s).map (·.2)
theorem rch_wf (w0 : WF h n ss es (0, ss)) (hrun : ∃ h', runE ss.flatten es = some h') {s : Sts} (hr : Rch (nxt h n es) (0, ss) s) : WF h n ss es s := by
  induction hr with
  | zero => exact w0
  | step _ ht ih =>
    obtain ⟨e, he, rfl⟩ := List.mem_map.mp ht
    obtain ⟨h1, h2⟩ := open_step ih he
    exact ih.step h1 h2 hrun
theorem small_few (D : Small h ss es) (L : List Sts) (hL : L.Nodup) (hr : ∀ s ∈ L, Rch (nxt h ss.length es) (0, ss) s) : L.length ≤ 3000 :=
  wf_few D.day.c1 D.n3 D.h3 D.e5 D.few L hL fun s hs => rch_wf (wf_first D.day) D.day.run (hr s hs)
theorem ent1 (e : Deed × Sts) : pIx (entV e) (.int 1) = some (stV e.2) := by simp [entV]
theorem reach_in (T x3 : Option PV) (Q : List Sts) (e : Deed × Sts) (hl : Q.length ≤ 3000) :
    lb__law_reached_0 [T, some (.lst (Q.map stV)), some (.dN (seenV Q)), x3, some (entV e)] = .nx [T, some (.lst ((Q ++ if e.2 ∈ Q then [] else [e.2]).map stV)), some (.dN (seenV (Q ++ if e.2 ∈ Q then [] else [e.2]))), x3, some (entV e)] := by
  have e1 := ent1 e
  have hin := pNIn_st Q e.2
  have hk := keyN_st e.2
  have hlen : (seenV Q).length < 1000000 := by unfold seenV; rw [List.length_map]; omega
  generalize entV e = EV at *
  by_cases c : e.2 ∈ Q
  · simp [c] at hin
    simp [lb__law_reached_0, e1, hin, c]
  · simp [c] at hin
    have hs := setN_st c
    have ga := gApp_s (ps := Q.map stV) (q := stV e.2) (by simp; omega)
    have hm : (Q ++ [e.2]).map stV = Q.map stV ++ [stV e.2] := by simp
    rw [if_neg c, hm]
    generalize stV e.2 = S at *
    simp [lb__law_reached_0, sPutN, e1, hin, hk, hlen, hs, ga]
theorem law_reached_ok (D : Small h ss es) : ∃ Q, m__law_reached (taskV h ss es) = .ok (.tup ((Q.map stV).mergeSort leP)) ∧ Full (nxt h ss.length es) (0, ss) Q ∧ Q.length ≤ 3000 := by
  have w0 := wf_first D.day
  have few := small_few D
  have hrun := D.day.run
  have hd := fun s (hs : Rch (nxt h ss.length es) (0, ss) s) => deeds_ok (rch_wf w0 hrun hs) (by have := D.n3; omega) (by have := D.h3; omega)
  have t1 : pIx (taskV h ss es) (.int 1) = some (stksV ss) := rfl
  have hr0 := pR1_le 9000 (by omega)
  obtain ⟨N, hN, hr⟩ : ∃ N : Nat, 3000 < N ∧ pR1 [.int 9000] = some ((List.range N).map fun i => .int (i : Nat)) := ⟨9000, by omega, hr0⟩
  clear hr0
  have hs0 : PV.tup [.int 0, stksV ss] = stV (0, ss) := rfl
  have hk0 := keyN_st (0, ss)
  have hsort := fun (Q : List Sts) (hQ : Q.length ≤ 3000) => (show pSortD [.lst (Q.map stV)] = some (.lst ((Q.map stV).mergeSort leP)) from if_pos ⟨okSort_st Q, by simp; omega⟩)
  generalize taskV h ss es = T at *
  have main : ∀ P : PV → Prop, (∀ Q, Full (nxt h ss.length es) (0, ss) Q → Q.length ≤ 3000 → P (.tup ((Q.map stV).mergeSort leP))) →
      ∀ B, B = b__law_reached [some T, none, none, none, none] → B.sat { rt := P } := by
    intro P hP B hB
    rw [hB]
    have fin : ∀ Q x3 x4, Full (nxt h ss.length es) (0, ss) Q → (sRet (eCall pTuple (aCons (eCall pSortD (aCons (eVar 1) aNil)) aNil)) [some T, some (.lst (Q.map stV)), some (.dN (seenV Q)), x3, x4]).sat { rt := P } := by
      intro Q x3 x4 F
      have hQ := few Q F.nd F.rch
      have h1 := hsort Q hQ
      have h2 := hP Q F hQ
      generalize Q.map stV = QV at *
      simp [h1]
      exact h2
    have hx0 : pIx (.lst [stV (0, ss)]) (.int 0) = some (stV (0, ss)) := rfl
    have hsv : PV.dN [(stV (0, ss), PV.bl true)] = .dN (seenV [(0, ss)]) := rfl
    have hql : PV.lst [stV (0, ss)] = .lst (([(0, ss)] : List Sts).map stV) := rfl
    have i0 : ∃ x3 x4, [some T, some (.lst [stV (0, ss)]), some (.dN (seenV [(0, ss)])), none, none] = [some T, some (.lst (([(0, ss)] : List Sts).map stV)), some (.dN (seenV [(0, ss)])), x3, x4] := ⟨none, none, rfl⟩
    simp [b__law_reached, eNOne, t1, hs0, hx0, hk0, hsv]
    refine sat_next (for_sat (List.range N) (fun i => .int (i : Nat)) (fun k τ => ∃ Q x3 x4, τ = [some T, some (.lst (Q.map stV)), some (.dN (seenV Q)), x3, x4] ∧ Bfs (nxt h ss.length es) (0, ss) k Q) (by simp [hr]) ⟨[(0, ss)], none, none, rfl, Bfs.zero⟩ ?_ ?_)
    · rintro k hk τ ⟨Q, x3, x4, rfl, B⟩
      refine ⟨_, rfl, ?_⟩
      simp only [List.getElem_range]
      have hQ := few Q B.nd B.rch
      have hlen : pLen [.lst (Q.map stV)] = some (.int (Q.length : Nat)) := by simp
      by_cases c : Q.length ≤ k
      · have F := B.full c
        have := fin Q (some (.int (k : Nat))) x4 F
        have c' : ((Q.length : Nat) : Int) ≤ (k : Nat) := by omega
        generalize hQV : Q.map stV = QV at *
        simp [lb__law_reached_1, hlen, c']
        exact this
      · have hkQ : k < Q.length := by omega
        have c' : ¬ ((Q.length : Nat) : Int) ≤ (k : Nat) := by omega
        have hat : atI (Q.map stV) ((k : Nat) : Int) = some (stV Q[k]) := by rw [atN]; simp [hkQ]
        have hqs : Q[k]? = some Q[k] := List.getElem?_eq_getElem hkQ
        have hdk := hd Q[k] (B.rch _ (List.getElem_mem hkQ))
        have hstep := B.step hqs
        generalize Q[k] = s at hat hdk hstep
        unfold nxt at hstep
        generalize hE : openL h ss.length es s = E at hdk hstep
        have hsl : (sFor (iSeq (eFn (ar2 m__law_deeds) (aCons (eVar 0) (aCons (e2 pIx (eVar 1) (eVar 3)) aNil)))) (gNm 4) lb__law_reached_0 [some T, some (.lst (Q.map stV)), some (.dN (seenV Q)), some (.int (k : Nat)), x4]).sat { nx := fun τ => ∃ Q x3 x4, τ = [some T, some (.lst (Q.map stV)), some (.dN (seenV Q)), x3, x4] ∧ Bfs (nxt h ss.length es) (0, ss) (k + 1) Q } := by
          refine for_sat E entV (fun j τ => ∃ x4, τ = [some T, some (.lst ((Q ++ news Q ((E.take j).map (·.2))).map stV)), some (.dN (seenV (Q ++ news Q ((E.take j).map (·.2))))), some (.int (k : Nat)), x4]) ?_ ⟨x4, by simp [news]⟩ ?_ ?_
          · generalize Q.map stV = QV at *
            simp [hat, hdk]
          · rintro j hj τ ⟨x4, rfl⟩
            have hj3 : (Q ++ news Q ((E.take j).map (·.2))).length ≤ 3000 := few _ (nd_app B.nd _) fun t ht => by
              rcases (app_mem _ _ _).mp ht with ht | ht
              · exact B.rch t ht
              · refine hstep.rch t ((app_mem _ _ _).mpr (.inr ?_))
                obtain ⟨e, he, rfl⟩ := List.mem_map.mp ht
                exact List.mem_map_of_mem (List.mem_of_mem_take he)
            have hri := reach_in (some T) (some (.int (k : Nat))) (Q ++ news Q ((E.take j).map (·.2))) E[j] hj3
            refine step_nx hri rfl ⟨some (entV E[j]), ?_⟩
            have hnx : Q ++ news Q ((E.take (j + 1)).map (·.2)) = (Q ++ news Q ((E.take j).map (·.2))) ++ if E[j].2 ∈ Q ++ news Q ((E.take j).map (·.2)) then [] else [E[j].2] := by
              rw [List.take_succ_eq_append_getElem hj, List.map_append, List.map_cons, List.map_nil, news_snoc, List.append_assoc]
            rw [hnx]
          · rintro τ ⟨x4, rfl⟩
            rw [List.take_length] at *
            exact ⟨_, _, x4, rfl, hstep⟩
        have e1 : lb__law_reached_1 [some T, some (.lst (Q.map stV)), some (.dN (seenV Q)), some (.int (k : Nat)), x4] = sFor (iSeq (eFn (ar2 m__law_deeds) (aCons (eVar 0) (aCons (e2 pIx (eVar 1) (eVar 3)) aNil)))) (gNm 4) lb__law_reached_0 [some T, some (.lst (Q.map stV)), some (.dN (seenV Q)), some (.int (k : Nat)), x4] := by
          generalize hQV : Q.map stV = QV at hlen
          unfold lb__law_reached_1
          simp [hlen, c']
        show (lb__law_reached_1 [some T, some (.lst (Q.map stV)), some (.dN (seenV Q)), some (.int (k : Nat)), x4]).sat _
        rw [e1]
        exact hsl.mono (fun _ h => h) (fun _ h => False.elim h) (fun _ h => False.elim h) (fun _ h => False.elim h) (fun _ _ _ h => False.elim h)
    · rintro τ ⟨Q, x3, x4, rfl, B⟩
      rw [List.length_range] at B
      have hQ := few Q B.nd B.rch
      have := B.le
      omega
  obtain ⟨v, hv, Q, rfl, q⟩ := fin_sat (rm := .sh) (main (fun v => ∃ Q, v = .tup ((Q.map stV).mergeSort leP) ∧ Full (nxt h ss.length es) (0, ss) Q ∧ Q.length ≤ 3000) (fun Q a b => ⟨Q, rfl, a, b⟩) _ rfl)
  exact ⟨Q, hv, q⟩
end K24
end
section
set_option Elab.async false
set_option linter.all false
set_option maxRecDepth 100000
set_option maxHeartbeats 1000000
namespace K24
open PySem PySem.Spec L2 Lp
variable {h n : Nat} {ss0 : List (List Nm)} {es : List (Bool × Nm)} {s : Sts}
/-! all deeds in order -/
def allD (n : Nat) : List Deed := (.out :: (List.range n).map .inn) ++ (List.range n).flatMap fun i => (List.range n).map fun j => .shift i j
def wayE (h : Nat) (es : List (Bool × Nm)) (s : Sts) (D : Deed) : Option (Deed × Sts) := (stepD h es s D).map fun s' => (D, s')
theorem allD_valid {D : Deed} (hD : D ∈ allD n) : validD n D := by
  unfold allD at hD
  rcases List.mem_append.mp hD with hD | hD
  · rcases List.mem_cons.mp hD with rfl | hD
    · trivial
    · obtain ⟨j, hj, rfl⟩ := List.mem_map.mp hD
      exact List.mem_range.mp hj
  · obtain ⟨i, hi, hD⟩ := List.mem_flatMap.mp hD
    obtain ⟨j, hj, rfl⟩ := List.mem_map.mp hD
    exact ⟨List.mem_range.mp hi, List.mem_range.mp hj⟩
theorem fm_one {α : Type} (f : Nat → List α) (i : Nat) : ∀ k, (∀ j, j < k → j ≠ i → f j = []) → (List.range k).flatMap f = if i < k then f i else []
  | 0, _ => by simp
  | k + 1, h => by
    rw [fm_succ, fm_one f i k fun j hj => h j (by omega)]
    by_cases e : k = i
    · subst e; simp
    · rw [h k (by omega) e, List.append_nil]
      by_cases c : i < k
      · rw [if_pos c, if_pos (by omega)]
      · rw [if_neg c, if_neg (by omega)]
theorem fm_nil {α β : Type} (l : List β) : (l.flatMap fun _ => ([] : List α)) = [] := by simp
theorem fmap_fm {α β γ : Type} (g : β → Option γ) (f : α → List β) (l : List α) : (l.flatMap f).filterMap g = l.flatMap fun x => (f x).filterMap g := by
  induction l with
  | nil => rfl
  | cons x l ih => rw [List.flatMap_cons, List.filterMap_append, ih, List.flatMap_cons]
theorem fmap_map {α β γ : Type} (g : β → Option γ) (f : α → β) (l : List α) : (l.map f).filterMap g = l.flatMap fun x => (g (f x)).toList := by
  induction l with
  | nil => rfl
  | cons x l ih =>
    rw [List.map_cons, List.filterMap_cons, List.flatMap_cons, ← ih]
    cases g (f x) <;> rfl
theorem sh_way (i j : Nat) : shE h s i j = (wayE h es s (.shift i j)).toList := by
  unfold shE wayE stepD
  dsimp only
  cases shiftP h s.2 i j <;> rfl
theorem open_ways (w : WF h n ss0 es s) (hrun : ∃ h', runE ss0.flatten es = some h') : openL h n es s = (allD n).filterMap (wayE h es s) := by
  unfold openL allD
  rw [List.filterMap_append, fmap_fm]
  congr 1
  · rw [List.filterMap_cons]
    cases he : es[s.1]? with
    | none =>
      have e1 : ∀ j, outE es s j ++ inE h es s j = [] := fun j => by simp [outE, inE, he]
      have e2 : wayE h es s .out = none := by simp [wayE, stepD, he]
      have e3 : ∀ j, wayE h es s (.inn j) = none := fun j => by simp [wayE, stepD, he]
      simp only [e1, e2, e3, fmap_map, Option.toList_none]
    | some ev =>
      obtain ⟨b, x⟩ := ev
      cases b
      · obtain ⟨i, hi, hil, hx⟩ := wf_some w he hrun
        have e3 : ∀ j, wayE h es s (.inn j) = none := fun j => by simp [wayE, stepD, he]
        have e1 : ∀ j, inE h es s j = [] := fun j => by simp [inE, he]
        have e4 : ∀ j, j < n → j ≠ i → outE es s j = [] := fun j hj hne => by
          unfold outE
          rw [he]
          refine if_neg fun hl => hne ?_
          have hj' : j < s.2.length := by rw [w.len]; exact hj
          have h1 := last_mem hl
          rw [row_lt hj'] at h1
          rw [row_lt hil] at hx
          exact nodup_row w.nd hj' hil h1 hx
        have hin : i < n := by rw [← w.len]; exact hil
        have e5 : wayE h es s .out = (outE es s i).head? := by
          simp only [wayE, stepD, he, outE, hi]
          split <;> rfl
        have e6 : (outE es s i).length ≤ 1 := outE_len i
        simp only [e1, List.append_nil]
        rw [fm_one _ i n e4, if_pos hin, e5, fmap_map]
        simp only [e3, Option.toList_none, fm_nil]
        match outE es s i, e6 with
        | [], _ => rfl
        | [a], _ => rfl
      · have e1 : ∀ j, outE es s j = [] := fun j => by simp [outE, he]
        have e2 : wayE h es s .out = none := by simp [wayE, stepD, he]
        have e3 : ∀ j, inE h es s j = (wayE h es s (.inn j)).toList := fun j => by
          simp only [inE, wayE, stepD, he]
          split <;> rfl
        simp only [e1, List.nil_append, e2, e3, fmap_map]
  · simp only [fmap_map, ← sh_way]
theorem rng_it (a : Option PV) (n : Nat) (hn : n ≤ 1000000) : kRng (.rng n) = .ok ((List.range n).map fun i => .int (i : Nat)) := if_pos hn
theorem ways_ok (w : WF h n ss0 es s) (hn : n ≤ 100) (hh : h ≤ 100) (hrun : ∃ h', runE ss0.flatten es = some h') : m_ways_on (dayV h ss0 es) (stV s) = .ok (.lst ((openL h n es s).map entV)) := by
  have hr : kRng (.rng n) = .ok ((List.range n).map fun i => .int (i : Nat)) := if_pos (by omega)
  have hl : pLen [stksV s.2] = some (.int (n : Nat)) := by simp [stksV, w.len]
  have hp : pRng [.int (n : Nat)] = some (.rng n) := by
    show (if _ then _ else _) = _
    rw [if_pos (by omega)]
    rfl
  have l0 : lc_ways_on_0 [some (dayV h ss0 es), some (stV s), some (.rng n), none, none, none, none, none, none] = .ok (.lst (((List.range n).map .inn).map deedV)) := by
    rw [List.map_map]
    exact comp_map (List.range n) (fun i => .int (i : Nat)) _ (by simp [iRng, hr]) fun j _ => by simp [cItem, wipeL, deedV]
  have l1 : lc_ways_on_1 [some (dayV h ss0 es), some (stV s), some (.rng n), none, none, none, none, none, none] = .ok (.lst (((List.range n).flatMap fun i => (List.range n).map fun j => .shift i j).map deedV)) := by
    have e : (List.range n).flatMap (fun i => (List.range n).map fun j => deedV (.shift i j)) = ((List.range n).flatMap fun i => (List.range n).map fun j => .shift i j).map deedV := by
      rw [List.map_flatMap]
      congr 1
      funext i
      rw [List.map_map]
      rfl
    rw [← e]
    refine comp2_map (List.range n) (fun i => .int (i : Nat)) (fun i => (List.range n).map fun j => deedV (.shift i j)) (by simp [iRng, hr]) (fun i _ => ?_) ?_
    · simp [kC2, wipeL, iRng, hr]
      exact (compL_map (fun i : Nat => PV.int (i : Nat)) (fun j => some (deedV (.shift i j))) (List.range n) fun j _ => by simp [cItem, deedV]).trans (by rw [List.filterMap_eq_map'])
    · have := fm_len (fun i => (List.range n).map fun j => deedV (.shift i j)) n (fun i => by simp) n
      have h2 : n * n ≤ 100 * 100 := Nat.mul_le_mul hn hn
      omega
  have c1 : pAddA (.lst [.tup [.str (Str.ofString "out")]]) (.lst (((List.range n).map .inn).map deedV)) = some (.lst ((.out :: (List.range n).map .inn).map deedV)) := by
    have : ([PV.tup [.str (Str.ofString "out")]] : List PV).length + ((((List.range n).map Deed.inn).map deedV)).length ≤ sizeLine := by rw [sizeLine_eq]; simp; omega
    show (if _ then _ else _) = _
    rw [if_pos this]
    rfl
  have c2 : pAddA (.lst ((.out :: (List.range n).map .inn).map deedV)) (.lst (((List.range n).flatMap fun i => (List.range n).map fun j => .shift i j).map deedV)) = some (.lst ((allD n).map deedV)) := by
    have : ((.out :: (List.range n).map Deed.inn).map deedV).length + (((List.range n).flatMap fun i => (List.range n).map fun j => Deed.shift i j).map deedV).length ≤ sizeLine := by
      rw [sizeLine_eq, List.length_map, List.length_map]
      have h1 := fm_len (fun i => (List.range n).map fun j => Deed.shift i j) n (fun i => by simp) n
      have h2 : n * n ≤ 100 * 100 := Nat.mul_le_mul hn hn
      simp only [List.length_cons, List.length_map, List.length_range]
      omega
    show (if _ then _ else _) = _
    rw [if_pos this, ← List.map_append]
    rfl
  generalize ((List.range n).map Deed.inn).map deedV = A at l0 c1
  generalize ((List.range n).flatMap fun i => (List.range n).map fun j => Deed.shift i j).map deedV = B at l1 c2
  have hv := fun D (hD : D ∈ allD n) => allD_valid hD
  rw [open_ways w hrun]
  generalize allD n = L at c2 hv
  generalize (Deed.out :: (List.range n).map Deed.inn).map deedV = A2 at c1 c2
  have l2 : lc_ways_on_2 [some (dayV h ss0 es), some (stV s), some (.rng n), some (.lst (L.map deedV)), none, none, none, none, none] = .ok (.lst (L.map fun D => .tup [deedV D, ostV (stepD h es s D)])) := by
    refine comp_map L deedV _ (by simp) fun D hD => ?_
    have hb := behind_ok w hn hh hrun (deedV D) (pvd_deed D)
    have hd : doneP h n es s (deedV D) = stepD h es s D := by
      unfold doneP
      rw [asDeed_deedV (hv D hD)]
      rfl
    rw [hd] at hb
    simp [cItem, wipeL, hb]
  have l3 : lc_ways_on_3 [some (dayV h ss0 es), some (stV s), some (.rng n), some (.lst (L.map deedV)), some (.lst (L.map fun D => .tup [deedV D, ostV (stepD h es s D)])), none, none, none, none] = .ok (.lst ((L.filterMap (wayE h es s)).map entV)) := by
    rw [List.map_filterMap]
    refine comp_opt L (fun D => .tup [deedV D, ostV (stepD h es s D)]) _ (by simp) fun D hD => ?_
    unfold wayE
    cases hs : stepD h es s D with
    | none => simp [cItem, wipeL, ostV]
    | some s' => simp [cItem, wipeL, ostV, isN_stV, entV]
  have p1 : pIx (stV s) (.int 1) = some (stksV s.2) := by simp [stV]
  simp [m_ways_on, b_ways_on, p1, hl, hp, l0, l1, c1, c2, l2, l3]
end K24
end
section
set_option Elab.async false
set_option linter.all false
set_option maxRecDepth 100000
set_option maxHeartbeats 1000000
namespace K24
open PySem PySem.Spec L2 Lp
variable {h n : Nat} {ss ss0 : List (List Nm)} {es : List (Bool × Nm)} {s : Sts}
theorem pop_st (T : List Sts) (s : Sts) : gPop ((T ++ [s]).map stV) [] = some (T.map stV, stV s) := by
  unfold gPop
  simp
theorem first_ok (h : Nat) (ss : List (List Nm)) (es) : m_first_state (dayV h ss es) = .ok (stV (0, ss)) := by
  simp [m_first_state, b_first_state, stV]
theorem all_in (d x3 : Option PV) (D T : List Sts) (e : Deed × Sts) (hl : D.length ≤ 3000) (ht : T.length ≤ 6000) :
    lb_all_reached_0 [d, some (.dN (seenV D)), some (.lst (T.map stV)), x3, some (stV e.2)] = .nx [d, some (.dN (seenV (D ++ if e.2 ∈ D then [] else [e.2]))), some (.lst ((T ++ if e.2 ∈ D then [] else [e.2]).map stV)), x3, some (stV e.2)] := by
  have hin := pNIn_st D e.2
  have hk := keyN_st e.2
  have hlen : (seenV D).length < 1000000 := by unfold seenV; rw [List.length_map]; omega
  by_cases c : e.2 ∈ D
  · simp [c] at hin
    generalize stV e.2 = S at *
    simp [lb_all_reached_0, hin, c]
  · simp [c] at hin
    have hs := setN_st c
    have ga := gApp_s (ps := T.map stV) (q := stV e.2) (by simp; omega)
    have hm : (T ++ [e.2]).map stV = T.map stV ++ [stV e.2] := by simp
    rw [if_neg c, hm]
    generalize stV e.2 = S at *
    simp [lb_all_reached_0, sPutN, hin, hk, hlen, hs, ga]
theorem all_reached_ok (Z : Small h ss es) : ∃ D, m_all_reached (dayV h ss es) = .ok (.dN (seenV D)) ∧ Full (nxt h ss.length es) (0, ss) D ∧ D.length ≤ 3000 := by
  have w0 := wf_first Z.day
  have few := small_few Z
  have hrun := Z.day.run
  have hway := fun s (hs : Rch (nxt h ss.length es) (0, ss) s) => ways_ok (rch_wf w0 hrun hs) (by have := Z.n3; omega) (by have := Z.h3; omega) hrun
  have hf := first_ok h ss es
  have hk0 := keyN_st (0, ss)
  have hsv : PV.dN [(stV (0, ss), PV.bl true)] = .dN (seenV [(0, ss)]) := rfl
  generalize dayV h ss es = dv at *
  have main : ∀ P : PV → Prop, (∀ D, Full (nxt h ss.length es) (0, ss) D → D.length ≤ 3000 → P (.dN (seenV D))) →
      ∀ B, B = b_all_reached [some dv, none, none, none, none] → B.sat { rt := P } := by
    intro P hP B hB
    rw [hB]
    simp [b_all_reached, eNOne, hf, hk0, hsv]
    obtain ⟨N, hN, hN2⟩ : ∃ N : Nat, N = 10000 ∧ 3002 ≤ N := ⟨10000, rfl, by omega⟩
    rw [← hN]
    clear hN
    refine sat_next (while_sat (fun m τ => ∃ D T x3 x4, τ = [some dv, some (.dN (seenV D)), some (.lst (T.map stV)), x3, x4] ∧ Dfs (nxt h ss.length es) (0, ss) D T ∧ 3000 - D.length + T.length + 1 ≤ m) N _ ⟨[(0, ss)], [(0, ss)], none, none, rfl, Dfs.zero, by simp; omega⟩ ?_)
    rintro m τ ⟨D, T, x3, x4, rfl, B, hm⟩
    have hD := few D B.nd B.rch
    have hT : T.length ≤ D.length := nodup_len' B.tnd B.sub
    rcases List.eq_nil_or_concat T with rfl | ⟨T', s, hTs⟩
    · refine ⟨false, by simp [tru], ?_⟩
      rw [if_neg (by decide)]
      refine ⟨by omega, ?_⟩
      have := hP D B.full hD
      simp
      exact this
    · rw [List.concat_eq_append] at hTs
      subst hTs
      refine ⟨true, ?_, ?_⟩
      · have : tru (.lst ((T' ++ [s]).map stV)) = some true := by simp [tru]
        generalize (T' ++ [s]).map stV = TV at *
        simp [this]
      · rw [if_pos rfl]
        rw [List.length_append, List.length_singleton] at hm hT
        refine ⟨m - 1, by omega, ?_⟩
        have hs : s ∈ D := B.sub s (by simp)
        have hw := hway s (B.rch s hs)
        have hpop := pop_st T' s
        have hstep := B.step
        unfold nxt at hstep
        generalize hE : openL h ss.length es s = E at hw hstep
        have it : iSeqM (eFnM (ar2 m_ways_on) (aConsM (eVar 0) (aOneM (eMut 2 gPop aNil)))) [some dv, some (.dN (seenV D)), some (.lst ((T' ++ [s]).map stV)), x3, x4] = .ok (E.map entV, [some dv, some (.dN (seenV D)), some (.lst (T'.map stV)), x3, x4]) := by
          generalize (T' ++ [s]).map stV = TV at *
          simp [iSeqM, eFnM, aConsM, aOneM, hpop, hw, itemsOf]
        have e1 : lb_all_reached_1 [some dv, some (.dN (seenV D)), some (.lst ((T' ++ [s]).map stV)), x3, x4] = forL (gTp (gsC (gNm 3) (gsC (gNm 4) gsN)) 2) lb_all_reached_0 (E.map entV) [some dv, some (.dN (seenV D)), some (.lst (T'.map stV)), x3, x4] := by
          unfold lb_all_reached_1 sForM
          rw [it]
          rfl
        rw [e1]
        refine forR_sat E entV (fun j τ => ∃ x3 x4, τ = [some dv, some (.dN (seenV (D ++ news D ((E.take j).map (·.2))))), some (.lst ((T' ++ news D ((E.take j).map (·.2))).map stV)), x3, x4]) ⟨x3, x4, by simp [news]⟩ ?_ ?_
        · rintro j hj τ ⟨x3, x4, rfl⟩
          have hj3 : (D ++ news D ((E.take j).map (·.2))).length ≤ 3000 := few _ (nd_app B.nd _) fun t ht => by
            rcases (app_mem _ _ _).mp ht with ht | ht
            · exact B.rch t ht
            · refine hstep.rch t ((app_mem _ _ _).mpr (.inr ?_))
              obtain ⟨e, he, rfl⟩ := List.mem_map.mp ht
              exact List.mem_map_of_mem (List.mem_of_mem_take he)
          have hri := all_in (some dv) (some (deedV E[j].1)) (D ++ news D ((E.take j).map (·.2))) (T' ++ news D ((E.take j).map (·.2))) E[j] hj3 (by
            rw [List.length_append] at hj3 ⊢; omega)
          have hg : gTp (gsC (gNm 3) (gsC (gNm 4) gsN)) 2 (entV E[j]) [some dv, some (.dN (seenV (D ++ news D ((E.take j).map (·.2))))), some (.lst ((T' ++ news D ((E.take j).map (·.2))).map stV)), x3, x4] = .ok [some dv, some (.dN (seenV (D ++ news D ((E.take j).map (·.2))))), some (.lst ((T' ++ news D ((E.take j).map (·.2))).map stV)), some (deedV E[j].1), some (stV E[j].2)] := by
            generalize (T' ++ news D ((E.take j).map (·.2))).map stV = TV
            unfold entV
            simp
          refine step_nx hri hg ⟨some (deedV E[j].1), some (stV E[j].2), ?_⟩
          have hnx : news D ((E.take (j + 1)).map (·.2)) = news D ((E.take j).map (·.2)) ++ if E[j].2 ∈ D ++ news D ((E.take j).map (·.2)) then [] else [E[j].2] := by
            rw [List.take_succ_eq_append_getElem hj, List.map_append, List.map_cons, List.map_nil, news_snoc]
          rw [hnx, ← List.append_assoc, ← List.append_assoc]
        · rintro τ ⟨x3, x4, rfl⟩
          rw [List.take_length] at *
          refine ⟨_, _, x3, x4, rfl, hstep, ?_⟩
          have := few _ hstep.nd hstep.rch
          rw [List.length_append] at this ⊢
          rw [List.length_append]
          omega
  obtain ⟨v, hv, D, rfl, q⟩ := fin_sat (rm := .sh) (main (fun v => ∃ D, v = .dN (seenV D) ∧ Full (nxt h ss.length es) (0, ss) D ∧ D.length ≤ 3000) (fun D a b => ⟨D, rfl, a, b⟩) _ rfl)
  exact ⟨D, hv, q⟩
theorem reached_ok (Z : Small h ss es) {Q : List Sts} (F : Full (nxt h ss.length es) (0, ss) Q) : m_reached (dayV h ss es) = .ok (.tup ((Q.map stV).mergeSort leP)) := by
  obtain ⟨D, hD, FD, hl⟩ := all_reached_ok Z
  have hk := keys_st D
  have hs : pSortD [.lst (D.map stV)] = some (.lst ((D.map stV).mergeSort leP)) := if_pos ⟨okSort_st D, by simp; omega⟩
  rw [sort_st (FD.perm F)] at hs
  generalize (Q.map stV).mergeSort leP = R at *
  generalize D.map stV = DV at *
  simp [m_reached, b_reached, hD, hk, hs]
end K24
end
section
set_option Elab.async false
set_option linter.all false
set_option maxRecDepth 100000
set_option maxHeartbeats 1000000
namespace K24
open PySem PySem.Spec L2 Lp
variable {h n : Nat} {ss ss0 : List (List Nm)} {es : List (Bool × Nm)} {s : Sts}
theorem same_state_ok (s : Sts) : m__law_same_state (stV s) (stV s) = .ok (.bl true) := by
  refine fin_eq ?_
  have h0 : pIsi [stV s, .ty "tuple"] = some (.bl true) := rfl
  have h1 : pIsi [stksV s.2, .ty "tuple"] = some (.bl true) := rfl
  have p0 : pIx (stV s) (.int 0) = some (.int (s.1 : Nat)) := by simp [stV]
  have p1 : pIx (stV s) (.int 1) = some (stksV s.2) := by simp [stV]
  have hl : pLen [stV s] = some (.int 2) := by simp [stV]
  have hi : m__law_is_integer (.int (s.1 : Nat)) = .ok (.bl true) := by
    have a : pIsi [.int (s.1 : Nat), .ty "int"] = some (.bl true) := rfl
    have b : pIsi [.int (s.1 : Nat), .ty "bool"] = some (.bl false) := rfl
    simp [m__law_is_integer, b__law_is_integer, a, b]
  have he : pEq (stV s) (stV s) = some (.bl true) := pEq_yes (k := 3) (by decide) (dat_st' s) (dat_st' s) rfl
  have hit : iSeq (e2 pIx (eVar 0) (eC (.int 1))) [some (stV s), some (stV s), none, none] = .ok (s.2.map stk) := by
    generalize hS : stV s = S at *
    simp [p1, stksV, itemsOf]
  generalize stV s = S at *
  simp [b__law_same_state, h0, hl, p0, hi, p1, h1]
  refine sat_next (for_sat s.2 stk (fun k τ => ∃ x2 x3, τ = [some S, some S, x2, x3]) hit ⟨none, none, rfl⟩ ?_ ?_)
  · rintro k hk τ ⟨x2, x3, rfl⟩
    refine ⟨_, rfl, ?_⟩
    have ht : pIsi [stk s.2[k], .ty "tuple"] = some (.bl true) := rfl
    generalize hr : s.2[k] = r at *
    simp [lb__law_same_state_1, ht]
    refine for_sat r nm (fun j τ => ∃ x3, τ = [some S, some S, some (stk r), x3]) (by simp [stk, itemsOf]) ⟨x3, rfl⟩ ?_ ?_
    · rintro j hj τ ⟨x3, rfl⟩
      refine ⟨_, rfl, ?_⟩
      have hs : pIsi [nm r[j], .ty "str"] = some (.bl true) := rfl
      simp [lb__law_same_state_0, hs]
    · rintro τ ⟨x3, rfl⟩
      exact ⟨_, _, rfl⟩
  · rintro τ ⟨x2, x3, rfl⟩
    simp [he]
theorem same_states_ok (R : List PV) (hR : ∀ p ∈ R, ∃ s, p = stV s) (hl : R.length ≤ 100000) : m__law_same_states (.tup R) (.tup R) = .ok (.bl true) := by
  refine fin_eq ?_
  have h0 : pIsi [.tup R, .ty "tuple"] = some (.bl true) := rfl
  have hn : pLen [.tup R] = some (.int (R.length : Nat)) := by simp
  have hr := pR1_le R.length (by omega)
  have hat : ∀ k (hk : k < R.length), pIx (.tup R) (.int (k : Nat)) = some R[k] := fun k hk => by
    show atI R _ = _
    rw [atN]; simp [hk]
  generalize hT : PV.tup R = T at *
  simp [b__law_same_states, h0, hn]
  refine sat_next (for_sat (List.range R.length) (fun i => .int (i : Nat)) (fun k τ => ∃ x2, τ = [some T, some T, x2]) (by simp [hn, hr]) ⟨none, rfl⟩ ?_ ?_)
  · rintro k hk τ ⟨x2, rfl⟩
    refine ⟨_, rfl, ?_⟩
    simp only [List.length_range] at hk
    simp only [List.getElem_range]
    have ha := hat k hk
    obtain ⟨s, hs⟩ := hR R[k] (List.getElem_mem hk)
    rw [hs] at ha
    have hss := same_state_ok s
    simp [lb__law_same_states_0, ha, hss]
  · rintro τ ⟨x2, rfl⟩
    simp
theorem sorted_st (Q : List Sts) : ∀ p ∈ (Q.map stV).mergeSort leP, ∃ s, p = stV s := fun p hp => by
  obtain ⟨s, _, rfl⟩ := List.mem_map.mp (List.mem_mergeSort.mp hp)
  exact ⟨s, rfl⟩
theorem asked_ok (ns : List Int) : m__law_asked (.scr ns) = .ok (.bl true) := by
  obtain ⟨c0, k0⟩ := vcell_ok ns 0
  have k0' : m__law_cell (.scr ns) (.int 0) = .ok (.int c0) := k0
  obtain ⟨ds, ed, dl, db⟩ := vdraws_ok c0 5 10000 (by decide) (by decide)
  have ed' : m__law_draws (.int c0) (.int 5) (.int 10000) = .ok (.lst (ds.map .int)) := ed
  have hp : pPow (.int 10) (.int 4) = some (.int 10000) := by
    have := pPow_int (i := 10) (j := 4) ⟨by decide, by decide, by decide⟩
    rw [show ((10 : Int) ^ ((4 : Int).toNat)) = 10000 from by decide] at this
    exact this
  obtain ⟨h, ss, es, et, Z⟩ := task_ok ns ds dl fun d hd => (db d hd).1
  have i4 := iat (ds := ds) (i := 4) (by omega)
  have i4' : atI (ds.map PV.int) 4 = some (.int (ds[4]'(by omega))) := i4
  generalize (ds[4]'(by omega)) = d4 at i4'
  obtain ⟨Q1, e1, F1, l1⟩ := law_reached_ok Z
  obtain ⟨Q2, e2, F2, l2⟩ := law_reached_ok Z.less
  have m1 := made_ok Z.day d4
  have m2 := made_ok Z.less.day (d4 / 3)
  have r1 := reached_ok Z F1
  have r2 := reached_ok Z.less F2
  have dv := pDiv_int (i := d4) (j := 3) ⟨by decide, by decide⟩
  have s1 := same_states_ok _ (sorted_st Q1) (by rw [List.length_mergeSort, List.length_map]; omega)
  have s2 := same_states_ok _ (sorted_st Q2) (by rw [List.length_mergeSort, List.length_map]; omega)
  have hq : pEq (.tup ((Q1.map stV).mergeSort leP)) (.tup ((Q1.map stV).mergeSort leP)) = some (.bl true) := pEq_yes (k := 4) (by decide) (fun p hp => by
    obtain ⟨s, rfl⟩ := sorted_st Q1 p hp
    exact dat_st' s) (fun p hp => by
    obtain ⟨s, rfl⟩ := sorted_st Q1 p hp
    exact dat_st' s) rfl
  have hl : pLen [.tup ((Q1.map stV).mergeSort leP)] = some (.int (Q1.length : Nat)) := by simp
  have t0 : pIx (taskV h ss es) (.int 0) = some (.int (h : Nat)) := rfl
  have t1 : pIx (taskV h ss es) (.int 1) = some (stksV ss) := rfl
  have t2 : pIx (taskV h ss es) (.int 2) = some (evsV es) := rfl
  have sl : pSlA (evsV es) none (some (-1)) = some (evsV es.dropLast) := by
    show pSlA (.tup _) _ _ = _
    rw [pSlA_tup, cut_m1, ← List.map_dropLast]; rfl
  have ht : PV.tup [.int (h : Nat), stksV ss, evsV es.dropLast] = taskV h ss es.dropLast := rfl
  generalize taskV h ss es.dropLast = T2 at *
  generalize taskV h ss es = T1 at *
  generalize dayV h ss es.dropLast = D2 at *
  generalize dayV h ss es = D1 at *
  generalize PV.tup ((Q1.map stV).mergeSort leP) = R1 at *
  generalize PV.tup ((Q2.map stV).mergeSort leP) = R2 at *
  have g1 : ∀ a : PV, gp [0] [a] = [a] := fun _ => rfl
  by_cases c : (120 : Int) < (Q1.length : Nat)
  · simp [m__law_asked, b__law_asked, k0', hp, ed', et, e1, i4', m1, r1, s1, hl, c]
  · simp [m__law_asked, b__law_asked, k0', hp, ed', et, e1, i4', m1, r1, s1, hl, c, t0, t1, t2, sl, ht, dv, m2, r2, e2, s2, g1, hq]
theorem law_ok (ns : List Int) : m_law (.scr ns) = .ok (.bl true) := by
  have h := asked_ok ns
  simp [m_law, b_law, h]
end K24
end
section
set_option Elab.async false
set_option linter.all false
set_option maxRecDepth 100000
namespace K24
open PySem PySem.Spec L2 Lp
theorem law_true (ns : List Int) (h : ns.length ≤ 63) : m_law (.scr ns) = .ok (.bl true) := law_ok ns
end K24
end
section
set_option Elab.async false
set_option linter.all false
set_option maxRecDepth 100000
set_option maxHeartbeats 4000000
namespace K24
open PySem PySem.Spec L2 Lp
def spLaw (K : PySem.W.Frag) : Sp := fun vs H Q _ => ∃ (a : Addr) (ns : List Int), vs = [V.ref a] ∧ ns.length ≤ 63 ∧ SqL K H a (ns.map V.int) ∧ ∀ H', Q (.bl true) H'
theorem all_mk {w : World} {K : PySem.W.Frag} {h : Heap} {mg : Str → Option Value} {fa : Addr} (X : K.In h) (Gn : h.Ns mainGlobals mg) (hfa : mg "law" = some (.ref fa))
    {C0 : Addr} {C1 : Addr} {C2 : Addr} {C3 : Addr} {C4 : Addr} {C5 : Addr} {nm1 q1 : Str} {N1 fI1 cc1 cda1 : Addr} {bs1 : List Value} {sn1 : List Str} {sb1 : List Value} {ab1 : Bool} {col1 : Option Bool} {dd1 od1 an1 oe1 og1 : Option Addr} {k01 k11 k21 k31 k51 : Option Value} {oc1 kV1 dc1 pm1 ct1 ou1 ov1 : Value} {sl1 sm1 so1 : Array (Option Value)} {vs1 : Array Value} {fl1 : Str} {tf1 : Tok} {nm0 q0 : Str} {N0 : Addr} {bs0 : List Value} {sn0 : List Str} {sb0 : List Value} {ab0 : Bool} {col0 : Option Bool} {dd0 : Option Addr} {k00 k10 k20 k30 k50 : Option Value} {nm2 q2 : Str} {N2 fI2 cc2 cda2 : Addr} {bs2 : List Value} {sn2 : List Str} {sb2 : List Value} {ab2 : Bool} {col2 : Option Bool} {dd2 od2 an2 oe2 og2 : Option Addr} {k02 k12 k22 k32 k52 : Option Value} {oc2 kV2 dc2 pm2 ct2 ou2 ov2 : Value} {sl2 sm2 so2 : Array (Option Value)} {vs2 : Array Value} {fl2 : Str} {tf2 : Tok} {nm3 q3 : Str} {N3 fI3 cc3 cda3 : Addr} {bs3 : List Value} {sn3 : List Str} {sb3 : List Value} {ab3 : Bool} {col3 : Option Bool} {dd3 od3 an3 oe3 og3 : Option Addr} {k03 k13 k23 k33 k53 : Option Value} {oc3 kV3 dc3 pm3 ct3 ou3 ov3 : Value} {sl3 sm3 so3 : Array (Option Value)} {vs3 : Array Value} {fl3 : Str} {tf3 : Tok} {fI4 : Addr} {od4 an4 : Option Addr} {oc4 kV4 dc4 pm4 cd4 ct4 : Value} {sl4 : Array (Option Value)} {fI5 : Addr} {od5 an5 : Option Addr} {oc5 kV5 dc5 pm5 cd5 ct5 : Value} {sl5 : Array (Option Value)} {f__law_draws : Addr} {od__law_draws an__law_draws : Option Addr} {oc__law_draws kV__law_draws dc__law_draws pm__law_draws cd__law_draws ct__law_draws : Value} {sl__law_draws : Array (Option Value)} {f__law_names : Addr} {od__law_names an__law_names : Option Addr} {oc__law_names kV__law_names dc__law_names pm__law_names cd__law_names ct__law_names : Value} {sl__law_names : Array (Option Value)} {f__law_piles : Addr} {od__law_piles an__law_piles : Option Addr} {oc__law_piles kV__law_piles dc__law_piles pm__law_piles cd__law_piles ct__law_piles : Value} {sl__law_piles : Array (Option Value)} {f__law_cell : Addr} {od__law_cell an__law_cell : Option Addr} {oc__law_cell kV__law_cell dc__law_cell pm__law_cell cd__law_cell ct__law_cell : Value} {sl__law_cell : Array (Option Value)} {f__law_standing : Addr} {od__law_standing an__law_standing : Option Addr} {oc__law_standing kV__law_standing dc__law_standing pm__law_standing cd__law_standing ct__law_standing : Value} {sl__law_standing : Array (Option Value)} {f__law_calls : Addr} {od__law_calls an__law_calls : Option Addr} {oc__law_calls kV__law_calls dc__law_calls pm__law_calls cd__law_calls ct__law_calls : Value} {sl__law_calls : Array (Option Value)} {f__law_task : Addr} {od__law_task an__law_task : Option Addr} {oc__law_task kV__law_task dc__law_task pm__law_task cd__law_task ct__law_task : Value} {sl__law_task : Array (Option Value)} {f__law_with : Addr} {od__law_with an__law_with : Option Addr} {oc__law_with kV__law_with dc__law_with pm__law_with cd__law_with ct__law_with : Value} {sl__law_with : Array (Option Value)} {f__law_deeds : Addr} {od__law_deeds an__law_deeds : Option Addr} {oc__law_deeds kV__law_deeds dc__law_deeds pm__law_deeds cd__law_deeds ct__law_deeds : Value} {sl__law_deeds : Array (Option Value)} {f__law_reached : Addr} {od__law_reached an__law_reached : Option Addr} {oc__law_reached kV__law_reached dc__law_reached pm__law_reached cd__law_reached ct__law_reached : Value} {sl__law_reached : Array (Option Value)} {f_is_sequence : Addr} {od_is_sequence an_is_sequence : Option Addr} {oc_is_sequence kV_is_sequence dc_is_sequence pm_is_sequence cd_is_sequence ct_is_sequence : Value} {sl_is_sequence : Array (Option Value)} {f_boxes_of : Addr} {od_boxes_of an_boxes_of : Option Addr} {oc_boxes_of kV_boxes_of dc_boxes_of pm_boxes_of cd_boxes_of ct_boxes_of : Value} {sl_boxes_of : Array (Option Value)} {f_is_name : Addr} {od_is_name an_is_name : Option Addr} {oc_is_name kV_is_name dc_is_name pm_is_name cd_is_name ct_is_name : Value} {sl_is_name : Array (Option Value)} {f_is_event : Addr} {od_is_event an_is_event : Option Addr} {oc_is_event kV_is_event dc_is_event pm_is_event cd_is_event ct_is_event : Value} {sl_is_event : Array (Option Value)} {f_as_events : Addr} {od_as_events an_as_events : Option Addr} {oc_as_events kV_as_events dc_as_events pm_as_events cd_as_events ct_as_events : Value} {sl_as_events : Array (Option Value)} {f_are_unlike : Addr} {od_are_unlike an_are_unlike : Option Addr} {oc_are_unlike kV_are_unlike dc_are_unlike pm_are_unlike cd_are_unlike ct_are_unlike : Value} {sl_are_unlike : Array (Option Value)} {f_as_stacks : Addr} {od_as_stacks an_as_stacks : Option Addr} {oc_as_stacks kV_as_stacks dc_as_stacks pm_as_stacks cd_as_stacks ct_as_stacks : Value} {sl_as_stacks : Array (Option Value)} {f_is_integer : Addr} {od_is_integer an_is_integer : Option Addr} {oc_is_integer kV_is_integer dc_is_integer pm_is_integer cd_is_integer ct_is_integer : Value} {sl_is_integer : Array (Option Value)} {f_is_number : Addr} {od_is_number an_is_number : Option Addr} {oc_is_number kV_is_number dc_is_number pm_is_number cd_is_number ct_is_number : Value} {sl_is_number : Array (Option Value)} {f__law_made : Addr} {od__law_made an__law_made : Option Addr} {oc__law_made kV__law_made dc__law_made pm__law_made cd__law_made ct__law_made : Value} {sl__law_made : Array (Option Value)} {f__law_is_integer : Addr} {od__law_is_integer an__law_is_integer : Option Addr} {oc__law_is_integer kV__law_is_integer dc__law_is_integer pm__law_is_integer cd__law_is_integer ct__law_is_integer : Value} {sl__law_is_integer : Array (Option Value)} {f__law_same_state : Addr} {od__law_same_state an__law_same_state : Option Addr} {oc__law_same_state kV__law_same_state dc__law_same_state pm__law_same_state cd__law_same_state ct__law_same_state : Value} {sl__law_same_state : Array (Option Value)} {f__law_same_states : Addr} {od__law_same_states an__law_same_states : Option Addr} {oc__law_same_states kV__law_same_states dc__law_same_states pm__law_same_states cd__law_same_states ct__law_same_states : Value} {sl__law_same_states : Array (Option Value)} {f_first_state : Addr} {od_first_state an_first_state : Option Addr} {oc_first_state kV_first_state dc_first_state pm_first_state cd_first_state ct_first_state : Value} {sl_first_state : Array (Option Value)} {f_with_box : Addr} {od_with_box an_with_box : Option Addr} {oc_with_box kV_with_box dc_with_box pm_with_box cd_with_box ct_with_box : Value} {sl_with_box : Array (Option Value)} {f_has_room : Addr} {od_has_room an_has_room : Option Addr} {oc_has_room kV_has_room dc_has_room pm_has_room cd_has_room ct_has_room : Value} {sl_has_room : Array (Option Value)} {f_without_top : Addr} {od_without_top an_without_top : Option Addr} {oc_without_top kV_without_top dc_without_top pm_without_top cd_without_top ct_without_top : Value} {sl_without_top : Array (Option Value)} {f_shifted : Addr} {od_shifted an_shifted : Option Addr} {oc_shifted kV_shifted dc_shifted pm_shifted cd_shifted ct_shifted : Value} {sl_shifted : Array (Option Value)} {f_come : Addr} {od_come an_come : Option Addr} {oc_come kV_come dc_come pm_come cd_come ct_come : Value} {sl_come : Array (Option Value)} {f_stack_with : Addr} {od_stack_with an_stack_with : Option Addr} {oc_stack_with kV_stack_with dc_stack_with pm_stack_with cd_stack_with ct_stack_with : Value} {sl_stack_with : Array (Option Value)} {f_gone : Addr} {od_gone an_gone : Option Addr} {oc_gone kV_gone dc_gone pm_gone cd_gone ct_gone : Value} {sl_gone : Array (Option Value)} {f_is_stack : Addr} {od_is_stack an_is_stack : Option Addr} {oc_is_stack kV_is_stack dc_is_stack pm_is_stack cd_is_stack ct_is_stack : Value} {sl_is_stack : Array (Option Value)} {f_behind : Addr} {od_behind an_behind : Option Addr} {oc_behind kV_behind dc_behind pm_behind cd_behind ct_behind : Value} {sl_behind : Array (Option Value)} {f_ways_on : Addr} {od_ways_on an_ways_on : Option Addr} {oc_ways_on kV_ways_on dc_ways_on pm_ways_on cd_ways_on ct_ways_on : Value} {sl_ways_on : Array (Option Value)} {f_all_reached : Addr} {od_all_reached an_all_reached : Option Addr} {oc_all_reached kV_all_reached dc_all_reached pm_all_reached cd_all_reached ct_all_reached : Value} {sl_all_reached : Array (Option Value)} {f_reached : Addr} {od_reached an_reached : Option Addr} {oc_reached kV_reached dc_reached pm_reached cd_reached ct_reached : Value} {sl_reached : Array (Option Value)} {f__law_asked : Addr} {od__law_asked an__law_asked : Option Addr} {oc__law_asked kV__law_asked dc__law_asked pm__law_asked cd__law_asked ct__law_asked : Value} {sl__law_asked : Array (Option Value)} {f_law : Addr} {od_law an_law : Option Addr} {oc_law kV_law dc_law pm_law cd_law ct_law : Value} {sl_law : Array (Option Value)} {tg_MOST_LETTERS : Tok} {tg_LETTERS : Tok} {tg_OUT : Tok} {tg_IN : Tok} {tg_SHIFT : Tok}
    (aC0 : PySem.W.nsIn K mainGlobals ("YardError" : Str) = some (some (.ref C0)))
    (aC1 : PySem.W.nsIn K mainGlobals ("InvalidYard" : Str) = some (some (.ref C1)))
    (aC2 : PySem.W.nsIn K mainGlobals ("InvalidDay" : Str) = some (some (.ref C2)))
    (aC3 : PySem.W.nsIn K mainGlobals ("InvalidNumber" : Str) = some (some (.ref C3)))
    (aC4 : PySem.W.nsIn K mainGlobals ("Yard" : Str) = some (some (.ref C4)))
    (aC5 : PySem.W.nsIn K mainGlobals ("Day" : Str) = some (some (.ref C5)))
    (xL1 : K.lookup C1 = some (excClassObj nm1 q1 C1 N1 bs1 [.ref C0, .type "ValueError", .type "Exception", .type "BaseException", .type "object"] true sn1 sb1 ab1 col1 dd1 k01 k11 k21 k31 k51 "ValueError.__new__"))
    (sa1 : PySem.W.findIn K (.ref C1) "__setattr__" = some (some (.builtin "object.__setattr__")))
    (eC1 : PySem.W.subIn K (.ref C1) (.type "BaseException") = some true)
    (tC1 : PySem.W.typeIn K (.ref C1) = some (.type "type"))
    (kC1 : PySem.W.keepIn K (.ref C1) = true)
    (iC1 : PySem.W.findIn K (.ref C1) "__init__" = some (some (.ref fI1)))
    (tI1 : PySem.W.typeIn K (.ref fI1) = some (.type "function"))
    (lI1 : K.lookup fI1 = some ⟨oc1, od1, .func (PySem.W.fnX "__init__" ("InvalidYard.__init__" : Str) (defArgs (inClass (topS 11) 0)) (defBody (inClass (topS 11) 0)) (defScope (inClass (topS 11) 0)) [("__class__", cc1)] .none kV1 dc1 pm1 an1 (.ref cda1) ct1), sl1⟩)
    (cI1 : PySem.W.codeIn K (.ref cda1) ("InvalidYard.__init__" : Str) = true)
    (lc1 : K.lookup cc1 = some ⟨ou1, oe1, .cell (some (.ref C1)), sm1⟩)
    (ld1 : K.lookup cda1 = some ⟨ov1, og1, .fields vs1, so1⟩)
    (hv1 : vs1[2]? = some (.str fl1 tf1))
    (hf1 : ((PySem.Challenge.pw_leastshifts_k24_reached.main.file : Str) == fl1) = true)
    (xL0 : K.lookup C0 = some (excClassObj nm0 q0 C0 N0 bs0 [.type "ValueError", .type "Exception", .type "BaseException", .type "object"] true sn0 sb0 ab0 col0 dd0 k00 k10 k20 k30 k50 "ValueError.__new__"))
    (fi0 : PySem.W.findIn K (.ref C0) "__init__" = some (some (.builtin "ValueError.__init__")))
    (iV1 : PySem.W.subIn K (.ref C1) (.type "ValueError") = some true)
    (no1_value : PySem.W.findIn K (.ref C1) ("value" : Str) = some none)
    (xL2 : K.lookup C2 = some (excClassObj nm2 q2 C2 N2 bs2 [.ref C0, .type "ValueError", .type "Exception", .type "BaseException", .type "object"] true sn2 sb2 ab2 col2 dd2 k02 k12 k22 k32 k52 "ValueError.__new__"))
    (sa2 : PySem.W.findIn K (.ref C2) "__setattr__" = some (some (.builtin "object.__setattr__")))
    (eC2 : PySem.W.subIn K (.ref C2) (.type "BaseException") = some true)
    (tC2 : PySem.W.typeIn K (.ref C2) = some (.type "type"))
    (kC2 : PySem.W.keepIn K (.ref C2) = true)
    (iC2 : PySem.W.findIn K (.ref C2) "__init__" = some (some (.ref fI2)))
    (tI2 : PySem.W.typeIn K (.ref fI2) = some (.type "function"))
    (lI2 : K.lookup fI2 = some ⟨oc2, od2, .func (PySem.W.fnX "__init__" ("InvalidDay.__init__" : Str) (defArgs (inClass (topS 12) 0)) (defBody (inClass (topS 12) 0)) (defScope (inClass (topS 12) 0)) [("__class__", cc2)] .none kV2 dc2 pm2 an2 (.ref cda2) ct2), sl2⟩)
    (cI2 : PySem.W.codeIn K (.ref cda2) ("InvalidDay.__init__" : Str) = true)
    (lc2 : K.lookup cc2 = some ⟨ou2, oe2, .cell (some (.ref C2)), sm2⟩)
    (ld2 : K.lookup cda2 = some ⟨ov2, og2, .fields vs2, so2⟩)
    (hv2 : vs2[2]? = some (.str fl2 tf2))
    (hf2 : ((PySem.Challenge.pw_leastshifts_k24_reached.main.file : Str) == fl2) = true)
    (iV2 : PySem.W.subIn K (.ref C2) (.type "ValueError") = some true)
    (no2_value : PySem.W.findIn K (.ref C2) ("value" : Str) = some none)
    (xL3 : K.lookup C3 = some (excClassObj nm3 q3 C3 N3 bs3 [.ref C0, .type "ValueError", .type "Exception", .type "BaseException", .type "object"] true sn3 sb3 ab3 col3 dd3 k03 k13 k23 k33 k53 "ValueError.__new__"))
    (sa3 : PySem.W.findIn K (.ref C3) "__setattr__" = some (some (.builtin "object.__setattr__")))
    (eC3 : PySem.W.subIn K (.ref C3) (.type "BaseException") = some true)
    (tC3 : PySem.W.typeIn K (.ref C3) = some (.type "type"))
    (kC3 : PySem.W.keepIn K (.ref C3) = true)
    (iC3 : PySem.W.findIn K (.ref C3) "__init__" = some (some (.ref fI3)))
    (tI3 : PySem.W.typeIn K (.ref fI3) = some (.type "function"))
    (lI3 : K.lookup fI3 = some ⟨oc3, od3, .func (PySem.W.fnX "__init__" ("InvalidNumber.__init__" : Str) (defArgs (inClass (topS 13) 0)) (defBody (inClass (topS 13) 0)) (defScope (inClass (topS 13) 0)) [("__class__", cc3)] .none kV3 dc3 pm3 an3 (.ref cda3) ct3), sl3⟩)
    (cI3 : PySem.W.codeIn K (.ref cda3) ("InvalidNumber.__init__" : Str) = true)
    (lc3 : K.lookup cc3 = some ⟨ou3, oe3, .cell (some (.ref C3)), sm3⟩)
    (ld3 : K.lookup cda3 = some ⟨ov3, og3, .fields vs3, so3⟩)
    (hv3 : vs3[2]? = some (.str fl3 tf3))
    (hf3 : ((PySem.Challenge.pw_leastshifts_k24_reached.main.file : Str) == fl3) = true)
    (iV3 : PySem.W.subIn K (.ref C3) (.type "ValueError") = some true)
    (no3_value : PySem.W.findIn K (.ref C3) ("value" : Str) = some none)
    (zsuper : PySem.W.nsIn K mainGlobals "super" = some none)
    (zany : PySem.W.nsIn K cStatics "thirdparty.any" = some none)
    (pg4 : PySem.W.plainGet K C4 Str.empty = true)
    (hd4 : PySem.W.hasDictIn K C4 = true)
    (po4 : PySem.W.plainOver K C4 = true)
    (sa4 : PySem.W.findIn K (.ref C4) "__setattr__" = some (some (.builtin "object.__setattr__")))
    (mk4 : PySem.W.makesIn K C4 = true)
    (iC4 : PySem.W.findIn K (.ref C4) "__init__" = some (some (.ref fI4)))
    (fn4 : PySem.W.isFn K (.ref fI4) = true)
    (kC4 : PySem.W.keepIn K (.ref C4) = true)
    (lI4 : K.lookup fI4 = some ⟨oc4, od4, .func (PySem.W.fnOf "__init__" ("Yard.__init__" : Str) (defArgs (inClass (topS 18) 0)) (defBody (inClass (topS 18) 0)) (defScope (inClass (topS 18) 0)) .none kV4 dc4 pm4 an4 cd4 ct4), sl4⟩)
    (cI4 : PySem.W.codeIn K cd4 ("Yard.__init__" : Str) = true)
    (kI4 : PySem.W.keepIn K (.ref fI4) = true)
    (pg5 : PySem.W.plainGet K C5 Str.empty = true)
    (hd5 : PySem.W.hasDictIn K C5 = true)
    (po5 : PySem.W.plainOver K C5 = true)
    (sa5 : PySem.W.findIn K (.ref C5) "__setattr__" = some (some (.builtin "object.__setattr__")))
    (mk5 : PySem.W.makesIn K C5 = true)
    (iC5 : PySem.W.findIn K (.ref C5) "__init__" = some (some (.ref fI5)))
    (fn5 : PySem.W.isFn K (.ref fI5) = true)
    (kC5 : PySem.W.keepIn K (.ref C5) = true)
    (lI5 : K.lookup fI5 = some ⟨oc5, od5, .func (PySem.W.fnOf "__init__" ("Day.__init__" : Str) (defArgs (inClass (topS 26) 0)) (defBody (inClass (topS 26) 0)) (defScope (inClass (topS 26) 0)) .none kV5 dc5 pm5 an5 cd5 ct5), sl5⟩)
    (cI5 : PySem.W.codeIn K cd5 ("Day.__init__" : Str) = true)
    (kI5 : PySem.W.keepIn K (.ref fI5) = true)
    (a__law_draws : PySem.W.nsIn K mainGlobals ("_law_draws" : Str) = some (some (.ref f__law_draws)))
    (l__law_draws : K.lookup f__law_draws = some ⟨oc__law_draws, od__law_draws, .func (PySem.W.fnOf ("_law_draws" : Str) ("_law_draws" : Str) (defArgs (topS 46)) (defBody (topS 46)) (defScope (topS 46)) .none kV__law_draws dc__law_draws pm__law_draws an__law_draws cd__law_draws ct__law_draws), sl__law_draws⟩)
    (c__law_draws : PySem.W.codeIn K cd__law_draws ("_law_draws" : Str) = true)
    (k__law_draws : PySem.W.keepIn K (.ref f__law_draws) = true)
    (a__law_names : PySem.W.nsIn K mainGlobals ("_law_names" : Str) = some (some (.ref f__law_names)))
    (l__law_names : K.lookup f__law_names = some ⟨oc__law_names, od__law_names, .func (PySem.W.fnOf ("_law_names" : Str) ("_law_names" : Str) (defArgs (topS 47)) (defBody (topS 47)) (defScope (topS 47)) .none kV__law_names dc__law_names pm__law_names an__law_names cd__law_names ct__law_names), sl__law_names⟩)
    (c__law_names : PySem.W.codeIn K cd__law_names ("_law_names" : Str) = true)
    (k__law_names : PySem.W.keepIn K (.ref f__law_names) = true)
    (a__law_piles : PySem.W.nsIn K mainGlobals ("_law_piles" : Str) = some (some (.ref f__law_piles)))
    (l__law_piles : K.lookup f__law_piles = some ⟨oc__law_piles, od__law_piles, .func (PySem.W.fnOf ("_law_piles" : Str) ("_law_piles" : Str) (defArgs (topS 49)) (defBody (topS 49)) (defScope (topS 49)) .none kV__law_piles dc__law_piles pm__law_piles an__law_piles cd__law_piles ct__law_piles), sl__law_piles⟩)
    (c__law_piles : PySem.W.codeIn K cd__law_piles ("_law_piles" : Str) = true)
    (k__law_piles : PySem.W.keepIn K (.ref f__law_piles) = true)
    (a__law_cell : PySem.W.nsIn K mainGlobals ("_law_cell" : Str) = some (some (.ref f__law_cell)))
    (l__law_cell : K.lookup f__law_cell = some ⟨oc__law_cell, od__law_cell, .func (PySem.W.fnOf ("_law_cell" : Str) ("_law_cell" : Str) (defArgs (topS 45)) (defBody (topS 45)) (defScope (topS 45)) .none kV__law_cell dc__law_cell pm__law_cell an__law_cell cd__law_cell ct__law_cell), sl__law_cell⟩)
    (c__law_cell : PySem.W.codeIn K cd__law_cell ("_law_cell" : Str) = true)
    (k__law_cell : PySem.W.keepIn K (.ref f__law_cell) = true)
    (a__law_standing : PySem.W.nsIn K mainGlobals ("_law_standing" : Str) = some (some (.ref f__law_standing)))
    (l__law_standing : K.lookup f__law_standing = some ⟨oc__law_standing, od__law_standing, .func (PySem.W.fnOf ("_law_standing" : Str) ("_law_standing" : Str) (defArgs (topS 48)) (defBody (topS 48)) (defScope (topS 48)) .none kV__law_standing dc__law_standing pm__law_standing an__law_standing cd__law_standing ct__law_standing), sl__law_standing⟩)
    (c__law_standing : PySem.W.codeIn K cd__law_standing ("_law_standing" : Str) = true)
    (k__law_standing : PySem.W.keepIn K (.ref f__law_standing) = true)
    (a__law_calls : PySem.W.nsIn K mainGlobals ("_law_calls" : Str) = some (some (.ref f__law_calls)))
    (l__law_calls : K.lookup f__law_calls = some ⟨oc__law_calls, od__law_calls, .func (PySem.W.fnOf ("_law_calls" : Str) ("_law_calls" : Str) (defArgs (topS 50)) (defBody (topS 50)) (defScope (topS 50)) .none kV__law_calls dc__law_calls pm__law_calls an__law_calls cd__law_calls ct__law_calls), sl__law_calls⟩)
    (c__law_calls : PySem.W.codeIn K cd__law_calls ("_law_calls" : Str) = true)
    (k__law_calls : PySem.W.keepIn K (.ref f__law_calls) = true)
    (a__law_task : PySem.W.nsIn K mainGlobals ("_law_task" : Str) = some (some (.ref f__law_task)))
    (l__law_task : K.lookup f__law_task = some ⟨oc__law_task, od__law_task, .func (PySem.W.fnOf ("_law_task" : Str) ("_law_task" : Str) (defArgs (topS 51)) (defBody (topS 51)) (defScope (topS 51)) .none kV__law_task dc__law_task pm__law_task an__law_task cd__law_task ct__law_task), sl__law_task⟩)
    (c__law_task : PySem.W.codeIn K cd__law_task ("_law_task" : Str) = true)
    (k__law_task : PySem.W.keepIn K (.ref f__law_task) = true)
    (a__law_with : PySem.W.nsIn K mainGlobals ("_law_with" : Str) = some (some (.ref f__law_with)))
    (l__law_with : K.lookup f__law_with = some ⟨oc__law_with, od__law_with, .func (PySem.W.fnOf ("_law_with" : Str) ("_law_with" : Str) (defArgs (topS 53)) (defBody (topS 53)) (defScope (topS 53)) .none kV__law_with dc__law_with pm__law_with an__law_with cd__law_with ct__law_with), sl__law_with⟩)
    (c__law_with : PySem.W.codeIn K cd__law_with ("_law_with" : Str) = true)
    (k__law_with : PySem.W.keepIn K (.ref f__law_with) = true)
    (a__law_deeds : PySem.W.nsIn K mainGlobals ("_law_deeds" : Str) = some (some (.ref f__law_deeds)))
    (l__law_deeds : K.lookup f__law_deeds = some ⟨oc__law_deeds, od__law_deeds, .func (PySem.W.fnOf ("_law_deeds" : Str) ("_law_deeds" : Str) (defArgs (topS 54)) (defBody (topS 54)) (defScope (topS 54)) .none kV__law_deeds dc__law_deeds pm__law_deeds an__law_deeds cd__law_deeds ct__law_deeds), sl__law_deeds⟩)
    (c__law_deeds : PySem.W.codeIn K cd__law_deeds ("_law_deeds" : Str) = true)
    (k__law_deeds : PySem.W.keepIn K (.ref f__law_deeds) = true)
    (a__law_reached : PySem.W.nsIn K mainGlobals ("_law_reached" : Str) = some (some (.ref f__law_reached)))
    (l__law_reached : K.lookup f__law_reached = some ⟨oc__law_reached, od__law_reached, .func (PySem.W.fnOf ("_law_reached" : Str) ("_law_reached" : Str) (defArgs (topS 55)) (defBody (topS 55)) (defScope (topS 55)) .none kV__law_reached dc__law_reached pm__law_reached an__law_reached cd__law_reached ct__law_reached), sl__law_reached⟩)
    (c__law_reached : PySem.W.codeIn K cd__law_reached ("_law_reached" : Str) = true)
    (k__law_reached : PySem.W.keepIn K (.ref f__law_reached) = true)
    (a_is_sequence : PySem.W.nsIn K mainGlobals ("is_sequence" : Str) = some (some (.ref f_is_sequence)))
    (l_is_sequence : K.lookup f_is_sequence = some ⟨oc_is_sequence, od_is_sequence, .func (PySem.W.fnOf ("is_sequence" : Str) ("is_sequence" : Str) (defArgs (topS 6)) (defBody (topS 6)) (defScope (topS 6)) .none kV_is_sequence dc_is_sequence pm_is_sequence an_is_sequence cd_is_sequence ct_is_sequence), sl_is_sequence⟩)
    (c_is_sequence : PySem.W.codeIn K cd_is_sequence ("is_sequence" : Str) = true)
    (k_is_sequence : PySem.W.keepIn K (.ref f_is_sequence) = true)
    (a_boxes_of : PySem.W.nsIn K mainGlobals ("boxes_of" : Str) = some (some (.ref f_boxes_of)))
    (l_boxes_of : K.lookup f_boxes_of = some ⟨oc_boxes_of, od_boxes_of, .func (PySem.W.fnOf ("boxes_of" : Str) ("boxes_of" : Str) (defArgs (topS 20)) (defBody (topS 20)) (defScope (topS 20)) .none kV_boxes_of dc_boxes_of pm_boxes_of an_boxes_of cd_boxes_of ct_boxes_of), sl_boxes_of⟩)
    (c_boxes_of : PySem.W.codeIn K cd_boxes_of ("boxes_of" : Str) = true)
    (k_boxes_of : PySem.W.keepIn K (.ref f_boxes_of) = true)
    (a_is_name : PySem.W.nsIn K mainGlobals ("is_name" : Str) = some (some (.ref f_is_name)))
    (l_is_name : K.lookup f_is_name = some ⟨oc_is_name, od_is_name, .func (PySem.W.fnOf ("is_name" : Str) ("is_name" : Str) (defArgs (topS 7)) (defBody (topS 7)) (defScope (topS 7)) .none kV_is_name dc_is_name pm_is_name an_is_name cd_is_name ct_is_name), sl_is_name⟩)
    (c_is_name : PySem.W.codeIn K cd_is_name ("is_name" : Str) = true)
    (k_is_name : PySem.W.keepIn K (.ref f_is_name) = true)
    (a_is_event : PySem.W.nsIn K mainGlobals ("is_event" : Str) = some (some (.ref f_is_event)))
    (l_is_event : K.lookup f_is_event = some ⟨oc_is_event, od_is_event, .func (PySem.W.fnOf ("is_event" : Str) ("is_event" : Str) (defArgs (topS 24)) (defBody (topS 24)) (defScope (topS 24)) .none kV_is_event dc_is_event pm_is_event an_is_event cd_is_event ct_is_event), sl_is_event⟩)
    (c_is_event : PySem.W.codeIn K cd_is_event ("is_event" : Str) = true)
    (k_is_event : PySem.W.keepIn K (.ref f_is_event) = true)
    (a_as_events : PySem.W.nsIn K mainGlobals ("as_events" : Str) = some (some (.ref f_as_events)))
    (l_as_events : K.lookup f_as_events = some ⟨oc_as_events, od_as_events, .func (PySem.W.fnOf ("as_events" : Str) ("as_events" : Str) (defArgs (topS 25)) (defBody (topS 25)) (defScope (topS 25)) .none kV_as_events dc_as_events pm_as_events an_as_events cd_as_events ct_as_events), sl_as_events⟩)
    (c_as_events : PySem.W.codeIn K cd_as_events ("as_events" : Str) = true)
    (k_as_events : PySem.W.keepIn K (.ref f_as_events) = true)
    (a_are_unlike : PySem.W.nsIn K mainGlobals ("are_unlike" : Str) = some (some (.ref f_are_unlike)))
    (l_are_unlike : K.lookup f_are_unlike = some ⟨oc_are_unlike, od_are_unlike, .func (PySem.W.fnOf ("are_unlike" : Str) ("are_unlike" : Str) (defArgs (topS 8)) (defBody (topS 8)) (defScope (topS 8)) .none kV_are_unlike dc_are_unlike pm_are_unlike an_are_unlike cd_are_unlike ct_are_unlike), sl_are_unlike⟩)
    (c_are_unlike : PySem.W.codeIn K cd_are_unlike ("are_unlike" : Str) = true)
    (k_are_unlike : PySem.W.keepIn K (.ref f_are_unlike) = true)
    (a_as_stacks : PySem.W.nsIn K mainGlobals ("as_stacks" : Str) = some (some (.ref f_as_stacks)))
    (l_as_stacks : K.lookup f_as_stacks = some ⟨oc_as_stacks, od_as_stacks, .func (PySem.W.fnOf ("as_stacks" : Str) ("as_stacks" : Str) (defArgs (topS 17)) (defBody (topS 17)) (defScope (topS 17)) .none kV_as_stacks dc_as_stacks pm_as_stacks an_as_stacks cd_as_stacks ct_as_stacks), sl_as_stacks⟩)
    (c_as_stacks : PySem.W.codeIn K cd_as_stacks ("as_stacks" : Str) = true)
    (k_as_stacks : PySem.W.keepIn K (.ref f_as_stacks) = true)
    (a_is_integer : PySem.W.nsIn K mainGlobals ("is_integer" : Str) = some (some (.ref f_is_integer)))
    (l_is_integer : K.lookup f_is_integer = some ⟨oc_is_integer, od_is_integer, .func (PySem.W.fnOf ("is_integer" : Str) ("is_integer" : Str) (defArgs (topS 4)) (defBody (topS 4)) (defScope (topS 4)) .none kV_is_integer dc_is_integer pm_is_integer an_is_integer cd_is_integer ct_is_integer), sl_is_integer⟩)
    (c_is_integer : PySem.W.codeIn K cd_is_integer ("is_integer" : Str) = true)
    (k_is_integer : PySem.W.keepIn K (.ref f_is_integer) = true)
    (a_is_number : PySem.W.nsIn K mainGlobals ("is_number" : Str) = some (some (.ref f_is_number)))
    (l_is_number : K.lookup f_is_number = some ⟨oc_is_number, od_is_number, .func (PySem.W.fnOf ("is_number" : Str) ("is_number" : Str) (defArgs (topS 5)) (defBody (topS 5)) (defScope (topS 5)) .none kV_is_number dc_is_number pm_is_number an_is_number cd_is_number ct_is_number), sl_is_number⟩)
    (c_is_number : PySem.W.codeIn K cd_is_number ("is_number" : Str) = true)
    (k_is_number : PySem.W.keepIn K (.ref f_is_number) = true)
    (a__law_made : PySem.W.nsIn K mainGlobals ("_law_made" : Str) = some (some (.ref f__law_made)))
    (l__law_made : K.lookup f__law_made = some ⟨oc__law_made, od__law_made, .func (PySem.W.fnOf ("_law_made" : Str) ("_law_made" : Str) (defArgs (topS 56)) (defBody (topS 56)) (defScope (topS 56)) .none kV__law_made dc__law_made pm__law_made an__law_made cd__law_made ct__law_made), sl__law_made⟩)
    (c__law_made : PySem.W.codeIn K cd__law_made ("_law_made" : Str) = true)
    (k__law_made : PySem.W.keepIn K (.ref f__law_made) = true)
    (a__law_is_integer : PySem.W.nsIn K mainGlobals ("_law_is_integer" : Str) = some (some (.ref f__law_is_integer)))
    (l__law_is_integer : K.lookup f__law_is_integer = some ⟨oc__law_is_integer, od__law_is_integer, .func (PySem.W.fnOf ("_law_is_integer" : Str) ("_law_is_integer" : Str) (defArgs (topS 52)) (defBody (topS 52)) (defScope (topS 52)) .none kV__law_is_integer dc__law_is_integer pm__law_is_integer an__law_is_integer cd__law_is_integer ct__law_is_integer), sl__law_is_integer⟩)
    (c__law_is_integer : PySem.W.codeIn K cd__law_is_integer ("_law_is_integer" : Str) = true)
    (k__law_is_integer : PySem.W.keepIn K (.ref f__law_is_integer) = true)
    (a__law_same_state : PySem.W.nsIn K mainGlobals ("_law_same_state" : Str) = some (some (.ref f__law_same_state)))
    (l__law_same_state : K.lookup f__law_same_state = some ⟨oc__law_same_state, od__law_same_state, .func (PySem.W.fnOf ("_law_same_state" : Str) ("_law_same_state" : Str) (defArgs (topS 57)) (defBody (topS 57)) (defScope (topS 57)) .none kV__law_same_state dc__law_same_state pm__law_same_state an__law_same_state cd__law_same_state ct__law_same_state), sl__law_same_state⟩)
    (c__law_same_state : PySem.W.codeIn K cd__law_same_state ("_law_same_state" : Str) = true)
    (k__law_same_state : PySem.W.keepIn K (.ref f__law_same_state) = true)
    (a__law_same_states : PySem.W.nsIn K mainGlobals ("_law_same_states" : Str) = some (some (.ref f__law_same_states)))
    (l__law_same_states : K.lookup f__law_same_states = some ⟨oc__law_same_states, od__law_same_states, .func (PySem.W.fnOf ("_law_same_states" : Str) ("_law_same_states" : Str) (defArgs (topS 58)) (defBody (topS 58)) (defScope (topS 58)) .none kV__law_same_states dc__law_same_states pm__law_same_states an__law_same_states cd__law_same_states ct__law_same_states), sl__law_same_states⟩)
    (c__law_same_states : PySem.W.codeIn K cd__law_same_states ("_law_same_states" : Str) = true)
    (k__law_same_states : PySem.W.keepIn K (.ref f__law_same_states) = true)
    (a_first_state : PySem.W.nsIn K mainGlobals ("first_state" : Str) = some (some (.ref f_first_state)))
    (l_first_state : K.lookup f_first_state = some ⟨oc_first_state, od_first_state, .func (PySem.W.fnOf ("first_state" : Str) ("first_state" : Str) (defArgs (topS 29)) (defBody (topS 29)) (defScope (topS 29)) .none kV_first_state dc_first_state pm_first_state an_first_state cd_first_state ct_first_state), sl_first_state⟩)
    (c_first_state : PySem.W.codeIn K cd_first_state ("first_state" : Str) = true)
    (k_first_state : PySem.W.keepIn K (.ref f_first_state) = true)
    (a_with_box : PySem.W.nsIn K mainGlobals ("with_box" : Str) = some (some (.ref f_with_box)))
    (l_with_box : K.lookup f_with_box = some ⟨oc_with_box, od_with_box, .func (PySem.W.fnOf ("with_box" : Str) ("with_box" : Str) (defArgs (topS 32)) (defBody (topS 32)) (defScope (topS 32)) .none kV_with_box dc_with_box pm_with_box an_with_box cd_with_box ct_with_box), sl_with_box⟩)
    (c_with_box : PySem.W.codeIn K cd_with_box ("with_box" : Str) = true)
    (k_with_box : PySem.W.keepIn K (.ref f_with_box) = true)
    (a_has_room : PySem.W.nsIn K mainGlobals ("has_room" : Str) = some (some (.ref f_has_room)))
    (l_has_room : K.lookup f_has_room = some ⟨oc_has_room, od_has_room, .func (PySem.W.fnOf ("has_room" : Str) ("has_room" : Str) (defArgs (topS 31)) (defBody (topS 31)) (defScope (topS 31)) .none kV_has_room dc_has_room pm_has_room an_has_room cd_has_room ct_has_room), sl_has_room⟩)
    (c_has_room : PySem.W.codeIn K cd_has_room ("has_room" : Str) = true)
    (k_has_room : PySem.W.keepIn K (.ref f_has_room) = true)
    (a_without_top : PySem.W.nsIn K mainGlobals ("without_top" : Str) = some (some (.ref f_without_top)))
    (l_without_top : K.lookup f_without_top = some ⟨oc_without_top, od_without_top, .func (PySem.W.fnOf ("without_top" : Str) ("without_top" : Str) (defArgs (topS 33)) (defBody (topS 33)) (defScope (topS 33)) .none kV_without_top dc_without_top pm_without_top an_without_top cd_without_top ct_without_top), sl_without_top⟩)
    (c_without_top : PySem.W.codeIn K cd_without_top ("without_top" : Str) = true)
    (k_without_top : PySem.W.keepIn K (.ref f_without_top) = true)
    (a_shifted : PySem.W.nsIn K mainGlobals ("shifted" : Str) = some (some (.ref f_shifted)))
    (l_shifted : K.lookup f_shifted = some ⟨oc_shifted, od_shifted, .func (PySem.W.fnOf ("shifted" : Str) ("shifted" : Str) (defArgs (topS 35)) (defBody (topS 35)) (defScope (topS 35)) .none kV_shifted dc_shifted pm_shifted an_shifted cd_shifted ct_shifted), sl_shifted⟩)
    (c_shifted : PySem.W.codeIn K cd_shifted ("shifted" : Str) = true)
    (k_shifted : PySem.W.keepIn K (.ref f_shifted) = true)
    (a_come : PySem.W.nsIn K mainGlobals ("come" : Str) = some (some (.ref f_come)))
    (l_come : K.lookup f_come = some ⟨oc_come, od_come, .func (PySem.W.fnOf ("come" : Str) ("come" : Str) (defArgs (topS 36)) (defBody (topS 36)) (defScope (topS 36)) .none kV_come dc_come pm_come an_come cd_come ct_come), sl_come⟩)
    (c_come : PySem.W.codeIn K cd_come ("come" : Str) = true)
    (k_come : PySem.W.keepIn K (.ref f_come) = true)
    (a_stack_with : PySem.W.nsIn K mainGlobals ("stack_with" : Str) = some (some (.ref f_stack_with)))
    (l_stack_with : K.lookup f_stack_with = some ⟨oc_stack_with, od_stack_with, .func (PySem.W.fnOf ("stack_with" : Str) ("stack_with" : Str) (defArgs (topS 34)) (defBody (topS 34)) (defScope (topS 34)) .none kV_stack_with dc_stack_with pm_stack_with an_stack_with cd_stack_with ct_stack_with), sl_stack_with⟩)
    (c_stack_with : PySem.W.codeIn K cd_stack_with ("stack_with" : Str) = true)
    (k_stack_with : PySem.W.keepIn K (.ref f_stack_with) = true)
    (a_gone : PySem.W.nsIn K mainGlobals ("gone" : Str) = some (some (.ref f_gone)))
    (l_gone : K.lookup f_gone = some ⟨oc_gone, od_gone, .func (PySem.W.fnOf ("gone" : Str) ("gone" : Str) (defArgs (topS 37)) (defBody (topS 37)) (defScope (topS 37)) .none kV_gone dc_gone pm_gone an_gone cd_gone ct_gone), sl_gone⟩)
    (c_gone : PySem.W.codeIn K cd_gone ("gone" : Str) = true)
    (k_gone : PySem.W.keepIn K (.ref f_gone) = true)
    (a_is_stack : PySem.W.nsIn K mainGlobals ("is_stack" : Str) = some (some (.ref f_is_stack)))
    (l_is_stack : K.lookup f_is_stack = some ⟨oc_is_stack, od_is_stack, .func (PySem.W.fnOf ("is_stack" : Str) ("is_stack" : Str) (defArgs (topS 30)) (defBody (topS 30)) (defScope (topS 30)) .none kV_is_stack dc_is_stack pm_is_stack an_is_stack cd_is_stack ct_is_stack), sl_is_stack⟩)
    (c_is_stack : PySem.W.codeIn K cd_is_stack ("is_stack" : Str) = true)
    (k_is_stack : PySem.W.keepIn K (.ref f_is_stack) = true)
    (a_behind : PySem.W.nsIn K mainGlobals ("behind" : Str) = some (some (.ref f_behind)))
    (l_behind : K.lookup f_behind = some ⟨oc_behind, od_behind, .func (PySem.W.fnOf ("behind" : Str) ("behind" : Str) (defArgs (topS 38)) (defBody (topS 38)) (defScope (topS 38)) .none kV_behind dc_behind pm_behind an_behind cd_behind ct_behind), sl_behind⟩)
    (c_behind : PySem.W.codeIn K cd_behind ("behind" : Str) = true)
    (k_behind : PySem.W.keepIn K (.ref f_behind) = true)
    (a_ways_on : PySem.W.nsIn K mainGlobals ("ways_on" : Str) = some (some (.ref f_ways_on)))
    (l_ways_on : K.lookup f_ways_on = some ⟨oc_ways_on, od_ways_on, .func (PySem.W.fnOf ("ways_on" : Str) ("ways_on" : Str) (defArgs (topS 39)) (defBody (topS 39)) (defScope (topS 39)) .none kV_ways_on dc_ways_on pm_ways_on an_ways_on cd_ways_on ct_ways_on), sl_ways_on⟩)
    (c_ways_on : PySem.W.codeIn K cd_ways_on ("ways_on" : Str) = true)
    (k_ways_on : PySem.W.keepIn K (.ref f_ways_on) = true)
    (a_all_reached : PySem.W.nsIn K mainGlobals ("all_reached" : Str) = some (some (.ref f_all_reached)))
    (l_all_reached : K.lookup f_all_reached = some ⟨oc_all_reached, od_all_reached, .func (PySem.W.fnOf ("all_reached" : Str) ("all_reached" : Str) (defArgs (topS 41)) (defBody (topS 41)) (defScope (topS 41)) .none kV_all_reached dc_all_reached pm_all_reached an_all_reached cd_all_reached ct_all_reached), sl_all_reached⟩)
    (c_all_reached : PySem.W.codeIn K cd_all_reached ("all_reached" : Str) = true)
    (k_all_reached : PySem.W.keepIn K (.ref f_all_reached) = true)
    (a_reached : PySem.W.nsIn K mainGlobals ("reached" : Str) = some (some (.ref f_reached)))
    (l_reached : K.lookup f_reached = some ⟨oc_reached, od_reached, .func (PySem.W.fnOf ("reached" : Str) ("reached" : Str) (defArgs (topS 43)) (defBody (topS 43)) (defScope (topS 43)) .none kV_reached dc_reached pm_reached an_reached cd_reached ct_reached), sl_reached⟩)
    (c_reached : PySem.W.codeIn K cd_reached ("reached" : Str) = true)
    (k_reached : PySem.W.keepIn K (.ref f_reached) = true)
    (a__law_asked : PySem.W.nsIn K mainGlobals ("_law_asked" : Str) = some (some (.ref f__law_asked)))
    (l__law_asked : K.lookup f__law_asked = some ⟨oc__law_asked, od__law_asked, .func (PySem.W.fnOf ("_law_asked" : Str) ("_law_asked" : Str) (defArgs (topS 59)) (defBody (topS 59)) (defScope (topS 59)) .none kV__law_asked dc__law_asked pm__law_asked an__law_asked cd__law_asked ct__law_asked), sl__law_asked⟩)
    (c__law_asked : PySem.W.codeIn K cd__law_asked ("_law_asked" : Str) = true)
    (k__law_asked : PySem.W.keepIn K (.ref f__law_asked) = true)
    (a_law : PySem.W.nsIn K mainGlobals ("law" : Str) = some (some (.ref f_law)))
    (l_law : K.lookup f_law = some ⟨oc_law, od_law, .func (PySem.W.fnOf ("law" : Str) ("law" : Str) (defArgs (topS 60)) (defBody (topS 60)) (defScope (topS 60)) .none kV_law dc_law pm_law an_law cd_law ct_law), sl_law⟩)
    (c_law : PySem.W.codeIn K cd_law ("law" : Str) = true)
    (k_law : PySem.W.keepIn K (.ref f_law) = true)
    (zn_range : PySem.W.nsIn K mainGlobals ("range" : Str) = some none)
    (zn_int : PySem.W.nsIn K mainGlobals ("int" : Str) = some none)
    (zn_len : PySem.W.nsIn K mainGlobals ("len" : Str) = some none)
    (zn_tuple : PySem.W.nsIn K mainGlobals ("tuple" : Str) = some none)
    (zn_abs : PySem.W.nsIn K mainGlobals ("abs" : Str) = some none)
    (zn_list : PySem.W.nsIn K mainGlobals ("list" : Str) = some none)
    (zn_sorted : PySem.W.nsIn K mainGlobals ("sorted" : Str) = some none)
    (zn_isinstance : PySem.W.nsIn K mainGlobals ("isinstance" : Str) = some none)
    (no4_stacks : PySem.W.findIn K (.ref C4) ("stacks" : Str) = some none)
    (zn_str : PySem.W.nsIn K mainGlobals ("str" : Str) = some none)
    (zg_MOST_LETTERS : PySem.W.nsIn K mainGlobals ("MOST_LETTERS" : Str) = some (some (.int 8 tg_MOST_LETTERS)))
    (zg_LETTERS : PySem.W.nsIn K mainGlobals ("LETTERS" : Str) = some (some (.str ("abcdefghijklmnopqrstuvwxyz" : Str) tg_LETTERS)))
    (zn_all : PySem.W.nsIn K mainGlobals ("all" : Str) = some none)
    (zg_OUT : PySem.W.nsIn K mainGlobals ("OUT" : Str) = some (some (.str ("out" : Str) tg_OUT)))
    (zg_IN : PySem.W.nsIn K mainGlobals ("IN" : Str) = some (some (.str ("in" : Str) tg_IN)))
    (no5_yard : PySem.W.findIn K (.ref C5) ("yard" : Str) = some none)
    (no5_events : PySem.W.findIn K (.ref C5) ("events" : Str) = some none)
    (zn_bool : PySem.W.nsIn K mainGlobals ("bool" : Str) = some none)
    (no4_height : PySem.W.findIn K (.ref C4) ("height" : Str) = some none)
    (zn_enumerate : PySem.W.nsIn K mainGlobals ("enumerate" : Str) = some none)
    (zg_SHIFT : PySem.W.nsIn K mainGlobals ("SHIFT" : Str) = some (some (.str ("shift" : Str) tg_SHIFT)))
    (sub1_0 : PySem.W.subIn K (.ref C1) (.ref C0) = some true)
    (eC0 : PySem.W.subIn K (.ref C0) (.type "BaseException") = some true)
    (tC0 : PySem.W.typeIn K (.ref C0) = some (.type "type"))
    (xhD0 : PySem.W.hasDictIn K C0 = true)
    (sub2_0 : PySem.W.subIn K (.ref C2) (.ref C0) = some true)
    (sub3_0 : PySem.W.subIn K (.ref C3) (.ref C0) = some true)
    : ∃ fd : FuncData, (∀ (s : Shared) (u : Value), BindsTo s fd ⟨[u], []⟩ [("_law_script", u)]) ∧ ∀ base : Heap, K.In base → base.Ns mainGlobals mg → FnOk PySem.Challenge.pw_leastshifts_k24_reached w K mg base (L2.CX PySem.Challenge.pw_leastshifts_k24_reached w) 10 fa fd ["_law_script"] (spLaw K) := by
  let G : GW := ⟨fun n => match n with | 0 => C0 | 1 => C1 | 2 => C2 | 3 => C3 | 4 => C4 | 5 => C5 | _ => 0, PySem.Challenge.pw_leastshifts_k24_reached, w⟩
  have Z : Zs G K mg PySem.Challenge.pw_leastshifts_k24_reached w := ⟨⟨rfl, rfl⟩,
    PySem.W.mg_none_of X Gn zn_range,
    PySem.W.mg_none_of X Gn zn_int,
    PySem.W.mg_none_of X Gn zn_len,
    PySem.W.mg_none_of X Gn zn_tuple,
    PySem.W.mg_none_of X Gn zn_abs,
    PySem.W.mg_none_of X Gn zn_list,
    PySem.W.mg_none_of X Gn zn_sorted,
    PySem.W.mg_none_of X Gn zn_isinstance,
    ⟨⟨pg4, hd4, po4, sa4⟩, no4_stacks⟩,
    PySem.W.mg_none_of X Gn zn_str,
    ⟨tg_MOST_LETTERS, PySem.W.mg_of X Gn zg_MOST_LETTERS⟩,
    ⟨tg_LETTERS, PySem.W.mg_of X Gn zg_LETTERS⟩,
    PySem.W.mg_none_of X Gn zn_all,
    ⟨tg_OUT, PySem.W.mg_of X Gn zg_OUT⟩,
    ⟨tg_IN, PySem.W.mg_of X Gn zg_IN⟩,
    ⟨⟨pg5, hd5, po5, sa5⟩, no5_yard⟩,
    ⟨⟨pg5, hd5, po5, sa5⟩, no5_events⟩,
    PySem.W.mg_none_of X Gn zn_bool,
    ⟨⟨pg4, hd4, po4, sa4⟩, no4_height⟩,
    PySem.W.mg_none_of X Gn zn_enumerate,
    ⟨tg_SHIFT, PySem.W.mg_of X Gn zg_SHIFT⟩,
    PySem.W.mg_of X Gn aC0,
    PySem.W.exm_ref eC0 xhD0 tC0 sub1_0,
    PySem.W.exm_ref eC0 xhD0 tC0 sub2_0,
    PySem.W.exm_ref eC0 xhD0 tC0 sub3_0⟩
  have e := hfa.symm.trans (PySem.W.mg_of X Gn a_law)
  cases e
  refine ⟨PySem.W.fnOf "law" "law" (defArgs (topS 60)) (defBody (topS 60)) (defScope (topS 60)) .none kV_law dc_law pm_law an_law cd_law ct_law, fun s u => .of_eq rfl, fun base Xb Gb => ?_⟩
  have T1 : OexC K C1 := ⟨⟨_, _, _, _, _, _, _, _, _, _, _, _, _, _, _, xL1, by rfl⟩, sa1, eC1, tC1, kC1⟩
  have X_InvalidYard : ExcC PySem.Challenge.pw_leastshifts_k24_reached w K mg base 1 ("InvalidYard" : Str) (G 1) (spX1 (G 1) ("value" : Str)) := by
    refine ⟨T1, ⟨fI1, _, _, iC1, tI1, Lx.fn_exc (N := [("self" : Str), ("value" : Str), ("__class__" : Str)]) (ps := [("self" : Str), ("value" : Str)]) T1 lI1 cI1 lc1 ld1 hv1 hf1 (by decide +kernel) (NdefX.nscope_by (by decide +kernel)) rfl rfl (by decide +kernel) (PySem.W.mg_none_of X Gn zsuper) zany (sup_of xL1 xL0 fi0) iV1 rfl (fun _ => rfl) (fun _ => rfl)
      (fun vs H Q E h => ?_) (fun A outer s H E => rest1 rfl rfl (by decide) (by decide) T1 no1_value), .all fun us hl => match us, hl with | [_, _], _ => rfl⟩, PySem.W.mg_of X Gn aC1⟩
    obtain ⟨a, y0, rfl, h, _⟩ := h
    exact ⟨rfl, a, _, rfl, h⟩
  have T2 : OexC K C2 := ⟨⟨_, _, _, _, _, _, _, _, _, _, _, _, _, _, _, xL2, by rfl⟩, sa2, eC2, tC2, kC2⟩
  have X_InvalidDay : ExcC PySem.Challenge.pw_leastshifts_k24_reached w K mg base 1 ("InvalidDay" : Str) (G 2) (spX1 (G 2) ("value" : Str)) := by
    refine ⟨T2, ⟨fI2, _, _, iC2, tI2, Lx.fn_exc (N := [("self" : Str), ("value" : Str), ("__class__" : Str)]) (ps := [("self" : Str), ("value" : Str)]) T2 lI2 cI2 lc2 ld2 hv2 hf2 (by decide +kernel) (NdefX.nscope_by (by decide +kernel)) rfl rfl (by decide +kernel) (PySem.W.mg_none_of X Gn zsuper) zany (sup_of xL2 xL0 fi0) iV2 rfl (fun _ => rfl) (fun _ => rfl)
      (fun vs H Q E h => ?_) (fun A outer s H E => rest1 rfl rfl (by decide) (by decide) T2 no2_value), .all fun us hl => match us, hl with | [_, _], _ => rfl⟩, PySem.W.mg_of X Gn aC2⟩
    obtain ⟨a, y0, rfl, h, _⟩ := h
    exact ⟨rfl, a, _, rfl, h⟩
  have T3 : OexC K C3 := ⟨⟨_, _, _, _, _, _, _, _, _, _, _, _, _, _, _, xL3, by rfl⟩, sa3, eC3, tC3, kC3⟩
  have X_InvalidNumber : ExcC PySem.Challenge.pw_leastshifts_k24_reached w K mg base 1 ("InvalidNumber" : Str) (G 3) (spX1 (G 3) ("value" : Str)) := by
    refine ⟨T3, ⟨fI3, _, _, iC3, tI3, Lx.fn_exc (N := [("self" : Str), ("value" : Str), ("__class__" : Str)]) (ps := [("self" : Str), ("value" : Str)]) T3 lI3 cI3 lc3 ld3 hv3 hf3 (by decide +kernel) (NdefX.nscope_by (by decide +kernel)) rfl rfl (by decide +kernel) (PySem.W.mg_none_of X Gn zsuper) zany (sup_of xL3 xL0 fi0) iV3 rfl (fun _ => rfl) (fun _ => rfl)
      (fun vs H Q E h => ?_) (fun A outer s H E => rest1 rfl rfl (by decide) (by decide) T3 no3_value), .all fun us hl => match us, hl with | [_, _], _ => rfl⟩, PySem.W.mg_of X Gn aC3⟩
    obtain ⟨a, y0, rfl, h, _⟩ := h
    exact ⟨rfl, a, _, rfl, h⟩
  have F__law_draws := fun_mk (st := (topS 46)) l__law_draws c__law_draws k__law_draws
  have B__law_draws := F__law_draws.binds (ps := [("_law_cell_here" : Str), ("_law_many" : Str), ("_law_most" : Str)]) fun _ _ _ _ _ _ us hl => match us, hl with | [_, _, _], _ => rfl
  have W__law_draws : FnOk PySem.Challenge.pw_leastshifts_k24_reached w K mg base (L2.CX PySem.Challenge.pw_leastshifts_k24_reached w) 1 _ _ _ (spM G K .sh 3 (ar3 m__law_draws)) := d__law_draws Z F__law_draws 
  have D__law_draws : Dk PySem.Challenge.pw_leastshifts_k24_reached w K mg base 1 ("_law_draws" : Str) (spM G K .sh 3 (ar3 m__law_draws)) := ⟨_, _, _, W__law_draws, PySem.W.mg_of X Gn a__law_draws, F__law_draws.kp, B__law_draws⟩
  have F__law_names := fun_mk (st := (topS 47)) l__law_names c__law_names k__law_names
  have B__law_names := F__law_names.binds (ps := [("_law_cell_here" : Str)]) fun _ _ _ _ _ _ us hl => match us, hl with | [_], _ => rfl
  have W__law_names : FnOk PySem.Challenge.pw_leastshifts_k24_reached w K mg base (L2.CX PySem.Challenge.pw_leastshifts_k24_reached w) 2 _ _ _ (spM G K .sh 1 (ar1 m__law_names)) := d__law_names Z F__law_names D__law_draws
  have D__law_names : Dk PySem.Challenge.pw_leastshifts_k24_reached w K mg base 2 ("_law_names" : Str) (spM G K .sh 1 (ar1 m__law_names)) := ⟨_, _, _, W__law_names, PySem.W.mg_of X Gn a__law_names, F__law_names.kp, B__law_names⟩
  have F__law_piles := fun_mk (st := (topS 49)) l__law_piles c__law_piles k__law_piles
  have B__law_piles := F__law_piles.binds (ps := [("_law_cell_here" : Str), ("_law_names_here" : Str), ("_law_many" : Str), ("_law_high" : Str), ("_law_width" : Str)]) fun _ _ _ _ _ _ us hl => match us, hl with | [_, _, _, _, _], _ => rfl
  have W__law_piles : FnOk PySem.Challenge.pw_leastshifts_k24_reached w K mg base (L2.CX PySem.Challenge.pw_leastshifts_k24_reached w) 2 _ _ _ (spM G K .sh 5 (ar5 m__law_piles)) := d__law_piles Z F__law_piles D__law_draws
  have D__law_piles : Dk PySem.Challenge.pw_leastshifts_k24_reached w K mg base 2 ("_law_piles" : Str) (spM G K .sh 5 (ar5 m__law_piles)) := ⟨_, _, _, W__law_piles, PySem.W.mg_of X Gn a__law_piles, F__law_piles.kp, B__law_piles⟩
  have F__law_cell := fun_mk (st := (topS 45)) l__law_cell c__law_cell k__law_cell
  have B__law_cell := F__law_cell.binds (ps := [("_law_script" : Str), ("_law_k" : Str)]) fun _ _ _ _ _ _ us hl => match us, hl with | [_, _], _ => rfl
  have W__law_cell : FnOk PySem.Challenge.pw_leastshifts_k24_reached w K mg base (L2.CX PySem.Challenge.pw_leastshifts_k24_reached w) 1 _ _ _ (spM G K .sh 2 (ar2 m__law_cell)) := d__law_cell Z F__law_cell 
  have D__law_cell : Dk PySem.Challenge.pw_leastshifts_k24_reached w K mg base 1 ("_law_cell" : Str) (spM G K .sh 2 (ar2 m__law_cell)) := ⟨_, _, _, W__law_cell, PySem.W.mg_of X Gn a__law_cell, F__law_cell.kp, B__law_cell⟩
  have F__law_standing := fun_mk (st := (topS 48)) l__law_standing c__law_standing k__law_standing
  have B__law_standing := F__law_standing.binds (ps := [("_law_piles_here" : Str)]) fun _ _ _ _ _ _ us hl => match us, hl with | [_], _ => rfl
  have W__law_standing : FnOk PySem.Challenge.pw_leastshifts_k24_reached w K mg base (L2.CX PySem.Challenge.pw_leastshifts_k24_reached w) 1 _ _ _ (spM G K .fr 1 (ar1 m__law_standing)) := d__law_standing Z F__law_standing 
  have D__law_standing : Dk PySem.Challenge.pw_leastshifts_k24_reached w K mg base 1 ("_law_standing" : Str) (spM G K .fr 1 (ar1 m__law_standing)) := ⟨_, _, _, W__law_standing, PySem.W.mg_of X Gn a__law_standing, F__law_standing.kp, B__law_standing⟩
  have F__law_calls := fun_mk (st := (topS 50)) l__law_calls c__law_calls k__law_calls
  have B__law_calls := F__law_calls.binds (ps := [("_law_cell_here" : Str), ("_law_names_here" : Str), ("_law_piles_here" : Str), ("_law_many" : Str), ("_law_most" : Str)]) fun _ _ _ _ _ _ us hl => match us, hl with | [_, _, _, _, _], _ => rfl
  have W__law_calls : FnOk PySem.Challenge.pw_leastshifts_k24_reached w K mg base (L2.CX PySem.Challenge.pw_leastshifts_k24_reached w) 2 _ _ _ (spM G K .sh 5 (ar5 m__law_calls)) := d__law_calls Z F__law_calls D__law_draws D__law_standing
  have D__law_calls : Dk PySem.Challenge.pw_leastshifts_k24_reached w K mg base 2 ("_law_calls" : Str) (spM G K .sh 5 (ar5 m__law_calls)) := ⟨_, _, _, W__law_calls, PySem.W.mg_of X Gn a__law_calls, F__law_calls.kp, B__law_calls⟩
  have F__law_task := fun_mk (st := (topS 51)) l__law_task c__law_task k__law_task
  have B__law_task := F__law_task.binds (ps := [("_law_script" : Str), ("_law_draws_here" : Str)]) fun _ _ _ _ _ _ us hl => match us, hl with | [_, _], _ => rfl
  have W__law_task : FnOk PySem.Challenge.pw_leastshifts_k24_reached w K mg base (L2.CX PySem.Challenge.pw_leastshifts_k24_reached w) 3 _ _ _ (spM G K .sh 2 (ar2 m__law_task)) := d__law_task Z F__law_task D__law_names D__law_cell D__law_piles D__law_calls
  have D__law_task : Dk PySem.Challenge.pw_leastshifts_k24_reached w K mg base 3 ("_law_task" : Str) (spM G K .sh 2 (ar2 m__law_task)) := ⟨_, _, _, W__law_task, PySem.W.mg_of X Gn a__law_task, F__law_task.kp, B__law_task⟩
  have F__law_with := fun_mk (st := (topS 53)) l__law_with c__law_with k__law_with
  have B__law_with := F__law_with.binds (ps := [("_law_piles_here" : Str), ("_law_j" : Str), ("_law_pile" : Str)]) fun _ _ _ _ _ _ us hl => match us, hl with | [_, _, _], _ => rfl
  have W__law_with : FnOk PySem.Challenge.pw_leastshifts_k24_reached w K mg base (L2.CX PySem.Challenge.pw_leastshifts_k24_reached w) 1 _ _ _ (spM G K .sh 3 (ar3 m__law_with)) := d__law_with Z F__law_with 
  have D__law_with : Dk PySem.Challenge.pw_leastshifts_k24_reached w K mg base 1 ("_law_with" : Str) (spM G K .sh 3 (ar3 m__law_with)) := ⟨_, _, _, W__law_with, PySem.W.mg_of X Gn a__law_with, F__law_with.kp, B__law_with⟩
  have F__law_deeds := fun_mk (st := (topS 54)) l__law_deeds c__law_deeds k__law_deeds
  have B__law_deeds := F__law_deeds.binds (ps := [("_law_task_here" : Str), ("_law_state" : Str)]) fun _ _ _ _ _ _ us hl => match us, hl with | [_, _], _ => rfl
  have W__law_deeds : FnOk PySem.Challenge.pw_leastshifts_k24_reached w K mg base (L2.CX PySem.Challenge.pw_leastshifts_k24_reached w) 2 _ _ _ (spM G K .sh 2 (ar2 m__law_deeds)) := d__law_deeds Z F__law_deeds D__law_with
  have D__law_deeds : Dk PySem.Challenge.pw_leastshifts_k24_reached w K mg base 2 ("_law_deeds" : Str) (spM G K .sh 2 (ar2 m__law_deeds)) := ⟨_, _, _, W__law_deeds, PySem.W.mg_of X Gn a__law_deeds, F__law_deeds.kp, B__law_deeds⟩
  have F__law_reached := fun_mk (st := (topS 55)) l__law_reached c__law_reached k__law_reached
  have B__law_reached := F__law_reached.binds (ps := [("_law_task_here" : Str)]) fun _ _ _ _ _ _ us hl => match us, hl with | [_], _ => rfl
  have W__law_reached : FnOk PySem.Challenge.pw_leastshifts_k24_reached w K mg base (L2.CX PySem.Challenge.pw_leastshifts_k24_reached w) 3 _ _ _ (spM G K .sh 1 (ar1 m__law_reached)) := d__law_reached Z F__law_reached D__law_deeds
  have D__law_reached : Dk PySem.Challenge.pw_leastshifts_k24_reached w K mg base 3 ("_law_reached" : Str) (spM G K .sh 1 (ar1 m__law_reached)) := ⟨_, _, _, W__law_reached, PySem.W.mg_of X Gn a__law_reached, F__law_reached.kp, B__law_reached⟩
  have F_is_sequence := fun_mk (st := (topS 6)) l_is_sequence c_is_sequence k_is_sequence
  have B_is_sequence := F_is_sequence.binds (ps := [("value" : Str)]) fun _ _ _ _ _ _ us hl => match us, hl with | [_], _ => rfl
  have W_is_sequence : FnOk PySem.Challenge.pw_leastshifts_k24_reached w K mg base (L2.CX PySem.Challenge.pw_leastshifts_k24_reached w) 1 _ _ _ (spM G K .sh 1 (ar1 m_is_sequence)) := d_is_sequence Z F_is_sequence 
  have D_is_sequence : Dk PySem.Challenge.pw_leastshifts_k24_reached w K mg base 1 ("is_sequence" : Str) (spM G K .sh 1 (ar1 m_is_sequence)) := ⟨_, _, _, W_is_sequence, PySem.W.mg_of X Gn a_is_sequence, F_is_sequence.kp, B_is_sequence⟩
  have F_boxes_of := fun_mk (st := (topS 20)) l_boxes_of c_boxes_of k_boxes_of
  have B_boxes_of := F_boxes_of.binds (ps := [("yard" : Str)]) fun _ _ _ _ _ _ us hl => match us, hl with | [_], _ => rfl
  have W_boxes_of : FnOk PySem.Challenge.pw_leastshifts_k24_reached w K mg base (L2.CX PySem.Challenge.pw_leastshifts_k24_reached w) 1 _ _ _ (spM G K .sh 1 (ar1 m_boxes_of)) := d_boxes_of Z F_boxes_of 
  have D_boxes_of : Dk PySem.Challenge.pw_leastshifts_k24_reached w K mg base 1 ("boxes_of" : Str) (spM G K .sh 1 (ar1 m_boxes_of)) := ⟨_, _, _, W_boxes_of, PySem.W.mg_of X Gn a_boxes_of, F_boxes_of.kp, B_boxes_of⟩
  have F_is_name := fun_mk (st := (topS 7)) l_is_name c_is_name k_is_name
  have B_is_name := F_is_name.binds (ps := [("value" : Str)]) fun _ _ _ _ _ _ us hl => match us, hl with | [_], _ => rfl
  have W_is_name : FnOk PySem.Challenge.pw_leastshifts_k24_reached w K mg base (L2.CX PySem.Challenge.pw_leastshifts_k24_reached w) 1 _ _ _ (spM G K .sh 1 (ar1 m_is_name)) := d_is_name Z F_is_name 
  have D_is_name : Dk PySem.Challenge.pw_leastshifts_k24_reached w K mg base 1 ("is_name" : Str) (spM G K .sh 1 (ar1 m_is_name)) := ⟨_, _, _, W_is_name, PySem.W.mg_of X Gn a_is_name, F_is_name.kp, B_is_name⟩
  have F_is_event := fun_mk (st := (topS 24)) l_is_event c_is_event k_is_event
  have B_is_event := F_is_event.binds (ps := [("value" : Str)]) fun _ _ _ _ _ _ us hl => match us, hl with | [_], _ => rfl
  have W_is_event : FnOk PySem.Challenge.pw_leastshifts_k24_reached w K mg base (L2.CX PySem.Challenge.pw_leastshifts_k24_reached w) 2 _ _ _ (spM G K .sh 1 (ar1 m_is_event)) := d_is_event Z F_is_event D_is_name
  have D_is_event : Dk PySem.Challenge.pw_leastshifts_k24_reached w K mg base 2 ("is_event" : Str) (spM G K .sh 1 (ar1 m_is_event)) := ⟨_, _, _, W_is_event, PySem.W.mg_of X Gn a_is_event, F_is_event.kp, B_is_event⟩
  have F_as_events := fun_mk (st := (topS 25)) l_as_events c_as_events k_as_events
  have B_as_events := F_as_events.binds (ps := [("yard" : Str), ("value" : Str)]) fun _ _ _ _ _ _ us hl => match us, hl with | [_, _], _ => rfl
  have W_as_events : FnOk PySem.Challenge.pw_leastshifts_k24_reached w K mg base (L2.CX PySem.Challenge.pw_leastshifts_k24_reached w) 3 _ _ _ (spM G K .sh 2 (ar2 m_as_events)) := d_as_events Z F_as_events D_is_sequence D_is_event D_boxes_of
  have D_as_events : Dk PySem.Challenge.pw_leastshifts_k24_reached w K mg base 3 ("as_events" : Str) (spM G K .sh 2 (ar2 m_as_events)) := ⟨_, _, _, W_as_events, PySem.W.mg_of X Gn a_as_events, F_as_events.kp, B_as_events⟩
  have F_Day := fun_mk (st := (inClass (topS 26) 0)) lI5 cI5 kI5
  have W_Day : FnOk PySem.Challenge.pw_leastshifts_k24_reached w K mg base (L2.CX PySem.Challenge.pw_leastshifts_k24_reached w) 4 _ _ _ (spI G K 5 2 (ar2 m_Day)) := d_Day Z F_Day D_as_events X_InvalidDay
  have M_Day : Mkr PySem.Challenge.pw_leastshifts_k24_reached w K mg base 4 ("Day" : Str) (G 5) (spI G K 5 2 (ar2 m_Day)) := ⟨_, _, _, ⟨mk5, iC5, fn5, kC5⟩, W_Day, PySem.W.mg_of X Gn aC5, F_Day.binds (ps := [("self" : Str), ("yard" : Str), ("events" : Str)]) fun _ _ _ _ _ _ us hl => match us, hl with | [_, _, _], _ => rfl⟩
  have MK_Day_events_yard : MkrK PySem.Challenge.pw_leastshifts_k24_reached w K mg base 4 ("Day" : Str) (G 5) (spI G K 5 2 (ar2 m_Day)) [("events" : Str), ("yard" : Str)] [1, 0] := ⟨_, _, _, ⟨mk5, iC5, fn5, kC5⟩, W_Day, PySem.W.mg_of X Gn aC5, kbn1 F_Day [("events" : Str), ("yard" : Str)] [1, 0] fun _ _ _ _ _ _ u ws hl => match ws, hl with | [_, _], _ => rfl⟩
  have F_are_unlike := fun_mk (st := (topS 8)) l_are_unlike c_are_unlike k_are_unlike
  have B_are_unlike := F_are_unlike.binds (ps := [("names" : Str)]) fun _ _ _ _ _ _ us hl => match us, hl with | [_], _ => rfl
  have W_are_unlike : FnOk PySem.Challenge.pw_leastshifts_k24_reached w K mg base (L2.CX PySem.Challenge.pw_leastshifts_k24_reached w) 1 _ _ _ (spM G K .sh 1 (ar1 m_are_unlike)) := d_are_unlike Z F_are_unlike 
  have D_are_unlike : Dk PySem.Challenge.pw_leastshifts_k24_reached w K mg base 1 ("are_unlike" : Str) (spM G K .sh 1 (ar1 m_are_unlike)) := ⟨_, _, _, W_are_unlike, PySem.W.mg_of X Gn a_are_unlike, F_are_unlike.kp, B_are_unlike⟩
  have F_as_stacks := fun_mk (st := (topS 17)) l_as_stacks c_as_stacks k_as_stacks
  have B_as_stacks := F_as_stacks.binds (ps := [("height" : Str), ("value" : Str)]) fun _ _ _ _ _ _ us hl => match us, hl with | [_, _], _ => rfl
  have W_as_stacks : FnOk PySem.Challenge.pw_leastshifts_k24_reached w K mg base (L2.CX PySem.Challenge.pw_leastshifts_k24_reached w) 2 _ _ _ (spM G K .sh 2 (ar2 m_as_stacks)) := d_as_stacks Z F_as_stacks D_is_sequence D_is_name D_are_unlike
  have D_as_stacks : Dk PySem.Challenge.pw_leastshifts_k24_reached w K mg base 2 ("as_stacks" : Str) (spM G K .sh 2 (ar2 m_as_stacks)) := ⟨_, _, _, W_as_stacks, PySem.W.mg_of X Gn a_as_stacks, F_as_stacks.kp, B_as_stacks⟩
  have F_is_integer := fun_mk (st := (topS 4)) l_is_integer c_is_integer k_is_integer
  have B_is_integer := F_is_integer.binds (ps := [("value" : Str)]) fun _ _ _ _ _ _ us hl => match us, hl with | [_], _ => rfl
  have W_is_integer : FnOk PySem.Challenge.pw_leastshifts_k24_reached w K mg base (L2.CX PySem.Challenge.pw_leastshifts_k24_reached w) 1 _ _ _ (spM G K .sh 1 (ar1 m_is_integer)) := d_is_integer Z F_is_integer 
  have D_is_integer : Dk PySem.Challenge.pw_leastshifts_k24_reached w K mg base 1 ("is_integer" : Str) (spM G K .sh 1 (ar1 m_is_integer)) := ⟨_, _, _, W_is_integer, PySem.W.mg_of X Gn a_is_integer, F_is_integer.kp, B_is_integer⟩
  have F_is_number := fun_mk (st := (topS 5)) l_is_number c_is_number k_is_number
  have B_is_number := F_is_number.binds (ps := [("value" : Str)]) fun _ _ _ _ _ _ us hl => match us, hl with | [_], _ => rfl
  have W_is_number : FnOk PySem.Challenge.pw_leastshifts_k24_reached w K mg base (L2.CX PySem.Challenge.pw_leastshifts_k24_reached w) 2 _ _ _ (spM G K .sh 1 (ar1 m_is_number)) := d_is_number Z F_is_number D_is_integer
  have D_is_number : Dk PySem.Challenge.pw_leastshifts_k24_reached w K mg base 2 ("is_number" : Str) (spM G K .sh 1 (ar1 m_is_number)) := ⟨_, _, _, W_is_number, PySem.W.mg_of X Gn a_is_number, F_is_number.kp, B_is_number⟩
  have F_Yard := fun_mk (st := (inClass (topS 18) 0)) lI4 cI4 kI4
  have W_Yard : FnOk PySem.Challenge.pw_leastshifts_k24_reached w K mg base (L2.CX PySem.Challenge.pw_leastshifts_k24_reached w) 3 _ _ _ (spI G K 4 2 (ar2 m_Yard)) := d_Yard Z F_Yard D_is_number X_InvalidNumber D_as_stacks X_InvalidYard
  have M_Yard : Mkr PySem.Challenge.pw_leastshifts_k24_reached w K mg base 3 ("Yard" : Str) (G 4) (spI G K 4 2 (ar2 m_Yard)) := ⟨_, _, _, ⟨mk4, iC4, fn4, kC4⟩, W_Yard, PySem.W.mg_of X Gn aC4, F_Yard.binds (ps := [("self" : Str), ("height" : Str), ("stacks" : Str)]) fun _ _ _ _ _ _ us hl => match us, hl with | [_, _, _], _ => rfl⟩
  have MK_Yard_stacks_height : MkrK PySem.Challenge.pw_leastshifts_k24_reached w K mg base 3 ("Yard" : Str) (G 4) (spI G K 4 2 (ar2 m_Yard)) [("stacks" : Str), ("height" : Str)] [1, 0] := ⟨_, _, _, ⟨mk4, iC4, fn4, kC4⟩, W_Yard, PySem.W.mg_of X Gn aC4, kbn1 F_Yard [("stacks" : Str), ("height" : Str)] [1, 0] fun _ _ _ _ _ _ u ws hl => match ws, hl with | [_, _], _ => rfl⟩
  have F__law_made := fun_mk (st := (topS 56)) l__law_made c__law_made k__law_made
  have B__law_made := F__law_made.binds (ps := [("_law_task_here" : Str), ("_law_draw" : Str)]) fun _ _ _ _ _ _ us hl => match us, hl with | [_, _], _ => rfl
  have W__law_made : FnOk PySem.Challenge.pw_leastshifts_k24_reached w K mg base (L2.CX PySem.Challenge.pw_leastshifts_k24_reached w) 6 _ _ _ (spM G K .sh 2 (ar2 m__law_made)) := d__law_made Z F__law_made M_Day M_Yard MK_Day_events_yard MK_Yard_stacks_height
  have D__law_made : Dk PySem.Challenge.pw_leastshifts_k24_reached w K mg base 6 ("_law_made" : Str) (spM G K .sh 2 (ar2 m__law_made)) := ⟨_, _, _, W__law_made, PySem.W.mg_of X Gn a__law_made, F__law_made.kp, B__law_made⟩
  have F__law_is_integer := fun_mk (st := (topS 52)) l__law_is_integer c__law_is_integer k__law_is_integer
  have B__law_is_integer := F__law_is_integer.binds (ps := [("_law_value" : Str)]) fun _ _ _ _ _ _ us hl => match us, hl with | [_], _ => rfl
  have W__law_is_integer : FnOk PySem.Challenge.pw_leastshifts_k24_reached w K mg base (L2.CX PySem.Challenge.pw_leastshifts_k24_reached w) 1 _ _ _ (spM G K .sh 1 (ar1 m__law_is_integer)) := d__law_is_integer Z F__law_is_integer 
  have D__law_is_integer : Dk PySem.Challenge.pw_leastshifts_k24_reached w K mg base 1 ("_law_is_integer" : Str) (spM G K .sh 1 (ar1 m__law_is_integer)) := ⟨_, _, _, W__law_is_integer, PySem.W.mg_of X Gn a__law_is_integer, F__law_is_integer.kp, B__law_is_integer⟩
  have F__law_same_state := fun_mk (st := (topS 57)) l__law_same_state c__law_same_state k__law_same_state
  have B__law_same_state := F__law_same_state.binds (ps := [("_law_told" : Str), ("_law_due" : Str)]) fun _ _ _ _ _ _ us hl => match us, hl with | [_, _], _ => rfl
  have W__law_same_state : FnOk PySem.Challenge.pw_leastshifts_k24_reached w K mg base (L2.CX PySem.Challenge.pw_leastshifts_k24_reached w) 2 _ _ _ (spM G K .sh 2 (ar2 m__law_same_state)) := d__law_same_state Z F__law_same_state D__law_is_integer
  have D__law_same_state : Dk PySem.Challenge.pw_leastshifts_k24_reached w K mg base 2 ("_law_same_state" : Str) (spM G K .sh 2 (ar2 m__law_same_state)) := ⟨_, _, _, W__law_same_state, PySem.W.mg_of X Gn a__law_same_state, F__law_same_state.kp, B__law_same_state⟩
  have F__law_same_states := fun_mk (st := (topS 58)) l__law_same_states c__law_same_states k__law_same_states
  have B__law_same_states := F__law_same_states.binds (ps := [("_law_told" : Str), ("_law_due" : Str)]) fun _ _ _ _ _ _ us hl => match us, hl with | [_, _], _ => rfl
  have W__law_same_states : FnOk PySem.Challenge.pw_leastshifts_k24_reached w K mg base (L2.CX PySem.Challenge.pw_leastshifts_k24_reached w) 3 _ _ _ (spM G K .sh 2 (ar2 m__law_same_states)) := d__law_same_states Z F__law_same_states D__law_same_state
  have D__law_same_states : Dk PySem.Challenge.pw_leastshifts_k24_reached w K mg base 3 ("_law_same_states" : Str) (spM G K .sh 2 (ar2 m__law_same_states)) := ⟨_, _, _, W__law_same_states, PySem.W.mg_of X Gn a__law_same_states, F__law_same_states.kp, B__law_same_states⟩
  have F_first_state := fun_mk (st := (topS 29)) l_first_state c_first_state k_first_state
  have B_first_state := F_first_state.binds (ps := [("day" : Str)]) fun _ _ _ _ _ _ us hl => match us, hl with | [_], _ => rfl
  have W_first_state : FnOk PySem.Challenge.pw_leastshifts_k24_reached w K mg base (L2.CX PySem.Challenge.pw_leastshifts_k24_reached w) 1 _ _ _ (spM G K .sh 1 (ar1 m_first_state)) := d_first_state Z F_first_state 
  have D_first_state : Dk PySem.Challenge.pw_leastshifts_k24_reached w K mg base 1 ("first_state" : Str) (spM G K .sh 1 (ar1 m_first_state)) := ⟨_, _, _, W_first_state, PySem.W.mg_of X Gn a_first_state, F_first_state.kp, B_first_state⟩
  have F_with_box := fun_mk (st := (topS 32)) l_with_box c_with_box k_with_box
  have B_with_box := F_with_box.binds (ps := [("stacks" : Str), ("j" : Str), ("name" : Str)]) fun _ _ _ _ _ _ us hl => match us, hl with | [_, _, _], _ => rfl
  have W_with_box : FnOk PySem.Challenge.pw_leastshifts_k24_reached w K mg base (L2.CX PySem.Challenge.pw_leastshifts_k24_reached w) 1 _ _ _ (spM G K .sh 3 (ar3 m_with_box)) := d_with_box Z F_with_box 
  have D_with_box : Dk PySem.Challenge.pw_leastshifts_k24_reached w K mg base 1 ("with_box" : Str) (spM G K .sh 3 (ar3 m_with_box)) := ⟨_, _, _, W_with_box, PySem.W.mg_of X Gn a_with_box, F_with_box.kp, B_with_box⟩
  have F_has_room := fun_mk (st := (topS 31)) l_has_room c_has_room k_has_room
  have B_has_room := F_has_room.binds (ps := [("day" : Str), ("stacks" : Str), ("j" : Str)]) fun _ _ _ _ _ _ us hl => match us, hl with | [_, _, _], _ => rfl
  have W_has_room : FnOk PySem.Challenge.pw_leastshifts_k24_reached w K mg base (L2.CX PySem.Challenge.pw_leastshifts_k24_reached w) 1 _ _ _ (spM G K .sh 3 (ar3 m_has_room)) := d_has_room Z F_has_room 
  have D_has_room : Dk PySem.Challenge.pw_leastshifts_k24_reached w K mg base 1 ("has_room" : Str) (spM G K .sh 3 (ar3 m_has_room)) := ⟨_, _, _, W_has_room, PySem.W.mg_of X Gn a_has_room, F_has_room.kp, B_has_room⟩
  have F_without_top := fun_mk (st := (topS 33)) l_without_top c_without_top k_without_top
  have B_without_top := F_without_top.binds (ps := [("stacks" : Str), ("i" : Str)]) fun _ _ _ _ _ _ us hl => match us, hl with | [_, _], _ => rfl
  have W_without_top : FnOk PySem.Challenge.pw_leastshifts_k24_reached w K mg base (L2.CX PySem.Challenge.pw_leastshifts_k24_reached w) 1 _ _ _ (spM G K .sh 2 (ar2 m_without_top)) := d_without_top Z F_without_top 
  have D_without_top : Dk PySem.Challenge.pw_leastshifts_k24_reached w K mg base 1 ("without_top" : Str) (spM G K .sh 2 (ar2 m_without_top)) := ⟨_, _, _, W_without_top, PySem.W.mg_of X Gn a_without_top, F_without_top.kp, B_without_top⟩
  have F_shifted := fun_mk (st := (topS 35)) l_shifted c_shifted k_shifted
  have B_shifted := F_shifted.binds (ps := [("day" : Str), ("state" : Str), ("i" : Str), ("j" : Str)]) fun _ _ _ _ _ _ us hl => match us, hl with | [_, _, _, _], _ => rfl
  have W_shifted : FnOk PySem.Challenge.pw_leastshifts_k24_reached w K mg base (L2.CX PySem.Challenge.pw_leastshifts_k24_reached w) 2 _ _ _ (spM G K .sh 4 (ar4 m_shifted)) := d_shifted Z F_shifted D_has_room D_with_box D_without_top
  have D_shifted : Dk PySem.Challenge.pw_leastshifts_k24_reached w K mg base 2 ("shifted" : Str) (spM G K .sh 4 (ar4 m_shifted)) := ⟨_, _, _, W_shifted, PySem.W.mg_of X Gn a_shifted, F_shifted.kp, B_shifted⟩
  have F_come := fun_mk (st := (topS 36)) l_come c_come k_come
  have B_come := F_come.binds (ps := [("day" : Str), ("state" : Str), ("j" : Str)]) fun _ _ _ _ _ _ us hl => match us, hl with | [_, _, _], _ => rfl
  have W_come : FnOk PySem.Challenge.pw_leastshifts_k24_reached w K mg base (L2.CX PySem.Challenge.pw_leastshifts_k24_reached w) 2 _ _ _ (spM G K .sh 3 (ar3 m_come)) := d_come Z F_come D_has_room D_with_box
  have D_come : Dk PySem.Challenge.pw_leastshifts_k24_reached w K mg base 2 ("come" : Str) (spM G K .sh 3 (ar3 m_come)) := ⟨_, _, _, W_come, PySem.W.mg_of X Gn a_come, F_come.kp, B_come⟩
  have F_stack_with := fun_mk (st := (topS 34)) l_stack_with c_stack_with k_stack_with
  have B_stack_with := F_stack_with.binds (ps := [("stacks" : Str), ("name" : Str)]) fun _ _ _ _ _ _ us hl => match us, hl with | [_, _], _ => rfl
  have W_stack_with : FnOk PySem.Challenge.pw_leastshifts_k24_reached w K mg base (L2.CX PySem.Challenge.pw_leastshifts_k24_reached w) 1 _ _ _ (spM G K .sh 2 (ar2 m_stack_with)) := d_stack_with Z F_stack_with 
  have D_stack_with : Dk PySem.Challenge.pw_leastshifts_k24_reached w K mg base 1 ("stack_with" : Str) (spM G K .sh 2 (ar2 m_stack_with)) := ⟨_, _, _, W_stack_with, PySem.W.mg_of X Gn a_stack_with, F_stack_with.kp, B_stack_with⟩
  have F_gone := fun_mk (st := (topS 37)) l_gone c_gone k_gone
  have B_gone := F_gone.binds (ps := [("day" : Str), ("state" : Str)]) fun _ _ _ _ _ _ us hl => match us, hl with | [_, _], _ => rfl
  have W_gone : FnOk PySem.Challenge.pw_leastshifts_k24_reached w K mg base (L2.CX PySem.Challenge.pw_leastshifts_k24_reached w) 2 _ _ _ (spM G K .sh 2 (ar2 m_gone)) := d_gone Z F_gone D_stack_with D_without_top
  have D_gone : Dk PySem.Challenge.pw_leastshifts_k24_reached w K mg base 2 ("gone" : Str) (spM G K .sh 2 (ar2 m_gone)) := ⟨_, _, _, W_gone, PySem.W.mg_of X Gn a_gone, F_gone.kp, B_gone⟩
  have F_is_stack := fun_mk (st := (topS 30)) l_is_stack c_is_stack k_is_stack
  have B_is_stack := F_is_stack.binds (ps := [("stacks" : Str), ("value" : Str)]) fun _ _ _ _ _ _ us hl => match us, hl with | [_, _], _ => rfl
  have W_is_stack : FnOk PySem.Challenge.pw_leastshifts_k24_reached w K mg base (L2.CX PySem.Challenge.pw_leastshifts_k24_reached w) 3 _ _ _ (spM G K .sh 2 (ar2 m_is_stack)) := d_is_stack Z F_is_stack D_is_number
  have D_is_stack : Dk PySem.Challenge.pw_leastshifts_k24_reached w K mg base 3 ("is_stack" : Str) (spM G K .sh 2 (ar2 m_is_stack)) := ⟨_, _, _, W_is_stack, PySem.W.mg_of X Gn a_is_stack, F_is_stack.kp, B_is_stack⟩
  have F_behind := fun_mk (st := (topS 38)) l_behind c_behind k_behind
  have B_behind := F_behind.binds (ps := [("day" : Str), ("state" : Str), ("deed" : Str)]) fun _ _ _ _ _ _ us hl => match us, hl with | [_, _, _], _ => rfl
  have W_behind : FnOk PySem.Challenge.pw_leastshifts_k24_reached w K mg base (L2.CX PySem.Challenge.pw_leastshifts_k24_reached w) 4 _ _ _ (spM G K .sh 3 (ar3 m_behind)) := d_behind Z F_behind D_is_stack D_shifted D_come D_gone
  have D_behind : Dk PySem.Challenge.pw_leastshifts_k24_reached w K mg base 4 ("behind" : Str) (spM G K .sh 3 (ar3 m_behind)) := ⟨_, _, _, W_behind, PySem.W.mg_of X Gn a_behind, F_behind.kp, B_behind⟩
  have F_ways_on := fun_mk (st := (topS 39)) l_ways_on c_ways_on k_ways_on
  have B_ways_on := F_ways_on.binds (ps := [("day" : Str), ("state" : Str)]) fun _ _ _ _ _ _ us hl => match us, hl with | [_, _], _ => rfl
  have W_ways_on : FnOk PySem.Challenge.pw_leastshifts_k24_reached w K mg base (L2.CX PySem.Challenge.pw_leastshifts_k24_reached w) 5 _ _ _ (spM G K .sh 2 (ar2 m_ways_on)) := d_ways_on Z F_ways_on D_behind
  have D_ways_on : Dk PySem.Challenge.pw_leastshifts_k24_reached w K mg base 5 ("ways_on" : Str) (spM G K .sh 2 (ar2 m_ways_on)) := ⟨_, _, _, W_ways_on, PySem.W.mg_of X Gn a_ways_on, F_ways_on.kp, B_ways_on⟩
  have F_all_reached := fun_mk (st := (topS 41)) l_all_reached c_all_reached k_all_reached
  have B_all_reached := F_all_reached.binds (ps := [("day" : Str)]) fun _ _ _ _ _ _ us hl => match us, hl with | [_], _ => rfl
  have W_all_reached : FnOk PySem.Challenge.pw_leastshifts_k24_reached w K mg base (L2.CX PySem.Challenge.pw_leastshifts_k24_reached w) 7 _ _ _ (spM G K .sh 1 (ar1 m_all_reached)) := d_all_reached Z F_all_reached D_first_state D_ways_on
  have D_all_reached : Dk PySem.Challenge.pw_leastshifts_k24_reached w K mg base 7 ("all_reached" : Str) (spM G K .sh 1 (ar1 m_all_reached)) := ⟨_, _, _, W_all_reached, PySem.W.mg_of X Gn a_all_reached, F_all_reached.kp, B_all_reached⟩
  have F_reached := fun_mk (st := (topS 43)) l_reached c_reached k_reached
  have B_reached := F_reached.binds (ps := [("day" : Str)]) fun _ _ _ _ _ _ us hl => match us, hl with | [_], _ => rfl
  have W_reached : FnOk PySem.Challenge.pw_leastshifts_k24_reached w K mg base (L2.CX PySem.Challenge.pw_leastshifts_k24_reached w) 8 _ _ _ (spM G K .sh 1 (ar1 m_reached)) := d_reached Z F_reached D_all_reached
  have D_reached : Dk PySem.Challenge.pw_leastshifts_k24_reached w K mg base 8 ("reached" : Str) (spM G K .sh 1 (ar1 m_reached)) := ⟨_, _, _, W_reached, PySem.W.mg_of X Gn a_reached, F_reached.kp, B_reached⟩
  have DK_reached_day : DkK PySem.Challenge.pw_leastshifts_k24_reached w K mg base 8 ("reached" : Str) (spM G K .sh 1 (ar1 m_reached)) [("day" : Str)] [0] := ⟨_, _, _, W_reached, PySem.W.mg_of X Gn a_reached, F_reached.kp, kbn0 F_reached [("day" : Str)] [0] fun _ _ _ _ _ _ ws hl => match ws, hl with | [_], _ => rfl⟩
  have F__law_asked := fun_mk (st := (topS 59)) l__law_asked c__law_asked k__law_asked
  have B__law_asked := F__law_asked.binds (ps := [("_law_script" : Str)]) fun _ _ _ _ _ _ us hl => match us, hl with | [_], _ => rfl
  have W__law_asked : FnOk PySem.Challenge.pw_leastshifts_k24_reached w K mg base (L2.CX PySem.Challenge.pw_leastshifts_k24_reached w) 9 _ _ _ (spM G K .sh 1 (ar1 m__law_asked)) := d__law_asked Z F__law_asked D__law_draws D__law_cell D__law_task D__law_reached D__law_made D__law_same_states D_reached DK_reached_day
  have D__law_asked : Dk PySem.Challenge.pw_leastshifts_k24_reached w K mg base 9 ("_law_asked" : Str) (spM G K .sh 1 (ar1 m__law_asked)) := ⟨_, _, _, W__law_asked, PySem.W.mg_of X Gn a__law_asked, F__law_asked.kp, B__law_asked⟩
  have F_law := fun_mk (st := (topS 60)) l_law c_law k_law
  have B_law := F_law.binds (ps := [("_law_script" : Str)]) fun _ _ _ _ _ _ us hl => match us, hl with | [_], _ => rfl
  have W_law : FnOk PySem.Challenge.pw_leastshifts_k24_reached w K mg base (L2.CX PySem.Challenge.pw_leastshifts_k24_reached w) 10 _ _ _ (spM G K .sh 1 (ar1 m_law)) := d_law Z F_law D__law_asked
  have D_law : Dk PySem.Challenge.pw_leastshifts_k24_reached w K mg base 10 ("law" : Str) (spM G K .sh 1 (ar1 m_law)) := ⟨_, _, _, W_law, PySem.W.mg_of X Gn a_law, F_law.kp, B_law⟩
  refine W_law.imp fun vs H Q E h => ?_
  obtain ⟨a, ns, rfl, hl, hs, hq⟩ := h
  refine ⟨H, [.scr ns], Same.refl _, .cons (.scr hs) .nil, rfl, ?_⟩
  have e : ar1 m_law [.scr ns] = .ok (.bl true) := law_true ns hl
  rw [e]
  intro v F' H' _ r
  have e2 : v = .bl true := Rep.bl_inv r
  rw [e2]
  exact hq H'
end K24
end
section
open PySem PySem.W PyProof.Rows
set_option maxHeartbeats 0
open_top hd for PySem.Challenge.rw_leastshifts_k24_reached
theorem walk_ofKX {l : PySem.W.OpenLaw} {n k : Nat} {q : Program} {loose : List Str} {XP : (Str → Option Value) → Heap → Prop} {YP : World → Heap → Prop} {d : DefRec} {K : Params → PySem.W.Frag} {sp : PySem.W.Frag → L2.Sp} {x : Str}
    (hn : l.most = some n) (hn2 : n ≤ sizeLine) (hdf : d.params.defaults = []) (hr : L2.Room k callerA) (hY : ∀ (w : World) (h : Heap), YP w h → (K w.params).In h)
    (F : ∀ (w : World) (mg : Str → Option Value) (fa : Addr) (h : Heap), (K w.params).In h → h.Ns mainGlobals mg → mg d.name = some (.ref fa) →
      ∃ fd : FuncData, (∀ (s : Shared) (u : Value), BindsTo s fd ⟨[u], []⟩ [(x, u)]) ∧ ∀ base : Heap, (K w.params).In base → base.Ns mainGlobals mg → L2.FnOk l.prog w (K w.params) mg base (L2.CX l.prog w) k fa fd [x] (sp (K w.params)))
    (hsp : ∀ (K : PySem.W.Frag) (H : L2.Hp) (a : Addr) (ns : List Int), ns.length ≤ n → L2.Only H → L2.SqL K H a (ns.map L2.V.int) → sp K [.ref a] H (fun v _ => v = .bl true) fun _ _ _ => False) :
    PySem.W.WalkO q loose XP YP l.row.toRowW d [] (fun f vs => PySem.call f vs) :=
  L2.walk_of (K := K) (CX := fun w => L2.CX l.prog w) (sp := fun w => sp (K w.params)) hn hn2 hdf hr hY F (fun w H a ns h1 h2 h3 => hsp (K w.params) H a ns h1 h2 h3) fun w H s e s' h => by
    obtain ⟨_, _, _, _, _, _, _, _, _, _, _, _, z⟩ := h
    exact z
set_option maxRecDepth 100000 in
set_option maxHeartbeats 0 in
theorem PySem.Challenge.cw_leastshifts_k24_reached_holds : PySem.Challenge.rw_leastshifts_k24_reached.Holds := by
  exact hd (by
    k_fill
    refine walk_ofKX (l := PySem.Challenge.rw_leastshifts_k24_reached) (n := 63) (k := 10) (x := "_law_script") (sp := K24.spLaw) rfl (by decide) rfl ⟨rfl, by decide, by decide⟩ (fun w h Y => PySem.W.kIn_of Y) ?F (fun K H a ns h1 h2 h3 => ⟨a, ns, rfl, h1, h3, fun _ => rfl⟩)
    case F =>
      intro w mg fa h KX G hmg
      refine' K24.all_mk KX G hmg ?aC0 ?aC1 ?aC2 ?aC3 ?aC4 ?aC5 ?xL1 ?sa1 ?eC1 ?tC1 ?kC1 ?iC1 ?tI1 ?lI1 ?cI1 ?lc1 ?ld1 ?hv1 ?hf1 ?xL0 ?fi0 ?iV1 ?no1_value ?xL2 ?sa2 ?eC2 ?tC2 ?kC2 ?iC2 ?tI2 ?lI2 ?cI2 ?lc2 ?ld2 ?hv2 ?hf2 ?iV2 ?no2_value ?xL3 ?sa3 ?eC3 ?tC3 ?kC3 ?iC3 ?tI3 ?lI3 ?cI3 ?lc3 ?ld3 ?hv3 ?hf3 ?iV3 ?no3_value ?zsuper ?zany ?pg4 ?hd4 ?po4 ?sa4 ?mk4 ?iC4 ?fn4 ?kC4 ?lI4 ?cI4 ?kI4 ?pg5 ?hd5 ?po5 ?sa5 ?mk5 ?iC5 ?fn5 ?kC5 ?lI5 ?cI5 ?kI5 ?a__law_draws ?l__law_draws ?c__law_draws ?k__law_draws ?a__law_names ?l__law_names ?c__law_names ?k__law_names ?a__law_piles ?l__law_piles ?c__law_piles ?k__law_piles ?a__law_cell ?l__law_cell ?c__law_cell ?k__law_cell ?a__law_standing ?l__law_standing ?c__law_standing ?k__law_standing ?a__law_calls ?l__law_calls ?c__law_calls ?k__law_calls ?a__law_task ?l__law_task ?c__law_task ?k__law_task ?a__law_with ?l__law_with ?c__law_with ?k__law_with ?a__law_deeds ?l__law_deeds ?c__law_deeds ?k__law_deeds ?a__law_reached ?l__law_reached ?c__law_reached ?k__law_reached ?a_is_sequence ?l_is_sequence ?c_is_sequence ?k_is_sequence ?a_boxes_of ?l_boxes_of ?c_boxes_of ?k_boxes_of ?a_is_name ?l_is_name ?c_is_name ?k_is_name ?a_is_event ?l_is_event ?c_is_event ?k_is_event ?a_as_events ?l_as_events ?c_as_events ?k_as_events ?a_are_unlike ?l_are_unlike ?c_are_unlike ?k_are_unlike ?a_as_stacks ?l_as_stacks ?c_as_stacks ?k_as_stacks ?a_is_integer ?l_is_integer ?c_is_integer ?k_is_integer ?a_is_number ?l_is_number ?c_is_number ?k_is_number ?a__law_made ?l__law_made ?c__law_made ?k__law_made ?a__law_is_integer ?l__law_is_integer ?c__law_is_integer ?k__law_is_integer ?a__law_same_state ?l__law_same_state ?c__law_same_state ?k__law_same_state ?a__law_same_states ?l__law_same_states ?c__law_same_states ?k__law_same_states ?a_first_state ?l_first_state ?c_first_state ?k_first_state ?a_with_box ?l_with_box ?c_with_box ?k_with_box ?a_has_room ?l_has_room ?c_has_room ?k_has_room ?a_without_top ?l_without_top ?c_without_top ?k_without_top ?a_shifted ?l_shifted ?c_shifted ?k_shifted ?a_come ?l_come ?c_come ?k_come ?a_stack_with ?l_stack_with ?c_stack_with ?k_stack_with ?a_gone ?l_gone ?c_gone ?k_gone ?a_is_stack ?l_is_stack ?c_is_stack ?k_is_stack ?a_behind ?l_behind ?c_behind ?k_behind ?a_ways_on ?l_ways_on ?c_ways_on ?k_ways_on ?a_all_reached ?l_all_reached ?c_all_reached ?k_all_reached ?a_reached ?l_reached ?c_reached ?k_reached ?a__law_asked ?l__law_asked ?c__law_asked ?k__law_asked ?a_law ?l_law ?c_law ?k_law ?zn_range ?zn_int ?zn_len ?zn_tuple ?zn_abs ?zn_list ?zn_sorted ?zn_isinstance ?no4_stacks ?zn_str ?zg_MOST_LETTERS ?zg_LETTERS ?zn_all ?zg_OUT ?zg_IN ?no5_yard ?no5_events ?zn_bool ?no4_height ?zn_enumerate ?zg_SHIFT ?sub1_0 ?eC0 ?tC0 ?xhD0 ?sub2_0 ?sub3_0
      (case aC0 => k_is)
      (case aC1 => k_is)
      (case aC2 => k_is)
      (case aC3 => k_is)
      (case aC4 => k_is)
      (case aC5 => k_is)
      (case xL1 => k_is)
      (case sa1 => k_is)
      (case eC1 => k_is)
      (case tC1 => k_is)
      (case kC1 => k_is)
      (case iC1 => k_is)
      (case tI1 => k_is)
      (case lI1 => k_is)
      (case cI1 => k_is)
      (case lc1 => k_is)
      (case ld1 => k_is)
      (case hv1 => rfl)
      (case hf1 => rfl)
      (case xL0 => k_is)
      (case fi0 => k_is)
      (case iV1 => k_is)
      (case no1_value => k_is)
      (case xL2 => k_is)
      (case sa2 => k_is)
      (case eC2 => k_is)
      (case tC2 => k_is)
      (case kC2 => k_is)
      (case iC2 => k_is)
      (case tI2 => k_is)
      (case lI2 => k_is)
      (case cI2 => k_is)
      (case lc2 => k_is)
      (case ld2 => k_is)
      (case hv2 => rfl)
      (case hf2 => rfl)
      (case iV2 => k_is)
      (case no2_value => k_is)
      (case xL3 => k_is)
      (case sa3 => k_is)
      (case eC3 => k_is)
      (case tC3 => k_is)
      (case kC3 => k_is)
      (case iC3 => k_is)
      (case tI3 => k_is)
      (case lI3 => k_is)
      (case cI3 => k_is)
      (case lc3 => k_is)
      (case ld3 => k_is)
      (case hv3 => rfl)
      (case hf3 => rfl)
      (case iV3 => k_is)
      (case no3_value => k_is)
      (case zsuper => k_is)
      (case zany => k_is)
      (case pg4 => k_is)
      (case hd4 => k_is)
      (case po4 => k_is)
      (case sa4 => k_is)
      (case mk4 => k_is)
      (case iC4 => k_is)
      (case fn4 => k_is)
      (case kC4 => k_is)
      (case lI4 => k_is)
      (case cI4 => k_is)
      (case kI4 => k_is)
      (case pg5 => k_is)
      (case hd5 => k_is)
      (case po5 => k_is)
      (case sa5 => k_is)
      (case mk5 => k_is)
      (case iC5 => k_is)
      (case fn5 => k_is)
      (case kC5 => k_is)
      (case lI5 => k_is)
      (case cI5 => k_is)
      (case kI5 => k_is)
      (case a__law_draws => k_is)
      (case l__law_draws => k_is)
      (case c__law_draws => k_is)
      (case k__law_draws => k_is)
      (case a__law_names => k_is)
      (case l__law_names => k_is)
      (case c__law_names => k_is)
      (case k__law_names => k_is)
      (case a__law_piles => k_is)
      (case l__law_piles => k_is)
      (case c__law_piles => k_is)
      (case k__law_piles => k_is)
      (case a__law_cell => k_is)
      (case l__law_cell => k_is)
      (case c__law_cell => k_is)
      (case k__law_cell => k_is)
      (case a__law_standing => k_is)
      (case l__law_standing => k_is)
      (case c__law_standing => k_is)
      (case k__law_standing => k_is)
      (case a__law_calls => k_is)
      (case l__law_calls => k_is)
      (case c__law_calls => k_is)
      (case k__law_calls => k_is)
      (case a__law_task => k_is)
      (case l__law_task => k_is)
      (case c__law_task => k_is)
      (case k__law_task => k_is)
      (case a__law_with => k_is)
      (case l__law_with => k_is)
      (case c__law_with => k_is)
      (case k__law_with => k_is)
      (case a__law_deeds => k_is)
      (case l__law_deeds => k_is)
      (case c__law_deeds => k_is)
      (case k__law_deeds => k_is)
      (case a__law_reached => k_is)
      (case l__law_reached => k_is)
      (case c__law_reached => k_is)
      (case k__law_reached => k_is)
      (case a_is_sequence => k_is)
      (case l_is_sequence => k_is)
      (case c_is_sequence => k_is)
      (case k_is_sequence => k_is)
      (case a_boxes_of => k_is)
      (case l_boxes_of => k_is)
      (case c_boxes_of => k_is)
      (case k_boxes_of => k_is)
      (case a_is_name => k_is)
      (case l_is_name => k_is)
      (case c_is_name => k_is)
      (case k_is_name => k_is)
      (case a_is_event => k_is)
      (case l_is_event => k_is)
      (case c_is_event => k_is)
      (case k_is_event => k_is)
      (case a_as_events => k_is)
      (case l_as_events => k_is)
      (case c_as_events => k_is)
      (case k_as_events => k_is)
      (case a_are_unlike => k_is)
      (case l_are_unlike => k_is)
      (case c_are_unlike => k_is)
      (case k_are_unlike => k_is)
      (case a_as_stacks => k_is)
      (case l_as_stacks => k_is)
      (case c_as_stacks => k_is)
      (case k_as_stacks => k_is)
      (case a_is_integer => k_is)
      (case l_is_integer => k_is)
      (case c_is_integer => k_is)
      (case k_is_integer => k_is)
      (case a_is_number => k_is)
      (case l_is_number => k_is)
      (case c_is_number => k_is)
      (case k_is_number => k_is)
      (case a__law_made => k_is)
      (case l__law_made => k_is)
      (case c__law_made => k_is)
      (case k__law_made => k_is)
      (case a__law_is_integer => k_is)
      (case l__law_is_integer => k_is)
      (case c__law_is_integer => k_is)
      (case k__law_is_integer => k_is)
      (case a__law_same_state => k_is)
      (case l__law_same_state => k_is)
      (case c__law_same_state => k_is)
      (case k__law_same_state => k_is)
      (case a__law_same_states => k_is)
      (case l__law_same_states => k_is)
      (case c__law_same_states => k_is)
      (case k__law_same_states => k_is)
      (case a_first_state => k_is)
      (case l_first_state => k_is)
      (case c_first_state => k_is)
      (case k_first_state => k_is)
      (case a_with_box => k_is)
      (case l_with_box => k_is)
      (case c_with_box => k_is)
      (case k_with_box => k_is)
      (case a_has_room => k_is)
      (case l_has_room => k_is)
      (case c_has_room => k_is)
      (case k_has_room => k_is)
      (case a_without_top => k_is)
      (case l_without_top => k_is)
      (case c_without_top => k_is)
      (case k_without_top => k_is)
      (case a_shifted => k_is)
      (case l_shifted => k_is)
      (case c_shifted => k_is)
      (case k_shifted => k_is)
      (case a_come => k_is)
      (case l_come => k_is)
      (case c_come => k_is)
      (case k_come => k_is)
      (case a_stack_with => k_is)
      (case l_stack_with => k_is)
      (case c_stack_with => k_is)
      (case k_stack_with => k_is)
      (case a_gone => k_is)
      (case l_gone => k_is)
      (case c_gone => k_is)
      (case k_gone => k_is)
      (case a_is_stack => k_is)
      (case l_is_stack => k_is)
      (case c_is_stack => k_is)
      (case k_is_stack => k_is)
      (case a_behind => k_is)
      (case l_behind => k_is)
      (case c_behind => k_is)
      (case k_behind => k_is)
      (case a_ways_on => k_is)
      (case l_ways_on => k_is)
      (case c_ways_on => k_is)
      (case k_ways_on => k_is)
      (case a_all_reached => k_is)
      (case l_all_reached => k_is)
      (case c_all_reached => k_is)
      (case k_all_reached => k_is)
      (case a_reached => k_is)
      (case l_reached => k_is)
      (case c_reached => k_is)
      (case k_reached => k_is)
      (case a__law_asked => k_is)
      (case l__law_asked => k_is)
      (case c__law_asked => k_is)
      (case k__law_asked => k_is)
      (case a_law => k_is)
      (case l_law => k_is)
      (case c_law => k_is)
      (case k_law => k_is)
      (case zn_range => k_is)
      (case zn_int => k_is)
      (case zn_len => k_is)
      (case zn_tuple => k_is)
      (case zn_abs => k_is)
      (case zn_list => k_is)
      (case zn_sorted => k_is)
      (case zn_isinstance => k_is)
      (case no4_stacks => k_is)
      (case zn_str => k_is)
      (case zg_MOST_LETTERS => k_is)
      (case zg_LETTERS => k_is)
      (case zn_all => k_is)
      (case zg_OUT => k_is)
      (case zg_IN => k_is)
      (case no5_yard => k_is)
      (case no5_events => k_is)
      (case zn_bool => k_is)
      (case no4_height => k_is)
      (case zn_enumerate => k_is)
      (case zg_SHIFT => k_is)
      (case sub1_0 => k_is)
      (case eC0 => k_is)
      (case tC0 => k_is)
      (case xhD0 => k_is)
      (case sub2_0 => k_is)
      (case sub3_0 => k_is))
end
