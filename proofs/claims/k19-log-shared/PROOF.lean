import PyProof.Rows.All
import Wide.All
import OpenK.AllK
import Wide.FinOn
import HandS.ForMost
import HandS.ForExc
import HandS.Deep
import HandS.Walk
import HandS.TupAny
import HandS.Small
import HandS.Wide
import HandS.Style
import KE.LtData
import KE.SortData
import HandS.IsInst
import HandS.TupSets
import KE.KeyNested
import KE.KDictKeyed
import HandS.Comp
import HandS.TryOnly
import HandS.Conv
import HandS.DictTup
import KE.KDictSum
import HandS.Exc
import HandS.Ends
import PySem.Challenge.RW_twotabs_k19_log_shared
set_option Elab.async false
set_option linter.all false
set_option maxRecDepth 100000
set_option maxHeartbeats 4000000
/-! MBa: plain values, plain store, what relates them to the layer's values and heap; outcomes; judgements. -/
namespace Mn
open PySem L2

/-- a plain value: tuples are trees (con: a tuple that the module's top holds); lists, dicts, instances are places of the store -/
inductive Val where
  | non | bl (b : Bool) | int (i : Int) | str (x : Str) | tup (l : List Val) | con (l : List Val) | ref (n : Nat)

/-- what stands at a place of the store -/
inductive Ob where
  | lst (xs : List Val)
  | scr (xs : List Int)
  | dK (kvs : List (Key × Val))
  | dT (kvs : List (List Key × Val))
  | lkK (kvs : List (Key × Val))
  | lkT (kvs : List (List Key × Val))
  | ins (c : String) (fs : List (String × Val))
  | sett (xs : List Val)
  | exo (c : String) (fs : List (String × Val))

abbrev Sto := List Ob
abbrev Sl := List (Option Val)

/-- the outcome of an expression -/
inductive Out (α : Type) where
  | ok (a : α) (t : Sto)
  | ex (c : String) (fs : List (String × Val)) (t : Sto)
  | bad
def Out.bind {α β : Type} : Out α → (α → Sto → Out β) → Out β
  | .ok a t, f => f a t
  | .ex c fs t, _ => .ex c fs t
  | .bad, _ => .bad
@[simp] theorem Out.bind_ok {α β : Type} (a : α) (t : Sto) (f : α → Sto → Out β) : (Out.ok a t).bind f = f a t := rfl
@[simp] theorem Out.bind_ex {α β : Type} (c : String) (fs : List (String × Val)) (t : Sto) (f : α → Sto → Out β) : (Out.ex c fs t : Out α).bind f = .ex c fs t := rfl
@[simp] theorem Out.bind_bad {α β : Type} (f : α → Sto → Out β) : (Out.bad : Out α).bind f = .bad := rfl
def ofO {α : Type} : Option (α × Sto) → Out α
  | some (a, t) => .ok a t
  | none => .bad
@[simp] theorem ofO_some {α : Type} (a : α) (t : Sto) : ofO (some (a, t)) = .ok a t := rfl
@[simp] theorem ofO_none {α : Type} : (ofO none : Out α) = .bad := rfl
/-- the outcome of a statement -/
inductive SO where
  | nx (sl : Sl) (t : Sto)
  | rt (v : Val) (t : Sto)
  | bk (sl : Sl) (t : Sto)
  | ct (sl : Sl) (t : Sto)
  | ex (c : String) (fs : List (String × Val)) (sl : Sl) (t : Sto)
  | bad

abbrev E := Sl → Sto → Out Val
abbrev T := Sl → Sto → Out Bool
abbrev As := Sl → Sto → Out (List Val)
abbrev S := Sl → Sto → SO
abbrev MFn := List Val → Sto → Out Val

/-! ### relations -/
/-- a tuple of the module's top -/
def KTup (K : PySem.W.Frag) (a : Addr) (xs : List V) : Prop := ∃ (o : Obj) (its : Array Value) (n : Nat), K.lookup a = some o ∧ o.cls = .type "tuple" ∧ o.data = .seq its n ∧ its.size ≤ sizeLine ∧ Vals xs its.toList
theorem KTup.sq {K : PySem.W.Frag} {a : Addr} {xs : List V} (h : KTup K a xs) (H : Hp) : SqT K H a xs := .inr h
mutual
inductive RV (K : PySem.W.Frag) (H : Hp) (ρ : List Addr) : Val → V → Prop
  | non : RV K H ρ .non .non
  | bl (b : Bool) : RV K H ρ (.bl b) (.bl b)
  | int (i : Int) : RV K H ρ (.int i) (.int i)
  | str (x : Str) (ok : PyData.strOk x = true) : RV K H ρ (.str x) (.str x)
  | tup {a : Addr} {vs : List Val} {xs : List V} (h : H a = some (.tup xs)) (r : RVs K H ρ vs xs) : RV K H ρ (.tup vs) (.ref a)
  | con {a : Addr} {vs : List Val} {xs : List V} (h : KTup K a xs) (r : RVs K H ρ vs xs) : RV K H ρ (.con vs) (.ref a)
  | ref {n : Nat} {a : Addr} (h : ρ[n]? = some a) : RV K H ρ (.ref n) (.ref a)
inductive RVs (K : PySem.W.Frag) (H : Hp) (ρ : List Addr) : List Val → List V → Prop
  | nil : RVs K H ρ [] []
  | cons {v : Val} {vs : List Val} {x : V} {xs : List V} (r : RV K H ρ v x) (q : RVs K H ρ vs xs) : RVs K H ρ (v :: vs) (x :: xs)
end

structure Ext (K : PySem.W.Frag) (ρ : List Addr) (H : Hp) (ρ' : List Addr) (H' : Hp) : Prop where
  pre : ∀ (n : Nat) (a : Addr), ρ[n]? = some a → ρ'[n]? = some a
  tup : ∀ (a : Addr) (xs : List V), H a = some (.tup xs) → H' a = some (.tup xs)
theorem Ext.refl (K : PySem.W.Frag) (ρ : List Addr) (H : Hp) : Ext K ρ H ρ H := ⟨fun _ _ h => h, fun _ _ h => h⟩
theorem Ext.trans {K : PySem.W.Frag} {ρ ρ1 ρ2 : List Addr} {H H1 H2 : Hp} (a : Ext K ρ H ρ1 H1) (b : Ext K ρ1 H1 ρ2 H2) : Ext K ρ H ρ2 H2 :=
  ⟨fun n c h => b.pre n c (a.pre n c h), fun c xs h => b.tup c xs (a.tup c xs h)⟩
section
variable {K : PySem.W.Frag} {ρ ρ' : List Addr} {H H' : Hp}
mutual
theorem RV.mono (e : Ext K ρ H ρ' H') : ∀ {v : Val} {x : V}, RV K H ρ v x → RV K H' ρ' v x
  | _, _, .non => .non
  | _, _, .bl b => .bl b
  | _, _, .int i => .int i
  | _, _, .str x ok => .str x ok
  | _, _, .tup h r => .tup (e.tup _ _ h) (RVs.mono e r)
  | _, _, .con h r => .con h (RVs.mono e r)
  | _, _, .ref h => .ref (e.pre _ _ h)
theorem RVs.mono (e : Ext K ρ H ρ' H') : ∀ {vs : List Val} {xs : List V}, RVs K H ρ vs xs → RVs K H' ρ' vs xs
  | _, _, .nil => .nil
  | _, _, .cons r q => .cons (RV.mono e r) (RVs.mono e q)
end
theorem RVs.length : ∀ {vs : List Val} {xs : List V}, RVs K H ρ vs xs → vs.length = xs.length
  | _, _, .nil => rfl
  | _, _, .cons _ q => by rw [List.length_cons, List.length_cons, RVs.length q]
theorem RVs.get : ∀ {vs : List Val} {xs : List V} {i : Nat} {v : Val}, RVs K H ρ vs xs → vs[i]? = some v → ∃ x, xs[i]? = some x ∧ RV K H ρ v x
  | _, _, _, _, .nil, e => by simp at e
  | _, _, 0, _, .cons r _, e => by simp at e; subst e; exact ⟨_, rfl, r⟩
  | _, _, i + 1, v, .cons _ q, e => by
    obtain ⟨x, h1, h2⟩ := RVs.get (i := i) (v := v) q (by simpa using e)
    exact ⟨x, by simpa using h1, h2⟩
theorem RVs.get' : ∀ {vs : List Val} {xs : List V} {i : Nat} {x : V}, RVs K H ρ vs xs → xs[i]? = some x → ∃ v, vs[i]? = some v ∧ RV K H ρ v x
  | _, _, _, _, .nil, e => by simp at e
  | _, _, 0, _, .cons r _, e => by simp at e; subst e; exact ⟨_, rfl, r⟩
  | _, _, i + 1, v, .cons _ q, e => by
    obtain ⟨x, h1, h2⟩ := RVs.get' (i := i) (x := v) q (by simpa using e)
    exact ⟨x, by simpa using h1, h2⟩
theorem RVs.append : ∀ {vs us : List Val} {xs ys : List V}, RVs K H ρ vs xs → RVs K H ρ us ys → RVs K H ρ (vs ++ us) (xs ++ ys)
  | _, _, _, _, .nil, s => s
  | _, _, _, _, .cons r q, s => .cons r (RVs.append q s)
theorem RVs.take : ∀ {vs : List Val} {xs : List V} (n : Nat), RVs K H ρ vs xs → RVs K H ρ (vs.take n) (xs.take n)
  | _, _, 0, _ => .nil
  | _, _, _ + 1, .nil => .nil
  | _, _, n + 1, .cons r q => .cons r (RVs.take n q)
theorem RVs.drop : ∀ {vs : List Val} {xs : List V} (n : Nat), RVs K H ρ vs xs → RVs K H ρ (vs.drop n) (xs.drop n)
  | _, _, 0, r => r
  | _, _, _ + 1, .nil => .nil
  | _, _, n + 1, .cons _ q => RVs.drop n q
theorem RVs.set {v : Val} {x : V} (r : RV K H ρ v x) : ∀ {vs : List Val} {xs : List V} (i : Nat), RVs K H ρ vs xs → RVs K H ρ (vs.set i v) (xs.set i x)
  | _, _, _, .nil => .nil
  | _, _, 0, .cons _ q => .cons r q
  | _, _, i + 1, .cons p q => .cons p (RVs.set r i q)
theorem RVs.reverse {vs : List Val} {xs : List V} (h : RVs K H ρ vs xs) : RVs K H ρ vs.reverse xs.reverse := by
  induction h using RVs.rec (motive_1 := fun _ _ _ => True) with
  | nil => exact .nil
  | cons r q _ ih => rw [List.reverse_cons, List.reverse_cons]; exact ih.append (.cons r .nil)
  | _ => trivial
theorem RVs.dropLast {vs : List Val} {xs : List V} (h : RVs K H ρ vs xs) : RVs K H ρ vs.dropLast xs.dropLast := by
  rw [List.dropLast_eq_take, List.dropLast_eq_take, h.length]
  exact h.take _
theorem RVs.ints : ∀ (ns : List Int), RVs K H ρ (ns.map Val.int) (ns.map V.int)
  | [] => .nil
  | n :: r => .cons (.int n) (RVs.ints r)
theorem RVs.nil_iff {vs : List Val} {xs : List V} (h : RVs K H ρ vs xs) : vs = [] ↔ xs = [] := by
  cases h <;> simp
end
/-- pairs of a key and a value -/
inductive RKs {κ : Type} (K : PySem.W.Frag) (H : Hp) (ρ : List Addr) : List (κ × Val) → List (κ × V) → Prop
  | nil : RKs K H ρ [] []
  | cons {k : κ} {v : Val} {x : V} {vs : List (κ × Val)} {xs : List (κ × V)} (r : RV K H ρ v x) (q : RKs K H ρ vs xs) : RKs K H ρ ((k, v) :: vs) ((k, x) :: xs)
/-- the fields of an instance -/
inductive RFs (K : PySem.W.Frag) (H : Hp) (ρ : List Addr) : List (String × Val) → List (Str × V) → Prop
  | nil : RFs K H ρ [] []
  | cons {f : String} {v : Val} {x : V} {vs : List (String × Val)} {xs : List (Str × V)} (r : RV K H ρ v x) (q : RFs K H ρ vs xs) : RFs K H ρ ((f, v) :: vs) ((Str.ofString f, x) :: xs)
section
variable {κ : Type} {K : PySem.W.Frag} {ρ ρ' : List Addr} {H H' : Hp}
theorem RKs.mono (e : Ext K ρ H ρ' H') : ∀ {vs : List (κ × Val)} {xs : List (κ × V)}, RKs K H ρ vs xs → RKs K H' ρ' vs xs
  | _, _, .nil => .nil
  | _, _, .cons r q => .cons (r.mono e) (RKs.mono e q)
theorem RKs.length : ∀ {vs : List (κ × Val)} {xs : List (κ × V)}, RKs K H ρ vs xs → vs.length = xs.length
  | _, _, .nil => rfl
  | _, _, .cons _ q => by rw [List.length_cons, List.length_cons, RKs.length q]
theorem RFs.mono (e : Ext K ρ H ρ' H') : ∀ {vs : List (String × Val)} {xs : List (Str × V)}, RFs K H ρ vs xs → RFs K H' ρ' vs xs
  | _, _, .nil => .nil
  | _, _, .cons r q => .cons (r.mono e) (RFs.mono e q)
theorem RFs.length : ∀ {vs : List (String × Val)} {xs : List (Str × V)}, RFs K H ρ vs xs → vs.length = xs.length
  | _, _, .nil => rfl
  | _, _, .cons _ q => by rw [List.length_cons, List.length_cons, RFs.length q]
end

/-- the classes' addresses, by name -/
abbrev Cn := String → Addr
/-- an object of the store and what the layer tells of its address -/
def RH (K : PySem.W.Frag) (cn : Cn) (ρ : List Addr) (H : Hp) : Ob → HO → Prop
  | .lst vs, .lst xs => RVs K H ρ vs xs
  | .scr ns, .frz _ (.lst xs) => xs = ns.map V.int
  | .dK kvs, .dK ks => RKs K H ρ kvs ks
  | .dT kvs, .dT ks => RKs K H ρ kvs ks
  | .lkK kvs, .frz _ (.dK ks) => RKs K H ρ kvs ks
  | .lkT kvs, .frz _ (.dT ks) => RKs K H ρ kvs ks
  | .ins c fs, .ins C _ xs => C = cn c ∧ RFs K H ρ fs xs
  | _, _ => False
theorem RH.mono {K : PySem.W.Frag} {cn : Cn} {ρ ρ' : List Addr} {H H' : Hp} (e : Ext K ρ H ρ' H') {o : Ob} {ho : HO} (h : RH K cn ρ H o ho) : RH K cn ρ' H' o ho := by
  cases o with
  | lst vs => cases ho <;> first | exact RVs.mono e h | exact h
  | scr ns =>
    cases ho with
    | frz o u => cases u <;> exact h
    | _ => exact h
  | dK kvs => cases ho <;> first | exact RKs.mono e h | exact h
  | dT kvs => cases ho <;> first | exact RKs.mono e h | exact h
  | lkK kvs =>
    cases ho with
    | frz o u => cases u <;> first | exact RKs.mono e h | exact h
    | _ => exact h
  | lkT kvs =>
    cases ho with
    | frz o u => cases u <;> first | exact RKs.mono e h | exact h
    | _ => exact h
  | ins c fs => cases ho <;> first | exact ⟨h.1, h.2.mono e⟩ | exact h
  | sett xs => cases ho <;> exact h
  | exo c fs => cases ho <;> exact h
/-- the script may be an object of the module -/
def ScrK (K : PySem.W.Frag) (a : Addr) (o : Ob) : Prop := ∃ ns : List Int, o = .scr ns ∧ ∃ (ob : Obj) (its : Array Value) (n : Nat), K.lookup a = some ob ∧ ob.cls = .type "list" ∧ ob.dict = none ∧ ob.data = .seq its n ∧ its.size ≤ sizeLine ∧ Vals (ns.map V.int) its.toList
structure Rel (K : PySem.W.Frag) (cn : Cn) (ρ : List Addr) (t : Sto) (H : Hp) : Prop where
  len : ρ.length = t.length
  sep : ∀ (n m : Nat) (a : Addr), ρ[n]? = some a → ρ[m]? = some a → n = m ∨ (∃ xs, t[n]? = some (.scr xs)) ∨ (∃ xs, t[m]? = some (.scr xs))
  ob : ∀ (n : Nat) (a : Addr) (o : Ob), ρ[n]? = some a → t[n]? = some o → (∃ ho, H a = some ho ∧ RH K cn ρ H o ho) ∨ ScrK K a o
theorem Rel.at {K : PySem.W.Frag} {cn : Cn} {ρ : List Addr} {t : Sto} {H : Hp} (R : Rel K cn ρ t H) {n : Nat} {a : Addr} {o : Ob} (h : ρ[n]? = some a) (ht : t[n]? = some o) (hs : ∀ xs, o ≠ .scr xs) : ∃ ho, H a = some ho ∧ RH K cn ρ H o ho := by
  rcases R.ob n a o h ht with r | ⟨ns, e, _⟩
  · exact r
  · exact absurd e (hs ns)
/-- slots -/
inductive RS (K : PySem.W.Frag) (H : Hp) (ρ : List Addr) : Sl → St → Prop
  | nil : RS K H ρ [] []
  | skip {o : Option V} {sl : Sl} {σ : St} (q : RS K H ρ sl σ) : RS K H ρ (none :: sl) (o :: σ)
  | cons {v : Val} {x : V} {sl : Sl} {σ : St} (r : RV K H ρ v x) (q : RS K H ρ sl σ) : RS K H ρ (some v :: sl) (some x :: σ)
section
variable {K : PySem.W.Frag} {ρ ρ' : List Addr} {H H' : Hp}
theorem RS.mono (e : Ext K ρ H ρ' H') : ∀ {sl : Sl} {σ : St}, RS K H ρ sl σ → RS K H' ρ' sl σ
  | _, _, .nil => .nil
  | _, _, .skip q => .skip (RS.mono e q)
  | _, _, .cons r q => .cons (r.mono e) (RS.mono e q)
theorem RS.get : ∀ {sl : Sl} {σ : St} {i : Nat} {v : Val}, RS K H ρ sl σ → sl[i]? = some (some v) → ∃ x, σ[i]? = some (some x) ∧ RV K H ρ v x
  | _, _, _, _, .nil, e => by simp at e
  | _, _, 0, _, .skip q, e => by simp at e
  | _, _, 0, _, .cons r _, e => by simp at e; subst e; exact ⟨_, rfl, r⟩
  | _, _, i + 1, v, .skip q, e => by
    obtain ⟨x, h1, h2⟩ := RS.get (i := i) (v := v) q (by simpa using e)
    exact ⟨x, by simpa using h1, h2⟩
  | _, _, i + 1, v, .cons _ q, e => by
    obtain ⟨x, h1, h2⟩ := RS.get (i := i) (v := v) q (by simpa using e)
    exact ⟨x, by simpa using h1, h2⟩
theorem RS.set {v : Val} {x : V} (r : RV K H ρ v x) : ∀ {sl : Sl} {σ : St} (i : Nat), RS K H ρ sl σ → RS K H ρ (sl.set i (some v)) (σ.set i (some x))
  | _, _, _, .nil => .nil
  | _, _, 0, .skip q => .cons r q
  | _, _, 0, .cons _ q => .cons r q
  | _, _, i + 1, .skip q => .skip (RS.set r i q)
  | _, _, i + 1, .cons p q => .cons p (RS.set r i q)
theorem RS.clr {o : Option V} : ∀ {sl : Sl} {σ : St} (i : Nat), RS K H ρ sl σ → RS K H ρ (sl.set i none) (σ.set i o)
  | _, _, _, .nil => .nil
  | _, _, 0, .skip q => .skip q
  | _, _, 0, .cons _ q => .skip q
  | _, _, i + 1, .skip q => .skip (RS.clr i q)
  | _, _, i + 1, .cons p q => .cons p (RS.clr i q)
theorem RS.length : ∀ {sl : Sl} {σ : St}, RS K H ρ sl σ → sl.length = σ.length
  | _, _, .nil => rfl
  | _, _, .skip q => by rw [List.length_cons, List.length_cons, RS.length q]
  | _, _, .cons _ q => by rw [List.length_cons, List.length_cons, RS.length q]
end

/-! ### heaps that grow or change -/
section
variable {K : PySem.W.Frag} {cn : Cn} {ρ : List Addr} {t : Sto} {H : Hp}
/-- what is not a tuple -/
def notTup : HO → Prop
  | .tup _ => False
  | _ => True
theorem sqT_upd {p : Addr} {o : HO} (h : H p = none ∨ ∃ u, H p = some u ∧ notTup u) {a : Addr} {xs : List V} (q : H a = some (.tup xs)) : (upd H p o) a = some (.tup xs) := by
  have ne : a ≠ p := fun z => by
    subst z
    rcases h with h | ⟨u', h, z⟩
    · rw [h] at q; cases q
    · rw [h] at q; cases q; exact z
  rw [upd_ne ne]; exact q
theorem ext_upd {p : Addr} {o : HO} (h : H p = none ∨ ∃ u, H p = some u ∧ notTup u) : Ext K ρ H ρ (upd H p o) := ⟨fun _ _ e => e, fun _ _ q => sqT_upd h q⟩
/-- something that the store does not hold is laid -/
theorem Rel.other {p : Addr} {o : HO} (R : Rel K cn ρ t H) (h : H p = none) : Rel K cn ρ t (upd H p o) where
  len := R.len
  sep := R.sep
  ob := fun n a ob e1 e2 => by
    rcases R.ob n a ob e1 e2 with ⟨ho, e, r⟩ | z
    · exact .inl ⟨ho, by rw [upd_ne (ne_of_none e h)]; exact e, r.mono (ext_upd (.inl h))⟩
    · exact .inr z
/-- a new object of the store -/
theorem ext_alloc {p : Addr} {o : HO} (h : H p = none) : Ext K ρ H (ρ ++ [p]) (upd H p o) :=
  ⟨fun n a e => by
    have hn : n < ρ.length := (List.getElem?_eq_some_iff.mp e).1
    rw [List.getElem?_append_left hn]; exact e, fun _ _ q => sqT_upd (.inl h) q⟩
theorem Rel.alloc {p : Addr} {o : Ob} {ho : HO} (R : Rel K cn ρ t H) (h : H p = none) (r : RH K cn ρ H o ho) : Rel K cn (ρ ++ [p]) (t ++ [o]) (upd H p ho) where
  len := by rw [List.length_append, List.length_append, R.len]; rfl
  sep := fun n m a e1 e2 => by
    have key : ∀ n, (ρ ++ [p])[n]? = some a → (n < ρ.length ∧ ρ[n]? = some a) ∨ (n = ρ.length ∧ a = p) := fun n e => by
      by_cases hn : n < ρ.length
      · rw [List.getElem?_append_left hn] at e; exact .inl ⟨hn, e⟩
      · rw [List.getElem?_append_right (Nat.le_of_not_lt hn)] at e
        have hz : n - ρ.length = 0 := by
          have := (List.getElem?_eq_some_iff.mp e).1
          simp at this; omega
        rw [hz] at e
        have e' : p = a := by simpa using e
        exact .inr ⟨by omega, e'.symm⟩
    have old : ∀ n, n < ρ.length → ρ[n]? = some a → a = p → ∃ xs, (t ++ [o])[n]? = some (.scr xs) := fun n hn e ea => by
      have hn' : n < t.length := by rw [← R.len]; exact hn
      rcases R.ob n a t[n] e (List.getElem?_eq_getElem hn') with ⟨ho', q, _⟩ | ⟨ns, z, _⟩
      · rw [ea, h] at q; cases q
      · exact ⟨ns, by rw [List.getElem?_append_left hn', List.getElem?_eq_getElem hn', z]⟩
    rcases key n e1 with ⟨n1, n2⟩ | ⟨n1, n2⟩ <;> rcases key m e2 with ⟨m1, m2⟩ | ⟨m1, m2⟩
    · rcases R.sep n m a n2 m2 with z | ⟨xs, z⟩ | ⟨xs, z⟩
      · exact .inl z
      · exact .inr (.inl ⟨xs, by rw [List.getElem?_append_left (by rw [← R.len]; exact n1)]; exact z⟩)
      · exact .inr (.inr ⟨xs, by rw [List.getElem?_append_left (by rw [← R.len]; exact m1)]; exact z⟩)
    · exact .inr (.inl (old n n1 n2 m2))
    · exact .inr (.inr (old m m1 m2 n2))
    · exact .inl (by omega)
  ob := fun n a ob e1 e2 => by
    by_cases hn : n < ρ.length
    · have hn' : n < t.length := by rw [← R.len]; exact hn
      rw [List.getElem?_append_left hn] at e1
      rw [List.getElem?_append_left hn'] at e2
      rcases R.ob n a ob e1 e2 with ⟨ho', e, r'⟩ | z
      · exact .inl ⟨ho', by rw [upd_ne (ne_of_none e h)]; exact e, r'.mono (ext_alloc h)⟩
      · exact .inr z
    · have hl : n = ρ.length := by
        have := (List.getElem?_eq_some_iff.mp e1).1
        rw [List.length_append, List.length_singleton] at this
        omega
      subst hl
      rw [List.getElem?_append_right (Nat.le_refl _), Nat.sub_self] at e1
      rw [R.len, List.getElem?_append_right (Nat.le_refl _), Nat.sub_self] at e2
      have e1' : p = a := by simpa using e1
      have e2' : o = ob := by simpa using e2
      subst e1' e2'
      exact .inl ⟨ho, upd_same, r.mono (ext_alloc h)⟩
theorem alloc_ref {p : Addr} {H' : Hp} (R : Rel K cn ρ t H) : RV K H' (ρ ++ [p]) (.ref t.length) (.ref p) := by
  refine .ref ?_
  rw [← R.len, List.getElem?_append_right (Nat.le_refl _), Nat.sub_self]
  rfl
/-- an object of the store is changed -/
theorem Rel.set {n : Nat} {a : Addr} {o o' : Ob} {ho ho' : HO} (R : Rel K cn ρ t H) (e : ρ[n]? = some a) (et : t[n]? = some o) (hs : ∀ xs, o ≠ .scr xs) (eh : H a = some ho) (nt : notTup ho) (nf : ∀ ob xs, ho ≠ .frz ob (.lst xs)) (r : RH K cn ρ H o' ho') (hs' : ∀ xs, o' ≠ .scr xs) :
    Rel K cn ρ (t.set n o') (upd H a ho') where
  len := by rw [List.length_set]; exact R.len
  sep := fun i j b e1 e2 => by
    rcases R.sep i j b e1 e2 with z | ⟨xs, z⟩ | ⟨xs, z⟩
    · exact .inl z
    · by_cases hi : i = n
      · subst hi; rw [et] at z; cases z; exact absurd rfl (hs xs)
      · exact .inr (.inl ⟨xs, by rw [List.getElem?_set_ne (Ne.symm hi)]; exact z⟩)
    · by_cases hj : j = n
      · subst hj; rw [et] at z; cases z; exact absurd rfl (hs xs)
      · exact .inr (.inr ⟨xs, by rw [List.getElem?_set_ne (Ne.symm hj)]; exact z⟩)
  ob := fun i b ob e1 e2 => by
    have hx : Ext K ρ H ρ (upd H a ho') := ext_upd (.inr ⟨ho, eh, nt⟩)
    by_cases hi : i = n
    · subst hi
      rw [e] at e1; cases e1
      have hl : i < t.length := (List.getElem?_eq_some_iff.mp et).1
      rw [List.getElem?_set_self hl] at e2; cases e2
      exact .inl ⟨ho', upd_same, r.mono hx⟩
    · rw [List.getElem?_set_ne (Ne.symm hi)] at e2
      rcases R.ob i b ob e1 e2 with ⟨hb, q, r'⟩ | z
      · by_cases hb' : b = a
        · subst hb'
          rcases R.sep i n b e1 e with z | ⟨xs, z⟩ | ⟨xs, z⟩
          · exact absurd z hi
          · rw [e2] at z; cases z
            rw [eh] at q; cases q
            cases ho with
            | frz o1 u => cases u <;> first | exact absurd rfl (nf _ _) | exact (show False from r').elim
            | _ => exact (show False from r').elim
          · rw [et] at z; cases z; exact absurd rfl (hs xs)
        · exact .inl ⟨hb, by rw [upd_ne hb']; exact q, r'.mono hx⟩
      · exact .inr z
end

/-! ### what is wanted of an outcome -/
section
variable (K : PySem.W.Frag) (cn : Cn)
/-- an exception's own dict -/
def RX (ρ : List Addr) (H : Hp) (fs : List (String × Val)) (d : Option Addr) : Prop := (fs = [] ∧ d = none) ∨ ∃ dd xs, d = some dd ∧ H dd = some (.xd xs) ∧ RFs K H ρ fs xs
def okG {α β : Type} (W : WX) (ρ : List Addr) (σ : St) (H : Hp) (R : Hp → List Addr → α → β → Prop) (Q : β → Hp → Prop) : Out α → Prop
  | .ok a t' => ∀ ρ' H' x, Ext K ρ H ρ' H' → Rel K cn ρ' t' H' → R H' ρ' a x → Q x H'
  | .ex c fs t' => ∀ ρ' H' d, Ext K ρ H ρ' H' → Rel K cn ρ' t' H' → RX K ρ' H' fs d → W (.ref (cn c)) d σ H'
  | .bad => False
/-- .. of a primitive's outcome: no exception -/
def okP {α β : Type} (ρ : List Addr) (H : Hp) (R : Hp → List Addr → α → β → Prop) (Q : β → Hp → Prop) : Option (α × Sto) → Prop
  | some (a, t') => ∀ ρ' H' x, Ext K ρ H ρ' H' → Rel K cn ρ' t' H' → R H' ρ' a x → Q x H'
  | none => False
abbrev RVr : Hp → List Addr → Val → V → Prop := fun H ρ v x => RV K H ρ v x
abbrev RVsr : Hp → List Addr → List Val → List V → Prop := fun H ρ v x => RVs K H ρ v x
abbrev Reqr : Hp → List Addr → Bool → Bool → Prop := fun _ _ a b => a = b
def tE (W : WX) (m : E) : TE := fun σ H Q => ∃ ρ sl t, Rel K cn ρ t H ∧ RS K H ρ sl σ ∧ okG K cn W ρ σ H (RVr K) Q (m sl t)
def tT (W : WX) (m : T) : TT := fun σ H Q => ∃ ρ sl t, Rel K cn ρ t H ∧ RS K H ρ sl σ ∧ okG K cn W ρ σ H Reqr Q (m sl t)
def tA (W : WX) (m : As) : TA := fun σ H Q => ∃ ρ sl t, Rel K cn ρ t H ∧ RS K H ρ sl σ ∧ okG K cn W ρ σ H (RVsr K) Q (m sl t)
def okS (W : WX) (ρ : List Addr) (H : Hp) (D : Ends) : SO → Prop
  | .nx sl' t' => ∀ ρ' H' σ', Ext K ρ H ρ' H' → Rel K cn ρ' t' H' → RS K H' ρ' sl' σ' → D.nx σ' H'
  | .rt v t' => ∀ ρ' H' x, Ext K ρ H ρ' H' → Rel K cn ρ' t' H' → RV K H' ρ' v x → D.rt x H'
  | .bk sl' t' => ∀ ρ' H' σ', Ext K ρ H ρ' H' → Rel K cn ρ' t' H' → RS K H' ρ' sl' σ' → D.bk σ' H'
  | .ct sl' t' => ∀ ρ' H' σ', Ext K ρ H ρ' H' → Rel K cn ρ' t' H' → RS K H' ρ' sl' σ' → D.ct σ' H'
  | .ex c fs sl' t' => ∀ ρ' H' σ' d, Ext K ρ H ρ' H' → Rel K cn ρ' t' H' → RS K H' ρ' sl' σ' → RX K ρ' H' fs d → W (.ref (cn c)) d σ' H'
  | .bad => False
def tS (W : WX) (m : S) : TS := fun D σ H => ∃ ρ sl t, Rel K cn ρ t H ∧ RS K H ρ sl σ ∧ okS K cn W ρ H D (m sl t)
end
section
variable {K : PySem.W.Frag} {cn : Cn} {W : WX} {ρ ρ1 : List Addr} {σ : St} {H H1 : Hp} {D : Ends}
theorem okG.mono {α β : Type} {R : Hp → List Addr → α → β → Prop} {Q : β → Hp → Prop} {o : Out α} (e : Ext K ρ H ρ1 H1) (h : okG K cn W ρ σ H R Q o) : okG K cn W ρ1 σ H1 R Q o := by
  cases o with
  | ok a t => exact fun ρ' H' x e' => h ρ' H' x (e.trans e')
  | ex c fs t => exact fun ρ' H' d e' => h ρ' H' d (e.trans e')
  | bad => exact h
theorem okP.mono {α β : Type} {R : Hp → List Addr → α → β → Prop} {Q : β → Hp → Prop} {o : Option (α × Sto)} (e : Ext K ρ H ρ1 H1) (h : okP K cn ρ H R Q o) : okP K cn ρ1 H1 R Q o := by
  cases o with
  | some a => obtain ⟨a, t⟩ := a; exact fun ρ' H' x e' => h ρ' H' x (e.trans e')
  | none => exact h
theorem okS.mono {o : SO} (e : Ext K ρ H ρ1 H1) (h : okS K cn W ρ H D o) : okS K cn W ρ1 H1 D o := by
  cases o with
  | nx sl t => exact fun ρ' H' x e' => h ρ' H' x (e.trans e')
  | rt v t => exact fun ρ' H' x e' => h ρ' H' x (e.trans e')
  | bk sl t => exact fun ρ' H' x e' => h ρ' H' x (e.trans e')
  | ct sl t => exact fun ρ' H' x e' => h ρ' H' x (e.trans e')
  | ex c fs sl t => exact fun ρ' H' x d e' => h ρ' H' x d (e.trans e')
  | bad => exact h
theorem okG.toP {α β : Type} {R : Hp → List Addr → α → β → Prop} {Q : β → Hp → Prop} {o : Option (α × Sto)} (h : okG K cn W ρ σ H R Q (ofO o)) : okP K cn ρ H R Q o := by
  cases o with
  | some a => obtain ⟨a, t⟩ := a; exact h
  | none => exact h
theorem okG.bind {α β γ δ : Type} {R : Hp → List Addr → α → β → Prop} {S : Hp → List Addr → γ → δ → Prop} {Q : δ → Hp → Prop} {P : β → Hp → Prop} {m : Out α} {f : α → Sto → Out γ}
    (h : okG K cn W ρ σ H S Q (m.bind f)) (k : ∀ v t1 ρ1 H1 x, Ext K ρ H ρ1 H1 → Rel K cn ρ1 t1 H1 → R H1 ρ1 v x → okG K cn W ρ1 σ H1 S Q (f v t1) → P x H1) : okG K cn W ρ σ H R P m := by
  cases m with
  | ok a t => exact fun ρ' H' x e r rv => k a t ρ' H' x e r rv (okG.mono e h)
  | ex c fs t => exact h
  | bad => exact h
/-- an expression's outcome, then a statement -/
def SO.ofE {α : Type} (o : Out α) (sl : Sl) (f : α → Sto → SO) : SO := match o with
  | .ok a t => f a t
  | .ex c fs t => .ex c fs sl t
  | .bad => .bad
@[simp] theorem SO.ofE_ok {α : Type} (a : α) (t : Sto) (sl : Sl) (f : α → Sto → SO) : SO.ofE (.ok a t) sl f = f a t := rfl
@[simp] theorem SO.ofE_ex {α : Type} (c : String) (fs : List (String × Val)) (t : Sto) (sl : Sl) (f : α → Sto → SO) : SO.ofE (.ex c fs t : Out α) sl f = .ex c fs sl t := rfl
@[simp] theorem SO.ofE_bad {α : Type} (sl : Sl) (f : α → Sto → SO) : SO.ofE (.bad : Out α) sl f = .bad := rfl
theorem okS.ofE {α β : Type} {R : Hp → List Addr → α → β → Prop} {P : β → Hp → Prop} {m : Out α} {sl : Sl} {f : α → Sto → SO} (rs : RS K H ρ sl σ)
    (h : okS K cn W ρ H D (SO.ofE m sl f)) (k : ∀ v t1 ρ1 H1 x, Ext K ρ H ρ1 H1 → Rel K cn ρ1 t1 H1 → R H1 ρ1 v x → okS K cn W ρ1 H1 D (f v t1) → P x H1) : okG K cn W ρ σ H R P m := by
  cases m with
  | ok a t => exact fun ρ' H' x e r rv => k a t ρ' H' x e r rv (okS.mono e h)
  | ex c fs t => exact fun ρ' H' d e r rx => h ρ' H' σ d e r (rs.mono e) rx
  | bad => exact h
end
end Mn

set_option Elab.async false
set_option linter.all false
set_option maxRecDepth 100000
set_option maxHeartbeats 4000000
/-! MBb: expressions: names, constants, operators, comparisons, tests, displays, subscripts, slices. -/
namespace L2
open PySem
section
variable {X : Cx}
theorem PE.imp {e : Expr} {t t' : TE} (h : PE X e t) (q : ∀ σ H Q, t' σ H Q → t σ H Q) : PE X e t' := ⟨fun pins s σ H Q I hw => h.run pins s σ H Q I (q _ _ _ hw)⟩
theorem PT.imp {e : Expr} {t t' : TT} (h : PT X e t) (q : ∀ σ H Q, t' σ H Q → t σ H Q) : PT X e t' := ⟨fun pins s σ H Q I hw => h.run pins s σ H Q I (q _ _ _ hw)⟩
theorem PW.imp {e : Expr} {t t' : TT} (h : PW X e t) (q : ∀ σ H Q, t' σ H Q → t σ H Q) : PW X e t' := ⟨fun w pins s σ H Q I hw => h.run w pins s σ H Q I (q _ _ _ hw)⟩
theorem PA.imp {es : List Expr} {t t' : TA} (h : PA X es t) (q : ∀ σ H Q, t' σ H Q → t σ H Q) : PA X es t' := ⟨fun p pins s σ H Q I hw => h.run p pins s σ H Q I (q _ _ _ hw)⟩
theorem PS.imp {st : Stmt} {t t' : TS} (h : PS X st t) (q : ∀ D σ H, t' D σ H → t D σ H) : PS X st t' := ⟨fun pins s σ H D I hw => h.run pins s σ H D I (q _ _ _ hw)⟩
theorem PSs.imp {st : List Stmt} {t t' : TS} (h : PSs X st t) (q : ∀ D σ H, t' D σ H → t D σ H) : PSs X st t' := ⟨fun pins s σ H D I hw => h.run pins s σ H D I (q _ _ _ hw)⟩
theorem OpR.imp {f : Value → Value → Sem Value} {r r' : R2} (h : OpR X f r) (q : ∀ x y H Q, r' x y H Q → r x y H Q) : OpR X f r' := fun pins s σ H x y v u Q I rx ry hw => h pins s σ H x y v u Q I rx ry (q _ _ _ _ hw)
end

end L2
namespace Mn
open PySem L2

/-- a two-place operation on plain values -/
abbrev G2 := Val → Val → Sto → Option (Val × Sto)
def rO (K : PySem.W.Frag) (cn : Cn) (g : G2) : R2 := fun x y H Q => ∃ ρ t v u, Rel K cn ρ t H ∧ RV K H ρ v x ∧ RV K H ρ u y ∧ okP K cn ρ H (RVr K) Q (g v u t)

def mVar (i : Nat) : E := fun sl t => match sl[i]? with
  | some (some v) => .ok v t
  | _ => .bad
def mC (v : Val) : E := fun _ t => .ok v t
def mBin (g : G2) (a b : E) : E := fun sl t => (a sl t).bind fun v t1 => (b sl t1).bind fun u t2 => ofO (g v u t2)
/-- a value that is a bool, as a test -/
def asB : Val → Sto → Out Bool
  | .bl b, t => .ok b t
  | _, _ => .bad
def mTst (m : E) : T := fun sl t => (m sl t).bind asB
def mAnd (a b : T) : T := fun sl t => (a sl t).bind fun c t1 => if c = true then b sl t1 else .ok false t1
def mOr (a b : T) : T := fun sl t => (a sl t).bind fun c t1 => if c = true then .ok true t1 else b sl t1
def mNot (a : T) : T := fun sl t => (a sl t).bind fun c t1 => .ok (!c) t1
def mAndV (a b : E) : E := fun sl t => (a sl t).bind fun v t1 => (asB v t1).bind fun c t2 => if c = true then b sl t2 else .ok (.bl false) t2
def mOrV (a b : E) : E := fun sl t => (a sl t).bind fun v t1 => (asB v t1).bind fun c t2 => if c = true then .ok (.bl true) t2 else b sl t2
def mNotV (a : E) : E := fun sl t => (a sl t).bind fun v t1 => (asB v t1).bind fun c t2 => .ok (.bl (!c)) t2
def mChain (g g' : G2) (a b c : E) : E := fun sl t => (a sl t).bind fun v t1 => (b sl t1).bind fun u t2 => (ofO (g v u t2)).bind fun r t3 => (asB r t3).bind fun k t4 =>
  if k = true then (c sl t4).bind fun w t5 => ofO (g' u w t5) else .ok (.bl false) t4
def mAs : List E → As
  | [] => fun _ t => .ok [] t
  | e :: r => fun sl t => (e sl t).bind fun v t1 => (mAs r sl t1).bind fun vs t2 => .ok (v :: vs) t2
def mTup (es : List E) : E := fun sl t => (mAs es sl t).bind fun vs t1 => .ok (.tup vs) t1
def mLst (es : List E) : E := fun sl t => (mAs es sl t).bind fun vs t1 => .ok (.ref t1.length) (t1 ++ [.lst vs])

section
variable {X : Cx} {cn : Cn} {W : WX} {e a b c : Expr} {pos : Pos} {m ma mb mc : E} {mA mB : T}
theorem me_var {i : Nat} (h : PE X e (tVar i)) : PE X e (tE X.K cn W (mVar i)) := h.imp fun σ H Q ⟨ρ, sl, t, rel, rs, h⟩ => by
  unfold mVar at h
  split at h
  · rename_i v hv
    obtain ⟨x, hx, rv⟩ := rs.get hv
    exact ⟨x, hx, h ρ H x (Ext.refl _ _ _) rel rv⟩
  · exact h.elim
theorem me_c {v : Val} {x : V} (hv : ∀ H ρ, RV X.K H ρ v x) (h : PE X e (tC x)) : PE X e (tE X.K cn W (mC v)) := h.imp fun σ H Q ⟨ρ, sl, t, rel, rs, h⟩ => h ρ H x (Ext.refl _ _ _) rel (hv H ρ)
theorem me_int {i : Int} {j} : PE X (.Constant (.int i) j pos) (tE X.K cn W (mC (.int i))) := me_c (fun _ _ => .int i) pe_int
theorem me_bl {b : Bool} {j} : PE X (.Constant (.bool b) j pos) (tE X.K cn W (mC (.bl b))) := me_c (fun _ _ => .bl b) pe_bl
theorem me_non {j} : PE X (.Constant .none j pos) (tE X.K cn W (mC .non)) := me_c (fun _ _ => .non) pe_non
theorem me_str {x : Str} {j} (ok : PyData.strOk x = true) : PE X (.Constant (.str x) j pos) (tE X.K cn W (mC (.str x))) := me_c (fun _ _ => .str x ok) pe_str
theorem bin_red {K : PySem.W.Frag} {g : G2} {σ : St} {H : Hp} {Q : VK} (h : tE K cn W (mBin g ma mb) σ H Q) : tOp (rO K cn g) (tE K cn W ma) (tE K cn W mb) σ H Q := by
  obtain ⟨ρ, sl, t, rel, rs, h⟩ := h
  exact ⟨ρ, sl, t, rel, rs, okG.bind h fun v t1 ρ1 H1 x e1 r1 rv h1 => ⟨ρ1, sl, t1, r1, rs.mono e1, okG.bind h1 fun u t2 ρ2 H2 y e2 r2 ru h2 => ⟨ρ2, t2, v, u, r2, rv.mono e2, ru, h2.toP⟩⟩⟩
theorem me_bin {op : Operator} {g : G2} (ho : OpR X (binaryOp op) (rO X.K cn g)) (ha : PE X a (tE X.K cn W ma)) (hb : PE X b (tE X.K cn W mb)) : PE X (.BinOp a op b pos) (tE X.K cn W (mBin g ma mb)) := (pe_op ho ha hb).imp fun _ _ _ h => bin_red h
theorem me_cmp {op : CmpOp} {g : G2} (ho : OpR X (compareOp op) (rO X.K cn g)) (ha : PE X a (tE X.K cn W ma)) (hb : PE X b (tE X.K cn W mb)) (hm : behindInMarks op b = false) : PE X (.Compare a [op] [b] pos) (tE X.K cn W (mBin g ma mb)) :=
  (pe_cmpR ho ha hb hm).imp fun _ _ _ h => bin_red h
theorem tst_red {K : PySem.W.Frag} {σ : St} {H : Hp} {Q : Bool → Hp → Prop} (h : tT K cn W (mTst m) σ H Q) : tE K cn W m σ H fun x H' => ∃ k, x = .bl k ∧ Q k H' := by
  obtain ⟨ρ, sl, t, rel, rs, h⟩ := h
  refine ⟨ρ, sl, t, rel, rs, okG.bind h fun v t1 ρ1 H1 x e1 r1 rv h1 => ?_⟩
  cases v with
  | bl k =>
    cases rv
    exact ⟨k, rfl, h1 ρ1 H1 k (Ext.refl _ _ _) r1 rfl⟩
  | _ => exact (show False from h1).elim
theorem mt_cmp {op : CmpOp} {g : G2} (ho : OpR X (compareOp op) (rO X.K cn g)) (ha : PE X a (tE X.K cn W ma)) (hb : PE X b (tE X.K cn W mb)) (hm : behindInMarks op b = false) : PT X (.Compare a [op] [b] pos) (tT X.K cn W (mTst (mBin g ma mb))) :=
  (pt_cmpR ho ha hb hm).imp fun _ _ _ h => bin_red_q (tst_red h)
where
  bin_red_q {K : PySem.W.Frag} {g : G2} {σ : St} {H : Hp} {Q : VK} (h : tE K cn W (mBin g ma mb) σ H Q) : tOp (rO K cn g) (tE K cn W ma) (tE K cn W mb) σ H Q := bin_red h
/-- an expression that gives a bool, as a test -/
theorem mt_val (h : PE X e (tE X.K cn W m)) (he : ∀ whole, isTrue e X.env whole = (do let v ← whole; standAt e.pos; holding [v] (truthy v)) := by intro _; rfl) : PT X e (tT X.K cn W (mTst m)) := (pt_val h he).imp fun _ _ _ h => tst_red h
theorem chain_red {K : PySem.W.Frag} {g g' : G2} {σ : St} {H : Hp} {Q : VK} (h : tE K cn W (mChain g g' ma mb mc) σ H Q) : tChain (rO K cn g) (rO K cn g') (tE K cn W ma) (tE K cn W mb) (tE K cn W mc) σ H Q := by
  obtain ⟨ρ, sl, t, rel, rs, h⟩ := h
  refine ⟨ρ, sl, t, rel, rs, okG.bind h fun v t1 ρ1 H1 x e1 r1 rv h1 => ⟨ρ1, sl, t1, r1, rs.mono e1, okG.bind h1 fun u t2 ρ2 H2 y e2 r2 ru h2 => ⟨ρ2, t2, v, u, r2, rv.mono e2, ru, ?_⟩⟩⟩
  refine okG.toP (okG.bind h2 fun r t3 ρ3 H3 z e3 r3 rz h3 => ?_)
  cases r with
  | bl k =>
    cases rz
    refine ⟨k, rfl, ?_⟩
    cases k with
    | true =>
      rw [if_pos rfl]
      exact ⟨ρ3, sl, t3, r3, ((rs.mono e1).mono e2).mono e3, okG.bind h3 fun w t5 ρ5 H5 y5 e5 r5 r5' h5 => ⟨ρ5, t5, u, w, r5, (ru.mono e3).mono e5, r5', h5.toP⟩⟩
    | false =>
      rw [if_neg Bool.false_ne_true]
      exact h3 ρ3 H3 _ (Ext.refl _ _ _) r3 (.bl false)
  | _ => exact (show False from h3).elim
theorem me_chain {op op' : CmpOp} {g g' : G2} (ho : OpR X (compareOp op) (rO X.K cn g)) (ho' : OpR X (compareOp op') (rO X.K cn g')) (ha : PE X a (tE X.K cn W ma)) (hb : PE X b (tE X.K cn W mb)) (hc : PE X c (tE X.K cn W mc))
    (hm : lastMarks [op, op'] [b, c] = false := by with_unfolding_all rfl) : PE X (.Compare a [op, op'] [b, c] pos) (tE X.K cn W (mChain g g' ma mb mc)) := (pe_chain ho ho' ha hb hc hm).imp fun _ _ _ h => chain_red h
theorem mt_chain {op op' : CmpOp} {g g' : G2} (ho : OpR X (compareOp op) (rO X.K cn g)) (ho' : OpR X (compareOp op') (rO X.K cn g')) (ha : PE X a (tE X.K cn W ma)) (hb : PE X b (tE X.K cn W mb)) (hc : PE X c (tE X.K cn W mc))
    (hm : lastMarks [op, op'] [b, c] = false := by with_unfolding_all rfl) : PT X (.Compare a [op, op'] [b, c] pos) (tT X.K cn W (mTst (mChain g g' ma mb mc))) := (pt_chain ho ho' ha hb hc hm).imp fun _ _ _ h => chain_red (tst_red h)

/-! ### and, or, not -/
variable {rest : List Expr}
theorem mw_and1 (ha : PT X a (tT X.K cn W mA)) : PW X (.BoolOp .And [a] pos) (tT X.K cn W mA) := pw_and1 ha
theorem mw_or1 (ha : PT X a (tT X.K cn W mA)) : PW X (.BoolOp .Or [a] pos) (tT X.K cn W mA) := pw_or1 ha
theorem mw_and (ha : PT X a (tT X.K cn W mA)) (hb : PW X (.BoolOp .And (b :: rest) pos) (tT X.K cn W mB)) : PW X (.BoolOp .And (a :: b :: rest) pos) (tT X.K cn W (mAnd mA mB)) :=
  (pw_and ha hb).imp fun σ H Q ⟨ρ, sl, t, rel, rs, h⟩ => ⟨ρ, sl, t, rel, rs, okG.bind h fun v t1 ρ1 H1 x e1 r1 rv h1 => by
    cases rv
    cases v with
    | true => exact ⟨ρ1, sl, t1, r1, rs.mono e1, h1⟩
    | false => exact h1 ρ1 H1 false (Ext.refl _ _ _) r1 rfl⟩
theorem mw_or (ha : PT X a (tT X.K cn W mA)) (hb : PW X (.BoolOp .Or (b :: rest) pos) (tT X.K cn W mB)) : PW X (.BoolOp .Or (a :: b :: rest) pos) (tT X.K cn W (mOr mA mB)) :=
  (pw_or ha hb).imp fun σ H Q ⟨ρ, sl, t, rel, rs, h⟩ => ⟨ρ, sl, t, rel, rs, okG.bind h fun v t1 ρ1 H1 x e1 r1 rv h1 => by
    cases rv
    cases v with
    | true => exact h1 ρ1 H1 true (Ext.refl _ _ _) r1 rfl
    | false => exact ⟨ρ1, sl, t1, r1, rs.mono e1, h1⟩⟩
theorem mt_not (ha : PT X a (tT X.K cn W mA)) : PT X (.UnaryOp .Not a pos) (tT X.K cn W (mNot mA)) :=
  (pt_not ha).imp fun σ H Q ⟨ρ, sl, t, rel, rs, h⟩ => ⟨ρ, sl, t, rel, rs, okG.bind h fun v t1 ρ1 H1 x e1 r1 rv h1 => by
    cases rv
    exact h1 ρ1 H1 _ (Ext.refl _ _ _) r1 rfl⟩
theorem bool_red {K : PySem.W.Frag} {f : Bool → Sto → Out Val} {σ : St} {H : Hp} {Q : VK} {P : V → Hp → Prop} {ρ : List Addr} {sl : Sl} {t : Sto} (rel : Rel K cn ρ t H) (rs : RS K H ρ sl σ)
    (h : okG K cn W ρ σ H (RVr K) Q ((m sl t).bind fun v t1 => (asB v t1).bind f))
    (k : ∀ b t1 ρ1 H1, Ext K ρ H ρ1 H1 → Rel K cn ρ1 t1 H1 → okG K cn W ρ1 σ H1 (RVr K) Q (f b t1) → P (.bl b) H1) : tE K cn W m σ H P :=
  ⟨ρ, sl, t, rel, rs, okG.bind h fun v t1 ρ1 H1 x e1 r1 rv h1 => by
    cases v with
    | bl b => cases rv; exact k b t1 ρ1 H1 e1 r1 h1
    | _ => exact (show False from h1).elim⟩
theorem me_one {op} (h : PE X a (tE X.K cn W ma)) : PE X (.BoolOp op [a] pos) (tE X.K cn W ma) := pe_one h
theorem me_and (ha : PE X a (tE X.K cn W ma)) (hb : PE X (.BoolOp .And (b :: rest) pos) (tE X.K cn W mb)) : PE X (.BoolOp .And (a :: b :: rest) pos) (tE X.K cn W (mAndV ma mb)) :=
  (pe_and ha hb).imp fun σ H Q ⟨ρ, sl, t, rel, rs, h⟩ => bool_red rel rs h fun b t1 ρ1 H1 e1 r1 h1 => ⟨b, rfl, by
    cases b with
    | true => exact ⟨ρ1, sl, t1, r1, rs.mono e1, h1⟩
    | false => exact h1 ρ1 H1 _ (Ext.refl _ _ _) r1 (.bl false)⟩
theorem me_or (ha : PE X a (tE X.K cn W ma)) (hb : PE X (.BoolOp .Or (b :: rest) pos) (tE X.K cn W mb)) : PE X (.BoolOp .Or (a :: b :: rest) pos) (tE X.K cn W (mOrV ma mb)) :=
  (pe_or ha hb).imp fun σ H Q ⟨ρ, sl, t, rel, rs, h⟩ => bool_red rel rs h fun b t1 ρ1 H1 e1 r1 h1 => ⟨b, rfl, by
    cases b with
    | true => exact h1 ρ1 H1 _ (Ext.refl _ _ _) r1 (.bl true)
    | false => exact ⟨ρ1, sl, t1, r1, rs.mono e1, h1⟩⟩
theorem me_not (ha : PE X a (tE X.K cn W ma)) : PE X (.UnaryOp .Not a pos) (tE X.K cn W (mNotV ma)) :=
  (pe_not ha).imp fun σ H Q ⟨ρ, sl, t, rel, rs, h⟩ => bool_red rel rs h fun b t1 ρ1 H1 e1 r1 h1 => ⟨b, rfl, h1 ρ1 H1 _ (Ext.refl _ _ _) r1 (.bl _)⟩

/-! ### argument lists, displays -/
variable {es : List Expr} {ms : List E}
theorem ma_nil : PA X [] (tA X.K cn W (mAs [])) := pa_nil.imp fun σ H Q ⟨ρ, sl, t, rel, rs, h⟩ => h ρ H [] (Ext.refl _ _ _) rel .nil
theorem ma_cons (ha : PE X e (tE X.K cn W m)) (hr : PA X es (tA X.K cn W (mAs ms))) (hs : starEach (e :: es) X.env = (false, eval e X.env) :: starEach es X.env := by rfl) : PA X (e :: es) (tA X.K cn W (mAs (m :: ms))) :=
  (pa_cons ha hr hs).imp fun σ H Q ⟨ρ, sl, t, rel, rs, h⟩ => ⟨ρ, sl, t, rel, rs, okG.bind h fun v t1 ρ1 H1 x e1 r1 rv h1 => ⟨ρ1, sl, t1, r1, rs.mono e1, okG.bind h1 fun vs t2 ρ2 H2 xs e2 r2 rvs h2 => h2 ρ2 H2 _ (Ext.refl _ _ _) r2 (.cons (rv.mono e2) rvs)⟩⟩
theorem mAs_len : ∀ (ms : List E) (sl : Sl) (t t' : Sto) (vs : List Val), mAs ms sl t = .ok vs t' → vs.length = ms.length
  | [], sl, t, t', vs, h => by
    have h : Out.ok [] t = Out.ok vs t' := h
    cases h; rfl
  | m :: ms, sl, t, t', vs, h => by
    have h : (m sl t).bind (fun v t1 => (mAs ms sl t1).bind fun vs t2 => Out.ok (v :: vs) t2) = Out.ok vs t' := h
    cases e1 : m sl t with
    | ok v t1 =>
      rw [e1, Out.bind_ok] at h
      cases e2 : mAs ms sl t1 with
      | ok ws t2 =>
        rw [e2, Out.bind_ok] at h
        cases h
        rw [List.length_cons, List.length_cons, mAs_len ms sl t1 _ ws e2]
      | ex c fs t2 => rw [e2] at h; cases h
      | bad => rw [e2] at h; cases h
    | ex c fs t1 => rw [e1] at h; cases h
    | bad => rw [e1] at h; cases h
/-- a bind that remembers what it comes from -/
theorem okG.bindE {α β γ δ : Type} {K : PySem.W.Frag} {ρ : List Addr} {σ : St} {H : Hp} {R : Hp → List Addr → α → β → Prop} {S : Hp → List Addr → γ → δ → Prop} {Q : δ → Hp → Prop} {P : β → Hp → Prop} {m : Out α} {f : α → Sto → Out γ}
    (h : okG K cn W ρ σ H S Q (m.bind f)) (k : ∀ v t1 ρ1 H1 x, m = .ok v t1 → Ext K ρ H ρ1 H1 → Rel K cn ρ1 t1 H1 → R H1 ρ1 v x → okG K cn W ρ1 σ H1 S Q (f v t1) → P x H1) : okG K cn W ρ σ H R P m := by
  cases m with
  | ok a t => exact fun ρ' H' x e r rv => k a t ρ' H' x rfl e r rv (okG.mono e h)
  | ex c fs t => exact h
  | bad => exact h
theorem sz1000 {n : Nat} (h : n ≤ 1000) : n ≤ sizeLine := Nat.le_trans h (by decide)
theorem me_tup {j} (h : PA X es (tA X.K cn W (mAs ms))) (hl : ms.length ≤ 1000) : PE X (.Tuple es j pos) (tE X.K cn W (mTup ms)) :=
  (pe_tup h).imp fun σ H Q ⟨ρ, sl, t, rel, rs, h⟩ => ⟨ρ, sl, t, rel, rs, okG.bindE h fun vs t1 ρ1 H1 xs em e1 r1 rv h1 => ⟨sz1000 (by rw [← rv.length, mAs_len ms sl t t1 vs em]; exact hl), fun p hp =>
    h1 ρ1 _ _ (ext_upd (.inl hp)) (r1.other hp) (.tup upd_same (rv.mono (ext_upd (.inl hp))))⟩⟩
theorem me_lst (h : PA X es (tA X.K cn W (mAs ms))) (hl : ms.length ≤ 1000) : PE X (.List es pos) (tE X.K cn W (mLst ms)) :=
  (pe_lst h).imp fun σ H Q ⟨ρ, sl, t, rel, rs, h⟩ => ⟨ρ, sl, t, rel, rs, okG.bindE h fun vs t1 ρ1 H1 xs em e1 r1 rv h1 => ⟨sz1000 (by rw [← rv.length, mAs_len ms sl t t1 vs em]; exact hl), fun p hp =>
    h1 (ρ1 ++ [p]) _ _ (ext_alloc hp) (r1.alloc hp (show RVs _ _ _ _ _ from rv)) (alloc_ref r1)⟩⟩
end
end Mn

set_option Elab.async false
set_option linter.all false
set_option maxRecDepth 100000
set_option maxHeartbeats 4000000
/-! MBc: the operators on plain values and their rules. -/
namespace Mn
open PySem L2

/-! ### a plain value as data -/
mutual
def toD (t : Sto) : Nat → Val → Option PyData
  | _, .non => some .none
  | _, .bl b => some (.bool b)
  | _, .int i => some (.int i)
  | _, .str x => some (.str x)
  | k + 1, .tup l => (toDs t k l).map .tuple
  | k + 1, .con l => (toDs t k l).map .tuple
  | k + 1, .ref n => match t[n]? with
    | some (.lst xs) => (toDs t k xs).map .list
    | some (.scr ns) => some (.list (ns.map .int))
    | _ => none
  | 0, .tup _ => none
  | 0, .con _ => none
  | 0, .ref _ => none
termination_by k v => (k, 0, sizeOf v)
def toDs (t : Sto) : Nat → List Val → Option (List PyData)
  | _, [] => some []
  | k, v :: r => match toD t k v with
    | some d => (toDs t k r).map (d :: ·)
    | none => none
termination_by k l => (k, 1, sizeOf l)
end
def isNoneD : PyData → Bool
  | .none => true
  | _ => false

section
variable {K : PySem.W.Frag} {cn : Cn} {ρ : List Addr} {t : Sto} {H : Hp}
theorem Rel.sqL {n : Nat} {a : Addr} {vs : List Val} (R : Rel K cn ρ t H) (h : ρ[n]? = some a) (ht : t[n]? = some (.lst vs)) : ∃ xs, H a = some (.lst xs) ∧ RVs K H ρ vs xs := by
  obtain ⟨ho, e, r⟩ := R.at h ht (fun _ z => nomatch z)
  cases ho with
  | lst xs => exact ⟨xs, e, r⟩
  | _ => exact (show False from r).elim
theorem Rel.scr {n : Nat} {a : Addr} {ns : List Int} (R : Rel K cn ρ t H) (h : ρ[n]? = some a) (ht : t[n]? = some (.scr ns)) : SqL K H a (ns.map V.int) := by
  rcases R.ob n a _ h ht with ⟨ho, e, r⟩ | ⟨ns', e, ob, its, k, h1, h2, h3, h4, h5, h6⟩
  · cases ho with
    | frz o u =>
      cases u with
      | lst xs =>
        have r' : xs = ns.map V.int := r
        subst r'
        exact .inl (.inr ⟨o, e⟩)
      | _ => exact (show False from r).elim
    | _ => exact (show False from r).elim
  · cases e
    exact .inr ⟨ob, its, k, h1, h2, h3, h4, h5, h6⟩
mutual
theorem toD_dp (R : Rel K cn ρ t H) : ∀ (k : Nat) (v : Val) (x : V) (d : PyData), RV K H ρ v x → toD t k v = some d → Dp K H x d ∧ d.canLay0 = true ∧ d.depth ≤ k
  | k, .non, _, d, .non, h => by simp only [toD] at h; cases h; exact ⟨.non, rfl, by simp [PyData.depth]⟩
  | k, .bl b, _, d, .bl _, h => by simp only [toD] at h; cases h; exact ⟨.bl b, rfl, by simp [PyData.depth]⟩
  | k, .int i, _, d, .int _, h => by simp only [toD] at h; cases h; exact ⟨.int i, rfl, by simp [PyData.depth]⟩
  | k, .str x, _, d, .str _ ok, h => by simp only [toD] at h; cases h; exact ⟨.str x, by simpa [PyData.canLay0] using ok, by simp [PyData.depth]⟩
  | 0, .tup l, _, d, .tup hs r, h => by simp [toD] at h
  | 0, .con l, _, d, .con hs r, h => by simp [toD] at h
  | 0, .ref n, _, d, .ref hn, h => by simp [toD] at h
  | k + 1, .tup l, _, d, .tup hs r, h => by
    simp only [toD] at h
    cases e : toDs t k l with
    | none => rw [e] at h; cases h
    | some ds =>
      rw [e] at h
      cases h
      obtain ⟨q1, q2, q3⟩ := toDs_dp R k l _ ds r e
      exact ⟨.tup (SqT.of hs) q1, by simpa [PyData.canLay0] using q2, by simp only [PyData.depth]; omega⟩
  | k + 1, .con l, _, d, .con hs r, h => by
    simp only [toD] at h
    cases e : toDs t k l with
    | none => rw [e] at h; cases h
    | some ds =>
      rw [e] at h
      cases h
      obtain ⟨q1, q2, q3⟩ := toDs_dp R k l _ ds r e
      exact ⟨.tup (hs.sq H) q1, by simpa [PyData.canLay0] using q2, by simp only [PyData.depth]; omega⟩
  | k + 1, .ref n, _, d, .ref hn, h => by
    simp only [toD] at h
    split at h
    · rename_i xs hx
      obtain ⟨ys, e1, r⟩ := R.sqL hn hx
      cases e : toDs t k xs with
      | none => rw [e] at h; cases h
      | some ds =>
        rw [e] at h
        cases h
        obtain ⟨q1, q2, q3⟩ := toDs_dp R k xs _ ds r e
        exact ⟨.lst (SqL.of e1) q1, by simpa [PyData.canLay0] using q2, by simp only [PyData.depth]; omega⟩
    · rename_i ns hx
      cases h
      have hs := R.scr hn hx
      refine ⟨.lst hs (ints_dp ns), ?_, ?_⟩
      · simp only [PyData.canLay0]; exact ints_lay ns
      · simp only [PyData.depth, PySem.W.depth_ints]; omega
    · cases h
termination_by k v => (k, 0, sizeOf v)
theorem toDs_dp (R : Rel K cn ρ t H) : ∀ (k : Nat) (vs : List Val) (xs : List V) (ds : List PyData), RVs K H ρ vs xs → toDs t k vs = some ds → DpAll K H xs ds ∧ PyData.canLayAll0 ds = true ∧ PyData.depthAll ds ≤ k
  | k, [], _, ds, .nil, h => by simp only [toDs] at h; cases h; exact ⟨.nil, rfl, by simp [PyData.depthAll]⟩
  | k, v :: vs, _, ds, .cons r q, h => by
    simp only [toDs] at h
    cases e1 : toD t k v with
    | none => rw [e1] at h; cases h
    | some d =>
      rw [e1] at h
      dsimp only at h
      cases e2 : toDs t k vs with
      | none => rw [e2] at h; cases h
      | some es =>
        rw [e2] at h
        cases h
        obtain ⟨a1, a2, a3⟩ := toD_dp R k v _ d r e1
        obtain ⟨b1, b2, b3⟩ := toDs_dp R k vs _ es q e2
        exact ⟨.cons a1 b1, by simp only [PyData.canLayAll0, a2, b2, Bool.and_self], by simp only [PyData.depthAll]; omega⟩
termination_by k vs => (k, 1, sizeOf vs)
theorem ints_dp : ∀ ns : List Int, DpAll K H (ns.map V.int) (ns.map PyData.int)
  | [] => .nil
  | n :: r => .cons (.int n) (ints_dp r)
theorem ints_lay : ∀ ns : List Int, PyData.canLayAll0 (ns.map PyData.int) = true
  | [] => rfl
  | n :: r => by simp only [List.map_cons, PyData.canLayAll0, PyData.canLay0, ints_lay r, Bool.and_self]
end
theorem toD_shaped (R : Rel K cn ρ t H) {v : Val} {x : V} {d : PyData} (r : RV K H ρ v x) (h : toD t 64 v = some d) : Dp K H x d ∧ SeqAt.shaped d = true := by
  obtain ⟨a, b, c⟩ := toD_dp R 64 v x d r h
  exact ⟨a, by unfold SeqAt.shaped; rw [b, Bool.true_and]; exact decide_eq_true c⟩
end

/-! ### the operators -/
def gAdd : G2
  | .int i, .int j, t => some (.int (i + j), t)
  | .str a, .str b, t => if a.length + b.length ≤ sizeLine then some (.str (a ++ b), t) else none
  | .tup a, .tup b, t => if a.length + b.length ≤ sizeLine then some (.tup (a ++ b), t) else none
  | .ref n, .ref m, t => match t[n]?, t[m]? with
    | some (.lst a), some (.lst b) => if a.length + b.length ≤ sizeLine then some (.ref t.length, t ++ [.lst (a ++ b)]) else none
    | _, _ => none
  | _, _, _ => none
def gSub : G2
  | .int i, .int j, t => some (.int (i - j), t)
  | _, _, _ => none
def gMul : G2
  | .int i, .int j, t => if (-(2 ^ 64) < i ∧ i < 2 ^ 64) ∨ (-(2 ^ 64) < j ∧ j < 2 ^ 64) then some (.int (i * j), t) else none
  | _, _, _ => none
def gMod : G2
  | .int i, .int j, t => if 0 < j then some (.int (i % j), t) else none
  | _, _, _ => none
def gDiv : G2
  | .int i, .int j, t => if 0 < j ∧ j < 1073741824 then some (.int (i / j), t) else none
  | _, _, _ => none
def gPow : G2
  | .int i, .int j, t => if 0 ≤ j ∧ j ≤ 1000000 ∧ i.natAbs < 2 ^ 64 then some (.int (i ^ j.toNat), t) else none
  | _, _, _ => none
def gLe : G2
  | .int i, .int j, t => some (.bl (decide (i ≤ j)), t)
  | _, _, _ => none
def gGt : G2
  | .int i, .int j, t => some (.bl (decide (j < i)), t)
  | _, _, _ => none
def gGe : G2
  | .int i, .int j, t => some (.bl (decide (j ≤ i)), t)
  | _, _, _ => none
/-- < of data -/
def ltD (v u : Val) (t : Sto) : Option (Val × Sto) := match toD t 64 v, toD t 64 u with
  | some d, some e => if PySem.W.alike d e = true ∧ isNoneD d = false then some (.bl (PySem.W.dataLt d e), t) else none
  | _, _ => none
def gLt : G2
  | .int i, .int j, t => some (.bl (decide (i < j)), t)
  | v, u, t => ltD v u t
def gEq : G2 := fun v u t => match toD t 64 v, toD t 64 u with
  | some d, some e => some (.bl (PyData.eqv d e), t)
  | _, _ => none
def gNe : G2 := fun v u t => match toD t 64 v, toD t 64 u with
  | some d, some e => some (.bl (!PyData.eqv d e), t)
  | _, _ => none
def isNon : Val → Bool
  | .non => true
  | _ => false
def gIs : G2
  | v, .non, t => some (.bl (isNon v), t)
  | _, _, _ => none
def gIsN : G2
  | v, .non, t => some (.bl (!isNon v), t)
  | _, _, _ => none

theorem strOk_append {a b : Str} (ha : PyData.strOk a = true) (hb : PyData.strOk b = true) : PyData.strOk (a ++ b) = true := by
  show ((a ++ b).cps.all _) = true
  have e : (a ++ b).cps = a.cps ++ b.cps := rfl
  rw [e, Array.all_append]
  have ha' : a.cps.all (fun x => decide (x < 1114112)) = true := ha
  have hb' : b.cps.all (fun x => decide (x < 1114112)) = true := hb
  simp only [ha', hb', Bool.and_self]

section
variable {X : Cx} {cn : Cn}
theorem og_add : OpR X (binaryOp .Add) (rO X.K cn gAdd) := by
  intro pins s σ H x y v u Q I rx ry h
  obtain ⟨ρ, t, a, b, rel, ra, rb, h⟩ := h
  unfold gAdd at h
  split at h
  · cases ra; cases rb
    exact op_add pins s σ H _ _ v u Q I rx ry ⟨_, _, rfl, rfl, h ρ H _ (Ext.refl _ _ _) rel (.int _)⟩
  · split at h
    · rename_i hz
      cases ra with | str x ok => ?_
      cases rb with | str y ok' => ?_
      exact op_add_str pins s σ H _ _ v u Q I rx ry ⟨_, _, rfl, rfl, hz, h ρ H _ (Ext.refl _ _ _) rel (.str _ (strOk_append ok ok'))⟩
    · exact h.elim
  · split at h
    · rename_i hz
      cases ra with | tup ha r1 => ?_
      cases rb with | tup hb r2 => ?_
      refine op_catA pins s σ H _ _ v u Q I rx ry ⟨_, _, _, _, rfl, rfl, SqT.of ha, SqT.of hb, by rw [← r1.length, ← r2.length]; exact hz, fun e => ?_, fun e e' => ?_, fun e e' p hp => ?_⟩
      · have e1 := (r1.nil_iff).mpr e
        subst e1
        exact h ρ H _ (Ext.refl _ _ _) rel (by rw [List.nil_append]; exact .tup hb r2)
      · have e1 := (r2.nil_iff).mpr e'
        subst e1
        exact h ρ H _ (Ext.refl _ _ _) rel (by rw [List.append_nil]; exact .tup ha r1)
      · exact h ρ _ _ (ext_upd (.inl hp)) (rel.other hp) (.tup upd_same ((r1.append r2).mono (ext_upd (.inl hp))))
    · exact h.elim
  · split at h
    · rename_i xs ys hx hy
      split at h
      · rename_i hz
        cases ra with | ref ha => ?_
        cases rb with | ref hb => ?_
        obtain ⟨xs', e1, r1⟩ := rel.sqL ha hx
        obtain ⟨ys', e2, r2⟩ := rel.sqL hb hy
        exact op_cat pins s σ H _ _ v u Q I rx ry ⟨_, _, _, _, rfl, rfl, e1, e2, by rw [← r1.length, ← r2.length]; exact hz, fun p hp =>
          h _ _ _ (ext_alloc hp) (rel.alloc hp (show RVs _ _ _ _ _ from r1.append r2)) (alloc_ref rel)⟩
      · exact h.elim
    · exact h.elim
  · exact h.elim
theorem og_sub : OpR X (binaryOp .Sub) (rO X.K cn gSub) := by
  intro pins s σ H x y v u Q I rx ry h
  obtain ⟨ρ, t, a, b, rel, ra, rb, h⟩ := h
  unfold gSub at h
  split at h
  · cases ra; cases rb
    exact op_sub pins s σ H _ _ v u Q I rx ry ⟨_, _, rfl, rfl, h ρ H _ (Ext.refl _ _ _) rel (.int _)⟩
  · exact h.elim
theorem og_mul : OpR X (binaryOp .Mult) (rO X.K cn gMul) := by
  intro pins s σ H x y v u Q I rx ry h
  obtain ⟨ρ, t, a, b, rel, ra, rb, h⟩ := h
  unfold gMul at h
  split at h
  · split at h
    · rename_i hc
      cases ra; cases rb
      exact op_mul pins s σ H _ _ v u Q I rx ry ⟨_, _, rfl, rfl, hc, h ρ H _ (Ext.refl _ _ _) rel (.int _)⟩
    · exact h.elim
  · exact h.elim
theorem og_mod : OpR X (binaryOp .Mod) (rO X.K cn gMod) := by
  intro pins s σ H x y v u Q I rx ry h
  obtain ⟨ρ, t, a, b, rel, ra, rb, h⟩ := h
  unfold gMod at h
  split at h
  · split at h
    · rename_i hc
      cases ra; cases rb
      exact op_mod pins s σ H _ _ v u Q I rx ry ⟨_, _, rfl, rfl, hc, h ρ H _ (Ext.refl _ _ _) rel (.int _)⟩
    · exact h.elim
  · exact h.elim
theorem og_div : OpR X (binaryOp .FloorDiv) (rO X.K cn gDiv) := by
  intro pins s σ H x y v u Q I rx ry h
  obtain ⟨ρ, t, a, b, rel, ra, rb, h⟩ := h
  unfold gDiv at h
  split at h
  · split at h
    · rename_i hc
      cases ra; cases rb
      exact op_fdiv pins s σ H _ _ v u Q I rx ry ⟨_, _, rfl, rfl, hc, h ρ H _ (Ext.refl _ _ _) rel (.int _)⟩
    · exact h.elim
  · exact h.elim
theorem og_pow : OpR X (binaryOp .Pow) (rO X.K cn gPow) := by
  intro pins s σ H x y v u Q I rx ry h
  obtain ⟨ρ, t, a, b, rel, ra, rb, h⟩ := h
  unfold gPow at h
  split at h
  · split at h
    · rename_i hc
      cases ra; cases rb
      exact op_pow pins s σ H _ _ v u Q I rx ry ⟨_, _, rfl, rfl, hc, h ρ H _ (Ext.refl _ _ _) rel (.int _)⟩
    · exact h.elim
  · exact h.elim
theorem og_le : OpR X (compareOp .LtE) (rO X.K cn gLe) := by
  intro pins s σ H x y v u Q I rx ry h
  obtain ⟨ρ, t, a, b, rel, ra, rb, h⟩ := h
  unfold gLe at h
  split at h
  · cases ra; cases rb
    exact op_le pins s σ H _ _ v u Q I rx ry ⟨_, _, rfl, rfl, h ρ H _ (Ext.refl _ _ _) rel (.bl _)⟩
  · exact h.elim
theorem og_gt : OpR X (compareOp .Gt) (rO X.K cn gGt) := by
  intro pins s σ H x y v u Q I rx ry h
  obtain ⟨ρ, t, a, b, rel, ra, rb, h⟩ := h
  unfold gGt at h
  split at h
  · cases ra; cases rb
    exact op_gt pins s σ H _ _ v u Q I rx ry ⟨_, _, rfl, rfl, h ρ H _ (Ext.refl _ _ _) rel (.bl _)⟩
  · exact h.elim
theorem og_ge : OpR X (compareOp .GtE) (rO X.K cn gGe) := by
  intro pins s σ H x y v u Q I rx ry h
  obtain ⟨ρ, t, a, b, rel, ra, rb, h⟩ := h
  unfold gGe at h
  split at h
  · cases ra; cases rb
    exact op_ge pins s σ H _ _ v u Q I rx ry ⟨_, _, rfl, rfl, h ρ H _ (Ext.refl _ _ _) rel (.bl _)⟩
  · exact h.elim
theorem og_eq (hu : X.A.units + 64 < cLine) : OpR X (compareOp .Eq) (rO X.K cn gEq) := by
  intro pins s σ H x y v u Q I rx ry h
  obtain ⟨ρ, t, a, b, rel, ra, rb, h⟩ := h
  unfold gEq at h
  split at h
  · rename_i d e hd he
    obtain ⟨d1, d2⟩ := toD_shaped rel ra hd
    obtain ⟨e1, e2⟩ := toD_shaped rel rb he
    exact op_eqD hu pins s σ H _ _ v u Q I rx ry ⟨d, e, d1, e1, d2, e2, h ρ H _ (Ext.refl _ _ _) rel (.bl _)⟩
  · exact h.elim
theorem og_ne (hu : X.A.units + 64 < cLine) : OpR X (compareOp .NotEq) (rO X.K cn gNe) := by
  intro pins s σ H x y v u Q I rx ry h
  obtain ⟨ρ, t, a, b, rel, ra, rb, h⟩ := h
  unfold gNe at h
  split at h
  · rename_i d e hd he
    obtain ⟨d1, d2⟩ := toD_shaped rel ra hd
    obtain ⟨e1, e2⟩ := toD_shaped rel rb he
    exact op_neD hu pins s σ H _ _ v u Q I rx ry ⟨d, e, d1, e1, d2, e2, h ρ H _ (Ext.refl _ _ _) rel (.bl _)⟩
  · exact h.elim
theorem RV.isNon {K : PySem.W.Frag} {H : Hp} {ρ : List Addr} {v : Val} {x : V} (r : RV K H ρ v x) : decide (x = .non) = Mn.isNon v := by
  cases r <;> first | rfl | (apply decide_eq_false; intro z; cases z)
theorem og_is : OpR X (compareOp .Is) (rO X.K cn gIs) := by
  intro pins s σ H x y v u Q I rx ry h
  obtain ⟨ρ, t, a, b, rel, ra, rb, h⟩ := h
  cases b <;> first | exact h.elim | skip
  cases rb
  exact op_isN pins s σ H _ _ v u Q I rx ry ⟨rfl, by rw [ra.isNon]; exact h ρ H _ (Ext.refl _ _ _) rel (.bl _)⟩
theorem og_isN : OpR X (compareOp .IsNot) (rO X.K cn gIsN) := by
  intro pins s σ H x y v u Q I rx ry h
  obtain ⟨ρ, t, a, b, rel, ra, rb, h⟩ := h
  cases b <;> first | exact h.elim | skip
  cases rb
  exact op_notN pins s σ H _ _ v u Q I rx ry ⟨rfl, by rw [ra.isNon]; exact h ρ H _ (Ext.refl _ _ _) rel (.bl _)⟩
theorem isNoneD_ne {d : PyData} (h : isNoneD d = false) : d ≠ .none := fun z => by rw [z] at h; cases h
theorem og_ltD (hu : X.A.units + 64 < cLine) {x y : V} {v u : Value} {Q : VK} {pins : List (Addr × Obj)} {s : Shared} {σ : St} {H : Hp} {ρ : List Addr} {t : Sto} {a b : Val} (I : Inv X pins σ H s) (rx : RelV x v) (ry : RelV y u)
    (rel : Rel X.K cn ρ t H) (ra : RV X.K H ρ a x) (rb : RV X.K H ρ b y) (h : okP X.K cn ρ H (RVr X.K) Q (ltD a b t)) : wpAny (model X.prog X.w) X.A (compareOp .Lt v u) (EP X pins σ Q) X.xe s := by
  unfold ltD at h
  split at h
  · rename_i d e hd he
    split at h
    · rename_i hc
      obtain ⟨h1, h2⟩ := hc
      obtain ⟨d1, d2, d3⟩ := toD_dp rel 64 a x d ra hd
      obtain ⟨e1, e2, e3⟩ := toD_dp rel 64 b y e rb he
      obtain ⟨as, r1⟩ := Dp.reads I d x v d1 rx
      obtain ⟨bs, r2⟩ := Dp.reads I e y u e1 ry
      have R := PySem.W.rcLt_alike d e X.A s v u as bs r1 r2 h1 (isNoneD_ne h2) (by omega)
      exact R X.prog X.w X.xe _ ⟨.bl _, H, I, rfl, h ρ H _ (Ext.refl _ _ _) rel (.bl _)⟩
    · exact h.elim
  · exact h.elim
theorem og_lt (hu : X.A.units + 64 < cLine) : OpR X (compareOp .Lt) (rO X.K cn gLt) := by
  intro pins s σ H x y v u Q I rx ry h
  obtain ⟨ρ, t, a, b, rel, ra, rb, h⟩ := h
  by_cases hi : ∃ i j, a = .int i ∧ b = .int j
  · obtain ⟨i, j, rfl, rfl⟩ := hi
    cases ra; cases rb
    exact op_lt pins s σ H _ _ v u Q I rx ry ⟨_, _, rfl, rfl, h ρ H _ (Ext.refl _ _ _) rel (.bl _)⟩
  · have e : gLt a b t = ltD a b t := by
      unfold gLt
      split
      · exact absurd ⟨_, _, rfl, rfl⟩ hi
      · rfl
    rw [e] at h
    exact og_ltD hu I rx ry rel ra rb h
end
end Mn

set_option Elab.async false
set_option linter.all false
set_option maxRecDepth 100000
set_option maxHeartbeats 4000000
/-! MBd: statements, targets, loops, defs and their calls, instances. -/
namespace Mn
open PySem L2

/-! ### statements -/
def mSeq (a b : S) : S := fun sl t => match a sl t with
  | .nx sl' t' => b sl' t'
  | o => o
def mNext : S := fun sl t => .nx sl t
def mIf (c : T) (a b : S) : S := fun sl t => SO.ofE (c sl t) sl fun k t1 => if k = true then a sl t1 else b sl t1
def mDrop (e : E) : S := fun sl t => SO.ofE (e sl t) sl fun _ t1 => .nx sl t1
def mRet (e : E) : S := fun sl t => SO.ofE (e sl t) sl fun v t1 => .rt v t1
def mBrk : S := fun sl t => .bk sl t
def mCnt : S := fun sl t => .ct sl t
def mNever : S := fun _ _ => .bad
/-- where a value goes: names -/
abbrev Tg := Val → Sl → Option Sl
abbrev Tgs := List Val → Sl → Option Sl
def tgN (i : Nat) : Tg := fun v sl => some (sl.set i (some v))
def tgNil : Tgs
  | [], sl => some sl
  | _ :: _, _ => none
def tgCons (a : Tg) (b : Tgs) : Tgs
  | [], _ => none
  | v :: r, sl => match a v sl with
    | some sl' => b r sl'
    | none => none
def tgTup (b : Tgs) : Tg
  | .tup l, sl => b l sl
  | _, _ => none
def mAsg (g : Tg) (e : E) : S := fun sl t => SO.ofE (e sl t) sl fun v t1 => match g v sl with
  | some sl' => .nx sl' t1
  | none => .bad

/-! ### loops -/
inductive Itr' where
  | seq (vs : List Val)
  | lst (n : Nat)
  | enl (n : Nat)
  | rng (lo : Int) (k : Nat)
def nxt : Itr' → Nat → Sto → Option (Option Val)
  | .seq vs, i, _ => some vs[i]?
  | .lst n, i, t => match t[n]? with
    | some (.lst xs) => some xs[i]?
    | some (.scr ns) => some (ns[i]?.map .int)
    | _ => none
  | .enl n, i, t => match t[n]? with
    | some (.lst xs) => some (xs[i]?.map fun v => .tup [.int i, v])
    | some (.scr ns) => some (ns[i]?.map fun v => .tup [.int i, .int v])
    | _ => none
  | .rng lo k, i, _ => some (if i < k then some (.int (lo + i)) else none)
def fuel : Itr' → Sto → Nat
  | .seq vs, _ => vs.length
  | .lst n, t => match t[n]? with
    | some (.lst xs) => xs.length
    | some (.scr ns) => ns.length
    | _ => 0
  | .enl n, t => match t[n]? with
    | some (.lst xs) => xs.length
    | some (.scr ns) => ns.length
    | _ => 0
  | .rng _ k, _ => k
abbrev Src := Sl → Sto → Out Itr'
def loop (g : Tg) (b : S) (it : Itr') : Nat → Nat → Sl → Sto → SO
  | k, i, sl, t => match nxt it i t with
    | none => .bad
    | some none => .nx sl t
    | some (some v) => match k with
      | 0 => .bad
      | k + 1 => match g v sl with
        | none => .bad
        | some sl1 => match b sl1 t with
          | .nx sl2 t2 => loop g b it k (i + 1) sl2 t2
          | .ct sl2 t2 => loop g b it k (i + 1) sl2 t2
          | .bk sl2 t2 => .nx sl2 t2
          | o => o
def mFor (src : Src) (g : Tg) (b : S) : S := fun sl t => SO.ofE (src sl t) sl fun it t1 => loop g b it (fuel it t1) 0 sl t1

/-! ### defs -/
def mStart (n : Nat) (args : List Val) : Sl := args.map some ++ List.replicate (n - args.length) none
def mDef (n : Nat) (body : S) : MFn := fun args t => match body (mStart n args) t with
  | .rt v t' => .ok v t'
  | .nx _ t' => .ok .non t'
  | .ex c fs _ t' => .ex c fs t'
  | _ => .bad
def mCall (f : MFn) (es : List E) : E := fun sl t => (mAs es sl t).bind fun vs t1 => f vs t1
/-- the fields of the instance at n, if it is of class c -/
def insOf (c : String) (v : Val) (t : Sto) : Option (List (String × Val)) := match v with
  | .ref n => match t[n]? with
    | some (.ins c' fs) => if c' = c then some fs else none
    | _ => none
  | _ => none
def mMeth (c m : String) (f : MFn) (o : E) (es : List E) : E := fun sl t => (o sl t).bind fun v t1 => match insOf c v t1 with
  | some fs => if fs.lookup m = none then (mAs es sl t1).bind fun vs t2 => f (v :: vs) t2 else .bad
  | none => .bad
def mMake (c : String) (f : MFn) (es : List E) : E := fun sl t => (mAs es sl t).bind fun vs t1 => (f (.ref t1.length :: vs) (t1 ++ [.ins c []])).bind fun v t2 => match v with
  | .non => .ok (.ref t1.length) t2
  | _ => .bad
def mFld (c f : String) (o : E) : E := fun sl t => (o sl t).bind fun v t1 => match insOf c v t1 with
  | some fs => match fs.lookup f with
    | some u => .ok u t1
    | none => .bad
  | none => .bad
def putG (f : String) (v : Val) : List (String × Val) → List (String × Val)
  | [] => [(f, v)]
  | (g, x) :: r => if g = f then (g, v) :: r else (g, x) :: putG f v r
/-- o.f = e -/
def mFldSet (c f : String) (o e : E) : S := fun sl t => SO.ofE (e sl t) sl fun y t1 => SO.ofE (o sl t1) sl fun v t2 => match v, insOf c v t2 with
  | .ref n, some fs => if fs.length < 1000 then .nx sl (t2.set n (.ins c (putG f y fs))) else .bad
  | _, _ => .bad
def mRaise (c : String) : S := fun sl t => .ex c [] sl t

section
variable {X : Cx} {cn : Cn} {W : WX} {e a b c : Expr} {st : Stmt} {sts : List Stmt} {pos : Pos} {m ma mb : E} {mT : T} {s1 s2 : S}
theorem ms_seq (h1 : PS X st (tS X.K cn W s1)) (h2 : PSs X sts (tS X.K cn W s2)) : PSs X (st :: sts) (tS X.K cn W (mSeq s1 s2)) := (pss_cons h1 h2).imp fun D σ H ⟨ρ, sl, t, rel, rs, h⟩ => ⟨ρ, sl, t, rel, rs, by
  unfold mSeq at h
  cases e : s1 sl t with
  | nx sl' t' =>
    rw [e] at h
    exact fun ρ' H' σ' e1 r1 rs1 => ⟨ρ', sl', t', r1, rs1, okS.mono e1 h⟩
  | rt v t' => rw [e] at h; exact h
  | bk sl' t' => rw [e] at h; exact h
  | ct sl' t' => rw [e] at h; exact h
  | ex c fs sl' t' => rw [e] at h; exact h
  | bad => rw [e] at h; exact h⟩
theorem ms_one (h1 : PS X st (tS X.K cn W s1)) : PSs X [st] (tS X.K cn W s1) := pss_one h1
theorem ms_nil : PSs X [] (tS X.K cn W mNext) := pss_nil.imp fun D σ H ⟨ρ, sl, t, rel, rs, h⟩ => h ρ H σ (Ext.refl _ _ _) rel rs
theorem ms_pass : PS X (.Pass pos) (tS X.K cn W mNext) := ps_pass.imp fun D σ H ⟨ρ, sl, t, rel, rs, h⟩ => h ρ H σ (Ext.refl _ _ _) rel rs
theorem ms_brk : PS X (.Break pos) (tS X.K cn W mBrk) := ps_break.imp fun D σ H ⟨ρ, sl, t, rel, rs, h⟩ => h ρ H σ (Ext.refl _ _ _) rel rs
theorem ms_cnt : PS X (.Continue pos) (tS X.K cn W mCnt) := ps_continue.imp fun D σ H ⟨ρ, sl, t, rel, rs, h⟩ => h ρ H σ (Ext.refl _ _ _) rel rs
theorem ms_doc {x j pos'} : PS X (.Expr (.Constant (.str x) j pos) pos') (tS X.K cn W mNext) := ps_doc.imp fun D σ H ⟨ρ, sl, t, rel, rs, h⟩ => h ρ H σ (Ext.refl _ _ _) rel rs
theorem ms_never : PS X st (tS X.K cn W mNever) := ps_never.imp fun D σ H ⟨ρ, sl, t, rel, rs, h⟩ => h
theorem mss_never : PSs X sts (tS X.K cn W mNever) := pss_never.imp fun D σ H ⟨ρ, sl, t, rel, rs, h⟩ => h
theorem ms_if {A B : List Stmt} (hc : PT X c (tT X.K cn W mT)) (ha : PSs X A (tS X.K cn W s1)) (hb : PSs X B (tS X.K cn W s2)) : PS X (.If c A B pos) (tS X.K cn W (mIf mT s1 s2)) :=
  (ps_if hc ha hb).imp fun D σ H ⟨ρ, sl, t, rel, rs, h⟩ => ⟨ρ, sl, t, rel, rs, okS.ofE rs h fun k t1 ρ1 H1 x e1 r1 rv h1 => by
    cases rv
    cases k with
    | true => exact ⟨ρ1, sl, t1, r1, rs.mono e1, h1⟩
    | false => exact ⟨ρ1, sl, t1, r1, rs.mono e1, h1⟩⟩
theorem ms_drop (he : PE X e (tE X.K cn W m)) (hs : swapsWith e none pos.line X.env = pure false := by rfl) : PS X (.Expr e pos) (tS X.K cn W (mDrop m)) :=
  (ps_expr he hs).imp fun D σ H ⟨ρ, sl, t, rel, rs, h⟩ => ⟨ρ, sl, t, rel, rs, okS.ofE rs h fun v t1 ρ1 H1 x e1 r1 rv h1 => h1 ρ1 H1 σ (Ext.refl _ _ _) r1 (rs.mono e1)⟩
theorem ms_ret (he : PE X e (tE X.K cn W m)) : PS X (.Return (some e) pos) (tS X.K cn W (mRet m)) :=
  (ps_ret he).imp fun D σ H ⟨ρ, sl, t, rel, rs, h⟩ => ⟨ρ, sl, t, rel, rs, okS.ofE rs h fun v t1 ρ1 H1 x e1 r1 rv h1 => h1 ρ1 H1 x (Ext.refl _ _ _) r1 rv⟩
theorem ms_retN : PS X (.Return none pos) (tS X.K cn W (mRet (mC .non))) := ps_retN.imp fun D σ H ⟨ρ, sl, t, rel, rs, h⟩ => h ρ H _ (Ext.refl _ _ _) rel .non

/-! ### targets -/
def tG (K : PySem.W.Frag) (cn : Cn) (g : Tg) : TG := fun x σ H Q => ∃ ρ sl t v, Rel K cn ρ t H ∧ RS K H ρ sl σ ∧ RV K H ρ v x ∧ ∃ sl', g v sl = some sl' ∧ ∀ σ', RS K H ρ sl' σ' → Q σ' H
def tGs (K : PySem.W.Frag) (cn : Cn) (g : Tgs) : TGs := fun xs σ H Q => ∃ ρ sl t vs, Rel K cn ρ t H ∧ RS K H ρ sl σ ∧ RVs K H ρ vs xs ∧ ∃ sl', g vs sl = some sl' ∧ ∀ σ', RS K H ρ sl' σ' → Q σ' H
theorem _root_.L2.PG.imp {tg : Expr} {t t' : TG} (h : PG X tg t) (q : ∀ x σ H Q, t' x σ H Q → t x σ H Q) : PG X tg t' := ⟨fun pins s σ H v u Q I r hw => h.run pins s σ H v u Q I r (q _ _ _ _ hw)⟩
theorem _root_.L2.PGs.imp {tg : List Expr} {t t' : TGs} (h : PGs X tg t) (q : ∀ x σ H Q, t' x σ H Q → t x σ H Q) : PGs X tg t' := ⟨fun pins s σ H v u Q I r hw => h.run pins s σ H v u Q I r (q _ _ _ _ hw)⟩
theorem mg_name {i : Nat} (h : PG X e (gName i)) : PG X e (tG X.K cn (tgN i)) := h.imp fun x σ H Q ⟨ρ, sl, t, v, rel, rs, rv, sl', e, k⟩ => by
  cases e
  exact k _ (rs.set rv i)
theorem mg_nil : PGs X [] (tGs X.K cn tgNil) := pgs_nil.imp fun xs σ H Q ⟨ρ, sl, t, vs, rel, rs, rv, sl', e, k⟩ => by
  cases vs with
  | nil => cases rv; cases e; exact ⟨rfl, k σ rs⟩
  | cons v r => cases e
theorem mg_cons {es : List Expr} {g : Tg} {gs : Tgs} (h1 : PG X e (tG X.K cn g)) (h2 : PGs X es (tGs X.K cn gs))
    (hs : (assignEach (e :: es) X.env).map (·.2) = assign e X.env :: (assignEach es X.env).map (·.2) := by rfl) : PGs X (e :: es) (tGs X.K cn (tgCons g gs)) :=
  (pgs_cons h1 h2 hs).imp fun xs σ H Q ⟨ρ, sl, t, vs, rel, rs, rv, sl', e, k⟩ => by
    cases vs with
    | nil => cases e
    | cons v r =>
      cases rv with
      | cons r1 r2 =>
        simp only [tgCons] at e
        cases e1 : g v sl with
        | some sl1 =>
          rw [e1] at e
          exact ⟨_, _, rfl, ρ, sl, t, v, rel, rs, r1, sl1, e1, fun σ1 rs1 => ⟨ρ, sl1, t, r, rel, rs1, r2, sl', e, k⟩⟩
        | none => rw [e1] at e; cases e
theorem tgs_len : ∀ (es : List Expr) (n : Nat), True := fun _ _ => trivial
theorem mg_tup {es : List Expr} {k : Nat} {gs : Tgs} {n : Nat} (hc : X.calm = true) (h : PGs X es (tGs X.K cn gs)) (hl : ∀ vs sl sl', gs vs sl = some sl' → vs.length = n)
    (hn : (assignEach es X.env).length = n := by rfl) (hst : (assignEach es X.env).findIdx? (·.1) = none := by rfl) : PG X (.Tuple es k pos) (tG X.K cn (tgTup gs)) :=
  (pg_tup hc h hn hst).imp fun x σ H Q ⟨ρ, sl, t, v, rel, rs, rv, sl', e, k⟩ => by
    cases v with
    | tup l =>
      cases rv with
      | tup hs r => exact ⟨_, _, rfl, SqT.of hs, by rw [← r.length]; exact hl l sl sl' e, ρ, sl, t, l, rel, rs, r, sl', e, k⟩
    | _ => cases e
theorem tgNil_len : ∀ vs sl sl', tgNil vs sl = some sl' → vs.length = 0
  | [], _, _, _ => rfl
  | _ :: _, _, _, h => by cases h
theorem tgCons_len {g : Tg} {gs : Tgs} {n : Nat} (hl : ∀ vs sl sl', gs vs sl = some sl' → vs.length = n) : ∀ vs sl sl', tgCons g gs vs sl = some sl' → vs.length = n + 1
  | [], _, _, h => by cases h
  | v :: r, sl, sl', h => by
    simp only [tgCons] at h
    cases e1 : g v sl with
    | some sl1 => rw [e1] at h; rw [List.length_cons, hl _ _ _ h]
    | none => rw [e1] at h; cases h
theorem asg_red {K : PySem.W.Frag} {g : Tg} {D : Ends} {σ : St} {H : Hp} (h : tS K cn W (mAsg g m) D σ H) : tAsg (tE K cn W m) (tG K cn g) D σ H := by
  obtain ⟨ρ, sl, t, rel, rs, h⟩ := h
  refine ⟨ρ, sl, t, rel, rs, okS.ofE rs h fun v t1 ρ1 H1 x e1 r1 rv h1 => ?_⟩
  cases e : g v sl with
  | some sl' =>
    rw [e] at h1
    exact ⟨ρ1, sl, t1, v, r1, rs.mono e1, rv, sl', e, fun σ' rs' => h1 ρ1 H1 σ' (Ext.refl _ _ _) r1 rs'⟩
  | none => rw [e] at h1; exact (show False from h1).elim
theorem ms_asg {tg : Expr} {g : Tg} (he : PE X e (tE X.K cn W m)) (hg : PG X tg (tG X.K cn g)) (hs : swapsWithSole [tg] e pos.line X.env = pure false := by rfl) (hw : swappedStores [tg] e X.env = pure none := by rfl)
    (h1 : (assignEach [tg] X.env).map (·.2) = [assign tg X.env] := by rfl) : PS X (.Assign [tg] e pos) (tS X.K cn W (mAsg g m)) := (ps_asg he hg hs hw h1).imp fun D σ H h => asg_red h
theorem ms_set {i : Nat} {x : Str} {pos' : Pos} (hN : X.N.Nodup) (hi : X.N[i]? = some x) (hx : Loc X.env.scope x) (he : PE X e (tE X.K cn W m)) (hs : swapsWith e (some (.Name x pos')) pos.line X.env = pure false := by rfl) (hf : X.fn x = true ∨ X.env.scope.names.lookup x = some .local := by first | exact .inl rfl | exact .inr rfl | assumption) :
    PS X (.Assign [.Name x pos'] e pos) (tS X.K cn W (mAsg (tgN i) m)) := (ps_set hN hi hx he hs hf).imp fun D σ H ⟨ρ, sl, t, rel, rs, h⟩ => ⟨ρ, sl, t, rel, rs, okS.ofE rs h fun v t1 ρ1 H1 x e1 r1 rv h1 => h1 ρ1 H1 _ (Ext.refl _ _ _) r1 ((rs.mono e1).set rv i)⟩

/-! ### what a loop walks -/
def ItR (K : PySem.W.Frag) (cn : Cn) (ρ0 : List Addr) (H0 : Hp) (it : Itr') (J : It) : Prop := ∀ i ρ t H, Ext K ρ0 H0 ρ H → Rel K cn ρ t H → match nxt it i t with
  | none => True
  | some none => J.stop i H
  | some (some v) => J.go i H ∧ ∀ x H', J.yld i H x H' → Ext K ρ H ρ H' ∧ Rel K cn ρ t H' ∧ RV K H' ρ v x
abbrev ItRr (K : PySem.W.Frag) (cn : Cn) : Hp → List Addr → Itr' → It → Prop := fun H ρ it J => ItR K cn ρ H it J
theorem ItR.mono {K : PySem.W.Frag} {ρ0 ρ1 : List Addr} {H0 H1 : Hp} {it : Itr'} {J : It} (e : Ext K ρ0 H0 ρ1 H1) (h : ItR K cn ρ0 H0 it J) : ItR K cn ρ1 H1 it J := fun i ρ t H e' => h i ρ t H (e.trans e')
def tI (K : PySem.W.Frag) (cn : Cn) (W : WX) (src : Src) : TI := fun σ H R => ∃ ρ sl t, Rel K cn ρ t H ∧ RS K H ρ sl σ ∧ okG K cn W ρ σ H (ItRr K cn) R (src sl t)
theorem _root_.L2.PI.imp {tg iter : Expr} {t t' : TI} (h : PI X tg iter t) (q : ∀ σ H R, t' σ H R → t σ H R) : PI X tg iter t' := ⟨fun pins s σ H R I hw => h.run pins s σ H R I (q _ _ _ hw)⟩
def mIList (e : E) : Src := fun sl t => (e sl t).bind fun v t1 => match v with
  | .ref n => match t1[n]? with
    | some (.lst _) => .ok (.lst n) t1
    | some (.scr _) => .ok (.lst n) t1
    | _ => .bad
  | _ => .bad
def mITup (e : E) : Src := fun sl t => (e sl t).bind fun v t1 => match v with
  | .tup l => .ok (.seq l) t1
  | .con l => .ok (.seq l) t1
  | _ => .bad
theorem lst_sq {K : PySem.W.Frag} {ρ : List Addr} {t : Sto} {H : Hp} {n : Nat} {a : Addr} (rel : Rel K cn ρ t H) (ha : ρ[n]? = some a) {it : Nat → Option Val} {i : Nat} (q : nxt (.lst n) i t = some (it i)) : True := trivial
theorem nxt_lst {K : PySem.W.Frag} {ρ : List Addr} {t : Sto} {H : Hp} {n : Nat} {a : Addr} (rel : Rel K cn ρ t H) (ha : ρ[n]? = some a) (i : Nat) :
    nxt (.lst n) i t = none ∨ ∃ (vs : List Val) (xs : List V), nxt (.lst n) i t = some vs[i]? ∧ SqL K H a xs ∧ RVs K H ρ vs xs := by
  show (match t[n]? with | some (.lst xs) => some xs[i]? | some (.scr ns) => some (ns[i]?.map .int) | _ => none) = none ∨ _
  show _ ∨ ∃ (vs : List Val) (xs : List V), (match t[n]? with | some (.lst xs) => some xs[i]? | some (.scr ns) => some (ns[i]?.map .int) | _ => none) = some vs[i]? ∧ SqL K H a xs ∧ RVs K H ρ vs xs
  split
  · rename_i vs hv
    obtain ⟨xs, e, r⟩ := rel.sqL ha hv
    exact .inr ⟨vs, xs, rfl, SqL.of e, r⟩
  · rename_i ns hv
    exact .inr ⟨ns.map .int, ns.map V.int, by rw [List.getElem?_map], rel.scr ha hv, RVs.ints ns⟩
  · exact .inl rfl
theorem itr_lst {K : PySem.W.Frag} {ρ0 : List Addr} {H0 : Hp} {n : Nat} {a : Addr} (ha : ρ0[n]? = some a) : ItR K cn ρ0 H0 (.lst n) (Itl K a) := fun i ρ t H e rel => by
  rcases nxt_lst rel (e.pre _ _ ha) i with q | ⟨vs, xs, q, hs, r⟩
  · rw [q]; trivial
  · rw [q]
    cases ev : vs[i]? with
    | none => exact ⟨xs, hs, by rw [← r.length]; exact List.getElem?_eq_none_iff.mp ev⟩
    | some v =>
      obtain ⟨x, hx, rv⟩ := r.get ev
      refine ⟨⟨xs, x, hs, hx⟩, fun y H' hy => ?_⟩
      obtain ⟨rfl, hy⟩ := hy
      have := hy xs hs
      rw [hx] at this; cases this
      exact ⟨Ext.refl _ _ _, rel, rv⟩
theorem itr_tup {K : PySem.W.Frag} {ρ0 : List Addr} {H0 : Hp} {vs : List Val} {xs : List V} {a : Addr} (hs : H0 a = some (.tup xs) ∨ KTup K a xs) (r : RVs K H0 ρ0 vs xs) : ItR K cn ρ0 H0 (.seq vs) (Itt K a) := fun i ρ t H e rel => by
  show match some vs[i]? with | none => True | some none => _ | some (some v) => _
  have hs' : SqT K H a xs := by
    rcases hs with hs | hs
    · exact SqT.of (e.tup _ _ hs)
    · exact hs.sq H
  have r' := r.mono e
  cases ev : vs[i]? with
  | none => exact ⟨xs, hs', by rw [← r'.length]; exact List.getElem?_eq_none_iff.mp ev⟩
  | some v =>
    obtain ⟨x, hx, rv⟩ := r'.get ev
    refine ⟨⟨xs, x, hs', hx⟩, fun y H' hy => ?_⟩
    obtain ⟨rfl, hy⟩ := hy
    have := hy xs hs'
    rw [hx] at this; cases this
    exact ⟨Ext.refl _ _ _, rel, rv⟩
theorem itr_rng {K : PySem.W.Frag} {ρ0 : List Addr} {H0 : Hp} {lo : Int} {k : Nat} : ItR K cn ρ0 H0 (.rng lo k) (L2.Itr lo k) := fun i ρ t H e rel => by
  show match some (if i < k then some (Val.int (lo + i)) else none) with | none => True | some none => _ | some (some v) => _
  by_cases hi : i < k
  · rw [if_pos hi]
    refine ⟨hi, fun y H' hy => ?_⟩
    obtain ⟨rfl, rfl⟩ := hy
    exact ⟨Ext.refl _ _ _, rel, .int _⟩
  · rw [if_neg hi]
    exact Nat.le_of_not_lt hi
variable {tg : Expr}
theorem mi_list (he : PE X e (tE X.K cn W m)) : PI X tg e (tI X.K cn W (mIList m)) := (pi_list he).imp fun σ H R ⟨ρ, sl, t, rel, rs, h⟩ => ⟨ρ, sl, t, rel, rs, okG.bind h fun v t1 ρ1 H1 x e1 r1 rv h1 => by
  cases v with
  | ref n =>
    cases rv with | ref ha => ?_
    dsimp only at h1
    split at h1
    · rename_i vs hv
      obtain ⟨xs, e, r⟩ := r1.sqL ha hv
      exact ⟨_, rfl, ⟨_, SqL.of e⟩, h1 ρ1 H1 _ (Ext.refl _ _ _) r1 (itr_lst ha)⟩
    · rename_i ns hv
      exact ⟨_, rfl, ⟨_, r1.scr ha hv⟩, h1 ρ1 H1 _ (Ext.refl _ _ _) r1 (itr_lst ha)⟩
    · exact (show False from h1).elim
  | _ => exact (show False from h1).elim⟩
theorem mi_tup (he : PE X e (tE X.K cn W m)) : PI X tg e (tI X.K cn W (mITup m)) := (pi_tup he).imp fun σ H R ⟨ρ, sl, t, rel, rs, h⟩ => ⟨ρ, sl, t, rel, rs, okG.bind h fun v t1 ρ1 H1 x e1 r1 rv h1 => by
  cases v with
  | tup l =>
    cases rv with | tup hs r => ?_
    exact ⟨_, rfl, ⟨_, SqT.of hs⟩, h1 ρ1 H1 _ (Ext.refl _ _ _) r1 (itr_tup (.inl hs) r)⟩
  | con l =>
    cases rv with | con hs r => ?_
    exact ⟨_, rfl, ⟨_, hs.sq _⟩, h1 ρ1 H1 _ (Ext.refl _ _ _) r1 (itr_tup (.inr hs) r)⟩
  | _ => exact (show False from h1).elim⟩
def rngOk (i j : Int) : Prop := -(2 ^ 62) ≤ i ∧ i < 2 ^ 62 ∧ -(2 ^ 62) ≤ j ∧ j < 2 ^ 62
instance (i j : Int) : Decidable (rngOk i j) := inferInstanceAs (Decidable (_ ∧ _))
def rng1 : List Val → Sto → Out Itr'
  | [.int j], t => if rngOk 0 j then .ok (.rng 0 j.toNat) t else .bad
  | _, _ => .bad
def rng2 : List Val → Sto → Out Itr'
  | [.int i, .int j], t => if rngOk i j then .ok (.rng i (j - i).toNat) t else .bad
  | _, _ => .bad
def mIRng1 (a : E) : Src := fun sl t => (mAs [a] sl t).bind rng1
def mIRng2 (a b : E) : Src := fun sl t => (mAs [a, b] sl t).bind rng2
theorem mi_rng1 {p : Pos} (hg : Gl X "range") (hm : X.mg "range" = none) (ha : PE X a (tE X.K cn W ma)) (hs : starEach [a] X.env = [(false, eval a X.env)] := by rfl) : PI X tg (.Call (.Name "range" p) [a] [] pos) (tI X.K cn W (mIRng1 ma)) :=
  (pi_range1 hg hm (ma_cons (cn := cn) (W := W) ha ma_nil hs) hs).imp fun σ H R ⟨ρ, sl, t, rel, rs, h⟩ => by
    refine ⟨ρ, sl, t, rel, rs, okG.bind (S := ItRr X.K cn) (Q := R) (f := rng1) h fun vs t1 ρ1 H1 x e1 r1 rv h1 => ?_⟩
    unfold rng1 at h1
    split at h1
    · cases rv with | cons r q => ?_
      cases q; cases r
      split at h1
      · rename_i hc
        exact ⟨_, rfl, hc.2.2.1, hc.2.2.2, by have := h1 ρ1 H1 _ (Ext.refl _ _ _) r1 itr_rng; exact this⟩
      · exact (show False from h1).elim
    · exact (show False from h1).elim
theorem mi_rng2 {p : Pos} (hg : Gl X "range") (hm : X.mg "range" = none) (ha : PE X a (tE X.K cn W ma)) (hb : PE X b (tE X.K cn W mb)) (hs : starEach [a, b] X.env = [(false, eval a X.env), (false, eval b X.env)] := by rfl) (hs2 : starEach [b] X.env = [(false, eval b X.env)] := by rfl) :
    PI X tg (.Call (.Name "range" p) [a, b] [] pos) (tI X.K cn W (mIRng2 ma mb)) :=
  (pi_range2 hg hm (ma_cons (cn := cn) (W := W) ha (ma_cons hb ma_nil hs2) (by rw [hs, hs2])) hs hs2).imp fun σ H R ⟨ρ, sl, t, rel, rs, h⟩ => by
    refine ⟨ρ, sl, t, rel, rs, okG.bind (S := ItRr X.K cn) (Q := R) (f := rng2) h fun vs t1 ρ1 H1 x e1 r1 rv h1 => ?_⟩
    unfold rng2 at h1
    split at h1
    · cases rv with | cons r q => ?_
      cases q with | cons r' q' => ?_
      cases q'
      cases r; cases r'
      split at h1
      · rename_i hc
        exact ⟨_, _, rfl, ⟨hc.1, hc.2.1, hc.2.2.1, hc.2.2.2⟩, h1 ρ1 H1 _ (Ext.refl _ _ _) r1 itr_rng⟩
      · exact (show False from h1).elim
    · exact (show False from h1).elim
/-! ### for -/
theorem loop_eq (g : Tg) (b : S) (it : Itr') (k i : Nat) (sl : Sl) (t : Sto) : loop g b it k i sl t = match nxt it i t with
    | none => .bad
    | some none => .nx sl t
    | some (some v) => match k with
      | 0 => .bad
      | k + 1 => match g v sl with
        | none => .bad
        | some sl1 => match b sl1 t with
          | .nx sl2 t2 => loop g b it k (i + 1) sl2 t2
          | .ct sl2 t2 => loop g b it k (i + 1) sl2 t2
          | .bk sl2 t2 => .nx sl2 t2
          | o => o := by
  rw [loop]
theorem for_red {K : PySem.W.Frag} {src : Src} {g : Tg} {b : S} {D : Ends} {σ : St} {H : Hp} (h : tS K cn W (mFor src g b) D σ H) : tFor (tI K cn W src) (tG K cn g) (tS K cn W b) D σ H := by
  obtain ⟨ρ, sl, t, rel, rs, h⟩ := h
  refine ⟨ρ, sl, t, rel, rs, okS.ofE rs h fun it t1 ρ1 H1 J e1 r1 hJ h1 => ?_⟩
  refine ⟨fun i m σ' H' => ∃ ρ' sl' t', Ext K ρ1 H1 ρ' H' ∧ Rel K cn ρ' t' H' ∧ RS K H' ρ' sl' σ' ∧ okS K cn W ρ' H' D (loop g b it m i sl' t'), ⟨_, ρ1, sl, t1, Ext.refl _ _ _, r1, rs.mono e1, h1⟩, ?_⟩
  rintro i m σ' H' ⟨ρ', sl', t', e', r', rs', hl⟩
  have hi := hJ i ρ' t' H' e' r'
  rw [loop_eq] at hl
  cases en : nxt it i t' with
  | none => rw [en] at hl; exact (show False from hl).elim
  | some o =>
    rw [en] at hl hi
    cases o with
    | none => exact .inl ⟨hi, hl ρ' H' σ' (Ext.refl _ _ _) r' rs'⟩
    | some v =>
      obtain ⟨hgo, hy⟩ := hi
      cases m with
      | zero => exact (show False from hl).elim
      | succ k =>
        refine .inr ⟨hgo, fun σ2 H2 => ∃ ρ2 sl2 t2, Ext K ρ1 H1 ρ2 H2 ∧ Rel K cn ρ2 t2 H2 ∧ RS K H2 ρ2 sl2 σ2 ∧ okS K cn W ρ2 H2 D (loop g b it k (i + 1) sl2 t2), fun σ2 H2 n2 => ⟨k, Nat.lt_succ_self k, n2⟩, fun x H2 yx => ?_⟩
        obtain ⟨e2, r2, rv⟩ := hy x H2 yx
        dsimp only at hl
        cases eg : g v sl' with
        | none => rw [eg] at hl; exact (show False from hl).elim
        | some sl1 =>
          rw [eg] at hl
          refine ⟨ρ', sl', t', v, r2, rs'.mono e2, rv, sl1, eg, fun σ3 rs3 => ⟨ρ', sl1, t', r2, rs3, ?_⟩⟩
          dsimp only at hl
          cases eb : b sl1 t' with
          | nx sl2 t2 =>
            rw [eb] at hl
            exact fun ρ4 H4 σ4 e4 r4 rs4 => ⟨ρ4, sl2, t2, (e'.trans e2).trans e4, r4, rs4, okS.mono (e2.trans e4) hl⟩
          | ct sl2 t2 =>
            rw [eb] at hl
            exact fun ρ4 H4 σ4 e4 r4 rs4 => ⟨ρ4, sl2, t2, (e'.trans e2).trans e4, r4, rs4, okS.mono (e2.trans e4) hl⟩
          | bk sl2 t2 => rw [eb] at hl; exact okS.mono e2 hl
          | rt v2 t2 => rw [eb] at hl; exact okS.mono e2 hl
          | ex c fs sl2 t2 => rw [eb] at hl; exact okS.mono e2 hl
          | bad => rw [eb] at hl; exact (show False from hl).elim
theorem ms_for {iter : Expr} {body : List Stmt} {src : Src} {g : Tg} {mb : S} (hp : PassesOwn (model X.prog X.w) X.A X.env X.xe) (hc : X.calm = true) (hi : PI X tg iter (tI X.K cn W src)) (hg : PG X tg (tG X.K cn g)) (hb : PSs X body (tS X.K cn W mb))
    (hs : ∀ x, foldedSetIterable iter X.env x = pure x := by intro _; rfl) : PS X (.For tg iter body [] pos) (tS X.K cn W (mFor src g mb)) := (ps_for hp hc hi hg hb hs).imp fun D σ H h => for_red h
end
end Mn

set_option Elab.async false
set_option linter.all false
set_option maxRecDepth 100000
set_option maxHeartbeats 4000000
/-! MBe: defs, calls, methods, instances, fields, raise. -/
namespace Mn
open PySem L2

theorem toNat_inj {a b : Char} (h : a.toNat = b.toNat) : a = b := by
  apply Char.ext
  exact UInt32.toNat_inj.mp h
theorem ofString_inj {a b : String} (h : Str.ofString a = Str.ofString b) : a = b := by
  rw [Str.ofString_eq_toList, Str.ofString_eq_toList] at h
  have h1 : a.toList.map Char.toNat = b.toList.map Char.toNat := by
    have := congrArg (fun z : Str => z.cps.toList) h
    simpa using this
  have h2 : a.toList = b.toList := (List.map_inj_right (fun _ _ e => toNat_inj e)).mp h1
  exact String.toList_inj.mp h2
@[simp] theorem ofString_eq_iff {a b : String} : (Str.ofString a = Str.ofString b) ↔ a = b := ⟨ofString_inj, fun h => by rw [h]⟩
section
variable {K : PySem.W.Frag} {ρ : List Addr} {H : Hp}
theorem RFs.lookup_some {f : String} {v : Val} : ∀ {fs : List (String × Val)} {xs : List (Str × V)}, RFs K H ρ fs xs → fs.lookup f = some v → ∃ x, xs.lookup (Str.ofString f) = some x ∧ RV K H ρ v x
  | _, _, .nil, h => by cases h
  | _, _, .cons (f := g) r q, h => by
    by_cases e : f = g
    · subst e
      rw [List.lookup_cons_self] at h
      cases h
      exact ⟨_, List.lookup_cons_self, r⟩
    · have e1 : (f == g) = false := beq_eq_false_iff_ne.mpr e
      have e2 : (Str.ofString f == Str.ofString g) = false := beq_eq_false_iff_ne.mpr fun z => e (ofString_inj z)
      rw [List.lookup_cons, e1] at h
      obtain ⟨x, hx, rv⟩ := RFs.lookup_some q h
      exact ⟨x, by rw [List.lookup_cons, e2]; exact hx, rv⟩
theorem RFs.lookup_none {f : String} : ∀ {fs : List (String × Val)} {xs : List (Str × V)}, RFs K H ρ fs xs → fs.lookup f = none → xs.lookup (Str.ofString f) = none
  | _, _, .nil, h => rfl
  | _, _, .cons (f := g) r q, h => by
    by_cases e : f = g
    · subst e
      rw [List.lookup_cons_self] at h
      cases h
    · have e1 : (f == g) = false := beq_eq_false_iff_ne.mpr e
      have e2 : (Str.ofString f == Str.ofString g) = false := beq_eq_false_iff_ne.mpr fun z => e (ofString_inj z)
      rw [List.lookup_cons, e1] at h
      rw [List.lookup_cons, e2]
      exact RFs.lookup_none q h
theorem RFs.put {f : String} {v : Val} {x : V} (r : RV K H ρ v x) : ∀ {fs : List (String × Val)} {xs : List (Str × V)}, RFs K H ρ fs xs → RFs K H ρ (putG f v fs) (putF (Str.ofString f) x xs)
  | _, _, .nil => .cons r .nil
  | _, _, .cons (f := g) (vs := vs) (xs := xs) r' q => by
    unfold putG putF
    by_cases e : g = f
    · subst e
      rw [if_pos rfl, if_pos rfl]
      exact .cons r q
    · rw [if_neg e, if_neg fun z => e (ofString_inj z)]
      exact .cons r' (RFs.put r q)
theorem RS.start : ∀ {args : List Val} {vs : List V} (n : Nat), RVs K H ρ args vs → RS K H ρ (args.map some ++ List.replicate n none) (vs.map some ++ List.replicate n none)
  | _, _, 0, .nil => .nil
  | _, _, n + 1, .nil => by
    show RS K H ρ (none :: List.replicate n none) (none :: List.replicate n none)
    exact .skip (RS.start (args := []) (vs := []) n .nil)
  | _, _, n, .cons r q => .cons r (RS.start n q)
end

/-- a def's promise: what its plain function tells -/
def spM (K : PySem.W.Frag) (cn : Cn) (n : Nat) (f : MFn) : Sp := fun vs H Q E => vs.length = n ∧ ∃ ρ t args, Rel K cn ρ t H ∧ RVs K H ρ args vs ∧ okG K cn (fun cls d _ H' => E cls d H') ρ [] H (RVr K) Q (f args t)
theorem spM_len {K : PySem.W.Frag} {cn : Cn} {n : Nat} {f : MFn} {vs : List V} {H : Hp} {Q : VK} {E : XK} (h : spM K cn n f vs H Q E) : vs.length = n := h.1
/-- what a body's derivation leans on -/
structure Rdy (X : Cx) (W : WX) (k : Nat) : Prop where
  tk : Takes X W
  po : PassesOwn (model X.prog X.w) X.A X.env X.xe
  hr : Room k X.A
  hc : X.calm = true
theorem Rdy.eq {X : Cx} {W : WX} {k : Nat} (R : Rdy X W k) : X.A.units + 64 < cLine := R.hr.units
theorem Rdy.u1 {X : Cx} {W : WX} {k : Nat} (R : Rdy X W k) : X.A.units + 1 < cLine := by have := R.hr.units; omega
section
variable {P : Program} {w : World} {K : PySem.W.Frag} {mg : Str → Option Value} {base : Heap} {cn : Cn}
/-- a def, by its body -/
theorem fnM {x qual : Str} {st : Stmt} {f : Addr} {fd : FuncData} {N ps : List Str} {k n : Nat} {body : S} (F : Fun K x qual st f fd) (SC : FnScope N ps (defScope st)) (hn : N.length = n)
    (hb : ∀ (cdv : Value) (A : Around) (outer : List Env) (s : Shared) (H : Hp) (E : XK), Rdy (cxOf (L2.CX P w) P w K mg base N qual (defScope st) f cdv A outer s H E) (fun cls d _ H' => E cls d H') k →
      PSs (cxOf (L2.CX P w) P w K mg base N qual (defScope st) f cdv A outer s H E) (defBody st) (tS K cn (fun cls d _ H' => E cls d H') body)) :
    FnOk P w K mg base (L2.CX P w) (k + 1) f fd ps (spM K cn ps.length (mDef n body)) := by
  refine F.okX SC (fun vs H Q E h => h.1) (fun cdv A outer s H vs Q E hr h => ?_)
  refine ⟨_, hb cdv A outer s H E ⟨takes_of rfl rfl rfl rfl, passes_of rfl, hr, rfl⟩, ?_⟩
  obtain ⟨hl, ρ, t, args, rel, rv, h⟩ := h
  refine ⟨ρ, mStart n args, t, rel, ?_, ?_⟩
  · have e : L2.start N vs = vs.map some ++ List.replicate (n - args.length) none := by unfold L2.start; rw [hn, rv.length]
    rw [e]
    exact RS.start _ rv
  · unfold mDef at h
    cases e : body (mStart n args) t with
    | nx sl t' => rw [e] at h; exact fun ρ' H' σ' e1 r1 _ => h ρ' H' _ e1 r1 .non
    | rt v t' => rw [e] at h; exact h
    | bk sl t' => rw [e] at h; exact (show False from h).elim
    | ct sl t' => rw [e] at h; exact (show False from h).elim
    | ex c fs sl t' => rw [e] at h; exact fun ρ' H' σ' d e1 r1 _ rx => h ρ' H' d e1 r1 rx
    | bad => rw [e] at h; exact (show False from h).elim
/-- a def of the top that stands -/
structure DefOk (P : Program) (w : World) (K : PySem.W.Frag) (mg : Str → Option Value) (base : Heap) (cn : Cn) (x : Str) (n k : Nat) (fm : MFn) : Prop where
  ex : ∃ (f : Addr) (fd : FuncData) (ps : List Str), mg x = some (.ref f) ∧ PySem.W.keepIn K (.ref f) = true ∧ Binds K fd ps [] ∧ FnOk P w K mg base (L2.CX P w) k f fd ps (spM K cn n fm)
/-- a method that stands; n counts self -/
structure MethOk (P : Program) (w : World) (K : PySem.W.Frag) (mg : Str → Option Value) (base : Heap) (cn : Cn) (c m : String) (n k : Nat) (fm : MFn) : Prop where
  ex : ∃ (f : Addr) (fd : FuncData) (ps : List Str), Meth K (cn c) (Str.ofString m) f ∧ Binds K fd ps [] ∧ FnOk P w K mg base (L2.CX P w) k f fd ps (spM K cn n fm)
/-- a class that can be made -/
structure MakeOk (P : Program) (w : World) (K : PySem.W.Frag) (mg : Str → Option Value) (base : Heap) (cn : Cn) (c : String) (n k : Nat) (fm : MFn) : Prop where
  ex : ∃ (f : Addr) (fd : FuncData) (ps : List Str), mg (Str.ofString c) = some (.ref (cn c)) ∧ Mk K (cn c) f ∧ Binds K fd ps [] ∧ FnOk P w K mg base (L2.CX P w) k f fd ps (spM K cn n fm)
end
section
variable {X : Cx} {cn : Cn} {W : WX} {e o : Expr} {es : List Expr} {pos p apos : Pos} {m mo : E} {ms : List E} {n k : Nat} {fm : MFn} {x : Str}
theorem call_sp {K : PySem.W.Frag} {ρ : List Addr} {σ : St} {H : Hp} {Q : VK} {args : List Val} {vs : List V} {t : Sto} (hl : vs.length = n) (rel : Rel K cn ρ t H) (rv : RVs K H ρ args vs) (h : okG K cn W ρ σ H (RVr K) Q (fm args t)) : spM K cn n fm vs H Q (WE W σ) := by
  refine ⟨hl, ρ, t, args, rel, rv, ?_⟩
  cases e : fm args t with
  | ok v t' => rw [e] at h; exact h
  | ex c fs t' => rw [e] at h; exact h
  | bad => rw [e] at h; exact h
theorem me_call (D : DefOk X.prog X.w X.K X.mg X.base cn x n k fm) (R : Rdy X W k) (hg : Gl X x) (ha : PA X (e :: es) (tA X.K cn W (mAs ms))) (hl : ms.length = n) (hdb : (x == ("__debug__" : Str)) = false := by decide)
    (he : starEach (e :: es) X.env = (false, eval e X.env) :: starEach es X.env := by rfl) (hpl : (backTo pos (starEach es X.env)).any (·.1) = false := by rfl) :
    PE X (.Call (.Name x p) (e :: es) [] pos) (tE X.K cn W (mCall fm ms)) := by
  obtain ⟨f, fd, ps, h1, h2, h3, h4⟩ := D.ex
  refine (pe_callS h4 R.hr hg h1 h2 h3 (fun σ => passAt R.tk σ) ha hdb he hpl).imp fun σ H Q ⟨ρ, sl, t, rel, rs, h⟩ => ⟨ρ, sl, t, rel, rs, okG.bindE h fun vs t1 ρ1 H1 xs em e1 r1 rv hh => ?_⟩
  exact call_sp (by rw [← rv.length, mAs_len ms sl t t1 vs em]; exact hl) r1 rv hh
theorem me_call0 (D : DefOk X.prog X.w X.K X.mg X.base cn x 0 k fm) (R : Rdy X W k) (hg : Gl X x) (hdb : (x == ("__debug__" : Str)) = false := by decide) :
    PE X (.Call (.Name x p) [] [] pos) (tE X.K cn W (mCall fm [])) := by
  obtain ⟨f, fd, ps, h1, h2, h3, h4⟩ := D.ex
  refine ⟨fun pins s σ H Q I h => ?_⟩
  obtain ⟨ρ, sl, t, rel, rs, h⟩ := h
  refine wpAny_Call_Name_kw (ld_glob I hg h1 ?_ hdb)
  exact PySem.W.callWith_K0 I.kIn h2 (run_fnS (us := []) h4 R.hr h3 (passAt R.tk σ) I .nil (call_sp rfl rel .nil h))
theorem ins_of {K : PySem.W.Frag} {c : String} {ρ : List Addr} {t : Sto} {H : Hp} {v : Val} {y : V} {fs : List (String × Val)} (rel : Rel K cn ρ t H) (rv : RV K H ρ v y) (h : insOf c v t = some fs) :
    ∃ n a dx xs, v = .ref n ∧ y = .ref a ∧ ρ[n]? = some a ∧ t[n]? = some (.ins c fs) ∧ H a = some (.ins (cn c) dx xs) ∧ RFs K H ρ fs xs := by
  unfold insOf at h
  cases v with
  | ref n =>
    cases rv with | ref ha => ?_
    dsimp only at h
    split at h
    · rename_i c' fs' ht
      by_cases e : c' = c
      · rw [if_pos e] at h; cases h; subst e
        obtain ⟨ho, e1, r⟩ := rel.at ha ht (fun _ z => nomatch z)
        cases ho with
        | ins C dx xs =>
          obtain ⟨rfl, r⟩ := r
          exact ⟨n, _, dx, xs, rfl, rfl, ha, ht, e1, r⟩
        | _ => exact (show False from r).elim
      · rw [if_neg e] at h; cases h
    · cases h
  | _ => cases h
/-- o.m(e, ..), what is raised wished for at the slots -/
theorem me_meth {c mn : String} {pl : Sem Bool} (M : MethOk X.prog X.w X.K X.mg X.base cn c mn n k fm) (cl : Cls X.K (cn c)) (R : Rdy X W k) (he : PE X o (tE X.K cn W mo)) (ha : PA X (e :: es) (tA X.K cn W (mAs ms))) (hl : ms.length + 1 = n)
    (hst : starEach (e :: es) X.env = (false, eval e X.env) :: starEach es X.env := by rfl) (hpl : (backTo pos (starEach es X.env)).any (·.1) = false := by rfl)
    (ht : eval (.Call (.Attribute o (Str.ofString mn) apos) (e :: es) [] pos) X.env = (do
      let ov ← eval o X.env
      standAt apos.atName
      let (f, first) ← holding [ov] (getMethod ov (Str.ofString mn) pl)
      callWith pos f first (backTo pos (starEach (e :: es) X.env)) (backToKw pos (keywordEach [] X.env))) := by rfl) :
    PE X (.Call (.Attribute o (Str.ofString mn) apos) (e :: es) [] pos) (tE X.K cn W (mMeth c mn fm mo ms)) := by
  obtain ⟨f, fd, ps, h1, h3, h4⟩ := M.ex
  refine ⟨fun pins s σ H Q I h => ?_⟩
  obtain ⟨ρ, sl, t, rel, rs, h⟩ := h
  have hh : tE X.K cn W mo σ H fun y H1 => ∃ a dx fs, y = .ref a ∧ H1 a = some (.ins (cn c) dx fs) ∧ fs.lookup (Str.ofString mn) = none ∧ tA X.K cn W (mAs ms) σ H1 fun vs H2 => spM X.K cn n fm (y :: vs) H2 Q (WE W σ) := by
    refine ⟨ρ, sl, t, rel, rs, okG.bind h fun v t1 ρ1 H1 y e1 r1 rv hh => ?_⟩
    split at hh
    · rename_i fs hf
      split at hh
      · rename_i hlk
        obtain ⟨i, a, dx, xs, rfl, rfl, ha1, ht1, eH, rf⟩ := ins_of r1 rv hf
        refine ⟨a, dx, xs, rfl, eH, rf.lookup_none hlk, ρ1, sl, t1, r1, rs.mono e1, okG.bindE hh fun vs t2 ρ2 H2 ys em e2 r2 rvs h2 => ?_⟩
        exact call_sp (by rw [List.length_cons, ← rvs.length, mAs_len ms sl t1 t2 vs em]; exact hl) r2 (.cons (rv.mono e2) rvs) h2
      · exact hh.elim
    · exact hh.elim
  refine PySem.W.methodCall_KW (pl := pl) (thn (he.run pins s σ H _ I hh) fun u s1 ⟨y, H1, I1, rx, a, dx, fs, ex, ea, l, q⟩ => ?_) ht
  subst ex
  obtain rfl : u = Value.ref a := rx
  refine getmeth_ok I1 ea cl h1 l ?_
  refine PySem.W.callWith_K (first := [.ref a]) (h₀ := X.base) I.ok.mod.kin h1.kp (thn (ha.run pos pins s1 σ H1 _ I1 q) fun us s2 ⟨vs, H2, I2, r, q2⟩ => ⟨I2.kIn, ?_⟩) hst hpl
  exact run_fnS (us := .ref a :: us) (vs := .ref a :: vs) h4 R.hr h3 (passAt R.tk σ) I2 (.cons rfl r) q2
theorem me_meth0 {c mn : String} {pl : Sem Bool} (M : MethOk X.prog X.w X.K X.mg X.base cn c mn 1 k fm) (cl : Cls X.K (cn c)) (R : Rdy X W k) (he : PE X o (tE X.K cn W mo))
    (ht : eval (.Call (.Attribute o (Str.ofString mn) apos) [] [] pos) X.env = (do
      let ov ← eval o X.env
      standAt apos.atName
      let (f, first) ← holding [ov] (getMethod ov (Str.ofString mn) pl)
      callWith pos f first (backTo pos (starEach [] X.env)) (backToKw pos (keywordEach [] X.env))) := by rfl) :
    PE X (.Call (.Attribute o (Str.ofString mn) apos) [] [] pos) (tE X.K cn W (mMeth c mn fm mo [])) := by
  obtain ⟨f, fd, ps, h1, h3, h4⟩ := M.ex
  refine ⟨fun pins s σ H Q I h => ?_⟩
  obtain ⟨ρ, sl, t, rel, rs, h⟩ := h
  have hh : tE X.K cn W mo σ H fun y H1 => ∃ a dx fs, y = .ref a ∧ H1 a = some (.ins (cn c) dx fs) ∧ fs.lookup (Str.ofString mn) = none ∧ spM X.K cn 1 fm [y] H1 Q (WE W σ) := by
    refine ⟨ρ, sl, t, rel, rs, okG.bind h fun v t1 ρ1 H1 y e1 r1 rv hh => ?_⟩
    split at hh
    · rename_i fs hf
      split at hh
      · rename_i hlk
        obtain ⟨i, a, dx, xs, rfl, rfl, ha1, ht1, eH, rf⟩ := ins_of r1 rv hf
        exact ⟨a, dx, xs, rfl, eH, rf.lookup_none hlk, call_sp rfl r1 (.cons rv .nil) hh⟩
      · exact hh.elim
    · exact hh.elim
  refine PySem.W.methodCall_KW (pl := pl) (thn (he.run pins s σ H _ I hh) fun u s1 ⟨y, H1, I1, rx, a, dx, fs, ex, ea, l, q⟩ => ?_) ht
  subst ex
  obtain rfl : u = Value.ref a := rx
  refine getmeth_ok I1 ea cl h1 l ?_
  exact PySem.W.callWith_K0 (first := [.ref a]) I1.kIn h1.kp (run_fnS (us := [.ref a]) (vs := [.ref a]) h4 R.hr h3 (passAt R.tk σ) I1 (.cons rfl .nil) q)

/-! ### instances made -/
theorem run_makeS {CX : CXT} {fd : FuncData} {ps : List Str} {sp : Sp} {f C : Addr} {EE : St → XK} {pins : List (Addr × Obj)} {σ : St} {H : Hp} {s : Shared} {Q : VK} {us : List Value} {vs : List V} (M : Mk X.K C f) (F : FnOk X.prog X.w X.K X.mg X.base CX k f fd ps sp) (hr : Room (k + 1) X.A) (hb : Binds X.K fd ps [])
    (hx : PassesAt CX X σ (EE σ)) (I : Inv X pins σ H s) (r : Vals vs us)
    (h : ∀ x dx, H x = none → H dx = none → dx ≠ x → sp (.ref x :: vs) (upd (upd H dx (.own x)) x (.ins C dx [])) (fun v H2 => v = .non ∧ Q (.ref x) H2) (EE σ)) :
    wpAny (model X.prog X.w) X.A (call (.ref C) us) (EP X pins σ Q) X.xe s := by
  have hq := h (s.heap.objs.size + 1) s.heap.objs.size (I.hok.fresh (Nat.le_succ _)) (I.hok.fresh (Nat.le_refl _)) (Nat.ne_of_lt (Nat.lt_succ_self _))
  have I2 := Inv.made (C := C) I
  have r2 : Vals (V.ref (s.heap.objs.size + 1) :: vs) (Value.ref (s.heap.objs.size + 1) :: us) := .cons rfl r
  have hl : (Value.ref (s.heap.objs.size + 1) :: us).length = ps.length := by
    have e := r2.length
    rw [F.len _ _ _ _ hq] at e
    exact e.symm
  have b := hb { s with heap := (s.heap.push PySem.W.emptyDict).push (PySem.W.instObj C s.heap.objs.size) } (Value.ref (s.heap.objs.size + 1) :: us) I2.kIn (by rw [List.append_nil]; exact hl)
  rw [List.append_nil] at b
  refine wpAny_call (make_map (f := f) I.kIn M.makes M.init (beq_iff_eq.mp M.fn) (codeAny_mono (F.run _ X.stack _ _ ⟨Value.ref (s.heap.objs.size + 1) :: us, []⟩ (Value.ref (s.heap.objs.size + 1) :: us) _ _ (EE σ) (hr.make C us [])
    (I2.env0.make C us []) b r2 hq) fun r s' hq' => ?_))
  cases r with
  | error e => exact hx pins _ _ e s' I2 hq'
  | ok fl =>
    cases fl with
    | ret u =>
      obtain ⟨v, H', I3, rv, ev, q3⟩ := I2.after hq'
      subst ev
      exact ⟨rv, ⟨V.ref (s.heap.objs.size + 1), H', I3, rfl, q3⟩⟩
    | next => exact False.elim hq'
    | brk => exact False.elim hq'
    | cont => exact False.elim hq'
theorem make_sp {K : PySem.W.Frag} {c : String} {ρ : List Addr} {σ : St} {H : Hp} {Q : VK} {args : List Val} {vs : List V} {t : Sto} (hl : vs.length + 1 = n) (rel : Rel K cn ρ t H) (rv : RVs K H ρ args vs)
    (h : okG K cn W ρ σ H (RVr K) Q ((fm (.ref t.length :: args) (t ++ [.ins c []])).bind fun v t2 => match v with | .non => .ok (.ref t.length) t2 | _ => .bad)) (x dx : Addr) (hx : H x = none) (hdx : H dx = none) (ne : dx ≠ x) :
    spM K cn n fm (.ref x :: vs) (upd (upd H dx (.own x)) x (.ins (cn c) dx [])) (fun v H2 => v = .non ∧ Q (.ref x) H2) (WE W σ) := by
  have r1 := rel.other (o := .own x) hdx
  have e1 : Ext K ρ H ρ (upd H dx (.own x)) := ext_upd (.inl hdx)
  have hx1 : (upd H dx (.own x)) x = none := by rw [upd_ne (Ne.symm ne)]; exact hx
  have r2 := r1.alloc (o := .ins c []) (ho := .ins (cn c) dx []) hx1 ⟨rfl, .nil⟩
  have e2 : Ext K ρ (upd H dx (.own x)) (ρ ++ [x]) (upd (upd H dx (.own x)) x (.ins (cn c) dx [])) := ext_alloc hx1
  have rn : RV K (upd (upd H dx (.own x)) x (.ins (cn c) dx [])) (ρ ++ [x]) (.ref t.length) (.ref x) := alloc_ref rel
  refine ⟨by rw [List.length_cons]; exact hl, _, _, .ref t.length :: args, r2, .cons rn (rv.mono (e1.trans e2)), ?_⟩
  have h := okG.mono (e1.trans e2) h
  cases e : fm (.ref t.length :: args) (t ++ [.ins c []]) with
  | ok v t' =>
    rw [e] at h
    intro ρ' H' y e3 r3 ry
    cases v with
    | non => cases ry; exact ⟨rfl, h ρ' H' _ e3 r3 (rn.mono e3)⟩
    | _ => exact (show False from h).elim
  | ex c fs t' => rw [e] at h; exact h
  | bad => rw [e] at h; exact h
theorem me_make {c : String} (M : MakeOk X.prog X.w X.K X.mg X.base cn c n k fm) (R : Rdy X W (k + 1)) (hg : Gl X (Str.ofString c)) (ha : PA X (e :: es) (tA X.K cn W (mAs ms))) (hl : ms.length + 1 = n) (hdb : (Str.ofString c == ("__debug__" : Str)) = false := by decide)
    (he : starEach (e :: es) X.env = (false, eval e X.env) :: starEach es X.env := by rfl) (hpl : (backTo pos (starEach es X.env)).any (·.1) = false := by rfl) : PE X (.Call (.Name (Str.ofString c) p) (e :: es) [] pos) (tE X.K cn W (mMake c fm ms)) := by
  obtain ⟨f, fd, ps, h1, h2, h3, h4⟩ := M.ex
  refine ⟨fun pins s σ H Q I h => ?_⟩
  obtain ⟨ρ, sl, t, rel, rs, h⟩ := h
  have hh : tA X.K cn W (mAs ms) σ H fun vs H1 => ∀ x dx, H1 x = none → H1 dx = none → dx ≠ x → spM X.K cn n fm (.ref x :: vs) (upd (upd H1 dx (.own x)) x (.ins (cn c) dx [])) (fun v H2 => v = .non ∧ Q (.ref x) H2) (WE W σ) :=
    ⟨ρ, sl, t, rel, rs, okG.bindE h fun vs t1 ρ1 H1 xs em e1 r1 rv hh => make_sp (by rw [← rv.length, mAs_len ms sl t t1 vs em]; exact hl) r1 rv hh⟩
  refine wpAny_Call_Name_kw (ld_glob I hg h1 ?_ hdb)
  refine PySem.W.callWith_K (h₀ := X.base) I.ok.mod.kin h2.kp (thn (ha.run pos pins s σ H _ I hh) fun us s1 ⟨vs, H1, I1, r, q⟩ => ⟨I1.kIn, ?_⟩) he hpl
  exact run_makeS h2 h4 R.hr h3 (passAt R.tk σ) I1 r q
theorem me_make0 {c : String} (M : MakeOk X.prog X.w X.K X.mg X.base cn c 1 k fm) (R : Rdy X W (k + 1)) (hg : Gl X (Str.ofString c)) (hdb : (Str.ofString c == ("__debug__" : Str)) = false := by decide) : PE X (.Call (.Name (Str.ofString c) p) [] [] pos) (tE X.K cn W (mMake c fm [])) := by
  obtain ⟨f, fd, ps, h1, h2, h3, h4⟩ := M.ex
  refine ⟨fun pins s σ H Q I h => ?_⟩
  obtain ⟨ρ, sl, t, rel, rs, h⟩ := h
  refine wpAny_Call_Name_kw (ld_glob I hg h1 ?_ hdb)
  exact PySem.W.callWith_K0 I.kIn h2.kp (run_makeS (us := []) (vs := []) h2 h4 R.hr h3 (passAt R.tk σ) I .nil (make_sp rfl rel .nil h))

/-! ### fields -/
theorem me_fld {c f : String} (cl : Cls X.K (cn c)) (na : NoAttr X.K (cn c) (Str.ofString f)) (he : PE X e (tE X.K cn W m)) (hb : attributeBase e (Str.ofString f) X.env (eval e X.env) = eval e X.env := by rfl) : PE X (.Attribute e (Str.ofString f) pos) (tE X.K cn W (mFld c f m)) :=
  (pe_fld he hb).imp fun σ H Q ⟨ρ, sl, t, rel, rs, h⟩ => ⟨ρ, sl, t, rel, rs, okG.bind h fun v t1 ρ1 H1 y e1 r1 rv hh => by
    split at hh
    · rename_i fs hf
      split at hh
      · rename_i u hu
        obtain ⟨i, a, dx, xs, rfl, rfl, ha1, ht1, eH, rf⟩ := ins_of r1 rv hf
        obtain ⟨x, hx, rx⟩ := rf.lookup_some hu
        exact ⟨a, _, dx, xs, x, rfl, eH, cl, na, hx, hh ρ1 H1 x (Ext.refl _ _ _) r1 rx⟩
      · exact hh.elim
    · exact hh.elim⟩
theorem ms_fld {c f : String} {value : Expr} {mv : E} {pos' : Pos} (cl : Cls X.K (cn c)) (na : NoAttr X.K (cn c) (Str.ofString f)) (ha : PE X o (tE X.K cn W mo)) (hv : PE X value (tE X.K cn W mv)) (hs : swapsWith value (some (.Attribute o (Str.ofString f) pos')) pos.line X.env = pure false := by rfl) :
    PS X (.Assign [.Attribute o (Str.ofString f) pos'] value pos) (tS X.K cn W (mFldSet c f mo mv)) :=
  (ps_fld ha hv hs).imp fun D σ H ⟨ρ, sl, t, rel, rs, h⟩ => ⟨ρ, sl, t, rel, rs, okS.ofE rs h fun y t1 ρ1 H1 yv e1 r1 ry h1 => ⟨ρ1, sl, t1, r1, rs.mono e1, okS.ofE (rs.mono e1) h1 fun v t2 ρ2 H2 x e2 r2 rv h2 => by
    split at h2
    · rename_i n fs hf
      split at h2
      · rename_i hlen
        obtain ⟨i, a, dx, xs, ev, rfl, ha1, ht1, eH, rf⟩ := ins_of r2 rv hf
        cases ev
        have ex : Ext X.K ρ2 H2 ρ2 (upd H2 a (.ins (cn c) dx (putF (Str.ofString f) yv xs))) := ext_upd (.inr ⟨_, eH, trivial⟩)
        refine ⟨a, _, dx, xs, rfl, eH, cl, na, by rw [← rf.length]; exact hlen, h2 ρ2 _ σ ex (r2.set ha1 ht1 (fun _ z => nomatch z) eH trivial (fun _ _ z => nomatch z) ⟨rfl, rf.put (ry.mono e2)⟩ (fun _ z => nomatch z)) (((rs.mono e1).mono e2).mono ex)⟩
      · exact h2.elim
    · exact h2.elim⟩⟩
/-- raise C('..') of a class of the program without own __init__ -/
structure ExcOk (K : PySem.W.Frag) (mg : Str → Option Value) (cn : Cn) (c : String) : Prop where
  g : mg (Str.ofString c) = some (.ref (cn c))
  x : PySem.W.excIn K (cn c) [.type "ValueError", .type "Exception", .type "BaseException", .type "object"] "ValueError.__new__" = true
  kp : PySem.W.keepIn K (.ref (cn c)) = true
  b : PySem.W.subIn K (.ref (cn c)) (.type "BaseException") = some true
  t : PySem.W.typeIn K (.ref (cn c)) = some (.type "type")
theorem ms_raise {c : String} {xm : Str} {j : Nat} {k' : Nat} {p2 pos2 : Pos} (EX : ExcOk X.K X.mg cn c) (R : Rdy X W k') (hg : Gl X (Str.ofString c)) (hdb : (Str.ofString c == ("__debug__" : Str)) = false := by decide) :
    PS X (.Raise (some (.Call (.Name (Str.ofString c) p) [.Constant (.str xm) j p2] [] pos)) none pos2) (tS X.K cn W (mRaise c)) :=
  (ps_raise R.hc R.tk (pmk_own PySem.F.excBase_ValueError EX.x EX.g EX.kp (raises_own EX.b EX.t) hg hdb)).imp fun D σ H ⟨ρ, sl, t, rel, rs, h⟩ => h ρ H σ none (Ext.refl _ _ _) rel rs (.inl ⟨rfl, rfl⟩)
end
end Mn

set_option Elab.async false
set_option linter.all false
set_option maxRecDepth 100000
set_option maxHeartbeats 4000000
/-! MBf: built-in calls, methods of built-in types, subscripts, slices, enumerate, isinstance. -/
namespace Mn
open PySem L2

/-! ### calls of built-ins, methods of built-in types -/
abbrev GA := List Val → Sto → Option (Val × Sto)
abbrev GM := Val → List Val → Sto → Option (Val × Sto)
def rC (K : PySem.W.Frag) (cn : Cn) (f : GA) : List V → Hp → VK → Prop := fun xs H Q => ∃ ρ t vs, Rel K cn ρ t H ∧ RVs K H ρ vs xs ∧ okP K cn ρ H (RVr K) Q (f vs t)
def rM (K : PySem.W.Frag) (cn : Cn) (f : GM) : V → List V → Hp → VK → Prop := fun x xs H Q => ∃ ρ t v vs, Rel K cn ρ t H ∧ RV K H ρ v x ∧ RVs K H ρ vs xs ∧ okP K cn ρ H (RVr K) Q (f v vs t)
def mCB (f : GA) (ms : List E) : E := fun sl t => (mAs ms sl t).bind fun vs t1 => ofO (f vs t1)
/-- is it of that built-in type -/
def tyG (T : String) : Val → Sto → Bool
  | .str _, _ => T == "str"
  | .ref n, t => match t[n]? with
    | some (.lst _) => T == "list"
    | some (.scr _) => T == "list"
    | some (.dK _) => T == "dict"
    | some (.dT _) => T == "dict"
    | _ => false
  | _, _ => false
def mBM (T : String) (f : GM) (o : E) (ms : List E) : E := fun sl t => (o sl t).bind fun v t1 => if tyG T v t1 = true then (mAs ms sl t1).bind fun vs t2 => ofO (f v vs t2) else .bad
section
variable {K : PySem.W.Frag} {cn : Cn} {ρ : List Addr} {t : Sto} {H : Hp}
theorem Rel.dk {n : Nat} {a : Addr} {kvs : List (Key × Val)} (R : Rel K cn ρ t H) (h : ρ[n]? = some a) (ht : t[n]? = some (.dK kvs)) : ∃ ks, H a = some (.dK ks) ∧ RKs K H ρ kvs ks := by
  obtain ⟨ho, e, r⟩ := R.at h ht (fun _ z => nomatch z)
  cases ho with
  | dK ks => exact ⟨ks, e, r⟩
  | _ => exact (show False from r).elim
theorem Rel.dt {n : Nat} {a : Addr} {kvs : List (List Key × Val)} (R : Rel K cn ρ t H) (h : ρ[n]? = some a) (ht : t[n]? = some (.dT kvs)) : ∃ ks, H a = some (.dT ks) ∧ RKs K H ρ kvs ks := by
  obtain ⟨ho, e, r⟩ := R.at h ht (fun _ z => nomatch z)
  cases ho with
  | dT ks => exact ⟨ks, e, r⟩
  | _ => exact (show False from r).elim
theorem tyG_ok {T : String} {v : Val} {x : V} (rel : Rel K cn ρ t H) (r : RV K H ρ v x) (h : tyG T v t = true) : tyV K T x H := by
  unfold tyG at h
  split at h
  · cases r; exact beq_iff_eq.mp h
  · cases r with | ref ha => ?_
    split at h
    · rename_i hx
      obtain ⟨xs, e, _⟩ := rel.sqL ha hx
      exact .inl ⟨beq_iff_eq.mp h, xs, SqL.of e⟩
    · rename_i hx
      exact .inl ⟨beq_iff_eq.mp h, _, rel.scr ha hx⟩
    · rename_i hx
      obtain ⟨ks, e, _⟩ := rel.dk ha hx
      exact .inr (.inr (.inl ⟨beq_iff_eq.mp h, .inl ⟨ks, e⟩⟩))
    · rename_i hx
      obtain ⟨ks, e, _⟩ := rel.dt ha hx
      exact .inr (.inr (.inl ⟨beq_iff_eq.mp h, .inr ⟨ks, e⟩⟩))
    · cases h
  · cases h
end
section
variable {X : Cx} {cn : Cn} {W : WX} {e o : Expr} {es : List Expr} {m mo : E} {ms : List E} {pos p apos cpos : Pos} {T id : String} {f : GA} {g : GM}
theorem cb_red {σ : St} {H : Hp} {Q : VK} (h : tE X.K cn W (mCB f ms) σ H Q) : tCB (rC X.K cn f) (tA X.K cn W (mAs ms)) σ H Q := by
  obtain ⟨ρ, sl, t, rel, rs, h⟩ := h
  exact ⟨ρ, sl, t, rel, rs, okG.bind h fun vs t1 ρ1 H1 xs e1 r1 rv h1 => ⟨ρ1, t1, vs, r1, rv, h1.toP⟩⟩
theorem me_cb {x : Str} (hc : CallR X (.builtin id) (rC X.K cn f)) (hg : Gl X x) (hm : X.mg x = none) (hv : bootBuiltins x = some (.builtin id)) (ha : PA X (e :: es) (tA X.K cn W (mAs ms))) (hn : x ≠ "__name__" := by decide) (hdb : (x == ("__debug__" : Str)) = false := by decide)
    (he : starEach (e :: es) X.env = (false, eval e X.env) :: starEach es X.env := by rfl) (hpl : (backTo pos (starEach es X.env)).any (·.1) = false := by rfl) : PE X (.Call (.Name x p) (e :: es) [] pos) (tE X.K cn W (mCB f ms)) :=
  (pe_callB hc hg hm hv ha hn hdb he hpl).imp fun _ _ _ h => cb_red h
theorem me_cty {x : Str} (hc : CallR X (.type T) (rC X.K cn f)) (hg : Gl X x) (hm : X.mg x = none) (hv : bootBuiltins x = some (.type T)) (ha : PA X (e :: es) (tA X.K cn W (mAs ms))) (hn : x ≠ "__name__" := by decide) (hdb : (x == ("__debug__" : Str)) = false := by decide)
    (he : starEach (e :: es) X.env = (false, eval e X.env) :: starEach es X.env := by rfl) (hpl : (backTo pos (starEach es X.env)).any (·.1) = false := by rfl) : PE X (.Call (.Name x p) (e :: es) [] pos) (tE X.K cn W (mCB f ms)) :=
  (pe_callTy hc hg hm hv ha hn hdb he hpl).imp fun _ _ _ h => cb_red h
theorem me_bm {name : Str} (pa : PlainAttrs T) (slot : Slot T name id) (hty : typeOf (.builtin id) = pure (.type "method_descriptor")) (hm : MtR X id (rM X.K cn g)) (ho : PE X o (tE X.K cn W mo)) (ha : PA X (e :: es) (tA X.K cn W (mAs ms)))
    (hbase : attributeBase o name X.env (eval o X.env) = eval o X.env := by rfl)
    (hfew : ((backTo cpos (starEach (e :: es) X.env)).all (fun x => !x.1) && (backToKw cpos (keywordEach [] X.env)).all (fun x => x.1.isSome)
      && decide ((e :: es).length + ([] : List Keyword).length + (if ([] : List Keyword).isEmpty then 0 else 1) < 30)) = true := by rfl)
    (hline : (apos.endLine == cpos.line) = true := by rfl) (hs : starEach (e :: es) X.env = (false, eval e X.env) :: starEach es X.env := by rfl) (hplain : (backTo cpos (starEach es X.env)).any (·.1) = false := by rfl) :
    PE X (.Call (.Attribute o name apos) (e :: es) [] cpos) (tE X.K cn W (mBM T g mo ms)) :=
  (pe_bm pa slot hty hm ho ha hbase hfew hline hs hplain).imp fun σ H Q ⟨ρ, sl, t, rel, rs, h⟩ => ⟨ρ, sl, t, rel, rs, okG.bind h fun v t1 ρ1 H1 x e1 r1 rv h1 => by
    split at h1
    · rename_i ht
      exact ⟨tyG_ok r1 rv ht, ρ1, sl, t1, r1, rs.mono e1, okG.bind h1 fun vs t2 ρ2 H2 xs e2 r2 rvs h2 => ⟨ρ2, t2, v, vs, r2, rv.mono e2, rvs, h2.toP⟩⟩
    · exact h1.elim⟩
theorem me_bm0 {name : Str} (pa : PlainAttrs T) (slot : Slot T name id) (hty : typeOf (.builtin id) = pure (.type "method_descriptor")) (hm : MtR X id (rM X.K cn g)) (ho : PE X o (tE X.K cn W mo))
    (hbase : attributeBase o name X.env (eval o X.env) = eval o X.env := by rfl) (hline : (apos.endLine == cpos.line) = true := by rfl) : PE X (.Call (.Attribute o name apos) [] [] cpos) (tE X.K cn W (mBM T g mo [])) :=
  (pe_bm0 pa slot hty hm ho hbase hline).imp fun σ H Q ⟨ρ, sl, t, rel, rs, h⟩ => ⟨ρ, sl, t, rel, rs, okG.bind h fun v t1 ρ1 H1 x e1 r1 rv h1 => by
    split at h1
    · rename_i ht
      exact ⟨tyG_ok r1 rv ht, ρ1, t1, v, [], r1, rv, .nil, h1.toP⟩
    · exact h1.elim⟩
end

/-! ### len, min, max -/
def gLen : GA
  | [.str x], t => if x.length ≤ sizeLine then some (.int x.length, t) else none
  | [.tup l], t => some (.int l.length, t)
  | [.con l], t => some (.int l.length, t)
  | [.ref n], t => match t[n]? with
    | some (.lst xs) => some (.int xs.length, t)
    | some (.scr ns) => some (.int ns.length, t)
    | _ => none
  | _, _ => none
def gMin2 : GA
  | [.int i, .int j], t => some (.int (if j < i then j else i), t)
  | _, _ => none
def gMax2 : GA
  | [.int i, .int j], t => some (.int (if j > i then j else i), t)
  | _, _ => none
section
variable {X : Cx} {cn : Cn}
theorem RVs.one {K : PySem.W.Frag} {H : Hp} {ρ : List Addr} {v : Val} {xs : List V} (r : RVs K H ρ [v] xs) : ∃ x, xs = [x] ∧ RV K H ρ v x := by
  cases r with | cons r q => cases q; exact ⟨_, rfl, r⟩
theorem RVs.two {K : PySem.W.Frag} {H : Hp} {ρ : List Addr} {v u : Val} {xs : List V} (r : RVs K H ρ [v, u] xs) : ∃ x y, xs = [x, y] ∧ RV K H ρ v x ∧ RV K H ρ u y := by
  cases r with | cons r q => cases q with | cons q z => cases z; exact ⟨_, _, rfl, r, q⟩
theorem cr_len : CallR X (.builtin "len") (rC X.K cn gLen) := by
  intro pins s σ H xs us Q I r h
  obtain ⟨ρ, t, vs, rel, rv, h⟩ := h
  refine call_len pins s σ H xs us Q I r ?_
  unfold gLen at h
  split at h
  · obtain ⟨x, rfl, r1⟩ := rv.one
    cases r1
    split at h
    · rename_i hz
      exact ⟨_, _, rfl, ⟨hz, rfl⟩, h ρ H _ (Ext.refl _ _ _) rel (.int _)⟩
    · exact h.elim
  · obtain ⟨x, rfl, r1⟩ := rv.one
    cases r1 with | tup hs q => ?_
    exact ⟨_, _, rfl, .inr ⟨_, SqT.of hs, rfl⟩, by rw [← q.length]; exact h ρ H _ (Ext.refl _ _ _) rel (.int _)⟩
  · obtain ⟨x, rfl, r1⟩ := rv.one
    cases r1 with | con hs q => ?_
    exact ⟨_, _, rfl, .inr ⟨_, hs.sq _, rfl⟩, by rw [← q.length]; exact h ρ H _ (Ext.refl _ _ _) rel (.int _)⟩
  · obtain ⟨x, rfl, r1⟩ := rv.one
    cases r1 with | ref ha => ?_
    split at h
    · rename_i hx
      obtain ⟨ys, e, q⟩ := rel.sqL ha hx
      exact ⟨_, _, rfl, .inl ⟨_, SqL.of e, rfl⟩, by rw [← q.length]; exact h ρ H _ (Ext.refl _ _ _) rel (.int _)⟩
    · rename_i ns hx
      exact ⟨_, _, rfl, .inl ⟨_, rel.scr ha hx, rfl⟩, by rw [List.length_map]; exact h ρ H _ (Ext.refl _ _ _) rel (.int _)⟩
    · exact h.elim
  · exact h.elim
theorem cr_min2 (hc : X.calm = true) : CallR X (.builtin "min") (rC X.K cn gMin2) := by
  intro pins s σ H xs us Q I r h
  obtain ⟨ρ, t, vs, rel, rv, h⟩ := h
  refine call_min2 hc pins s σ H xs us Q I r ?_
  unfold gMin2 at h
  split at h
  · obtain ⟨x, y, rfl, r1, r2⟩ := rv.two
    cases r1; cases r2
    exact ⟨_, _, rfl, h ρ H _ (Ext.refl _ _ _) rel (.int _)⟩
  · exact h.elim
theorem cr_max2 (hc : X.calm = true) : CallR X (.builtin "max") (rC X.K cn gMax2) := by
  intro pins s σ H xs us Q I r h
  obtain ⟨ρ, t, vs, rel, rv, h⟩ := h
  refine call_max2 hc pins s σ H xs us Q I r ?_
  unfold gMax2 at h
  split at h
  · obtain ⟨x, y, rfl, r1, r2⟩ := rv.two
    cases r1; cases r2
    exact ⟨_, _, rfl, h ρ H _ (Ext.refl _ _ _) rel (.int _)⟩
  · exact h.elim
end

/-! ### lists' methods -/
def gApp : GM
  | .ref n, [v], t => match t[n]? with
    | some (.lst xs) => if xs.length < sizeLine then some (.non, t.set n (.lst (xs ++ [v]))) else none
    | _ => none
  | _, _, _ => none
def gPop : GM
  | .ref n, [], t => match t[n]? with
    | some (.lst xs) => match xs[xs.length - 1]? with
      | some v => some (v, t.set n (.lst xs.dropLast))
      | none => none
    | _ => none
  | _, _, _ => none
def gClear : GM
  | .ref n, [], t => match t[n]? with
    | some (.lst _) => some (.non, t.set n (.lst []))
    | _ => none
  | _, _, _ => none
section
variable {X : Cx} {cn : Cn}
theorem set_lst {K : PySem.W.Frag} {ρ : List Addr} {t : Sto} {H : Hp} {n : Nat} {a : Addr} {vs ws : List Val} {xs ys : List V} (rel : Rel K cn ρ t H) (ha : ρ[n]? = some a) (ht : t[n]? = some (.lst vs)) (e : H a = some (.lst xs)) (r : RVs K H ρ ws ys) :
    Ext K ρ H ρ (upd H a (.lst ys)) ∧ Rel K cn ρ (t.set n (.lst ws)) (upd H a (.lst ys)) :=
  ⟨ext_upd (.inr ⟨_, e, trivial⟩), rel.set ha ht (fun _ z => nomatch z) e trivial (fun _ _ z => nomatch z) (show RVs _ _ _ _ _ from r) (fun _ z => nomatch z)⟩
theorem mg_append : MtR X "list.append" (rM X.K cn gApp) := by
  intro pins s σ H x xs v us Q I rx rxs h
  obtain ⟨ρ, t, w, ws, rel, rw', rws, h⟩ := h
  refine mt_append pins s σ H x xs v us Q I rx rxs ?_
  unfold gApp at h
  split at h
  · obtain ⟨y, rfl, r1⟩ := rws.one
    split at h
    · rename_i hx
      split at h
      · rename_i hz
        cases rw' with | ref ha => ?_
        obtain ⟨ys, e, r⟩ := rel.sqL ha hx
        obtain ⟨e1, r1'⟩ := set_lst rel ha hx e (r.append (.cons r1 .nil))
        exact ⟨_, ys, y, rfl, rfl, e, by rw [← r.length]; exact hz, h ρ _ _ e1 r1' .non⟩
      · exact h.elim
    · exact h.elim
  · exact h.elim
theorem mg_pop : MtR X "list.pop" (rM X.K cn gPop) := by
  intro pins s σ H x xs v us Q I rx rxs h
  obtain ⟨ρ, t, w, ws, rel, rw', rws, h⟩ := h
  refine mt_pop pins s σ H x xs v us Q I rx rxs ?_
  unfold gPop at h
  split at h
  · cases rws
    split at h
    · rename_i vs hx
      split at h
      · rename_i u hu
        cases rw' with | ref ha => ?_
        obtain ⟨ys, e, r⟩ := rel.sqL ha hx
        obtain ⟨e1, r1'⟩ := set_lst rel ha hx e r.dropLast
        obtain ⟨y, hy, ry⟩ := r.get hu
        exact ⟨_, ys, y, rfl, rfl, e, by rw [← r.length]; exact hy, h ρ _ _ e1 r1' (ry.mono e1)⟩
      · exact h.elim
    · exact h.elim
  · exact h.elim
theorem mg_clear : MtR X "list.clear" (rM X.K cn gClear) := by
  intro pins s σ H x xs v us Q I rx rxs h
  obtain ⟨ρ, t, w, ws, rel, rw', rws, h⟩ := h
  refine mt_clear pins s σ H x xs v us Q I rx rxs ?_
  unfold gClear at h
  split at h
  · cases rws
    split at h
    · rename_i vs hx
      cases rw' with | ref ha => ?_
      obtain ⟨ys, e, r⟩ := rel.sqL ha hx
      obtain ⟨e1, r1'⟩ := set_lst (ws := []) (ys := []) rel ha hx e .nil
      exact ⟨_, ys, rfl, rfl, e, h ρ _ _ e1 r1' .non⟩
    · exact h.elim
  · exact h.elim
end

/-! ### subscripts -/
def keyOf : Val → Option Key
  | .int i => some (.inl i)
  | .str x => some (.inr x)
  | _ => none
def keysOf : List Val → Option (List Key)
  | [] => some []
  | v :: r => match keyOf v, keysOf r with
    | some k, some ks => some (k :: ks)
    | _, _ => none
section
variable {κ : Type} [DecidableEq κ]
def vGet (kvs : List (κ × Val)) (k : κ) : Option Val := (kvs.find? fun kv => decide (kv.1 = k)).map (·.2)
def vPut (kvs : List (κ × Val)) (k : κ) (v : Val) : List (κ × Val) :=
  if (kvs.any fun kv => decide (kv.1 = k)) = true then kvs.map (fun kv => if kv.1 = k then (kv.1, v) else kv) else kvs ++ [(k, v)]
variable {K : PySem.W.Frag} {H : Hp} {ρ : List Addr}
theorem RKs.get_some {k : κ} {v : Val} : ∀ {kvs : List (κ × Val)} {ks : List (κ × V)}, RKs K H ρ kvs ks → vGet kvs k = some v → ∃ x, valV ks k = some x ∧ RV K H ρ v x
  | _, _, .nil, h => by simp [vGet] at h
  | _, _, .cons (k := k') r q, h => by
    by_cases e : k' = k
    · subst e
      simp only [vGet, List.find?_cons, decide_true, Option.map_some, Option.some.injEq] at h
      subst h
      exact ⟨_, valV_pos (p := (_, _)) rfl, r⟩
    · rw [valV_neg (p := (_, _)) e]
      simp only [vGet, List.find?_cons, decide_eq_false e] at h
      exact RKs.get_some q h
theorem RKs.get_none {k : κ} : ∀ {kvs : List (κ × Val)} {ks : List (κ × V)}, RKs K H ρ kvs ks → vGet kvs k = none → valV ks k = none
  | _, _, .nil, h => rfl
  | _, _, .cons (k := k') r q, h => by
    by_cases e : k' = k
    · subst e
      simp [vGet, List.find?_cons] at h
    · rw [valV_neg (p := (_, _)) e]
      simp only [vGet, List.find?_cons, decide_eq_false e] at h
      exact RKs.get_none q h
theorem RKs.any {k : κ} : ∀ {kvs : List (κ × Val)} {ks : List (κ × V)}, RKs K H ρ kvs ks → (kvs.any fun kv => decide (kv.1 = k)) = ks.any fun kv => decide (kv.1 = k)
  | _, _, .nil => rfl
  | _, _, .cons r q => by simp only [List.any_cons, RKs.any q]
theorem RKs.append {kvs us : List (κ × Val)} {ks xs : List (κ × V)} (h : RKs K H ρ kvs ks) (g : RKs K H ρ us xs) : RKs K H ρ (kvs ++ us) (ks ++ xs) := by
  induction h with
  | nil => exact g
  | cons r _ ih => exact .cons r ih
theorem RKs.map {k : κ} {v : Val} {x : V} (rv : RV K H ρ v x) : ∀ {kvs : List (κ × Val)} {ks : List (κ × V)}, RKs K H ρ kvs ks → RKs K H ρ (kvs.map fun kv => if kv.1 = k then (kv.1, v) else kv) (ks.map fun kv => if kv.1 = k then (kv.1, x) else kv)
  | _, _, .nil => .nil
  | _, _, .cons (k := k') r q => by
    simp only [List.map_cons]
    by_cases e : k' = k
    · simp only [e, if_true]; exact .cons rv (RKs.map rv q)
    · simp only [e, if_false]; exact .cons r (RKs.map rv q)
theorem RKs.put {k : κ} {v : Val} {x : V} (rv : RV K H ρ v x) {kvs : List (κ × Val)} {ks : List (κ × V)} (h : RKs K H ρ kvs ks) : RKs K H ρ (vPut kvs k v) (putK ks k x) := by
  unfold vPut putK
  rw [h.any (k := k)]
  split
  · exact RKs.map rv h
  · exact h.append (.cons rv .nil)
end
def gIx : G2
  | .tup l, .int i, t => (atI l i).map (·, t)
  | .con l, .int i, t => (atI l i).map (·, t)
  | .str z, .int i, t => match atI z.cps.toList i with
    | some c => if z.length ≤ sizeLine ∧ PyData.strOk ⟨#[c]⟩ = true then some (.str ⟨#[c]⟩, t) else none
    | none => none
  | .ref n, v, t => match t[n]? with
    | some (.lst xs) => match v with
      | .int i => (atI xs i).map (·, t)
      | _ => none
    | some (.scr ns) => match v with
      | .int i => (atI ns i).map fun k => (.int k, t)
      | _ => none
    | some (.dK kvs) => match keyOf v with
      | some k => (vGet kvs k).map (·, t)
      | none => none
    | some (.lkK kvs) => match keyOf v with
      | some k => (vGet kvs k).map (·, t)
      | none => none
    | some (.dT kvs) => match v with
      | .tup l => match keysOf l with
        | some ks => (vGet kvs ks).map (·, t)
        | none => none
      | _ => none
    | some (.lkT kvs) => match v with
      | .tup l => match keysOf l with
        | some ks => (vGet kvs ks).map (·, t)
        | none => none
      | _ => none
    | _ => none
  | _, _, _ => none
section
variable {K : PySem.W.Frag} {cn : Cn} {ρ : List Addr} {t : Sto} {H : Hp}
theorem keyOf_rv {v : Val} {x : V} {k : Key} (r : RV K H ρ v x) (h : keyOf v = some k) : x = kV k := by
  unfold keyOf at h
  split at h
  · cases r; cases h; rfl
  · cases r; cases h; rfl
  · cases h
theorem keysOf_rv : ∀ {vs : List Val} {xs : List V} {ks : List Key}, RVs K H ρ vs xs → keysOf vs = some ks → xs = ks.map kV
  | [], _, ks, .nil, h => by simp only [keysOf] at h; cases h; rfl
  | v :: vs, _, ks, .cons r q, h => by
    simp only [keysOf] at h
    split at h
    · rename_i k ks' e1 e2
      cases h
      rw [keyOf_rv r e1, keysOf_rv q e2]; rfl
    · cases h
theorem Rel.lk {n : Nat} {a : Addr} {kvs : List (Key × Val)} (R : Rel K cn ρ t H) (h : ρ[n]? = some a) (ht : t[n]? = some (.lkK kvs)) : ∃ o ks, H a = some (.frz o (.dK ks)) ∧ RKs K H ρ kvs ks := by
  obtain ⟨ho, e, r⟩ := R.at h ht (fun _ z => nomatch z)
  cases ho with
  | frz o u =>
    cases u with
    | dK ks => exact ⟨o, ks, e, r⟩
    | _ => exact (show False from r).elim
  | _ => exact (show False from r).elim
theorem Rel.lt {n : Nat} {a : Addr} {kvs : List (List Key × Val)} (R : Rel K cn ρ t H) (h : ρ[n]? = some a) (ht : t[n]? = some (.lkT kvs)) : ∃ o ks, H a = some (.frz o (.dT ks)) ∧ RKs K H ρ kvs ks := by
  obtain ⟨ho, e, r⟩ := R.at h ht (fun _ z => nomatch z)
  cases ho with
  | frz o u =>
    cases u with
    | dT ks => exact ⟨o, ks, e, r⟩
    | _ => exact (show False from r).elim
  | _ => exact (show False from r).elim
theorem RVs.at {vs : List Val} {xs : List V} {i : Int} {v : Val} (r : RVs K H ρ vs xs) (h : atI vs i = some v) : ∃ x, atI xs i = some x ∧ RV K H ρ v x := by
  unfold atI at h ⊢
  rw [← r.length]
  obtain ⟨j, hj, e⟩ := Option.bind_eq_some_iff.mp h
  rw [hj]
  exact r.get e
/-- what a dict tells at a key -/
theorem dget_of {n : Nat} {a : Addr} {v : Val} {y : V} (rel : Rel K cn ρ t H) (ha : ρ[n]? = some a) (ry : RV K H ρ v y) :
    (∀ kvs, t[n]? = some (.dK kvs) ∨ t[n]? = some (.lkK kvs) → ∀ k, keyOf v = some k → ∃ o, DGet H a y o ∧ (vGet kvs k).isSome = o.isSome ∧ ∀ u, vGet kvs k = some u → ∃ x, o = some x ∧ RV K H ρ u x) ∧
    (∀ kvs, t[n]? = some (.dT kvs) ∨ t[n]? = some (.lkT kvs) → ∀ l ks, v = .tup l → keysOf l = some ks → ∃ o, DGet H a y o ∧ (vGet kvs ks).isSome = o.isSome ∧ ∀ u, vGet kvs ks = some u → ∃ x, o = some x ∧ RV K H ρ u x) := by
  have fin : ∀ {κ : Type} [DecidableEq κ] {kvs : List (κ × Val)} {ks : List (κ × V)} (k : κ), RKs K H ρ kvs ks → (vGet kvs k).isSome = (valV ks k).isSome ∧ ∀ u, vGet kvs k = some u → ∃ x, valV ks k = some x ∧ RV K H ρ u x := by
    intro κ _ kvs ks k r
    refine ⟨?_, fun u hu => r.get_some hu⟩
    cases e : vGet kvs k with
    | none => rw [r.get_none e] <;> rfl
    | some u =>
      obtain ⟨x, hx, _⟩ := r.get_some e
      rw [hx]; rfl
  refine ⟨fun kvs hk k ek => ?_, fun kvs hk l ks ev ek => ?_⟩
  · have ey := keyOf_rv ry ek
    rcases hk with hk | hk
    · obtain ⟨ks, e, r⟩ := rel.dk ha hk
      exact ⟨_, .inl ⟨ks, k, .inl e, ey, rfl⟩, fin k r⟩
    · obtain ⟨o, ks, e, r⟩ := rel.lk ha hk
      exact ⟨_, .inl ⟨ks, k, .inr ⟨o, e⟩, ey, rfl⟩, fin k r⟩
  · subst ev
    cases ry with | tup hs rl => ?_
    have ey := keysOf_rv rl ek
    rw [ey] at hs
    rcases hk with hk | hk
    · obtain ⟨kk, e, r⟩ := rel.dt ha hk
      exact ⟨_, .inr ⟨kk, ks, _, .inl e, rfl, hs, rfl⟩, fin ks r⟩
    · obtain ⟨o, kk, e, r⟩ := rel.lt ha hk
      exact ⟨_, .inr ⟨kk, ks, _, .inr ⟨o, e⟩, rfl, hs, rfl⟩, fin ks r⟩
end
section
variable {X : Cx} {cn : Cn}
theorem ix_dict (hu : X.A.units + 1 < cLine) : IxR X (fun x y H Q => ∃ a v, x = .ref a ∧ DGet H a y (some v) ∧ Q v H) := by
  intro value slice pins s σ H x y v u Q I rx ry h hs
  obtain ⟨a, z, rfl, g, q⟩ := h
  cases rx
  exact PyProof.Rows.tail_any (dict_typeIs I g) F.slot_dict_getitem.lookup (d_getItem hu I g ry fun w' s' I' rw' => ⟨z, H, I', rw', q⟩) hs
theorem okP_map {K : PySem.W.Frag} {ρ : List Addr} {H : Hp} {α β γ : Type} {R : Hp → List Addr → α → β → Prop} {Q : β → Hp → Prop} {o : Option γ} {f : γ → α × Sto} (h : okP K cn ρ H R Q (o.map f)) : ∃ v, o = some v ∧ okP K cn ρ H R Q (some (f v)) := by
  cases o with
  | none => exact h.elim
  | some v => exact ⟨v, rfl, h⟩
theorem ig_ix (hu : X.A.units + 64 < cLine) : IxR X (rO X.K cn gIx) := by
  intro value slice pins s σ H x y v u Q I rx ry h hs
  refine (ix_seq.or (ix_dict (by omega))) value slice pins s σ H x y v u Q I rx ry ?_ hs
  obtain ⟨ρ, t, a, b, rel, ra, rb, h⟩ := h
  unfold gIx at h
  split at h
  · cases ra with | tup hs r => ?_
    cases rb
    obtain ⟨w, hw, h⟩ := okP_map h
    obtain ⟨x, hx, rx⟩ := r.at hw
    exact .inl (.inr (.inl ⟨_, _, _, x, rfl, rfl, SqT.of hs, hx, h ρ H _ (Ext.refl _ _ _) rel rx⟩))
  · cases ra with | con hs r => ?_
    cases rb
    obtain ⟨w, hw, h⟩ := okP_map h
    obtain ⟨x, hx, rx⟩ := r.at hw
    exact .inl (.inr (.inl ⟨_, _, _, x, rfl, rfl, hs.sq _, hx, h ρ H _ (Ext.refl _ _ _) rel rx⟩))
  · cases ra with | str z ok => ?_
    cases rb
    split at h
    · rename_i c hc
      split at h
      · rename_i hz
        exact .inl (.inr (.inr ⟨_, _, c, rfl, rfl, hz.1, hc, h ρ H _ (Ext.refl _ _ _) rel (.str _ hz.2)⟩))
      · exact h.elim
    · exact h.elim
  · cases ra with | ref ha => ?_
    have dg := dget_of rel ha rb
    split at h
    · rename_i hx
      split at h
      · cases rb
        obtain ⟨w, hw, h⟩ := okP_map h
        obtain ⟨xs, e, r⟩ := rel.sqL ha hx
        obtain ⟨x, hx, rx⟩ := r.at hw
        exact .inl (.inl ⟨_, _, _, x, rfl, rfl, SqL.of e, hx, h ρ H _ (Ext.refl _ _ _) rel rx⟩)
      · exact h.elim
    · rename_i ns hx
      split at h
      · cases rb
        obtain ⟨w, hw, h⟩ := okP_map h
        refine .inl (.inl ⟨_, _, _, .int w, rfl, rfl, rel.scr ha hx, ?_, h ρ H _ (Ext.refl _ _ _) rel (.int _)⟩)
        unfold atI at hw ⊢
        rw [List.length_map]
        obtain ⟨j, hj, e⟩ := Option.bind_eq_some_iff.mp hw
        rw [hj]
        show (ns.map V.int)[j]? = _
        rw [List.getElem?_map, e]; rfl
      · exact h.elim
    · rename_i kvs hx
      split at h
      · rename_i k hk
        obtain ⟨w, hw, h⟩ := okP_map h
        obtain ⟨o, g1, _, g3⟩ := dg.1 kvs (.inl hx) k hk
        obtain ⟨x, rfl, rx⟩ := g3 w hw
        exact .inr ⟨_, x, rfl, g1, h ρ H _ (Ext.refl _ _ _) rel rx⟩
      · exact h.elim
    · rename_i kvs hx
      split at h
      · rename_i k hk
        obtain ⟨w, hw, h⟩ := okP_map h
        obtain ⟨o, g1, _, g3⟩ := dg.1 kvs (.inr hx) k hk
        obtain ⟨x, rfl, rx⟩ := g3 w hw
        exact .inr ⟨_, x, rfl, g1, h ρ H _ (Ext.refl _ _ _) rel rx⟩
      · exact h.elim
    · rename_i kvs hx
      split at h
      · split at h
        · rename_i ks hk
          obtain ⟨w, hw, h⟩ := okP_map h
          obtain ⟨o, g1, _, g3⟩ := dg.2 kvs (.inl hx) _ ks rfl hk
          obtain ⟨x, rfl, rx⟩ := g3 w hw
          exact .inr ⟨_, x, rfl, g1, h ρ H _ (Ext.refl _ _ _) rel rx⟩
        · exact h.elim
      · exact h.elim
    · rename_i kvs hx
      split at h
      · split at h
        · rename_i ks hk
          obtain ⟨w, hw, h⟩ := okP_map h
          obtain ⟨o, g1, _, g3⟩ := dg.2 kvs (.inr hx) _ ks rfl hk
          obtain ⟨x, rfl, rx⟩ := g3 w hw
          exact .inr ⟨_, x, rfl, g1, h ρ H _ (Ext.refl _ _ _) rel rx⟩
        · exact h.elim
      · exact h.elim
    · exact h.elim
  · exact h.elim
variable {a b : Expr} {ma mb : E} {W : WX} {pos : Pos}
theorem me_ix (hu : X.A.units + 64 < cLine) (ha : PE X a (tE X.K cn W ma)) (hb : PE X b (tE X.K cn W mb)) (hs : PlainIx b := by intro _ _; rfl) : PE X (.Subscript a b pos) (tE X.K cn W (mBin gIx ma mb)) :=
  (pe_ix (ig_ix hu) ha hb hs).imp fun _ _ _ h => bin_red h
end

/-! ### slices -/
def cutG {α : Type} (xs : List α) (lo hi : Option Int) : List α := (xs.drop (HT.sIx xs.length 0 lo)).take (HT.sIx xs.length xs.length hi - HT.sIx xs.length 0 lo)
def gSl (v : Val) (lo hi : Option Int) (t : Sto) : Option (Val × Sto) := match v with
  | .tup l => some (.tup (cutG l lo hi), t)
  | .str z => if z.length ≤ sizeLine ∧ PyData.strOk (cutS z lo hi) = true then some (.str (cutS z lo hi), t) else none
  | .ref n => match t[n]? with
    | some (.lst xs) => some (.ref t.length, t ++ [.lst (cutG xs lo hi)])
    | some (.scr ns) => some (.ref t.length, t ++ [.lst ((cutG ns lo hi).map .int)])
    | _ => none
  | _ => none
def mPart : Option E → Sl → Sto → Out (Option Int)
  | none, _, t => .ok none t
  | some m, sl, t => (m sl t).bind fun v t1 => match v with
    | .int i => .ok (some i) t1
    | _ => .bad
def mSl (m : E) (lo hi : Option E) : E := fun sl t => (m sl t).bind fun v t1 => (mPart lo sl t1).bind fun l t2 => (mPart hi sl t2).bind fun h t3 => ofO (gSl v l h t3)
section
variable {X : Cx} {cn : Cn} {W : WX} {e : Expr} {m : E} {pos p2 : Pos}
abbrev Reqo : Hp → List Addr → Option Int → Option Int → Prop := fun _ _ a b => a = b
def tPO (K : PySem.W.Frag) (cn : Cn) (W : WX) (m : Option E) : TO := fun σ H Q => ∃ ρ sl t, Rel K cn ρ t H ∧ RS K H ρ sl σ ∧ okG K cn W ρ σ H Reqo Q (mPart m sl t)
theorem mp_none : PO X none (tPO X.K cn W none) := ⟨fun pins s σ H Q I ⟨ρ, sl, t, rel, rs, h⟩ => po_none.run pins s σ H Q I (h ρ H _ (Ext.refl _ _ _) rel rfl)⟩
theorem mp_some (h : PE X e (tE X.K cn W m)) : PO X (some e) (tPO X.K cn W (some m)) := ⟨fun pins s σ H Q I ⟨ρ, sl, t, rel, rs, hh⟩ => (po_some h).run pins s σ H Q I ⟨ρ, sl, t, rel, rs, okG.bind hh fun v t1 ρ1 H1 x e1 r1 rv h1 => by
  split at h1
  · cases rv; exact ⟨_, rfl, h1 ρ1 H1 _ (Ext.refl _ _ _) r1 rfl⟩
  · exact (show False from h1).elim⟩⟩
def rSg (K : PySem.W.Frag) (cn : Cn) : V → Option Int → Option Int → Hp → VK → Prop := fun x lo hi H Q => ∃ ρ t v, Rel K cn ρ t H ∧ RV K H ρ v x ∧ okP K cn ρ H (RVr K) Q (gSl v lo hi t)
theorem RVs.cut {K : PySem.W.Frag} {H : Hp} {ρ : List Addr} {vs : List Val} {xs : List V} (r : RVs K H ρ vs xs) (lo hi : Option Int) : RVs K H ρ (cutG vs lo hi) (cutV xs lo hi) := by
  unfold cutG cutV
  rw [r.length]
  exact (r.drop _).take _
theorem cut_map {α β : Type} (f : α → β) (xs : List α) (lo hi : Option Int) : cutG (xs.map f) lo hi = (cutG xs lo hi).map f := by
  unfold cutG
  rw [List.length_map, List.map_take, List.map_drop]
theorem cut_all {α : Type} {xs : List α} {lo hi : Option Int} (h : HT.sIx xs.length 0 lo = 0 ∧ HT.sIx xs.length xs.length hi = xs.length) : cutG xs lo hi = xs := by
  unfold cutG
  rw [h.1, h.2, List.drop_zero, Nat.sub_zero, List.take_length]
theorem sg_any : SlR X (rSg X.K cn) := by
  intro pins s σ H x v vl vu lo hi sl Q I rx hs pl pu h
  obtain ⟨ρ, t, w, rel, rw', h⟩ := h
  refine (sl_list.or (sl_tupA.or sl_str)) pins s σ H x v vl vu lo hi sl Q I rx hs pl pu ?_
  unfold gSl at h
  split at h
  · cases rw' with | tup ht r => ?_
    refine .inr (.inl ⟨_, _, rfl, SqT.of ht, fun hw => ?_, fun hw p hp => ?_⟩)
    · rw [← r.length] at hw
      rw [cut_all hw] at h
      exact h ρ H _ (Ext.refl _ _ _) rel (.tup ht r)
    · exact h ρ _ _ (ext_upd (.inl hp)) (rel.other hp) (.tup upd_same ((r.cut lo hi).mono (ext_upd (.inl hp))))
  · cases rw' with | str z ok => ?_
    split at h
    · rename_i hz
      exact .inr (.inr ⟨_, rfl, hz.1, h ρ H _ (Ext.refl _ _ _) rel (.str _ hz.2)⟩)
    · exact h.elim
  · cases rw' with | ref ha => ?_
    split at h
    · rename_i hx
      obtain ⟨xs, e, r⟩ := rel.sqL ha hx
      exact .inl ⟨_, _, rfl, SqL.of e, fun p hp => h _ _ _ (ext_alloc hp) (rel.alloc hp (show RVs _ _ _ _ _ from r.cut lo hi)) (alloc_ref rel)⟩
    · rename_i ns hx
      refine .inl ⟨_, _, rfl, rel.scr ha hx, fun p hp => h _ _ _ (ext_alloc hp) (rel.alloc hp (show RVs _ _ _ ((cutG ns lo hi).map .int) _ from ?_)) (alloc_ref rel)⟩
      rw [← cut_map]
      exact (RVs.ints ns).cut lo hi
    · exact h.elim
  · exact h.elim
theorem me_slice {lo hi : Option Expr} {ml mh : Option E} (he : PE X e (tE X.K cn W m)) (hl : PO X lo (tPO X.K cn W ml)) (hh : PO X hi (tPO X.K cn W mh)) : PE X (.Subscript e (.Slice lo hi none p2) pos) (tE X.K cn W (mSl m ml mh)) :=
  (pe_slice sg_any he hl hh).imp fun σ H Q ⟨ρ, sl, t, rel, rs, h⟩ => ⟨ρ, sl, t, rel, rs, okG.bind h fun v t1 ρ1 H1 x e1 r1 rv h1 => ⟨ρ1, sl, t1, r1, rs.mono e1, okG.bind h1 fun l t2 ρ2 H2 l' e2 r2 el h2 =>
    ⟨ρ2, sl, t2, r2, (rs.mono e1).mono e2, okG.bind h2 fun h t3 ρ3 H3 h' e3 r3 eh h3 => by
      cases el; cases eh
      exact ⟨ρ3, t3, v, r3, (rv.mono e2).mono e3, h3.toP⟩⟩⟩⟩
end

/-! ### enumerate -/
def mIEnum (a : E) : Src := fun sl t => (mAs [a] sl t).bind fun vs t1 => match vs with
  | [.ref n] => match t1[n]? with
    | some (.lst _) => .ok (.enl n) t1
    | some (.scr _) => .ok (.enl n) t1
    | _ => .bad
  | _ => .bad
section
variable {X : Cx} {cn : Cn} {W : WX} {a : Expr} {ma : E} {pos p tpos : Pos} {elts : List Expr} {kk : Nat}
theorem nxt_enl {K : PySem.W.Frag} {ρ : List Addr} {t : Sto} {H : Hp} {n : Nat} {a : Addr} (rel : Rel K cn ρ t H) (ha : ρ[n]? = some a) (i : Nat) :
    nxt (.enl n) i t = none ∨ ∃ (vs : List Val) (xs : List V), nxt (.enl n) i t = some (vs[i]?.map fun v => .tup [.int i, v]) ∧ SqL K H a xs ∧ RVs K H ρ vs xs := by
  show (match t[n]? with | some (.lst xs) => some (xs[i]?.map fun v => Val.tup [.int i, v]) | some (.scr ns) => some (ns[i]?.map fun v => Val.tup [.int i, .int v]) | _ => none) = none ∨ _
  show _ ∨ ∃ (vs : List Val) (xs : List V), (match t[n]? with | some (.lst xs) => some (xs[i]?.map fun v => Val.tup [.int i, v]) | some (.scr ns) => some (ns[i]?.map fun v => Val.tup [.int i, .int v]) | _ => none) = some (vs[i]?.map fun v => .tup [.int i, v]) ∧ SqL K H a xs ∧ RVs K H ρ vs xs
  split
  · rename_i vs hv
    obtain ⟨xs, e, r⟩ := rel.sqL ha hv
    exact .inr ⟨vs, xs, rfl, SqL.of e, r⟩
  · rename_i ns hv
    exact .inr ⟨ns.map .int, ns.map V.int, by rw [List.getElem?_map, Option.map_map]; rfl, rel.scr ha hv, RVs.ints ns⟩
  · exact .inl rfl
theorem itr_enl {K : PySem.W.Frag} {ρ0 : List Addr} {H0 : Hp} {n : Nat} {a : Addr} (ha : ρ0[n]? = some a) : ItR K cn ρ0 H0 (.enl n) (Ite K a) := fun i ρ t H e rel => by
  rcases nxt_enl rel (e.pre _ _ ha) i with q | ⟨vs, xs, q, hs, r⟩
  · rw [q]; trivial
  · rw [q]
    cases ev : vs[i]? with
    | none => exact ⟨xs, hs, by rw [← r.length]; exact List.getElem?_eq_none_iff.mp ev⟩
    | some v =>
      obtain ⟨x, hx, rv⟩ := r.get ev
      refine ⟨⟨xs, x, hs, hx⟩, fun y H' hy => ?_⟩
      obtain ⟨T, x', rfl, hn, rfl, hy⟩ := hy
      have := hy xs hs
      rw [hx] at this; cases this
      have ee : Ext K ρ H ρ (upd H T (.tup [.int (i : Nat), x])) := ext_upd (.inl hn)
      exact ⟨ee, rel.other hn, .tup upd_same (.cons (.int _) (.cons (rv.mono ee) .nil))⟩
theorem mi_enum (hg : Gl X "enumerate") (hm : X.mg "enumerate" = none) (ha : PE X a (tE X.K cn W ma)) (hs : starEach [a] X.env = [(false, eval a X.env)] := by rfl) :
    PI X (.Tuple elts kk tpos) (.Call (.Name "enumerate" p) [a] [] pos) (tI X.K cn W (mIEnum ma)) :=
  (pi_enum hg hm (ma_cons (cn := cn) (W := W) ha ma_nil hs) hs).imp fun σ H R ⟨ρ, sl, t, rel, rs, h⟩ => by
    refine ⟨ρ, sl, t, rel, rs, okG.bind (S := ItRr X.K cn) (Q := R) h fun vs t1 ρ1 H1 x e1 r1 rv h1 => ?_⟩
    split at h1
    · obtain ⟨y, rfl, ry⟩ := rv.one
      cases ry with | ref hn => ?_
      split at h1
      · rename_i hx
        obtain ⟨xs, e, _⟩ := r1.sqL hn hx
        exact ⟨_, xs, rfl, SqL.of e, h1 ρ1 H1 _ (Ext.refl _ _ _) r1 (itr_enl hn)⟩
      · rename_i ns hx
        exact ⟨_, _, rfl, r1.scr hn hx, h1 ρ1 H1 _ (Ext.refl _ _ _) r1 (itr_enl hn)⟩
      · exact (show False from h1).elim
    · exact (show False from h1).elim
end

/-! ### isinstance -/
def tyN (v : Val) (t : Sto) : Option String := match v with
  | .non => some "NoneType"
  | .bl _ => some "bool"
  | .int _ => some "int"
  | .str _ => some "str"
  | .tup _ => some "tuple"
  | .ref n => match t[n]? with
    | some (.lst _) => some "list"
    | some (.dK _) => some "dict"
    | some (.dT _) => some "dict"
    | _ => none
  | _ => none
def mIsi (T : String) (o : E) : E := fun sl t => (o sl t).bind fun v t1 => match tyN v t1 with
  | some a => match kitB a T with
    | some b => .ok (.bl b) t1
    | none => .bad
  | none => .bad
section
variable {X : Cx} {cn : Cn} {W : WX} {e : Expr} {m : E} {pos p pT : Pos} {T : String}
theorem tyN_ok {K : PySem.W.Frag} {ρ : List Addr} {t : Sto} {H : Hp} {v : Val} {x : V} {a : String} (rel : Rel K cn ρ t H) (r : RV K H ρ v x) (h : tyN v t = some a) : TyX K H x (.type a) := by
  unfold tyN at h
  split at h
  · cases r; cases h; exact .base .non
  · cases r; cases h; exact .base (.bl _)
  · cases r; cases h; exact .base (.int _)
  · cases r; cases h; exact .base (.str _)
  · cases r with | tup hs _ => cases h; exact .base (.tup hs)
  · cases r with | ref ha => ?_
    split at h
    · rename_i hx
      obtain ⟨xs, e, _⟩ := rel.sqL ha hx
      cases h; exact .base (.lst e)
    · rename_i hx
      obtain ⟨xs, e, _⟩ := rel.dk ha hx
      cases h; exact .base (.dK e)
    · rename_i hx
      obtain ⟨xs, e, _⟩ := rel.dt ha hx
      cases h; exact .base (.dT e)
    · cases h
  · cases h
theorem me_isi {x : Str} (hg : Gl X "isinstance") (hm : X.mg "isinstance" = none) (he : PE X e (tE X.K cn W m)) (hgT : Gl X x) (hmT : X.mg x = none) (hvT : bootBuiltins x = some (.type T)) (hn : x ≠ "__name__" := by decide) (hd : (x == ("__debug__" : Str)) = false := by decide)
    (hs : starEach [e, .Name x pT] X.env = (false, eval e X.env) :: starEach [.Name x pT] X.env := by rfl) (hs2 : starEach [.Name x pT] X.env = (false, eval (.Name x pT) X.env) :: starEach [] X.env := by rfl) (hpl : (backTo pos (starEach [.Name x pT] X.env)).any (·.1) = false := by rfl) :
    PE X (.Call (.Name "isinstance" p) [e, .Name x pT] [] pos) (tE X.K cn W (mIsi T m)) :=
  (pe_callB (id := "isinstance") call_isi hg hm (by decide +kernel) (pa_cons he (pa_cons (pe_bltn (v := .ty T) hgT hmT hvT rfl hn hd) pa_nil hs2) hs) (he := hs) (hpl := hpl)).imp fun σ H Q ⟨ρ, sl, t, rel, rs, h⟩ => ⟨ρ, sl, t, rel, rs, okG.bind h fun v t1 ρ1 H1 x e1 r1 rv h1 => by
    split at h1
    · rename_i a ha
      split at h1
      · rename_i b hb
        exact ⟨_, _, _, _, b, rfl, .ty T, tyN_ok r1 rv ha, kit_ty hb, h1 ρ1 H1 _ (Ext.refl _ _ _) r1 (.bl _)⟩
      · exact (show False from h1).elim
    · exact (show False from h1).elim⟩
end
end Mn

set_option Elab.async false
set_option linter.all false
set_option maxRecDepth 100000
set_option maxHeartbeats 4000000
/-! MBg: minus, a if c else b, walks over lists and tuples alike, levels. -/
namespace Mn
open PySem L2
def gNeg (v : Val) : Sto → Out Val := fun t => match v with
  | .int i => .ok (.int (-i)) t
  | _ => .bad
def mNeg (m : E) : E := fun sl t => (m sl t).bind gNeg
def mIfE (c : T) (a b : E) : E := fun sl t => (c sl t).bind fun k t1 => if k = true then a sl t1 else b sl t1
def mIAny (e : E) : Src := fun sl t => (e sl t).bind fun v t1 => match v with
  | .tup l => .ok (.seq l) t1
  | .con l => .ok (.seq l) t1
  | .ref n => match t1[n]? with
    | some (.lst _) => .ok (.lst n) t1
    | some (.scr _) => .ok (.lst n) t1
    | _ => .bad
  | _ => .bad
theorem Rdy.mono {X : Cx} {W : WX} {k k' : Nat} (R : Rdy X W k) (h : k' ≤ k) : Rdy X W k' := ⟨R.tk, R.po, R.hr.mono h, R.hc⟩
section
variable {X : Cx} {cn : Cn} {W : WX} {e a b c : Expr} {pos : Pos} {m ma mb : E} {mT : T} {tg : Expr}
theorem me_neg (h : PE X e (tE X.K cn W m)) : PE X (.UnaryOp .USub e pos) (tE X.K cn W (mNeg m)) := (pe_un un_neg h).imp fun σ H Q ⟨ρ, sl, t, rel, rs, h⟩ => ⟨ρ, sl, t, rel, rs, okG.bind h fun v t1 ρ1 H1 x e1 r1 rv h1 => by
  unfold gNeg at h1
  split at h1
  · cases rv; exact ⟨_, rfl, h1 ρ1 H1 _ (Ext.refl _ _ _) r1 (.int _)⟩
  · exact (show False from h1).elim⟩
theorem me_ifE (hc : PT X c (tT X.K cn W mT)) (ha : PE X a (tE X.K cn W ma)) (hb : PE X b (tE X.K cn W mb)) : PE X (.IfExp c a b pos) (tE X.K cn W (mIfE mT ma mb)) :=
  (pe_ifExp hc ha hb).imp fun σ H Q ⟨ρ, sl, t, rel, rs, h⟩ => ⟨ρ, sl, t, rel, rs, okG.bind h fun v t1 ρ1 H1 x e1 r1 rv h1 => by
    cases rv
    cases v with
    | true => exact ⟨ρ1, sl, t1, r1, rs.mono e1, h1⟩
    | false => exact ⟨ρ1, sl, t1, r1, rs.mono e1, h1⟩⟩
theorem mi_any (he : PE X e (tE X.K cn W m)) : PI X tg e (tI X.K cn W (mIAny m)) := by
  refine ⟨fun pins s σ H R I h => ?_⟩
  obtain ⟨ρ, sl, t, rel, rs, h⟩ := h
  have hh : tE X.K cn W m σ H fun x H1 => (∃ a, x = .ref a ∧ (∃ xs, SqL X.K H1 a xs) ∧ R (Itl X.K a) H1) ∨ ∃ a, x = .ref a ∧ (∃ xs, SqT X.K H1 a xs) ∧ R (Itt X.K a) H1 := by
    refine ⟨ρ, sl, t, rel, rs, okG.bind h fun v t1 ρ1 H1 x e1 r1 rv h1 => ?_⟩
    split at h1
    · cases rv with | tup hs r => ?_
      exact .inr ⟨_, rfl, ⟨_, SqT.of hs⟩, h1 ρ1 H1 _ (Ext.refl _ _ _) r1 (itr_tup (.inl hs) r)⟩
    · cases rv with | con hs r => ?_
      exact .inr ⟨_, rfl, ⟨_, hs.sq _⟩, h1 ρ1 H1 _ (Ext.refl _ _ _) r1 (itr_tup (.inr hs) r)⟩
    · cases rv with | ref ha => ?_
      split at h1
      · rename_i vs hv
        obtain ⟨xs, e, r⟩ := r1.sqL ha hv
        exact .inl ⟨_, rfl, ⟨_, SqL.of e⟩, h1 ρ1 H1 _ (Ext.refl _ _ _) r1 (itr_lst ha)⟩
      · rename_i ns hv
        exact .inl ⟨_, rfl, ⟨_, r1.scr ha hv⟩, h1 ρ1 H1 _ (Ext.refl _ _ _) r1 (itr_lst ha)⟩
      · exact (show False from h1).elim
    · exact (show False from h1).elim
  -- the rule of the value's own kind, asked of an expression that gives it
  refine thn (he.run pins s σ H _ I hh) fun v s1 ⟨x, H1, I1, rx, q⟩ => ?_
  rcases q with ⟨a, rfl, ⟨xs, hq⟩, q⟩ | ⟨a, rfl, ⟨xs, hq⟩, q⟩
  · cases rx
    obtain ⟨its, rv, p, hz⟩ := I1.list hq
    refine wpAny_pyIter_list p.isList ?_
    refine ⟨s1.heap.objs.size, [s1.heap.objs.size], _, _, H1, rfl, I1.kept (t' := s1.toks) fun b o e => Heap.get?_push_of_some _ e, turn_list a _, ⟨_, Heap.get?_push_size _ rfl, rfl, rfl⟩, fun b hb => ?_, q⟩
    have e : b = s1.heap.objs.size := by simpa using hb
    subst e
    exact I1.fpOk (Nat.le_refl _) (I1.hok.fresh (Nat.le_refl _))
  · cases rx
    obtain ⟨its, rv, p, hz⟩ := I1.tuple hq
    refine wpAny_pyIter_tuple (show s1.heap.IsTuple a its.toArray from p) ?_
    refine ⟨s1.heap.objs.size, [s1.heap.objs.size], _, _, H1, rfl, I1.kept (t' := s1.toks) fun b o e => Heap.get?_push_of_some _ e, turn_tuple a _, ⟨_, Heap.get?_push_size _ rfl, rfl, rfl⟩, fun b hb => ?_, q⟩
    have e : b = s1.heap.objs.size := by simpa using hb
    subst e
    exact I1.fpOk (Nat.le_refl _) (I1.hok.fresh (Nat.le_refl _))
end
end Mn

set_option Elab.async false
set_option linter.all false
set_option maxRecDepth 100000
set_option maxHeartbeats 4000000
/-! MS1: set tables of up to 511 slots, by their hashes alone (the library's own words go to 127). -/
namespace Ms
open PySem PySem.Spec PyProof.Rows L2

/-- each slot begins a run of the way early enough -/
structure MG (m : Nat) : Prop where
  meets : ∀ (h : Int) (j : Nat), j ≤ m → ∃ n, n ≤ m + 12 ∧ runI m (SetTable.bits h) n = j
  odd : m % 2 = 1
  bd : m ≤ 511
theorem mg_small {m : Nat} (h : MaskOk m) : MG m := ⟨fun x j hj => run_meets h x hj, mask_odd h, by rcases h with e | e | e <;> omega⟩
/-- when the round of i -> 5 i + 1 in 512 comes by -/
def at511 : List Nat := [0, 1, 326, 495, 412, 365, 2, 379, 376, 281, 254, 327, 404, 261, 58, 339, 496, 305, 438, 415, 140, 413, 370, 43, 360, 73, 366, 247, 132, 309, 426, 3, 480, 97, 38, 335, 380, 461, 226, 219, 344, 377, 478, 167, 372, 357, 282, 179, 464, 401, 150, 255, 108, 509, 82, 395, 328, 169, 78, 87, 100, 405, 138, 355, 448, 193, 262, 175, 348, 45, 450, 59, 312, 473, 190, 7, 340, 453, 506, 19, 432, 497, 374, 95, 76, 93, 306, 235, 296, 265, 302, 439, 68, 501, 362, 195, 416, 289, 486, 15, 316, 141, 162, 411, 280, 57, 414, 359, 308, 37, 218, 371, 400, 81, 86, 447, 44, 189, 18, 75, 264, 361, 14, 279, 36, 85, 74, 35, 384, 385, 198, 367, 284, 237, 386, 251, 248, 153, 126, 199, 276, 133, 442, 211, 368, 177, 310, 287, 12, 285, 242, 427, 232, 457, 238, 119, 4, 181, 298, 387, 352, 481, 422, 207, 252, 333, 98, 91, 216, 249, 350, 39, 244, 229, 154, 51, 336, 273, 22, 127, 492, 381, 466, 267, 200, 41, 462, 471, 484, 277, 10, 227, 320, 65, 134, 47, 220, 429, 322, 443, 184, 345, 62, 391, 212, 325, 378, 403, 304, 369, 246, 479, 460, 477, 178, 107, 168, 137, 174, 311, 452, 373, 234, 67, 288, 161, 358, 399, 188, 13, 34, 283, 152, 441, 286, 231, 180, 421, 90, 243, 272, 465, 470, 319, 428, 61, 402, 459, 136, 233, 398, 151, 420, 469, 458, 419, 256, 257, 70, 239, 156, 109, 258, 123, 120, 25, 510, 71, 148, 5, 314, 83, 240, 49, 182, 159, 396, 157, 114, 299, 104, 329, 110, 503, 388, 53, 170, 259, 224, 353, 294, 79, 124, 205, 482, 475, 88, 121, 222, 423, 116, 101, 26, 435, 208, 145, 406, 511, 364, 253, 338, 139, 72, 425, 334, 343, 356, 149, 394, 99, 192, 449, 6, 431, 92, 301, 194, 315, 56, 217, 446, 263, 84, 197, 250, 275, 176, 241, 118, 351, 332, 349, 50, 491, 40, 9, 46, 183, 324, 245, 106, 451, 160, 33, 230, 271, 60, 397, 418, 155, 24, 313, 158, 103, 52, 293, 474, 115, 144, 337, 342, 191, 300, 445, 274, 331, 8, 105, 270, 23, 292, 341, 330, 291, 128, 129, 454, 111, 28, 493, 130, 507, 504, 409, 382, 455, 20, 389, 186, 467, 112, 433, 54, 31, 268, 29, 498, 171, 488, 201, 494, 375, 260, 437, 42, 131, 96, 225, 166, 463, 508, 77, 354, 347, 472, 505, 94, 295, 500, 485, 410, 307, 80, 17, 278, 383, 236, 125, 210, 11, 456, 297, 206, 215, 228, 21, 266, 483, 64, 321, 390, 303, 476, 173, 66, 187, 440, 89, 318, 135, 468, 69, 122, 147, 48, 113, 502, 223, 204, 221, 434, 363, 424, 393, 430, 55, 196, 117, 490, 323, 32, 417, 102, 143, 444, 269, 290, 27, 408, 185, 30, 487, 436, 165, 346, 499, 16, 209, 214, 63, 172, 317, 146, 203, 392, 489, 142, 407, 164, 213, 202, 163]
theorem all511 : ((List.range 512).all fun j => lcgN 511 (at511.getD j 0) == j && decide (at511.getD j 0 ≤ 511)) = true := by decide +kernel
theorem has511 {j : Nat} (h : j ≤ 511) : ∃ b, b ≤ 511 ∧ lcgN 511 b = j := by
  have q := List.all_eq_true.mp all511 j (List.mem_range.mpr (Nat.lt_succ_of_le h))
  rw [Bool.and_eq_true, beq_iff_eq, decide_eq_true_eq] at q
  exact ⟨_, q.2, q.1⟩
theorem turn511 : ∀ k, lcgN 511 (512 + k) = lcgN 511 k
  | 0 => by decide +kernel
  | k + 1 => congrArg (fun x => (x * 5 + 1) % 512) (turn511 k)
theorem mg_511 : MG 511 := by
  refine ⟨fun h j hj => ?_, rfl, Nat.le_refl _⟩
  obtain ⟨a, ha, ea⟩ := has511 (runI_le 511 (SetTable.bits h) 12)
  obtain ⟨b, hb, eb⟩ := has511 hj
  have go : ∀ k, k ≤ 511 → lcgN 511 (a + k) = j → ∃ n, n ≤ 511 + 12 ∧ runI 511 (SetTable.bits h) n = j := fun k hk e =>
    ⟨12 + k, by omega, by rw [runI_tail (bits_lt h), ← ea, lcgN_add]; exact e⟩
  by_cases c : a ≤ b
  · exact go (b - a) (by omega) (by rw [Nat.add_sub_cancel' c]; exact eb)
  · refine go (512 + b - a) (by omega) ?_
    rw [show a + (512 + b - a) = 512 + b by omega, turn511]
    exact eb
theorem way_in {m : Nat} (h : Int) (k : Nat) : way m h k ≤ m := by
  have hi : SetTable.bits h % (m + 1) ≤ m := Nat.le_of_lt_succ (Nat.mod_lt _ (Nat.succ_pos _))
  have r := runEnd_bd hi
  have q := nth_in (m := m) k (runAt m (SetTable.bits h % (m + 1)) (SetTable.bits h)) (show SetTable.bits h % (m + 1) + (SetTable.runEnd m (SetTable.bits h % (m + 1)) - SetTable.bits h % (m + 1)) ≤ m by omega)
  exact Nat.le_trans (Nat.le_add_right _ _) q
theorem way_meets {m : Nat} (M : MG m) (h : Int) {j : Nat} (hj : j ≤ m) : ∃ k, k < 10 * SetTable.turns m ∧ way m h k = j := by
  obtain ⟨n, hn, e⟩ := M.meets h j hj
  obtain ⟨k, hk, e2⟩ := run_nth m (SetTable.bits h) n
  exact ⟨k, by unfold SetTable.turns; omega, (congrArg SetTable.Probe.j e2).trans e⟩

/-- from the hash h one comes to the slot j over taken slots alone -/
def Rch (m : Nat) (occ : Nat → Prop) (h : Int) (j : Nat) : Prop := ∃ k, way m h k = j ∧ ∀ k', k' < k → occ (way m h k')
theorem Rch.mono {m : Nat} {occ occ' : Nat → Prop} (f : ∀ x, occ x → occ' x) {h : Int} {j : Nat} (r : Rch m occ h j) : Rch m occ' h j :=
  let ⟨k, e, q⟩ := r
  ⟨k, e, fun k' hk => f _ (q k' hk)⟩
/-- the table t holds what has the hashes hs, slot by slot -/
structure Tab (t : SetTable) (hs : List Int) : Prop where
  ris : Ris t.place.toList
  dm : t.dummies = #[]
  sz : t.place.toList.length = hs.length
  mg : MG t.mask
  bd : ∀ x ∈ t.place.toList, x ≤ t.mask
  rch : ∀ (i : Nat) (h : Int) (j : Nat), hs[i]? = some h → t.place.toList[i]? = some j → Rch t.mask (· ∈ t.place.toList) h j
/-- the first slot of the way that is not taken -/
theorem first_free {m : Nat} (M : MG m) (l : List Nat) (hl : l.length ≤ m) (h : Int) : ∃ K, K < 10 * SetTable.turns m ∧ way m h K ∉ l ∧ ∀ k, k < K → way m h k ∈ l := by
  obtain ⟨j, hj, hn⟩ := st_missing l (m + 1) (by omega)
  obtain ⟨k, hk, e⟩ := way_meets M h (Nat.le_of_lt_succ hj)
  obtain ⟨K, h1, h2, h3⟩ := st_least (p := fun k => way m h k ∉ l) k (by rw [← e] at hn; exact hn)
  exact ⟨K, by omega, h2, fun k' hk' => Classical.not_not.mp (h3 k' hk')⟩
theorem Rch.lt {m : Nat} {l : List Nat} {h : Int} {K j : Nat} (hK : way m h K ∉ l) (hj : j ∈ l) (r : Rch m (· ∈ l) h j) : ∃ k, k < K ∧ way m h k = j := by
  obtain ⟨k, e, q⟩ := r
  refine ⟨k, ?_, e⟩
  rcases Nat.lt_trichotomy k K with c | c | c
  · exact c
  · subst c; rw [e] at hK; exact absurd hj hK
  · exact absurd (q K c) hK

/-! ### one more -/
theorem Tab.put {t : SetTable} {hs : List Int} (T : Tab t hs) {h : Int} {K : Nat} (hK : way t.mask h K ∉ t.place.toList) (hb : ∀ k, k < K → way t.mask h k ∈ t.place.toList) :
    ∃ p t', t.put (way t.mask h K) = (t', p) ∧ p ≤ hs.length ∧ Tab t' (hs.take p ++ h :: hs.drop p) ∧ t'.mask = t.mask ∧ t'.led = t.led ∧ t'.plain = t.plain ∧ t'.moves = t.moves ∧ t'.fill = hs.length + 1 := by
  have hjm : way t.mask h K ≤ t.mask := way_in h K
  have rK : Rch t.mask (· ∈ t.place.toList) h (way t.mask h K) := ⟨K, rfl, hb⟩
  generalize way t.mask h K = j at hK hjm rK
  obtain ⟨c1, _, _⟩ := below_cut T.ris j
  have e2 : (t.put j).2 = SetTable.below t.place j := rfl
  have ep := put_place t j
  have ed := put_dm T.dm j
  have hn : t.place[SetTable.below t.place j]? ≠ some j := fun e => hK (List.mem_of_getElem? (by rw [Array.getElem?_toList]; exact e))
  have er := ris_insert T.ris hn
  have hl : SetTable.below t.place j ≤ t.place.toList.length := c1
  have hl2 : SetTable.below t.place j ≤ hs.length := by rw [← T.sz]; exact hl
  have hsz : (t.put j).1.place.toList.length = hs.length + 1 := by rw [ep, len_ins _ hl, T.sz]
  have up : ∀ x, x ∈ t.place.toList → x ∈ (t.put j).1.place.toList := fun x hx => by rw [ep]; exact mem_ins.2 (.inr hx)
  refine ⟨(t.put j).2, (t.put j).1, rfl, by rw [e2]; exact hl2, ⟨er, ed, by rw [e2, hsz, len_ins _ hl2], T.mg, fun x hx => ?_, fun i h' j' h1 h2 => ?_⟩, rfl, rfl, rfl, rfl, ?_⟩
  · rw [ep] at hx
    rcases mem_ins.1 hx with z | z
    · rw [z]; exact hjm
    · exact T.bd x z
  · rw [e2, tins_get hs hl2] at h1
    rw [ep, tins_get _ hl] at h2
    by_cases c : i < SetTable.below t.place j
    · rw [if_pos c] at h1 h2
      exact (T.rch i h' j' h1 h2).mono up
    · rw [if_neg c] at h1 h2
      by_cases d : i = SetTable.below t.place j
      · rw [if_pos d] at h1 h2
        cases h1; cases h2
        exact rK.mono up
      · rw [if_neg d] at h1 h2
        exact (T.rch (i - 1) h' j' h1 h2).mono up
  · show (t.put j).1.place.size + (t.put j).1.dummies.size = hs.length + 1
    rw [ed]
    exact hsz

/-! ### all laid anew -/
theorem free_at {m : Nat} (M : MG m) (owner : Array (Option Nat)) (h : Int) {j : Nat} (hj : j ≤ m) (hf : oAt owner j = none) :
    ∃ K, SetTable.layClean.free m owner (SetTable.turns m) (SetTable.bits h % (m + 1)) (SetTable.bits h) = some (way m h K) ∧ oAt owner (way m h K) = none ∧ ∀ k, k < K → oAt owner (way m h k) ≠ none := by
  obtain ⟨n, hn, e⟩ := M.meets h j hj
  have hw : way m h (off m (SetTable.bits h % (m + 1)) (SetTable.bits h) n) = j := by
    have q := congrArg SetTable.Probe.j (nth_off m n (SetTable.bits h % (m + 1)) (SetTable.bits h))
    rw [itL_run] at q
    exact q.trans e
  obtain ⟨K, k1, k2, k3⟩ := st_least (p := fun k => oAt owner (way m h k) = none) _ ((congrArg (oAt owner) hw).trans hf)
  refine ⟨K, free_spec m owner (SetTable.turns m) n _ _ K (by unfold SetTable.turns; omega) k1 (fun k hk => ?_) (by rw [show oAt owner (nth m _ K).j = none from k2]; rfl), k2, k3⟩
  cases z : oAt owner (nth m (runAt m (SetTable.bits h % (m + 1)) (SetTable.bits h)) k).j with
  | none => exact absurd z (k3 k hk)
  | some _ => rfl
theorem own_step {m : Nat} (M : MG m) {done : List Int} {owner : Array (Option Nat)} (W : Own m done owner) (hl : done.length ≤ m) (h : Int) :
    ∃ j, SetTable.layClean.free m owner (SetTable.turns m) (SetTable.bits h % (m + 1)) (SetTable.bits h) = some j ∧ Own m (done ++ [h]) (owner.setIfInBounds j (some done.length)) := by
  obtain ⟨ps, hps, hin⟩ := W.ps
  obtain ⟨j0, h0, hn0⟩ := st_missing ps (m + 1) (by omega)
  have hj0 : oAt owner j0 = none := Classical.not_not.mp fun z => hn0 (hin j0 (Nat.le_of_lt_succ h0) z)
  obtain ⟨K, e1, e2, e3⟩ := free_at M owner h (Nat.le_of_lt_succ h0) hj0
  refine ⟨way m h K, e1, ?_⟩
  have hjm : way m h K ≤ m := way_in h K
  generalize hj : way m h K = j at e2 hjm
  have self := oAt_set_self (owner := owner) (some done.length) (show j < owner.size by rw [W.sz]; omega)
  have other : ∀ {i}, i ≠ j → oAt (owner.setIfInBounds j (some done.length)) i = oAt owner i := fun c => oAt_set_ne _ c
  have up : ∀ {i}, oAt owner i ≠ none → oAt (owner.setIfInBounds j (some done.length)) i ≠ none := fun {i} hi => by
    by_cases c : i = j
    · rw [c, self]; exact fun e => nomatch e
    · rw [other c]; exact hi
  refine ⟨by rw [Array.size_setIfInBounds]; exact W.sz, fun i k hi e => ?_, fun k hk => ?_, ⟨j :: ps, by simp [hps], fun i hi e => ?_⟩⟩
  · by_cases c : i = j
    · rw [c, self] at e
      cases e
      exact ⟨h, K, by simp, by rw [hj, c], fun k' hk' => up (e3 k' hk')⟩
    · rw [other c] at e
      obtain ⟨h', K', a1, a2, a3⟩ := W.at_ i k hi e
      exact ⟨h', K', by rw [List.getElem?_append_left (List.getElem?_eq_some_iff.mp a1).1]; exact a1, a2, fun k' hk' => up (a3 k' hk')⟩
  · rw [List.length_append, List.length_singleton] at hk
    by_cases c : k < done.length
    · obtain ⟨i, hi, e⟩ := W.all k c
      exact ⟨i, hi, by rw [other fun z => by rw [z, e2] at e; cases e]; exact e⟩
    · exact ⟨j, hjm, by rw [self, show k = done.length by omega]⟩
  · by_cases c : i = j
    · rw [c]; exact List.mem_cons_self
    · rw [other c] at e
      exact List.mem_cons_of_mem _ (hin i hi e)
theorem fold_own {m : Nat} (M : MG m) : ∀ (rest done : List Int) (owner : Array (Option Nat)), Own m done owner → done.length + rest.length ≤ m →
    ∃ owner', rest.foldl (stepF m) (some (owner, done.length)) = some (owner', (done ++ rest).length) ∧ Own m (done ++ rest) owner' := by
  intro rest
  induction rest with
  | nil => intro done owner W _; exact ⟨owner, by rw [List.append_nil]; rfl, by rw [List.append_nil]; exact W⟩
  | cons h rest ih =>
    intro done owner W hl
    rw [List.length_cons] at hl
    obtain ⟨j, e, W'⟩ := own_step M W (by omega) h
    have hd : (done ++ [h]).length = done.length + 1 := by simp
    obtain ⟨owner', f, W2⟩ := ih (done ++ [h]) _ W' (by rw [hd]; omega)
    rw [hd, List.append_assoc] at f
    rw [List.append_assoc] at W2
    exact ⟨owner', by rw [List.foldl_cons, stepF_some e]; exact f, W2⟩
theorem lay_own {m : Nat} (M : MG m) {hs : Array Int} (hn : hs.size ≤ m) : ∃ owner, SetTable.layClean m hs = some owner ∧ Own m hs.toList owner := by
  obtain ⟨owner, f, W⟩ := fold_own M hs.toList [] _ (Own.init m) (by simpa using hn)
  refine ⟨owner, ?_, W⟩
  rw [layClean_eq]
  show (hs.toList.foldl (stepF m) (some (Array.replicate (m + 1) none, ([] : List Int).length))).map (·.1) = some owner
  rw [f]; rfl
theorem relaid_tab (t : SetTable) {hs : Array Int} {wanted M : Nat} (hw : SetTable.sizeAbove wanted - 1 = M) (hM : MG M) (hn : hs.size ≤ M) :
    ∃ t' order, t.relaid hs wanted = some (t', order) ∧ order.toList.Perm (List.range hs.size) ∧ Tab t' (order.toList.map fun i => hs.getD i 0) ∧ t'.mask = M ∧ t'.led = t.led := by
  obtain ⟨owner, e, W⟩ := lay_own hM hn
  have hr : t.relaid hs wanted = some (tabOf t M owner, ((liveOf M owner).map (·.2)).toArray) := by
    rw [relaid_eq, hw, e]; rfl
  obtain ⟨r1, r2⟩ := ris_live (fun j => owner.getD j none) (List.range (M + 1)) (by unfold Ris; first | exact List.pairwise_lt_range | exact List.pairwise_lt_range _)
  have r1 : Ris ((liveOf M owner).map (·.1)) := r1
  have r2 : ∀ x ∈ (liveOf M owner).map (·.1), x ∈ List.range (M + 1) := r2
  have mem : ∀ {j k}, (j, k) ∈ liveOf M owner ↔ j ≤ M ∧ oAt owner j = some k := mem_live W.sz
  have allk : ∀ k, k < hs.size → k ∈ (liveOf M owner).map (·.2) := fun k hk => by
    obtain ⟨j, b⟩ := W.all k hk
    exact List.mem_map.mpr ⟨(j, k), mem.2 b, rfl⟩
  have ndl : ((liveOf M owner).map (·.1)).Nodup := List.Pairwise.imp (fun h => Nat.ne_of_lt h) r1
  have hlen : (liveOf M owner).length = hs.size := by
    obtain ⟨ps, p1, p2⟩ := W.ps
    have a := nat_nodup_len ((liveOf M owner).map (·.1)) ps ndl fun x hx => by
      obtain ⟨⟨y, k⟩, hq, rfl⟩ := List.mem_map.mp hx
      obtain ⟨b1, b2⟩ := mem.1 hq
      exact p2 y b1 (by rw [b2]; exact fun z => nomatch z)
    have b := nat_nodup_len (List.range hs.size) ((liveOf M owner).map (·.2)) List.nodup_range fun k hk => allk k (List.mem_range.mp hk)
    rw [List.length_map, p1, show hs.toList.length = hs.size from rfl] at a
    rw [List.length_map, List.length_range] at b
    omega
  refine ⟨_, _, hr, perm_range hs.size _ (by simpa using hlen) allk, ⟨r1, rfl, by simp [tabOf], hM, fun x hx => Nat.le_of_lt_succ (List.mem_range.mp (r2 x hx)), fun i h j h1 h2 => ?_⟩, rfl, rfl⟩
  have h1 : (((liveOf M owner).map (·.2)).map fun i => hs.getD i 0)[i]? = some h := h1
  have h2 : ((liveOf M owner).map (·.1))[i]? = some j := h2
  rw [List.getElem?_map, List.getElem?_map] at h1
  rw [List.getElem?_map] at h2
  obtain ⟨⟨y, k⟩, hq, rfl⟩ := Option.map_eq_some_iff.mp h2
  rw [hq] at h1
  obtain ⟨b1, b2⟩ := mem.1 (List.mem_of_getElem? hq)
  obtain ⟨h0, K, a1, a2, a3⟩ := W.at_ y k b1 b2
  have e0 : hs.getD k 0 = h0 := by
    rw [Array.getD_eq_getD_getElem?, ← Array.getElem?_toList, a1]; rfl
  have eh : h0 = h := e0.symm.trans (Option.some.inj h1)
  subst eh
  refine ⟨K, a2, fun k' hk' => ?_⟩
  show way M h0 k' ∈ (liveOf M owner).map (·.1)
  cases z : oAt owner (way M h0 k') with
  | none => exact absurd z (a3 k' hk')
  | some k2 => exact List.mem_map.mpr ⟨(way M h0 k', k2), mem.2 ⟨way_in h0 k', z⟩, rfl⟩
end Ms

set_option Elab.async false
set_option linter.all false
set_option maxRecDepth 100000
set_option maxHeartbeats 4000000
/-! MS2: sets of nested tuples in the heap: searched, filled. -/
namespace Ms
open PySem PySem.Spec PyProof.Rows L2

/-- the tuple at a is the key k -/
def IsN (h : Heap) (p : Addr × NestedKey) : Prop := NestedIs h p.2 (.ref p.1) ∧ p.2.depth ≤ 8
theorem IsN.keep {h h' : Heap} {p : Addr × NestedKey} (x : IsN h p) (k : ∀ b o vs n, h.get? b = some o → o.data = .seq vs n → h'.get? b = some o) : IsN h' p := ⟨NestedIs.at k _ _ x.1, x.2⟩
theorem IsN.same {h h' : Heap} {p : Addr × NestedKey} {a : Addr} {o : Obj} {es : Array (Int × Value)} {ep : Nat} {t : SetTable} (x : IsN h p) (ho : h.get? a = some o) (hd : o.data = .set es ep t) (hs : Heap.SameBut a h h') : IsN h' p :=
  x.keep fun b ob vs n e1 e2 => (hs.2 b fun z => by
    subst z
    rw [ho] at e1; cases e1
    rw [hd] at e2; cases e2).trans e1
theorem IsN.inj {h : Heap} {p q : Addr × NestedKey} (x : IsN h p) (y : IsN h q) (e : p.1 = q.1) : p = q := by
  obtain ⟨a, k⟩ := p
  obtain ⟨b, l⟩ := q
  obtain rfl : a = b := e
  exact congrArg (Prod.mk a) (NestedIs.inj _ _ _ x.1 y.1)
theorem IsN.typeIs {s : Shared} {p : Addr × NestedKey} (x : IsN s.heap p) : s.TypeIs (.ref p.1) "tuple" := by
  obtain ⟨x, _⟩ := x
  generalize p.2 = k at x
  cases x with
  | tup h1 h2 _ _ => exact ⟨_, h1, h2⟩

section
variable {P : Program} {w : World} {A : Around} {E : Value → Shared → Prop} {s : Shared}

/-! ### small questions asked of keys -/
theorem cls_key : ∀ (n : Nat) (k : NestedKey) (v : Value) (A : Around) (E : Value → Shared → Prop) (s : Shared) (Q : Bool → Shared → Prop), NestedIs s.heap k v → k.depth ≤ n → Q false s → wpAny (model P w) A (ofAClassStatement n v) Q E s
  | n, _, _, A, E, s, Q, .none, _, h => by cases n <;> exact wpAny_pure h
  | n, _, _, A, E, s, Q, .bool _, _, h => by cases n <;> exact wpAny_pure h
  | n, _, _, A, E, s, Q, .int _ _, _, h => by cases n <;> exact wpAny_pure h
  | n, _, _, A, E, s, Q, .text _ _, _, h => by cases n <;> exact wpAny_pure h
  | 0, _, _, A, E, s, Q, .tup _ _ _ _, hd, h => by simp only [NestedKey.depth] at hd; omega
  | n + 1, _, _, A, E, s, Q, .tup (a := a) (o := o) (vs := vs) (ks := ks) h1 h2 h3 h4, hd, h => by
    simp only [NestedKey.depth] at hd
    unfold ofAClassStatement
    refine wpAny_bind (wpAny_typeOf (T := "tuple") ⟨o, h1, h2⟩ ?_)
    dsimp only
    have e : (("tuple" : String) == "tuple") = true := by decide
    simp only [e, if_true, Bool.not_true, Bool.false_eq_true, if_false]
    try refine wpAny_bind (wpAny_pure ?_)
    try simp only [Bool.not_true, Bool.false_eq_true, if_false]
    show wpAny _ _ (seqItems? (.ref a) >>= _) _ _ s
    refine wpAny_bind (wpAny_seqItems h1 h3 ?_)
    dsimp only
    refine wpAny_bind ?_
    show wpAny _ _ (forIn vs _ _) _ _ s
    rw [← Array.forIn_toList]
    refine wpAny_forIn_list _ (fun rest r s' => r.1 = none ∧ s' = s ∧ ∃ ks', NestedAll s.heap ks' rest ∧ NestedKey.depthAll ks' ≤ n) _ ?_ ?_ _ _ ⟨rfl, rfl, ks, h4, by omega⟩
    · rintro v rest r s' ⟨hr, rfl, ks', hall, hle⟩
      cases hall with
      | cons x1 x2 =>
        simp only [NestedKey.depthAll] at hle
        refine wpAny_bind (cls_key n _ v _ _ _ _ x1 (by omega) ?_)
        simp only [Bool.false_eq_true, if_false]
        exact wpAny_pure ⟨rfl, rfl, _, x2, by omega⟩
    · rintro ⟨r1, r2⟩ s' ⟨hr, rfl, _⟩
      simp only at hr
      subst hr
      exact wpAny_pure h
theorem hby_key : ∀ (n : Nat) (k : NestedKey) (v : Value) (A : Around) (E : Value → Shared → Prop) (s : Shared) (Q : Bool → Shared → Prop), NestedIs s.heap k v → (∀ b, Q b s) → wpAny (model P w) A (hashByValue n v) Q E s
  | n, _, _, A, E, s, Q, .none, h => by cases n <;> exact wpAny_pure (h _)
  | n, _, _, A, E, s, Q, .bool _, h => by cases n <;> exact wpAny_pure (h _)
  | n, _, _, A, E, s, Q, .int _ _, h => by cases n <;> exact wpAny_pure (h _)
  | n, _, _, A, E, s, Q, .text _ _, h => by cases n <;> exact wpAny_pure (h _)
  | 0, _, _, A, E, s, Q, .tup _ _ _ _, h => wpAny_pure (h _)
  | n + 1, _, _, A, E, s, Q, .tup (a := a) (o := o) (vs := vs) (ks := ks) h1 h2 h3 h4, h => by
    unfold hashByValue
    refine wpAny_bind (wpAny_specialOf (T := "tuple") ⟨o, h1, h2⟩ F.slot_tuple_hash.lookup ?_)
    show wpAny _ _ (seqItems? (.ref a) >>= _) _ _ s
    refine wpAny_bind (wpAny_seqItems h1 h3 ?_)
    refine wpAny_bind ?_
    show wpAny _ _ (forIn vs _ _) _ _ s
    rw [← Array.forIn_toList]
    refine wpAny_forIn_list _ (fun rest r s' => s' = s ∧ r.1 = none ∧ ∃ ks', NestedAll s.heap ks' rest) _ ?_ ?_ _ _ ⟨rfl, rfl, ks, h4⟩
    · rintro v rest r s' ⟨rfl, hr, ks', hall⟩
      cases hall with
      | cons x1 x2 =>
        refine wpAny_bind (hby_key n _ v _ _ _ _ x1 fun b => ?_)
        cases b with
        | true =>
          simp only [Bool.not_true, Bool.false_eq_true, if_false]
          exact wpAny_pure ⟨rfl, rfl, _, x2⟩
        | false =>
          simp only [Bool.not_false, if_true]
          refine wpAny_pure ?_
          exact wpAny_pure (h _)
    · rintro ⟨r1, r2⟩ s' ⟨rfl, hr, _⟩
      simp only at hr
      subst hr
      exact wpAny_pure (h _)
theorem seen_keys {x : Addr × NestedKey} (hx : IsN s.heap x) {ys : List Value} (hy : ∀ y ∈ ys, ∃ p, y = Value.ref p.1 ∧ IsN s.heap p) {Q : Bool → Shared → Prop} (h : Q false s) : wpAny (model P w) A (searchCouldBeSeen (.ref x.1) ys) Q E s := by
  unfold searchCouldBeSeen
  refine wpAny_bind ?_
  refine wpAny_forIn_list _ (fun rest r s' => r.1 = none ∧ s' = s ∧ ∀ y ∈ rest, ∃ p, y = Value.ref p.1 ∧ IsN s.heap p) _ ?_ ?_ _ _ ⟨rfl, rfl, hy⟩
  · rintro v rest r s' ⟨hr, rfl, hall⟩
    obtain ⟨c, rfl, hc⟩ := hall v List.mem_cons_self
    have rest' := fun u hu => hall u (List.mem_cons_of_mem _ hu)
    dsimp only
    by_cases hv : (x.1 == c.1 || (carriedByValue (.ref x.1) && carriedByValue (.ref c.1))) = true
    · exact wp_if_pos hv (wpAny_pure ⟨rfl, rfl, rest'⟩)
    · refine wp_if_neg hv ?_
      refine wpAny_bind (quiet_key _ _ 8 s' hx.1 hx.2 _ _ _ ?_)
      simp only [Bool.not_true, Bool.false_eq_true, if_false]
      refine wpAny_bind (quiet_key _ _ 8 s' hc.1 hc.2 _ _ _ ?_)
      simp only [Bool.not_true, Bool.false_eq_true, if_false]
      refine wpAny_bind (cls_key 8 _ _ _ _ _ _ hx.1 hx.2 ?_)
      simp only [Bool.false_eq_true, if_false]
      refine wpAny_bind (cls_key 8 _ _ _ _ _ _ hc.1 hc.2 ?_)
      simp only [Bool.false_eq_true, if_false]
      exact wpAny_pure ⟨rfl, rfl, rest'⟩
  · rintro ⟨r1, r2⟩ s' ⟨hr, rfl, _⟩
    simp only at hr
    subst hr
    exact wpAny_pure h
theorem eq_keys {x y : Addr × NestedKey} (hx : IsN s.heap x) (hy : IsN s.heap y) (hu : A.units + 8 < cLine) {Q : Bool → Shared → Prop} (h : Q (decide (x.2 = y.2)) s) : wpAny (model P w) A (eqBool (.ref x.1) (.ref y.1)) Q E s :=
  (nestedKind P w).eqBool hu hx hy h

/-! ### the set -/
abbrev rowL (w : World) (L : List (Addr × NestedKey)) : List (Int × Value) := L.map fun p => (p.2.hash w, Value.ref p.1)
abbrev hsL (w : World) (L : List (Addr × NestedKey)) : List Int := L.map fun p => p.2.hash w
structure SetG (w : World) (h : Heap) (a : Addr) (L : List (Addr × NestedKey)) (es : Array (Int × Value)) (ep : Nat) (t : SetTable) : Prop where
  ob : ∃ o, h.get? a = some o ∧ o.ExactSet ∧ o.data = .set es ep t
  rows : es.toList = rowL w L
  tab : Tab t (hsL w L)
  nd : (L.map (·.2)).Nodup
  led : w.params.followText "set-order" = true ∨ t.led = true
  m4 : MaskOk t.mask ∨ t.mask = 511
  room : L.length * 5 < t.mask * 3
theorem mg4 {m : Nat} (h : MaskOk m ∨ m = 511) : MG m := h.elim mg_small fun e => e ▸ mg_511
variable {a : Addr} {L : List (Addr × NestedKey)} {es : Array (Int × Value)} {ep : Nat} {t : SetTable}
theorem SetG.size {h : Heap} (R : SetG w h a L es ep t) : es.size = L.length := by
  rw [show es.size = es.toList.length from rfl, R.rows, List.length_map]
theorem SetG.few {h : Heap} (R : SetG w h a L es ep t) : L.length < 307 := by
  have h1 := R.room
  rcases R.m4 with (e | e | e) | e <;> omega
theorem fits_of {n : Nat} (h1 : t.place.toList.length = n) (h2 : t.dummies = #[]) (h3 : n ≤ t.mask) : t.fits n = true := by
  unfold SetTable.fits SetTable.fill
  rw [h2, Bool.and_eq_true, beq_iff_eq, decide_eq_true_eq]
  exact ⟨h1, by rw [show t.place.size = n from h1]; exact h3⟩
theorem SetG.fits {h : Heap} (R : SetG w h a L es ep t) : t.fits es.size = true :=
  fits_of (by rw [R.tab.sz, List.length_map, R.size]) R.tab.dm (by have := R.room; have := R.size; omega)
theorem SetG.entry {h : Heap} (R : SetG w h a L es ep t) {i : Nat} {p : Addr × NestedKey} (e : L[i]? = some p) : es[i]? = some (p.2.hash w, Value.ref p.1) := by
  rw [← Array.getElem?_toList, R.rows, List.getElem?_map, e]; rfl
theorem gave_no {t : SetTable} (h : t.mask % 2 = 1) : ¬ t.gaveWay = true := by
  unfold SetTable.gaveWay
  rw [h]
  decide
theorem nth_nd (m : Nat) : ∀ (n : Nat) (p : SetTable.Probe), p.dummy = none → (nth m p n).dummy = none
  | 0, _, h => h
  | n + 1, p, h => nth_nd m n (adv m p) (by unfold adv; split <;> exact h)

/-- the search for x, from the c-th step of its way on; K: the first step that is free -/
theorem seek (R : SetG w s.heap a L es ep t) (ht : ∀ p ∈ L, IsN s.heap p) {x : Addr × NestedKey} (hx : IsN s.heap x) (hu : A.units + 8 < cLine) {h : Int} (eh : x.2.hash w = h) {K : Nat} (hKf : K < 10 * SetTable.turns t.mask)
    (hK : way t.mask h K ∉ t.place.toList) (hKb : ∀ c, c < K → way t.mask h c ∈ t.place.toList) {Q : SetFound → Shared → Prop}
    (hin : x.2 ∈ L.map (·.2) → Q (.there none) s) (hout : x.2 ∉ L.map (·.2) → Q (.free (way t.mask h K) false) s) :
    ∀ (f c : Nat) (stand : Option SetTable.Probe), stand.getD (t.probeStart h) = nth t.mask (runAt t.mask (SetTable.bits h % (t.mask + 1)) (SetTable.bits h)) c → c ≤ K → K - c < f →
      (∀ (i : Nat) p, L[i]? = some p → p.2 = x.2 → ∃ c', c ≤ c' ∧ c' < K ∧ t.place.toList[i]? = some (way t.mask h c')) →
      wpAny (model P w) A (setSearchFrom a (.ref x.1) h true f stand) Q E s
  | 0, _, _, _, _, hf, _ => absurd hf (Nat.not_lt_zero _)
  | f + 1, c, stand, hst, hc, hf, hre => by
    obtain ⟨o, ho, hex, hd⟩ := R.ob
    rw [setSearchFrom_succ]
    refine wpAny_bind (wpAny_setState_of ho hd R.fits ?_)
    dsimp only
    refine wp_if_neg (gave_no R.tab.mg.odd) ?_
    try refine wpAny_bind (wpAny_pure ?_)
    have step : ∀ q, nth t.mask (nth t.mask (runAt t.mask (SetTable.bits h % (t.mask + 1)) (SetTable.bits h)) c) q = nth t.mask (runAt t.mask (SetTable.bits h % (t.mask + 1)) (SetTable.bits h)) (c + q) := fun q => (nth_add t.mask c _ q).symm
    have stepj : ∀ q, (nth t.mask (nth t.mask (runAt t.mask (SetTable.bits h % (t.mask + 1)) (SetTable.bits h)) c) q).j = way t.mask h (c + q) := fun q => congrArg SetTable.Probe.j (step q)
    have hcK : c + (K - c) = K := by omega
    have spec := go_spec t R.tab.ris R.tab.dm (fun i => (es[i]?.map (·.1)).getD 0) h (10 * SetTable.turns t.mask) (K - c) (nth t.mask (runAt t.mask (SetTable.bits h % (t.mask + 1)) (SetTable.bits h)) c) (nth_nd _ _ _ rfl) (by omega)
      (fun q hq => by rw [stepj]; exact hKb (c + q) (by omega)) (by rw [stepj, hcK]; exact hK)
    have hashAt : ∀ (i : Nat) p, L[i]? = some p → (es[i]?.map (·.1)).getD 0 = p.2.hash w := fun i p hp => by rw [R.entry hp]; rfl
    -- what has x's key is not met before
    have ahead : ∀ q, (∀ k' i', k' < q → t.place.toList[i']? = some (nth t.mask (nth t.mask (runAt t.mask (SetTable.bits h % (t.mask + 1)) (SetTable.bits h)) c) k').j → (es[i']?.map (fun e : Int × Value => e.1)).getD 0 ≠ h) →
        ∀ (i : Nat) p, L[i]? = some p → p.2 = x.2 → ∃ c', c + q ≤ c' ∧ c' < K ∧ t.place.toList[i]? = some (way t.mask h c') := fun q hno i p hp hk => by
      obtain ⟨c', a1, a2, a3⟩ := hre i p hp hk
      refine ⟨c', Nat.le_of_not_lt fun z => ?_, a2, a3⟩
      refine hno (c' - c) i (by omega) (by rw [stepj, show c + (c' - c) = c' by omega]; exact a3) ?_
      rw [hashAt i p hp, hk, eh]
    rcases spec with ⟨q, i, hq, hi, hh, hno, hpr⟩ | ⟨hno, hpr⟩
    · have hpr : t.probe (fun i => (es[i]?.map (·.1)).getD 0) h (nth t.mask (runAt t.mask (SetTable.bits h % (t.mask + 1)) (SetTable.bits h)) c) = _ := hpr
      rw [hst, hpr, stepj, step]
      dsimp only
      rw [stepj] at hi
      have hil : i < L.length := by
        have h1 := (List.getElem?_eq_some_iff.mp hi).1
        rw [R.tab.sz, List.length_map] at h1
        exact h1
      obtain ⟨p, hp⟩ : ∃ p, L[i]? = some p := ⟨_, List.getElem?_eq_getElem hil⟩
      have hmem : p ∈ L := List.mem_of_getElem? hp
      have hsl : t.slot (way t.mask h (c + q)) = .live i := slot_live R.tab.ris hi
      have rest : wpAny (model P w) A (searchRest a (.ref x.1) h true f es t (way t.mask h (c + q)) i (nth t.mask (runAt t.mask (SetTable.bits h % (t.mask + 1)) (SetTable.bits h)) (c + (q + 1)))) Q E s := by
        unfold searchRest
        rw [R.entry hp]
        dsimp only
        refine wpAny_bind (wpAny_holding (eq_keys (ht p hmem) hx hu ?_))
        refine wpAny_bind (wpAny_setState_of ho hd R.fits ?_)
        dsimp only
        by_cases hkk : p.2 = x.2
        · exact wp_if_pos (by simp [hkk]) (wpAny_pure (hin (List.mem_map.mpr ⟨p, hmem, hkk⟩)))
        · refine wp_if_neg (by simp [hkk]) ?_
          try refine wpAny_bind (wpAny_pure ?_)
          rw [sameMem]
          dsimp only
          simp only [if_true, hsl, R.entry hp]
          refine wpAny_bind (wpAny_isSame_ref_self (wpAny_bind (wpAny_pure ?_)))
          simp only [if_true]
          refine wp_if_neg (by simp [hkk]) ?_
          refine seek R ht hx hu eh hKf hK hKb hin hout f (c + (q + 1)) _ rfl (by omega) (by omega) fun i0 p0 h0 hk0 => ?_
          obtain ⟨c', a1, a2, a3⟩ := ahead q hno i0 p0 h0 hk0
          refine ⟨c', ?_, a2, a3⟩
          rcases Nat.lt_or_ge (c + q) c' with y | y
          · omega
          · exfalso
            obtain rfl : c' = c + q := by omega
            have s0 := slot_live R.tab.ris a3
            rw [hsl] at s0
            injection s0 with s0
            rw [← s0, hp] at h0
            cases h0
            exact hkk hk0
      by_cases hl : t.led = true
      · refine wp_if_neg (by simp [hl]) ?_
        try refine wpAny_bind (wpAny_pure ?_)
        exact rest
      · refine wp_if_pos (by simp [hl]) ?_
        refine wpAny_bind (seen_keys hx (fun y hy => ?_) ?_)
        · obtain ⟨e, he, ee⟩ := List.mem_map.mp hy
          have he2 : e ∈ es.toList := by simp at he; simpa using he.1
          rw [R.rows] at he2
          obtain ⟨p2, hp2, e2⟩ := List.mem_map.mp he2
          exact ⟨p2, by rw [← ee, ← e2], ht p2 hp2⟩
        · refine wp_if_neg (by decide) ?_
          try refine wpAny_bind (wpAny_pure ?_)
          exact rest
    · have hpr : t.probe (fun i => (es[i]?.map (·.1)).getD 0) h (nth t.mask (runAt t.mask (SetTable.bits h % (t.mask + 1)) (SetTable.bits h)) c) = _ := hpr
      rw [hst, hpr, stepj, hcK]
      dsimp only
      refine wpAny_pure (hout fun hm => ?_)
      obtain ⟨p0, h0, hk0⟩ := List.mem_map.mp hm
      obtain ⟨i0, hi0, e0⟩ := List.getElem_of_mem h0
      obtain ⟨c', a1, a2, a3⟩ := ahead (K - c) hno i0 p0 (by rw [List.getElem?_eq_getElem hi0, e0]) hk0
      omega
theorem seek_at (R : SetG w s.heap a L es ep t) (ht : ∀ p ∈ L, IsN s.heap p) {x : Addr × NestedKey} (hx : IsN s.heap x) (hu : A.units + 8 < cLine) {Q : SetFound → Shared → Prop} (hin : x.2 ∈ L.map (·.2) → Q (.there none) s)
    (hout : ∀ K, x.2 ∉ L.map (·.2) → way t.mask (x.2.hash w) K ∉ t.place.toList → (∀ c, c < K → way t.mask (x.2.hash w) c ∈ t.place.toList) → Q (.free (way t.mask (x.2.hash w) K) false) s) :
    wpAny (model P w) A (setSearch a (.ref x.1) (x.2.hash w) true) Q E s := by
  have hroom := R.room
  have hsz := R.tab.sz
  rw [List.length_map] at hsz
  obtain ⟨K, hKf, hK, hKb⟩ := first_free R.tab.mg t.place.toList (by omega) (x.2.hash w)
  have hbd := R.tab.mg.bd
  have hbig : 10 * SetTable.turns t.mask ≤ 5260 := by unfold SetTable.turns; omega
  unfold setSearch
  refine seek R ht hx hu rfl hKf hK hKb hin (fun hn => hout K hn hK hKb) 100000 0 none rfl (Nat.zero_le _) (by omega) fun i p hp hk => ?_
  have hil : i < t.place.toList.length := by rw [hsz]; exact (List.getElem?_eq_some_iff.mp hp).1
  have hj := List.getElem?_eq_getElem hil
  obtain ⟨c, hc, e⟩ := (R.tab.rch i (x.2.hash w) _ (by rw [List.getElem?_map, hp, ← hk]; rfl) hj).lt hK (List.mem_of_getElem? hj)
  exact ⟨c, Nat.zero_le _, hc, by rw [hj, e]⟩
end
end Ms

set_option Elab.async false
set_option linter.all false
set_option maxRecDepth 100000
set_option maxHeartbeats 4000000
/-! MS3: set(xs), len(set(xs)), sorted(set(xs)), xs a list of nested tuples of up to 306. -/
namespace Ms
open PySem PySem.Spec PyProof.Rows L2
section
variable {P : Program} {w : World} {A : Around} {E : Value → Shared → Prop} {s : Shared} {a : Addr} {L : List (Addr × NestedKey)} {es : Array (Int × Value)} {ep : Nat} {t : SetTable}

theorem rows_order (L : List (Addr × NestedKey)) (es : Array (Int × Value)) (hr : es.toList = rowL w L) : ∀ l : List Nat, (∀ i ∈ l, i < L.length) →
    l.filterMap (fun i => es[i]?) = rowL w (l.filterMap fun i => L[i]?) ∧ hsL w (l.filterMap fun i => L[i]?) = l.map fun i => (es.map (·.1)).getD i 0
  | [], _ => ⟨rfl, rfl⟩
  | i :: l, hl => by
    obtain ⟨e1, e2⟩ := rows_order L es hr l fun j hj => hl j (List.mem_cons_of_mem _ hj)
    have hi := hl i List.mem_cons_self
    have e3 : L[i]? = some L[i] := List.getElem?_eq_getElem hi
    have e4 : es[i]? = some ((L[i]).2.hash w, Value.ref (L[i]).1) := by rw [← Array.getElem?_toList, hr, List.getElem?_map, e3]; rfl
    rw [List.filterMap_cons_some e4, List.filterMap_cons_some e3, e1]
    refine ⟨rfl, ?_⟩
    have e5 : (es.map (·.1)).getD i 0 = (L[i]).2.hash w := by
      have q : (es.map (·.1))[i]? = some ((L[i]).2.hash w) := by rw [Array.getElem?_map, e4]; rfl
      simp [Array.getD_eq_getD_getElem?, q]
    rw [List.map_cons, ← e2, e5]; rfl
theorem all_range {α : Type} (L : List α) : (List.range L.length).filterMap (fun i => L[i]?) = L := by
  have h : ∀ n, n ≤ L.length → (List.range n).filterMap (fun i => L[i]?) = L.take n := by
    intro n
    induction n with
    | zero => intro _; rfl
    | succ n ih =>
      intro hn
      rw [List.range_succ, List.filterMap_append, ih (Nat.le_of_lt hn), List.take_succ, List.getElem?_eq_getElem hn, List.filterMap_cons_some (List.getElem?_eq_getElem hn)]
      rfl
  rw [h _ (Nat.le_refl _), List.take_length]

theorem map_put {α β : Type} (f : α → β) (L : List α) (p : Nat) (x : α) : (L.take p ++ x :: L.drop p).map f = (L.map f).take p ++ f x :: (L.map f).drop p := by rw [List.map_append, List.map_cons, List.map_take, List.map_drop]
/-- laid anew, larger -/
theorem relay {o : Obj} (ho : s.heap.get? a = some o) (hex : o.ExactSet) (hd : o.data = .set es ep t) (hrows : es.toList = rowL w L) (T : Tab t (hsL w L)) (hfl : L.length ≤ t.mask) (nd : (L.map (·.2)).Nodup)
    (ld : w.params.followText "set-order" = true ∨ t.led = true) {wanted M : Nat} (hw : SetTable.sizeAbove wanted = M + 1) (hM : MaskOk M ∨ M = 511) (hn : L.length * 5 < M * 3) {Q : Unit → Shared → Prop}
    (hQ : ∀ h' L' es' ep' t', Heap.SameBut a s.heap h' → SetG w h' a L' es' ep' t' → L'.Perm L → Q () { s with heap := h' }) : wpAny (model P w) A (setRelay a wanted) Q E s := by
  have hsz : es.size = L.length := by rw [show es.size = es.toList.length from rfl, hrows, List.length_map]
  have hM5 := (mg4 hM).bd
  obtain ⟨t', order, e, hp, T', em, el⟩ := relaid_tab t (hs := es.map (·.1)) (wanted := wanted) (M := M) (by omega) (mg4 hM) (by rw [Array.size_map, hsz]; omega)
  rw [Array.size_map, hsz] at hp
  obtain ⟨r1, r3⟩ := rows_order L es hrows order.toList fun i hi => List.mem_range.mp (hp.mem_iff.mp hi)
  have r2 : (order.toList.filterMap fun i => L[i]?).Perm L := by
    have q := hp.filterMap fun i => L[i]?
    rw [all_range] at q
    exact q
  have r1 : (order.filterMap (es[·]?)).toList = rowL w (order.toList.filterMap fun i => L[i]?) := by
    rw [← r1]
    first | exact Array.toList_filterMap | simp
  rw [← r3] at T'
  generalize order.toList.filterMap (fun i => L[i]?) = L2 at r1 r2 r3 T'
  generalize he1 : order.filterMap (es[·]?) = es1 at r1
  have hs2 : es1.size = L.length := by rw [show es1.size = es1.toList.length from rfl, r1, List.length_map, r2.length_eq]
  rw [setRelay_eq]
  refine wpAny_bind (wpAny_setState_of ho hd (by rw [hsz]; exact fits_of (by rw [T.sz, List.length_map]) T.dm hfl) ?_)
  dsimp only
  refine wp_if_neg (by rw [hw, sizeLine_eq]; omega) ?_
  try refine wpAny_bind (wpAny_pure ?_)
  rw [e]
  dsimp only
  rw [he1]
  refine wpAny_bind ?_
  refine wp_if_neg (by rw [hs2, hsz]; simp) ?_
  try refine wpAny_bind (wpAny_pure ?_)
  refine wpAny_pure ?_
  dsimp only
  refine wpAny_storeSet_of ho hd ?_ (by rw [hs2, sizeLine_eq]; omega)
  refine hQ _ L2 es1 (ep + 1) t' (Heap.SameBut.update ..) ⟨⟨_, store_at ho hd, ⟨hex.1, hex.2.1, hex.2.2⟩, rfl⟩, r1, T', (r2.map (·.2)).nodup_iff.mpr nd, by rw [el]; exact ld, by rw [em]; exact hM, by rw [r2.length_eq, em]; exact hn⟩ r2
theorem up5 : SetTable.sizeAbove (SetTable.grown 5) = 31 + 1 := by decide +kernel
theorem up19 : SetTable.sizeAbove (SetTable.grown 19) = 127 + 1 := by decide +kernel
theorem up77 : SetTable.sizeAbove (SetTable.grown 77) = 511 + 1 := by decide +kernel
/-- one added -/
theorem addOne (R : SetG w s.heap a L es ep t) (ht : ∀ p ∈ L, IsN s.heap p) {x : Addr × NestedKey} (hx : IsN s.heap x) (hu : A.units + 8 < cLine) (hfew : L.length + 1 < 307) {Q : Bool → Shared → Prop}
    (hQ : ∀ b h' L' es' ep' t', Heap.SameBut a s.heap h' → SetG w h' a L' es' ep' t' → (x.2 ∈ L.map (·.2) ∧ L' = L ∨ L'.Perm (x :: L)) → Q b { s with heap := h' }) :
    wpAny (model P w) A (setAddHashed a (.ref x.1) (x.2.hash w)) Q E s := by
  obtain ⟨o, ho, hex, hd⟩ := R.ob
  have hsl := R.size
  have hroom := R.room
  unfold setAddHashed
  refine wpAny_holding ?_
  rw [show (100000 : Nat) = 99999 + 1 from rfl, setAddHashedIn_succ]
  refine wpAny_bind (wpAny_setState_of ho hd R.fits ?_)
  dsimp only
  refine wp_if_neg (by simp [byScan, Value.scannable]) ?_
  try refine wpAny_bind (wpAny_pure ?_)
  refine wpAny_bind (seek_at R ht hx hu (fun hm => ?_) fun K hm hK hb => ?_)
  · dsimp only
    exact wpAny_pure (hQ false s.heap L es ep t (Heap.SameBut.refl a s.heap) R (.inl ⟨hm, rfl⟩))
  dsimp only
  refine wpAny_bind (wpAny_setState_of ho hd R.fits ?_)
  dsimp only
  obtain ⟨p, t1, q1, q2, q3, q4, q5, q6, q7, q8⟩ := R.tab.put hK hb
  rw [q1]
  dsimp only
  have fin : ∀ t2 : SetTable, t2.place = t1.place → t2.dummies = t1.dummies → t2.mask = t1.mask → t2.led = t1.led → wpAny (model P w) A (do
      storeSet a (SetTable.insertAt es p (x.2.hash w, .ref x.1)) t2
      if !false && t2.tooFull then setRelay a (SetTable.grown (es.size + 1))
      return true) Q E s := by
    intro t2 g1 g2 g3 g4
    have hin : (SetTable.insertAt es p (x.2.hash w, Value.ref x.1)).toList = rowL w (L.take p ++ x :: L.drop p) := by
      rw [SetTable.toList_insertAt, R.rows]
      exact (map_put ..).symm
    have pm := put_perm L p x
    have T2 : Tab t2 (hsL w (L.take p ++ x :: L.drop p)) := by
      have e : hsL w (L.take p ++ x :: L.drop p) = (hsL w L).take p ++ x.2.hash w :: (hsL w L).drop p := map_put ..
      rw [e]
      exact ⟨by rw [g1]; exact q3.ris, by rw [g2]; exact q3.dm, by rw [g1]; exact q3.sz, by rw [g3]; exact q3.mg, by rw [g1, g3]; exact q3.bd, by rw [g1, g3]; exact q3.rch⟩
    generalize L.take p ++ x :: L.drop p = L1 at pm hin T2
    generalize SetTable.insertAt es p (x.2.hash w, Value.ref x.1) = es1 at hin
    have hlen : L1.length = L.length + 1 := pm.length_eq
    have hes : es1.size = L.length + 1 := by rw [show es1.size = es1.toList.length from rfl, hin, List.length_map, hlen]
    have nd1 : (L1.map (·.2)).Nodup := (pm.map (·.2)).nodup_iff.mpr (by rw [List.map_cons]; exact List.nodup_cons.mpr ⟨hm, R.nd⟩)
    have hfill : t2.fill = L.length + 1 := by
      unfold SetTable.fill at q8 ⊢
      rw [g1, g2, q8, List.length_map]
    refine wpAny_bind (wpAny_storeSet_of ho hd ?_ (by rw [hes, sizeLine_eq]; omega))
    have sb : Heap.SameBut a s.heap (s.heap.update a (Obj.putSet es1 t2)) := Heap.SameBut.update ..
    have ho1 := store_at (es' := es1) (t' := t2) ho hd
    generalize s.heap.update a (Obj.putSet es1 t2) = h1 at sb ho1 ⊢
    have ld1 : w.params.followText "set-order" = true ∨ t2.led = true := by rw [g4, q5]; exact R.led
    have em : t2.mask = t.mask := g3.trans q4
    by_cases hf : t2.tooFull = true
    · first
        | (refine wpAny_bind ?_; refine wp_if_pos (by simp [hf]) ?_)
        | (refine wp_if_pos (by simp [hf]) ?_; refine wpAny_bind ?_)
      have hfull : (L.length + 1) * 5 ≥ t2.mask * 3 := by
        have h := hf
        unfold SetTable.tooFull at h
        rw [decide_eq_true_eq, hfill] at h
        exact h
      rw [em] at hfull
      rw [hsl]
      have go : ∀ M, SetTable.sizeAbove (SetTable.grown (L.length + 1)) = M + 1 → (MaskOk M ∨ M = 511) → L.length + 1 ≤ t.mask → (L.length + 1) * 5 < M * 3 →
          wpAny (model P w) A (setRelay a (SetTable.grown (L.length + 1))) (fun _ s' => wpAny (model P w) A (pure true) Q E s') E { s with heap := h1 } := fun M h1' h2' h3' h4' =>
        relay (s := { s with heap := h1 }) ho1 ⟨hex.1, hex.2.1, hex.2.2⟩ rfl hin T2 (by rw [hlen, em]; exact h3') nd1 ld1 h1' h2' (by rw [hlen]; exact h4') fun h2 L2 es2 ep2 t3 sb2 R2 pm2 =>
          wpAny_pure (hQ true h2 L2 es2 ep2 t3 (sb.trans sb2) R2 (.inr (pm2.trans pm)))
      rcases R.m4 with (e | e | e) | e
      · obtain e2 : L.length = 4 := by omega
        exact go 31 (by rw [e2]; exact up5) (.inl (.inr (.inl rfl))) (by omega) (by omega)
      · obtain e2 : L.length = 18 := by omega
        exact go 127 (by rw [e2]; exact up19) (.inl (.inr (.inr rfl))) (by omega) (by omega)
      · obtain e2 : L.length = 76 := by omega
        exact go 511 (by rw [e2]; exact up77) (.inr rfl) (by omega) (by omega)
      · exfalso; omega
    · first
        | refine wp_if_neg (by simp [hf]) ?_
        | (refine wpAny_bind ?_; refine wp_if_neg (by simp [hf]) ?_; refine wpAny_pure ?_)
      refine wpAny_pure (hQ true h1 L1 es1 (ep + 1) t2 sb ⟨⟨_, ho1, ⟨hex.1, hex.2.1, hex.2.2⟩, rfl⟩, hin, T2, nd1, ld1, by rw [em]; exact R.m4, ?_⟩ (.inr pm))
      have h := hf
      unfold SetTable.tooFull at h
      rw [decide_eq_true_eq, hfill] at h
      rw [hlen]
      omega
  by_cases hp1 : t1.plain = true
  · first
      | (refine wpAny_bind ?_; refine wp_if_pos hp1 ?_; refine hby_key 8 _ _ _ _ _ _ hx.1 fun b => ?_)
      | refine wp_if_pos hp1 (wpAny_bind (hby_key 8 _ _ _ _ _ _ hx.1 fun b => ?_))
    cases b with
    | true => simp only [if_true]; exact fin t1 rfl rfl rfl rfl
    | false => simp only [Bool.false_eq_true, if_false]; exact fin { t1 with plain := false } rfl rfl rfl rfl
  · first
      | (refine wpAny_bind ?_; refine wp_if_neg hp1 ?_; refine wpAny_pure ?_)
      | refine wp_if_neg hp1 (wpAny_bind (wpAny_pure ?_))
    simp only [if_true]
    exact fin t1 rfl rfl rfl rfl

/-! ### set(xs) -/
/-- what the first i items have brought in -/
structure Brought (ks : List (Addr × NestedKey)) (i : Nat) (L : List (Addr × NestedKey)) : Prop where
  sub : ∀ p ∈ L, p ∈ ks
  all : ∀ (j : Nat) p, j < i → ks[j]? = some p → p.2 ∈ L.map (·.2)
  len : L.length ≤ i
theorem Brought.next {ks L L' : List (Addr × NestedKey)} {i : Nat} {x : Addr × NestedKey} (g : Brought ks i L) (h : ks[i]? = some x) (c : x.2 ∈ L.map (·.2) ∧ L' = L ∨ L'.Perm (x :: L)) : Brought ks (i + 1) L' := by
  have split : ∀ (L2 : List (Addr × NestedKey)), (∀ k, k ∈ L.map (·.2) → k ∈ L2.map (·.2)) → x.2 ∈ L2.map (·.2) → ∀ (j : Nat) p, j < i + 1 → ks[j]? = some p → p.2 ∈ L2.map (·.2) := fun L2 f1 f2 j p hj hp => by
    rcases Nat.lt_or_ge j i with z | z
    · exact f1 _ (g.all j p z hp)
    · obtain rfl : j = i := by omega
      rw [h] at hp; cases hp
      exact f2
  rcases c with ⟨hm, rfl⟩ | pm
  · exact ⟨g.sub, split _ (fun _ z => z) hm, Nat.le_succ_of_le g.len⟩
  · refine ⟨fun p hp => ?_, split _ (fun k hk => ?_) ?_, by rw [pm.length_eq]; exact Nat.succ_le_succ g.len⟩
    · rcases List.mem_cons.mp (pm.mem_iff.mp hp) with e | z
      · rw [e]; exact List.mem_of_getElem? h
      · exact g.sub p z
    · exact (pm.map (·.2)).mem_iff.mpr (by rw [List.map_cons]; exact List.mem_cons_of_mem _ hk)
    · exact (pm.map (·.2)).mem_iff.mpr (by rw [List.map_cons]; exact List.mem_cons_self)
theorem SetG.at {h h' : Heap} (R : SetG w h a L es ep t) (ha : ∀ o, h.get? a = some o → h'.get? a = some o) : SetG w h' a L es ep t :=
  let ⟨o, ho, r⟩ := R.ob
  ⟨⟨o, ha o ho, r⟩, R.rows, R.tab, R.nd, R.led, R.m4, R.room⟩
theorem setG_new {h : Heap} (ho : h.get? a = some { cls := .type "set", dict := none, data := .set #[] 0 (.fresh 0 0 (!w.params.followText "set-order")) }) : SetG w h a [] #[] 0 (.fresh 0 0 (!w.params.followText "set-order")) where
  ob := ⟨_, ho, ⟨rfl, rfl, rfl⟩, rfl⟩
  rows := rfl
  tab := ⟨List.Pairwise.nil, rfl, rfl, mg_small (.inl rfl), fun x hx => (by cases hx), fun i h j hi => (by simp at hi)⟩
  nd := List.nodup_nil
  led := by
    show _ ∨ (!w.params.followText "set-order") = true
    cases w.params.followText "set-order"
    · exact .inr rfl
    · exact .inl rfl
  m4 := .inl (.inl rfl)
  room := show 0 * 5 < 7 * 3 by decide
/-- the loop that fills it -/
theorem fill_keys {I : Addr} {fp wr : List Addr} {G : Array GenState → Array GenState → Prop} {n : Nat} {Pv : Nat → Value → Prop} {St : Nat → Shared → Prop} {R : Result → Shared → Prop}
    (W : WalksS P w A.in1 I fp wr G n Pv St) (S : Addr) (hSf : S ∉ fp) (ks : List (Addr × NestedKey)) (hn : n = ks.length) (hfew : ks.length < 307) (hval : ∀ i v, Pv i v → ∃ p, ks[i]? = some p ∧ v = .ref p.1)
    (h0 : Heap) (hk : ∀ p ∈ ks, IsN h0 p) (hS0 : h0.get? S = none) (hw0 : ∀ b ∈ wr, h0.get? b = none) (hu : A.in1.units + 8 < cLine) :
    ∀ (k i : Nat) (s : Shared), n - i = k → i ≤ n → St i s → (∀ b o, h0.get? b = some o → s.heap.get? b = some o) → (∃ L es ep t, SetG w s.heap S L es ep t ∧ Brought ks i L) →
      (∀ s' L es ep t, Moved (S :: wr) G s s' → SetG w s'.heap S L es ep t → Brought ks n L → (∀ b o, h0.get? b = some o → s'.heap.get? b = some o) → R (.ok (.ret .none)) s') →
      codeAny (model P w) A (.builtin "set.update.loop" ⟨[.ref S, .ref I], []⟩) R s := by
  have hSw : S ∉ wr := fun h => hSf (W.sub _ h)
  have hsub : ∀ b ∈ wr, b ∈ S :: wr := fun b hb => List.mem_cons_of_mem _ hb
  have keepM : ∀ {s s' : Shared}, Moved wr G s s' → (∀ b o, h0.get? b = some o → s.heap.get? b = some o) → ∀ b o, h0.get? b = some o → s'.heap.get? b = some o := fun hm hkp b o e =>
    hm.heap b o (fun hb => by rw [hw0 b hb] at e; cases e) (hkp b o e)
  intro k
  induction k with
  | zero =>
    intro i s hk' hi hst hkp ⟨L, es, ep, t, hS, g⟩ hR
    obtain rfl : i = n := by omega
    refine codeAny_builtin F.entry_set_update_loop ?_
    rw [Around.under_plainId F.plain_set_update_loop _]
    show wpAny _ A.in1 (pyNext (.ref I) >>= _) _ _ s
    refine wpAny_bind (W.done s _ _ hst fun s' hm => ?_)
    show wpAny _ A.in1 (ret Value.none) _ _ s'
    exact wpAny_pure (hR s' L es ep t (hm.mono hsub) (hS.at fun o e => hm.heap S o hSw e) g (keepM hm hkp))
  | succ k ih =>
    intro i s hk' hi hst hkp ⟨L, es, ep, t, hS, g⟩ hR
    have hlt : i < n := by omega
    refine codeAny_builtin F.entry_set_update_loop ?_
    rw [Around.under_plainId F.plain_set_update_loop _]
    show wpAny _ A.in1 (pyNext (.ref I) >>= _) _ _ s
    refine wpAny_bind (W.item i s _ _ hlt hst fun v s' hP hst' hm => ?_)
    obtain ⟨p, hp, rfl⟩ := hval i v hP
    have hkp' := keepM hm hkp
    have now : ∀ q ∈ ks, IsN s'.heap q := fun q hq => (hk q hq).keep fun b o vs n e _ => hkp' b o e
    have hS' : SetG w s'.heap S L es ep t := hS.at fun o e => hm.heap S o hSw e
    have hx := now p (List.mem_of_getElem? hp)
    show wpAny _ A.in1 (holding [Value.ref p.1] (setAdd S (.ref p.1)) >>= _) _ _ s'
    refine wpAny_bind (wpAny_holding ?_)
    unfold setAdd
    refine wpAny_holding ?_
    refine wpAny_bind (pyHash_key p.2 _ _ _ _ hx.1 (by have := hx.2; omega) ?_)
    have hlen := g.len
    refine addOne (s := { s' with toks := s'.toks + p.2.draws }) hS' (fun q hq => now q (g.sub q hq)) hx hu (by omega) fun b h' L' es' ep' t' hsb hS2 c => ?_
    have hkp2 : ∀ b o, h0.get? b = some o → h'.get? b = some o := fun b o e => (hsb.2 b (fun z => by rw [z, hS0] at e; cases e)).trans (hkp' b o e)
    refine wpAny_pure ⟨plainId_quiet F.plain_set_update_loop _, ih (i + 1) _ (by omega) hlt (W.frame _ s' _ _ hst' (Nat.le_add_right _ _) fun b hb o e => ?_) hkp2 ⟨L', es', ep', t', hS2, g.next hp c⟩ fun s'' L2 es2 ep2 t2 hm'' hS'' g'' hkp'' => ?_⟩
    · rw [hsb.2 b (fun h : b = S => hSf (by rw [← h]; exact hb))]; exact e
    · refine hR s'' L2 es2 ep2 t2 (Moved.trans W.gtrans ((hm.mono hsub).then_heap (Nat.le_add_right _ _) fun b o hb e => ?_) hm'') hS'' g'' hkp''
      rw [hsb.2 b (fun h : b = S => hb (by rw [h]; exact List.mem_cons_self))]; exact e
abbrev emptySet (w : World) : Obj := { cls := .type "set", dict := none, data := .set #[] 0 (.fresh 0 0 (!w.params.followText "set-order")) }
/-- set(xs) -/
theorem call_set {l : Addr} {items : Array Value} (ks : List (Addr × NestedKey)) {Q : Value → Shared → Prop} (hh : A.handled = none) (hl : s.heap.IsList l items) (hit : items.toList = ks.map fun p => Value.ref p.1)
    (hk : ∀ p ∈ ks, IsN s.heap p) (hfew : ks.length < 307) (hu : A.units + 12 < cLine)
    (h : ∀ (h' : Heap) (tk : Nat) L es ep t, SetG w h' s.heap.objs.size L es ep t → Brought ks ks.length L → (∀ b o, s.heap.get? b = some o → h'.get? b = some o) → Q (.ref s.heap.objs.size) { s with heap := h', toks := tk }) :
    wpAny (model P w) A (call (.type "set") [.ref l]) Q E s := by
  have hisz : items.size = ks.length := by rw [show items.size = items.toList.length from rfl, hit, List.length_map]
  obtain ⟨c, tl, hmro⟩ := F.called_set.mro
  have hmade := F.called_set.made
  have hsub := F.called_set.sub
  refine wpAny_call (codeAny_of_tree ?_)
  show wpAny _ _ (callAny (.type "set") _) _ _ _
  refine wpAny_pure ⟨Code.quiet_builtin _ (by decide +kernel), codeAny_builtin F.entry_type_call ?_⟩
  rw [Around.under_plain (weight_type_call_type "set" [.ref l] []) rfl]
  have h1 := F.called_set.notType
  have h2 := F.called_set.canCreate
  have hct := F.typeCall_set_1 (.ref l)
  repeat (any_goals (first | assumption | wp_step))
  refine codeAny_mono (code_set_led1 (.ref l) (E := E) (Q₁ := fun obj s₁ => obj = .ref s.heap.objs.size ∧ s₁ = { s with heap := s.heap.push (emptySet w) }) ⟨rfl, rfl⟩) fun r s₁ hr => ?_
  cases r with
  | error e => exact hr
  | ok fl =>
    cases fl with
    | ret obj =>
      obtain ⟨rfl, rfl⟩ := hr
      have hS : (s.heap.push (emptySet w)).get? s.heap.objs.size = some (emptySet w) := Heap.get?_push_size _ rfl
      have hT : Shared.TypeIs { s with heap := s.heap.push (emptySet w) } (.ref s.heap.objs.size) "set" := ⟨_, hS, rfl⟩
      have hli := F.called_set.init.lookup
      have hbi := F.called_set.init.bind (.ref s.heap.objs.size)
      repeat (any_goals (first | assumption | wp_step))
      refine codeAny_mono (codeAny_call_builtin (R := wants (fun r s₂ => r = .none ∧ ∃ h' tk L es ep t, s₂ = { s with heap := h', toks := tk } ∧ SetG w h' s.heap.objs.size L es ep t ∧ Brought ks ks.length L ∧
          (∀ b o, s.heap.get? b = some o → h'.get? b = some o)) E) F.called_set.init.plain F.entry_set_init (check_set_init_1 hT ?_)) fun r₂ s₂ hr₂ => ?_
      · obtain ⟨ol, hol, hcl, nl, hdl⟩ := hl
        obtain ⟨ocls, odict, odata, oslots⟩ := ol
        simp only at hcl hdl
        subst hcl; subst hdl
        have hol' : (s.heap.push (emptySet w)).get? l = some { cls := .type "list", dict := odict, data := .seq items nl, slots := oslots } := Heap.get?_push_of_some _ hol
        have hsls := F.sub_list_set
        have hslf := F.sub_list_frozenset
        have hne : (Value.type "list" == Value.type "dict") = false := by decide
        have hl1 : (s.heap.push (emptySet w)).IsList l items := ⟨_, hol', rfl, nl, rfl⟩
        unfold Builtin.«set.__init__» noKeywords Builtin.Frozenset.updateFrom
        generalize hPI : pyIter = PI
        wp_walk
        subst hPI
        refine wpAny_pyIter_list hl1 ?_
        refine wpAny_bind (wpAny_runValue ?_)
        have hlS : l < s.heap.objs.size := Heap.lt_size hol
        have hh3 : A.in1.in1.in1.handled = none := by simp [hh]
        have hz1 : (s.heap.push (emptySet w)).objs.size = s.heap.objs.size + 1 := Heap.size_push ..
        have hneI : l ≠ (s.heap.push (emptySet w)).objs.size := by rw [Heap.size_push]; exact Nat.ne_of_lt (Nat.lt_succ_of_lt hlS)
        have hSf : s.heap.objs.size ∉ [(s.heap.push (emptySet w)).objs.size, l] := by
          rw [Heap.size_push]
          simp only [List.mem_cons, List.not_mem_nil, or_false, not_or]
          exact ⟨Nat.ne_of_lt (Nat.lt_succ_self _), Nat.ne_of_gt hlS⟩
        have hval : ∀ (i : Nat) (v : Value), items[i]? = some v → ∃ p, ks[i]? = some p ∧ v = .ref p.1 := fun i v hv => by
          have q : items.toList[i]? = some v := by rw [Array.getElem?_toList]; exact hv
          rw [hit, List.getElem?_map] at q
          obtain ⟨p, hp, e⟩ := Option.map_eq_some_iff.mp q
          exact ⟨p, hp, e.symm⟩
        have none_of : ∀ b, s.heap.objs.size ≤ b → s.heap.get? b = none := fun b hb => by
          cases q : s.heap.get? b with
          | none => rfl
          | some o => exact absurd (Nat.lt_of_lt_of_le (Heap.lt_size q) hb) (Nat.lt_irrefl _)
        refine fill_keys ((Walks.list hh3 _ l hneI items).toS) s.heap.objs.size
          hSf ks hisz hfew hval s.heap hk (none_of _ (Nat.le_refl _)) (fun b hb => none_of b (by rw [List.mem_singleton.mp hb, Heap.size_push]; exact Nat.le_succ _))
          (by simp only [Around.in1_units]; omega) (items.size - 0) 0 _ (by omega) (Nat.zero_le _)
          ⟨⟨_, Heap.get?_push_size _ rfl, rfl, rfl⟩, (hl1.push _)⟩ (fun b o e => Heap.get?_push_of_some _ (Heap.get?_push_of_some _ e)) ?hS0 ?hR
        case hS0 =>
          refine ⟨[], #[], 0, _, setG_new ?_, ⟨fun p hp => (by cases hp), fun j p hj => absurd hj (Nat.not_lt_zero _), Nat.le_refl _⟩⟩
          exact Heap.get?_push_of_some _ hS
        case hR =>
          intro s' L es ep t hm hS' g' hkp
          obtain ⟨h', g2, d', tk', os'⟩ := s'
          have eg : g2 = s.gens := hm.gens
          have ed : d' = s.drawn := hm.drawn
          have eo : os' = s.os := hm.os
          subst eg; subst ed; subst eo
          show wpAny _ _ _ _ _ _
          refine wpAny_pure ?_
          show wpAny _ _ (ret Value.none) _ _ _
          rw [hisz] at g'
          exact wpAny_pure ⟨rfl, h', tk', L, es, ep, t, rfl, hS', g', hkp⟩
      · cases r₂ with
        | error e => exact hr₂
        | ok fl₂ =>
          cases fl₂ with
          | ret r =>
            obtain ⟨rfl, h', tk, L, es, ep, t, rfl, hS', g', hk'⟩ := hr₂
            repeat (any_goals (first | assumption | wp_step))
            exact h _ _ _ _ _ _ hS' g' hk'
          | _ => exact hr₂.elim
    | _ => exact hr.elim
end
end Ms

set_option Elab.async false
set_option linter.all false
set_option maxRecDepth 100000
set_option maxHeartbeats 4000000
/-! MS4: len(set(xs)) and sorted(set(xs)) as expressions of the plain layer. -/
namespace Ms
open PySem PySem.Spec PyProof.Rows L2

mutual
theorem reads_key {h : Heap} : ∀ (k : NestedKey) (v : Value) (as : List Addr), Reads h v k.data as → NestedIs h k v
  | .none, _, _, r => by simp only [NestedKey.data] at r; cases r; exact .none
  | .num i, _, _, r => by simp only [NestedKey.data] at r; cases r; exact .int _ _
  | .text x, _, _, r => by simp only [NestedKey.data] at r; cases r; exact .text _ _
  | .tup ks, _, _, r => by
    simp only [NestedKey.data] at r
    cases r with
    | tuple h1 h2 h3 h4 => exact .tup h1 h2 h3 (reads_keys ks _ _ h4)
theorem reads_keys {h : Heap} : ∀ (ks : List NestedKey) (vs : List Value) (as : List Addr), ReadsAll h vs (NestedKey.datas ks) as → NestedAll h ks vs
  | [], _, _, r => by simp only [NestedKey.datas] at r; cases r; exact .nil
  | k :: ks, _, _, r => by
    simp only [NestedKey.datas] at r
    cases r with
    | cons r1 r2 => exact .cons (reads_key k _ _ r1) (reads_keys ks _ _ r2)
end
theorem perm_map_ex {α β : Type} {f : α → β} {u v : List β} (p : u.Perm v) : ∀ L : List α, v = L.map f → ∃ L1 : List α, L1.Perm L ∧ u = L1.map f := by
  induction p with
  | nil =>
    intro L e
    cases L with
    | nil => exact ⟨[], List.Perm.refl _, rfl⟩
    | cons a l => cases e
  | cons x p ih =>
    intro L e
    cases L with
    | nil => cases e
    | cons a l =>
      rw [List.map_cons] at e
      injection e with e1 e2
      obtain ⟨L1, q1, q2⟩ := ih l e2
      exact ⟨a :: L1, q1.cons a, by rw [List.map_cons, q2, e1]⟩
  | swap x y l =>
    intro L e
    cases L with
    | nil => cases e
    | cons a L =>
      cases L with
      | nil => cases e
      | cons b L =>
        rw [List.map_cons, List.map_cons] at e
        injection e with e1 e2
        injection e2 with e2 e3
        exact ⟨b :: a :: L, List.Perm.swap a b L, by rw [List.map_cons, List.map_cons, ← e1, ← e2, ← e3]⟩
  | trans p q ih1 ih2 =>
    intro L e
    obtain ⟨L2, a1, a2⟩ := ih2 L e
    obtain ⟨L1, b1, b2⟩ := ih1 L2 a2
    exact ⟨L1, b1.trans a1, b2⟩

/-! ### pairs -/
abbrev Pr := Int × Int
def pk (p : Pr) : NestedKey := .tup [.num p.1, .num p.2]
def kp : NestedKey → Pr
  | .tup [.num a, .num b] => (a, b)
  | _ => (0, 0)
@[simp] theorem kp_pk (p : Pr) : kp (pk p) = p := rfl
theorem pk_inj {p q : Pr} (h : pk p = pk q) : p = q := by rw [← kp_pk p, h, kp_pk]
def leP (p q : Pr) : Bool := decide (p.1 < q.1 ∨ (p.1 = q.1 ∧ p.2 ≤ q.2))
def ltP (p q : Pr) : Bool := decide (p.1 < q.1 ∨ (p.1 = q.1 ∧ p.2 < q.2))
/-- p put in, in order, once -/
def insP (p : Pr) : List Pr → List Pr
  | [] => [p]
  | q :: r => if ltP p q = true then p :: q :: r else if p = q then q :: r else q :: insP p r
/-- sorted(set(ps)) -/
def srtP (ps : List Pr) : List Pr := ps.foldr insP []
theorem mem_insP {p x : Pr} : ∀ {l : List Pr}, x ∈ insP p l ↔ x = p ∨ x ∈ l
  | [] => by simp [insP]
  | q :: r => by
    unfold insP
    split
    · simp
    · split
      · rename_i _ h; subst h; simp
      · rw [List.mem_cons, mem_insP, List.mem_cons]
        constructor
        · rintro (h | h | h)
          · exact .inr (.inl h)
          · exact .inl h
          · exact .inr (.inr h)
        · rintro (h | h | h)
          · exact .inr (.inl h)
          · exact .inl h
          · exact .inr (.inr h)
theorem mem_srtP {x : Pr} : ∀ {ps : List Pr}, x ∈ srtP ps ↔ x ∈ ps
  | [] => by simp [srtP]
  | p :: ps => by
    show x ∈ insP p (srtP ps) ↔ _
    rw [mem_insP, mem_srtP, List.mem_cons]
theorem ltP_trans {p q r : Pr} (h1 : ltP p q = true) (h2 : ltP q r = true) : ltP p r = true := by
  unfold ltP at *
  simp only [decide_eq_true_eq] at *
  omega
theorem ltP_irr {p : Pr} : ltP p p = false := by
  unfold ltP
  apply decide_eq_false
  omega
theorem ltP_tri {p q : Pr} (h : ltP p q = false) (ne : p ≠ q) : ltP q p = true := by
  obtain ⟨a, b⟩ := p
  obtain ⟨c, d⟩ := q
  unfold ltP at *
  simp only [decide_eq_false_iff_not, decide_eq_true_eq] at *
  have : ¬ (a = c ∧ b = d) := fun e => ne (by rw [e.1, e.2])
  omega
theorem sorted_insP {p : Pr} : ∀ {l : List Pr}, l.Pairwise (fun a b => ltP a b = true) → (insP p l).Pairwise (fun a b => ltP a b = true)
  | [], _ => by simp [insP]
  | q :: r, h => by
    obtain ⟨h1, h2⟩ := List.pairwise_cons.mp h
    unfold insP
    split
    · rename_i c
      refine List.pairwise_cons.mpr ⟨fun x hx => ?_, h⟩
      rcases List.mem_cons.mp hx with e | hx
      · rw [e]; exact c
      · exact ltP_trans c (h1 x hx)
    · split
      · exact h
      · rename_i c1 c2
        refine List.pairwise_cons.mpr ⟨fun x hx => ?_, sorted_insP h2⟩
        rcases mem_insP.mp hx with e | hx
        · rw [e]; exact ltP_tri (by simpa using c1) c2
        · exact h1 x hx
theorem sorted_srtP : ∀ ps : List Pr, (srtP ps).Pairwise (fun a b => ltP a b = true)
  | [] => .nil
  | p :: ps => sorted_insP (sorted_srtP ps)
/-- what is strictly sorted is told by its members -/
theorem sorted_uniq : ∀ (l m : List Pr), l.Pairwise (fun a b => ltP a b = true) → m.Pairwise (fun a b => ltP a b = true) → (∀ x, x ∈ l ↔ x ∈ m) → l = m
  | [], [], _, _, _ => rfl
  | [], q :: m, _, _, h => absurd ((h q).mpr List.mem_cons_self) (by simp)
  | p :: l, [], _, _, h => absurd ((h p).mp List.mem_cons_self) (by simp)
  | p :: l, q :: m, hl, hm, h => by
    obtain ⟨l1, l2⟩ := List.pairwise_cons.mp hl
    obtain ⟨m1, m2⟩ := List.pairwise_cons.mp hm
    have e : p = q := by
      rcases List.mem_cons.mp ((h p).mp List.mem_cons_self) with e | h1
      · exact e
      · rcases List.mem_cons.mp ((h q).mpr List.mem_cons_self) with e | h2
        · exact e.symm
        · have a := ltP_trans (m1 p h1) (l1 q h2)
          rw [ltP_irr] at a
          cases a
    subst e
    refine congrArg (p :: ·) (sorted_uniq l m l2 m2 fun x => ⟨fun hx => ?_, fun hx => ?_⟩)
    · rcases List.mem_cons.mp ((h x).mp (List.mem_cons_of_mem _ hx)) with e | h1
      · subst e; have a := l1 x hx; rw [ltP_irr] at a; cases a
      · exact h1
    · rcases List.mem_cons.mp ((h x).mpr (List.mem_cons_of_mem _ hx)) with e | h1
      · subst e; have a := m1 x hx; rw [ltP_irr] at a; cases a
      · exact h1
theorem strict_of {l : List Pr} (h : l.Pairwise (fun a b => leP a b = true)) (nd : l.Nodup) : l.Pairwise (fun a b => ltP a b = true) := by
  refine (List.Pairwise.and h nd).imp fun {a b} ⟨h1, h2⟩ => ?_
  obtain ⟨x, y⟩ := a
  obtain ⟨z, t⟩ := b
  unfold leP at h1
  unfold ltP
  simp only [decide_eq_true_eq] at *
  have : ¬ (x = z ∧ y = t) := fun e => h2 (by rw [e.1, e.2])
  omega

section
variable {P : Program} {w : World} {A : Around} {E : Value → Shared → Prop} {s : Shared} {a : Addr} {L : List (Addr × NestedKey)} {es : Array (Int × Value)} {ep : Nat} {t : SetTable}
abbrev pd (p : Pr) : PyData := .tuple [.int p.1, .int p.2]
theorem reads_ii {h : Heap} {l : List Value} {x y : Int} {as : List Addr} (r : ReadsAll h l [.int x, .int y] as) : ReadsAll h l [.int x, .int y] [] := by
  cases r with
  | cons r1 r2 =>
    cases r1
    cases r2 with
    | cons r3 r4 => cases r3; cases r4; exact .cons (.int _ _) (.cons (.int _ _) .nil)
theorem reads_pd {h : Heap} {v : Value} {p : Pr} {as : List Addr} (r : Reads h v (pd p) as) : Reads h v (pd p) [] := by
  cases r with
  | tuple h1 h2 h3 h4 => exact .tuple h1 h2 h3 (reads_ii h4)
/-- sorted(s), s a set of pairs -/
theorem sorted_pairs {Q : Value → Shared → Prop} (R : SetG w s.heap a L es ep t) (hh : A.handled = none) (hq : ∀ q ∈ L, q.2 = pk (kp q.2)) (rd : ∀ q ∈ L, Reads s.heap (.ref q.1) (pd (kp q.2)) []) (hu : A.units + 8 < cLine)
    (hQ : ∀ s' p (out : Array Value) (c : Nat) (L' : List (Addr × NestedKey)), (∀ b o, s.heap.get? b = some o → s'.heap.get? b = some o) → s'.gens = s.gens → s'.os = s.os → s.heap.objs.size ≤ p →
      s'.heap.get? p = some (seqObj "list" out c) → out.toList = L'.map (fun q => Value.ref q.1) → L'.Perm L → (L'.map fun q => kp q.2) = srtP (L.map fun q => kp q.2) → Q (.ref p) s') :
    wpAny (model P w) A (call (.builtin "sorted") [.ref a]) Q E s := by
  obtain ⟨o, ho, hex, hd⟩ := R.ob
  have hfew := R.few
  refine Calls.call_function_entry kind_sorted plain_sorted entry_sorted (args_sorted1 _) ?_
  unfold Builtin.«sorted»
  refine wpAny_bind (m := checkCount "sorted" 1 1 _) (wpAny_pure ?_)
  refine wpAny_bind (collect_set (A := A.in1) hh ⟨o, ho, hex.1, hd⟩ R.fits (by rw [R.size]; unfold scanBound; omega) R.tab.ris R.led fun s1 vs k1 hz g1 o1 pm => ?_)
  have hes : es.toList.map (·.2) = L.map fun q => Value.ref q.1 := by rw [R.rows, List.map_map]; rfl
  rw [hes] at pm
  obtain ⟨L1, pL, rfl⟩ := perm_map_ex pm L rfl
  have hlen : L1.length = L.length := pL.length_eq
  refine wpAny_bind (wpAny_newList ?_ (by rw [List.length_map, sizeLine_eq]; omega))
  have hoL : (s1.heap.push (seqObj "list" (L1.map fun q => Value.ref q.1).toArray 0)).get? s1.heap.objs.size = some (seqObj "list" (L1.map fun q => Value.ref q.1).toArray 0) := Heap.get?_push_size _ rfl
  have keep : ∀ b u, s.heap.get? b = some u → (s1.heap.push (seqObj "list" (L1.map fun q => Value.ref q.1).toArray 0)).get? b = some u := fun b u e => Heap.get?_push_of_some _ (k1 b u e)
  have each : ∀ l : List (Addr × NestedKey), (∀ q ∈ l, q ∈ L) → PySem.W.EachIs (fun v b => ∃ as, Reads (s1.heap.push (seqObj "list" (L1.map fun q => Value.ref q.1).toArray 0)) v (pd (kp b.2)) as ∧ s1.heap.objs.size ∉ as) (l.map fun q => Value.ref q.1) l := by
    intro l
    induction l with
    | nil => intro _; exact .nil
    | cons q l ih =>
      intro h
      exact .cons ⟨[], Reads.keeps keep (rd q (h q List.mem_cons_self)), by simp⟩ (ih fun r hr => h r (List.mem_cons_of_mem _ hr))
  have each0 : ∀ l : List (Addr × NestedKey), PySem.W.EachIs (fun v b => v = Value.ref b.1) (l.map fun q => Value.ref q.1) l := by
    intro l
    induction l with
    | nil => exact .nil
    | cons q l ih => exact .cons rfl ih
  refine wpAny_bind (wpAny_holding (PySem.W.list_sort_data (s := { s1 with heap := s1.heap.push (seqObj "list" (L1.map fun q => Value.ref q.1).toArray 0) }) (enc := fun b : Addr × NestedKey => pd (kp b.2)) (bs := L1) hoL (each0 L1) (each L1 fun q hq => pL.mem_iff.mp hq)
    (PySem.W.AllAlike.of fun b b' => rfl) (PySem.W.Sortable.tuples fun b => ⟨_, _, rfl⟩) (by rw [hlen, sizeLine_eq]; omega) (fun b _ => by simp only [pd, PyData.depth, PyData.depthAll, Around.in1_units]; omega) fun out hol heach => ?_))
  obtain ⟨c, hc⟩ := sortedHeap_at (vs := L1.map fun q => Value.ref q.1) (out := out.toArray) hoL
  have eout : ∀ (out : List Value) (l : List (Addr × NestedKey)), PySem.W.EachIs (fun v b => v = Value.ref b.1) out l → out = l.map fun q => Value.ref q.1 := by
    intro out l h
    induction h with
    | nil => rfl
    | cons h1 _ ih => rw [h1, ih]; rfl
  have e' := eout _ _ heach
  have pm2 : (L1.mergeSort (PySem.W.dataLe false fun b : Addr × NestedKey => pd (kp b.2))).Perm L1 := List.mergeSort_perm _ _
  have ple : (PySem.W.dataLe false fun b : Addr × NestedKey => pd (kp b.2)) = fun p q => leP (kp p.2) (kp q.2) := PySem.W.dataLe_ii (fun b : Addr × NestedKey => (kp b.2).1) fun b => (kp b.2).2
  have srt : (L1.mergeSort (PySem.W.dataLe false fun b : Addr × NestedKey => pd (kp b.2))).Pairwise fun p q => leP (kp p.2) (kp q.2) = true := by
    rw [ple]
    refine List.pairwise_mergeSort (fun a b c h1 h2 => ?_) (fun a b => ?_) L1
    · unfold leP at *; simp only [decide_eq_true_eq] at *; omega
    · unfold leP; simp only [Bool.or_eq_true, decide_eq_true_eq]; omega
  generalize L1.mergeSort (PySem.W.dataLe false fun b : Addr × NestedKey => pd (kp b.2)) = L' at e' pm2 srt
  have pL' := pm2.trans pL
  have nd : (L'.map fun q => kp q.2).Nodup := by
    have n1 : (L'.map (·.2)).Nodup := (pL'.map (·.2)).nodup_iff.mpr R.nd
    have n2 : (L'.map fun q => pk (kp q.2)).Nodup := by
      rw [List.map_congr_left (g := (·.2)) fun q h' => ((hq q (pL'.mem_iff.mp h')).symm : pk (kp q.2) = q.2)]
      exact n1
    have e3 : (L'.map fun q => pk (kp q.2)) = (L'.map fun q => kp q.2).map pk := by rw [List.map_map]; rfl
    rw [e3] at n2
    exact nodup_of_map n2
  refine wpAny_pure ⟨_, rfl, hQ _ s1.heap.objs.size out.toArray c L' (fun b u e => ?_) g1 o1 hz hc (by rw [← e']) pL' ?_⟩
  · have q := k1 b u e
    have hlt := Heap.lt_size q
    show (sortedHeap (s1.heap.push (seqObj "list" (L1.map fun q => Value.ref q.1).toArray 0)) s1.heap.objs.size (L1.map fun q => Value.ref q.1) out.toArray).get? b = some u
    rw [sortedHeap_old (Nat.ne_of_lt hlt) (by rw [size_push']; exact Nat.lt_succ_of_lt hlt)]
    exact Heap.get?_push_of_some _ q
  · refine sorted_uniq _ _ (strict_of (List.pairwise_map.mpr srt) nd) (sorted_srtP _) fun x => ?_
    rw [mem_srtP, (pL'.map fun q => kp q.2).mem_iff]
end
end Ms

set_option Elab.async false
set_option linter.all false
set_option maxRecDepth 100000
set_option maxHeartbeats 4000000
/-! MS5: len(set(xs)) and sorted(set(xs)) in the plain layer. -/
namespace Mn
open PySem PySem.Spec PyProof.Rows L2 Ms

mutual
def toK : Val → Option NestedKey
  | .non => some .none
  | .int i => some (.num i)
  | .str x => some (.text x)
  | .tup l => (toKs l).map .tup
  | _ => none
def toKs : List Val → Option (List NestedKey)
  | [] => some []
  | v :: r => match toK v, toKs r with
    | some k, some ks => some (k :: ks)
    | _, _ => none
end
/-- a tuple that is a key -/
def keyT : Val → Option NestedKey
  | .tup l => match toKs l with
    | some ks => if NestedKey.depthAll ks ≤ 7 then some (.tup ks) else none
    | none => none
  | _ => none
def keyTs : List Val → Option (List NestedKey)
  | [] => some []
  | v :: r => match keyT v, keyTs r with
    | some k, some ks => some (k :: ks)
    | _, _ => none
/-- each once -/
def dst : List NestedKey → List NestedKey
  | [] => []
  | k :: r => if k ∈ dst r then dst r else k :: dst r
def gLenSet (v : Val) (t : Sto) : Option (Val × Sto) := match v with
  | .ref n => match t[n]? with
    | some (.lst xs) => match keyTs xs with
      | some ks => if ks.length ≤ 306 then some (.int (dst ks).length, t) else none
      | none => none
    | _ => none
  | _ => none
def mLenSet (m : E) : E := fun sl t => (m sl t).bind fun v t1 => ofO (gLenSet v t1)
def asPr : Val → Option Pr
  | .tup [.int a, .int b] => some (a, b)
  | _ => none
def asPrs : List Val → Option (List Pr)
  | [] => some []
  | v :: r => match asPr v, asPrs r with
    | some p, some ps => some (p :: ps)
    | _, _ => none
def pv (p : Pr) : Val := .tup [.int p.1, .int p.2]
def gSrtSet (v : Val) (t : Sto) : Option (Val × Sto) := match v with
  | .ref n => match t[n]? with
    | some (.lst xs) => match asPrs xs with
      | some ps => if ps.length ≤ 306 then some (.ref t.length, t ++ [.lst ((srtP ps).map pv)]) else none
      | none => none
    | _ => none
  | _ => none
def mSrtSet (m : E) : E := fun sl t => (m sl t).bind fun v t1 => ofO (gSrtSet v t1)

theorem mem_dst {x : NestedKey} : ∀ {ks : List NestedKey}, x ∈ dst ks ↔ x ∈ ks
  | [] => by simp [dst]
  | k :: r => by
    unfold dst
    split
    · rename_i h
      rw [mem_dst, List.mem_cons]
      exact ⟨.inr, fun z => z.elim (fun e => e ▸ mem_dst.mp h) id⟩
    · rw [List.mem_cons, List.mem_cons, mem_dst]
theorem nodup_dst : ∀ ks : List NestedKey, (dst ks).Nodup
  | [] => List.nodup_nil
  | k :: r => by
    unfold dst
    split
    · exact nodup_dst r
    · rename_i h
      exact List.nodup_cons.mpr ⟨h, nodup_dst r⟩
theorem dst_nodup : ∀ {ks : List NestedKey}, ks.Nodup → dst ks = ks
  | [], _ => rfl
  | k :: r, h => by
    obtain ⟨h1, h2⟩ := List.nodup_cons.mp h
    have e := dst_nodup h2
    unfold dst
    rw [e, if_neg h1]

section
variable {K : PySem.W.Frag} {cn : Cn} {ρ : List Addr} {t : Sto} {H : Hp}
mutual
theorem toK_dp : ∀ (v : Val) (x : V) (k : NestedKey), RV K H ρ v x → toK v = some k → Dp K H x k.data
  | .non, _, k, .non, h => by simp only [toK] at h; cases h; exact .non
  | .bl b, _, k, .bl _, h => by simp [toK] at h
  | .int i, _, k, .int _, h => by simp only [toK] at h; cases h; exact .int i
  | .str x, _, k, .str _ ok, h => by simp only [toK] at h; cases h; exact .str x
  | .tup l, _, k, .tup hs r, h => by
    simp only [toK] at h
    obtain ⟨ks, e, rfl⟩ := Option.map_eq_some_iff.mp h
    exact .tup (SqT.of hs) (toKs_dp l _ ks r e)
  | .con l, _, k, .con hs r, h => by simp [toK] at h
  | .ref n, _, k, .ref hn, h => by simp [toK] at h
theorem toKs_dp : ∀ (vs : List Val) (xs : List V) (ks : List NestedKey), RVs K H ρ vs xs → toKs vs = some ks → DpAll K H xs (NestedKey.datas ks)
  | [], _, ks, .nil, h => by simp only [toKs] at h; cases h; exact .nil
  | v :: vs, _, ks, .cons r q, h => by
    simp only [toKs] at h
    split at h
    · rename_i k ks' e1 e2
      cases h
      exact .cons (toK_dp v _ k r e1) (toKs_dp vs _ ks' q e2)
    · cases h
end
theorem keyT_dp {v : Val} {x : V} {k : NestedKey} (r : RV K H ρ v x) (h : keyT v = some k) : (∃ a, x = .ref a) ∧ Dp K H x k.data ∧ k.depth ≤ 8 := by
  unfold keyT at h
  split at h
  · split at h
    · rename_i l _ ks e
      split at h
      · rename_i hz
        cases h
        refine ⟨?_, toK_dp (.tup l) x _ r (by simp only [toK, e, Option.map_some]), by simp only [NestedKey.depth]; omega⟩
        cases r with
        | tup _ _ => exact ⟨_, rfl⟩
      · cases h
    · cases h
  · cases h
theorem keyTs_dp : ∀ {vs : List Val} {xs : List V} {ks : List NestedKey}, RVs K H ρ vs xs → keyTs vs = some ks → ∃ L : List (Addr × NestedKey), xs = L.map (fun p => V.ref p.1) ∧ L.map (·.2) = ks ∧ ∀ p ∈ L, Dp K H (.ref p.1) p.2.data ∧ p.2.depth ≤ 8
  | [], _, ks, .nil, h => by simp only [keyTs] at h; cases h; exact ⟨[], rfl, rfl, fun p hp => nomatch hp⟩
  | v :: vs, _, ks, .cons r q, h => by
    simp only [keyTs] at h
    split at h
    · rename_i k ks' e1 e2
      cases h
      obtain ⟨⟨a, rfl⟩, h2, h3⟩ := keyT_dp r e1
      obtain ⟨L, rfl, g2, g3⟩ := keyTs_dp q e2
      refine ⟨(a, k) :: L, rfl, by rw [List.map_cons, g2], fun p hp => ?_⟩
      rcases List.mem_cons.mp hp with e | hp
      · subst e; exact ⟨h2, h3⟩
      · exact g3 p hp
    · cases h
theorem asPr_key {v : Val} {p : Pr} (h : asPr v = some p) : v = pv p ∧ keyT v = some (pk p) := by
  unfold asPr at h
  split at h
  · cases h; exact ⟨rfl, rfl⟩
  · cases h
theorem asPrs_key : ∀ {vs : List Val} {ps : List Pr}, asPrs vs = some ps → vs = ps.map pv ∧ keyTs vs = some (ps.map pk)
  | [], ps, h => by simp only [asPrs] at h; cases h; exact ⟨rfl, rfl⟩
  | v :: vs, ps, h => by
    simp only [asPrs] at h
    split at h
    · rename_i p ps' e1 e2
      cases h
      obtain ⟨a1, a2⟩ := asPr_key e1
      obtain ⟨b1, b2⟩ := asPrs_key e2
      exact ⟨by rw [a1, b1]; rfl, by simp only [keyTs, a2, b2, List.map_cons]⟩
    · cases h
@[simp] theorem asPrs_map (ps : List Pr) : asPrs (ps.map pv) = some ps := by
  induction ps with
  | nil => rfl
  | cons p ps ih => simp only [List.map_cons, asPrs, ih]; rfl
/-- the pairs' values from the addresses -/
theorem rvs_pairs {vs : List Val} {xs : List V} (r : RVs K H ρ vs xs) : ∀ (L : List (Addr × NestedKey)), xs = L.map (fun p => V.ref p.1) → ∀ ps : List Pr, vs = ps.map pv → L.map (·.2) = ps.map pk → ∀ q ∈ L, RV K H ρ (pv (kp q.2)) (.ref q.1) := by
  induction r using RVs.rec (motive_1 := fun _ _ _ => True) with
  | nil =>
    intro L e ps _ _ q hq
    cases L with
    | nil => cases hq
    | cons _ _ => cases e
  | cons r q _ ih =>
    intro L e ps e1 e2 z hz
    cases L with
    | nil => cases e
    | cons x L =>
      cases ps with
      | nil => cases e1
      | cons p ps =>
        rw [List.map_cons] at e e1
        rw [List.map_cons, List.map_cons] at e2
        injection e with e3 e4
        injection e1 with e5 e6
        injection e2 with e7 e8
        rcases List.mem_cons.mp hz with f | f
        · subst f; rw [e7, kp_pk, ← e5, ← e3]; exact r
        · exact ih L e4 ps e6 e8 z f
  | _ => trivial
theorem rvs_of : ∀ (L : List (Addr × NestedKey)), (∀ q ∈ L, RV K H ρ (pv (kp q.2)) (.ref q.1)) → RVs K H ρ ((L.map fun q => kp q.2).map pv) (L.map fun q => V.ref q.1)
  | [], _ => .nil
  | q :: L, h => .cons (h q List.mem_cons_self) (rvs_of L fun z hz => h z (List.mem_cons_of_mem _ hz))
end

section
variable {X : Cx} {cn : Cn} {W : WX} {a : Expr} {m : E} {p p2 q pos : Pos}
theorem ks_len {L L' : List (Addr × NestedKey)} (nd : (L.map (·.2)).Nodup) (sub : ∀ p ∈ L, p ∈ L') (all : ∀ p ∈ L', p.2 ∈ L.map (·.2)) : L.length = (dst (L'.map (·.2))).length := by
  have pm : (L.map (·.2)).Perm (dst (L'.map (·.2))) := (List.perm_ext_iff_of_nodup nd (nodup_dst _)).mpr fun k => by
    rw [mem_dst]
    constructor
    · intro h
      obtain ⟨p, hp, e⟩ := List.mem_map.mp h
      exact List.mem_map.mpr ⟨p, sub p hp, e⟩
    · intro h
      obtain ⟨p, hp, e⟩ := List.mem_map.mp h
      rw [← e]; exact all p hp
  rw [← pm.length_eq, List.length_map]
theorem is_keys {pins : List (Addr × Obj)} {σ : L2.St} {H : Hp} {s : Shared} (I : L2.Inv X pins σ H s) {L : List (Addr × NestedKey)} (h : ∀ p ∈ L, Dp X.K H (.ref p.1) p.2.data ∧ p.2.depth ≤ 8) : ∀ p ∈ L, IsN s.heap p := fun p hp => by
  obtain ⟨h1, h2⟩ := h p hp
  obtain ⟨as, r⟩ := Dp.reads I _ _ (.ref p.1) h1 rfl
  exact ⟨reads_key _ _ _ r, h2⟩
theorem brought_all {ks L : List (Addr × NestedKey)} (g : Brought ks ks.length L) : ∀ p ∈ ks, p.2 ∈ L.map (·.2) := fun p hp => by
  obtain ⟨j, hj, e⟩ := List.getElem_of_mem hp
  exact g.all j p hj (by rw [List.getElem?_eq_getElem hj, e])
theorem refsV : ∀ {ks : List (Addr × NestedKey)} {us : List Value}, Vals (ks.map fun p => V.ref p.1) us → us = ks.map fun p => Value.ref p.1
  | [], _, .nil => rfl
  | _ :: _, _, .cons r t => by
    cases r
    rw [refsV t]; rfl
theorem me_lenset (hc : X.calm = true) (hu : X.A.units + 64 < cLine) (hg : Gl X "len") (hm : X.mg "len" = none) (hg2 : Gl X "set") (hm2 : X.mg "set" = none) (ha : PE X a (tE X.K cn W m))
    (na : starEach [a] X.env = (false, eval a X.env) :: starEach [] X.env := by rfl) : PE X (.Call (.Name "len" p) [.Call (.Name "set" p2) [a] [] q] [] pos) (tE X.K cn W (mLenSet m)) := by
  refine ⟨fun pins s σ H Q I h => ?_⟩
  obtain ⟨ρ, sl, t, rel, rs, h⟩ := h
  have h' : tE X.K cn W m σ H fun x H1 => ∃ (l : Addr) (xs : List V) (L : List (Addr × NestedKey)), x = .ref l ∧ H1 l = some (.lst xs) ∧ xs = L.map (fun p => V.ref p.1) ∧ (∀ p ∈ L, Dp X.K H1 (.ref p.1) p.2.data ∧ p.2.depth ≤ 8) ∧ L.length ≤ 306 ∧ Q (.int (dst (L.map (·.2))).length) H1 := by
    refine ⟨ρ, sl, t, rel, rs, okG.bind h fun v t1 ρ1 H1 x e1 r1 rv h1 => ?_⟩
    unfold gLenSet at h1
    split at h1
    · split at h1
      · rename_i n _ xs hx
        split at h1
        · rename_i ks hk
          split at h1
          · rename_i hz
            cases rv with | ref hn => ?_
            obtain ⟨ys, eH, ry⟩ := r1.sqL hn hx
            obtain ⟨L, g1, g2, g3⟩ := keyTs_dp ry hk
            have hl : L.length = ks.length := by rw [← g2, List.length_map]
            exact ⟨_, ys, L, rfl, eH, g1, g3, by omega, by rw [g2]; exact h1 ρ1 H1 _ (Ext.refl _ _ _) r1 (.int _)⟩
          · exact h1.elim
        · exact h1.elim
      · exact h1.elim
    · exact h1.elim
  refine Call_ (ld_blt I hg hm PySem.boot_len ?_)
  refine PyProof.Rows.callWith_builtin1 (PyProof.Rows.args_cons ?_ rfl) rfl rfl
  refine Call_ (ld_blt I hg2 hm2 PyProof.Rows.boot_set ?_)
  refine PyProof.Rows.callWith_type1 (PyProof.Rows.args_cons (thn (ha.run pins s σ H _ I h') fun v s1 ⟨x, H1, I1, r1, q1⟩ => PyProof.Rows.args_nil ?_) na) na rfl
  obtain ⟨l, xs, L, rfl, eH, g1, g3, hz, q1⟩ := q1
  cases r1
  obtain ⟨its, r, pl, hz2⟩ := I1.list (SqL.of eH)
  refine Ms.call_set L (I1.ok.hd hc) pl.isList (by rw [g1] at r; simpa using refsV r) (is_keys I1 g3) (by omega) (by omega) fun h' tk LL es ep st R g k => ?_
  refine PyProof.Rows.args_nil ?_
  obtain ⟨o, ho, hex, hd⟩ := id R.ob
  have I2 : L2.Inv X pins σ H1 { s1 with heap := h', toks := tk } := I1.kept k
  have hlen := ks_len R.nd g.sub (brought_all g)
  have hfew := R.few
  refine call_len_set ho hex hd R.fits (by rw [R.size]; omega) ⟨.int (dst (L.map (·.2))).length, H1, I2.tok _, ⟨_, by rw [R.size, hlen]⟩, q1⟩
theorem vals_refs : ∀ (L : List (Addr × NestedKey)), Vals (L.map fun p => V.ref p.1) (L.map fun p => Value.ref p.1)
  | [] => .nil
  | p :: L => .cons rfl (vals_refs L)
theorem me_srtset (hc : X.calm = true) (hu : X.A.units + 64 < cLine) (hg : Gl X "sorted") (hm : X.mg "sorted" = none) (hg2 : Gl X "set") (hm2 : X.mg "set" = none) (ha : PE X a (tE X.K cn W m))
    (na : starEach [a] X.env = (false, eval a X.env) :: starEach [] X.env := by rfl) : PE X (.Call (.Name "sorted" p) [.Call (.Name "set" p2) [a] [] q] [] pos) (tE X.K cn W (mSrtSet m)) := by
  refine ⟨fun pins s σ H Q I h => ?_⟩
  obtain ⟨ρ, sl, t, rel, rs, h⟩ := h
  have h' : tE X.K cn W m σ H fun x H1 => ∃ (l : Addr) (xs : List V) (L : List (Addr × NestedKey)), x = .ref l ∧ H1 l = some (.lst xs) ∧ xs = L.map (fun p => V.ref p.1) ∧ (∀ p ∈ L, Dp X.K H1 (.ref p.1) p.2.data ∧ p.2.depth ≤ 8) ∧ (∀ p ∈ L, p.2 = pk (kp p.2)) ∧ L.length ≤ 306 ∧
      ∀ (L' : List (Addr × NestedKey)) p, (∀ q ∈ L', q ∈ L) → (L'.map fun q => kp q.2) = srtP (L.map fun q => kp q.2) → H1 p = none → Q (.ref p) (upd H1 p (.lst (L'.map fun q => V.ref q.1))) := by
    refine ⟨ρ, sl, t, rel, rs, okG.bind h fun v t1 ρ1 H1 x e1 r1 rv h1 => ?_⟩
    unfold gSrtSet at h1
    split at h1
    · split at h1
      · rename_i n _ xs hx
        split at h1
        · rename_i ps hp
          split at h1
          · rename_i hz
            cases rv with | ref hn => ?_
            obtain ⟨ys, eH, ry⟩ := r1.sqL hn hx
            obtain ⟨f1, f2⟩ := asPrs_key hp
            obtain ⟨L, g1, g2, g3⟩ := keyTs_dp ry f2
            have hl : L.length = ps.length := by rw [← List.length_map (f := (·.2)), g2, List.length_map]
            have hpk : ∀ p ∈ L, p.2 = pk (kp p.2) := fun p hp => by
              have z : p.2 ∈ ps.map pk := by rw [← g2]; exact List.mem_map.mpr ⟨p, hp, rfl⟩
              obtain ⟨y, _, e⟩ := List.mem_map.mp z
              rw [← e, kp_pk]
            have hkp : (L.map fun q => kp q.2) = ps := by
              have z := congrArg (List.map kp) g2
              rw [List.map_map, List.map_map] at z
              have z2 : ps.map (kp ∘ pk) = ps := by
                rw [show kp ∘ pk = id from rfl, List.map_id]
              rw [z2] at z
              exact z
            refine ⟨_, ys, L, rfl, eH, g1, g3, hpk, by omega, fun L' p hs he hp => ?_⟩
            rw [hkp] at he
            have each := rvs_pairs ry L g1 ps f1 g2
            refine h1 _ _ _ (ext_alloc hp) (r1.alloc hp (show RVs _ _ _ ((srtP ps).map pv) _ from ?_)) (alloc_ref r1)
            rw [← he]
            exact rvs_of L' fun q hq => each q (hs q hq)
          · exact h1.elim
        · exact h1.elim
      · exact h1.elim
    · exact h1.elim
  refine Call_ (ld_blt I hg hm PyProof.Rows.boot_sorted ?_)
  refine PyProof.Rows.callWith_builtin1 (PyProof.Rows.args_cons ?_ rfl) rfl rfl
  refine Call_ (ld_blt I hg2 hm2 PyProof.Rows.boot_set ?_)
  refine PyProof.Rows.callWith_type1 (PyProof.Rows.args_cons (thn (ha.run pins s σ H _ I h') fun v s1 ⟨x, H1, I1, r1, q1⟩ => PyProof.Rows.args_nil ?_) na) na rfl
  obtain ⟨l, xs, L, rfl, eH, g1, g3, hpk, hz, q1⟩ := q1
  cases r1
  obtain ⟨its, r, pl, hz2⟩ := I1.list (SqL.of eH)
  refine Ms.call_set L (I1.ok.hd hc) pl.isList (by rw [g1] at r; simpa using refsV r) (is_keys I1 g3) (by omega) (by omega) fun h' tk LL es ep st R g k => ?_
  refine PyProof.Rows.args_nil ?_
  have I2 : L2.Inv X pins σ H1 { s1 with heap := h', toks := tk } := I1.kept k
  have rd : ∀ q ∈ LL, Reads h' (.ref q.1) (pd (kp q.2)) [] := fun q hq => by
    obtain ⟨as, z⟩ := Dp.reads I2 _ _ (.ref q.1) (g3 q (g.sub q hq)).1 rfl
    rw [hpk q (g.sub q hq)] at z
    exact reads_pd z
  refine sorted_pairs R (I1.ok.hd hc) (fun q hq => hpk q (g.sub q hq)) rd (by omega) fun s' p out c L3 kk gg oo hp hget hout pm he => ?_
  have hn : H1 p = none := I2.hok.fresh hp
  have hlen : (L3.map fun q => V.ref q.1).length ≤ sizeLine := by
    have := R.few
    rw [List.length_map, pm.length_eq, sizeLine_eq]; omega
  have hv : Vals (L3.map fun q => V.ref q.1) out.toList := by rw [hout]; exact vals_refs L3
  have J : L2.Inv X pins σ (upd H1 p (.lst (L3.map fun q => V.ref q.1))) { ({ s1 with heap := h', toks := tk } : Shared) with heap := s'.heap, gens := s'.gens, drawn := s'.drawn, toks := s'.toks } :=
    I2.call (ch := []) (Un.laid kk hp hn) (I2.hok.laid kk hp ⟨hlen, out.toList, c, hv, hget⟩) (by rw [gg]; exact I2.bare) (fun _ z => nomatch z)
  have e : s' = { s1 with heap := s'.heap, gens := s'.gens, drawn := s'.drawn, toks := s'.toks } := by
    obtain ⟨a1, a2, a3, a4, a5⟩ := s'
    obtain rfl : a5 = s1.os := oo
    rfl
  rw [e]
  refine ⟨.ref p, _, J, rfl, q1 L3 p (fun q hq => g.sub q (pm.mem_iff.mp hq)) ?_ hn⟩
  rw [he]
  refine sorted_uniq _ _ (sorted_srtP _) (sorted_srtP _) fun x => ?_
  rw [mem_srtP, mem_srtP]
  constructor
  · intro hx
    obtain ⟨q, hq, e⟩ := List.mem_map.mp hx
    exact List.mem_map.mpr ⟨q, g.sub q hq, e⟩
  · intro hx
    obtain ⟨q, hq, e⟩ := List.mem_map.mp hx
    obtain ⟨q2, hq2, e2⟩ := List.mem_map.mp (brought_all g q hq)
    exact List.mem_map.mpr ⟨q2, hq2, by rw [e2, e]⟩
end
end Mn

set_option Elab.async false
set_option linter.all false
set_option maxRecDepth 100000
set_option maxHeartbeats 4000000
/-! MP: reading mirrors: what the plain operations give, loops by invariants. -/
namespace Mn
open PySem L2

/-! ### statements in a row -/
@[simp] theorem mSeq_nx {a b : S} {sl sl' : Sl} {t t' : Sto} (h : a sl t = .nx sl' t') : mSeq a b sl t = b sl' t' := by unfold mSeq; rw [h]
theorem step {a b : S} {sl sl' : Sl} {t t' : Sto} {r : SO} (h : a sl t = .nx sl' t') (k : b sl' t' = r) : mSeq a b sl t = r := (mSeq_nx h).trans k
theorem mSeq_rt {a b : S} {sl : Sl} {t t' : Sto} {v : Val} (h : a sl t = .rt v t') : mSeq a b sl t = .rt v t' := by unfold mSeq; rw [h]
theorem mSeq_ct {a b : S} {sl sl' : Sl} {t t' : Sto} (h : a sl t = .ct sl' t') : mSeq a b sl t = .ct sl' t' := by unfold mSeq; rw [h]
theorem mSeq_bk {a b : S} {sl sl' : Sl} {t t' : Sto} (h : a sl t = .bk sl' t') : mSeq a b sl t = .bk sl' t' := by unfold mSeq; rw [h]
theorem mSeq_ex {a b : S} {sl sl' : Sl} {t t' : Sto} {c : String} {fs : List (String × Val)} (h : a sl t = .ex c fs sl' t') : mSeq a b sl t = .ex c fs sl' t' := by unfold mSeq; rw [h]
theorem mAsg_ok {g : Tg} {e : E} {sl sl' : Sl} {t t' : Sto} {v : Val} (h : e sl t = .ok v t') (hg : g v sl = some sl') : mAsg g e sl t = .nx sl' t' := by
  unfold mAsg; rw [h, SO.ofE_ok, hg]
theorem mSet_ok {i : Nat} {e : E} {sl : Sl} {t t' : Sto} {v : Val} (h : e sl t = .ok v t') : mAsg (tgN i) e sl t = .nx (sl.set i (some v)) t' := mAsg_ok h rfl
theorem mIf_true {c : T} {a b : S} {sl : Sl} {t t' : Sto} (h : c sl t = .ok true t') : mIf c a b sl t = a sl t' := by unfold mIf; rw [h]; rfl
theorem mIf_false {c : T} {a b : S} {sl : Sl} {t t' : Sto} (h : c sl t = .ok false t') : mIf c a b sl t = b sl t' := by unfold mIf; rw [h]; rfl
theorem mRet_ok {e : E} {sl : Sl} {t t' : Sto} {v : Val} (h : e sl t = .ok v t') : mRet e sl t = .rt v t' := by unfold mRet; rw [h]; rfl
theorem mDrop_ok {e : E} {sl : Sl} {t t' : Sto} {v : Val} (h : e sl t = .ok v t') : mDrop e sl t = .nx sl t' := by unfold mDrop; rw [h]; rfl
theorem mDef_rt {n : Nat} {b : S} {args : List Val} {t t' : Sto} {v : Val} (h : b (mStart n args) t = .rt v t') : mDef n b args t = .ok v t' := by unfold mDef; rw [h]
theorem mDef_nx {n : Nat} {b : S} {args : List Val} {sl : Sl} {t t' : Sto} (h : b (mStart n args) t = .nx sl t') : mDef n b args t = .ok .non t' := by unfold mDef; rw [h]
theorem mDef_ex {n : Nat} {b : S} {args : List Val} {sl : Sl} {t t' : Sto} {c : String} {fs : List (String × Val)} (h : b (mStart n args) t = .ex c fs sl t') : mDef n b args t = .ex c fs t' := by unfold mDef; rw [h]

/-! ### loops -/
/-- n turns, each of which goes on -/
theorem loop_run {g : Tg} {b : S} {it : Itr'} {n : Nat} (P : Nat → Sl → Sto → Prop)
    (step : ∀ i sl t, i < n → P i sl t → ∃ v sl1, nxt it i t = some (some v) ∧ g v sl = some sl1 ∧ ∃ sl2 t2, (b sl1 t = .nx sl2 t2 ∨ b sl1 t = .ct sl2 t2) ∧ P (i + 1) sl2 t2)
    (fin : ∀ sl t, P n sl t → nxt it n t = some none) : ∀ (k i : Nat) (sl : Sl) (t : Sto), n - i ≤ k → i ≤ n → P i sl t → ∃ sl' t', loop g b it k i sl t = .nx sl' t' ∧ P n sl' t'
  | k, i, sl, t, hk, hi, h => by
    by_cases e : i = n
    · subst e
      exact ⟨sl, t, by rw [loop_eq, fin sl t h], h⟩
    · obtain ⟨v, sl1, h1, h2, sl2, t2, h3, h4⟩ := step i sl t (by omega) h
      cases k with
      | zero => omega
      | succ k =>
        obtain ⟨sl', t', e1, e2⟩ := loop_run P step fin k (i + 1) sl2 t2 (by omega) (by omega) h4
        refine ⟨sl', t', ?_, e2⟩
        rw [loop_eq, h1]
        dsimp only
        rw [h2]
        dsimp only
        rcases h3 with h3 | h3 <;> rw [h3] <;> exact e1
theorem mFor_run {src : Src} {g : Tg} {b : S} {it : Itr'} {sl : Sl} {t t1 : Sto} {n : Nat} (P : Nat → Sl → Sto → Prop) (hs : src sl t = .ok it t1) (hf : n ≤ fuel it t1) (h0 : P 0 sl t1)
    (step : ∀ i sl t, i < n → P i sl t → ∃ v sl1, nxt it i t = some (some v) ∧ g v sl = some sl1 ∧ ∃ sl2 t2, (b sl1 t = .nx sl2 t2 ∨ b sl1 t = .ct sl2 t2) ∧ P (i + 1) sl2 t2)
    (fin : ∀ sl t, P n sl t → nxt it n t = some none) : ∃ sl' t', mFor src g b sl t = .nx sl' t' ∧ P n sl' t' := by
  unfold mFor
  rw [hs, SO.ofE_ok]
  exact loop_run P step fin _ 0 sl t1 (by omega) (Nat.zero_le _) h0

/-! ### keys as data: ==, < -/
mutual
theorem toK_toD (t : Sto) : ∀ (v : Val) (k : NestedKey) (n : Nat), toK v = some k → k.depth ≤ n → toD t n v = some k.data
  | .non, k, n, h, _ => by simp only [toK] at h; cases h; simp [toD, NestedKey.data]
  | .bl b, k, n, h, _ => by simp [toK] at h
  | .int i, k, n, h, _ => by simp only [toK] at h; cases h; simp [toD, NestedKey.data]
  | .str x, k, n, h, _ => by simp only [toK] at h; cases h; simp [toD, NestedKey.data]
  | .tup l, k, n, h, hd => by
    simp only [toK] at h
    obtain ⟨ks, e, rfl⟩ := Option.map_eq_some_iff.mp h
    simp only [NestedKey.depth] at hd
    cases n with
    | zero => omega
    | succ n => simp only [toD, toKs_toD t l ks n e (by omega), Option.map_some, NestedKey.data]
  | .con l, k, n, h, _ => by simp [toK] at h
  | .ref m, k, n, h, _ => by simp [toK] at h
theorem toKs_toD (t : Sto) : ∀ (vs : List Val) (ks : List NestedKey) (n : Nat), toKs vs = some ks → NestedKey.depthAll ks ≤ n → toDs t n vs = some (NestedKey.datas ks)
  | [], ks, n, h, _ => by simp only [toKs] at h; cases h; simp [toDs, NestedKey.datas]
  | v :: vs, ks, n, h, hd => by
    simp only [toKs] at h
    split at h
    · rename_i k ks' e1 e2
      cases h
      simp only [NestedKey.depthAll] at hd
      simp only [toDs, toK_toD t v k n e1 (by omega), toKs_toD t vs ks' n e2 (by omega), Option.map_some, NestedKey.datas]
    · cases h
end
mutual
theorem eqv_key : ∀ a b : NestedKey, PyData.eqv a.data b.data = NestedKey.beq a b
  | .none, .none => by simp [NestedKey.data, PyData.eqv, NestedKey.beq]
  | .none, .num _ => by simp [NestedKey.data, PyData.eqv, NestedKey.beq]
  | .none, .text _ => by simp [NestedKey.data, PyData.eqv, NestedKey.beq]
  | .none, .tup _ => by simp [NestedKey.data, PyData.eqv, NestedKey.beq]
  | .num _, .none => by simp [NestedKey.data, PyData.eqv, NestedKey.beq]
  | .num a, .num b => by simp only [NestedKey.data, PyData.eqv, NestedKey.beq]; rw [Bool.eq_iff_iff]; simp
  | .num _, .text _ => by simp [NestedKey.data, PyData.eqv, NestedKey.beq]
  | .num _, .tup _ => by simp [NestedKey.data, PyData.eqv, NestedKey.beq]
  | .text _, .none => by simp [NestedKey.data, PyData.eqv, NestedKey.beq]
  | .text _, .num _ => by simp [NestedKey.data, PyData.eqv, NestedKey.beq]
  | .text a, .text b => by simp only [NestedKey.data, PyData.eqv, NestedKey.beq]; rw [Bool.eq_iff_iff]; simp
  | .text _, .tup _ => by simp [NestedKey.data, PyData.eqv, NestedKey.beq]
  | .tup _, .none => by simp [NestedKey.data, PyData.eqv, NestedKey.beq]
  | .tup _, .num _ => by simp [NestedKey.data, PyData.eqv, NestedKey.beq]
  | .tup _, .text _ => by simp [NestedKey.data, PyData.eqv, NestedKey.beq]
  | .tup a, .tup b => by simp only [NestedKey.data, PyData.eqv, NestedKey.beq]; exact eqvAll_key a b
theorem eqvAll_key : ∀ a b : List NestedKey, PyData.eqvAll (NestedKey.datas a) (NestedKey.datas b) = NestedKey.beqAll a b
  | [], [] => by simp [NestedKey.datas, PyData.eqvAll, NestedKey.beqAll]
  | [], _ :: _ => by simp [NestedKey.datas, PyData.eqvAll, NestedKey.beqAll]
  | _ :: _, [] => by simp [NestedKey.datas, PyData.eqvAll, NestedKey.beqAll]
  | a :: as, b :: bs => by simp only [NestedKey.datas, PyData.eqvAll, NestedKey.beqAll, eqv_key a b, eqvAll_key as bs]
end
theorem gEq_key {v u : Val} {k k' : NestedKey} {t : Sto} (h : toK v = some k) (h' : toK u = some k') (d : k.depth ≤ 64) (d' : k'.depth ≤ 64) : gEq v u t = some (.bl (decide (k = k')), t) := by
  unfold gEq
  rw [toK_toD t v k 64 h d, toK_toD t u k' 64 h' d']
  simp only [eqv_key, NestedKey.decide_eq]
theorem gNe_key {v u : Val} {k k' : NestedKey} {t : Sto} (h : toK v = some k) (h' : toK u = some k') (d : k.depth ≤ 64) (d' : k'.depth ≤ 64) : gNe v u t = some (.bl (!decide (k = k')), t) := by
  unfold gNe
  rw [toK_toD t v k 64 h d, toK_toD t u k' 64 h' d']
  simp only [eqv_key, NestedKey.decide_eq]
@[simp] theorem gEq_int {i j : Int} {t : Sto} : gEq (.int i) (.int j) t = some (.bl (decide (i = j)), t) := by
  rw [gEq_key (k := .num i) (k' := .num j) rfl rfl (by simp [NestedKey.depth]) (by simp [NestedKey.depth])]
  simp
@[simp] theorem gNe_int {i j : Int} {t : Sto} : gNe (.int i) (.int j) t = some (.bl (!decide (i = j)), t) := by
  rw [gNe_key (k := .num i) (k' := .num j) rfl rfl (by simp [NestedKey.depth]) (by simp [NestedKey.depth])]
  simp
/-- the order of rows of data -/
theorem rowLt_nil : PySem.W.rowLt [] [] = false := rfl
theorem rowLt_nil_cons {y : PyData} {ys : List PyData} : PySem.W.rowLt [] (y :: ys) = true := by
  unfold PySem.W.rowLt
  rw [PySem.W.toks_all_cons]
  simp only [PySem.W.keyToksAll]
  rw [PySem.W.lex_atom (by simp)]
  rfl
theorem rowLt_cons_nil {x : PyData} {xs : List PyData} : PySem.W.rowLt (x :: xs) [] = false := by
  unfold PySem.W.rowLt
  rw [PySem.W.toks_all_cons]
  simp only [PySem.W.keyToksAll]
  rw [PySem.W.lex_atom (by simp)]
  rfl
theorem rowLt_cons {x y : PyData} {xs ys : List PyData} (h : PySem.W.alike x y = true) : PySem.W.rowLt (x :: xs) (y :: ys) = if PyData.eqv x y = true then PySem.W.rowLt xs ys else PySem.W.dataLt x y := PySem.W.dataLt_cons h xs ys

/-! ### the store -/
@[simp] theorem sto_new {t : Sto} {o : Ob} : (t ++ [o])[t.length]? = some o := by simp
theorem sto_old {t : Sto} {o o' : Ob} {n : Nat} (h : t[n]? = some o) : (t ++ [o'])[n]? = some o := by
  rw [List.getElem?_append_left (List.getElem?_eq_some_iff.mp h).1]; exact h
theorem sto_lt {t : Sto} {o : Ob} {n : Nat} (h : t[n]? = some o) : n < t.length := (List.getElem?_eq_some_iff.mp h).1
theorem sto_set {t : Sto} {o o' : Ob} {n : Nat} (h : t[n]? = some o) : (t.set n o')[n]? = some o' := by
  rw [List.getElem?_set, if_pos rfl, if_pos (sto_lt h)]
theorem sto_set_ne {t : Sto} {o' : Ob} {n m : Nat} (h : n ≠ m) : (t.set n o')[m]? = t[m]? := by
  rw [List.getElem?_set, if_neg h]
/-- what stood still stands -/
def Kp (t t' : Sto) : Prop := ∀ (n : Nat) (o : Ob), t[n]? = some o → t'[n]? = some o
theorem Kp.refl (t : Sto) : Kp t t := fun _ _ h => h
theorem Kp.trans {t t' t'' : Sto} (a : Kp t t') (b : Kp t' t'') : Kp t t'' := fun n o h => b n o (a n o h)
theorem Kp.app (t : Sto) (o : Ob) : Kp t (t ++ [o]) := fun _ _ h => sto_old h
end Mn

set_option Elab.async false
set_option linter.all false
set_option maxRecDepth 100000
set_option maxHeartbeats 4000000
/-! MBh: dicts, stores by subscript, list(..), in, comprehensions, try. -/
namespace Mn
open PySem L2

/-! ### empty dicts -/
def mDnK : E := fun _ t => .ok (.ref t.length) (t ++ [.dK []])
def mDnT : E := fun _ t => .ok (.ref t.length) (t ++ [.dT []])
section
variable {X : Cx} {cn : Cn} {W : WX} {pos : Pos}
theorem me_dnK : PE X (.Dict [] [] pos) (tE X.K cn W mDnK) := pe_dnewK.imp fun σ H Q ⟨ρ, sl, t, rel, rs, h⟩ p hp => h _ _ _ (ext_alloc hp) (rel.alloc (ho := .dK []) hp (show RKs _ _ _ [] [] from .nil)) (alloc_ref rel)
theorem me_dnT : PE X (.Dict [] [] pos) (tE X.K cn W mDnT) := pe_dnewT.imp fun σ H Q ⟨ρ, sl, t, rel, rs, h⟩ p hp => h _ _ _ (ext_alloc hp) (rel.alloc (ho := .dT []) hp (show RKs _ _ _ [] [] from .nil)) (alloc_ref rel)
end

/-! ### o[i] = e -/
def gSet (o i v : Val) (t : Sto) : Option Sto := match o with
  | .ref n => match t[n]? with
    | some (.lst xs) => match i with
      | .int k => match ixN xs.length k with
        | some j => some (t.set n (.lst (xs.set j v)))
        | none => none
      | _ => none
    | some (.dK kvs) => match keyOf i with
      | some k => if kvs.length < sizeLine then some (t.set n (.dK (vPut kvs k v))) else none
      | none => none
    | some (.dT kvs) => match i with
      | .tup l => match keysOf l with
        | some ks => if kvs.length < sizeLine then some (t.set n (.dT (vPut kvs ks v))) else none
        | none => none
      | _ => none
    | _ => none
  | _ => none
def mStore (o i e : E) : S := fun sl t => SO.ofE (e sl t) sl fun x t1 => SO.ofE (o sl t1) sl fun a t2 => SO.ofE (i sl t2) sl fun k t3 => match gSet a k x t3 with
  | some t4 => .nx sl t4
  | none => .bad
theorem PSet_or {X : Cx} {t u : TSet} (h : PSet X t) (g : PSet X u) : PSet X (fun o i v H Q => t o i v H Q ∨ u o i v H Q) := by
  intro pins s σ H o i v ov iv w Q I r1 r2 r3 q
  rcases q with q | q
  · exact h pins s σ H o i v ov iv w Q I r1 r2 r3 q
  · exact g pins s σ H o i v ov iv w Q I r1 r2 r3 q
section
variable {X : Cx} {cn : Cn} {W : WX} {o i e : Expr} {mo mi me : E} {pos pos' : Pos}
theorem set_any {K : PySem.W.Frag} {ρ : List Addr} {t t' : Sto} {H : Hp} {vo vi vv : Val} {xo xi xv : V} (rel : Rel K cn ρ t H) (ro : RV K H ρ vo xo) (ri : RV K H ρ vi xi) (rv : RV K H ρ vv xv) (h : gSet vo vi vv t = some t') {Q : Hp → Prop}
    (k : ∀ H', Ext K ρ H ρ H' → Rel K cn ρ t' H' → Q H') : rSetL xo xi xv H Q ∨ rSetD xo xi xv H Q := by
  unfold gSet at h
  split at h
  · cases ro with | ref ha => ?_
    split at h
    · rename_i xs hx
      obtain ⟨ys, eH, r⟩ := rel.sqL ha hx
      split at h
      · cases ri
        split at h
        · rename_i j hj
          cases h
          obtain ⟨e1, r1⟩ := set_lst rel ha hx eH (r.set rv j)
          exact .inl ⟨_, ys, _, j, rfl, rfl, eH, by rw [← r.length]; exact hj, k _ e1 r1⟩
        · cases h
      · cases h
    · rename_i kvs hx
      obtain ⟨ys, eH, r⟩ := rel.dk ha hx
      split at h
      · rename_i ky hk
        split at h
        · rename_i hz
          cases h
          have e1 : Ext K ρ H ρ (upd H _ (.dK (putK ys ky xv))) := ext_upd (.inr ⟨_, eH, trivial⟩)
          exact .inr ⟨_, _, rfl, .inl ⟨ys, ky, eH, keyOf_rv ri hk, by rw [← r.length]; exact hz, rfl⟩, k _ e1 (rel.set ha hx (fun _ z => nomatch z) eH trivial (fun _ _ z => nomatch z) (show RKs _ _ _ _ _ from r.put rv) (fun _ z => nomatch z))⟩
        · cases h
      · cases h
    · rename_i kvs hx
      obtain ⟨ys, eH, r⟩ := rel.dt ha hx
      split at h
      · split at h
        · rename_i ks hk
          split at h
          · rename_i hz
            cases h
            cases ri with | tup hs rl => ?_
            have ek := keysOf_rv rl hk
            rw [ek] at hs
            have e1 : Ext K ρ H ρ (upd H _ (.dT (putK ys ks xv))) := ext_upd (.inr ⟨_, eH, trivial⟩)
            exact .inr ⟨_, _, rfl, .inr ⟨ys, ks, _, eH, rfl, hs, by rw [← r.length]; exact hz, rfl⟩, k _ e1 (rel.set ha hx (fun _ z => nomatch z) eH trivial (fun _ _ z => nomatch z) (show RKs _ _ _ _ _ from r.put rv) (fun _ z => nomatch z))⟩
          · cases h
        · cases h
      · cases h
    · cases h
  · cases h
theorem ms_sub (hu : X.A.units + 64 < cLine) (ho : PE X o (tE X.K cn W mo)) (hi : PE X i (tE X.K cn W mi)) (he : PE X e (tE X.K cn W me)) (hs : swapsWithSole [.Subscript o i pos'] e pos.line X.env = pure false := by rfl) (hw : swappedStores [.Subscript o i pos'] e X.env = pure none := by rfl)
    (h1 : (assignEach [.Subscript o i pos'] X.env).map (·.2) = [assign (.Subscript o i pos') X.env] := by rfl)
    (ha : ∀ v, assign (.Subscript o i pos') X.env v = (do
      let ov ← holding [v] (eval o X.env)
      let iv ← holding [v, ov] (eval i X.env)
      standAt pos'
      holding [v, ov, iv] (setItem ov iv v)
      release [v, ov, iv] []) := by intro _; rfl) : PS X (.Assign [.Subscript o i pos'] e pos) (tS X.K cn W (mStore mo mi me)) :=
  (ps_asg he (pg_sub ho hi (PSet_or set_list (set_dict (by omega))) ha) hs hw h1).imp fun D σ H ⟨ρ, sl, t, rel, rs, h⟩ => ⟨ρ, sl, t, rel, rs, okS.ofE rs h fun x t1 ρ1 H1 xv e1 r1 rx h1 => ⟨ρ1, sl, t1, r1, rs.mono e1, okS.ofE (rs.mono e1) h1 fun a t2 ρ2 H2 xa e2 r2 ra h2 =>
    ⟨ρ2, sl, t2, r2, (rs.mono e1).mono e2, okS.ofE ((rs.mono e1).mono e2) h2 fun k t3 ρ3 H3 xk e3 r3 rk h3 => by
      split at h3
      · rename_i t4 hset
        exact set_any r3 (ra.mono e3) rk ((rx.mono e2).mono e3) hset fun H' eH r4 => h3 ρ3 H' σ eH r4 ((((rs.mono e1).mono e2).mono e3).mono eH)
      · exact h3.elim⟩⟩⟩
end

/-! ### list(..) -/
def gList : GA
  | [.tup l], t => some (.ref t.length, t ++ [.lst l])
  | [.con l], t => some (.ref t.length, t ++ [.lst l])
  | [.ref n], t => match t[n]? with
    | some (.lst xs) => some (.ref t.length, t ++ [.lst xs])
    | some (.scr ns) => some (.ref t.length, t ++ [.lst (ns.map .int)])
    | _ => none
  | _, _ => none
section
variable {X : Cx} {cn : Cn}
theorem cr_list : CallR X (.type "list") (rC X.K cn gList) := by
  intro pins s σ H xs us Q I r h
  obtain ⟨ρ, t, vs, rel, rv, h⟩ := h
  refine call_list_of pins s σ H xs us Q I r ?_
  unfold gList at h
  split at h
  · obtain ⟨x, rfl, r1⟩ := rv.one
    cases r1 with | tup hs q => ?_
    exact ⟨_, _, rfl, .inr (SqT.of hs), fun l hl => h _ _ _ (ext_alloc hl) (rel.alloc hl (show RVs _ _ _ _ _ from q)) (alloc_ref rel)⟩
  · obtain ⟨x, rfl, r1⟩ := rv.one
    cases r1 with | con hs q => ?_
    exact ⟨_, _, rfl, .inr (hs.sq _), fun l hl => h _ _ _ (ext_alloc hl) (rel.alloc hl (show RVs _ _ _ _ _ from q)) (alloc_ref rel)⟩
  · obtain ⟨x, rfl, r1⟩ := rv.one
    cases r1 with | ref ha => ?_
    split at h
    · rename_i hx
      obtain ⟨ys, e, q⟩ := rel.sqL ha hx
      exact ⟨_, _, rfl, .inl (SqL.of e), fun l hl => h _ _ _ (ext_alloc hl) (rel.alloc hl (show RVs _ _ _ _ _ from q)) (alloc_ref rel)⟩
    · rename_i ns hx
      exact ⟨_, _, rfl, .inl (rel.scr ha hx), fun l hl => h _ _ _ (ext_alloc hl) (rel.alloc hl (show RVs _ _ _ _ _ from RVs.ints ns)) (alloc_ref rel)⟩
    · exact h.elim
  · exact h.elim
end

/-! ### comprehensions -/
def wipeM (sl : Sl) : List Nat → Sl
  | [] => sl
  | v :: vs => (wipeM sl vs).set v none
/-- a target rule of the layer and its plain mirror, both within the slots vs -/
def GOk (K : PySem.W.Frag) (cn : Cn) (vs : List Nat) (g : TG) (m : Tg) : Prop := ∀ (x : V) (σ : St) (H : Hp) (Q : St → Hp → Prop),
  (∃ ρ sl t v, Rel K cn ρ t H ∧ RS K H ρ sl σ ∧ RV K H ρ v x ∧ ∃ sl', m v sl = some sl' ∧ ∀ σ', RS K H ρ sl' σ' → wipe σ' vs = wipe σ vs → Q σ' H) → g x σ H Q
def GsOk (K : PySem.W.Frag) (cn : Cn) (vs : List Nat) (g : TGs) (m : Tgs) : Prop := ∀ (xs : List V) (σ : St) (H : Hp) (Q : St → Hp → Prop),
  (∃ ρ sl t us, Rel K cn ρ t H ∧ RS K H ρ sl σ ∧ RVs K H ρ us xs ∧ ∃ sl', m us sl = some sl' ∧ ∀ σ', RS K H ρ sl' σ' → wipe σ' vs = wipe σ vs → Q σ' H) → g xs σ H Q
theorem wipe_set {σ : St} {i : Nat} {x : Option V} : ∀ {vs : List Nat}, i ∈ vs → wipe (σ.set i x) vs = wipe σ vs := by
  have com : ∀ (vs : List Nat) (j : Nat) (y : Option V) (σ : St), j ∉ vs → wipe (σ.set j y) vs = (wipe σ vs).set j y := by
    intro vs
    induction vs with
    | nil => intro _ _ _ _; rfl
    | cons v vs ih =>
      intro j y σ hj
      simp only [List.mem_cons, not_or] at hj
      show (wipe (σ.set j y) vs).set v none = ((wipe σ vs).set v none).set j y
      rw [ih j y σ hj.2, List.set_comm _ _ hj.1]
  intro vs
  induction vs with
  | nil => intro h; cases h
  | cons v vs ih =>
    intro h
    show (wipe (σ.set i x) vs).set v none = (wipe σ vs).set v none
    by_cases e : i ∈ vs
    · rw [ih e]
    · rcases List.mem_cons.mp h with h | h
      · subst h
        rw [com vs i x σ e, List.set_set]
      · exact absurd h e
theorem wipe_idem {σ : St} : ∀ vs : List Nat, wipe (wipe σ vs) vs = wipe σ vs := by
  have key : ∀ (ws : List Nat) (vs : List Nat) (τ : St), (∀ v ∈ ws, v ∈ vs) → wipe (wipe τ ws) vs = wipe τ vs := by
    intro ws
    induction ws with
    | nil => intro vs τ _; rfl
    | cons w ws ih =>
      intro vs τ h
      show wipe ((wipe τ ws).set w none) vs = wipe τ vs
      rw [wipe_set (h w List.mem_cons_self), ih vs τ fun v hv => h v (List.mem_cons_of_mem _ hv)]
  exact fun vs => key vs vs σ fun _ h => h
section
variable {K : PySem.W.Frag} {cn : Cn} {vs : List Nat}
theorem gk_name {i : Nat} (h : i ∈ vs) : GOk K cn vs (gName i) (tgN i) := by
  rintro x σ H Q ⟨ρ, sl, t, v, rel, rs, rv, sl', e, k⟩
  cases e
  exact k _ (rs.set rv i) (wipe_set h)
theorem gk_nil : GsOk K cn vs gNil tgNil := by
  rintro xs σ H Q ⟨ρ, sl, t, us, rel, rs, rv, sl', e, k⟩
  cases us with
  | nil => cases rv; cases e; exact ⟨rfl, k σ rs rfl⟩
  | cons v r => cases e
theorem gk_cons {g : TG} {m : Tg} {gs : TGs} {ms : Tgs} (h1 : GOk K cn vs g m) (h2 : GsOk K cn vs gs ms) : GsOk K cn vs (gCons g gs) (tgCons m ms) := by
  rintro xs σ H Q ⟨ρ, sl, t, us, rel, rs, rv, sl', e, k⟩
  cases us with
  | nil => cases e
  | cons v r =>
    cases rv with | cons rv1 rvs => ?_
    cases e1 : m v sl with
    | none =>
      have e : (match m v sl with | some sl' => ms r sl' | none => none) = some sl' := e
      rw [e1] at e; cases e
    | some sl1 =>
      have e : (match m v sl with | some sl' => ms r sl' | none => none) = some sl' := e
      rw [e1] at e
      exact ⟨_, _, rfl, h1 _ _ _ _ ⟨ρ, sl, t, v, rel, rs, rv1, sl1, e1, fun σ1 rs1 w1 => h2 _ _ _ _ ⟨ρ, sl1, t, r, rel, rs1, rvs, sl', e, fun σ2 rs2 w2 => k σ2 rs2 (w2.trans w1)⟩⟩⟩
theorem gk_tup {gs : TGs} {ms : Tgs} {n : Nat} (h : GsOk K cn vs gs ms) (hl : ∀ us sl sl', ms us sl = some sl' → us.length = n) : GOk K cn vs (gTup K n gs) (tgTup ms) := by
  rintro x σ H Q ⟨ρ, sl, t, v, rel, rs, rv, sl', e, k⟩
  cases v with
  | tup l =>
    cases rv with | tup hs r => ?_
    exact ⟨_, _, rfl, SqT.of hs, by rw [← r.length]; exact hl l sl sl' e, h _ _ _ _ ⟨ρ, sl, t, l, rel, rs, r, sl', e, k⟩⟩
  | _ => cases e
end
def mYes : T := fun _ t => .ok true t
def loopC (g : Tg) (tt : T) (te : E) (it : Itr') (D : Nat) (sl0 : Sl) : Nat → Nat → Sto → Out Val
  | k, i, t => match nxt it i t with
    | none => .bad
    | some none => .ok (.ref D) t
    | some (some v) => match k with
      | 0 => .bad
      | k + 1 => match g v sl0 with
        | none => .bad
        | some sl1 => match tt sl1 t with
          | .ok true t1 => (match te sl1 t1 with
            | .ok y t2 => (match t2[D]? with
              | some (.lst acc) => if acc.length < sizeLine then loopC g tt te it D sl0 k (i + 1) (t2.set D (.lst (acc ++ [y]))) else .bad
              | _ => .bad)
            | _ => .bad)
          | .ok false t1 => loopC g tt te it D sl0 k (i + 1) t1
          | _ => .bad
def mLc (src : Src) (g : Tg) (tt : T) (te : E) (vs : List Nat) : E := fun sl t => (src sl t).bind fun it t1 => loopC g tt te it t1.length (wipeM sl vs) (fuel it t1) 0 (t1 ++ [.lst []])
theorem loopC_eq (g : Tg) (tt : T) (te : E) (it : Itr') (D : Nat) (sl0 : Sl) (k i : Nat) (t : Sto) : loopC g tt te it D sl0 k i t = match nxt it i t with
    | none => .bad
    | some none => .ok (.ref D) t
    | some (some v) => match k with
      | 0 => .bad
      | k + 1 => match g v sl0 with
        | none => .bad
        | some sl1 => match tt sl1 t with
          | .ok true t1 => (match te sl1 t1 with
            | .ok y t2 => (match t2[D]? with
              | some (.lst acc) => if acc.length < sizeLine then loopC g tt te it D sl0 k (i + 1) (t2.set D (.lst (acc ++ [y]))) else .bad
              | _ => .bad)
            | _ => .bad)
          | .ok false t1 => loopC g tt te it D sl0 k (i + 1) t1
          | _ => .bad := by rw [loopC]
abbrev WF : WX := fun _ _ _ _ => False
section
variable {X : Cx} {cn : Cn} {W : WX}
theorem RS.wipe {K : PySem.W.Frag} {H : Hp} {ρ : List Addr} {sl : Sl} {σ : St} (h : RS K H ρ sl σ) : ∀ vs : List Nat, RS K H ρ (wipeM sl vs) (L2.wipe σ vs)
  | [] => h
  | v :: vs => (RS.wipe h vs).clr v
theorem lc_red {K : PySem.W.Frag} {src : Src} {g : TG} {m : Tg} {tt : T} {te : E} {vs : List Nat} (gk : GOk K cn vs g m) {σ : St} {H : Hp} {Q : VK} (h : tE K cn W (mLc src m tt te vs) σ H Q) : tLc (tI K cn W src) g (tT K cn WF tt) (tE K cn WF te) vs σ H Q := by
  obtain ⟨ρ, sl, t, rel, rs, h⟩ := h
  refine ⟨ρ, sl, t, rel, rs, okG.bind h fun it t1 ρ1 H1 J e1 r1 hJ h1 => fun D hD => ?_⟩
  have eD : Ext K ρ1 H1 (ρ1 ++ [D]) (upd H1 D (.lst [])) := ext_alloc hD
  have rD : Rel K cn (ρ1 ++ [D]) (t1 ++ [.lst []]) (upd H1 D (.lst [])) := r1.alloc hD (show RVs _ _ _ [] [] from .nil)
  have dD : (ρ1 ++ [D])[t1.length]? = some D := by rw [← r1.len]; simp
  refine ⟨fun i n H' => ∃ ρ' t', Ext K (ρ1 ++ [D]) (upd H1 D (.lst [])) ρ' H' ∧ Rel K cn ρ' t' H' ∧ okG K cn W ρ' σ H' (RVr K) Q (loopC m tt te it t1.length (wipeM sl vs) n i t'), ⟨fuel it t1, _, _, Ext.refl _ _ _, rD, okG.mono eD h1⟩, ?_⟩
  rintro i n H' ⟨ρ', t', e', r', hl⟩
  have hi := hJ.mono eD i ρ' t' H' e' r'
  have rs0 : RS K H' ρ' (wipeM sl vs) (L2.wipe σ vs) := (((rs.mono e1).mono eD).mono e').wipe vs
  have dD' : ρ'[t1.length]? = some D := e'.pre _ _ dD
  rw [loopC_eq] at hl
  cases en : nxt it i t' with
  | none => rw [en] at hl; exact (show False from hl).elim
  | some o =>
    rw [en] at hl hi
    cases o with
    | none => exact .inl ⟨hi, hl ρ' H' _ (Ext.refl _ _ _) r' (.ref dD')⟩
    | some v =>
      obtain ⟨hgo, hy⟩ := hi
      cases n with
      | zero => exact (show False from hl).elim
      | succ k =>
        refine .inr ⟨hgo, fun H2 => ∃ ρ2 t2, Ext K (ρ1 ++ [D]) (upd H1 D (.lst [])) ρ2 H2 ∧ Rel K cn ρ2 t2 H2 ∧ okG K cn W ρ2 σ H2 (RVr K) Q (loopC m tt te it t1.length (wipeM sl vs) k (i + 1) t2), fun H2 n2 => ⟨k, Nat.lt_succ_self k, n2⟩, fun x H2 yx => ?_⟩
        obtain ⟨e2, r2, rv⟩ := hy x H2 yx
        dsimp only at hl
        cases eg : m v (wipeM sl vs) with
        | none => rw [eg] at hl; exact (show False from hl).elim
        | some sl1 =>
          rw [eg] at hl
          dsimp only at hl
          refine gk _ _ _ _ ⟨ρ', wipeM sl vs, t', v, r2, rs0.mono e2, rv, sl1, eg, fun σ3 rs3 w3 => ⟨w3.trans (wipe_idem vs), ρ', sl1, t', r2, rs3, ?_⟩⟩
          cases et : tt sl1 t' with
          | bad => rw [et] at hl; exact (show False from hl).elim
          | ex c fs t2 => rw [et] at hl; exact (show False from hl).elim
          | ok b t2 =>
            rw [et] at hl
            intro ρ3 H3 b' e3 r3 eb
            have eb : b = b' := eb
            subst eb
            cases b with
            | false => exact ⟨ρ3, t2, (e'.trans e2).trans e3, r3, okG.mono (e2.trans e3) hl⟩
            | true =>
              dsimp only at hl
              refine ⟨ρ3, sl1, t2, r3, rs3.mono e3, ?_⟩
              cases ee : te sl1 t2 with
              | bad => rw [ee] at hl; exact (show False from hl).elim
              | ex c fs t3 => rw [ee] at hl; exact (show False from hl).elim
              | ok y t3 =>
                rw [ee] at hl
                dsimp only at hl
                intro ρ4 H4 yv e4 r4 ry
                have dD4 : ρ4[t1.length]? = some D := e4.pre _ _ (e3.pre _ _ (e2.pre _ _ dD'))
                split at hl
                · rename_i acc hacc
                  split at hl
                  · rename_i hz
                    obtain ⟨xs, eH, ra⟩ := r4.sqL dD4 hacc
                    obtain ⟨e5, r5⟩ := set_lst r4 dD4 hacc eH (ra.append (.cons ry .nil))
                    exact ⟨xs, eH, by rw [← ra.length]; exact hz, ρ4, _, (((e'.trans e2).trans e3).trans e4).trans e5, r5, okG.mono (((e2.trans e3).trans e4).trans e5) hl⟩
                  · exact (show False from hl).elim
                · exact (show False from hl).elim
theorem Rdy.blk {k : Nat} (R : Rdy X W k) {s : Shared} {H : Hp} {scope : Scope} {cenv : Env} {fp : List Addr} : Rdy (X.blk s H scope cenv fp) WF k :=
  ⟨fun u s' x => by obtain ⟨_, _, _, _, _, _, _, _, _, _, _, _, _, _, _, _, z⟩ := x; exact z.elim, PassesOwn.never, R.hr, R.hc⟩
variable {elt tg iter : Expr} {ifs : List Expr} {scope : Scope} {own : List (Str × Nat)} {pos : Pos} {src : Src} {g : TG} {m : Tg} {tt : T} {te : E}
theorem mts_nil : PTs X [] (tT X.K cn W mYes) := ⟨fun pins s σ H Q I ⟨ρ, sl, t, rel, rs, h⟩ => pts_nil.run pins s σ H Q I (h ρ H true (Ext.refl _ _ _) rel rfl)⟩
theorem mts_one {c : Expr} {t : T} (h : PT X c (tT X.K cn W t)) : PTs X [c] (tT X.K cn W t) := pts_one h
theorem me_lc {k : Nat} (R : Rdy X W k) (hN : X.N.Nodup) (ok : blkC X.N X.env.scope scope own = true) (hi : PI X tg iter (tI X.K cn W src)) (gk : GOk X.K cn (own.map (·.2)) g m)
    (hg : ∀ (s : Shared) (H : Hp) (C : Addr) (cl : List (Str × Addr)) (fp : List Addr), PG (X.blk s H scope (compEnvC scope cl C X.env) fp) tg g)
    (ht : ∀ (s : Shared) (H : Hp) (C : Addr) (cl : List (Str × Addr)) (fp : List Addr), Rdy (X.blk s H scope (compEnvC scope cl C X.env) fp) WF k → PTs (X.blk s H scope (compEnvC scope cl C X.env) fp) ifs (tT X.K cn WF tt))
    (he : ∀ (s : Shared) (H : Hp) (C : Addr) (cl : List (Str × Addr)) (fp : List Addr), Rdy (X.blk s H scope (compEnvC scope cl C X.env) fp) WF k → PE (X.blk s H scope (compEnvC scope cl C X.env) fp) elt (tE X.K cn WF te)) (hs : ∀ x, foldedSetIterable iter X.env x = pure x := by intro _; rfl) :
    PE X (.ListComp elt [⟨tg, iter, ifs, 0⟩] scope pos) (tE X.K cn W (mLc src m tt te (own.map (·.2)))) :=
  (pe_lc R.hc hN hi (blkOk_by ok) hg (fun s H C cl fp => ht s H C cl fp R.blk) (fun s H C cl fp => he s H C cl fp R.blk) hs).imp fun σ H Q h => lc_red gk h
theorem ms_lc {k i : Nat} {y : Str} {py spos : Pos} (R : Rdy X W k) (hN : X.N.Nodup) (hy : X.N[i]? = some y) (hyl : X.env.scope.names.lookup y = some .local) (ok : blkC X.N X.env.scope scope own = true) (hi : PI X tg iter (tI X.K cn W src)) (gk : GOk X.K cn (own.map (·.2)) g m)
    (hg : ∀ (s : Shared) (H : Hp) (C : Addr) (cl : List (Str × Addr)) (fp : List Addr), PG (X.blk s H scope (compEnvC scope cl C X.env) fp) tg g)
    (ht : ∀ (s : Shared) (H : Hp) (C : Addr) (cl : List (Str × Addr)) (fp : List Addr), Rdy (X.blk s H scope (compEnvC scope cl C X.env) fp) WF k → PTs (X.blk s H scope (compEnvC scope cl C X.env) fp) ifs (tT X.K cn WF tt))
    (he : ∀ (s : Shared) (H : Hp) (C : Addr) (cl : List (Str × Addr)) (fp : List Addr), Rdy (X.blk s H scope (compEnvC scope cl C X.env) fp) WF k → PE (X.blk s H scope (compEnvC scope cl C X.env) fp) elt (tE X.K cn WF te)) (hs : ∀ x, foldedSetIterable iter X.env x = pure x := by intro _; rfl)
    (hsw : swapsWith (.ListComp elt [⟨tg, iter, ifs, 0⟩] scope pos) (some (.Name y py)) spos.line X.env = pure true := by rfl) :
    PS X (.Assign [.Name y py] (.ListComp elt [⟨tg, iter, ifs, 0⟩] scope pos) spos) (tS X.K cn W (mAsg (tgN i) (mLc src m tt te (own.map (·.2))))) :=
  (ps_setLc R.hc hN hy hyl hsw hi (blkOk_by ok) hg (fun s H C cl fp => ht s H C cl fp R.blk) (fun s H C cl fp => he s H C cl fp R.blk) hs).imp fun D σ H ⟨ρ, sl, t, rel, rs, h⟩ =>
    lc_red (cn := cn) (W := W) gk ⟨ρ, sl, t, rel, rs, okS.ofE rs h fun v t1 ρ1 H1 x e1 r1 rv h1 => h1 ρ1 H1 _ (Ext.refl _ _ _) r1 ((rs.mono e1).set rv i)⟩
end

/-! ### try .. except C: suite -/
/-- .. that raises nothing -/
def noEx : SO → SO
  | .ex _ _ _ _ => .bad
  | o => o
def mTry (c : String → Option Bool) (b s : S) : S := fun sl t => match b sl t with
  | .ex x fs sl' t' => match c x with
    | some true => noEx (s sl' t')
    | some false => .ex x fs sl' t'
    | none => .bad
  | o => o
section
variable {X : Cx} {cn : Cn} {W : WX} {k : Nat} {c : String → Option Bool} {mb ms : S} {x : Str} {cv : Value} {body suite : List Stmt} {b₀ : Stmt} {np pos pos' : Pos}
/-- what a suite can lean on: no call, no exception -/
theorem ms_try (R : Rdy X W k) (hs : X.stack = X.env :: X.outer) (hf : X.env.frame = some X.env.locals) (hc : Names X x cv) (hm : ∀ y b, c y = some b → PySem.W.exmOne X.K (.ref (cn y)) cv = some b)
    (hb : ∀ (W' : WX) (pn : List (Addr × Obj)) (xe : Value → Shared → Prop), Rdy (X.tr pn xe) W' k → PSs (X.tr pn xe) body (tS X.K cn W' mb))
    (hsu : ∀ (a : Addr) (oe : Obj) (pn : List (Addr × Obj)), PSs (X.suite a ((a, oe) :: pn)) (b₀ :: suite) (tS X.K cn WF ms)) :
    PS X (.Try body [.ExceptHandler (some (.Name x np)) none (b₀ :: suite) pos'] [] [] pos) (tS X.K cn W (mTry c mb ms)) :=
  (ps_try_only (tb := fun W' => tS X.K cn W' mb) (ts := fun _ _ _ => tS X.K cn WF ms) hs hf hc R.tk (fun W' pn xe tk po => hb W' pn xe ⟨tk, po, R.hr, R.hc⟩) (fun a oe cls d pn _ _ => hsu a oe pn)).imp fun D σ H ⟨ρ, sl, t, rel, rs, h⟩ => ⟨ρ, sl, t, rel, rs, by
    unfold mTry at h
    cases e : mb sl t with
    | ex y fs sl' t' =>
      rw [e] at h
      dsimp only at h
      intro ρ' H' σ' d e1 r1 rs1 rx
      cases ec : c y with
      | none => rw [ec] at h; exact (show False from h).elim
      | some b =>
        rw [ec] at h
        refine ⟨b, hm y b ec, fun eb a ha => ?_, fun eb => ?_⟩
        · subst eb
          refine ⟨ρ', sl', t', r1, rs1, ?_⟩
          have q := okS.mono e1 h
          cases es : ms sl' t' with
          | ex z gs sl2 t2 => rw [es] at q; exact (show False from q).elim
          | nx sl2 t2 => rw [es] at q; exact q
          | rt v t2 => rw [es] at q; exact q
          | bk sl2 t2 => rw [es] at q; exact q
          | ct sl2 t2 => rw [es] at q; exact q
          | bad => rw [es] at q; exact q
        · subst eb
          exact h ρ' H' σ' d e1 r1 rs1 rx
    | nx sl' t' => rw [e] at h; exact h
    | rt v t' => rw [e] at h; exact h
    | bk sl' t' => rw [e] at h; exact h
    | ct sl' t' => rw [e] at h; exact h
    | bad => rw [e] at h; exact h⟩
end
end Mn

set_option Elab.async false
set_option linter.all false
set_option maxRecDepth 100000
set_option maxHeartbeats 4000000
/-! MBi: sorted(d), d a dict whose keys are pairs of ints; in, not in. -/
namespace Mn
open PySem PySem.Spec PyProof.Rows L2 Ms

def kPr : List Key → Option Pr
  | [.inl a, .inl b] => some (a, b)
  | _ => none
def kPrs : List (List Key × Val) → Option (List Pr)
  | [] => some []
  | kv :: r => match kPr kv.1, kPrs r with
    | some p, some ps => some (p :: ps)
    | _, _ => none
def gSrtD : GA
  | [.ref n], t => match t[n]? with
    | some (.dT kvs) => match kPrs kvs with
      | some ps => if ps.length ≤ 100000 then some (.ref t.length, t ++ [.lst ((srtP ps).map pv)]) else none
      | none => none
    | _ => none
  | _, _ => none
/-- rows of an address and its pair, sorted by the pair: the pairs are sorted -/
theorem srt_rows {L' L : List (Addr × Pr)} (pm : L'.Perm L) (nd : (L.map (·.2)).Nodup) (srt : L'.Pairwise fun p q => leP p.2 q.2 = true) : L'.map (·.2) = srtP (L.map (·.2)) := by
  refine sorted_uniq _ _ (strict_of (List.pairwise_map.mpr srt) ((pm.map (·.2)).nodup_iff.mpr nd)) (sorted_srtP _) fun x => ?_
  rw [mem_srtP, (pm.map (·.2)).mem_iff]
section
variable {P : Program} {w : World} {A : Around} {E : Value → Shared → Prop} {s : Shared}
/-- what is collected, sorted -/
theorem sort_rows {s1 : Shared} {L : List (Addr × Pr)} {Q : Value → Shared → Prop} (rd : ∀ q ∈ L, Reads s1.heap (.ref q.1) (pd q.2) []) (hz : L.length ≤ sizeLine) (hu : A.units + 8 < cLine)
    (hQ : ∀ (out : List Value) (c : Nat) (L' : List (Addr × Pr)) (h' : Heap), h' = sortedHeap (s1.heap.push (seqObj "list" (L.map fun q => Value.ref q.1).toArray 0)) s1.heap.objs.size (L.map fun q => Value.ref q.1) out.toArray → h'.get? s1.heap.objs.size = some (seqObj "list" out.toArray c) →
      (∀ b u, s1.heap.get? b = some u → h'.get? b = some u) → out = L'.map (fun q => Value.ref q.1) → L'.Perm L → L'.Pairwise (fun p q => leP p.2 q.2 = true) → Q .none { s1 with heap := h' }) :
    wpAny (model P w) A (call (.builtin "list.sort") [.ref s1.heap.objs.size]) Q E { s1 with heap := s1.heap.push (seqObj "list" (L.map fun q => Value.ref q.1).toArray 0) } := by
  have hoL : (s1.heap.push (seqObj "list" (L.map fun q => Value.ref q.1).toArray 0)).get? s1.heap.objs.size = some (seqObj "list" (L.map fun q => Value.ref q.1).toArray 0) := Heap.get?_push_size _ rfl
  have each : ∀ l : List (Addr × Pr), (∀ q ∈ l, q ∈ L) → PySem.W.EachIs (fun v b => ∃ as, Reads (s1.heap.push (seqObj "list" (L.map fun q => Value.ref q.1).toArray 0)) v (pd b.2) as ∧ s1.heap.objs.size ∉ as) (l.map fun q => Value.ref q.1) l := by
    intro l
    induction l with
    | nil => intro _; exact .nil
    | cons q l ih =>
      intro h
      exact .cons ⟨[], Reads.keeps (fun b u e => Heap.get?_push_of_some _ e) (rd q (h q List.mem_cons_self)), by simp⟩ (ih fun r hr => h r (List.mem_cons_of_mem _ hr))
  have each0 : ∀ l : List (Addr × Pr), PySem.W.EachIs (fun v b => v = Value.ref b.1) (l.map fun q => Value.ref q.1) l := by
    intro l
    induction l with
    | nil => exact .nil
    | cons q l ih => exact .cons rfl ih
  refine PySem.W.list_sort_data (s := { s1 with heap := s1.heap.push (seqObj "list" (L.map fun q => Value.ref q.1).toArray 0) }) (enc := fun b : Addr × Pr => pd b.2) (bs := L) hoL (each0 L) (each L fun q hq => hq)
    (PySem.W.AllAlike.of fun b b' => rfl) (PySem.W.Sortable.tuples fun b => ⟨_, _, rfl⟩) hz (fun b _ => by simp only [pd, PyData.depth, PyData.depthAll]; omega) fun out hol heach => ?_
  obtain ⟨c, hc⟩ := sortedHeap_at (vs := L.map fun q => Value.ref q.1) (out := out.toArray) hoL
  have eout : ∀ (out : List Value) (l : List (Addr × Pr)), PySem.W.EachIs (fun v b => v = Value.ref b.1) out l → out = l.map fun q => Value.ref q.1 := by
    intro out l h
    induction h with
    | nil => rfl
    | cons h1 _ ih => rw [h1, ih]; rfl
  have ple : (PySem.W.dataLe false fun b : Addr × Pr => pd b.2) = fun p q => leP p.2 q.2 := PySem.W.dataLe_ii (fun b : Addr × Pr => b.2.1) fun b => b.2.2
  refine hQ out c _ _ rfl hc (fun b u e => ?_) (eout _ _ heach) (List.mergeSort_perm _ _) ?_
  · have hlt := Heap.lt_size e
    rw [sortedHeap_old (Nat.ne_of_lt hlt) (by rw [size_push']; exact Nat.lt_succ_of_lt hlt)]
    exact Heap.get?_push_of_some _ e
  · rw [ple]
    refine List.pairwise_mergeSort (fun a b c h1 h2 => ?_) (fun a b => ?_) L
    · unfold leP at *; simp only [decide_eq_true_eq] at *; omega
    · unfold leP; simp only [Bool.or_eq_true, decide_eq_true_eq]; omega
end
section
variable {K : PySem.W.Frag} {cn : Cn} {ρ : List Addr} {H : Hp}
theorem kPr_eq {k : List Key} {p : Pr} (h : kPr k = some p) : k.map kV = [V.int p.1, V.int p.2] := by
  unfold kPr at h
  split at h
  · cases h; rfl
  · cases h
theorem kPrs_len : ∀ {kvs : List (List Key × Val)} {ps : List Pr}, kPrs kvs = some ps → kvs.length = ps.length
  | [], ps, h => by simp only [kPrs] at h; cases h; rfl
  | kv :: r, ps, h => by
    simp only [kPrs] at h
    split at h
    · rename_i p ps' e1 e2
      cases h
      rw [List.length_cons, List.length_cons, kPrs_len e2]
    · cases h
/-- the keys' addresses with their pairs -/
theorem rows_keys : ∀ {kvs : List (List Key × Val)} {ks : List (List Key × V)} {xs : List (List Key × Addr × Value)} {ps : List Pr}, RKs K H ρ kvs ks → KT H ks xs → kPrs kvs = some ps →
    ∃ L : List (Addr × Pr), L.map (·.2) = ps ∧ L.map (·.1) = xs.map (fun x => x.2.1) ∧ (xs.map (·.1)).map (fun k => k.map kV) = ps.map (fun p => [V.int p.1, V.int p.2]) ∧ ∀ q ∈ L, H q.1 = some (.tup [.int q.2.1, .int q.2.2])
  | _, _, _, ps, .nil, .nil, h => by simp only [kPrs] at h; cases h; exact ⟨[], rfl, rfl, rfl, fun q hq => nomatch hq⟩
  | _, _, _, ps, .cons r q, .cons hk t, h => by
    simp only [kPrs] at h
    split at h
    · rename_i p ps' e1 e2
      cases h
      obtain ⟨L, f1, f2, f3, f4⟩ := rows_keys q t e2
      refine ⟨(_, p) :: L, by rw [List.map_cons, f1], by rw [List.map_cons, List.map_cons, f2], ?_, fun z hz => ?_⟩
      · rw [List.map_cons, List.map_cons, List.map_cons, f3, ← hk.1, kPr_eq e1]
      · rcases List.mem_cons.mp hz with e | hz
        · subst e
          have := hk.2.1
          rw [kPr_eq e1] at this
          exact this
        · exact f4 z hz
    · cases h
end
section
variable {X : Cx} {cn : Cn}
theorem vals_refP : ∀ (L : List (Addr × Pr)), Vals (L.map fun p => V.ref p.1) (L.map fun p => Value.ref p.1)
  | [] => .nil
  | p :: L => .cons rfl (vals_refP L)
theorem rvs_pr {K : PySem.W.Frag} {H : Hp} {ρ : List Addr} : ∀ (L : List (Addr × Pr)), (∀ q ∈ L, H q.1 = some (.tup [.int q.2.1, .int q.2.2])) → RVs K H ρ ((L.map (·.2)).map pv) (L.map fun q => V.ref q.1)
  | [], _ => .nil
  | q :: L, h => .cons (.tup (h q List.mem_cons_self) (.cons (.int _) (.cons (.int _) .nil))) (rvs_pr L fun z hz => h z (List.mem_cons_of_mem _ hz))
theorem cr_srtD (hcalm : X.calm = true) (hu : X.A.units + 64 < cLine) : CallR X (.builtin "sorted") (rC X.K cn gSrtD) := by
  intro pins s σ H xs us Q I r h
  obtain ⟨ρ, t, vs, rel, rv, h⟩ := h
  unfold gSrtD at h
  split at h
  · obtain ⟨x, rfl, r1⟩ := rv.one
    cases r1 with | ref ha => ?_
    split at h
    · rename_i kvs hx
      split at h
      · rename_i ps hp
        split at h
        · rename_i hz
          obtain ⟨ks, eH, rk⟩ := rel.dt ha hx
          rw [Vals.ref1 r]
          obtain ⟨z, hs, xs2, pr, o, es, ep, ho, hxd, hdt, he, hn⟩ := (show ObjOk X.prog X.w H s.heap _ (.dT ks) from I.hok _ _ eH)
          obtain ⟨L, f1, f2, f3, f4⟩ := rows_keys rk pr hp
          have l1 : es.size = xs2.length := size_of_entries he
          have l2 : xs2.length = L.length := by rw [← List.length_map (f := fun x : List Key × Addr × Value => x.2.1), ← f2, List.length_map]
          have l3 : L.length = ps.length := by rw [← f1, List.length_map]
          have nd : (L.map (·.2)).Nodup := by
            rw [f1]
            have e1 : (ps.map fun p : Pr => [V.int p.1, V.int p.2]).Nodup := by
              rw [← f3]
              refine List.pairwise_map.mpr (hn.imp fun hne e => hne ?_)
              have inj : ∀ (a b : List Key), a.map kV = b.map kV → a = b := by
                intro a
                induction a with
                | nil => intro b e; cases b with | nil => rfl | cons _ _ => cases e
                | cons x a ih =>
                  intro b e
                  cases b with
                  | nil => cases e
                  | cons y b =>
                    rw [List.map_cons, List.map_cons] at e
                    injection e with e1 e2
                    rw [ih b e2]
                    cases x <;> cases y <;> first | (injection e1 with e1; rw [e1]) | cases e1
              exact inj _ _ e
            exact nodup_of_map e1
          have lz : L.length ≤ sizeLine := by rw [l3, sizeLine_eq]; omega
          refine Calls.call_function_entry kind_sorted plain_sorted entry_sorted (args_sorted1 _) ?_
          unfold Builtin.«sorted»
          refine wpAny_bind (m := checkCount "sorted" 1 1 _) (wpAny_pure ?_)
          refine wpAny_bind (PySem.W.kdu_collect (A := X.A.in1) (kdl_raw hs hxd hdt) (I.ok.hd hcalm) ho (by omega) fun h' tk acc kp it => ?_)
          have ea : acc.toList = L.map fun q => Value.ref q.1 := by
            have hl : acc.toList.length = xs2.length := by rw [Array.length_toList, it.1]; exact l1
            have e2 : (L.map fun q => Value.ref q.1) = xs2.map fun x => Value.ref x.2.1 := by
              have := congrArg (List.map Value.ref) f2
              rw [List.map_map, List.map_map] at this
              exact this
            rw [e2]
            apply List.ext_getElem?
            intro j
            rw [List.getElem?_map]
            cases hj : acc.toList[j]? with
            | none =>
              have h1 := List.getElem?_eq_none_iff.mp hj
              rw [List.getElem?_eq_none (by omega)] <;> rfl
            | some v =>
              obtain ⟨en, hen, hv⟩ := it.2 j v (by rw [← Array.getElem?_toList]; exact hj)
              have qe := entry_at he j
              rw [hen] at qe
              cases hb : xs2[j]? with
              | none => rw [hb] at qe; cases qe
              | some b =>
                rw [hb] at qe
                have e2 : en = entryOfKey (tupleKind (mixKind X.prog X.w)) b := Option.some.inj qe
                rw [hv, e2] <;> rfl
          rw [ea]
          refine wpAny_bind (wpAny_newList ?_ (by rw [List.length_map]; exact lz))
          have I2 : L2.Inv X pins σ H { s with heap := h', toks := tk } := I.kept kp
          have rd : ∀ q ∈ L, Reads h' (.ref q.1) (pd q.2) [] := fun q hq => by
            obtain ⟨as, z⟩ := Dp.reads I2 (pd q.2) (.ref q.1) (.ref q.1) (.tup (SqT.of (f4 q hq)) (.cons (.int _) (.cons (.int _) .nil))) rfl
            exact reads_pd z
          refine wpAny_bind (wpAny_holding (sort_rows (A := X.A.in1) (s1 := { s with heap := h', toks := tk }) rd lz (by simp only [Around.in1_units]; omega) fun out c L' h2 eh hget kp2 eo pm srt => ?_))
          have hn2 : H h'.objs.size = none := I2.hok.fresh (Nat.le_refl _)
          have hlen : (L'.map fun q => V.ref q.1).length ≤ sizeLine := by rw [List.length_map, pm.length_eq]; exact lz
          have hv : Vals (L'.map fun q => V.ref q.1) out := by rw [eo]; exact vals_refP L'
          have J : L2.Inv X pins σ (upd H h'.objs.size (.lst (L'.map fun q => V.ref q.1))) { ({ s with heap := h', toks := tk } : Shared) with heap := h2 } :=
            I2.call (ch := []) (Un.laid kp2 (Nat.le_refl _) hn2) (I2.hok.laid kp2 (Nat.le_refl _) ⟨hlen, out, c, hv, hget⟩) I2.bare (fun _ z => nomatch z)
          refine wpAny_pure ⟨_, rfl, .ref h'.objs.size, _, J, rfl, ?_⟩
          refine h _ _ _ (ext_alloc hn2) (rel.alloc hn2 (show RVs _ _ _ ((srtP ps).map pv) _ from ?_)) (alloc_ref rel)
          rw [← f1, ← srt_rows pm nd srt]
          exact rvs_pr L' fun q hq => f4 q (pm.mem_iff.mp hq)
        · exact h.elim
      · exact h.elim
    · exact h.elim
  · exact h.elim
end
end Mn

set_option Elab.async false
set_option linter.all false
set_option maxRecDepth 100000
set_option maxHeartbeats 4000000
/-! MH: from a law's mirror to the law's statement. -/
namespace Mn
open PySem L2
/-- which exceptions an «except C» takes -/
theorem exm_of {K : PySem.W.Frag} {S S' : Addr} {b : Bool} (h1 : PySem.W.subIn K (.ref S') (.type "BaseException") = some true) (h2 : PySem.W.isClsIn K S' = true) (h3 : PySem.W.typeIn K (.ref S') = some (.type "type")) (h4 : PySem.W.subIn K (.ref S) (.ref S') = some b) :
    PySem.W.exmOne K (.ref S) (.ref S') = some b := by
  have e1 : (PySem.W.subIn K (.ref S') (.type "BaseException") == some true) = true := by rw [h1] <;> rfl
  have h2' : (PySem.W.clsIn K S').isSome = true := h2
  have e2 : ((PySem.W.clsIn K S').isSome && PySem.W.typeIn K (.ref S') == some (.type "type")) = true := by rw [h2', h3] <;> rfl
  show (if (PySem.W.subIn K (.ref S') (.type "BaseException") == some true) = true then (if ((PySem.W.clsIn K S').isSome && PySem.W.typeIn K (.ref S') == some (.type "type")) = true then PySem.W.subIn K (.ref S) (.ref S') else none) else none) = some b
  rw [if_pos e1, if_pos e2]
  exact h4
/-- a script of at most 63 whole numbers is handed in, True comes out -/
def spScr (K : PySem.W.Frag) : Sp := fun vs H Q _ => ∃ (a : Addr) (ns : List Int), vs = [.ref a] ∧ ns.length ≤ 63 ∧ Only H ∧ SqL K H a (ns.map V.int) ∧ ∀ H', Q (.bl true) H'
theorem scr_sp {K : PySem.W.Frag} {cn : Cn} {f : MFn} {vs : List V} {H : Hp} {Q : VK} {E : XK} (LAW : ∀ ns : List Int, ns.length ≤ 63 → ∃ t, f [.ref 0] [.scr ns] = .ok (.bl true) t) (h : spScr K vs H Q E) : spM K cn 1 f vs H Q E := by
  obtain ⟨a, ns, rfl, hn, hO, hS, k⟩ := h
  have r0 : ([a] : List Addr)[0]? = some a := rfl
  have one : ∀ (n : Nat) (b : Addr), ([a] : List Addr)[n]? = some b → n = 0 ∧ b = a := fun n b e => by
    cases n with
    | zero => cases e; exact ⟨rfl, rfl⟩
    | succ n => simp at e
  refine ⟨rfl, [a], [.scr ns], [.ref 0], ⟨rfl, fun n m b e1 e2 => .inl ((one n b e1).1.trans (one m b e2).1.symm), fun n b o e1 e2 => ?_⟩, .cons (.ref r0) .nil, ?_⟩
  · obtain ⟨rfl, rfl⟩ := one n b e1
    cases e2
    rcases hS with hS | ⟨ob, its, k, h1, h2, h3, h4, h5, h6⟩
    · rcases hO b with z | ⟨o, xs, z⟩
      · rcases hS with e | ⟨o, e⟩ <;> rw [z] at e <;> cases e
      · rcases hS with e | ⟨o', e⟩
        · rw [z] at e; cases e
        · rw [z] at e; cases e
          exact .inl ⟨_, z, rfl⟩
    · exact .inr ⟨ns, rfl, ob, its, k, h1, h2, h3, h4, h5, h6⟩
  · obtain ⟨t, e⟩ := LAW ns hn
    rw [e]
    exact fun ρ' H' x e' r' rv => by cases rv; exact k H'
theorem walk_scr {l : PySem.W.OpenLaw} {k : Nat} {q : Program} {loose : List Str} {XP : (Str → Option Value) → Heap → Prop} {YP : World → Heap → Prop} {d : DefRec} {K : Params → PySem.W.Frag} {x : Str} (hn : l.most = some 63) (hdf : d.params.defaults = []) (hr : Room k callerA)
    (hY : ∀ (w : World) (h : Heap), YP w h → (K w.params).In h)
    (F : ∀ (w : World) (mg : Str → Option Value) (fa : Addr) (h : Heap), (K w.params).In h → h.Ns mainGlobals mg → mg d.name = some (.ref fa) →
      ∃ fd : FuncData, (∀ (s : Shared) (u : Value), BindsTo s fd ⟨[u], []⟩ [(x, u)]) ∧ ∀ base : Heap, (K w.params).In base → base.Ns mainGlobals mg → FnOk l.prog w (K w.params) mg base (L2.CX l.prog w) k fa fd [x] (spScr (K w.params))) :
    PySem.W.WalkO q loose XP YP l.row.toRowW d [] (fun f vs => PySem.call f vs) :=
  L2.walk_of (n := 63) (CX := fun w => L2.CX l.prog w) (sp := fun w => spScr (K w.params)) hn (by decide) hdf hr hY F (fun w H a ns hl hO hS => ⟨a, ns, rfl, hl, hO, hS, fun _ => rfl⟩) fun w H s e s' z => by obtain ⟨_, _, _, _, _, _, _, _, _, _, _, _, z⟩ := z; exact z
end Mn

set_option Elab.async false
set_option linter.all false
set_option maxRecDepth 100000
set_option maxHeartbeats 4000000
/-! MQ: more of the reading kit: fields, methods, lists of rows, equality of lists, comprehensions. -/
namespace Mn
open PySem L2

theorem mVar_ok {i : Nat} {sl : Sl} {t : Sto} {v : Val} (h : sl[i]? = some (some v)) : mVar i sl t = .ok v t := by unfold mVar; rw [h]
theorem mFld_ok {c f : String} {o : E} {sl : Sl} {t t' : Sto} {n : Nat} {fs : List (String × Val)} {u : Val} (h : o sl t = .ok (.ref n) t') (hn : t'[n]? = some (.ins c fs)) (hf : fs.lookup f = some u) : mFld c f o sl t = .ok u t' := by
  unfold mFld
  rw [h, Out.bind_ok]
  simp only [insOf, hn, if_true, hf]
theorem mMeth_ok {c m : String} {f : MFn} {o : E} {es : List E} {sl : Sl} {t t' t'' : Sto} {n : Nat} {fs : List (String × Val)} {vs : List Val} {r : Out Val} (h : o sl t = .ok (.ref n) t') (hn : t'[n]? = some (.ins c fs)) (hf : fs.lookup m = none) (ha : mAs es sl t' = .ok vs t'') (hr : f (.ref n :: vs) t'' = r) :
    mMeth c m f o es sl t = r := by
  unfold mMeth
  rw [h, Out.bind_ok]
  simp only [insOf, hn, if_true, hf, ha, Out.bind_ok]
  exact hr
theorem mCall_ok {f : MFn} {es : List E} {sl : Sl} {t t' : Sto} {vs : List Val} {r : Out Val} (ha : mAs es sl t = .ok vs t') (hr : f vs t' = r) : mCall f es sl t = r := by
  unfold mCall
  rw [ha, Out.bind_ok]; exact hr
theorem mAs_one {e : E} {sl : Sl} {t t' : Sto} {v : Val} (h : e sl t = .ok v t') : mAs [e] sl t = .ok [v] t' := by
  unfold mAs; rw [h, Out.bind_ok]; rfl
theorem mAs_cons {e : E} {es : List E} {sl : Sl} {t t' t'' : Sto} {v : Val} {vs : List Val} (h : e sl t = .ok v t') (g : mAs es sl t' = .ok vs t'') : mAs (e :: es) sl t = .ok (v :: vs) t'' := by
  conv => lhs; unfold mAs
  rw [h, Out.bind_ok, g]; rfl
theorem mAs_nil {sl : Sl} {t : Sto} : mAs [] sl t = .ok [] t := rfl
theorem mBin_ok {g : G2} {a b : E} {sl : Sl} {t t1 t2 t3 : Sto} {v u w : Val} (ha : a sl t = .ok v t1) (hb : b sl t1 = .ok u t2) (hg : g v u t2 = some (w, t3)) : mBin g a b sl t = .ok w t3 := by
  unfold mBin; rw [ha, Out.bind_ok, hb, Out.bind_ok, hg]; rfl
theorem mTst_ok {m : E} {sl : Sl} {t t1 : Sto} {b : Bool} (h : m sl t = .ok (.bl b) t1) : mTst m sl t = .ok b t1 := by unfold mTst; rw [h]; rfl
theorem mNot_ok {m : T} {sl : Sl} {t t1 : Sto} {b : Bool} (h : m sl t = .ok b t1) : mNot m sl t = .ok (!b) t1 := by unfold mNot; rw [h]; rfl
theorem mCB_ok {f : GA} {es : List E} {sl : Sl} {t t1 t2 : Sto} {vs : List Val} {v : Val} (ha : mAs es sl t = .ok vs t1) (hf : f vs t1 = some (v, t2)) : mCB f es sl t = .ok v t2 := by unfold mCB; rw [ha, Out.bind_ok, hf]; rfl
theorem mBM_ok {T : String} {f : GM} {o : E} {es : List E} {sl : Sl} {t t1 t2 t3 : Sto} {v w : Val} {vs : List Val} (ho : o sl t = .ok v t1) (ht : tyG T v t1 = true) (ha : mAs es sl t1 = .ok vs t2) (hf : f v vs t2 = some (w, t3)) : mBM T f o es sl t = .ok w t3 := by
  unfold mBM; rw [ho, Out.bind_ok, if_pos ht, ha, Out.bind_ok, hf]; rfl
theorem ty_lst {t : Sto} {n : Nat} {xs : List Val} (h : t[n]? = some (.lst xs)) : tyG "list" (.ref n) t = true := by unfold tyG; simp only [h]; rfl
theorem app_at {t : Sto} {n : Nat} {xs : List Val} {v : Val} (h : t[n]? = some (.lst xs)) (hz : xs.length < sizeLine) : gApp (.ref n) [v] t = some (.non, t.set n (.lst (xs ++ [v]))) := by
  unfold gApp; simp only [h, if_pos hz]
theorem pop_at {t : Sto} {n : Nat} {xs : List Val} {v : Val} (h : t[n]? = some (.lst (xs ++ [v]))) : gPop (.ref n) [] t = some (v, t.set n (.lst xs)) := by
  unfold gPop; simp [h]
theorem clear_at {t : Sto} {n : Nat} {xs : List Val} (h : t[n]? = some (.lst xs)) : gClear (.ref n) [] t = some (.non, t.set n (.lst [])) := by
  unfold gClear; simp only [h]
theorem list_at {t : Sto} {n : Nat} {xs : List Val} (h : t[n]? = some (.lst xs)) : gList [.ref n] t = some (.ref t.length, t ++ [.lst xs]) := by
  unfold gList; simp only [h]
theorem len_at {t : Sto} {n : Nat} {xs : List Val} (h : t[n]? = some (.lst xs)) : gLen [.ref n] t = some (.int xs.length, t) := by
  unfold gLen; simp only [h]
theorem ix_at {t : Sto} {n : Nat} {xs : List Val} {i : Nat} {v : Val} (ht : t[n]? = some (.lst xs)) (h : xs[i]? = some v) : gIx (.ref n) (.int i) t = some (v, t) := by
  unfold gIx
  dsimp only
  rw [ht]
  dsimp only
  rw [atI_nat h]; rfl
theorem ix_last {t : Sto} {n : Nat} {xs : List Val} {v : Val} (ht : t[n]? = some (.lst (xs ++ [v]))) : gIx (.ref n) (.int (-1)) t = some (v, t) := by
  unfold gIx
  dsimp only
  rw [ht]
  dsimp only
  rw [atI_last]; rfl

/-! ### what stands, but at some places -/
def KX (C : List Nat) (t t' : Sto) : Prop := t.length ≤ t'.length ∧ ∀ (n : Nat) (o : Ob), t[n]? = some o → n ∉ C → t'[n]? = some o
theorem KX.refl (C : List Nat) (t : Sto) : KX C t t := ⟨Nat.le_refl _, fun _ _ h _ => h⟩
theorem KX.trans {C : List Nat} {t t1 t2 : Sto} (a : KX C t t1) (b : KX C t1 t2) : KX C t t2 := ⟨Nat.le_trans a.1 b.1, fun n o h hn => b.2 n o (a.2 n o h hn) hn⟩
theorem KX.mono {C C' : List Nat} {t t' : Sto} (a : KX C t t') (h : ∀ n ∈ C, n ∈ C') : KX C' t t' := ⟨a.1, fun n o e hn => a.2 n o e fun z => hn (h n z)⟩
theorem KX.app {C : List Nat} (t : Sto) (o : Ob) : KX C t (t ++ [o]) := ⟨by simp, fun _ _ h _ => sto_old h⟩
theorem KX.set {C : List Nat} (t : Sto) {n : Nat} (o : Ob) (h : n ∈ C) : KX C t (t.set n o) := ⟨by simp, fun m o' e hm => by
  have ne : n ≠ m := fun z => hm (by rw [← z]; exact h)
  rw [sto_set_ne ne]; exact e⟩
/-- what is changed was not there before -/
theorem KX.fresh {C : List Nat} {t t1 t2 : Sto} {n : Nat} (a : KX C t t1) (b : KX (n :: C) t1 t2) (h : t.length ≤ n) : KX C t t2 := ⟨Nat.le_trans a.1 b.1, fun m o e hm => b.2 m o (a.2 m o e hm) (by
  rw [List.mem_cons, not_or]
  exact ⟨fun z => by have := sto_lt e; omega, hm⟩)⟩

/-! ### lists as data -/
theorem toD_lst {t : Sto} {n k : Nat} {xs : List Val} {ks : List NestedKey} (ht : t[n]? = some (.lst xs)) (h : toKs xs = some ks) (hd : NestedKey.depthAll ks ≤ k) : toD t (k + 1) (.ref n) = some (.list (NestedKey.datas ks)) := by
  simp only [toD, ht, toKs_toD t xs ks k h hd, Option.map_some]
theorem gEq_lst {t : Sto} {n m : Nat} {xs ys : List Val} {ks ls : List NestedKey} (h1 : t[n]? = some (.lst xs)) (h2 : t[m]? = some (.lst ys)) (k1 : toKs xs = some ks) (k2 : toKs ys = some ls) (d1 : NestedKey.depthAll ks ≤ 63) (d2 : NestedKey.depthAll ls ≤ 63) :
    gEq (.ref n) (.ref m) t = some (.bl (NestedKey.beqAll ks ls), t) := by
  unfold gEq
  rw [toD_lst (k := 63) h1 k1 d1, toD_lst (k := 63) h2 k2 d2]
  simp only [PyData.eqv, eqvAll_key]
theorem gNe_lst {t : Sto} {n m : Nat} {xs ys : List Val} {ks ls : List NestedKey} (h1 : t[n]? = some (.lst xs)) (h2 : t[m]? = some (.lst ys)) (k1 : toKs xs = some ks) (k2 : toKs ys = some ls) (d1 : NestedKey.depthAll ks ≤ 63) (d2 : NestedKey.depthAll ls ≤ 63) :
    gNe (.ref n) (.ref m) t = some (.bl (!NestedKey.beqAll ks ls), t) := by
  unfold gNe
  rw [toD_lst (k := 63) h1 k1 d1, toD_lst (k := 63) h2 k2 d2]
  simp only [PyData.eqv, eqvAll_key]
theorem gEq_lstStr {t : Sto} {n : Nat} {xs : List Val} {ks : List NestedKey} {x : Str} (h1 : t[n]? = some (.lst xs)) (k1 : toKs xs = some ks) (d1 : NestedKey.depthAll ks ≤ 63) : gEq (.ref n) (.str x) t = some (.bl false, t) := by
  unfold gEq
  rw [toD_lst (k := 63) h1 k1 d1]
  simp [toD, PyData.eqv]
theorem gEq_str {x y : Str} {t : Sto} : gEq (.str x) (.str y) t = some (.bl (decide (x = y)), t) := by
  rw [gEq_key (k := .text x) (k' := .text y) rfl rfl (by simp [NestedKey.depth]) (by simp [NestedKey.depth])]
  simp
/-- a list of lists of rows of keys, against the empty list -/
theorem toDs_refs {t : Sto} {k : Nat} : ∀ {L : List (Nat × List Val)}, (∀ x ∈ L, t[x.1]? = some (.lst x.2) ∧ ∃ ks, toKs x.2 = some ks ∧ NestedKey.depthAll ks ≤ k) → ∃ ds, toDs t (k + 1) (L.map fun x => .ref x.1) = some ds ∧ ds.length = L.length
  | [], _ => ⟨[], by simp [toDs], rfl⟩
  | x :: L, h => by
    obtain ⟨ds, e, hl⟩ := toDs_refs (k := k) (L := L) fun y hy => h y (List.mem_cons_of_mem _ hy)
    obtain ⟨h1, ks, h2, h3⟩ := h x List.mem_cons_self
    refine ⟨.list (NestedKey.datas ks) :: ds, ?_, by simp [hl]⟩
    simp only [List.map_cons, toDs, toD_lst h1 h2 h3, e, Option.map_some]
theorem gEq_empty {t : Sto} {n m : Nat} {L : List (Nat × List Val)} (h1 : t[n]? = some (.lst (L.map fun x => .ref x.1))) (h2 : t[m]? = some (.lst [])) (h : ∀ x ∈ L, t[x.1]? = some (.lst x.2) ∧ ∃ ks, toKs x.2 = some ks ∧ NestedKey.depthAll ks ≤ 62) :
    gEq (.ref n) (.ref m) t = some (.bl L.isEmpty, t) := by
  obtain ⟨ds, e, hl⟩ := toDs_refs (k := 62) h
  unfold gEq
  have e1 : toD t 64 (.ref n) = some (.list ds) := by simp only [toD, h1, e, Option.map_some]
  have e2 : toD t 64 (.ref m) = some (.list []) := by simp [toD, h2, toDs]
  rw [e1, e2]
  cases L with
  | nil =>
    cases ds with
    | nil => simp [PyData.eqv, PyData.eqvAll]
    | cons _ _ => cases hl
  | cons x L =>
    cases ds with
    | nil => cases hl
    | cons _ _ => simp [PyData.eqv, PyData.eqvAll]
end Mn

set_option Elab.async false
set_option linter.all false
set_option maxRecDepth 100000
set_option maxHeartbeats 4000000
/-! printed by gen.py: the defs' mirrors and their walks. -/
namespace K19
open PySem L2 Mn
def top (i : Nat) : Stmt := PySem.Challenge.pw_twotabs_k19_log_shared.main.body.getD i (.Pass ⟨0, 0, 0, 0⟩)
abbrev s_Log___init__ : Stmt := inClass (top 5) 0
abbrev s_Log_forget : Stmt := inClass (top 5) 3
abbrev s_Log_add : Stmt := inClass (top 5) 1
abbrev s__law_changed : Stmt := top 8
abbrev s__law_entry : Stmt := top 7
abbrev s_Log_again : Stmt := inClass (top 5) 5
abbrev s_Log_undo : Stmt := inClass (top 5) 4
abbrev s__law_turned : Stmt := top 9
abbrev s__law_deed : Stmt := top 12
abbrev s__law_emptied : Stmt := top 13
abbrev s__law_mixed : Stmt := top 14
abbrev s_Log_many : Stmt := inClass (top 5) 6
abbrev s_Log_touched : Stmt := inClass (top 5) 7
abbrev s__law_marks : Stmt := top 10
abbrev s__law_told : Stmt := top 11
abbrev s_law : Stmt := top 15
def cf_DraftError (c : String) : Option Bool := if c = "NoDeed" then some true else none
/-- what the top has written -/
structure Txt (K : PySem.W.Frag) (mg : Str → Option Value) (cn : Cn) : Prop where
  b_enumerate : mg "enumerate" = none
  b_len : mg "len" = none
  b_list : mg "list" = none
  b_range : mg "range" = none
  b_set : mg "set" = none
  b_sorted : mg "sorted" = none
  h_DraftError : mg "DraftError" = some (.ref (cn "DraftError"))
  m_DraftError : ∀ y b, cf_DraftError y = some b → PySem.W.exmOne K (.ref (cn y)) (.ref (cn "DraftError")) = some b
  x_NoDeed : ExcOk K mg cn "NoDeed"
  c_Log : Cls K (cn "Log")
  n_Log_standing : NoAttr K (cn "Log") (Str.ofString "standing")
  n_Log_undone : NoAttr K (cn "Log") (Str.ofString "undone")

/-! ### Log.__init__ -/
def b_Log___init__ : S :=
    (mSeq (mFldSet "Log" "standing" (mVar 0) (mLst []))
    (mFldSet "Log" "undone" (mVar 0) (mLst [])))
def m_Log___init__ : MFn := mDef 1 b_Log___init__
theorem SC_Log___init__ : FnScope ["self"] ["self"] (defScope s_Log___init__) := ⟨rfl, rfl, rfl, by decide +kernel, rfl, by decide +kernel, by decide +kernel⟩
theorem ok_Log___init__ {P : Program} {w : World} {K : PySem.W.Frag} {mg : Str → Option Value} {base : Heap} {cn : Cn} {f : Addr} {fd : FuncData} (F : Fun K "__init__" "Log.__init__" s_Log___init__ f fd) (T : Txt K mg cn) :
    FnOk P w K mg base (L2.CX P w) 1 f fd ["self"] (spM K cn 1 m_Log___init__) :=
  have SC := SC_Log___init__
  fnM (k := 0) F SC rfl fun cdv A outer s H E R =>
    (ms_seq (ms_fld T.c_Log T.n_Log_standing (me_var (pv 0)) (me_lst ma_nil (by decide)))
    (ms_one (ms_fld T.c_Log T.n_Log_undone (me_var (pv 0)) (me_lst ma_nil (by decide)))))

/-! ### Log.forget -/
def b_Log_forget : S :=
    (mFldSet "Log" "undone" (mVar 0) (mLst []))
def m_Log_forget : MFn := mDef 1 b_Log_forget
theorem SC_Log_forget : FnScope ["self"] ["self"] (defScope s_Log_forget) := ⟨rfl, rfl, rfl, by decide +kernel, rfl, by decide +kernel, by decide +kernel⟩
theorem ok_Log_forget {P : Program} {w : World} {K : PySem.W.Frag} {mg : Str → Option Value} {base : Heap} {cn : Cn} {f : Addr} {fd : FuncData} (F : Fun K "forget" "Log.forget" s_Log_forget f fd) (T : Txt K mg cn) :
    FnOk P w K mg base (L2.CX P w) 1 f fd ["self"] (spM K cn 1 m_Log_forget) :=
  have SC := SC_Log_forget
  fnM (k := 0) F SC rfl fun cdv A outer s H E R =>
    (ms_one (ms_fld T.c_Log T.n_Log_undone (me_var (pv 0)) (me_lst ma_nil (by decide))))

/-! ### Log.add -/
def b_Log_add : S :=
    (mSeq (mDrop (mBM "list" gApp (mFld "Log" "standing" (mVar 0)) [(mCB gList [(mVar 1)])]))
    (mDrop (mMeth "Log" "forget" m_Log_forget (mVar 0) [])))
def m_Log_add : MFn := mDef 2 b_Log_add
theorem SC_Log_add : FnScope ["self", "entry"] ["self", "entry"] (defScope s_Log_add) := ⟨rfl, rfl, rfl, by decide +kernel, rfl, by decide +kernel, by decide +kernel⟩
theorem ok_Log_add {P : Program} {w : World} {K : PySem.W.Frag} {mg : Str → Option Value} {base : Heap} {cn : Cn} {f : Addr} {fd : FuncData} (F : Fun K "add" "Log.add" s_Log_add f fd) (T : Txt K mg cn) (D_Log_forget : MethOk P w K mg base cn "Log" "forget" 1 1 m_Log_forget) :
    FnOk P w K mg base (L2.CX P w) 2 f fd ["self", "entry"] (spM K cn 2 m_Log_add) :=
  have SC := SC_Log_add
  fnM (k := 1) F SC rfl fun cdv A outer s H E R =>
    (ms_seq (ms_drop (me_bm PySem.F.plainAttrs_list PySem.F.slot_list_append PySem.F.type_list_append mg_append (me_fld T.c_Log T.n_Log_standing (me_var (pv 0))) (ma_cons (me_cty cr_list rfl T.b_list (by decide +kernel) (ma_cons (me_var (pv 1)) ma_nil)) ma_nil)))
    (ms_one (ms_drop (me_meth0 D_Log_forget T.c_Log (R.mono (by decide)) (me_var (pv 0))))))

/-! ### _law_changed -/
def b__law_changed : S :=
    (mIf (mTst (mBin gEq (mBin gMod (mVar 1) (mC (.int 3))) (mC (.int 0))))
    (mDrop (mBM "list" gApp (mVar 0) [(mTup [(mTup [(mC (.int 9)), (mC (.int 9))]), (mC .non), (mC .non)])]))
    (mIf (mAnd (mTst (mBin gEq (mBin gMod (mVar 1) (mC (.int 3))) (mC (.int 1)))) (mTst (mBin gNe (mVar 0) (mLst []))))
    (mDrop (mBM "list" gPop (mVar 0) []))
    (mDrop (mBM "list" gClear (mVar 0) []))))
def m__law_changed : MFn := mDef 2 b__law_changed
theorem SC__law_changed : FnScope ["_law_rows", "_law_cell"] ["_law_rows", "_law_cell"] (defScope s__law_changed) := ⟨rfl, rfl, rfl, by decide +kernel, rfl, by decide +kernel, by decide +kernel⟩
theorem ok__law_changed {P : Program} {w : World} {K : PySem.W.Frag} {mg : Str → Option Value} {base : Heap} {cn : Cn} {f : Addr} {fd : FuncData} (F : Fun K "_law_changed" "_law_changed" s__law_changed f fd) (T : Txt K mg cn) :
    FnOk P w K mg base (L2.CX P w) 1 f fd ["_law_rows", "_law_cell"] (spM K cn 2 m__law_changed) :=
  have SC := SC__law_changed
  fnM (k := 0) F SC rfl fun cdv A outer s H E R =>
    (ms_one (ms_if (mt_cmp (og_eq R.eq) (me_bin og_mod (me_var (pv 1)) me_int) me_int (nomark _))
    (ms_one (ms_drop (me_bm PySem.F.plainAttrs_list PySem.F.slot_list_append PySem.F.type_list_append mg_append (me_var (pv 0)) (ma_cons (me_tup (ma_cons (me_tup (ma_cons me_int (ma_cons me_int ma_nil)) (by decide)) (ma_cons me_non (ma_cons me_non ma_nil))) (by decide)) ma_nil))))
    (ms_one (ms_if (PW.pt (mw_and (mt_cmp (og_eq R.eq) (me_bin og_mod (me_var (pv 1)) me_int) me_int (nomark _)) (mw_and1 (mt_cmp (og_ne R.eq) (me_var (pv 0)) (me_lst ma_nil (by decide)) (nomark _)))))
    (ms_one (ms_drop (me_bm0 PySem.F.plainAttrs_list PySem.F.slot_list_pop PySem.F.type_list_pop mg_pop (me_var (pv 0)))))
    (ms_one (ms_drop (me_bm0 PySem.F.plainAttrs_list PySem.F.slot_list_clear PySem.F.type_list_clear mg_clear (me_var (pv 0)))))))))

/-! ### _law_entry -/
def b__law_entry : S :=
    (mSeq (mAsg (tgN 2) (mLst [(mTup [(mTup [(mBin gAdd (mC (.int 1)) (mBin gMod (mVar 0) (mC (.int 2)))), (mBin gAdd (mC (.int 1)) (mBin gMod (mBin gDiv (mVar 0) (mC (.int 2))) (mC (.int 30))))]), (mC .non), (mTup [(mBin gAdd (mC (.int 1)) (mVar 1)), (mTup [(mTup [(mC (.int 0)), (mC (.int 1)), (mBin gAdd (mC (.int 1)) (mVar 1))])]), (mC (.str "words"))])])]))
    (mSeq (mIf (mTst (mBin gEq (mBin gMod (mBin gDiv (mVar 0) (mC (.int 60))) (mC (.int 2))) (mC (.int 0))))
    (mDrop (mBM "list" gApp (mVar 2) [(mTup [(mTup [(mC (.int 3)), (mBin gAdd (mC (.int 1)) (mVar 1))]), (mTup [(mBin gAdd (mC (.int 1)) (mVar 1)), (mTup []), (mC (.str ""))]), (mTup [(mBin gAdd (mC (.int 2)) (mVar 1)), (mTup [(mTup [(mC (.int 1)), (mC (.int 3)), (mBin gAdd (mC (.int 1)) (mVar 1))])]), (mC (.str ""))])])]))
    mNext)
    (mRet (mVar 2))))
def m__law_entry : MFn := mDef 3 b__law_entry
theorem SC__law_entry : FnScope ["_law_cell", "_law_k", "_law_found"] ["_law_cell", "_law_k"] (defScope s__law_entry) := ⟨rfl, rfl, rfl, by decide +kernel, rfl, by decide +kernel, by decide +kernel⟩
theorem ok__law_entry {P : Program} {w : World} {K : PySem.W.Frag} {mg : Str → Option Value} {base : Heap} {cn : Cn} {f : Addr} {fd : FuncData} (F : Fun K "_law_entry" "_law_entry" s__law_entry f fd) (T : Txt K mg cn) :
    FnOk P w K mg base (L2.CX P w) 1 f fd ["_law_cell", "_law_k"] (spM K cn 2 m__law_entry) :=
  have SC := SC__law_entry
  fnM (k := 0) F SC rfl fun cdv A outer s H E R =>
    (ms_seq (ms_set (i := 2) SC.nd rfl (Or.inl rfl) (me_lst (ma_cons (me_tup (ma_cons (me_tup (ma_cons (me_bin og_add me_int (me_bin og_mod (me_var (pv 0)) me_int)) (ma_cons (me_bin og_add me_int (me_bin og_mod (me_bin og_div (me_var (pv 0)) me_int) me_int)) ma_nil)) (by decide)) (ma_cons me_non (ma_cons (me_tup (ma_cons (me_bin og_add me_int (me_var (pv 1))) (ma_cons (me_tup (ma_cons (me_tup (ma_cons me_int (ma_cons me_int (ma_cons (me_bin og_add me_int (me_var (pv 1))) ma_nil))) (by decide)) ma_nil) (by decide)) (ma_cons (me_str (by decide +kernel)) ma_nil))) (by decide)) ma_nil))) (by decide)) ma_nil) (by decide)))
    (ms_seq (ms_if (mt_cmp (og_eq R.eq) (me_bin og_mod (me_bin og_div (me_var (pv 0)) me_int) me_int) me_int (nomark _))
    (ms_one (ms_drop (me_bm PySem.F.plainAttrs_list PySem.F.slot_list_append PySem.F.type_list_append mg_append (me_var (pv 2)) (ma_cons (me_tup (ma_cons (me_tup (ma_cons me_int (ma_cons (me_bin og_add me_int (me_var (pv 1))) ma_nil)) (by decide)) (ma_cons (me_tup (ma_cons (me_bin og_add me_int (me_var (pv 1))) (ma_cons (me_tup ma_nil (by decide)) (ma_cons (me_str (by decide +kernel)) ma_nil))) (by decide)) (ma_cons (me_tup (ma_cons (me_bin og_add me_int (me_var (pv 1))) (ma_cons (me_tup (ma_cons (me_tup (ma_cons me_int (ma_cons me_int (ma_cons (me_bin og_add me_int (me_var (pv 1))) ma_nil))) (by decide)) ma_nil) (by decide)) (ma_cons (me_str (by decide +kernel)) ma_nil))) (by decide)) ma_nil))) (by decide)) ma_nil))))
    ms_nil)
    (ms_one (ms_ret (me_var (pv 2))))))

/-! ### Log.again -/
def b_Log_again : S :=
    (mSeq (mIf (mTst (mBin gEq (mFld "Log" "undone" (mVar 0)) (mLst [])))
    (mRaise "NoDeed")
    mNext)
    (mSeq (mAsg (tgN 1) (mBM "list" gPop (mFld "Log" "undone" (mVar 0)) []))
    (mSeq (mDrop (mBM "list" gApp (mFld "Log" "standing" (mVar 0)) [(mVar 1)]))
    (mRet (mCB gList [(mVar 1)])))))
def m_Log_again : MFn := mDef 2 b_Log_again
theorem SC_Log_again : FnScope ["self", "entry"] ["self"] (defScope s_Log_again) := ⟨rfl, rfl, rfl, by decide +kernel, rfl, by decide +kernel, by decide +kernel⟩
theorem ok_Log_again {P : Program} {w : World} {K : PySem.W.Frag} {mg : Str → Option Value} {base : Heap} {cn : Cn} {f : Addr} {fd : FuncData} (F : Fun K "again" "Log.again" s_Log_again f fd) (T : Txt K mg cn) :
    FnOk P w K mg base (L2.CX P w) 1 f fd ["self"] (spM K cn 1 m_Log_again) :=
  have SC := SC_Log_again
  fnM (k := 0) F SC rfl fun cdv A outer s H E R =>
    (ms_seq (ms_if (mt_cmp (og_eq R.eq) (me_fld T.c_Log T.n_Log_undone (me_var (pv 0))) (me_lst ma_nil (by decide)) (nomark _))
    (ms_one (ms_raise T.x_NoDeed R rfl))
    ms_nil)
    (ms_seq (ms_set (i := 1) SC.nd rfl (Or.inl rfl) (me_bm0 PySem.F.plainAttrs_list PySem.F.slot_list_pop PySem.F.type_list_pop mg_pop (me_fld T.c_Log T.n_Log_undone (me_var (pv 0)))))
    (ms_seq (ms_drop (me_bm PySem.F.plainAttrs_list PySem.F.slot_list_append PySem.F.type_list_append mg_append (me_fld T.c_Log T.n_Log_standing (me_var (pv 0))) (ma_cons (me_var (pv 1)) ma_nil)))
    (ms_one (ms_ret (me_cty cr_list rfl T.b_list (by decide +kernel) (ma_cons (me_var (pv 1)) ma_nil)))))))

/-! ### Log.undo -/
def b_Log_undo : S :=
    (mSeq (mIf (mTst (mBin gEq (mFld "Log" "standing" (mVar 0)) (mLst [])))
    (mRaise "NoDeed")
    mNext)
    (mSeq (mAsg (tgN 1) (mBM "list" gPop (mFld "Log" "standing" (mVar 0)) []))
    (mSeq (mDrop (mBM "list" gApp (mFld "Log" "undone" (mVar 0)) [(mVar 1)]))
    (mRet (mCB gList [(mVar 1)])))))
def m_Log_undo : MFn := mDef 2 b_Log_undo
theorem SC_Log_undo : FnScope ["self", "entry"] ["self"] (defScope s_Log_undo) := ⟨rfl, rfl, rfl, by decide +kernel, rfl, by decide +kernel, by decide +kernel⟩
theorem ok_Log_undo {P : Program} {w : World} {K : PySem.W.Frag} {mg : Str → Option Value} {base : Heap} {cn : Cn} {f : Addr} {fd : FuncData} (F : Fun K "undo" "Log.undo" s_Log_undo f fd) (T : Txt K mg cn) :
    FnOk P w K mg base (L2.CX P w) 1 f fd ["self"] (spM K cn 1 m_Log_undo) :=
  have SC := SC_Log_undo
  fnM (k := 0) F SC rfl fun cdv A outer s H E R =>
    (ms_seq (ms_if (mt_cmp (og_eq R.eq) (me_fld T.c_Log T.n_Log_standing (me_var (pv 0))) (me_lst ma_nil (by decide)) (nomark _))
    (ms_one (ms_raise T.x_NoDeed R rfl))
    ms_nil)
    (ms_seq (ms_set (i := 1) SC.nd rfl (Or.inl rfl) (me_bm0 PySem.F.plainAttrs_list PySem.F.slot_list_pop PySem.F.type_list_pop mg_pop (me_fld T.c_Log T.n_Log_standing (me_var (pv 0)))))
    (ms_seq (ms_drop (me_bm PySem.F.plainAttrs_list PySem.F.slot_list_append PySem.F.type_list_append mg_append (me_fld T.c_Log T.n_Log_undone (me_var (pv 0))) (ma_cons (me_var (pv 1)) ma_nil)))
    (ms_one (ms_ret (me_cty cr_list rfl T.b_list (by decide +kernel) (ma_cons (me_var (pv 1)) ma_nil)))))))

/-! ### _law_turned -/
def b__law_turned : S :=
    (mSeq (mAsg (tgN 2) (mC .non))
    (mSeq (mTry cf_DraftError (mIf (mTst (mVar 1))
    (mAsg (tgN 2) (mMeth "Log" "undo" m_Log_undo (mVar 0) []))
    (mAsg (tgN 2) (mMeth "Log" "again" m_Log_again (mVar 0) [])))
    (mAsg (tgN 2) (mC (.str "refused"))))
    (mRet (mVar 2))))
def m__law_turned : MFn := mDef 3 b__law_turned
theorem SC__law_turned : FnScope ["_law_log", "_law_back", "_law_entry_here"] ["_law_log", "_law_back"] (defScope s__law_turned) := ⟨rfl, rfl, rfl, by decide +kernel, rfl, by decide +kernel, by decide +kernel⟩
theorem ok__law_turned {P : Program} {w : World} {K : PySem.W.Frag} {mg : Str → Option Value} {base : Heap} {cn : Cn} {f : Addr} {fd : FuncData} (F : Fun K "_law_turned" "_law_turned" s__law_turned f fd) (T : Txt K mg cn) (D_Log_again : MethOk P w K mg base cn "Log" "again" 1 1 m_Log_again) (D_Log_undo : MethOk P w K mg base cn "Log" "undo" 1 1 m_Log_undo) :
    FnOk P w K mg base (L2.CX P w) 2 f fd ["_law_log", "_law_back"] (spM K cn 2 m__law_turned) :=
  have SC := SC__law_turned
  fnM (k := 1) F SC rfl fun cdv A outer s H E R =>
    (ms_seq (ms_set (i := 2) SC.nd rfl (Or.inl rfl) me_non)
    (ms_seq (ms_try R rfl rfl ⟨rfl, by decide, .inl T.h_DraftError⟩ T.m_DraftError (fun _ _ _ R => (ms_one (ms_if (mt_val (me_var (pv 1)))
    (ms_one (ms_set (i := 2) SC.nd rfl (Or.inl rfl) (me_meth0 D_Log_undo T.c_Log (R.mono (by decide)) (me_var (pv 0)))))
    (ms_one (ms_set (i := 2) SC.nd rfl (Or.inl rfl) (me_meth0 D_Log_again T.c_Log (R.mono (by decide)) (me_var (pv 0))))))))
    (fun _ _ _ => (ms_one (ms_set (i := 2) SC.nd rfl (Or.inl rfl) (me_str (by decide +kernel))))))
    (ms_one (ms_ret (me_var (pv 2))))))

/-! ### _law_deed -/
def b__law_deed : S :=
    (mSeq (mAsg (tgN 5) (mBin gMod (mVar 3) (mC (.int 5))))
    (mSeq (mIf (mTst (mBin gLt (mVar 5) (mC (.int 3))))
    (mSeq (mAsg (tgN 8) (mCall m__law_entry [(mBin gDiv (mVar 3) (mC (.int 10))), (mVar 4)]))
    (mSeq (mDrop (mBM "list" gApp (mVar 1) [(mCB gList [(mVar 8)])]))
    (mSeq (mDrop (mBM "list" gClear (mVar 2) []))
    (mSeq (mDrop (mMeth "Log" "add" m_Log_add (mVar 0) [(mVar 8)]))
    (mSeq (mDrop (mCall m__law_changed [(mVar 8), (mBin gDiv (mVar 3) (mC (.int 7)))]))
    (mRet (mC (.bl true))))))))
    mNext)
    (mSeq (mAsg (tgN 6) (mVar 1))
    (mSeq (mAsg (tgN 7) (mVar 2))
    (mSeq (mIf (mTst (mBin gEq (mVar 5) (mC (.int 4))))
    (mSeq (mAsg (tgN 6) (mVar 2))
    (mAsg (tgN 7) (mVar 1)))
    mNext)
    (mSeq (mAsg (tgN 8) (mCall m__law_turned [(mVar 0), (mBin gEq (mVar 5) (mC (.int 3)))]))
    (mSeq (mIf (mTst (mBin gEq (mVar 6) (mLst [])))
    (mRet (mBin gEq (mVar 8) (mC (.str "refused"))))
    mNext)
    (mSeq (mDrop (mBM "list" gApp (mVar 7) [(mBM "list" gPop (mVar 6) [])]))
    (mSeq (mAsg (tgN 9) (mBin gEq (mVar 8) (mBin gIx (mVar 7) (mNeg (mC (.int 1))))))
    (mSeq (mIf (mTst (mVar 9))
    (mDrop (mCall m__law_changed [(mVar 8), (mBin gDiv (mVar 3) (mC (.int 11)))]))
    mNext)
    (mRet (mVar 9))))))))))))
def m__law_deed : MFn := mDef 10 b__law_deed
theorem SC__law_deed : FnScope ["_law_log", "_law_stand", "_law_gone", "_law_cell", "_law_k", "_law_way", "_law_one", "_law_other", "_law_entry_here", "_law_right"] ["_law_log", "_law_stand", "_law_gone", "_law_cell", "_law_k"] (defScope s__law_deed) := ⟨rfl, rfl, rfl, by decide +kernel, rfl, by decide +kernel, by decide +kernel⟩
theorem ok__law_deed {P : Program} {w : World} {K : PySem.W.Frag} {mg : Str → Option Value} {base : Heap} {cn : Cn} {f : Addr} {fd : FuncData} (F : Fun K "_law_deed" "_law_deed" s__law_deed f fd) (T : Txt K mg cn) (D_Log_add : MethOk P w K mg base cn "Log" "add" 2 2 m_Log_add) (D__law_changed : DefOk P w K mg base cn "_law_changed" 2 1 m__law_changed) (D__law_entry : DefOk P w K mg base cn "_law_entry" 2 1 m__law_entry) (D__law_turned : DefOk P w K mg base cn "_law_turned" 2 2 m__law_turned) :
    FnOk P w K mg base (L2.CX P w) 3 f fd ["_law_log", "_law_stand", "_law_gone", "_law_cell", "_law_k"] (spM K cn 5 m__law_deed) :=
  have SC := SC__law_deed
  fnM (k := 2) F SC rfl fun cdv A outer s H E R =>
    (ms_seq (ms_set (i := 5) SC.nd rfl (Or.inl rfl) (me_bin og_mod (me_var (pv 3)) me_int))
    (ms_seq (ms_if (mt_cmp (og_lt R.eq) (me_var (pv 5)) me_int (nomark _))
    (ms_seq (ms_set (i := 8) SC.nd rfl (Or.inl rfl) (me_call D__law_entry (R.mono (by decide)) rfl (ma_cons (me_bin og_div (me_var (pv 3)) me_int) (ma_cons (me_var (pv 4)) ma_nil)) rfl))
    (ms_seq (ms_drop (me_bm PySem.F.plainAttrs_list PySem.F.slot_list_append PySem.F.type_list_append mg_append (me_var (pv 1)) (ma_cons (me_cty cr_list rfl T.b_list (by decide +kernel) (ma_cons (me_var (pv 8)) ma_nil)) ma_nil)))
    (ms_seq (ms_drop (me_bm0 PySem.F.plainAttrs_list PySem.F.slot_list_clear PySem.F.type_list_clear mg_clear (me_var (pv 2))))
    (ms_seq (ms_drop (me_meth D_Log_add T.c_Log (R.mono (by decide)) (me_var (pv 0)) (ma_cons (me_var (pv 8)) ma_nil) rfl))
    (ms_seq (ms_drop (me_call D__law_changed (R.mono (by decide)) rfl (ma_cons (me_var (pv 8)) (ma_cons (me_bin og_div (me_var (pv 3)) me_int) ma_nil)) rfl))
    (ms_one (ms_ret me_bl)))))))
    ms_nil)
    (ms_seq (ms_set (i := 6) SC.nd rfl (Or.inl rfl) (me_var (pv 1)))
    (ms_seq (ms_set (i := 7) SC.nd rfl (Or.inl rfl) (me_var (pv 2)))
    (ms_seq (ms_if (mt_cmp (og_eq R.eq) (me_var (pv 5)) me_int (nomark _))
    (ms_seq (ms_set (i := 6) SC.nd rfl (Or.inl rfl) (me_var (pv 2)))
    (ms_one (ms_set (i := 7) SC.nd rfl (Or.inl rfl) (me_var (pv 1)))))
    ms_nil)
    (ms_seq (ms_set (i := 8) SC.nd rfl (Or.inl rfl) (me_call D__law_turned (R.mono (by decide)) rfl (ma_cons (me_var (pv 0)) (ma_cons (me_cmp (og_eq R.eq) (me_var (pv 5)) me_int (nomark _)) ma_nil)) rfl))
    (ms_seq (ms_if (mt_cmp (og_eq R.eq) (me_var (pv 6)) (me_lst ma_nil (by decide)) (nomark _))
    (ms_one (ms_ret (me_cmp (og_eq R.eq) (me_var (pv 8)) (me_str (by decide +kernel)) (nomark _))))
    ms_nil)
    (ms_seq (ms_drop (me_bm PySem.F.plainAttrs_list PySem.F.slot_list_append PySem.F.type_list_append mg_append (me_var (pv 7)) (ma_cons (me_bm0 PySem.F.plainAttrs_list PySem.F.slot_list_pop PySem.F.type_list_pop mg_pop (me_var (pv 6))) ma_nil)))
    (ms_seq (ms_set (i := 9) SC.nd rfl (Or.inl rfl) (me_cmp (og_eq R.eq) (me_var (pv 8)) (me_ix R.eq (me_var (pv 7)) (me_neg me_int)) (nomark _)))
    (ms_seq (ms_if (mt_val (me_var (pv 9)))
    (ms_one (ms_drop (me_call D__law_changed (R.mono (by decide)) rfl (ma_cons (me_var (pv 8)) (ma_cons (me_bin og_div (me_var (pv 3)) me_int) ma_nil)) rfl)))
    ms_nil)
    (ms_one (ms_ret (me_var (pv 9))))))))))))))

/-! ### _law_emptied -/
def b__law_emptied : S :=
    (mSeq (mFor (mIRng1 (mCB gLen [(mVar 1)])) (tgN 2)
    (mIf (mTst (mBin gNe (mCall m__law_turned [(mVar 0), (mC (.bl true))]) (mBin gIx (mVar 1) (mBin gSub (mBin gSub (mCB gLen [(mVar 1)]) (mC (.int 1))) (mVar 2)))))
    (mRet (mC (.bl false)))
    mNext))
    (mRet (mBin gEq (mCall m__law_turned [(mVar 0), (mC (.bl true))]) (mC (.str "refused")))))
def m__law_emptied : MFn := mDef 3 b__law_emptied
theorem SC__law_emptied : FnScope ["_law_log", "_law_stand", "_law_k"] ["_law_log", "_law_stand"] (defScope s__law_emptied) := ⟨rfl, rfl, rfl, by decide +kernel, rfl, by decide +kernel, by decide +kernel⟩
theorem ok__law_emptied {P : Program} {w : World} {K : PySem.W.Frag} {mg : Str → Option Value} {base : Heap} {cn : Cn} {f : Addr} {fd : FuncData} (F : Fun K "_law_emptied" "_law_emptied" s__law_emptied f fd) (T : Txt K mg cn) (D__law_turned : DefOk P w K mg base cn "_law_turned" 2 2 m__law_turned) :
    FnOk P w K mg base (L2.CX P w) 3 f fd ["_law_log", "_law_stand"] (spM K cn 2 m__law_emptied) :=
  have SC := SC__law_emptied
  fnM (k := 2) F SC rfl fun cdv A outer s H E R =>
    (ms_seq (ms_for R.po R.hc (mi_rng1 rfl T.b_range (me_cb cr_len rfl T.b_len PySem.boot_len (ma_cons (me_var (pv 1)) ma_nil))) (mg_name (pg_name (i := 2) SC.nd rfl (Or.inl rfl)))
    (ms_one (ms_if (mt_cmp (og_ne R.eq) (me_call D__law_turned (R.mono (by decide)) rfl (ma_cons (me_var (pv 0)) (ma_cons me_bl ma_nil)) rfl) (me_ix R.eq (me_var (pv 1)) (me_bin og_sub (me_bin og_sub (me_cb cr_len rfl T.b_len PySem.boot_len (ma_cons (me_var (pv 1)) ma_nil)) me_int) (me_var (pv 2)))) (nomark _))
    (ms_one (ms_ret me_bl))
    ms_nil)))
    (ms_one (ms_ret (me_cmp (og_eq R.eq) (me_call D__law_turned (R.mono (by decide)) rfl (ma_cons (me_var (pv 0)) (ma_cons me_bl ma_nil)) rfl) (me_str (by decide +kernel)) (nomark _)))))

/-! ### _law_mixed -/
def b__law_mixed : S :=
    (mSeq (mAsg (tgN 2) (mBin gAdd (mBin gAdd (mBin gMod (mBin gMul (mBin gAdd (mBin gMod (mVar 0) (mC (.int 1000003))) (mC (.int 1))) (mC (.int 48271))) (mC (.int 2147483563))) (mBin gMul (mBin gMul (mVar 1) (mVar 1)) (mC (.int 331)))) (mVar 1)))
    (mSeq (mAsg (tgN 3) (mBin gDiv (mBin gMod (mBin gMul (mVar 2) (mC (.int 69621))) (mC (.int 2147483647))) (mC (.int 64))))
    (mSeq (mAsg (tgN 4) (mBin gDiv (mBin gMod (mBin gMul (mVar 2) (mC (.int 39373))) (mC (.int 2147483579))) (mC (.int 64))))
    (mSeq (mAsg (tgN 5) (mBin gDiv (mBin gMod (mBin gAdd (mBin gMul (mVar 3) (mC (.int 44497))) (mVar 2)) (mC (.int 2147483629))) (mC (.int 64))))
    (mRet (mBin gAdd (mBin gMul (mBin gAdd (mBin gMul (mVar 5) (mC (.int 33554467))) (mVar 4)) (mC (.int 33554467))) (mVar 3)))))))
def m__law_mixed : MFn := mDef 6 b__law_mixed
theorem SC__law_mixed : FnScope ["_law_cell", "_law_k", "_law_one", "_law_two", "_law_three", "_law_four"] ["_law_cell", "_law_k"] (defScope s__law_mixed) := ⟨rfl, rfl, rfl, by decide +kernel, rfl, by decide +kernel, by decide +kernel⟩
theorem ok__law_mixed {P : Program} {w : World} {K : PySem.W.Frag} {mg : Str → Option Value} {base : Heap} {cn : Cn} {f : Addr} {fd : FuncData} (F : Fun K "_law_mixed" "_law_mixed" s__law_mixed f fd) (T : Txt K mg cn) :
    FnOk P w K mg base (L2.CX P w) 1 f fd ["_law_cell", "_law_k"] (spM K cn 2 m__law_mixed) :=
  have SC := SC__law_mixed
  fnM (k := 0) F SC rfl fun cdv A outer s H E R =>
    (ms_seq (ms_set (i := 2) SC.nd rfl (Or.inl rfl) (me_bin og_add (me_bin og_add (me_bin og_mod (me_bin og_mul (me_bin og_add (me_bin og_mod (me_var (pv 0)) me_int) me_int) me_int) me_int) (me_bin og_mul (me_bin og_mul (me_var (pv 1)) (me_var (pv 1))) me_int)) (me_var (pv 1))))
    (ms_seq (ms_set (i := 3) SC.nd rfl (Or.inl rfl) (me_bin og_div (me_bin og_mod (me_bin og_mul (me_var (pv 2)) me_int) me_int) me_int))
    (ms_seq (ms_set (i := 4) SC.nd rfl (Or.inl rfl) (me_bin og_div (me_bin og_mod (me_bin og_mul (me_var (pv 2)) me_int) me_int) me_int))
    (ms_seq (ms_set (i := 5) SC.nd rfl (Or.inl rfl) (me_bin og_div (me_bin og_mod (me_bin og_add (me_bin og_mul (me_var (pv 3)) me_int) (me_var (pv 2))) me_int) me_int))
    (ms_one (ms_ret (me_bin og_add (me_bin og_mul (me_bin og_add (me_bin og_mul (me_var (pv 5)) me_int) (me_var (pv 4))) me_int) (me_var (pv 3)))))))))

/-! ### Log.many -/
def b_Log_many : S :=
    (mRet (mTup [(mCB gLen [(mFld "Log" "standing" (mVar 0))]), (mCB gLen [(mFld "Log" "undone" (mVar 0))])]))
def m_Log_many : MFn := mDef 1 b_Log_many
theorem SC_Log_many : FnScope ["self"] ["self"] (defScope s_Log_many) := ⟨rfl, rfl, rfl, by decide +kernel, rfl, by decide +kernel, by decide +kernel⟩
theorem ok_Log_many {P : Program} {w : World} {K : PySem.W.Frag} {mg : Str → Option Value} {base : Heap} {cn : Cn} {f : Addr} {fd : FuncData} (F : Fun K "many" "Log.many" s_Log_many f fd) (T : Txt K mg cn) :
    FnOk P w K mg base (L2.CX P w) 1 f fd ["self"] (spM K cn 1 m_Log_many) :=
  have SC := SC_Log_many
  fnM (k := 0) F SC rfl fun cdv A outer s H E R =>
    (ms_one (ms_ret (me_tup (ma_cons (me_cb cr_len rfl T.b_len PySem.boot_len (ma_cons (me_fld T.c_Log T.n_Log_standing (me_var (pv 0))) ma_nil)) (ma_cons (me_cb cr_len rfl T.b_len PySem.boot_len (ma_cons (me_fld T.c_Log T.n_Log_undone (me_var (pv 0))) ma_nil)) ma_nil)) (by decide))))

/-! ### Log.touched -/
def b_Log_touched : S :=
    (mSeq (mAsg (tgN 1) mDnT)
    (mSeq (mFor (mIAny (mFld "Log" "standing" (mVar 0))) (tgN 2)
    (mFor (mIAny (mVar 2)) (tgTup (tgCons (tgN 3) (tgCons (tgN 4) (tgCons (tgN 5) tgNil))))
    (mStore (mVar 1) (mVar 3) (mC (.bl true)))))
    (mRet (mCB gSrtD [(mVar 1)]))))
def m_Log_touched : MFn := mDef 6 b_Log_touched
theorem SC_Log_touched : FnScope ["self", "found", "entry", "mark", "before", "after"] ["self"] (defScope s_Log_touched) := ⟨rfl, rfl, rfl, by decide +kernel, rfl, by decide +kernel, by decide +kernel⟩
theorem ok_Log_touched {P : Program} {w : World} {K : PySem.W.Frag} {mg : Str → Option Value} {base : Heap} {cn : Cn} {f : Addr} {fd : FuncData} (F : Fun K "touched" "Log.touched" s_Log_touched f fd) (T : Txt K mg cn) :
    FnOk P w K mg base (L2.CX P w) 1 f fd ["self"] (spM K cn 1 m_Log_touched) :=
  have SC := SC_Log_touched
  fnM (k := 0) F SC rfl fun cdv A outer s H E R =>
    (ms_seq (ms_set (i := 1) SC.nd rfl (Or.inl rfl) me_dnT)
    (ms_seq (ms_for R.po R.hc (mi_any (me_fld T.c_Log T.n_Log_standing (me_var (pv 0)))) (mg_name (pg_name (i := 2) SC.nd rfl (Or.inl rfl)))
    (ms_one (ms_for R.po R.hc (mi_any (me_var (pv 2))) (mg_tup R.hc (mg_cons (mg_name (pg_name (i := 3) SC.nd rfl (Or.inl rfl))) (mg_cons (mg_name (pg_name (i := 4) SC.nd rfl (Or.inl rfl))) (mg_cons (mg_name (pg_name (i := 5) SC.nd rfl (Or.inl rfl))) mg_nil))) (tgCons_len (tgCons_len (tgCons_len tgNil_len))))
    (ms_one (ms_sub R.eq (me_var (pv 1)) (me_var (pv 3)) me_bl)))))
    (ms_one (ms_ret (me_cb (cr_srtD R.hc R.eq) rfl T.b_sorted (by decide +kernel) (ma_cons (me_var (pv 1)) ma_nil))))))

/-! ### _law_marks -/
def b__law_marks : S :=
    (mSeq (mAsg (tgN 1) (mLst []))
    (mSeq (mFor (mIAny (mVar 0)) (tgN 2)
    (mAsg (tgN 1) (mBin gAdd (mVar 1) (mLc (mIAny (mVar 2)) (tgTup (tgCons (tgN 3) (tgCons (tgN 4) (tgCons (tgN 5) tgNil)))) mYes (mVar 3) [3, 4, 5]))))
    (mRet (mSrtSet (mVar 1)))))
def m__law_marks : MFn := mDef 6 b__law_marks
theorem SC__law_marks : FnScope ["_law_entries", "_law_found", "_law_entry_here", "_law_mark", "_law_before", "_law_after"] ["_law_entries"] (defScope s__law_marks) := ⟨rfl, rfl, rfl, by decide +kernel, rfl, by decide +kernel, by decide +kernel⟩
theorem ok__law_marks {P : Program} {w : World} {K : PySem.W.Frag} {mg : Str → Option Value} {base : Heap} {cn : Cn} {f : Addr} {fd : FuncData} (F : Fun K "_law_marks" "_law_marks" s__law_marks f fd) (T : Txt K mg cn) :
    FnOk P w K mg base (L2.CX P w) 1 f fd ["_law_entries"] (spM K cn 1 m__law_marks) :=
  have SC := SC__law_marks
  fnM (k := 0) F SC rfl fun cdv A outer s H E R =>
    (ms_seq (ms_set (i := 1) SC.nd rfl (Or.inl rfl) (me_lst ma_nil (by decide)))
    (ms_seq (ms_for R.po R.hc (mi_any (me_var (pv 0))) (mg_name (pg_name (i := 2) SC.nd rfl (Or.inl rfl)))
    (ms_one (ms_set (i := 1) SC.nd rfl (Or.inl rfl) (me_bin og_add (me_var (pv 1)) (me_lc R SC.nd (own := [("_law_mark", 3), ("_law_before", 4), ("_law_after", 5)]) (by show blkC ["_law_entries", "_law_found", "_law_entry_here", "_law_mark", "_law_before", "_law_after"] (defScope s__law_marks) _ _ = true; decide +kernel) (mi_any (me_var (pv 2))) (gk_tup (gk_cons (gk_name (by decide)) (gk_cons (gk_name (by decide)) (gk_cons (gk_name (by decide)) gk_nil))) (tgCons_len (tgCons_len (tgCons_len tgNil_len)))) (fun _ _ _ _ _ => (pg_tup R.hc (pgs_cons (pg_name (i := 3) SC.nd rfl (Or.inl rfl)) (pgs_cons (pg_name (i := 4) SC.nd rfl (Or.inl rfl)) (pgs_cons (pg_name (i := 5) SC.nd rfl (Or.inl rfl)) pgs_nil))))) (fun _ _ _ _ _ R => mts_nil) (fun _ _ _ _ _ R => (me_var (pv 3))))))))
    (ms_one (ms_ret (me_srtset R.hc R.eq rfl T.b_sorted rfl T.b_set (me_var (pv 1)))))))

/-! ### _law_told -/
def b__law_told : S :=
    (mSeq (mAsg (tgN 4) (mMeth "Log" "touched" m_Log_touched (mVar 0) []))
    (mSeq (mAsg (tgN 5) (mAndV (mBin gEq (mVar 4) (mCall m__law_marks [(mVar 1)])) (mBin gEq (mMeth "Log" "many" m_Log_many (mVar 0) []) (mTup [(mCB gLen [(mVar 1)]), (mCB gLen [(mVar 2)])]))))
    (mSeq (mDrop (mBM "list" gApp (mVar 4) [(mTup [(mC (.int 0)), (mBin gAdd (mC (.int 1)) (mBin gMod (mVar 3) (mC (.int 7))))])]))
    (mRet (mAndV (mVar 5) (mBin gEq (mMeth "Log" "touched" m_Log_touched (mVar 0) []) (mCall m__law_marks [(mVar 1)])))))))
def m__law_told : MFn := mDef 6 b__law_told
theorem SC__law_told : FnScope ["_law_log", "_law_stand", "_law_gone", "_law_cell", "_law_marks_here", "_law_right"] ["_law_log", "_law_stand", "_law_gone", "_law_cell"] (defScope s__law_told) := ⟨rfl, rfl, rfl, by decide +kernel, rfl, by decide +kernel, by decide +kernel⟩
theorem ok__law_told {P : Program} {w : World} {K : PySem.W.Frag} {mg : Str → Option Value} {base : Heap} {cn : Cn} {f : Addr} {fd : FuncData} (F : Fun K "_law_told" "_law_told" s__law_told f fd) (T : Txt K mg cn) (D_Log_many : MethOk P w K mg base cn "Log" "many" 1 1 m_Log_many) (D_Log_touched : MethOk P w K mg base cn "Log" "touched" 1 1 m_Log_touched) (D__law_marks : DefOk P w K mg base cn "_law_marks" 1 1 m__law_marks) :
    FnOk P w K mg base (L2.CX P w) 2 f fd ["_law_log", "_law_stand", "_law_gone", "_law_cell"] (spM K cn 4 m__law_told) :=
  have SC := SC__law_told
  fnM (k := 1) F SC rfl fun cdv A outer s H E R =>
    (ms_seq (ms_set (i := 4) SC.nd rfl (Or.inl rfl) (me_meth0 D_Log_touched T.c_Log (R.mono (by decide)) (me_var (pv 0))))
    (ms_seq (ms_set (i := 5) SC.nd rfl (Or.inl rfl) (me_and (me_cmp (og_eq R.eq) (me_var (pv 4)) (me_call D__law_marks (R.mono (by decide)) rfl (ma_cons (me_var (pv 1)) ma_nil) rfl) (nomark _)) (me_one (me_cmp (og_eq R.eq) (me_meth0 D_Log_many T.c_Log (R.mono (by decide)) (me_var (pv 0))) (me_tup (ma_cons (me_cb cr_len rfl T.b_len PySem.boot_len (ma_cons (me_var (pv 1)) ma_nil)) (ma_cons (me_cb cr_len rfl T.b_len PySem.boot_len (ma_cons (me_var (pv 2)) ma_nil)) ma_nil)) (by decide)) (nomark _)))))
    (ms_seq (ms_drop (me_bm PySem.F.plainAttrs_list PySem.F.slot_list_append PySem.F.type_list_append mg_append (me_var (pv 4)) (ma_cons (me_tup (ma_cons me_int (ma_cons (me_bin og_add me_int (me_bin og_mod (me_var (pv 3)) me_int)) ma_nil)) (by decide)) ma_nil)))
    (ms_one (ms_ret (me_and (me_var (pv 5)) (me_one (me_cmp (og_eq R.eq) (me_meth0 D_Log_touched T.c_Log (R.mono (by decide)) (me_var (pv 0))) (me_call D__law_marks (R.mono (by decide)) rfl (ma_cons (me_var (pv 1)) ma_nil) rfl) (nomark _)))))))))

/-! ### law -/
def b_law : S :=
    (mSeq (mAsg (tgN 1) (mLst [(mMake "Log" m_Log___init__ []), (mMake "Log" m_Log___init__ [])]))
    (mSeq (mAsg (tgN 2) (mLst [(mLst []), (mLst [])]))
    (mSeq (mAsg (tgN 3) (mLst [(mLst []), (mLst [])]))
    (mSeq (mFor (mIEnum (mSl (mVar 0) none (some (mC (.int 60))))) (tgTup (tgCons (tgN 4) (tgCons (tgN 5) tgNil)))
    (mSeq (mAsg (tgN 6) (mVar 5))
    (mSeq (mIf (mTst (mBin gLt (mBin gMod (mVar 5) (mC (.int 7))) (mC (.int 4))))
    (mAsg (tgN 6) (mCall m__law_mixed [(mVar 5), (mVar 4)]))
    mNext)
    (mSeq (mAsg (tgN 7) (mBin gMod (mBin gDiv (mVar 6) (mC (.int 5))) (mC (.int 2))))
    (mSeq (mIf (mNot (mTst (mCall m__law_deed [(mBin gIx (mVar 1) (mVar 7)), (mBin gIx (mVar 2) (mVar 7)), (mBin gIx (mVar 3) (mVar 7)), (mVar 6), (mVar 4)])))
    (mRet (mC (.bl false)))
    mNext)
    (mIf (mOr (mNot (mTst (mCall m__law_told [(mBin gIx (mVar 1) (mC (.int 0))), (mBin gIx (mVar 2) (mC (.int 0))), (mBin gIx (mVar 3) (mC (.int 0))), (mVar 6)]))) (mNot (mTst (mCall m__law_told [(mBin gIx (mVar 1) (mC (.int 1))), (mBin gIx (mVar 2) (mC (.int 1))), (mBin gIx (mVar 3) (mC (.int 1))), (mVar 6)]))))
    (mRet (mC (.bl false)))
    mNext))))))
    (mRet (mAndV (mCall m__law_emptied [(mBin gIx (mVar 1) (mC (.int 1))), (mBin gIx (mVar 2) (mC (.int 1)))]) (mCall m__law_emptied [(mBin gIx (mVar 1) (mC (.int 0))), (mBin gIx (mVar 2) (mC (.int 0)))])))))))
def m_law : MFn := mDef 8 b_law
theorem SC_law : FnScope ["_law_script", "_law_logs", "_law_stand", "_law_gone", "_law_k", "_law_cell", "_law_number", "_law_at"] ["_law_script"] (defScope s_law) := ⟨rfl, rfl, rfl, by decide +kernel, rfl, by decide +kernel, by decide +kernel⟩
theorem ok_law {P : Program} {w : World} {K : PySem.W.Frag} {mg : Str → Option Value} {base : Heap} {cn : Cn} {f : Addr} {fd : FuncData} (F : Fun K "law" "law" s_law f fd) (T : Txt K mg cn) (D_Log___init__ : MakeOk P w K mg base cn "Log" 1 1 m_Log___init__) (D__law_deed : DefOk P w K mg base cn "_law_deed" 5 3 m__law_deed) (D__law_emptied : DefOk P w K mg base cn "_law_emptied" 2 3 m__law_emptied) (D__law_mixed : DefOk P w K mg base cn "_law_mixed" 2 1 m__law_mixed) (D__law_told : DefOk P w K mg base cn "_law_told" 4 2 m__law_told) :
    FnOk P w K mg base (L2.CX P w) 4 f fd ["_law_script"] (spM K cn 1 m_law) :=
  have SC := SC_law
  fnM (k := 3) F SC rfl fun cdv A outer s H E R =>
    (ms_seq (ms_set (i := 1) SC.nd rfl (Or.inl rfl) (me_lst (ma_cons (me_make0 D_Log___init__ (R.mono (by decide)) rfl) (ma_cons (me_make0 D_Log___init__ (R.mono (by decide)) rfl) ma_nil)) (by decide)))
    (ms_seq (ms_set (i := 2) SC.nd rfl (Or.inl rfl) (me_lst (ma_cons (me_lst ma_nil (by decide)) (ma_cons (me_lst ma_nil (by decide)) ma_nil)) (by decide)))
    (ms_seq (ms_set (i := 3) SC.nd rfl (Or.inl rfl) (me_lst (ma_cons (me_lst ma_nil (by decide)) (ma_cons (me_lst ma_nil (by decide)) ma_nil)) (by decide)))
    (ms_seq (ms_for R.po R.hc (mi_enum rfl T.b_enumerate (me_slice (me_var (pv 0)) mp_none (mp_some me_int))) (mg_tup R.hc (mg_cons (mg_name (pg_name (i := 4) SC.nd rfl (Or.inl rfl))) (mg_cons (mg_name (pg_name (i := 5) SC.nd rfl (Or.inl rfl))) mg_nil)) (tgCons_len (tgCons_len tgNil_len)))
    (ms_seq (ms_set (i := 6) SC.nd rfl (Or.inl rfl) (me_var (pv 5)))
    (ms_seq (ms_if (mt_cmp (og_lt R.eq) (me_bin og_mod (me_var (pv 5)) me_int) me_int (nomark _))
    (ms_one (ms_set (i := 6) SC.nd rfl (Or.inl rfl) (me_call D__law_mixed (R.mono (by decide)) rfl (ma_cons (me_var (pv 5)) (ma_cons (me_var (pv 4)) ma_nil)) rfl)))
    ms_nil)
    (ms_seq (ms_set (i := 7) SC.nd rfl (Or.inl rfl) (me_bin og_mod (me_bin og_div (me_var (pv 6)) me_int) me_int))
    (ms_seq (ms_if (mt_not (mt_val (me_call D__law_deed (R.mono (by decide)) rfl (ma_cons (me_ix R.eq (me_var (pv 1)) (me_var (pv 7))) (ma_cons (me_ix R.eq (me_var (pv 2)) (me_var (pv 7))) (ma_cons (me_ix R.eq (me_var (pv 3)) (me_var (pv 7))) (ma_cons (me_var (pv 6)) (ma_cons (me_var (pv 4)) ma_nil))))) rfl)))
    (ms_one (ms_ret me_bl))
    ms_nil)
    (ms_one (ms_if (PW.pt (mw_or (mt_not (mt_val (me_call D__law_told (R.mono (by decide)) rfl (ma_cons (me_ix R.eq (me_var (pv 1)) me_int) (ma_cons (me_ix R.eq (me_var (pv 2)) me_int) (ma_cons (me_ix R.eq (me_var (pv 3)) me_int) (ma_cons (me_var (pv 6)) ma_nil)))) rfl))) (mw_or1 (mt_not (mt_val (me_call D__law_told (R.mono (by decide)) rfl (ma_cons (me_ix R.eq (me_var (pv 1)) me_int) (ma_cons (me_ix R.eq (me_var (pv 2)) me_int) (ma_cons (me_ix R.eq (me_var (pv 3)) me_int) (ma_cons (me_var (pv 6)) ma_nil)))) rfl))))))
    (ms_one (ms_ret me_bl))
    ms_nil)))))))
    (ms_one (ms_ret (me_and (me_call D__law_emptied (R.mono (by decide)) rfl (ma_cons (me_ix R.eq (me_var (pv 1)) me_int) (ma_cons (me_ix R.eq (me_var (pv 2)) me_int) ma_nil)) rfl) (me_one (me_call D__law_emptied (R.mono (by decide)) rfl (ma_cons (me_ix R.eq (me_var (pv 1)) me_int) (ma_cons (me_ix R.eq (me_var (pv 2)) me_int) ma_nil)) rfl)))))))))

/-! ### the end -/
theorem all_mk {P : Program} {w : World} {K : PySem.W.Frag} {h : Heap} {mg : Str → Option Value} {fa : Addr} (X : K.In h) (G : h.Ns mainGlobals mg) (hfa : mg "law" = some (.ref fa))
    {f_Log___init__ : Addr} {od_Log___init__ an_Log___init__ : Option Addr} {sl_Log___init__ : Array (Option Value)} {oc_Log___init__ kV_Log___init__ dc_Log___init__ pm_Log___init__ cd_Log___init__ ct_Log___init__ : Value}
    {f_Log_forget : Addr} {od_Log_forget an_Log_forget : Option Addr} {sl_Log_forget : Array (Option Value)} {oc_Log_forget kV_Log_forget dc_Log_forget pm_Log_forget cd_Log_forget ct_Log_forget : Value}
    {f_Log_add : Addr} {od_Log_add an_Log_add : Option Addr} {sl_Log_add : Array (Option Value)} {oc_Log_add kV_Log_add dc_Log_add pm_Log_add cd_Log_add ct_Log_add : Value}
    {f__law_changed : Addr} {od__law_changed an__law_changed : Option Addr} {sl__law_changed : Array (Option Value)} {oc__law_changed kV__law_changed dc__law_changed pm__law_changed cd__law_changed ct__law_changed : Value}
    {f__law_entry : Addr} {od__law_entry an__law_entry : Option Addr} {sl__law_entry : Array (Option Value)} {oc__law_entry kV__law_entry dc__law_entry pm__law_entry cd__law_entry ct__law_entry : Value}
    {f_Log_again : Addr} {od_Log_again an_Log_again : Option Addr} {sl_Log_again : Array (Option Value)} {oc_Log_again kV_Log_again dc_Log_again pm_Log_again cd_Log_again ct_Log_again : Value}
    {f_Log_undo : Addr} {od_Log_undo an_Log_undo : Option Addr} {sl_Log_undo : Array (Option Value)} {oc_Log_undo kV_Log_undo dc_Log_undo pm_Log_undo cd_Log_undo ct_Log_undo : Value}
    {f__law_turned : Addr} {od__law_turned an__law_turned : Option Addr} {sl__law_turned : Array (Option Value)} {oc__law_turned kV__law_turned dc__law_turned pm__law_turned cd__law_turned ct__law_turned : Value}
    {f__law_deed : Addr} {od__law_deed an__law_deed : Option Addr} {sl__law_deed : Array (Option Value)} {oc__law_deed kV__law_deed dc__law_deed pm__law_deed cd__law_deed ct__law_deed : Value}
    {f__law_emptied : Addr} {od__law_emptied an__law_emptied : Option Addr} {sl__law_emptied : Array (Option Value)} {oc__law_emptied kV__law_emptied dc__law_emptied pm__law_emptied cd__law_emptied ct__law_emptied : Value}
    {f__law_mixed : Addr} {od__law_mixed an__law_mixed : Option Addr} {sl__law_mixed : Array (Option Value)} {oc__law_mixed kV__law_mixed dc__law_mixed pm__law_mixed cd__law_mixed ct__law_mixed : Value}
    {f_Log_many : Addr} {od_Log_many an_Log_many : Option Addr} {sl_Log_many : Array (Option Value)} {oc_Log_many kV_Log_many dc_Log_many pm_Log_many cd_Log_many ct_Log_many : Value}
    {f_Log_touched : Addr} {od_Log_touched an_Log_touched : Option Addr} {sl_Log_touched : Array (Option Value)} {oc_Log_touched kV_Log_touched dc_Log_touched pm_Log_touched cd_Log_touched ct_Log_touched : Value}
    {f__law_marks : Addr} {od__law_marks an__law_marks : Option Addr} {sl__law_marks : Array (Option Value)} {oc__law_marks kV__law_marks dc__law_marks pm__law_marks cd__law_marks ct__law_marks : Value}
    {f__law_told : Addr} {od__law_told an__law_told : Option Addr} {sl__law_told : Array (Option Value)} {oc__law_told kV__law_told dc__law_told pm__law_told cd__law_told ct__law_told : Value}
    {f_law : Addr} {od_law an_law : Option Addr} {sl_law : Array (Option Value)} {oc_law kV_law dc_law pm_law cd_law ct_law : Value}
    {C_NoDeed : Addr}
    {C_DraftError : Addr}
    {C_Log : Addr}
    (a_Log___init__ : PySem.W.findIn K (.ref C_Log) "__init__" = some (some (.ref f_Log___init__)))
    (l_Log___init__ : K.lookup f_Log___init__ = some ⟨oc_Log___init__, od_Log___init__, .func (PySem.W.fnOf "__init__" "Log.__init__" (defArgs s_Log___init__) (defBody s_Log___init__) (defScope s_Log___init__) .none kV_Log___init__ dc_Log___init__ pm_Log___init__ an_Log___init__ cd_Log___init__ ct_Log___init__), sl_Log___init__⟩)
    (c_Log___init__ : PySem.W.codeIn K cd_Log___init__ "Log.__init__" = true)
    (k_Log___init__ : PySem.W.keepIn K (.ref f_Log___init__) = true)
    (i_Log___init__ : PySem.W.isFn K (.ref f_Log___init__) = true)
    (a_Log_forget : PySem.W.findIn K (.ref C_Log) "forget" = some (some (.ref f_Log_forget)))
    (l_Log_forget : K.lookup f_Log_forget = some ⟨oc_Log_forget, od_Log_forget, .func (PySem.W.fnOf "forget" "Log.forget" (defArgs s_Log_forget) (defBody s_Log_forget) (defScope s_Log_forget) .none kV_Log_forget dc_Log_forget pm_Log_forget an_Log_forget cd_Log_forget ct_Log_forget), sl_Log_forget⟩)
    (c_Log_forget : PySem.W.codeIn K cd_Log_forget "Log.forget" = true)
    (k_Log_forget : PySem.W.keepIn K (.ref f_Log_forget) = true)
    (i_Log_forget : PySem.W.isFn K (.ref f_Log_forget) = true)
    (a_Log_add : PySem.W.findIn K (.ref C_Log) "add" = some (some (.ref f_Log_add)))
    (l_Log_add : K.lookup f_Log_add = some ⟨oc_Log_add, od_Log_add, .func (PySem.W.fnOf "add" "Log.add" (defArgs s_Log_add) (defBody s_Log_add) (defScope s_Log_add) .none kV_Log_add dc_Log_add pm_Log_add an_Log_add cd_Log_add ct_Log_add), sl_Log_add⟩)
    (c_Log_add : PySem.W.codeIn K cd_Log_add "Log.add" = true)
    (k_Log_add : PySem.W.keepIn K (.ref f_Log_add) = true)
    (i_Log_add : PySem.W.isFn K (.ref f_Log_add) = true)
    (a__law_changed : PySem.W.nsIn K mainGlobals "_law_changed" = some (some (.ref f__law_changed)))
    (l__law_changed : K.lookup f__law_changed = some ⟨oc__law_changed, od__law_changed, .func (PySem.W.fnOf "_law_changed" "_law_changed" (defArgs s__law_changed) (defBody s__law_changed) (defScope s__law_changed) .none kV__law_changed dc__law_changed pm__law_changed an__law_changed cd__law_changed ct__law_changed), sl__law_changed⟩)
    (c__law_changed : PySem.W.codeIn K cd__law_changed "_law_changed" = true)
    (k__law_changed : PySem.W.keepIn K (.ref f__law_changed) = true)
    (a__law_entry : PySem.W.nsIn K mainGlobals "_law_entry" = some (some (.ref f__law_entry)))
    (l__law_entry : K.lookup f__law_entry = some ⟨oc__law_entry, od__law_entry, .func (PySem.W.fnOf "_law_entry" "_law_entry" (defArgs s__law_entry) (defBody s__law_entry) (defScope s__law_entry) .none kV__law_entry dc__law_entry pm__law_entry an__law_entry cd__law_entry ct__law_entry), sl__law_entry⟩)
    (c__law_entry : PySem.W.codeIn K cd__law_entry "_law_entry" = true)
    (k__law_entry : PySem.W.keepIn K (.ref f__law_entry) = true)
    (a_Log_again : PySem.W.findIn K (.ref C_Log) "again" = some (some (.ref f_Log_again)))
    (l_Log_again : K.lookup f_Log_again = some ⟨oc_Log_again, od_Log_again, .func (PySem.W.fnOf "again" "Log.again" (defArgs s_Log_again) (defBody s_Log_again) (defScope s_Log_again) .none kV_Log_again dc_Log_again pm_Log_again an_Log_again cd_Log_again ct_Log_again), sl_Log_again⟩)
    (c_Log_again : PySem.W.codeIn K cd_Log_again "Log.again" = true)
    (k_Log_again : PySem.W.keepIn K (.ref f_Log_again) = true)
    (i_Log_again : PySem.W.isFn K (.ref f_Log_again) = true)
    (a_Log_undo : PySem.W.findIn K (.ref C_Log) "undo" = some (some (.ref f_Log_undo)))
    (l_Log_undo : K.lookup f_Log_undo = some ⟨oc_Log_undo, od_Log_undo, .func (PySem.W.fnOf "undo" "Log.undo" (defArgs s_Log_undo) (defBody s_Log_undo) (defScope s_Log_undo) .none kV_Log_undo dc_Log_undo pm_Log_undo an_Log_undo cd_Log_undo ct_Log_undo), sl_Log_undo⟩)
    (c_Log_undo : PySem.W.codeIn K cd_Log_undo "Log.undo" = true)
    (k_Log_undo : PySem.W.keepIn K (.ref f_Log_undo) = true)
    (i_Log_undo : PySem.W.isFn K (.ref f_Log_undo) = true)
    (a__law_turned : PySem.W.nsIn K mainGlobals "_law_turned" = some (some (.ref f__law_turned)))
    (l__law_turned : K.lookup f__law_turned = some ⟨oc__law_turned, od__law_turned, .func (PySem.W.fnOf "_law_turned" "_law_turned" (defArgs s__law_turned) (defBody s__law_turned) (defScope s__law_turned) .none kV__law_turned dc__law_turned pm__law_turned an__law_turned cd__law_turned ct__law_turned), sl__law_turned⟩)
    (c__law_turned : PySem.W.codeIn K cd__law_turned "_law_turned" = true)
    (k__law_turned : PySem.W.keepIn K (.ref f__law_turned) = true)
    (a__law_deed : PySem.W.nsIn K mainGlobals "_law_deed" = some (some (.ref f__law_deed)))
    (l__law_deed : K.lookup f__law_deed = some ⟨oc__law_deed, od__law_deed, .func (PySem.W.fnOf "_law_deed" "_law_deed" (defArgs s__law_deed) (defBody s__law_deed) (defScope s__law_deed) .none kV__law_deed dc__law_deed pm__law_deed an__law_deed cd__law_deed ct__law_deed), sl__law_deed⟩)
    (c__law_deed : PySem.W.codeIn K cd__law_deed "_law_deed" = true)
    (k__law_deed : PySem.W.keepIn K (.ref f__law_deed) = true)
    (a__law_emptied : PySem.W.nsIn K mainGlobals "_law_emptied" = some (some (.ref f__law_emptied)))
    (l__law_emptied : K.lookup f__law_emptied = some ⟨oc__law_emptied, od__law_emptied, .func (PySem.W.fnOf "_law_emptied" "_law_emptied" (defArgs s__law_emptied) (defBody s__law_emptied) (defScope s__law_emptied) .none kV__law_emptied dc__law_emptied pm__law_emptied an__law_emptied cd__law_emptied ct__law_emptied), sl__law_emptied⟩)
    (c__law_emptied : PySem.W.codeIn K cd__law_emptied "_law_emptied" = true)
    (k__law_emptied : PySem.W.keepIn K (.ref f__law_emptied) = true)
    (a__law_mixed : PySem.W.nsIn K mainGlobals "_law_mixed" = some (some (.ref f__law_mixed)))
    (l__law_mixed : K.lookup f__law_mixed = some ⟨oc__law_mixed, od__law_mixed, .func (PySem.W.fnOf "_law_mixed" "_law_mixed" (defArgs s__law_mixed) (defBody s__law_mixed) (defScope s__law_mixed) .none kV__law_mixed dc__law_mixed pm__law_mixed an__law_mixed cd__law_mixed ct__law_mixed), sl__law_mixed⟩)
    (c__law_mixed : PySem.W.codeIn K cd__law_mixed "_law_mixed" = true)
    (k__law_mixed : PySem.W.keepIn K (.ref f__law_mixed) = true)
    (a_Log_many : PySem.W.findIn K (.ref C_Log) "many" = some (some (.ref f_Log_many)))
    (l_Log_many : K.lookup f_Log_many = some ⟨oc_Log_many, od_Log_many, .func (PySem.W.fnOf "many" "Log.many" (defArgs s_Log_many) (defBody s_Log_many) (defScope s_Log_many) .none kV_Log_many dc_Log_many pm_Log_many an_Log_many cd_Log_many ct_Log_many), sl_Log_many⟩)
    (c_Log_many : PySem.W.codeIn K cd_Log_many "Log.many" = true)
    (k_Log_many : PySem.W.keepIn K (.ref f_Log_many) = true)
    (i_Log_many : PySem.W.isFn K (.ref f_Log_many) = true)
    (a_Log_touched : PySem.W.findIn K (.ref C_Log) "touched" = some (some (.ref f_Log_touched)))
    (l_Log_touched : K.lookup f_Log_touched = some ⟨oc_Log_touched, od_Log_touched, .func (PySem.W.fnOf "touched" "Log.touched" (defArgs s_Log_touched) (defBody s_Log_touched) (defScope s_Log_touched) .none kV_Log_touched dc_Log_touched pm_Log_touched an_Log_touched cd_Log_touched ct_Log_touched), sl_Log_touched⟩)
    (c_Log_touched : PySem.W.codeIn K cd_Log_touched "Log.touched" = true)
    (k_Log_touched : PySem.W.keepIn K (.ref f_Log_touched) = true)
    (i_Log_touched : PySem.W.isFn K (.ref f_Log_touched) = true)
    (a__law_marks : PySem.W.nsIn K mainGlobals "_law_marks" = some (some (.ref f__law_marks)))
    (l__law_marks : K.lookup f__law_marks = some ⟨oc__law_marks, od__law_marks, .func (PySem.W.fnOf "_law_marks" "_law_marks" (defArgs s__law_marks) (defBody s__law_marks) (defScope s__law_marks) .none kV__law_marks dc__law_marks pm__law_marks an__law_marks cd__law_marks ct__law_marks), sl__law_marks⟩)
    (c__law_marks : PySem.W.codeIn K cd__law_marks "_law_marks" = true)
    (k__law_marks : PySem.W.keepIn K (.ref f__law_marks) = true)
    (a__law_told : PySem.W.nsIn K mainGlobals "_law_told" = some (some (.ref f__law_told)))
    (l__law_told : K.lookup f__law_told = some ⟨oc__law_told, od__law_told, .func (PySem.W.fnOf "_law_told" "_law_told" (defArgs s__law_told) (defBody s__law_told) (defScope s__law_told) .none kV__law_told dc__law_told pm__law_told an__law_told cd__law_told ct__law_told), sl__law_told⟩)
    (c__law_told : PySem.W.codeIn K cd__law_told "_law_told" = true)
    (k__law_told : PySem.W.keepIn K (.ref f__law_told) = true)
    (a_law : PySem.W.nsIn K mainGlobals "law" = some (some (.ref f_law)))
    (l_law : K.lookup f_law = some ⟨oc_law, od_law, .func (PySem.W.fnOf "law" "law" (defArgs s_law) (defBody s_law) (defScope s_law) .none kV_law dc_law pm_law an_law cd_law ct_law), sl_law⟩)
    (c_law : PySem.W.codeIn K cd_law "law" = true)
    (k_law : PySem.W.keepIn K (.ref f_law) = true)
    (xg_NoDeed : PySem.W.nsIn K mainGlobals "NoDeed" = some (some (.ref C_NoDeed)))
    (xx_NoDeed : PySem.W.excIn K C_NoDeed [.type "ValueError", .type "Exception", .type "BaseException", .type "object"] "ValueError.__new__" = true)
    (xk_NoDeed : PySem.W.keepIn K (.ref C_NoDeed) = true)
    (xb_NoDeed : PySem.W.subIn K (.ref C_NoDeed) (.type "BaseException") = some true)
    (xt_NoDeed : PySem.W.typeIn K (.ref C_NoDeed) = some (.type "type"))
    (xg_DraftError : PySem.W.nsIn K mainGlobals "DraftError" = some (some (.ref C_DraftError)))
    (xb_DraftError : PySem.W.subIn K (.ref C_DraftError) (.type "BaseException") = some true)
    (xt_DraftError : PySem.W.typeIn K (.ref C_DraftError) = some (.type "type"))
    (xi_DraftError : PySem.W.isClsIn K C_DraftError = true)
    (xs_NoDeed_DraftError : PySem.W.subIn K (.ref C_NoDeed) (.ref C_DraftError) = some true)
    (cg_Log : PySem.W.nsIn K mainGlobals "Log" = some (some (.ref C_Log)))
    (cp_Log : PySem.W.plainGet K C_Log Str.empty = true)
    (ch_Log : PySem.W.hasDictIn K C_Log = true)
    (co_Log : PySem.W.plainOver K C_Log = true)
    (cs_Log : PySem.W.findIn K (.ref C_Log) "__setattr__" = some (some (.builtin "object.__setattr__")))
    (cm_Log : PySem.W.makesIn K C_Log = true)
    (ck_Log : PySem.W.keepIn K (.ref C_Log) = true)
    (n_Log_standing : PySem.W.findIn K (.ref C_Log) "standing" = some none)
    (n_Log_undone : PySem.W.findIn K (.ref C_Log) "undone" = some none)
    (z_enumerate : PySem.W.nsIn K mainGlobals "enumerate" = some none)
    (z_len : PySem.W.nsIn K mainGlobals "len" = some none)
    (z_list : PySem.W.nsIn K mainGlobals "list" = some none)
    (z_range : PySem.W.nsIn K mainGlobals "range" = some none)
    (z_set : PySem.W.nsIn K mainGlobals "set" = some none)
    (z_sorted : PySem.W.nsIn K mainGlobals "sorted" = some none)
    (LAW : ∀ ns : List Int, ns.length ≤ 63 → ∃ t, m_law [.ref 0] [.scr ns] = .ok (.bl true) t) :
    ∃ fd : FuncData, (∀ (s : Shared) (v : Value), BindsTo s fd ⟨[v], []⟩ [("_law_script", v)]) ∧ ∀ base : Heap, K.In base → base.Ns mainGlobals mg → FnOk P w K mg base (L2.CX P w) 4 fa fd ["_law_script"] (spScr K) := by
  have e := hfa.symm.trans (PySem.W.mg_of X G a_law)
  cases e
  have CN : ∃ cn : Cn, cn "NoDeed" = C_NoDeed ∧ cn "DraftError" = C_DraftError ∧ cn "Log" = C_Log ∧ True := ⟨fun s => (if s = "NoDeed" then C_NoDeed else (if s = "DraftError" then C_DraftError else (if s = "Log" then C_Log else 0))), by simp, by simp, by simp, trivial⟩
  obtain ⟨cn, q_NoDeed, q_DraftError, q_Log, _⟩ := CN
  subst q_NoDeed; subst q_DraftError; subst q_Log
  have M_DraftError : ∀ y b, cf_DraftError y = some b → PySem.W.exmOne K (.ref (cn y)) (.ref (cn "DraftError")) = some b := fun y b e => by
    unfold cf_DraftError at e
    split at e
    · rename_i q; subst q; cases e; exact exm_of xb_DraftError xi_DraftError xt_DraftError xs_NoDeed_DraftError
    cases e
   
  have T : Txt K mg cn := { b_enumerate := PySem.W.mg_none_of X G z_enumerate, b_len := PySem.W.mg_none_of X G z_len, b_list := PySem.W.mg_none_of X G z_list, b_range := PySem.W.mg_none_of X G z_range, b_set := PySem.W.mg_none_of X G z_set, b_sorted := PySem.W.mg_none_of X G z_sorted, x_NoDeed := ⟨PySem.W.mg_of X G xg_NoDeed, xx_NoDeed, xk_NoDeed, xb_NoDeed, xt_NoDeed⟩, h_DraftError := PySem.W.mg_of X G xg_DraftError, m_DraftError := M_DraftError, c_Log := ⟨cp_Log, ch_Log, co_Log, cs_Log⟩, n_Log_standing := n_Log_standing, n_Log_undone := n_Log_undone }
  have F_Log___init__ := fun_mk (st := s_Log___init__) l_Log___init__ c_Log___init__ k_Log___init__
  have B_Log___init__ := F_Log___init__.binds (ps := ["self"]) fun _ _ _ _ _ _ us hl => match us, hl with | [_], _ => rfl
  have F_Log_forget := fun_mk (st := s_Log_forget) l_Log_forget c_Log_forget k_Log_forget
  have B_Log_forget := F_Log_forget.binds (ps := ["self"]) fun _ _ _ _ _ _ us hl => match us, hl with | [_], _ => rfl
  have F_Log_add := fun_mk (st := s_Log_add) l_Log_add c_Log_add k_Log_add
  have B_Log_add := F_Log_add.binds (ps := ["self", "entry"]) fun _ _ _ _ _ _ us hl => match us, hl with | [_, _], _ => rfl
  have F__law_changed := fun_mk (st := s__law_changed) l__law_changed c__law_changed k__law_changed
  have B__law_changed := F__law_changed.binds (ps := ["_law_rows", "_law_cell"]) fun _ _ _ _ _ _ us hl => match us, hl with | [_, _], _ => rfl
  have F__law_entry := fun_mk (st := s__law_entry) l__law_entry c__law_entry k__law_entry
  have B__law_entry := F__law_entry.binds (ps := ["_law_cell", "_law_k"]) fun _ _ _ _ _ _ us hl => match us, hl with | [_, _], _ => rfl
  have F_Log_again := fun_mk (st := s_Log_again) l_Log_again c_Log_again k_Log_again
  have B_Log_again := F_Log_again.binds (ps := ["self"]) fun _ _ _ _ _ _ us hl => match us, hl with | [_], _ => rfl
  have F_Log_undo := fun_mk (st := s_Log_undo) l_Log_undo c_Log_undo k_Log_undo
  have B_Log_undo := F_Log_undo.binds (ps := ["self"]) fun _ _ _ _ _ _ us hl => match us, hl with | [_], _ => rfl
  have F__law_turned := fun_mk (st := s__law_turned) l__law_turned c__law_turned k__law_turned
  have B__law_turned := F__law_turned.binds (ps := ["_law_log", "_law_back"]) fun _ _ _ _ _ _ us hl => match us, hl with | [_, _], _ => rfl
  have F__law_deed := fun_mk (st := s__law_deed) l__law_deed c__law_deed k__law_deed
  have B__law_deed := F__law_deed.binds (ps := ["_law_log", "_law_stand", "_law_gone", "_law_cell", "_law_k"]) fun _ _ _ _ _ _ us hl => match us, hl with | [_, _, _, _, _], _ => rfl
  have F__law_emptied := fun_mk (st := s__law_emptied) l__law_emptied c__law_emptied k__law_emptied
  have B__law_emptied := F__law_emptied.binds (ps := ["_law_log", "_law_stand"]) fun _ _ _ _ _ _ us hl => match us, hl with | [_, _], _ => rfl
  have F__law_mixed := fun_mk (st := s__law_mixed) l__law_mixed c__law_mixed k__law_mixed
  have B__law_mixed := F__law_mixed.binds (ps := ["_law_cell", "_law_k"]) fun _ _ _ _ _ _ us hl => match us, hl with | [_, _], _ => rfl
  have F_Log_many := fun_mk (st := s_Log_many) l_Log_many c_Log_many k_Log_many
  have B_Log_many := F_Log_many.binds (ps := ["self"]) fun _ _ _ _ _ _ us hl => match us, hl with | [_], _ => rfl
  have F_Log_touched := fun_mk (st := s_Log_touched) l_Log_touched c_Log_touched k_Log_touched
  have B_Log_touched := F_Log_touched.binds (ps := ["self"]) fun _ _ _ _ _ _ us hl => match us, hl with | [_], _ => rfl
  have F__law_marks := fun_mk (st := s__law_marks) l__law_marks c__law_marks k__law_marks
  have B__law_marks := F__law_marks.binds (ps := ["_law_entries"]) fun _ _ _ _ _ _ us hl => match us, hl with | [_], _ => rfl
  have F__law_told := fun_mk (st := s__law_told) l__law_told c__law_told k__law_told
  have B__law_told := F__law_told.binds (ps := ["_law_log", "_law_stand", "_law_gone", "_law_cell"]) fun _ _ _ _ _ _ us hl => match us, hl with | [_, _, _, _], _ => rfl
  have F_law := fun_mk (st := s_law) l_law c_law k_law
  have B_law := F_law.binds (ps := ["_law_script"]) fun _ _ _ _ _ _ us hl => match us, hl with | [_], _ => rfl
  refine ⟨PySem.W.fnOf "law" "law" (defArgs s_law) (defBody s_law) (defScope s_law) .none kV_law dc_law pm_law an_law cd_law ct_law, fun s v => .of_eq rfl, fun base _ _ => ?_⟩
  have D_Log___init__ : MakeOk P w K mg base cn "Log" 1 1 m_Log___init__ := ⟨_, _, _, PySem.W.mg_of X G cg_Log, ⟨cm_Log, a_Log___init__, i_Log___init__, ck_Log⟩, B_Log___init__, ok_Log___init__ (P := P) (w := w) (base := base) F_Log___init__ T⟩
  have D_Log_forget : MethOk P w K mg base cn "Log" "forget" 1 1 m_Log_forget := ⟨_, _, _, ⟨a_Log_forget, i_Log_forget, k_Log_forget⟩, B_Log_forget, ok_Log_forget (P := P) (w := w) (base := base) F_Log_forget T⟩
  have D_Log_add : MethOk P w K mg base cn "Log" "add" 2 2 m_Log_add := ⟨_, _, _, ⟨a_Log_add, i_Log_add, k_Log_add⟩, B_Log_add, ok_Log_add (P := P) (w := w) (base := base) F_Log_add T D_Log_forget⟩
  have D__law_changed : DefOk P w K mg base cn "_law_changed" 2 1 m__law_changed := ⟨_, _, _, PySem.W.mg_of X G a__law_changed, k__law_changed, B__law_changed, ok__law_changed (P := P) (w := w) (base := base) F__law_changed T⟩
  have D__law_entry : DefOk P w K mg base cn "_law_entry" 2 1 m__law_entry := ⟨_, _, _, PySem.W.mg_of X G a__law_entry, k__law_entry, B__law_entry, ok__law_entry (P := P) (w := w) (base := base) F__law_entry T⟩
  have D_Log_again : MethOk P w K mg base cn "Log" "again" 1 1 m_Log_again := ⟨_, _, _, ⟨a_Log_again, i_Log_again, k_Log_again⟩, B_Log_again, ok_Log_again (P := P) (w := w) (base := base) F_Log_again T⟩
  have D_Log_undo : MethOk P w K mg base cn "Log" "undo" 1 1 m_Log_undo := ⟨_, _, _, ⟨a_Log_undo, i_Log_undo, k_Log_undo⟩, B_Log_undo, ok_Log_undo (P := P) (w := w) (base := base) F_Log_undo T⟩
  have D__law_turned : DefOk P w K mg base cn "_law_turned" 2 2 m__law_turned := ⟨_, _, _, PySem.W.mg_of X G a__law_turned, k__law_turned, B__law_turned, ok__law_turned (P := P) (w := w) (base := base) F__law_turned T D_Log_again D_Log_undo⟩
  have D__law_deed : DefOk P w K mg base cn "_law_deed" 5 3 m__law_deed := ⟨_, _, _, PySem.W.mg_of X G a__law_deed, k__law_deed, B__law_deed, ok__law_deed (P := P) (w := w) (base := base) F__law_deed T D_Log_add D__law_changed D__law_entry D__law_turned⟩
  have D__law_emptied : DefOk P w K mg base cn "_law_emptied" 2 3 m__law_emptied := ⟨_, _, _, PySem.W.mg_of X G a__law_emptied, k__law_emptied, B__law_emptied, ok__law_emptied (P := P) (w := w) (base := base) F__law_emptied T D__law_turned⟩
  have D__law_mixed : DefOk P w K mg base cn "_law_mixed" 2 1 m__law_mixed := ⟨_, _, _, PySem.W.mg_of X G a__law_mixed, k__law_mixed, B__law_mixed, ok__law_mixed (P := P) (w := w) (base := base) F__law_mixed T⟩
  have D_Log_many : MethOk P w K mg base cn "Log" "many" 1 1 m_Log_many := ⟨_, _, _, ⟨a_Log_many, i_Log_many, k_Log_many⟩, B_Log_many, ok_Log_many (P := P) (w := w) (base := base) F_Log_many T⟩
  have D_Log_touched : MethOk P w K mg base cn "Log" "touched" 1 1 m_Log_touched := ⟨_, _, _, ⟨a_Log_touched, i_Log_touched, k_Log_touched⟩, B_Log_touched, ok_Log_touched (P := P) (w := w) (base := base) F_Log_touched T⟩
  have D__law_marks : DefOk P w K mg base cn "_law_marks" 1 1 m__law_marks := ⟨_, _, _, PySem.W.mg_of X G a__law_marks, k__law_marks, B__law_marks, ok__law_marks (P := P) (w := w) (base := base) F__law_marks T⟩
  have D__law_told : DefOk P w K mg base cn "_law_told" 4 2 m__law_told := ⟨_, _, _, PySem.W.mg_of X G a__law_told, k__law_told, B__law_told, ok__law_told (P := P) (w := w) (base := base) F__law_told T D_Log_many D_Log_touched D__law_marks⟩
  exact (ok_law (P := P) (w := w) (base := base) F_law T D_Log___init__ D__law_deed D__law_emptied D__law_mixed D__law_told).imp fun vs H Q E hh => scr_sp LAW hh
end K19

set_option Elab.async false
set_option linter.all false
set_option maxRecDepth 100000
set_option maxHeartbeats 4000000
/-! P19: the logs' mirrors in plain Lean. -/
namespace K19
open PySem L2 Mn Ms

abbrev Row := Pr × Val × Val
def rowV (r : Row) : Val := .tup [pv r.1, r.2.1, r.2.2]
abbrev Ent := List Row
def entV (e : Ent) : List Val := e.map rowV
def OkE (e : Ent) : Prop := e.length ≤ 2 ∧ ∃ ks, toKs (entV e) = some ks ∧ NestedKey.depthAll ks ≤ 20
abbrev Ls := List (Nat × Ent)
def refs (L : Ls) : List Val := L.map fun x => .ref x.1
def Std (t : Sto) (L : Ls) : Prop := ∀ x ∈ L, t[x.1]? = some (.lst (entV x.2)) ∧ OkE x.2
structure Ctl where
  o : Nat
  s : Nat
  u : Nat
  gs : Nat
  gu : Nat
def Ctl.l (c : Ctl) : List Nat := [c.o, c.s, c.u, c.gs, c.gu]
/-- a log of the program at c.o beside the law's own two lists -/
structure LogAt (t : Sto) (c : Ctl) (LS LU GS GU : Ls) : Prop where
  ob : t[c.o]? = some (.ins "Log" [("standing", .ref c.s), ("undone", .ref c.u)])
  s : t[c.s]? = some (.lst (refs LS))
  u : t[c.u]? = some (.lst (refs LU))
  gs : t[c.gs]? = some (.lst (refs GS))
  gu : t[c.gu]? = some (.lst (refs GU))
  all : Std t (LS ++ LU ++ GS ++ GU)
  eq1 : LS.map (·.2) = GS.map (·.2)
  eq2 : LU.map (·.2) = GU.map (·.2)
  nd : c.l.Nodup
  ap : ∀ x ∈ LS ++ LU ++ GS ++ GU, x.1 ∉ c.l
theorem Std.keep {t t' : Sto} {C : List Nat} {L : Ls} (h : Std t L) (k : KX C t t') (hc : ∀ x ∈ L, x.1 ∉ C) : Std t' L := fun x hx => ⟨k.2 _ _ (h x hx).1 (hc x hx), (h x hx).2⟩
theorem LogAt.keep {t t' : Sto} {c : Ctl} {LS LU GS GU : Ls} {C : List Nat} (h : LogAt t c LS LU GS GU) (k : KX C t t') (h1 : ∀ n ∈ c.l, n ∉ C) (h2 : ∀ x ∈ LS ++ LU ++ GS ++ GU, x.1 ∉ C) : LogAt t' c LS LU GS GU where
  ob := k.2 _ _ h.ob (h1 _ (by simp [Ctl.l]))
  s := k.2 _ _ h.s (h1 _ (by simp [Ctl.l]))
  u := k.2 _ _ h.u (h1 _ (by simp [Ctl.l]))
  gs := k.2 _ _ h.gs (h1 _ (by simp [Ctl.l]))
  gu := k.2 _ _ h.gu (h1 _ (by simp [Ctl.l]))
  all := h.all.keep k h2
  eq1 := h.eq1
  eq2 := h.eq2
  nd := h.nd
  ap := h.ap
theorem LogAt.kp {t t' : Sto} {c : Ctl} {LS LU GS GU : Ls} (h : LogAt t c LS LU GS GU) (k : KX [] t t') : LogAt t' c LS LU GS GU := h.keep k (fun _ _ => by simp) (fun _ _ => by simp)
theorem refs_ix (L : Ls) (i : Nat) : (refs L)[i]? = L[i]?.map fun x => .ref x.1 := by unfold refs; rw [List.getElem?_map]

/-! ### marks -/
def marksOf (es : List Ent) : List Pr := es.flatten.map (·.1)
theorem marksOf_snoc (es : List Ent) (e : Ent) : marksOf (es ++ [e]) = marksOf es ++ e.map (·.1) := by
  unfold marksOf
  rw [List.flatten_append, List.map_append]
  simp
theorem take_snoc {α β : Type} (f : α → β) (l : List α) {i : Nat} {x : α} (h : l[i]? = some x) : (l.take (i + 1)).map f = (l.take i).map f ++ [f x] := by
  rw [List.take_succ, h, List.map_append]; rfl
/-- sorted sets of the same members -/
theorem srtP_congr {a b : List Pr} (h : ∀ x, x ∈ a ↔ x ∈ b) : srtP a = srtP b := sorted_uniq _ _ (sorted_srtP _) (sorted_srtP _) fun x => by rw [mem_srtP, mem_srtP, h]
theorem keysOf_pv (p : Pr) : keysOf [.int p.1, .int p.2] = some [.inl p.1, .inl p.2] := rfl
theorem kPrs_any {p : Pr} : ∀ {kvs : List (List Key × Val)} {ps : List Pr}, kPrs kvs = some ps → (kvs.any fun kv => decide (kv.1 = ([.inl p.1, .inl p.2] : List Key))) = decide (p ∈ ps)
  | [], ps, h => by simp only [kPrs] at h; cases h; simp
  | kv :: r, ps, h => by
    simp only [kPrs] at h
    split at h
    · rename_i q ps' e1 e2
      cases h
      rw [List.any_cons, kPrs_any e2]
      have e3 : decide (kv.1 = ([.inl p.1, .inl p.2] : List Key)) = decide (p = q) := by
        unfold kPr at e1
        split at e1
        · rename_i a b ek
          cases e1
          rw [ek]
          obtain ⟨x, y⟩ := p
          by_cases e : (x, y) = (a, b)
          · cases e; simp
          · rw [decide_eq_false e, decide_eq_false]
            intro z
            injection z with z1 z2
            injection z1 with z1
            injection z2 with z2 z3
            injection z2 with z2
            exact e (by rw [z1, z2])
        · cases e1
      rw [e3]
      by_cases e : p = q <;> simp [e]
    · cases h
theorem kPrs_map {p : Pr} {v : Val} : ∀ {kvs : List (List Key × Val)} {ps : List Pr}, kPrs kvs = some ps → kPrs (kvs.map fun kv => if kv.1 = ([.inl p.1, .inl p.2] : List Key) then (kv.1, v) else kv) = some ps
  | [], ps, h => h
  | kv :: r, ps, h => by
    simp only [kPrs] at h
    split at h
    · rename_i q ps' e1 e2
      cases h
      have e3 : kPr (if kv.1 = ([.inl p.1, .inl p.2] : List Key) then (kv.1, v) else kv).1 = some q := by split <;> exact e1
      simp only [List.map_cons, kPrs, e3, kPrs_map e2]
    · cases h
theorem kPrs_app {p : Pr} {v : Val} : ∀ {kvs : List (List Key × Val)} {ps : List Pr}, kPrs kvs = some ps → kPrs (kvs ++ [(([.inl p.1, .inl p.2] : List Key), v)]) = some (ps ++ [p])
  | [], ps, h => by simp only [kPrs] at h; cases h; rfl
  | kv :: r, ps, h => by
    simp only [kPrs] at h
    split at h
    · rename_i q ps' e1 e2
      cases h
      simp only [List.cons_append, kPrs, e1, kPrs_app e2]
    · cases h
theorem kPrs_put {p : Pr} {v : Val} {kvs : List (List Key × Val)} {ps : List Pr} (h : kPrs kvs = some ps) : kPrs (vPut kvs [.inl p.1, .inl p.2] v) = some (if p ∈ ps then ps else ps ++ [p]) := by
  unfold vPut
  rw [kPrs_any h]
  by_cases e : p ∈ ps
  · rw [decide_eq_true e, if_pos rfl, if_pos e]; exact kPrs_map h
  · rw [decide_eq_false e, if_neg Bool.false_ne_true, if_neg e]; exact kPrs_app h

/-! ### touched -/
abbrev T1 : S := mFor (mIAny (mVar 2)) (tgTup (tgCons (tgN 3) (tgCons (tgN 4) (tgCons (tgN 5) tgNil)))) (mStore (mVar 1) (mVar 3) (mC (.bl true)))
theorem nxt_at {t : Sto} {n i : Nat} {xs : List Val} (h : t[n]? = some (.lst xs)) : nxt (.lst n) i t = some xs[i]? := by
  unfold nxt; dsimp only; rw [h]
theorem fuel_lst {t : Sto} {n : Nat} {xs : List Val} (h : t[n]? = some (.lst xs)) : fuel (.lst n) t = xs.length := by
  unfold fuel; dsimp only; rw [h]
theorem src_lst {t : Sto} {sl : Sl} {e : E} {n : Nat} {xs : List Val} (he : e sl t = .ok (.ref n) t) (h : t[n]? = some (.lst xs)) : mIAny e sl t = .ok (.lst n) t := by
  unfold mIAny; rw [he, Out.bind_ok]; dsimp only; rw [h]
theorem inner_ok {t : Sto} {o d p : Nat} {e : Ent} {kvs : List (List Key × Val)} {ps : List Pr} {o3 o4 o5 : Option Val} (hp : t[p]? = some (.lst (entV e))) (hd : t[d]? = some (.dT kvs)) (hk : kPrs kvs = some ps) (ne : p ≠ d) (hz : ps.length + e.length ≤ 1000) :
    ∃ (o3' o4' o5' : Option Val) (t' : Sto) (kvs' : List (List Key × Val)) (ps' : List Pr), T1 [some (.ref o), some (.ref d), some (.ref p), o3, o4, o5] t = .nx [some (.ref o), some (.ref d), some (.ref p), o3', o4', o5'] t' ∧
      KX [d] t t' ∧ t'[d]? = some (.dT kvs') ∧ kPrs kvs' = some ps' ∧ (∀ x, x ∈ ps' ↔ x ∈ ps ∨ x ∈ e.map (·.1)) ∧ ps'.length ≤ ps.length + e.length := by
  obtain ⟨sl', t', er, ⟨o3', o4', o5', rfl⟩, kx, kvs', ps', g1, g2, g3, g4⟩ := mFor_run (src := mIAny (mVar 2)) (g := tgTup (tgCons (tgN 3) (tgCons (tgN 4) (tgCons (tgN 5) tgNil)))) (b := mStore (mVar 1) (mVar 3) (mC (.bl true))) (n := e.length)
    (fun i sl t' => (∃ o3' o4' o5', sl = [some (.ref o), some (.ref d), some (.ref p), o3', o4', o5']) ∧ KX [d] t t' ∧ ∃ kvs' ps', t'[d]? = some (.dT kvs') ∧ kPrs kvs' = some ps' ∧ (∀ x, x ∈ ps' ↔ x ∈ ps ∨ x ∈ (e.take i).map (·.1)) ∧ ps'.length ≤ ps.length + i)
    (sl := [some (.ref o), some (.ref d), some (.ref p), o3, o4, o5]) (src_lst (mVar_ok rfl) hp) (by rw [fuel_lst hp]; simp [entV])
    ⟨⟨o3, o4, o5, rfl⟩, KX.refl _ _, kvs, ps, hd, hk, by simp, by omega⟩
    (by
      rintro i sl t1 hi ⟨⟨a3, a4, a5, rfl⟩, kx, kv1, ps1, g1, g2, g3, g4⟩
      have hp1 := kx.2 _ _ hp (by simpa using ne)
      have ei : e[i]? = some e[i] := List.getElem?_eq_getElem hi
      refine ⟨rowV e[i], [some (.ref o), some (.ref d), some (.ref p), some (pv e[i].1), some e[i].2.1, some e[i].2.2], by rw [nxt_at hp1]; unfold entV; rw [List.getElem?_map, ei]; rfl, rfl, [some (.ref o), some (.ref d), some (.ref p), some (pv e[i].1), some e[i].2.1, some e[i].2.2], t1.set d (.dT (vPut kv1 [.inl e[i].1.1, .inl e[i].1.2] (.bl true))), .inl ?_, ⟨_, _, _, rfl⟩, kx.trans (KX.set _ _ (by simp)), _, _, sto_set g1, kPrs_put g2, fun x => ?_, ?_⟩
      · have hlen : kv1.length < sizeLine := by rw [kPrs_len g2, sizeLine_eq]; omega
        have hs : gSet (.ref d) (pv e[i].1) (.bl true) t1 = some (t1.set d (.dT (vPut kv1 [.inl e[i].1.1, .inl e[i].1.2] (.bl true)))) := by
          unfold gSet Mn.pv
          simp only [g1, keysOf_pv, if_pos hlen]
        show (match gSet (.ref d) (pv e[i].1) (.bl true) t1 with | some t4 => SO.nx _ t4 | none => .bad) = _
        rw [hs]
      · rw [List.take_succ, ei]
        simp only [Option.toList_some, List.map_append, List.map_cons, List.map_nil, List.mem_append, List.mem_singleton]
        split
        · rename_i hm
          rw [g3]
          constructor
          · rintro (z | z)
            · exact .inl z
            · exact .inr (.inl z)
          · rintro (z | z | z)
            · exact .inl z
            · exact .inr z
            · subst z; exact (g3 _).mp hm
        · rw [List.mem_append, List.mem_singleton, g3]
          constructor
          · rintro ((z | z) | z)
            · exact .inl z
            · exact .inr (.inl z)
            · exact .inr (.inr z)
          · rintro (z | z | z)
            · exact .inl (.inl z)
            · exact .inl (.inr z)
            · exact .inr z
      · split
        · omega
        · rw [List.length_append, List.length_singleton]; omega)
    (by
      rintro sl t1 ⟨_, kx, _⟩
      rw [nxt_at (kx.2 _ _ hp (by simpa using ne))]
      unfold entV
      rw [List.getElem?_map, List.getElem?_eq_none (Nat.le_refl _)]; rfl)
  exact ⟨o3', o4', o5', t', kvs', ps', er, kx, g1, g2, by rw [List.take_length] at g3; exact g3, g4⟩
theorem touched_ok {t : Sto} {o s u : Nat} {LS : Ls} (hob : t[o]? = some (.ins "Log" [("standing", .ref s), ("undone", .ref u)])) (hs : t[s]? = some (.lst (refs LS))) (hstd : Std t LS) (hz : LS.length ≤ 100) :
    ∃ n t', m_Log_touched [.ref o] t = .ok (.ref n) t' ∧ KX [] t t' ∧ t.length ≤ n ∧ t'[n]? = some (.lst ((srtP (marksOf (LS.map (·.2)))).map pv)) := by
  have k0 : KX [] t (t ++ [.dT []]) := KX.app _ _
  have s0 : s < t.length := sto_lt hs
  have fz : ∀ x ∈ LS, x.1 < t.length := fun x hx => sto_lt (hstd x hx).1
  have hfld : mFld "Log" "standing" (mVar 0) [some (.ref o), some (.ref t.length), none, none, none, none] (t ++ [.dT []]) = .ok (.ref s) (t ++ [.dT []]) := mFld_ok (mVar_ok rfl) (sto_old hob) rfl
  obtain ⟨sl', t', er, ⟨o2, o3, o4, o5, rfl⟩, kx, kvs, ps, g1, g2, g3, g4⟩ := mFor_run (src := mIAny (mFld "Log" "standing" (mVar 0))) (g := tgN 2) (b := T1) (n := LS.length)
    (fun i sl t' => (∃ o2 o3 o4 o5, sl = [some (.ref o), some (.ref t.length), o2, o3, o4, o5]) ∧ KX [t.length] (t ++ [.dT []]) t' ∧ ∃ kvs ps, t'[t.length]? = some (.dT kvs) ∧ kPrs kvs = some ps ∧ (∀ x, x ∈ ps ↔ x ∈ marksOf ((LS.take i).map (·.2))) ∧ ps.length ≤ 2 * i)
    (sl := [some (.ref o), some (.ref t.length), none, none, none, none]) (src_lst hfld (sto_old hs)) (by rw [fuel_lst (sto_old hs)]; simp [refs])
    ⟨⟨none, none, none, none, rfl⟩, KX.refl _ _, [], [], sto_new, rfl, by simp [marksOf], by simp⟩
    (by
      rintro i sl t1 hi ⟨⟨a2, a3, a4, a5, rfl⟩, kx, kv1, ps1, g1, g2, g3, g4⟩
      have ei : LS[i]? = some LS[i] := List.getElem?_eq_getElem hi
      have mem : LS[i] ∈ LS := List.getElem_mem hi
      have st := hstd _ mem
      have hp1 : t1[LS[i].1]? = some (.lst (entV LS[i].2)) := kx.2 _ _ (sto_old st.1) (by have := fz _ mem; simp; omega)
      have hs1 : t1[s]? = some (.lst (refs LS)) := kx.2 _ _ (sto_old hs) (by simp; omega)
      obtain ⟨b3, b4, b5, t2, kv2, ps2, er, kx2, f1, f2, f3, f4⟩ := inner_ok (o := o) (o3 := a3) (o4 := a4) (o5 := a5) hp1 g1 g2 (by have := fz _ mem; omega) (by have := st.2.1; omega)
      refine ⟨.ref LS[i].1, _, by rw [nxt_at hs1, refs_ix, ei]; rfl, rfl, _, t2, .inl er, ⟨_, _, _, _, rfl⟩, kx.trans kx2, kv2, ps2, f1, f2, fun x => ?_, by have := st.2.1; omega⟩
      rw [f3, g3, take_snoc _ _ ei, marksOf_snoc, List.mem_append])
    (by
      rintro sl t1 ⟨_, kx, _⟩
      rw [nxt_at (kx.2 _ _ (sto_old hs) (by simp; omega)), refs_ix, List.getElem?_eq_none (Nat.le_refl _)]; rfl)
  have kt : KX [] t t' := ⟨by have := kx.1; simp at this; omega, fun n ob e _ => kx.2 _ _ (sto_old e) (by have := sto_lt e; simp; omega)⟩
  refine ⟨t'.length, t' ++ [.lst ((srtP (marksOf (LS.map (·.2)))).map pv)], ?_, kt.trans (KX.app _ _), kt.1, sto_new⟩
  refine mDef_rt (t' := t' ++ [.lst ((srtP (marksOf (LS.map (·.2)))).map pv)]) ?_
  unfold b_Log_touched
  refine step (by rfl) (step er (mRet_ok (mCB_ok (mAs_one (mVar_ok rfl)) ?_)))
  unfold gSrtD
  simp only [g1, g2]
  rw [if_pos (by omega)]
  have e : srtP ps = srtP (marksOf (LS.map (·.2))) := srtP_congr fun x => by rw [g3, List.take_length]
  rw [e]
end K19

set_option Elab.async false
set_option linter.all false
set_option maxRecDepth 100000
set_option maxHeartbeats 4000000
namespace K19
open PySem L2 Mn Ms
abbrev gM : Tg := tgTup (tgCons (tgN 3) (tgCons (tgN 4) (tgCons (tgN 5) tgNil)))
theorem set_end {t : Sto} {a b : Ob} : (t ++ [a]).set t.length b = t ++ [b] := by simp
/-- [mark for mark, before, after in entry] -/
theorem comp_go {t : Sto} {p : Nat} {e : Ent} {a b c : Option Val} (hp : t[p]? = some (.lst (entV e))) (hz : e.length ≤ 1000) : ∀ (k i : Nat) (acc : List Val), e.length - i ≤ k → i ≤ e.length → acc.length ≤ i →
    loopC gM mYes (mVar 3) (.lst p) t.length [a, b, c, none, none, none] k i (t ++ [.lst acc]) = .ok (.ref t.length) (t ++ [.lst (acc ++ (e.drop i).map fun r => Mn.pv r.1)])
  | k, i, acc, hk, hi, ha => by
    rw [loopC_eq, nxt_at (sto_old hp)]
    unfold entV
    rw [List.getElem?_map]
    by_cases h : i < e.length
    · have ei : e[i]? = some e[i] := List.getElem?_eq_getElem h
      rw [ei]
      cases k with
      | zero => omega
      | succ k =>
        show (match (t ++ [Ob.lst acc])[t.length]? with
          | some (.lst acc') => if acc'.length < sizeLine then loopC gM mYes (mVar 3) (.lst p) t.length [a, b, c, none, none, none] k (i + 1) ((t ++ [Ob.lst acc]).set t.length (Ob.lst (acc' ++ [Mn.pv e[i].1]))) else .bad
          | _ => .bad) = _
        rw [sto_new]
        dsimp only
        rw [if_pos (by rw [sizeLine_eq]; omega), set_end, comp_go hp hz k (i + 1) (acc ++ [Mn.pv e[i].1]) (by omega) (by omega) (by rw [List.length_append, List.length_singleton]; omega)]
        have ed : e.drop i = e[i] :: e.drop (i + 1) := List.drop_eq_getElem_cons h
        rw [ed, List.map_cons, List.append_assoc]; rfl
    · rw [List.getElem?_eq_none (by omega), List.drop_of_length_le (by omega), List.map_nil, List.append_nil]
      rfl
theorem comp_ok {t : Sto} {p : Nat} {e : Ent} {a b o3 o4 o5 : Option Val} (hp : t[p]? = some (.lst (entV e))) (hz : e.length ≤ 1000) :
    mLc (mIAny (mVar 2)) gM mYes (mVar 3) [3, 4, 5] [a, b, some (.ref p), o3, o4, o5] t = .ok (.ref t.length) (t ++ [.lst ((e.map (·.1)).map Mn.pv)]) := by
  unfold mLc
  rw [src_lst (mVar_ok rfl) hp, Out.bind_ok, fuel_lst hp]
  have q := comp_go (a := a) (b := b) (c := some (.ref p)) hp hz (entV e).length 0 [] (by simp [entV]) (Nat.zero_le _) (Nat.zero_le _)
  rw [List.drop_zero, List.nil_append] at q
  rw [List.map_map]
  exact q
theorem asPrs_pv (ps : List Pr) : asPrs (ps.map Mn.pv) = some ps := asPrs_map ps
theorem marks_ok {t : Sto} {g : Nat} {GS : Ls} (hs : t[g]? = some (.lst (refs GS))) (hstd : Std t GS) (hz : GS.length ≤ 100) :
    ∃ n t', m__law_marks [.ref g] t = .ok (.ref n) t' ∧ KX [] t t' ∧ t.length ≤ n ∧ t'[n]? = some (.lst ((srtP (marksOf (GS.map (·.2)))).map Mn.pv)) := by
  obtain ⟨sl', t', er, ⟨f, o2, o3, o4, o5, rfl, g1, gf⟩, kx⟩ := mFor_run (src := mIAny (mVar 0)) (g := tgN 2) (b := mAsg (tgN 1) (mBin gAdd (mVar 1) (mLc (mIAny (mVar 2)) gM mYes (mVar 3) [3, 4, 5]))) (n := GS.length)
    (fun i sl t' => (∃ f o2 o3 o4 o5, sl = [some (.ref g), some (.ref f), o2, o3, o4, o5] ∧ t'[f]? = some (.lst ((marksOf ((GS.take i).map (·.2))).map Mn.pv)) ∧ (marksOf ((GS.take i).map (·.2))).length ≤ 2 * i) ∧ KX [] (t ++ [.lst []]) t')
    (sl := [some (.ref g), some (.ref t.length), none, none, none, none]) (src_lst (mVar_ok rfl) (sto_old hs)) (by rw [fuel_lst (sto_old hs)]; simp [refs])
    ⟨⟨t.length, none, none, none, none, rfl, sto_new, by simp [marksOf]⟩, KX.refl _ _⟩
    (by
      rintro i sl t1 hi ⟨⟨f, o2, o3, o4, o5, rfl, g1, gl⟩, kx⟩
      have ei : GS[i]? = some GS[i] := List.getElem?_eq_getElem hi
      have mem : GS[i] ∈ GS := List.getElem_mem hi
      have st := hstd _ mem
      have hp1 : t1[GS[i].1]? = some (.lst (entV GS[i].2)) := kx.2 _ _ (sto_old st.1) (by simp)
      have hs1 : t1[g]? = some (.lst (refs GS)) := kx.2 _ _ (sto_old hs) (by simp)
      have em := take_snoc (fun x : Nat × Ent => x.2) GS ei
      have e2 := st.2.1
      have c := comp_ok (a := some (.ref g)) (b := some (.ref f)) (o3 := o3) (o4 := o4) (o5 := o5) hp1 (by omega)
      have ga : gAdd (.ref f) (.ref t1.length) (t1 ++ [.lst ((GS[i].2.map (·.1)).map Mn.pv)]) = some (.ref (t1.length + 1), t1 ++ [.lst ((GS[i].2.map (·.1)).map Mn.pv)] ++ [.lst ((marksOf ((GS.take i).map (·.2))).map Mn.pv ++ (GS[i].2.map (·.1)).map Mn.pv)]) := by
        unfold gAdd
        simp only [sto_old g1, sto_new]
        rw [if_pos (by rw [List.length_map, List.length_map, List.length_map, sizeLine_eq]; omega)]
        simp
      refine ⟨.ref GS[i].1, _, by rw [nxt_at hs1, refs_ix, ei]; rfl, rfl, [some (.ref g), some (.ref (t1.length + 1)), some (.ref GS[i].1), o3, o4, o5], _, .inl (mSet_ok (mBin_ok (mVar_ok rfl) c ga)), ⟨t1.length + 1, _, _, _, _, rfl, ?_, ?_⟩, kx.trans ((KX.app _ _).trans (KX.app _ _))⟩
      · have e1 : t1.length + 1 = (t1 ++ [Ob.lst ((GS[i].2.map (·.1)).map Mn.pv)]).length := by simp
        rw [e1, sto_new, em, marksOf_snoc, List.map_append]
      · rw [em, marksOf_snoc, List.length_append, List.length_map]; omega)
    (by
      rintro sl t1 ⟨_, kx⟩
      rw [nxt_at (kx.2 _ _ (sto_old hs) (by simp)), refs_ix, List.getElem?_eq_none (Nat.le_refl _)]; rfl)
  rw [List.take_length] at g1 gf
  have kt : KX [] t t' := (KX.app _ _).trans kx
  refine ⟨t'.length, t' ++ [.lst ((srtP (marksOf (GS.map (·.2)))).map Mn.pv)], ?_, kt.trans (KX.app _ _), kt.1, sto_new⟩
  refine mDef_rt (t' := t' ++ [.lst ((srtP (marksOf (GS.map (·.2)))).map Mn.pv)]) ?_
  unfold b__law_marks
  refine step (by rfl) (step er (mRet_ok ?_))
  show ofO (gSrtSet (.ref f) t') = _
  unfold gSrtSet
  simp only [g1, asPrs_pv]
  rw [if_pos (by omega)]; rfl
theorem toKs_prs : ∀ ps : List Pr, toKs (ps.map Mn.pv) = some (ps.map pk)
  | [] => rfl
  | p :: ps => by
    have e : toK (Mn.pv p) = some (pk p) := rfl
    simp only [List.map_cons, toKs, e, toKs_prs ps]
theorem dep_prs : ∀ ps : List Pr, NestedKey.depthAll (ps.map pk) ≤ 1
  | [] => by simp [NestedKey.depthAll]
  | p :: ps => by
    have e : (pk p).depth = 1 := rfl
    simp only [List.map_cons, NestedKey.depthAll, e]
    have := dep_prs ps
    omega
/-- ASKED TWICE, A LOG TELLS THE SAME, and what the law's own lists tell -/
theorem told_ok {t : Sto} {c : Ctl} {LS LU GS GU : Ls} {k : Int} (h : LogAt t c LS LU GS GU) (hz : LS.length ≤ 100) : ∃ t', m__law_told [.ref c.o, .ref c.gs, .ref c.gu, .int k] t = .ok (.bl true) t' ∧ KX [] t t' := by
  have lsg : LS.length = GS.length := by have := congrArg List.length h.eq1; simpa using this
  have lug : LU.length = GU.length := by have := congrArg List.length h.eq2; simpa using this
  have stL : ∀ {t'}, KX [] t t' → Std t' LS ∧ Std t' GS := fun {t'} k => by
    have a := h.kp k
    exact ⟨fun x hx => a.all x (by simp [hx]), fun x hx => a.all x (by simp [hx])⟩
  obtain ⟨n1, t1, e1, k1, l1, q1⟩ := touched_ok h.ob h.s (stL (KX.refl _ _)).1 hz
  have h1 := h.kp k1
  obtain ⟨n2, t2, e2, k2, l2, q2⟩ := marks_ok h1.gs (stL k1).2 (by omega)
  have h2 := h1.kp k2
  have k12 := k1.trans k2
  obtain ⟨n3, t3, e3, k3, l3, q3⟩ : ∃ n3 t3, m_Log_touched [.ref c.o] (t2.set n1 (.lst ((srtP (marksOf (LS.map (·.2)))).map Mn.pv ++ [Mn.pv (0, 1 + k % 7)]))) = .ok (.ref n3) t3 ∧ KX [] (t2.set n1 (.lst ((srtP (marksOf (LS.map (·.2)))).map Mn.pv ++ [Mn.pv (0, 1 + k % 7)]))) t3 ∧ _ ∧ _ := by
    have hs := h2.s
    have fr : ∀ n o, t[n]? = some o → n ≠ n1 := fun n o e z => by have := sto_lt e; omega
    refine touched_ok (s := c.s) (u := c.u) (LS := LS) ?_ ?_ ?_ hz
    · rw [sto_set_ne (Ne.symm (fr _ _ h.ob))]; exact h2.ob
    · rw [sto_set_ne (Ne.symm (fr _ _ h.s))]; exact h2.s
    · intro x hx
      have := (stL (KX.refl [] t)).1 x hx
      exact ⟨by rw [sto_set_ne (Ne.symm (fr _ _ this.1))]; exact ((stL k12).1 x hx).1, this.2⟩
  have k23 : KX [] t (t2.set n1 (.lst ((srtP (marksOf (LS.map (·.2)))).map Mn.pv ++ [Mn.pv (0, 1 + k % 7)]))) := k12.fresh (KX.set _ _ (by simp)) l1
  have kt3 := k23.trans k3
  have h3 := h.kp kt3
  obtain ⟨n4, t4, e4, k4, l4, q4⟩ := marks_ok h3.gs (stL kt3).2 (by omega)
  have q1' := k2.2 _ _ q1 (by simp)
  have dp := dep_prs (srtP (marksOf (LS.map (·.2))))
  refine ⟨t4, ?_, kt3.trans k4⟩
  refine mDef_rt (t' := t4) ?_
  unfold b__law_told
  have s4 : mAsg (tgN 4) (mMeth "Log" "touched" m_Log_touched (mVar 0) []) (mStart 6 [.ref c.o, .ref c.gs, .ref c.gu, .int k]) t = .nx [some (.ref c.o), some (.ref c.gs), some (.ref c.gu), some (.int k), some (.ref n1), none] t1 :=
    mSet_ok (mMeth_ok (mVar_ok rfl) h.ob rfl mAs_nil e1)
  have eqk : ∀ {t' : Sto} {a b : Nat}, t'[a]? = some (.lst ((srtP (marksOf (LS.map (·.2)))).map Mn.pv)) → t'[b]? = some (.lst ((srtP (marksOf (GS.map (·.2)))).map Mn.pv)) → gEq (.ref a) (.ref b) t' = some (.bl true, t') := fun {t' a b} ha hb => by
    rw [← h.eq1] at hb
    rw [gEq_lst ha hb (toKs_prs _) (toKs_prs _) (by omega) (by omega), NestedKey.beqAll_self]
  have s5 : mAsg (tgN 5) (mAndV (mBin gEq (mVar 4) (mCall m__law_marks [(mVar 1)])) (mBin gEq (mMeth "Log" "many" m_Log_many (mVar 0) []) (mTup [(mCB gLen [(mVar 1)]), (mCB gLen [(mVar 2)])]))) [some (.ref c.o), some (.ref c.gs), some (.ref c.gu), some (.int k), some (.ref n1), none] t1 =
      .nx [some (.ref c.o), some (.ref c.gs), some (.ref c.gu), some (.int k), some (.ref n1), some (.bl true)] t2 := by
    refine mSet_ok ?_
    have a1 : mBin gEq (mVar 4) (mCall m__law_marks [(mVar 1)]) [some (.ref c.o), some (.ref c.gs), some (.ref c.gu), some (.int k), some (.ref n1), none] t1 = .ok (.bl true) t2 := mBin_ok (mVar_ok rfl) (mCall_ok (mAs_one (mVar_ok rfl)) e2) (eqk q1' q2)
    have mn : m_Log_many [.ref c.o] t2 = .ok (.tup [.int LS.length, .int LU.length]) t2 := by
      refine mDef_rt (mRet_ok ?_)
      have b1 : mCB gLen [(mFld "Log" "standing" (mVar 0))] (mStart 1 [.ref c.o]) t2 = .ok (.int LS.length) t2 := mCB_ok (mAs_one (mFld_ok (mVar_ok rfl) h2.ob rfl)) (by rw [len_at h2.s]; simp [refs])
      have b2 : mCB gLen [(mFld "Log" "undone" (mVar 0))] (mStart 1 [.ref c.o]) t2 = .ok (.int LU.length) t2 := mCB_ok (mAs_one (mFld_ok (mVar_ok rfl) h2.ob rfl)) (by rw [len_at h2.u]; simp [refs])
      unfold mTup
      rw [mAs_cons b1 (mAs_one b2)]; rfl
    have tp : mTup [(mCB gLen [(mVar 1)]), (mCB gLen [(mVar 2)])] [some (.ref c.o), some (.ref c.gs), some (.ref c.gu), some (.int k), some (.ref n1), none] t2 = .ok (.tup [.int LS.length, .int LU.length]) t2 := by
      have b1 : mCB gLen [(mVar 1)] [some (.ref c.o), some (.ref c.gs), some (.ref c.gu), some (.int k), some (.ref n1), none] t2 = .ok (.int LS.length) t2 := mCB_ok (mAs_one (mVar_ok rfl)) (by rw [len_at h2.gs, lsg]; simp [refs])
      have b2 : mCB gLen [(mVar 2)] [some (.ref c.o), some (.ref c.gs), some (.ref c.gu), some (.int k), some (.ref n1), none] t2 = .ok (.int LU.length) t2 := mCB_ok (mAs_one (mVar_ok rfl)) (by rw [len_at h2.gu, lug]; simp [refs])
      unfold mTup
      rw [mAs_cons b1 (mAs_one b2)]; rfl
    unfold mAndV
    rw [a1, Out.bind_ok]
    show mBin gEq (mMeth "Log" "many" m_Log_many (mVar 0) []) (mTup [(mCB gLen [(mVar 1)]), (mCB gLen [(mVar 2)])]) _ t2 = _
    refine mBin_ok (mMeth_ok (mVar_ok rfl) h2.ob rfl mAs_nil mn) tp ?_
    rw [gEq_key (k := .tup [.num LS.length, .num LU.length]) (k' := .tup [.num LS.length, .num LU.length]) rfl rfl (show (1 : Nat) ≤ 64 by decide) (show (1 : Nat) ≤ 64 by decide)]
    simp
  have s6 : mDrop (mBM "list" gApp (mVar 4) [(mTup [(mC (.int 0)), (mBin gAdd (mC (.int 1)) (mBin gMod (mVar 3) (mC (.int 7))))])]) [some (.ref c.o), some (.ref c.gs), some (.ref c.gu), some (.int k), some (.ref n1), some (.bl true)] t2 =
      .nx [some (.ref c.o), some (.ref c.gs), some (.ref c.gu), some (.int k), some (.ref n1), some (.bl true)] (t2.set n1 (.lst ((srtP (marksOf (LS.map (·.2)))).map Mn.pv ++ [Mn.pv (0, 1 + k % 7)]))) := by
    have few : ((srtP (marksOf (LS.map (·.2)))).map Mn.pv).length < sizeLine := by
      have ins : ∀ (p : Pr) (l : List Pr), (insP p l).length ≤ l.length + 1 := by
        intro p l
        induction l with
        | nil => simp [insP]
        | cons q r ih =>
          unfold insP
          split
          · simp
          · split
            · simp
            · simp only [List.length_cons]; omega
      have sl : ∀ l : List Pr, (srtP l).length ≤ l.length := by
        intro l
        induction l with
        | nil => simp [srtP]
        | cons p l ih => have := ins p (srtP l); simp only [List.length_cons]; show (insP p (srtP l)).length ≤ _; omega
      have ml : ∀ L : Ls, (∀ x ∈ L, x.2.length ≤ 2) → (marksOf (L.map (·.2))).length ≤ 2 * L.length := by
        intro L
        induction L with
        | nil => intro _; simp [marksOf]
        | cons x L ih =>
          intro hx
          have a := hx x List.mem_cons_self
          have b := ih fun y hy => hx y (List.mem_cons_of_mem _ hy)
          unfold marksOf at b ⊢
          simp only [List.map_cons, List.flatten_cons, List.map_append, List.length_append, List.length_map, List.length_cons] at *
          omega
      have a := sl (marksOf (LS.map (·.2)))
      have b := ml LS fun x hx => ((stL (KX.refl [] t)).1 x hx).2.1
      rw [List.length_map, sizeLine_eq]
      omega
    exact mDrop_ok (mBM_ok (mVar_ok rfl) (ty_lst q1') (mAs_one (by rfl)) (app_at q1' few))
  refine step s4 (step s5 (step s6 (mRet_ok ?_)))
  unfold mAndV
  rw [mVar_ok (i := 5) (v := .bl true) rfl, Out.bind_ok]
  show mBin gEq (mMeth "Log" "touched" m_Log_touched (mVar 0) []) (mCall m__law_marks [(mVar 1)]) _ _ = _
  have ob2 : (t2.set n1 (.lst ((srtP (marksOf (LS.map (·.2)))).map Mn.pv ++ [Mn.pv (0, 1 + k % 7)])))[c.o]? = some (.ins "Log" [("standing", .ref c.s), ("undone", .ref c.u)]) := k23.2 _ _ h.ob (by simp)
  exact mBin_ok (mMeth_ok (mVar_ok rfl) ob2 rfl mAs_nil e3) (mCall_ok (mAs_one (mVar_ok rfl)) e4) (eqk (k4.2 _ _ q3 (by simp)) q4)
end K19

set_option Elab.async false
set_option linter.all false
set_option maxRecDepth 100000
set_option maxHeartbeats 4000000
namespace K19
open PySem L2 Mn Ms
theorem entry_ok (c k : Int) (t : Sto) : ∃ e : Ent, OkE e ∧ m__law_entry [.int c, .int k] t = .ok (.ref t.length) (t ++ [.lst (entV e)]) := by
  have e0 : mAsg (tgN 2) (mLst [(mTup [(mTup [(mBin gAdd (mC (.int 1)) (mBin gMod (mVar 0) (mC (.int 2)))), (mBin gAdd (mC (.int 1)) (mBin gMod (mBin gDiv (mVar 0) (mC (.int 2))) (mC (.int 30))))]), (mC .non), (mTup [(mBin gAdd (mC (.int 1)) (mVar 1)), (mTup [(mTup [(mC (.int 0)), (mC (.int 1)), (mBin gAdd (mC (.int 1)) (mVar 1))])]), (mC (.str "words"))])])]) (mStart 3 [.int c, .int k]) t =
      .nx [some (.int c), some (.int k), some (.ref t.length)] (t ++ [.lst (entV [((1 + c % 2, 1 + c / 2 % 30), .non, .tup [.int (1 + k), .tup [.tup [.int 0, .int 1, .int (1 + k)]], .str "words"])])]) := rfl
  have cnd : (mTst (mBin gEq (mBin gMod (mBin gDiv (mVar 0) (mC (.int 60))) (mC (.int 2))) (mC (.int 0)))) [some (.int c), some (.int k), some (.ref t.length)] (t ++ [.lst (entV [((1 + c % 2, 1 + c / 2 % 30), .non, .tup [.int (1 + k), .tup [.tup [.int 0, .int 1, .int (1 + k)]], .str "words"])])]) =
      .ok (decide (c / 60 % 2 = 0)) (t ++ [.lst (entV [((1 + c % 2, 1 + c / 2 % 30), .non, .tup [.int (1 + k), .tup [.tup [.int 0, .int 1, .int (1 + k)]], .str "words"])])]) := by
    refine mTst_ok ?_
    show ofO (gEq (.int (c / 60 % 2)) (.int 0) _) = _
    rw [gEq_int]; rfl
  by_cases h : c / 60 % 2 = 0
  · refine ⟨[((1 + c % 2, 1 + c / 2 % 30), .non, .tup [.int (1 + k), .tup [.tup [.int 0, .int 1, .int (1 + k)]], .str "words"]), ((3, 1 + k), .tup [.int (1 + k), .tup [], .str ""], .tup [.int (2 + k), .tup [.tup [.int 1, .int 3, .int (1 + k)]], .str ""])], ⟨by simp, _, rfl, by simp [NestedKey.depthAll, NestedKey.depth]⟩, ?_⟩
    refine mDef_rt ?_
    unfold b__law_entry
    refine step e0 (step (sl' := [some (.int c), some (.int k), some (.ref t.length)]) ((mIf_true (cnd.trans (by rw [decide_eq_true h]))).trans (mDrop_ok (mBM_ok (mVar_ok rfl) (ty_lst sto_new) (mAs_one (by rfl)) (app_at sto_new (by simp [entV, sizeLine_eq]))))) ?_)
    rw [set_end]
    rfl
  · refine ⟨[((1 + c % 2, 1 + c / 2 % 30), .non, .tup [.int (1 + k), .tup [.tup [.int 0, .int 1, .int (1 + k)]], .str "words"])], ⟨by simp, _, rfl, by simp [NestedKey.depthAll, NestedKey.depth]⟩, ?_⟩
    refine mDef_rt ?_
    unfold b__law_entry
    exact step e0 (step ((mIf_false (cnd.trans (by rw [decide_eq_false h]))).trans rfl) rfl)
theorem changed_ok {t : Sto} {r : Nat} {e : Ent} (k : Int) (hr : t[r]? = some (.lst (entV e))) (ho : OkE e) : ∃ t', m__law_changed [.ref r, .int k] t = .ok .non t' ∧ KX [r] t t' := by
  obtain ⟨hl, ks, hk, hd⟩ := ho
  have le : (entV e).length ≤ 2 := by unfold entV; rw [List.length_map]; exact hl
  have c1 : (mTst (mBin gEq (mBin gMod (mVar 1) (mC (.int 3))) (mC (.int 0)))) [some (.ref r), some (.int k)] t = .ok (decide (k % 3 = 0)) t := by
    refine mTst_ok ?_
    show ofO (gEq (.int (k % 3)) (.int 0) _) = _
    rw [gEq_int]; rfl
  have d : ∀ b t', b__law_changed (mStart 2 [.ref r, .int k]) t = .nx b t' → m__law_changed [.ref r, .int k] t = .ok .non t' := fun b t' h => mDef_nx h
  by_cases h : k % 3 = 0
  · exact ⟨_, d _ _ ((mIf_true (c1.trans (by rw [decide_eq_true h]))).trans (mDrop_ok (mBM_ok (mVar_ok rfl) (ty_lst hr) (mAs_one (by rfl)) (app_at hr (by rw [sizeLine_eq]; omega))))), KX.set _ _ (by simp)⟩
  · have f1 : b__law_changed (mStart 2 [.ref r, .int k]) t = (mIf (mAnd (mTst (mBin gEq (mBin gMod (mVar 1) (mC (.int 3))) (mC (.int 1)))) (mTst (mBin gNe (mVar 0) (mLst [])))) (mDrop (mBM "list" gPop (mVar 0) [])) (mDrop (mBM "list" gClear (mVar 0) []))) [some (.ref r), some (.int k)] t := mIf_false (c1.trans (by rw [decide_eq_false h]))
    by_cases h2 : k % 3 = 1
    · have q1 : (mTst (mBin gEq (mBin gMod (mVar 1) (mC (.int 3))) (mC (.int 1)))) [some (.ref r), some (.int k)] t = .ok true t := by
        refine mTst_ok ?_
        show ofO (gEq (.int (k % 3)) (.int 1) _) = _
        rw [gEq_int, decide_eq_true h2]; rfl
      have q2 : (mTst (mBin gNe (mVar 0) (mLst []))) [some (.ref r), some (.int k)] t = .ok (!NestedKey.beqAll ks []) (t ++ [.lst []]) := by
        refine mTst_ok (mBin_ok (mVar_ok rfl) (by rfl) ?_)
        exact gNe_lst (sto_old hr) sto_new hk rfl (by omega) (by simp [NestedKey.depthAll])
      have q : (mAnd (mTst (mBin gEq (mBin gMod (mVar 1) (mC (.int 3))) (mC (.int 1)))) (mTst (mBin gNe (mVar 0) (mLst [])))) [some (.ref r), some (.int k)] t = .ok (!NestedKey.beqAll ks []) (t ++ [.lst []]) := by
        unfold mAnd
        rw [q1, Out.bind_ok, if_pos rfl, q2]
      rcases List.eq_nil_or_concat (entV e) with z | ⟨xs, x, z⟩
      · have ek : ks = [] := by rw [z] at hk; simp only [toKs] at hk; cases hk; rfl
        subst ek
        exact ⟨_, d _ _ (f1.trans ((mIf_false (q.trans (by simp [NestedKey.beqAll]))).trans (mDrop_ok (mBM_ok (mVar_ok rfl) (ty_lst (sto_old hr)) mAs_nil (clear_at (sto_old hr)))))), (KX.app t (.lst [])).trans (KX.set _ _ (by simp))⟩
      · rw [List.concat_eq_append] at z
        have hr' := hr
        rw [z] at hr'
        have ek : NestedKey.beqAll ks [] = false := by
          cases ks with
          | nil =>
            rw [z] at hk
            cases xs with
            | nil => simp only [List.nil_append, toKs] at hk; split at hk <;> cases hk
            | cons y ys => simp only [List.cons_append, toKs] at hk; split at hk <;> cases hk
          | cons _ _ => simp [NestedKey.beqAll]
        exact ⟨_, d _ _ (f1.trans ((mIf_true (q.trans (by rw [ek]; rfl))).trans (mDrop_ok (mBM_ok (mVar_ok rfl) (ty_lst (sto_old hr)) mAs_nil (pop_at (sto_old hr')))))), (KX.app t (.lst [])).trans (KX.set _ _ (by simp))⟩
    · have q1 : (mTst (mBin gEq (mBin gMod (mVar 1) (mC (.int 3))) (mC (.int 1)))) [some (.ref r), some (.int k)] t = .ok false t := by
        refine mTst_ok ?_
        show ofO (gEq (.int (k % 3)) (.int 1) _) = _
        rw [gEq_int, decide_eq_false h2]; rfl
      have q : (mAnd (mTst (mBin gEq (mBin gMod (mVar 1) (mC (.int 3))) (mC (.int 1)))) (mTst (mBin gNe (mVar 0) (mLst [])))) [some (.ref r), some (.int k)] t = .ok false t := by
        unfold mAnd
        rw [q1, Out.bind_ok, if_neg Bool.false_ne_true]
      exact ⟨_, d _ _ (f1.trans ((mIf_false q).trans (mDrop_ok (mBM_ok (mVar_ok rfl) (ty_lst hr) mAs_nil (clear_at hr))))), KX.set _ _ (by simp)⟩

/-! ### undo, again -/
def b_move (fa fb : String) : S :=
    (mSeq (mIf (mTst (mBin gEq (mFld "Log" fa (mVar 0)) (mLst []))) (mRaise "NoDeed") mNext)
    (mSeq (mAsg (tgN 1) (mBM "list" gPop (mFld "Log" fa (mVar 0)) []))
    (mSeq (mDrop (mBM "list" gApp (mFld "Log" fb (mVar 0)) [(mVar 1)]))
    (mRet (mCB gList [(mVar 1)])))))
theorem undo_eq : m_Log_undo = mDef 2 (b_move "standing" "undone") := rfl
theorem again_eq : m_Log_again = mDef 2 (b_move "undone" "standing") := rfl
theorem refs_app (L : Ls) (x : Nat × Ent) : refs (L ++ [x]) = refs L ++ [.ref x.1] := by unfold refs; rw [List.map_append]; rfl
theorem empty_ok {t : Sto} {a m : Nat} {L : Ls} (ha : t[a]? = some (.lst (refs L))) (hm : t[m]? = some (.lst [])) (hs : Std t L) : gEq (.ref a) (.ref m) t = some (.bl L.isEmpty, t) := by
  have e1 : refs L = (L.map fun x => (x.1, entV x.2)).map fun x => Val.ref x.1 := by unfold refs; rw [List.map_map]; rfl
  rw [e1] at ha
  rw [gEq_empty ha hm fun x hx => ?_]
  · cases L <;> rfl
  · obtain ⟨y, hy, rfl⟩ := List.mem_map.mp hx
    obtain ⟨h1, h2, ks, h3, h4⟩ := hs y hy
    exact ⟨h1, ks, h3, by omega⟩
theorem move_none {t : Sto} {o a b : Nat} {fa fb : String} {fs : List (String × Val)} {LB : Ls} (hob : t[o]? = some (.ins "Log" fs)) (hfa : fs.lookup fa = some (.ref a)) (ha : t[a]? = some (.lst (refs []))) :
    mDef 2 (b_move fa fb) [.ref o] t = .ex "NoDeed" [] (t ++ [.lst []]) := by
  have c : (mTst (mBin gEq (mFld "Log" fa (mVar 0)) (mLst []))) [some (.ref o), none] t = .ok true (t ++ [.lst []]) :=
    mTst_ok (mBin_ok (mFld_ok (mVar_ok rfl) hob hfa) (by rfl) (empty_ok (sto_old ha) sto_new fun x hx => by cases hx))
  exact mDef_ex (mSeq_ex ((mIf_true c).trans rfl))
theorem move_some {t : Sto} {o a b : Nat} {fa fb : String} {fs : List (String × Val)} {L0 LB : Ls} {x : Nat × Ent} (hob : t[o]? = some (.ins "Log" fs)) (hfa : fs.lookup fa = some (.ref a)) (hfb : fs.lookup fb = some (.ref b)) (ha : t[a]? = some (.lst (refs (L0 ++ [x])))) (hb : t[b]? = some (.lst (refs LB)))
    (hs : Std t (L0 ++ [x])) (oa : o ≠ a) (ob : o ≠ b) (ab : a ≠ b) (xa : x.1 ≠ a) (xb : x.1 ≠ b) (hz : LB.length ≤ 1000) :
    ∃ t', mDef 2 (b_move fa fb) [.ref o] t = .ok (.ref (t.length + 1)) t' ∧ t'[t.length + 1]? = some (.lst (entV x.2)) ∧ t'[a]? = some (.lst (refs L0)) ∧ t'[b]? = some (.lst (refs (LB ++ [x]))) ∧ KX [a, b] t t' := by
  have c : (mTst (mBin gEq (mFld "Log" fa (mVar 0)) (mLst []))) [some (.ref o), none] t = .ok false (t ++ [.lst []]) := by
    have q := empty_ok (sto_old (o' := .lst []) ha) sto_new fun x hx => ⟨sto_old (hs x hx).1, (hs x hx).2⟩
    refine mTst_ok (mBin_ok (mFld_ok (mVar_ok rfl) hob hfa) (by rfl) (q.trans ?_))
    simp
  have hx := hs x (by simp)
  rw [refs_app] at ha
  have a0 : (t ++ [Ob.lst []])[a]? = some (.lst (refs L0 ++ [.ref x.1])) := sto_old ha
  generalize ht0 : t ++ [Ob.lst []] = t0 at c a0
  have k0 : KX [a, b] t t0 := by rw [← ht0]; exact KX.app _ _
  have l0 : t0.length = t.length + 1 := by rw [← ht0]; simp
  have ob0 : t0[o]? = some (.ins "Log" fs) := by rw [← ht0]; exact sto_old hob
  have b0 : t0[b]? = some (.lst (refs LB)) := by rw [← ht0]; exact sto_old hb
  have x0 : t0[x.1]? = some (.lst (entV x.2)) := by rw [← ht0]; exact sto_old hx.1
  have a1 : (t0.set a (.lst (refs L0)))[a]? = some (.lst (refs L0)) := sto_set a0
  have b1 : (t0.set a (.lst (refs L0)))[b]? = some (.lst (refs LB)) := by rw [sto_set_ne ab]; exact b0
  have ob1 : (t0.set a (.lst (refs L0)))[o]? = some (.ins "Log" fs) := by rw [sto_set_ne (Ne.symm oa)]; exact ob0
  have x1 : (t0.set a (.lst (refs L0)))[x.1]? = some (.lst (entV x.2)) := by rw [sto_set_ne (Ne.symm xa)]; exact x0
  have k1 : KX [a, b] t0 (t0.set a (.lst (refs L0))) := KX.set _ _ (by simp)
  have l1 : (t0.set a (.lst (refs L0))).length = t.length + 1 := by rw [List.length_set, l0]
  have p1 : mAsg (tgN 1) (mBM "list" gPop (mFld "Log" fa (mVar 0)) []) [some (.ref o), none] t0 = .nx [some (.ref o), some (.ref x.1)] (t0.set a (.lst (refs L0))) :=
    mSet_ok (mBM_ok (mFld_ok (mVar_ok rfl) ob0 hfa) (ty_lst a0) mAs_nil (pop_at a0))
  generalize t0.set a (.lst (refs L0)) = t1 at a1 b1 ob1 x1 k1 l1 p1
  have a2 : (t1.set b (.lst (refs LB ++ [.ref x.1])))[a]? = some (.lst (refs L0)) := by rw [sto_set_ne (Ne.symm ab)]; exact a1
  have b2 : (t1.set b (.lst (refs LB ++ [.ref x.1])))[b]? = some (.lst (refs LB ++ [.ref x.1])) := sto_set b1
  have x2 : (t1.set b (.lst (refs LB ++ [.ref x.1])))[x.1]? = some (.lst (entV x.2)) := by rw [sto_set_ne (Ne.symm xb)]; exact x1
  have k2 : KX [a, b] t1 (t1.set b (.lst (refs LB ++ [.ref x.1]))) := KX.set _ _ (by simp)
  have l2 : (t1.set b (.lst (refs LB ++ [.ref x.1]))).length = t.length + 1 := by rw [List.length_set, l1]
  have p2 : mDrop (mBM "list" gApp (mFld "Log" fb (mVar 0)) [(mVar 1)]) [some (.ref o), some (.ref x.1)] t1 = .nx [some (.ref o), some (.ref x.1)] (t1.set b (.lst (refs LB ++ [.ref x.1]))) :=
    mDrop_ok (mBM_ok (mFld_ok (mVar_ok rfl) ob1 hfb) (ty_lst b1) (mAs_one (mVar_ok rfl)) (app_at b1 (by unfold refs; rw [List.length_map, sizeLine_eq]; omega)))
  generalize t1.set b (.lst (refs LB ++ [.ref x.1])) = t2 at a2 b2 x2 k2 l2 p2
  refine ⟨t2 ++ [.lst (entV x.2)], ?_, by rw [← l2]; exact sto_new, sto_old a2, by rw [refs_app]; exact sto_old b2, (k0.trans k1).trans (k2.trans (KX.app _ _))⟩
  refine mDef_rt (step ((mIf_false c).trans rfl) (step p1 (step p2 (mRet_ok (mCB_ok (mAs_one (mVar_ok rfl)) ?_)))))
  rw [list_at x2, l2]
/-- _law_turned, either way -/
theorem turned_none {t : Sto} {o a b : Nat} {back : Bool} {fs : List (String × Val)} (hob : t[o]? = some (.ins "Log" fs)) (hm : fs.lookup "undo" = none) (hm2 : fs.lookup "again" = none) (hfa : fs.lookup (if back then "standing" else "undone") = some (.ref a)) (ha : t[a]? = some (.lst (refs []))) :
    m__law_turned [.ref o, .bl back] t = .ok (.str "refused") (t ++ [.lst []]) := by
  have tr : (mIf (mTst (mVar 1)) (mAsg (tgN 2) (mMeth "Log" "undo" m_Log_undo (mVar 0) [])) (mAsg (tgN 2) (mMeth "Log" "again" m_Log_again (mVar 0) []))) [some (.ref o), some (.bl back), some .non] t = .ex "NoDeed" [] [some (.ref o), some (.bl back), some .non] (t ++ [.lst []]) := by
    cases back with
    | true =>
      rw [mIf_true (by rfl)]
      have e : mMeth "Log" "undo" m_Log_undo (mVar 0) [] [some (.ref o), some (.bl true), some .non] t = .ex "NoDeed" [] (t ++ [.lst []]) := mMeth_ok (mVar_ok rfl) hob hm mAs_nil (by rw [undo_eq]; exact move_none (b := b) (LB := []) hob hfa ha)
      unfold mAsg
      rw [e]; rfl
    | false =>
      rw [mIf_false (by rfl)]
      have e : mMeth "Log" "again" m_Log_again (mVar 0) [] [some (.ref o), some (.bl false), some .non] t = .ex "NoDeed" [] (t ++ [.lst []]) := mMeth_ok (mVar_ok rfl) hob hm2 mAs_nil (by rw [again_eq]; exact move_none (b := b) (LB := []) hob hfa ha)
      unfold mAsg
      rw [e]; rfl
  refine mDef_rt (step (by rfl) (step (sl' := [some (.ref o), some (.bl back), some (.str "refused")]) (t' := t ++ [.lst []]) ?_ (by rfl)))
  unfold mTry
  have tr' : (mIf (mTst (mVar 1)) (mAsg (tgN 2) (mMeth "Log" "undo" m_Log_undo (mVar 0) [])) (mAsg (tgN 2) (mMeth "Log" "again" m_Log_again (mVar 0) []))) ((mStart 3 [Val.ref o, Val.bl back]).set 2 (some Val.non)) t = _ := tr
  rw [tr']
  rfl
theorem turned_some {t t' : Sto} {o n : Nat} {back : Bool} {fs : List (String × Val)} (hob : t[o]? = some (.ins "Log" fs)) (hm : fs.lookup "undo" = none) (hm2 : fs.lookup "again" = none) (h : mDef 2 (if back then b_move "standing" "undone" else b_move "undone" "standing") [.ref o] t = .ok (.ref n) t') :
    m__law_turned [.ref o, .bl back] t = .ok (.ref n) t' := by
  have tr : (mIf (mTst (mVar 1)) (mAsg (tgN 2) (mMeth "Log" "undo" m_Log_undo (mVar 0) [])) (mAsg (tgN 2) (mMeth "Log" "again" m_Log_again (mVar 0) []))) [some (.ref o), some (.bl back), some .non] t = .nx [some (.ref o), some (.bl back), some (.ref n)] t' := by
    cases back with
    | true =>
      rw [mIf_true (by rfl)]
      exact mSet_ok (mMeth_ok (mVar_ok rfl) hob hm mAs_nil (by rw [undo_eq]; exact h))
    | false =>
      rw [mIf_false (by rfl)]
      exact mSet_ok (mMeth_ok (mVar_ok rfl) hob hm2 mAs_nil (by rw [again_eq]; exact h))
  refine mDef_rt (step (by rfl) (step (sl' := [some (.ref o), some (.bl back), some (.ref n)]) (t' := t') ?_ (by rfl)))
  unfold mTry
  have tr' : (mIf (mTst (mVar 1)) (mAsg (tgN 2) (mMeth "Log" "undo" m_Log_undo (mVar 0) [])) (mAsg (tgN 2) (mMeth "Log" "again" m_Log_again (mVar 0) []))) ((mStart 3 [Val.ref o, Val.bl back]).set 2 (some Val.non)) t = _ := tr
  rw [tr']
end K19

set_option Elab.async false
set_option linter.all false
set_option maxRecDepth 100000
set_option maxHeartbeats 4000000
namespace K19
open PySem L2 Mn Ms
abbrev all4 (LS LU GS GU : Ls) : Ls := LS ++ LU ++ GS ++ GU
/-- what a deed leaves -/
structure After (t t' : Sto) (c c' : Ctl) (LS LU GS GU LS' LU' GS' GU' : Ls) : Prop where
  at_ : LogAt t' c' LS' LU' GS' GU'
  o : c'.o = c.o
  gs : c'.gs = c.gs
  gu : c'.gu = c.gu
  kx : KX c.l t t'
  cl : ∀ n ∈ c'.l, n ∈ c.l ∨ t.length ≤ n
  xl : ∀ x ∈ all4 LS' LU' GS' GU', (∃ y ∈ all4 LS LU GS GU, y.1 = x.1) ∨ t.length ≤ x.1
  len : LS'.length + LU'.length ≤ LS.length + LU.length + 1
theorem refs_len (L : Ls) : (refs L).length = L.length := by unfold refs; rw [List.length_map]
theorem fldset_ok {c f : String} {o e : E} {sl : Sl} {t t1 t2 : Sto} {n : Nat} {fs : List (String × Val)} {v : Val} (he : e sl t = .ok v t1) (ho : o sl t1 = .ok (.ref n) t2) (hn : t2[n]? = some (.ins c fs)) (hl : fs.length < 1000) : mFldSet c f o e sl t = .nx sl (t2.set n (.ins c (putG f v fs))) := by
  unfold mFldSet
  rw [he, SO.ofE_ok, ho, SO.ofE_ok]
  simp only [insOf, hn, if_true, if_pos hl]
theorem add_ok {t : Sto} {o s u n : Nat} {LS : Ls} {e : Ent} (hob : t[o]? = some (.ins "Log" [("standing", .ref s), ("undone", .ref u)])) (hs : t[s]? = some (.lst (refs LS))) (hn : t[n]? = some (.lst (entV e))) (os : o ≠ s) (hz : LS.length ≤ 1000) :
    ∃ t', m_Log_add [.ref o, .ref n] t = .ok .non t' ∧ KX [o, s] t t' ∧ t'.length = t.length + 2 ∧ t'[o]? = some (.ins "Log" [("standing", .ref s), ("undone", .ref (t.length + 1))]) ∧ t'[s]? = some (.lst (refs (LS ++ [(t.length, e)]))) ∧ t'[t.length]? = some (.lst (entV e)) ∧ t'[t.length + 1]? = some (.lst []) := by
  have s0 := sto_lt hs
  have o0 := sto_lt hob
  have p1 : mDrop (mBM "list" gApp (mFld "Log" "standing" (mVar 0)) [(mCB gList [(mVar 1)])]) [some (.ref o), some (.ref n)] t = .nx [some (.ref o), some (.ref n)] ((t ++ [Ob.lst (entV e)]).set s (Ob.lst (refs LS ++ [Val.ref t.length]))) :=
    mDrop_ok (mBM_ok (mFld_ok (mVar_ok rfl) hob rfl) (ty_lst hs) (mAs_one (mCB_ok (mAs_one (mVar_ok rfl)) (list_at hn))) (app_at (sto_old hs) (by rw [refs_len, sizeLine_eq]; omega)))
  have k1 : KX [o, s] t ((t ++ [Ob.lst (entV e)]).set s (Ob.lst (refs LS ++ [Val.ref t.length]))) := (KX.app t (.lst (entV e))).trans (KX.set _ _ (by simp))
  have l1 : ((t ++ [Ob.lst (entV e)]).set s (Ob.lst (refs LS ++ [Val.ref t.length]))).length = t.length + 1 := by simp
  have o1 : ((t ++ [Ob.lst (entV e)]).set s (Ob.lst (refs LS ++ [Val.ref t.length])))[o]? = some (.ins "Log" [("standing", .ref s), ("undone", .ref u)]) := by rw [sto_set_ne (Ne.symm os)]; exact sto_old hob
  have s1 : ((t ++ [Ob.lst (entV e)]).set s (Ob.lst (refs LS ++ [Val.ref t.length])))[s]? = some (.lst (refs LS ++ [.ref t.length])) := sto_set (sto_old hs)
  have e1 : ((t ++ [Ob.lst (entV e)]).set s (Ob.lst (refs LS ++ [Val.ref t.length])))[t.length]? = some (.lst (entV e)) := by rw [sto_set_ne (by omega)]; exact sto_new
  generalize (t ++ [Ob.lst (entV e)]).set s (Ob.lst (refs LS ++ [Val.ref t.length])) = t1 at p1 k1 l1 o1 s1 e1
  have fg : m_Log_forget [.ref o] t1 = .ok .non ((t1 ++ [Ob.lst []]).set o (Ob.ins "Log" [("standing", .ref s), ("undone", .ref (t.length + 1))])) := by
    rw [← l1]
    exact mDef_nx (fldset_ok (by rfl) (mVar_ok rfl) (sto_old o1) (by simp))
  refine ⟨(t1 ++ [Ob.lst []]).set o (Ob.ins "Log" [("standing", .ref s), ("undone", .ref (t.length + 1))]), mDef_nx (step p1 (mDrop_ok (mMeth_ok (mVar_ok rfl) o1 rfl mAs_nil fg))), k1.trans ((KX.app t1 (.lst [])).trans (KX.set _ _ (by simp))), by simp [l1], sto_set (sto_old o1), ?_, ?_, ?_⟩
  · rw [sto_set_ne os, refs_app]; exact sto_old s1
  · rw [sto_set_ne (by omega)]; exact sto_old e1
  · rw [sto_set_ne (by omega), ← l1]; exact sto_new
theorem deed_add {t : Sto} {c : Ctl} {LS LU GS GU : Ls} {num k : Int} (h : LogAt t c LS LU GS GU) (hz : LS.length + LU.length ≤ 100) (hw : num % 5 < 3) :
    ∃ t' c' LS' LU' GS' GU', m__law_deed [.ref c.o, .ref c.gs, .ref c.gu, .int num, .int k] t = .ok (.bl true) t' ∧ After t t' c c' LS LU GS GU LS' LU' GS' GU' := by
  have nd := h.nd
  simp only [Ctl.l, List.nodup_cons, List.mem_cons, List.not_mem_nil, or_false, not_or] at nd
  obtain ⟨⟨os, ou, ogs, ogu⟩, ⟨su, sgs, sgu⟩, ⟨ugs, ugu⟩, gsu, _⟩ := nd
  have lo := sto_lt h.ob; have ls := sto_lt h.s; have lu := sto_lt h.u; have lgs := sto_lt h.gs; have lgu := sto_lt h.gu
  have lsg : LS.length = GS.length := by have := congrArg List.length h.eq1; simpa using this
  obtain ⟨e, oe, ee⟩ := entry_ok (num / 10) k t
  -- the entry; its copy at the end of the law's list; the other cleared
  have k1 : KX c.l t (t ++ [Ob.lst (entV e)]) := KX.app _ _
  have n1 : (t ++ [Ob.lst (entV e)])[t.length]? = some (.lst (entV e)) := sto_new
  have f2 : mDrop (mBM "list" gApp (mVar 1) [(mCB gList [(mVar 8)])]) [some (.ref c.o), some (.ref c.gs), some (.ref c.gu), some (.int num), some (.int k), some (.int (num % 5)), none, none, some (.ref t.length), none] (t ++ [Ob.lst (entV e)]) =
      .nx [some (.ref c.o), some (.ref c.gs), some (.ref c.gu), some (.int num), some (.int k), some (.int (num % 5)), none, none, some (.ref t.length), none] ((t ++ [Ob.lst (entV e)] ++ [Ob.lst (entV e)]).set c.gs (Ob.lst (refs GS ++ [Val.ref (t.length + 1)]))) := by
    have q := list_at n1
    rw [show (t ++ [Ob.lst (entV e)]).length = t.length + 1 by simp] at q
    exact mDrop_ok (mBM_ok (mVar_ok rfl) (ty_lst (sto_old h.gs)) (mAs_one (mCB_ok (mAs_one (mVar_ok rfl)) q)) (app_at (sto_old (sto_old h.gs)) (by rw [refs_len, sizeLine_eq]; omega)))
  have g2 : ((t ++ [Ob.lst (entV e)] ++ [Ob.lst (entV e)]).set c.gs (Ob.lst (refs GS ++ [Val.ref (t.length + 1)])))[c.gs]? = some (.lst (refs GS ++ [.ref (t.length + 1)])) := sto_set (sto_old (sto_old h.gs))
  have m2 : ((t ++ [Ob.lst (entV e)] ++ [Ob.lst (entV e)]).set c.gs (Ob.lst (refs GS ++ [Val.ref (t.length + 1)])))[t.length + 1]? = some (.lst (entV e)) := by
    rw [sto_set_ne (by omega), show t.length + 1 = (t ++ [Ob.lst (entV e)]).length by simp]; exact sto_new
  have n2 : ((t ++ [Ob.lst (entV e)] ++ [Ob.lst (entV e)]).set c.gs (Ob.lst (refs GS ++ [Val.ref (t.length + 1)])))[t.length]? = some (.lst (entV e)) := by
    rw [sto_set_ne (by omega)]; exact sto_old n1
  have k2 : KX [c.gs] t ((t ++ [Ob.lst (entV e)] ++ [Ob.lst (entV e)]).set c.gs (Ob.lst (refs GS ++ [Val.ref (t.length + 1)]))) := (KX.app t (.lst (entV e))).trans ((KX.app _ (.lst (entV e))).trans (KX.set _ _ (by simp)))
  have l2 : ((t ++ [Ob.lst (entV e)] ++ [Ob.lst (entV e)]).set c.gs (Ob.lst (refs GS ++ [Val.ref (t.length + 1)]))).length = t.length + 2 := by simp
  generalize (t ++ [Ob.lst (entV e)] ++ [Ob.lst (entV e)]).set c.gs (Ob.lst (refs GS ++ [Val.ref (t.length + 1)])) = t2 at f2 g2 m2 n2 k2 l2
  have u2 : t2[c.gu]? = some (.lst (refs GU)) := k2.2 _ _ h.gu (by simp; exact Ne.symm gsu)
  have f3 : mDrop (mBM "list" gClear (mVar 2) []) [some (.ref c.o), some (.ref c.gs), some (.ref c.gu), some (.int num), some (.int k), some (.int (num % 5)), none, none, some (.ref t.length), none] t2 =
      .nx [some (.ref c.o), some (.ref c.gs), some (.ref c.gu), some (.int num), some (.int k), some (.int (num % 5)), none, none, some (.ref t.length), none] (t2.set c.gu (Ob.lst [])) := mDrop_ok (mBM_ok (mVar_ok rfl) (ty_lst u2) mAs_nil (clear_at u2))
  have k3 : KX [c.gs, c.gu] t (t2.set c.gu (Ob.lst [])) := (k2.mono (by simp)).trans (KX.set _ _ (by simp))
  have g3 : (t2.set c.gu (Ob.lst []))[c.gs]? = some (.lst (refs GS ++ [.ref (t.length + 1)])) := by rw [sto_set_ne (Ne.symm gsu)]; exact g2
  have u3 : (t2.set c.gu (Ob.lst []))[c.gu]? = some (.lst (refs [])) := sto_set u2
  have m3 : (t2.set c.gu (Ob.lst []))[t.length + 1]? = some (.lst (entV e)) := by rw [sto_set_ne (by omega)]; exact m2
  have n3 : (t2.set c.gu (Ob.lst []))[t.length]? = some (.lst (entV e)) := by rw [sto_set_ne (by omega)]; exact n2
  have l3 : (t2.set c.gu (Ob.lst [])).length = t.length + 2 := by simp [l2]
  generalize t2.set c.gu (Ob.lst []) = t3 at f3 k3 g3 u3 m3 n3 l3
  -- handed to the log
  have o3 : t3[c.o]? = some (.ins "Log" [("standing", .ref c.s), ("undone", .ref c.u)]) := k3.2 _ _ h.ob (by simp; exact ⟨ogs, ogu⟩)
  have s3 : t3[c.s]? = some (.lst (refs LS)) := k3.2 _ _ h.s (by simp; exact ⟨sgs, sgu⟩)
  obtain ⟨t4, e4, k4, l4, o4, s4, m4, u4⟩ := add_ok (u := c.u) o3 s3 n3 os (by omega)
  rw [l3] at l4 o4 s4 m4 u4
  have n4 : t4[t.length]? = some (.lst (entV e)) := k4.2 _ _ n3 (by simp; omega)
  obtain ⟨t5, e5, k5⟩ := changed_ok (num / 7) n4 oe
  -- all of it
  have kk : KX [c.o, c.s, c.gs, c.gu] t t4 := (k3.mono (fun n hn => by simp only [Ctl.l, List.mem_cons, List.not_mem_nil, or_false] at hn ⊢; omega)).trans (k4.mono (fun n hn => by simp only [Ctl.l, List.mem_cons, List.not_mem_nil, or_false] at hn ⊢; omega))
  have k45 : ∀ {n o}, t4[n]? = some o → n ≠ t.length → t5[n]? = some o := fun {n o} a b => k5.2 _ _ a (by simpa using b)
  refine ⟨t5, ⟨c.o, c.s, t.length + 2 + 1, c.gs, c.gu⟩, LS ++ [(t.length + 2, e)], [], GS ++ [(t.length + 1, e)], [], ?_, ?_⟩
  · refine mDef_rt (t' := t5) ?_
    unfold b__law_deed
    refine step (sl' := [some (.ref c.o), some (.ref c.gs), some (.ref c.gu), some (.int num), some (.int k), some (.int (num % 5)), none, none, none, none]) (t' := t) (by rfl) (mSeq_rt ((mIf_true (t' := t) ?_).trans ?_))
    · show (ofO (gLt (.int (num % 5)) (.int 3) t)).bind asB = _
      show Out.ok (decide (num % 5 < 3)) t = _
      rw [decide_eq_true hw]
    · refine step (sl' := [some (.ref c.o), some (.ref c.gs), some (.ref c.gu), some (.int num), some (.int k), some (.int (num % 5)), none, none, some (.ref t.length), none]) (mSet_ok (mCall_ok (t' := t) (vs := [.int (num / 10), .int k]) (by rfl) ee)) (step f2 (step f3 (step (mDrop_ok (mMeth_ok (mVar_ok rfl) o3 rfl (mAs_one (mVar_ok rfl)) e4)) (step (mDrop_ok (mCall_ok (t' := t4) (vs := [.ref t.length, .int (num / 7)]) (by rfl) e5)) (by rfl)))))
  · have gs4 : t4[c.gs]? = some (.lst (refs (GS ++ [(t.length + 1, e)]))) := by rw [refs_app]; exact k4.2 _ _ g3 (by simp; exact ⟨Ne.symm ogs, Ne.symm sgs⟩)
    have gu4 : t4[c.gu]? = some (.lst (refs [])) := k4.2 _ _ u3 (by simp; exact ⟨Ne.symm ogu, Ne.symm sgu⟩)
    have mm4 : t4[t.length + 1]? = some (.lst (entV e)) := k4.2 _ _ m3 (by simp; omega)
    have old : ∀ x ∈ LS ++ GS, t5[x.1]? = some (.lst (entV x.2)) ∧ OkE x.2 := fun x hx => by
      have hm : x ∈ LS ++ LU ++ GS ++ GU := by
        rcases List.mem_append.mp hx with z | z <;> simp [z]
      have a := h.all x hm
      have b := h.ap x hm
      simp only [Ctl.l, List.mem_cons, List.not_mem_nil, or_false, not_or] at b
      have lt := sto_lt a.1
      exact ⟨k45 (kk.2 _ _ a.1 (by simp; exact ⟨b.1, b.2.1, b.2.2.2.1, b.2.2.2.2⟩)) (by omega), a.2⟩
    refine ⟨⟨k45 o4 (by dsimp only; omega), k45 s4 (by dsimp only; omega), k45 u4 (by dsimp only; omega), k45 gs4 (by dsimp only; omega), k45 gu4 (by dsimp only; omega), fun x hx => ?_, ?_, rfl, ?_, fun x hx => ?_⟩, rfl, rfl, rfl, ?_, ?_, fun x hx => ?_, by simp only [List.length_append, List.length_singleton, List.length_nil]; omega⟩
    · simp only [List.append_nil, List.mem_append, List.mem_singleton] at hx
      rcases hx with (z | z) | (z | z)
      · exact old x (by simp [z])
      · subst z; exact ⟨k45 m4 (by dsimp only; omega), oe⟩
      · exact old x (by simp [z])
      · subst z; exact ⟨k45 mm4 (by dsimp only; omega), oe⟩
    · rw [List.map_append, List.map_append, h.eq1]; rfl
    · simp only [Ctl.l, List.nodup_cons, List.mem_cons, List.not_mem_nil, or_false, not_or, List.nodup_nil, not_false_eq_true, and_true]
      exact ⟨⟨os, by omega, ogs, ogu⟩, ⟨by omega, sgs, sgu⟩, ⟨by omega, by omega⟩, gsu⟩
    · simp only [List.append_nil, List.mem_append, List.mem_singleton] at hx
      simp only [Ctl.l, List.mem_cons, List.not_mem_nil, or_false, not_or]
      have oldl : ∀ y ∈ LS ++ LU ++ GS ++ GU, y.1 ≠ c.o ∧ y.1 ≠ c.s ∧ y.1 ≠ t.length + 2 + 1 ∧ y.1 ≠ c.gs ∧ y.1 ≠ c.gu := fun y hy => by
        have b := h.ap y hy
        simp only [Ctl.l, List.mem_cons, List.not_mem_nil, or_false, not_or] at b
        have lt := sto_lt (h.all y hy).1
        exact ⟨b.1, b.2.1, by omega, b.2.2.2.1, b.2.2.2.2⟩
      rcases hx with (z | z) | (z | z)
      · exact oldl x (by simp [z])
      · subst z; dsimp only; omega
      · exact oldl x (by simp [z])
      · subst z; dsimp only; omega
    · have q : KX (t.length :: [c.o, c.s, c.gs, c.gu]) t4 t5 := k5.mono (by simp)
      exact (kk.fresh q (Nat.le_refl _)).mono (fun n hn => by simp only [Ctl.l, List.mem_cons, List.not_mem_nil, or_false] at hn ⊢; omega)
    · simp only [Ctl.l, List.mem_cons, List.not_mem_nil, or_false]
      omega
    · simp only [all4, List.append_nil, List.mem_append, List.mem_singleton] at hx
      rcases hx with (z | z) | (z | z)
      · exact .inl ⟨x, by simp [z], rfl⟩
      · subst z; exact .inr (by dsimp only; omega)
      · exact .inl ⟨x, by simp [z], rfl⟩
      · subst z; exact .inr (by dsimp only; omega)
end K19

set_option Elab.async false
set_option linter.all false
set_option maxRecDepth 100000
set_option maxHeartbeats 4000000
namespace K19
open PySem L2 Mn Ms
/-- what follows in a deed that turns: from slot 6's list to slot 7's -/
abbrev Tl : S :=
    (mSeq (mIf (mTst (mBin gEq (mVar 6) (mLst []))) (mRet (mBin gEq (mVar 8) (mC (.str "refused")))) mNext)
    (mSeq (mDrop (mBM "list" gApp (mVar 7) [(mBM "list" gPop (mVar 6) [])]))
    (mSeq (mAsg (tgN 9) (mBin gEq (mVar 8) (mBin gIx (mVar 7) (mNeg (mC (.int 1))))))
    (mSeq (mIf (mTst (mVar 9)) (mDrop (mCall m__law_changed [(mVar 8), (mBin gDiv (mVar 3) (mC (.int 11)))])) mNext)
    (mRet (mVar 9))))))
abbrev ds (o gs gu : Nat) (num k w : Int) (a b : Nat) (v : Val) : Sl := [some (.ref o), some (.ref gs), some (.ref gu), some (.int num), some (.int k), some (.int w), some (.ref a), some (.ref b), some v, none]
theorem tl_none {t : Sto} {o gs gu a b : Nat} {num k w : Int} (ha : t[a]? = some (.lst (refs []))) : Tl (ds o gs gu num k w a b (.str "refused")) t = .rt (.bl true) (t ++ [.lst []]) := by
  have c : (mTst (mBin gEq (mVar 6) (mLst []))) (ds o gs gu num k w a b (.str "refused")) t = .ok true (t ++ [.lst []]) :=
    mTst_ok (mBin_ok (mVar_ok rfl) (by rfl) (empty_ok (sto_old ha) sto_new fun x hx => by cases hx))
  refine mSeq_rt ((mIf_true c).trans (mRet_ok (mBin_ok (mVar_ok rfl) (by rfl) ?_)))
  rw [gEq_str]; rfl
theorem ent_eq {t : Sto} {n m : Nat} {e : Ent} (h1 : t[n]? = some (.lst (entV e))) (h2 : t[m]? = some (.lst (entV e))) (ho : OkE e) : gEq (.ref n) (.ref m) t = some (.bl true, t) := by
  obtain ⟨_, ks, hk, hd⟩ := ho
  rw [gEq_lst h1 h2 hk hk (by omega) (by omega), NestedKey.beqAll_self]
theorem tl_some {t : Sto} {o gs gu a b n : Nat} {num k w : Int} {G0 GB : Ls} {y : Nat × Ent} (ha : t[a]? = some (.lst (refs (G0 ++ [y])))) (hb : t[b]? = some (.lst (refs GB))) (hs : Std t (G0 ++ [y])) (hn : t[n]? = some (.lst (entV y.2))) (ab : a ≠ b) (ya : y.1 ≠ a) (yb : y.1 ≠ b) (na : n ≠ a) (nb : n ≠ b) (hz : GB.length ≤ 1000) :
    ∃ t', Tl (ds o gs gu num k w a b (.ref n)) t = .rt (.bl true) t' ∧ KX [a, b, n] t t' ∧ t'[a]? = some (.lst (refs G0)) ∧ t'[b]? = some (.lst (refs (GB ++ [y]))) := by
  have hy := hs y (by simp)
  have c : (mTst (mBin gEq (mVar 6) (mLst []))) (ds o gs gu num k w a b (.ref n)) t = .ok false (t ++ [.lst []]) := by
    have q := empty_ok (sto_old (o' := .lst []) ha) sto_new fun x hx => ⟨sto_old (hs x hx).1, (hs x hx).2⟩
    refine mTst_ok (mBin_ok (mVar_ok rfl) (by rfl) (q.trans ?_))
    simp
  rw [refs_app] at ha
  have a0 : (t ++ [Ob.lst []])[a]? = some (.lst (refs G0 ++ [.ref y.1])) := sto_old ha
  have b0 : (t ++ [Ob.lst []])[b]? = some (.lst (refs GB)) := sto_old hb
  have y0 : (t ++ [Ob.lst []])[y.1]? = some (.lst (entV y.2)) := sto_old hy.1
  have n0 : (t ++ [Ob.lst []])[n]? = some (.lst (entV y.2)) := sto_old hn
  have k0 : KX [a, b, n] t (t ++ [Ob.lst []]) := KX.app _ _
  generalize t ++ [Ob.lst []] = t0 at c a0 b0 y0 n0 k0
  have a1 : (t0.set a (Ob.lst (refs G0)))[a]? = some (.lst (refs G0)) := sto_set a0
  have b1 : (t0.set a (Ob.lst (refs G0)))[b]? = some (.lst (refs GB)) := by rw [sto_set_ne ab]; exact b0
  have y1 : (t0.set a (Ob.lst (refs G0)))[y.1]? = some (.lst (entV y.2)) := by rw [sto_set_ne (Ne.symm ya)]; exact y0
  have n1 : (t0.set a (Ob.lst (refs G0)))[n]? = some (.lst (entV y.2)) := by rw [sto_set_ne (Ne.symm na)]; exact n0
  have k1 : KX [a, b, n] t0 (t0.set a (Ob.lst (refs G0))) := KX.set _ _ (by simp)
  have p1 : mBM "list" gPop (mVar 6) [] (ds o gs gu num k w a b (.ref n)) t0 = .ok (.ref y.1) (t0.set a (Ob.lst (refs G0))) := mBM_ok (mVar_ok rfl) (ty_lst a0) mAs_nil (pop_at a0)
  have tyb : tyG "list" (.ref b) t0 = true := ty_lst b0
  generalize t0.set a (Ob.lst (refs G0)) = t1 at a1 b1 y1 n1 k1 p1
  have p2 : mDrop (mBM "list" gApp (mVar 7) [(mBM "list" gPop (mVar 6) [])]) (ds o gs gu num k w a b (.ref n)) t0 = .nx (ds o gs gu num k w a b (.ref n)) (t1.set b (Ob.lst (refs GB ++ [.ref y.1]))) :=
    mDrop_ok (mBM_ok (mVar_ok rfl) tyb (mAs_one p1) (app_at b1 (by rw [refs_len, sizeLine_eq]; omega)))
  have a2 : (t1.set b (Ob.lst (refs GB ++ [Val.ref y.1])))[a]? = some (.lst (refs G0)) := by rw [sto_set_ne (Ne.symm ab)]; exact a1
  have b2 : (t1.set b (Ob.lst (refs GB ++ [Val.ref y.1])))[b]? = some (.lst (refs GB ++ [.ref y.1])) := sto_set b1
  have y2 : (t1.set b (Ob.lst (refs GB ++ [Val.ref y.1])))[y.1]? = some (.lst (entV y.2)) := by rw [sto_set_ne (Ne.symm yb)]; exact y1
  have n2 : (t1.set b (Ob.lst (refs GB ++ [Val.ref y.1])))[n]? = some (.lst (entV y.2)) := by rw [sto_set_ne (Ne.symm nb)]; exact n1
  have k2 : KX [a, b, n] t1 (t1.set b (Ob.lst (refs GB ++ [Val.ref y.1]))) := KX.set _ _ (by simp)
  generalize t1.set b (Ob.lst (refs GB ++ [Val.ref y.1])) = t2 at p2 a2 b2 y2 n2 k2
  obtain ⟨t3, e3, k3⟩ := changed_ok (num / 11) n2 hy.2
  have p3 : mAsg (tgN 9) (mBin gEq (mVar 8) (mBin gIx (mVar 7) (mNeg (mC (.int 1))))) (ds o gs gu num k w a b (.ref n)) t2 = .nx ((ds o gs gu num k w a b (.ref n)).set 9 (some (.bl true))) t2 :=
    mSet_ok (mBin_ok (mVar_ok rfl) (mBin_ok (mVar_ok rfl) (by rfl) (ix_last b2)) (ent_eq n2 y2 hy.2))
  refine ⟨t3, ?_, (k0.trans k1).trans (k2.trans (k3.mono (by simp))), k3.2 _ _ a2 (by simp; exact Ne.symm na), by rw [refs_app]; exact k3.2 _ _ b2 (by simp; exact Ne.symm nb)⟩
  refine step ((mIf_false c).trans rfl) (step p2 (step p3 (step ((mIf_true (by rfl)).trans (mDrop_ok (mCall_ok (t' := t2) (vs := [.ref n, .int (num / 11)]) (by rfl) e3))) (by rfl))))
theorem Std.of {t : Sto} {L L' : Ls} (h : Std t L) (hs : ∀ x ∈ L', x ∈ L) : Std t L' := fun x hx => h x (hs x hx)
theorem snoc_map {LA GA : Ls} (h : LA.map (·.2) = GA.map (·.2)) : (LA = [] ∧ GA = []) ∨ ∃ L0 x G0 y, LA = L0 ++ [x] ∧ GA = G0 ++ [y] ∧ L0.map (·.2) = G0.map (·.2) ∧ x.2 = y.2 := by
  rcases List.eq_nil_or_concat LA with z | ⟨L0, x, z⟩
  · subst z
    cases GA with
    | nil => exact .inl ⟨rfl, rfl⟩
    | cons _ _ => cases h
  · rcases List.eq_nil_or_concat GA with w | ⟨G0, y, w⟩
    · subst w; subst z; simp at h
    · rw [List.concat_eq_append] at z w
      subst z; subst w
      rw [List.map_append, List.map_append] at h
      have := List.append_inj' h (by simp)
      refine .inr ⟨L0, x, G0, y, rfl, rfl, this.1, by simpa using this.2⟩
/-- a log after it was turned, and the law's lists after it -/
theorem after_turn {t t1 t2 : Sto} {c : Ctl} {LS LU GS GU LS' LU' GS' GU' : Ls} {n : Nat} (h : LogAt t c LS LU GS GU) (k1 : KX [c.s, c.u] t t1) (k2 : KX [c.gs, c.gu, n] t1 t2) (hn : t.length ≤ n) (hs : t1[c.s]? = some (.lst (refs LS'))) (hu : t1[c.u]? = some (.lst (refs LU')))
    (hgs : t2[c.gs]? = some (.lst (refs GS'))) (hgu : t2[c.gu]? = some (.lst (refs GU'))) (mem : ∀ x ∈ all4 LS' LU' GS' GU', x ∈ all4 LS LU GS GU) (e1 : LS'.map (·.2) = GS'.map (·.2)) (e2 : LU'.map (·.2) = GU'.map (·.2)) (len : LS'.length + LU'.length ≤ LS.length + LU.length + 1) :
    After t t2 c c LS LU GS GU LS' LU' GS' GU' := by
  have nd := h.nd
  simp only [Ctl.l, List.nodup_cons, List.mem_cons, List.not_mem_nil, or_false, not_or] at nd
  obtain ⟨⟨os, ou, ogs, ogu⟩, ⟨su, sgs, sgu⟩, ⟨ugs, ugu⟩, gsu, _⟩ := nd
  have lo := sto_lt h.ob; have ls := sto_lt h.s; have lu := sto_lt h.u
  have ap : ∀ x ∈ all4 LS LU GS GU, x.1 ≠ c.o ∧ x.1 ≠ c.s ∧ x.1 ≠ c.u ∧ x.1 ≠ c.gs ∧ x.1 ≠ c.gu := fun x hx => by
    have b := h.ap x hx
    simp only [Ctl.l, List.mem_cons, List.not_mem_nil, or_false, not_or] at b
    exact b
  refine ⟨⟨k2.2 _ _ (k1.2 _ _ h.ob (by simp; exact ⟨os, ou⟩)) (by simp; omega), k2.2 _ _ hs (by simp; omega), k2.2 _ _ hu (by simp; omega), hgs, hgu, fun x hx => ?_, e1, e2, h.nd, fun x hx => h.ap x (mem x hx)⟩, rfl, rfl, rfl, ?_, fun n hn => .inl hn, fun x hx => .inl ⟨x, mem x hx, rfl⟩, len⟩
  · have a := h.all x (mem x hx)
    have b := ap x (mem x hx)
    have lt := sto_lt a.1
    exact ⟨k2.2 _ _ (k1.2 _ _ a.1 (by simp; exact ⟨b.2.1, b.2.2.1⟩)) (by simp; omega), a.2⟩
  · have q : KX (n :: c.l) t1 t2 := k2.mono fun m hm => by simp only [Ctl.l, List.mem_cons, List.not_mem_nil, or_false] at hm ⊢; omega
    exact (k1.mono (fun m hm => by simp only [Ctl.l, List.mem_cons, List.not_mem_nil, or_false] at hm ⊢; omega)).fresh q hn
theorem deed_turn {t : Sto} {c : Ctl} {LS LU GS GU : Ls} {num k : Int} (h : LogAt t c LS LU GS GU) (hz : LS.length + LU.length ≤ 100) (hw : ¬ num % 5 < 3) :
    ∃ t' c' LS' LU' GS' GU', m__law_deed [.ref c.o, .ref c.gs, .ref c.gu, .int num, .int k] t = .ok (.bl true) t' ∧ After t t' c c' LS LU GS GU LS' LU' GS' GU' := by
  have nd := h.nd
  simp only [Ctl.l, List.nodup_cons, List.mem_cons, List.not_mem_nil, or_false, not_or] at nd
  obtain ⟨⟨os, ou, ogs, ogu⟩, ⟨su, sgs, sgu⟩, ⟨ugs, ugu⟩, gsu, _⟩ := nd
  have lsg : LS.length = GS.length := by have := congrArg List.length h.eq1; simpa using this
  have lug : LU.length = GU.length := by have := congrArg List.length h.eq2; simpa using this
  have ap : ∀ x ∈ LS ++ LU ++ GS ++ GU, x.1 ≠ c.o ∧ x.1 ≠ c.s ∧ x.1 ≠ c.u ∧ x.1 ≠ c.gs ∧ x.1 ≠ c.gu := fun x hx => by
    have b := h.ap x hx
    simp only [Ctl.l, List.mem_cons, List.not_mem_nil, or_false, not_or] at b
    exact b
  -- up to the question whether it was refused
  have head : ∀ (back : Bool) (a b : Nat) (v : Val) (t1 : Sto) (t2 : Sto), (num % 5 = 3 ∧ back = true ∧ a = c.gs ∧ b = c.gu ∨ ¬ num % 5 = 3 ∧ back = false ∧ a = c.gu ∧ b = c.gs) → m__law_turned [.ref c.o, .bl back] t = .ok v t1 →
      Tl (ds c.o c.gs c.gu num k (num % 5) a b v) t1 = .rt (.bl true) t2 → m__law_deed [.ref c.o, .ref c.gs, .ref c.gu, .int num, .int k] t = .ok (.bl true) t2 := by
    intro back a b v t1 t2 hc ht htl
    refine mDef_rt (t' := t2) ?_
    unfold b__law_deed
    have q3 : (mTst (mBin gLt (mVar 5) (mC (.int 3)))) [some (.ref c.o), some (.ref c.gs), some (.ref c.gu), some (.int num), some (.int k), some (.int (num % 5)), none, none, none, none] t = .ok false t := by
      show Out.ok (decide (num % 5 < 3)) t = _
      rw [decide_eq_false hw]
    refine step (sl' := [some (.ref c.o), some (.ref c.gs), some (.ref c.gu), some (.int num), some (.int k), some (.int (num % 5)), none, none, none, none]) (t' := t) (by rfl) (step ((mIf_false q3).trans rfl) ?_)
    have range : num % 5 = 3 ∨ num % 5 = 4 := by omega
    have q4 : (mTst (mBin gEq (mVar 5) (mC (.int 4)))) [some (.ref c.o), some (.ref c.gs), some (.ref c.gu), some (.int num), some (.int k), some (.int (num % 5)), some (.ref c.gs), some (.ref c.gu), none, none] t = .ok (decide (num % 5 = 4)) t := by
      refine mTst_ok ?_
      show ofO (gEq (.int (num % 5)) (.int 4) t) = _
      rw [gEq_int]; rfl
    have bk : mBin gEq (mVar 5) (mC (.int 3)) [some (.ref c.o), some (.ref c.gs), some (.ref c.gu), some (.int num), some (.int k), some (.int (num % 5)), some (.ref a), some (.ref b), none, none] t = .ok (.bl back) t := by
      show ofO (gEq (.int (num % 5)) (.int 3) t) = _
      rw [gEq_int]
      rcases hc with ⟨h1, h2, _⟩ | ⟨h1, h2, _⟩
      · rw [decide_eq_true h1, h2]; rfl
      · rw [decide_eq_false h1, h2]; rfl
    refine step (sl' := [some (.ref c.o), some (.ref c.gs), some (.ref c.gu), some (.int num), some (.int k), some (.int (num % 5)), some (.ref c.gs), none, none, none]) (t' := t) (by rfl) (step (sl' := [some (.ref c.o), some (.ref c.gs), some (.ref c.gu), some (.int num), some (.int k), some (.int (num % 5)), some (.ref c.gs), some (.ref c.gu), none, none]) (t' := t) (by rfl) ?_)
    refine step (sl' := [some (.ref c.o), some (.ref c.gs), some (.ref c.gu), some (.int num), some (.int k), some (.int (num % 5)), some (.ref a), some (.ref b), none, none]) (t' := t) ?_ ?_
    · rcases hc with ⟨h1, _, rfl, rfl⟩ | ⟨h1, _, rfl, rfl⟩
      · exact (mIf_false (q4.trans (by rw [decide_eq_false (by omega)]))).trans rfl
      · exact (mIf_true (q4.trans (by rw [decide_eq_true (by omega)]))).trans (step (sl' := [some (.ref c.o), some (.ref c.gs), some (.ref c.gu), some (.int num), some (.int k), some (.int (num % 5)), some (.ref c.gu), some (.ref c.gu), none, none]) (t' := t) (by rfl) (by rfl))
    · refine step (sl' := ds c.o c.gs c.gu num k (num % 5) a b v) (t' := t1) (mSet_ok (mCall_ok (t' := t) (vs := [.ref c.o, .bl back]) (mAs_cons (mVar_ok rfl) (mAs_one bk)) ht)) htl
  have self : ∀ t2, KX [] t t2 → After t t2 c c LS LU GS GU LS LU GS GU := fun t2 kx => ⟨h.kp kx, rfl, rfl, rfl, kx.mono (by simp), fun n hn => .inl hn, fun x hx => .inl ⟨x, hx, rfl⟩, by omega⟩
  by_cases hw3 : num % 5 = 3
  · -- undone
    rcases snoc_map h.eq1 with ⟨rfl, rfl⟩ | ⟨L0, x, G0, y, rfl, rfl, eq0, exy⟩
    · have tn := turned_none (back := true) (b := c.u) h.ob rfl rfl rfl h.s
      have g1 : (t ++ [Ob.lst []])[c.gs]? = some (.lst (refs [])) := sto_old h.gs
      exact ⟨_, c, [], LU, [], GU, head true c.gs c.gu (.str "refused") _ _ (.inl ⟨hw3, rfl, rfl, rfl⟩) tn (tl_none g1), self _ ((KX.app t (.lst [])).trans (KX.app _ (.lst [])))⟩
    · have ax := ap x (by simp)
      have ay := ap y (by simp)
      have l1 := sto_lt h.gs; have l2 := sto_lt h.gu
      obtain ⟨t1, e1, n1, s1, u1, k1⟩ := move_some (fa := "standing") (fb := "undone") h.ob rfl rfl h.s h.u (h.all.of fun z hz => by simp only [List.mem_append] at hz ⊢; exact .inl (.inl (.inl hz))) os ou su ax.2.1 ax.2.2.1 (by omega)
      have tn := turned_some (back := true) h.ob rfl rfl e1
      have g1 : t1[c.gs]? = some (.lst (refs (G0 ++ [y]))) := k1.2 _ _ h.gs (by simp; omega)
      have g2 : t1[c.gu]? = some (.lst (refs GU)) := k1.2 _ _ h.gu (by simp; omega)
      have st : Std t1 (G0 ++ [y]) := fun z hz => by
        have a := h.all z (by simp only [List.mem_append] at hz ⊢; exact .inl (.inr hz))
        have b := ap z (by simp only [List.mem_append] at hz ⊢; exact .inl (.inr hz))
        exact ⟨k1.2 _ _ a.1 (by simp; exact ⟨b.2.1, b.2.2.1⟩), a.2⟩
      obtain ⟨t2, e2, k2, f1, f2⟩ := tl_some (o := c.o) (gs := c.gs) (gu := c.gu) (num := num) (k := k) (w := num % 5) g1 g2 st (by rw [← exy]; exact n1) gsu ay.2.2.2.1 ay.2.2.2.2 (by omega) (by omega) (by omega)
      refine ⟨t2, c, L0, LU ++ [x], G0, GU ++ [y], head true c.gs c.gu _ _ _ (.inl ⟨hw3, rfl, rfl, rfl⟩) tn e2, after_turn h k1 k2 (Nat.le_succ _) s1 u1 f1 f2 (fun z hz => ?_) eq0 (by rw [List.map_append, List.map_append, h.eq2]; simp [exy]) (by simp only [List.length_append, List.length_singleton] at *; omega)⟩
      simp only [all4, List.mem_append, List.mem_singleton] at hz ⊢
      rcases hz with ((z1 | z1 | z1) | z1) | z1 | z1 <;> simp [z1]
  · -- done again
    rcases snoc_map h.eq2 with ⟨rfl, rfl⟩ | ⟨L0, x, G0, y, rfl, rfl, eq0, exy⟩
    · have tn := turned_none (back := false) (b := c.s) h.ob rfl rfl rfl h.u
      have g1 : (t ++ [Ob.lst []])[c.gu]? = some (.lst (refs [])) := sto_old h.gu
      exact ⟨_, c, LS, [], GS, [], head false c.gu c.gs (.str "refused") _ _ (.inr ⟨hw3, rfl, rfl, rfl⟩) tn (tl_none g1), self _ ((KX.app t (.lst [])).trans (KX.app _ (.lst [])))⟩
    · have ax := ap x (by simp)
      have ay := ap y (by simp)
      have l1 := sto_lt h.gs; have l2 := sto_lt h.gu
      obtain ⟨t1, e1, n1, u1, s1, k1⟩ := move_some (fa := "undone") (fb := "standing") h.ob rfl rfl h.u h.s (h.all.of fun z hz => by simp only [List.mem_append] at hz ⊢; exact .inl (.inl (.inr hz))) ou os (Ne.symm su) ax.2.2.1 ax.2.1 (by omega)
      have tn := turned_some (back := false) h.ob rfl rfl e1
      have k1' : KX [c.s, c.u] t t1 := k1.mono fun m hm => by simp only [List.mem_cons, List.not_mem_nil, or_false] at hm ⊢; omega
      have g1 : t1[c.gu]? = some (.lst (refs (G0 ++ [y]))) := k1.2 _ _ h.gu (by simp; omega)
      have g2 : t1[c.gs]? = some (.lst (refs GS)) := k1.2 _ _ h.gs (by simp; omega)
      have st : Std t1 (G0 ++ [y]) := fun z hz => by
        have a := h.all z (by simp only [List.mem_append] at hz ⊢; exact .inr hz)
        have b := ap z (by simp only [List.mem_append] at hz ⊢; exact .inr hz)
        exact ⟨k1.2 _ _ a.1 (by simp; exact ⟨b.2.2.1, b.2.1⟩), a.2⟩
      obtain ⟨t2, e2, k2, f1, f2⟩ := tl_some (o := c.o) (gs := c.gs) (gu := c.gu) (num := num) (k := k) (w := num % 5) g1 g2 st (by rw [← exy]; exact n1) (Ne.symm gsu) ay.2.2.2.2 ay.2.2.2.1 (by omega) (by omega) (by omega)
      have k2' : KX [c.gs, c.gu, t.length + 1] t1 t2 := k2.mono fun m hm => by simp only [List.mem_cons, List.not_mem_nil, or_false] at hm ⊢; omega
      refine ⟨t2, c, LS ++ [x], L0, GS ++ [y], G0, head false c.gu c.gs _ _ _ (.inr ⟨hw3, rfl, rfl, rfl⟩) tn e2, after_turn h k1' k2' (Nat.le_succ _) s1 u1 f2 f1 (fun z hz => ?_) (by rw [List.map_append, List.map_append, h.eq1]; simp [exy]) eq0 (by simp only [List.length_append, List.length_singleton] at *; omega)⟩
      simp only [all4, List.mem_append, List.mem_singleton] at hz ⊢
      rcases hz with (((z1 | z1) | z1) | (z1 | z1)) | z1 <;> simp [z1]
end K19

set_option Elab.async false
set_option linter.all false
set_option maxRecDepth 100000
set_option maxHeartbeats 4000000
namespace K19
open PySem L2 Mn Ms
theorem mul_r {i j : Int} {t : Sto} (h : -(2 ^ 64) < j ∧ j < 2 ^ 64) : gMul (.int i) (.int j) t = some (.int (i * j), t) := by
  show (if (-(2 ^ 64) < i ∧ i < 2 ^ 64) ∨ (-(2 ^ 64) < j ∧ j < 2 ^ 64) then some (Val.int (i * j), t) else none) = _
  rw [if_pos (.inr h)]
theorem emptied_ok {t : Sto} {c : Ctl} {LS LU GS GU : Ls} (h : LogAt t c LS LU GS GU) (hz : LS.length + LU.length ≤ 100) : ∃ t', m__law_emptied [.ref c.o, .ref c.gs] t = .ok (.bl true) t' ∧ KX [c.s, c.u] t t' := by
  have nd := h.nd
  simp only [Ctl.l, List.nodup_cons, List.mem_cons, List.not_mem_nil, or_false, not_or] at nd
  obtain ⟨⟨os, ou, ogs, ogu⟩, ⟨su, sgs, sgu⟩, ⟨ugs, ugu⟩, gsu, _⟩ := nd
  have lsg : LS.length = GS.length := by have := congrArg List.length h.eq1; simpa using this
  have ap : ∀ x ∈ LS ++ LU ++ GS ++ GU, x.1 ≠ c.o ∧ x.1 ≠ c.s ∧ x.1 ≠ c.u ∧ x.1 ≠ c.gs ∧ x.1 ≠ c.gu := fun x hx => by
    have b := h.ap x hx
    simp only [Ctl.l, List.mem_cons, List.not_mem_nil, or_false, not_or] at b
    exact b
  have leng : ∀ {t' : Sto}, KX [c.s, c.u] t t' → ∀ o2, mCB gLen [(mVar 1)] [some (.ref c.o), some (.ref c.gs), o2] t' = .ok (.int LS.length) t' := fun {t'} kx o2 =>
    mCB_ok (mAs_one (mVar_ok rfl)) (by rw [len_at (kx.2 _ _ h.gs (by simp; omega)), refs_len, lsg])
  have rok : rngOk 0 (LS.length : Int) := ⟨by decide, by decide, by omega, by omega⟩
  have hs : mIRng1 (mCB gLen [(mVar 1)]) [some (.ref c.o), some (.ref c.gs), none] t = .ok (.rng 0 LS.length) t := by
    unfold mIRng1
    rw [mAs_one (leng (KX.refl _ _) none), Out.bind_ok]
    unfold rng1
    dsimp only
    rw [if_pos rok]
    simp
  obtain ⟨sl', t', er, ⟨o2, rfl⟩, kx, U, hs', hu'⟩ := mFor_run (src := mIRng1 (mCB gLen [(mVar 1)])) (g := tgN 2)
    (b := mIf (mTst (mBin gNe (mCall m__law_turned [(mVar 0), (mC (.bl true))]) (mBin gIx (mVar 1) (mBin gSub (mBin gSub (mCB gLen [(mVar 1)]) (mC (.int 1))) (mVar 2))))) (mRet (mC (.bl false))) mNext) (n := LS.length)
    (fun i sl t' => (∃ o2, sl = [some (.ref c.o), some (.ref c.gs), o2]) ∧ KX [c.s, c.u] t t' ∧ ∃ U : Ls, t'[c.s]? = some (.lst (refs (LS.take (LS.length - i)))) ∧ t'[c.u]? = some (.lst (refs U)) ∧ U.length ≤ LU.length + i)
    hs (Nat.le_refl _) ⟨⟨none, rfl⟩, KX.refl _ _, LU, by rw [Nat.sub_zero, List.take_length]; exact h.s, h.u, Nat.le_refl _⟩
    (by
      rintro i sl t1 hi ⟨⟨o2, rfl⟩, kx, U, g1, g2, g3⟩
      have hj : LS.length - (i + 1) < LS.length := by omega
      have ej : LS[LS.length - (i + 1)]? = some LS[LS.length - (i + 1)] := List.getElem?_eq_getElem hj
      have ejg : GS[LS.length - (i + 1)]? = some GS[LS.length - (i + 1)] := List.getElem?_eq_getElem (by omega)
      have esp : LS.take (LS.length - i) = LS.take (LS.length - (i + 1)) ++ [LS[LS.length - (i + 1)]] := by
        rw [show LS.length - i = LS.length - (i + 1) + 1 by omega, List.take_succ, ej]; rfl
      have em : LS[LS.length - (i + 1)].2 = GS[LS.length - (i + 1)].2 := by
        have q := congrArg (fun l => l[LS.length - (i + 1)]?) h.eq1
        simp only [List.getElem?_map, ej, ejg, Option.map_some, Option.some.injEq] at q
        exact q
      generalize hx : LS[LS.length - (i + 1)] = x at ej esp em
      generalize hy : GS[LS.length - (i + 1)] = y at ejg em
      have mx : x ∈ LS := List.mem_of_getElem? ej
      have my : y ∈ GS := List.mem_of_getElem? ejg
      have ax := ap x (by simp [mx])
      have ay := ap y (by simp [my])
      rw [esp] at g1
      have st : Std t1 (LS.take (LS.length - (i + 1)) ++ [x]) := fun z hz => by
        have mz : z ∈ LS := by
          rcases List.mem_append.mp hz with w | w
          · exact List.mem_of_mem_take w
          · rw [List.mem_singleton.mp w]; exact mx
        have a := h.all z (by simp [mz])
        have b := ap z (by simp [mz])
        exact ⟨kx.2 _ _ a.1 (by simp; exact ⟨b.2.1, b.2.2.1⟩), a.2⟩
      have ob1 := kx.2 _ _ h.ob (by simp; exact ⟨os, ou⟩)
      obtain ⟨t2, e2, n2, s2, u2, k2⟩ := move_some (fa := "standing") (fb := "undone") ob1 rfl rfl g1 g2 st os ou su ax.2.1 ax.2.2.1 (by omega)
      have tn := turned_some (back := true) ob1 rfl rfl e2
      have kt := kx.trans k2
      have y2 : t2[y.1]? = some (.lst (entV y.2)) := kt.2 _ _ (h.all y (by simp [my])).1 (by simp; exact ⟨ay.2.1, ay.2.2.1⟩)
      have gs2 : t2[c.gs]? = some (.lst (refs GS)) := kt.2 _ _ h.gs (by simp; omega)
      refine ⟨.int (0 + i), _, by show some (if i < LS.length then some (Val.int (0 + i)) else none) = _; rw [if_pos hi], rfl, [some (.ref c.o), some (.ref c.gs), some (.int (0 + i))], t2, .inl (mIf_false (mTst_ok (mBin_ok (u := .ref y.1) (t2 := t2) (mCall_ok (t' := t1) (vs := [.ref c.o, .bl true]) (by rfl) tn) ?_ ?_))), ⟨_, rfl⟩, kt, U ++ [x], s2, u2, by rw [List.length_append, List.length_singleton]; omega⟩
      · refine mBin_ok (u := .int ((LS.length - (i + 1) : Nat) : Int)) (mVar_ok rfl) (mBin_ok (mBin_ok (leng kt _) (by rfl) (by rfl)) (mVar_ok rfl) ?_) (ix_at gs2 (by rw [refs_ix, ejg]; rfl))
        show some (Val.int ((LS.length : Int) - 1 - (0 + i)), t2) = _
        rw [show (LS.length : Int) - 1 - (0 + i) = ((LS.length - (i + 1) : Nat) : Int) by omega]
      · obtain ⟨_, ks, hk, hd⟩ := (h.all y (by simp [my])).2
        rw [em] at n2
        rw [gNe_lst n2 y2 hk hk (by omega) (by omega), NestedKey.beqAll_self]; rfl)
    (by
      rintro sl t1 _
      show some (if LS.length < LS.length then _ else _) = _
      rw [if_neg (Nat.lt_irrefl _)])
  obtain ⟨hu', _⟩ := hu'
  rw [Nat.sub_self, List.take_zero] at hs'
  have ob1 := kx.2 _ _ h.ob (by simp; exact ⟨os, ou⟩)
  have tn := turned_none (back := true) (b := c.u) ob1 rfl rfl rfl hs'
  refine ⟨t' ++ [.lst []], mDef_rt (step er (mRet_ok (mBin_ok (mCall_ok (t' := t') (vs := [.ref c.o, .bl true]) (by rfl) tn) (by rfl) ?_))), kx.trans (KX.app _ _)⟩
  rw [gEq_str]; rfl
theorem mixed_ok (cell : Int) (k : Nat) (hk : k ≤ 100) (t : Sto) : ∃ v : Int, m__law_mixed [.int cell, .int k] t = .ok (.int v) t := by
  have mk : gMul (.int (k : Int)) (.int (k : Int)) t = some (.int ((k : Int) * k), t) := mul_r (by omega)
  have m1 : ∀ i : Int, gMul (.int i) (.int 48271) t = some (.int (i * 48271), t) := fun i => mul_r (by decide)
  have m2 : ∀ i : Int, gMul (.int i) (.int 331) t = some (.int (i * 331), t) := fun i => mul_r (by decide)
  have m3 : ∀ i : Int, gMul (.int i) (.int 69621) t = some (.int (i * 69621), t) := fun i => mul_r (by decide)
  have m4 : ∀ i : Int, gMul (.int i) (.int 39373) t = some (.int (i * 39373), t) := fun i => mul_r (by decide)
  have m5 : ∀ i : Int, gMul (.int i) (.int 44497) t = some (.int (i * 44497), t) := fun i => mul_r (by decide)
  have m6 : ∀ i : Int, gMul (.int i) (.int 33554467) t = some (.int (i * 33554467), t) := fun i => mul_r (by decide)
  have s1 : ∃ a : Int, mAsg (tgN 2) (mBin gAdd (mBin gAdd (mBin gMod (mBin gMul (mBin gAdd (mBin gMod (mVar 0) (mC (.int 1000003))) (mC (.int 1))) (mC (.int 48271))) (mC (.int 2147483563))) (mBin gMul (mBin gMul (mVar 1) (mVar 1)) (mC (.int 331)))) (mVar 1)) [some (.int cell), some (.int k), none, none, none, none] t = .nx [some (.int cell), some (.int k), some (.int a), none, none, none] t :=
    ⟨_, mSet_ok (mBin_ok (mBin_ok (mBin_ok (mBin_ok (mBin_ok (mBin_ok (mVar_ok rfl) (by rfl) (by rfl)) (by rfl) (by rfl)) (by rfl) (m1 _)) (by rfl) (by rfl)) (mBin_ok (mBin_ok (mVar_ok rfl) (mVar_ok rfl) mk) (by rfl) (m2 _)) (by rfl)) (mVar_ok rfl) (by rfl))⟩
  obtain ⟨a, s1⟩ := s1
  have s2 : ∃ b : Int, mAsg (tgN 3) (mBin gDiv (mBin gMod (mBin gMul (mVar 2) (mC (.int 69621))) (mC (.int 2147483647))) (mC (.int 64))) [some (.int cell), some (.int k), some (.int a), none, none, none] t = .nx [some (.int cell), some (.int k), some (.int a), some (.int b), none, none] t :=
    ⟨_, mSet_ok (mBin_ok (mBin_ok (mBin_ok (mVar_ok rfl) (by rfl) (m3 _)) (by rfl) (by rfl)) (by rfl) (by rfl))⟩
  obtain ⟨b, s2⟩ := s2
  have s3 : ∃ d : Int, mAsg (tgN 4) (mBin gDiv (mBin gMod (mBin gMul (mVar 2) (mC (.int 39373))) (mC (.int 2147483579))) (mC (.int 64))) [some (.int cell), some (.int k), some (.int a), some (.int b), none, none] t = .nx [some (.int cell), some (.int k), some (.int a), some (.int b), some (.int d), none] t :=
    ⟨_, mSet_ok (mBin_ok (mBin_ok (mBin_ok (mVar_ok rfl) (by rfl) (m4 _)) (by rfl) (by rfl)) (by rfl) (by rfl))⟩
  obtain ⟨d, s3⟩ := s3
  have s4 : ∃ f : Int, mAsg (tgN 5) (mBin gDiv (mBin gMod (mBin gAdd (mBin gMul (mVar 3) (mC (.int 44497))) (mVar 2)) (mC (.int 2147483629))) (mC (.int 64))) [some (.int cell), some (.int k), some (.int a), some (.int b), some (.int d), none] t = .nx [some (.int cell), some (.int k), some (.int a), some (.int b), some (.int d), some (.int f)] t :=
    ⟨_, mSet_ok (mBin_ok (mBin_ok (mBin_ok (mBin_ok (mVar_ok rfl) (by rfl) (m5 _)) (mVar_ok rfl) (by rfl)) (by rfl) (by rfl)) (by rfl) (by rfl))⟩
  obtain ⟨f, s4⟩ := s4
  refine ⟨(f * 33554467 + d) * 33554467 + b, mDef_rt (step s1 (step s2 (step s3 (step s4 (mRet_ok (mBin_ok (mBin_ok (mBin_ok (mBin_ok (mVar_ok rfl) (by rfl) (m6 _)) (mVar_ok rfl) (by rfl)) (by rfl) (m6 _)) (mVar_ok rfl) (by rfl)))))))⟩
end K19

set_option Elab.async false
set_option linter.all false
set_option maxRecDepth 100000
set_option maxHeartbeats 4000000
namespace K19
open PySem L2 Mn Ms
theorem deed_ok {t : Sto} {c : Ctl} {LS LU GS GU : Ls} {num k : Int} (h : LogAt t c LS LU GS GU) (hz : LS.length + LU.length ≤ 100) :
    ∃ t' c' LS' LU' GS' GU', m__law_deed [.ref c.o, .ref c.gs, .ref c.gu, .int num, .int k] t = .ok (.bl true) t' ∧ After t t' c c' LS LU GS GU LS' LU' GS' GU' := by
  by_cases hw : num % 5 < 3
  · exact deed_add h hz hw
  · exact deed_turn h hz hw
/-- one log with what it holds -/
structure Lg where
  c : Ctl
  LS : Ls
  LU : Ls
  GS : Ls
  GU : Ls
def Lg.At (t : Sto) (a : Lg) : Prop := LogAt t a.c a.LS a.LU a.GS a.GU
def Lg.rf (a : Lg) : List Nat := a.c.l ++ (all4 a.LS a.LU a.GS a.GU).map (·.1)
theorem Lg.lt {t : Sto} {a : Lg} (h : a.At t) {n : Nat} (hn : n ∈ a.rf) : n < t.length := by
  unfold Lg.rf at hn
  rcases List.mem_append.mp hn with w | w
  · simp only [Ctl.l, List.mem_cons, List.not_mem_nil, or_false] at w
    rcases w with w | w | w | w | w <;> subst w
    · exact sto_lt h.ob
    · exact sto_lt h.s
    · exact sto_lt h.u
    · exact sto_lt h.gs
    · exact sto_lt h.gu
  · obtain ⟨x, hx, rfl⟩ := List.mem_map.mp w
    exact sto_lt (h.all x hx).1
def Fx : List Nat := [7, 10, 13, 14]
structure Two (t : Sto) (a b : Lg) : Prop where
  ha : a.At t
  hb : b.At t
  ab : ∀ n ∈ a.c.l, n ∉ b.rf
  ba : ∀ n ∈ b.c.l, n ∉ a.rf
  fa : ∀ n ∈ a.c.l, n ∉ Fx
  fb : ∀ n ∈ b.c.l, n ∉ Fx
  ln : 15 ≤ t.length
theorem Two.swap {t : Sto} {a b : Lg} (h : Two t a b) : Two t b a := ⟨h.hb, h.ha, h.ba, h.ab, h.fb, h.fa, h.ln⟩
theorem Two.kp {t t' : Sto} {a b : Lg} (h : Two t a b) (k : KX [] t t') : Two t' a b := ⟨LogAt.kp h.ha k, LogAt.kp h.hb k, h.ab, h.ba, h.fa, h.fb, Nat.le_trans h.ln k.1⟩
theorem two_step {t t' : Sto} {a a' b : Lg} (h : Two t a b) (w : After t t' a.c a'.c a.LS a.LU a.GS a.GU a'.LS a'.LU a'.GS a'.GU) : Two t' a' b where
  ha := w.at_
  hb := LogAt.keep h.hb w.kx (fun n hn z => h.ba n hn (List.mem_append_left _ z)) (fun x hx z => h.ab _ z (List.mem_append_right _ (List.mem_map.mpr ⟨x, hx, rfl⟩)))
  ab := fun n hn z => by
    rcases w.cl n hn with y | y
    · exact h.ab n y z
    · have := Lg.lt h.hb z; omega
  ba := fun n hn z => by
    have nl : n < t.length := Lg.lt h.hb (List.mem_append_left _ hn)
    rcases List.mem_append.mp z with y | y
    · rcases w.cl n y with x | x
      · exact h.ab n x (List.mem_append_left _ hn)
      · omega
    · obtain ⟨x, hx, rfl⟩ := List.mem_map.mp y
      rcases w.xl x hx with ⟨y, hy, e⟩ | e
      · exact h.ba _ hn (List.mem_append_right _ (List.mem_map.mpr ⟨y, hy, e⟩))
      · omega
  fa := fun n hn z => by
    rcases w.cl n hn with y | y
    · exact h.fa n y z
    · have := h.ln
      simp only [Fx, List.mem_cons, List.not_mem_nil, or_false] at z
      omega
  fb := h.fb
  ln := Nat.le_trans h.ln w.kx.1
theorem cut_take {α : Type} (l : List α) (n : Nat) : cutG l none (some (n : Int)) = l.take n := by
  unfold cutG
  rw [HT.sIx_none, HT.sIx_nat, List.drop_zero, Nat.sub_zero]
  rcases Nat.le_total n l.length with h | h
  · rw [Nat.min_eq_left h]
  · rw [Nat.min_eq_right h, List.take_length, List.take_of_length_le h]
structure LInv (X : List Val) (i : Nat) (t : Sto) (a b : Lg) : Prop where
  two : Two t a b
  ao : a.c.o = 1
  ags : a.c.gs = 8
  agu : a.c.gu = 11
  bo : b.c.o = 4
  bgs : b.c.gs = 9
  bgu : b.c.gu = 12
  t7 : t[7]? = some (.lst [.ref 1, .ref 4])
  t10 : t[10]? = some (.lst [.ref 8, .ref 9])
  t13 : t[13]? = some (.lst [.ref 11, .ref 12])
  t14 : t[14]? = some (.lst X)
  la : a.LS.length + a.LU.length ≤ i
  lb : b.LS.length + b.LU.length ≤ i
theorem LInv.kp {X : List Val} {i : Nat} {t t' : Sto} {a b : Lg} (h : LInv X i t a b) (k : KX [] t t') : LInv X i t' a b :=
  ⟨h.two.kp k, h.ao, h.ags, h.agu, h.bo, h.bgs, h.bgu, k.2 _ _ h.t7 (by simp), k.2 _ _ h.t10 (by simp), k.2 _ _ h.t13 (by simp), k.2 _ _ h.t14 (by simp), h.la, h.lb⟩
abbrev fr (o4 o5 o6 o7 : Option Val) : Sl := [some (.ref 0), some (.ref 7), some (.ref 10), some (.ref 13), o4, o5, o6, o7]
abbrev deedE : E := mCall m__law_deed [(mBin gIx (mVar 1) (mVar 7)), (mBin gIx (mVar 2) (mVar 7)), (mBin gIx (mVar 3) (mVar 7)), (mVar 6), (mVar 4)]
abbrev toldE (i : Int) : E := mCall m__law_told [(mBin gIx (mVar 1) (mC (.int i))), (mBin gIx (mVar 2) (mC (.int i))), (mBin gIx (mVar 3) (mC (.int i))), (mVar 6)]
theorem ix_ok {e1 e2 : E} {sl : Sl} {t : Sto} {n j : Nat} {xs : List Val} {v : Val} (h1 : e1 sl t = .ok (.ref n) t) (h2 : e2 sl t = .ok (.int j) t) (ht : t[n]? = some (.lst xs)) (hv : xs[j]? = some v) : mBin gIx e1 e2 sl t = .ok v t := mBin_ok h1 h2 (ix_at ht hv)
theorem deed_at {X : List Val} {i : Nat} {t : Sto} {a b : Lg} {num : Int} {o5 : Option Val} {j : Nat} (hi : LInv X i t a b) (hb : i ≤ 63) (hj : j < 2) :
    ∃ t' a' b', deedE (fr (some (.int i)) o5 (some (.int num)) (some (.int j))) t = .ok (.bl true) t' ∧ LInv X (i + 1) t' a' b' := by
  have la := hi.la; have lb := hi.lb
  have kf : ∀ {C : List Nat} {t' : Sto}, (∀ n ∈ C, n ∉ Fx) → KX C t t' → t'[7]? = some (.lst [.ref 1, .ref 4]) ∧ t'[10]? = some (.lst [.ref 8, .ref 9]) ∧ t'[13]? = some (.lst [.ref 11, .ref 12]) ∧ t'[14]? = some (.lst X) := fun {C t'} hc k =>
    ⟨k.2 _ _ hi.t7 fun z => hc _ z (by simp [Fx]), k.2 _ _ hi.t10 fun z => hc _ z (by simp [Fx]), k.2 _ _ hi.t13 fun z => hc _ z (by simp [Fx]), k.2 _ _ hi.t14 fun z => hc _ z (by simp [Fx])⟩
  match j, hj with
  | 0, _ =>
    obtain ⟨t', c', LS', LU', GS', GU', e, w⟩ := deed_ok (num := num) (k := i) hi.two.ha (by omega)
    rw [hi.ao, hi.ags, hi.agu] at e
    obtain ⟨f7, f10, f13, f14⟩ := kf hi.two.fa w.kx
    refine ⟨t', ⟨c', LS', LU', GS', GU'⟩, b, mCall_ok (mAs_cons (ix_ok (j := 0) (mVar_ok rfl) (mVar_ok rfl) hi.t7 rfl) (mAs_cons (ix_ok (j := 0) (mVar_ok rfl) (mVar_ok rfl) hi.t10 rfl) (mAs_cons (ix_ok (j := 0) (mVar_ok rfl) (mVar_ok rfl) hi.t13 rfl) (mAs_cons (mVar_ok rfl) (mAs_one (mVar_ok rfl)))))) e,
      two_step (a' := ⟨c', LS', LU', GS', GU'⟩) hi.two w, by rw [w.o]; exact hi.ao, by rw [w.gs]; exact hi.ags, by rw [w.gu]; exact hi.agu, hi.bo, hi.bgs, hi.bgu, f7, f10, f13, f14, ?_, by omega⟩
    have := w.len
    show LS'.length + LU'.length ≤ i + 1
    omega
  | 1, _ =>
    obtain ⟨t', c', LS', LU', GS', GU', e, w⟩ := deed_ok (num := num) (k := i) hi.two.hb (by omega)
    rw [hi.bo, hi.bgs, hi.bgu] at e
    obtain ⟨f7, f10, f13, f14⟩ := kf hi.two.fb w.kx
    refine ⟨t', a, ⟨c', LS', LU', GS', GU'⟩, mCall_ok (mAs_cons (ix_ok (j := 1) (mVar_ok rfl) (mVar_ok rfl) hi.t7 rfl) (mAs_cons (ix_ok (j := 1) (mVar_ok rfl) (mVar_ok rfl) hi.t10 rfl) (mAs_cons (ix_ok (j := 1) (mVar_ok rfl) (mVar_ok rfl) hi.t13 rfl) (mAs_cons (mVar_ok rfl) (mAs_one (mVar_ok rfl)))))) e,
      (two_step (a' := ⟨c', LS', LU', GS', GU'⟩) hi.two.swap w).swap, hi.ao, hi.ags, hi.agu, by rw [w.o]; exact hi.bo, by rw [w.gs]; exact hi.bgs, by rw [w.gu]; exact hi.bgu, f7, f10, f13, f14, by omega, ?_⟩
    have := w.len
    show LS'.length + LU'.length ≤ i + 1
    omega
theorem told_a {X : List Val} {i : Nat} {t : Sto} {a b : Lg} {num : Int} {o4 o5 o7 : Option Val} (hi : LInv X i t a b) (hb : i ≤ 64) : ∃ t', toldE 0 (fr o4 o5 (some (.int num)) o7) t = .ok (.bl true) t' ∧ KX [] t t' := by
  have la := hi.la
  obtain ⟨t', e, k⟩ := told_ok (k := num) hi.two.ha (by omega)
  rw [hi.ao, hi.ags, hi.agu] at e
  exact ⟨t', mCall_ok (mAs_cons (ix_ok (j := 0) (mVar_ok rfl) (by rfl) hi.t7 rfl) (mAs_cons (ix_ok (j := 0) (mVar_ok rfl) (by rfl) hi.t10 rfl) (mAs_cons (ix_ok (j := 0) (mVar_ok rfl) (by rfl) hi.t13 rfl) (mAs_one (mVar_ok rfl))))) e, k⟩
theorem told_b {X : List Val} {i : Nat} {t : Sto} {a b : Lg} {num : Int} {o4 o5 o7 : Option Val} (hi : LInv X i t a b) (hb : i ≤ 64) : ∃ t', toldE 1 (fr o4 o5 (some (.int num)) o7) t = .ok (.bl true) t' ∧ KX [] t t' := by
  have lb := hi.lb
  obtain ⟨t', e, k⟩ := told_ok (k := num) hi.two.hb (by omega)
  rw [hi.bo, hi.bgs, hi.bgu] at e
  exact ⟨t', mCall_ok (mAs_cons (ix_ok (j := 1) (mVar_ok rfl) (by rfl) hi.t7 rfl) (mAs_cons (ix_ok (j := 1) (mVar_ok rfl) (by rfl) hi.t10 rfl) (mAs_cons (ix_ok (j := 1) (mVar_ok rfl) (by rfl) hi.t13 rfl) (mAs_one (mVar_ok rfl))))) e, k⟩
abbrev body : S :=
    (mSeq (mAsg (tgN 6) (mVar 5))
    (mSeq (mIf (mTst (mBin gLt (mBin gMod (mVar 5) (mC (.int 7))) (mC (.int 4))))
    (mAsg (tgN 6) (mCall m__law_mixed [(mVar 5), (mVar 4)]))
    mNext)
    (mSeq (mAsg (tgN 7) (mBin gMod (mBin gDiv (mVar 6) (mC (.int 5))) (mC (.int 2))))
    (mSeq (mIf (mNot (mTst deedE))
    (mRet (mC (.bl false)))
    mNext)
    (mIf (mOr (mNot (mTst (toldE 0))) (mNot (mTst (toldE 1))))
    (mRet (mC (.bl false)))
    mNext)))))
theorem turn_ok {X : List Val} {i : Nat} {t : Sto} {a b : Lg} {cell : Int} {o6 o7 : Option Val} (hi : LInv X i t a b) (hb : i ≤ 63) :
    ∃ t' a' b' o6' o7', body (fr (some (.int i)) (some (.int cell)) o6 o7) t = .nx (fr (some (.int i)) (some (.int cell)) o6' o7') t' ∧ LInv X (i + 1) t' a' b' := by
  have s2 : ∃ num : Int, (mIf (mTst (mBin gLt (mBin gMod (mVar 5) (mC (.int 7))) (mC (.int 4)))) (mAsg (tgN 6) (mCall m__law_mixed [(mVar 5), (mVar 4)])) mNext) (fr (some (.int i)) (some (.int cell)) (some (.int cell)) o7) t = .nx (fr (some (.int i)) (some (.int cell)) (some (.int num)) o7) t := by
    have q : (mTst (mBin gLt (mBin gMod (mVar 5) (mC (.int 7))) (mC (.int 4)))) (fr (some (.int i)) (some (.int cell)) (some (.int cell)) o7) t = .ok (decide (cell % 7 < 4)) t := rfl
    by_cases h : cell % 7 < 4
    · obtain ⟨v, hv⟩ := mixed_ok cell i (by omega) t
      exact ⟨v, (mIf_true (q.trans (by rw [decide_eq_true h]))).trans (mSet_ok (mCall_ok (t' := t) (vs := [.int cell, .int i]) (by rfl) hv))⟩
    · exact ⟨cell, (mIf_false (q.trans (by rw [decide_eq_false h]))).trans rfl⟩
  obtain ⟨num, s2⟩ := s2
  have s3 : ∃ j : Nat, j < 2 ∧ mAsg (tgN 7) (mBin gMod (mBin gDiv (mVar 6) (mC (.int 5))) (mC (.int 2))) (fr (some (.int i)) (some (.int cell)) (some (.int num)) o7) t = .nx (fr (some (.int i)) (some (.int cell)) (some (.int num)) (some (.int j))) t := by
    refine ⟨(num / 5 % 2).toNat, by omega, mSet_ok (v := .int ((num / 5 % 2).toNat : Int)) ?_⟩
    rw [show ((num / 5 % 2).toNat : Int) = num / 5 % 2 by omega]
    rfl
  obtain ⟨j, hj, s3⟩ := s3
  obtain ⟨t1, a1, b1, e1, i1⟩ := deed_at (num := num) (o5 := some (.int cell)) hi hb hj
  obtain ⟨t2, e2, k2⟩ := told_a (num := num) (o4 := some (.int i)) (o5 := some (.int cell)) (o7 := some (.int j)) i1 (by omega)
  have i2 := i1.kp k2
  obtain ⟨t3, e3, k3⟩ := told_b (num := num) (o4 := some (.int i)) (o5 := some (.int cell)) (o7 := some (.int j)) i2 (by omega)
  refine ⟨t3, a1, b1, some (.int num), some (.int j), step (mSet_ok (mVar_ok rfl)) (step s2 (step s3 (step ((mIf_false (mNot_ok (mTst_ok e1))).trans rfl) ((mIf_false ?_).trans rfl)))), i2.kp k3⟩
  unfold mOr
  rw [mNot_ok (mTst_ok e2), Out.bind_ok, if_neg (by simp), mNot_ok (mTst_ok e3)]
  rfl
theorem b_law_eq : b_law =
    (mSeq (mAsg (tgN 1) (mLst [(mMake "Log" m_Log___init__ []), (mMake "Log" m_Log___init__ [])]))
    (mSeq (mAsg (tgN 2) (mLst [(mLst []), (mLst [])]))
    (mSeq (mAsg (tgN 3) (mLst [(mLst []), (mLst [])]))
    (mSeq (mFor (mIEnum (mSl (mVar 0) none (some (mC (.int 60))))) (tgTup (tgCons (tgN 4) (tgCons (tgN 5) tgNil))) body)
    (mRet (mAndV (mCall m__law_emptied [(mBin gIx (mVar 1) (mC (.int 1))), (mBin gIx (mVar 2) (mC (.int 1)))]) (mCall m__law_emptied [(mBin gIx (mVar 1) (mC (.int 0))), (mBin gIx (mVar 2) (mC (.int 0)))])))))))  := rfl
abbrev sto0 (ns : List Int) : Sto := [.scr ns, .ins "Log" [("standing", .ref 2), ("undone", .ref 3)], .lst [], .lst [], .ins "Log" [("standing", .ref 5), ("undone", .ref 6)], .lst [], .lst [], .lst [.ref 1, .ref 4], .lst [], .lst [], .lst [.ref 8, .ref 9], .lst [], .lst [], .lst [.ref 11, .ref 12]]
abbrev a0 : Lg := ⟨⟨1, 2, 3, 8, 11⟩, [], [], [], []⟩
abbrev b0 : Lg := ⟨⟨4, 5, 6, 9, 12⟩, [], [], [], []⟩
theorem inv0 (ns : List Int) (X : List Val) : LInv X 0 (sto0 ns ++ [.lst X]) a0 b0 where
  two := ⟨⟨rfl, rfl, rfl, rfl, rfl, fun x hx => (by cases hx), rfl, rfl, by decide, fun x hx => (by cases hx)⟩, ⟨rfl, rfl, rfl, rfl, rfl, fun x hx => (by cases hx), rfl, rfl, by decide, fun x hx => (by cases hx)⟩, by decide, by decide, by decide, by decide, by simp⟩
  ao := rfl
  ags := rfl
  agu := rfl
  bo := rfl
  bgs := rfl
  bgu := rfl
  t7 := rfl
  t10 := rfl
  t13 := rfl
  t14 := rfl
  la := Nat.le_refl _
  lb := Nat.le_refl _
theorem law_ok (ns : List Int) (hn : ns.length ≤ 63) : ∃ t', m_law [.ref 0] [.scr ns] = .ok (.bl true) t' := by
  have cl : (cutG ns none (some 60)).length ≤ 60 := by
    rw [show (some (60 : Int)) = some ((60 : Nat) : Int) from rfl, cut_take, List.length_take]; omega
  have hs : mIEnum (mSl (mVar 0) none (some (mC (.int 60)))) (fr none none none none) (sto0 ns) = .ok (.enl 14) (sto0 ns ++ [.lst ((cutG ns none (some 60)).map .int)]) := rfl
  generalize hX : cutG ns none (some 60) = cs at cl hs
  obtain ⟨sl', t', e, a, b, o4, o5, o6, o7, rfl, iv⟩ := mFor_run (src := mIEnum (mSl (mVar 0) none (some (mC (.int 60))))) (g := tgTup (tgCons (tgN 4) (tgCons (tgN 5) tgNil))) (b := body) (n := cs.length)
    (fun i sl t => ∃ (a b : Lg) (o4 o5 o6 o7 : Option Val), sl = fr o4 o5 o6 o7 ∧ LInv (cs.map .int) i t a b)
    hs (by show cs.length ≤ (cs.map Val.int).length; rw [List.length_map]; exact Nat.le_refl _)
    ⟨a0, b0, none, none, none, none, rfl, inv0 ns _⟩
    (by
      rintro i sl t hi ⟨a, b, o4, o5, o6, o7, rfl, iv⟩
      obtain ⟨t', a', b', o6', o7', eb, iv'⟩ := turn_ok (cell := cs[i]) (o6 := o6) (o7 := o7) iv (by omega)
      refine ⟨.tup [.int i, .int cs[i]], _, ?_, rfl, _, t', .inl eb, a', b', _, _, o6', o7', rfl, iv'⟩
      unfold nxt
      dsimp only
      rw [iv.t14]
      dsimp only
      rw [List.getElem?_map, List.getElem?_eq_getElem hi]
      rfl)
    (by
      rintro sl t ⟨a, b, o4, o5, o6, o7, rfl, iv⟩
      unfold nxt
      dsimp only
      rw [iv.t14]
      dsimp only
      rw [List.getElem?_map, List.getElem?_eq_none (Nat.le_refl _)]
      rfl)
  have la := iv.la; have lb := iv.lb
  obtain ⟨t1, e1, k1⟩ := emptied_ok iv.two.hb (by omega)
  have hc : ∀ n ∈ [b.c.s, b.c.u], n ∈ b.c.l := by simp [Ctl.l]
  have ha1 : LogAt t1 a.c a.LS a.LU a.GS a.GU := LogAt.keep iv.two.ha k1 (fun n hn z => iv.two.ba n (hc n z) (List.mem_append_left _ hn)) (fun x hx z => iv.two.ba _ (hc _ z) (List.mem_append_right _ (List.mem_map.mpr ⟨x, hx, rfl⟩)))
  have f7 := k1.2 _ _ iv.t7 fun z => iv.two.fb _ (hc _ z) (by simp [Fx])
  have f10 := k1.2 _ _ iv.t10 fun z => iv.two.fb _ (hc _ z) (by simp [Fx])
  obtain ⟨t2, e2, _⟩ := emptied_ok ha1 (by omega)
  rw [iv.bo, iv.bgs] at e1
  rw [iv.ao, iv.ags] at e2
  refine ⟨t2, mDef_rt ?_⟩
  rw [b_law_eq]
  refine step (sl' := [some (.ref 0), some (.ref 7), none, none, none, none, none, none]) (by rfl) (step (by rfl) (step (by rfl) (step e (mRet_ok ?_))))
  have q1 : mCall m__law_emptied [(mBin gIx (mVar 1) (mC (.int 1))), (mBin gIx (mVar 2) (mC (.int 1)))] (fr o4 o5 o6 o7) t' = .ok (.bl true) t1 := mCall_ok (mAs_cons (ix_ok (j := 1) (mVar_ok rfl) (by rfl) iv.t7 rfl) (mAs_one (ix_ok (j := 1) (mVar_ok rfl) (by rfl) iv.t10 rfl))) e1
  have q2 : mCall m__law_emptied [(mBin gIx (mVar 1) (mC (.int 0))), (mBin gIx (mVar 2) (mC (.int 0)))] (fr o4 o5 o6 o7) t1 = .ok (.bl true) t2 := mCall_ok (mAs_cons (ix_ok (j := 0) (mVar_ok rfl) (by rfl) f7 rfl) (mAs_one (ix_ok (j := 0) (mVar_ok rfl) (by rfl) f10 rfl))) e2
  unfold mAndV
  rw [q1, Out.bind_ok]
  exact q2
end K19

open PySem PySem.W PyProof.Rows
set_option maxRecDepth 100000 in
set_option maxHeartbeats 0 in
theorem PySem.Challenge.cw_twotabs_k19_log_shared_holds : PySem.Challenge.rw_twotabs_k19_log_shared.Holds := by
  w_on; o_law; k_head; (case hw => w_witness2)
  k_fill
  refine Mn.walk_scr (l := PySem.Challenge.rw_twotabs_k19_log_shared) (x := "_law_script") (k := 4) rfl rfl ⟨rfl, by decide, by decide⟩ (fun w h Y => PySem.W.kIn_of Y) ?F
  case F =>
    intro w mg fa h KX G hmg
    refine' K19.all_mk KX G hmg ?a_Log___init__ ?l_Log___init__ ?c_Log___init__ ?k_Log___init__ ?i_Log___init__ ?a_Log_forget ?l_Log_forget ?c_Log_forget ?k_Log_forget ?i_Log_forget ?a_Log_add ?l_Log_add ?c_Log_add ?k_Log_add ?i_Log_add ?a__law_changed ?l__law_changed ?c__law_changed ?k__law_changed ?a__law_entry ?l__law_entry ?c__law_entry ?k__law_entry ?a_Log_again ?l_Log_again ?c_Log_again ?k_Log_again ?i_Log_again ?a_Log_undo ?l_Log_undo ?c_Log_undo ?k_Log_undo ?i_Log_undo ?a__law_turned ?l__law_turned ?c__law_turned ?k__law_turned ?a__law_deed ?l__law_deed ?c__law_deed ?k__law_deed ?a__law_emptied ?l__law_emptied ?c__law_emptied ?k__law_emptied ?a__law_mixed ?l__law_mixed ?c__law_mixed ?k__law_mixed ?a_Log_many ?l_Log_many ?c_Log_many ?k_Log_many ?i_Log_many ?a_Log_touched ?l_Log_touched ?c_Log_touched ?k_Log_touched ?i_Log_touched ?a__law_marks ?l__law_marks ?c__law_marks ?k__law_marks ?a__law_told ?l__law_told ?c__law_told ?k__law_told ?a_law ?l_law ?c_law ?k_law ?xg_NoDeed ?xx_NoDeed ?xk_NoDeed ?xb_NoDeed ?xt_NoDeed ?xg_DraftError ?xb_DraftError ?xt_DraftError ?xi_DraftError ?xs_NoDeed_DraftError ?cg_Log ?cp_Log ?ch_Log ?co_Log ?cs_Log ?cm_Log ?ck_Log ?n_Log_standing ?n_Log_undone ?z_enumerate ?z_len ?z_list ?z_range ?z_set ?z_sorted K19.law_ok
    (case xg_NoDeed => k_is)
    (case xg_DraftError => k_is)
    (case cg_Log => k_is)
    (case a_Log___init__ => k_is)
    (case l_Log___init__ => k_is)
    (case c_Log___init__ => k_is)
    (case k_Log___init__ => k_is)
    (case i_Log___init__ => k_is)
    (case a_Log_forget => k_is)
    (case l_Log_forget => k_is)
    (case c_Log_forget => k_is)
    (case k_Log_forget => k_is)
    (case i_Log_forget => k_is)
    (case a_Log_add => k_is)
    (case l_Log_add => k_is)
    (case c_Log_add => k_is)
    (case k_Log_add => k_is)
    (case i_Log_add => k_is)
    (case a__law_changed => k_is)
    (case l__law_changed => k_is)
    (case c__law_changed => k_is)
    (case k__law_changed => k_is)
    (case a__law_entry => k_is)
    (case l__law_entry => k_is)
    (case c__law_entry => k_is)
    (case k__law_entry => k_is)
    (case a_Log_again => k_is)
    (case l_Log_again => k_is)
    (case c_Log_again => k_is)
    (case k_Log_again => k_is)
    (case i_Log_again => k_is)
    (case a_Log_undo => k_is)
    (case l_Log_undo => k_is)
    (case c_Log_undo => k_is)
    (case k_Log_undo => k_is)
    (case i_Log_undo => k_is)
    (case a__law_turned => k_is)
    (case l__law_turned => k_is)
    (case c__law_turned => k_is)
    (case k__law_turned => k_is)
    (case a__law_deed => k_is)
    (case l__law_deed => k_is)
    (case c__law_deed => k_is)
    (case k__law_deed => k_is)
    (case a__law_emptied => k_is)
    (case l__law_emptied => k_is)
    (case c__law_emptied => k_is)
    (case k__law_emptied => k_is)
    (case a__law_mixed => k_is)
    (case l__law_mixed => k_is)
    (case c__law_mixed => k_is)
    (case k__law_mixed => k_is)
    (case a_Log_many => k_is)
    (case l_Log_many => k_is)
    (case c_Log_many => k_is)
    (case k_Log_many => k_is)
    (case i_Log_many => k_is)
    (case a_Log_touched => k_is)
    (case l_Log_touched => k_is)
    (case c_Log_touched => k_is)
    (case k_Log_touched => k_is)
    (case i_Log_touched => k_is)
    (case a__law_marks => k_is)
    (case l__law_marks => k_is)
    (case c__law_marks => k_is)
    (case k__law_marks => k_is)
    (case a__law_told => k_is)
    (case l__law_told => k_is)
    (case c__law_told => k_is)
    (case k__law_told => k_is)
    (case a_law => k_is)
    (case l_law => k_is)
    (case c_law => k_is)
    (case k_law => k_is)
    (case xx_NoDeed => k_exc)
    (case xk_NoDeed => k_is)
    (case xb_NoDeed => k_is)
    (case xt_NoDeed => k_is)
    (case xb_DraftError => k_is)
    (case xt_DraftError => k_is)
    (case xi_DraftError => k_is)
    (case xs_NoDeed_DraftError => k_is)
    (case cp_Log => k_is)
    (case ch_Log => k_is)
    (case co_Log => k_is)
    (case cs_Log => k_is)
    (case cm_Log => k_is)
    (case ck_Log => k_is)
    (case n_Log_standing => k_is)
    (case n_Log_undone => k_is)
    (case z_enumerate => k_is)
    (case z_len => k_is)
    (case z_list => k_is)
    (case z_range => k_is)
    (case z_set => k_is)
    (case z_sorted => k_is)

